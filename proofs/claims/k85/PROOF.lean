import PyProof.Rows.All
import Wide.All
import OpenK.AllK
import Wide.FinOn
import PySem.Str
import HandS.ForMost
import HandS.ForExc
import HandS.TryMany
import HandS.Lambda
import HandS.Deep
import HandS.TupAny
import HandS.IsInst
import HandS.Style
import HandS.Conv
import HandS.SortInts
import KE.GoesMore
import KE.GoesEnum
import HandS.SetFor
import HandS.OwnEq
import KE.KExcSuper
import HandS.ExcInit
import HandS.ExcField
import PyProof.ReprRoads
import HandS.EndTab
import HandS.Words
import PySem.Challenge.RW_swaprise_k85_whole_room_papers_judged
section
/-! PCore: values, states and the functional reading of a small Python (our own). -/
namespace Py
open PySem (Str)

inductive D where
  | non
  | bl (b : Bool)
  | int (i : Int)
  | str (x : Str)
  | tup (xs : List D)
  | lst (xs : List D)
  | ins (c : Nat) (fs : List (Str × D))
  deriving Inhabited

inductive Vl where
  | d (x : D)
  | new (xs : List D)
  | ro (xs : List D)
  | box (n : Nat)
  | lam (j : Nat)
  | lams (js : List Nat)
  deriving Inhabited

inductive Bx where
  | lst (xs : List D)
  | dct (kvs : List (Sum Int Str × D))
  | ins (c : Nat) (fs : List (Str × D))
  | dead
  deriving Inhabited

abbrev Sto := List Bx
abbrev Slots := List (Option Vl)

structure Xn where
  cls : Nat
  fs : List (Str × D)
  deriving Inhabited

inductive Rs (α : Type) where
  | ok (a : α) (S : Sto)
  | exc (x : Xn) (S : Sto)
  | bad
  deriving Inhabited

inductive Ou where
  | nx (env : Slots) (S : Sto)
  | rt (v : Vl) (S : Sto)
  | bk (env : Slots) (S : Sto)
  | ct (env : Slots) (S : Sto)
  | exc (x : Xn) (S : Sto)
  | bad
  deriving Inhabited

structure Cxt where
  rp : D → Option Str
  call : Nat → List Vl → Sto → Rs Vl
  callA : Nat → (Sto → Rs Vl) → Sto → Rs Vl
  lam : Nat → Slots → Sto → Rs Vl
  act : Sto → Rs Vl

abbrev EF := Cxt → Slots → Sto → Rs Vl
abbrev SF := Cxt → Slots → Sto → Ou

@[inline] def Rs.bind {α β : Type} (r : Rs α) (f : α → Sto → Rs β) : Rs β :=
  match r with
  | .ok a S => f a S
  | .exc x S => .exc x S
  | .bad => .bad

/-- an expression's value, then a statement's outcome -/
@[inline] def Rs.out {α : Type} (r : Rs α) (f : α → Sto → Ou) : Ou :=
  match r with
  | .ok a S => f a S
  | .exc x S => .exc x S
  | .bad => .bad

def Vl.frz : Vl → Vl
  | .new xs => .d (.lst xs)
  | v => v

/-- with the new list frozen -/
def fz (f : EF) : EF := fun C env S => (f C env S).bind fun v S1 => .ok v.frz S1

/-! ### plain data -/
mutual
def D.plain : D → Bool
  | .tup xs => D.plains xs
  | .lst xs => D.plains xs
  | .ins _ _ => false
  | _ => true
def D.plains : List D → Bool
  | [] => true
  | x :: xs => x.plain && D.plains xs
end
mutual
def D.depth : D → Nat
  | .tup xs => D.depths xs + 1
  | .lst xs => D.depths xs + 1
  | _ => 0
def D.depths : List D → Nat
  | [] => 0
  | x :: xs => max x.depth (D.depths xs)
end
/-- a text's signs lie below the line -/
def sOk (x : Str) : Bool := x.cps.all fun c => decide (c < 1114112)
mutual
def D.txtOk : D → Bool
  | .str x => sOk x
  | .tup xs => D.txtOks xs
  | .lst xs => D.txtOks xs
  | _ => true
def D.txtOks : List D → Bool
  | [] => true
  | x :: xs => x.txtOk && D.txtOks xs
end
def D.cmpOk (x : D) : Bool := x.plain && x.txtOk && decide (x.depth ≤ 60)
mutual
def D.eqv : D → D → Bool
  | .non, .non => true
  | .bl a, .bl b => a == b
  | .bl a, .int j => (if a then 1 else 0) == j
  | .int i, .bl b => i == (if b then 1 else 0)
  | .int i, .int j => i == j
  | .str x, .str y => x == y
  | .lst xs, .lst ys => D.eqvs xs ys
  | .tup xs, .tup ys => D.eqvs xs ys
  | _, _ => false
def D.eqvs : List D → List D → Bool
  | [], [] => true
  | x :: xs, y :: ys => D.eqv x y && D.eqvs xs ys
  | _, _ => false
end

/-! ### reading sequences -/
def seqOf (v : Vl) (S : Sto) : Option (List D) :=
  match v with
  | .d (.lst xs) => some xs
  | .d (.tup xs) => some xs
  | .new xs => some xs
  | .ro xs => some xs
  | .box n => match S[n]? with
    | some (.lst xs) => some xs
    | _ => none
  | _ => none
def isLst (v : Vl) (S : Sto) : Bool :=
  match v with
  | .d (.lst _) => true
  | .new _ => true
  | .ro _ => true
  | .box n => match S[n]? with
    | some (.lst _) => true
    | _ => false
  | _ => false

/-- the index i of n places, Python's way -/
def ixOf (n : Nat) (i : Int) : Option Nat :=
  if 0 ≤ i then (if i < n then some i.toNat else none) else if -(n : Int) ≤ i then some (i + n).toNat else none
/-- a slice's bound -/
def slIx (n d : Nat) : Option Int → Nat
  | none => d
  | some i => if i < 0 then (i + n).toNat else min i.toNat n
def cut {α : Type} (xs : List α) (lo hi : Option Int) : List α := (xs.drop (slIx xs.length 0 lo)).take (slIx xs.length xs.length hi - slIx xs.length 0 lo)

/-! ### expressions -/
def eVar (i : Nat) : EF := fun _ env S => match env[i]? with
  | some (some v) => .ok v S
  | _ => .bad
/-- the boxed list at i, frozen for good -/
def eTake (i : Nat) : EF := fun _ env S => match env[i]? with
  | some (some (.box n)) => match S[n]? with
    | some (.lst xs) => .ok (.d (.lst xs)) (S.set n .dead)
    | _ => .bad
  | _ => .bad
def eC (x : D) : EF := fun _ _ S => .ok (.d x) S
def eLam (j : Nat) : EF := fun _ _ S => .ok (.lam j) S

inductive Bin where
  | add | sub | mul | fdiv | mod | pow
def mulOk (i j : Int) : Bool := (decide (-(2 ^ 64) < i) && decide (i < 2 ^ 64)) || (decide (-(2 ^ 64) < j) && decide (j < 2 ^ 64))
def binInt : Bin → Int → Int → Option Int
  | .add, i, j => some (i + j)
  | .sub, i, j => some (i - j)
  | .mul, i, j => if mulOk i j then some (i * j) else none
  | .fdiv, i, j => if j ≠ 0 ∧ j.natAbs < 1073741824 then some (i.fdiv j) else none
  | .mod, i, j => if j ≠ 0 then some (i.fmod j) else none
  | .pow, i, j => if 0 ≤ j ∧ j ≤ 1000000 ∧ i.natAbs < 2 ^ 64 then some (i ^ j.toNat) else none
def sizeCap : Nat := 16777216
/-- an operator upon two values -/
def binV (op : Bin) (a b : Vl) (S : Sto) : Rs Vl :=
  match a, b with
  | .d (.int i), .d (.int j) => match binInt op i j with
    | some k => .ok (.d (.int k)) S
    | none => .bad
  | .d (.lst xs), .d (.lst ys) => match op with
    | .add => if xs.length + ys.length ≤ sizeCap then .ok (.new (xs ++ ys)) S else .bad
    | _ => .bad
  | .d (.lst xs), .d (.int k) => match op with
    | .mul => if -(2 ^ 63) ≤ k ∧ k < 2 ^ 63 ∧ xs.length * k.toNat ≤ sizeCap then .ok (.new (List.replicate k.toNat xs).flatten) S else .bad
    | _ => .bad
  | .d (.tup xs), .d (.tup ys) => match op with
    | .add => if xs.length + ys.length ≤ sizeCap then .ok (.d (.tup (xs ++ ys))) S else .bad
    | _ => .bad
  | _, _ => .bad
/-- a boxed list read as a list -/
def Vl.unbox (v : Vl) (S : Sto) : Vl :=
  match v with
  | .box n => match S[n]? with
    | some (.lst xs) => .d (.lst xs)
    | _ => v
  | v => v
def eBin (op : Bin) (f g : EF) : EF := fun C env S => (fz f C env S).bind fun a S1 => (fz g C env S1).bind fun b S2 => binV op (a.unbox S2) (b.unbox S2) S2
def eNeg (f : EF) : EF := fun C env S => (fz f C env S).bind fun a S1 => match a with
  | .d (.int i) => .ok (.d (.int (-i))) S1
  | _ => .bad
def eNot (f : EF) : EF := fun C env S => (fz f C env S).bind fun a S1 => match a with
  | .d (.bl b) => .ok (.d (.bl (!b))) S1
  | _ => .bad
def eAnd (f g : EF) : EF := fun C env S => (fz f C env S).bind fun a S1 => match a with
  | .d (.bl true) => g C env S1
  | .d (.bl false) => .ok (.d (.bl false)) S1
  | _ => .bad
def eOr (f g : EF) : EF := fun C env S => (fz f C env S).bind fun a S1 => match a with
  | .d (.bl true) => .ok (.d (.bl true)) S1
  | .d (.bl false) => g C env S1
  | _ => .bad
def eIf (c f g : EF) : EF := fun C env S => (fz c C env S).bind fun a S1 => match a with
  | .d (.bl true) => f C env S1
  | .d (.bl false) => g C env S1
  | _ => .bad

inductive Cmp where
  | lt | le | gt | ge | eq | ne | isIn | notIn
def cmpInt : Cmp → Int → Int → Bool
  | .lt, i, j => decide (i < j)
  | .le, i, j => decide (i ≤ j)
  | .gt, i, j => decide (j < i)
  | .ge, i, j => decide (j ≤ i)
  | _, _, _ => false
def Vl.int? : Vl → Option Int
  | .d (.int i) => some i
  | _ => none
def cmpI (op : Cmp) (a b : Vl) (S : Sto) : Rs Vl :=
  match a.int?, b.int? with
  | some i, some j => .ok (.d (.bl (cmpInt op i j))) S
  | _, _ => .bad
/-- a comparison of two values (own classes' == apart) -/
def cmpV (op : Cmp) (a b : Vl) (S : Sto) : Rs Vl :=
  match op with
  | .eq => match a.unbox S, b.unbox S with
    | .d x, .d y => if x.cmpOk && y.cmpOk then .ok (.d (.bl (x.eqv y))) S else .bad
    | _, _ => .bad
  | .ne => match a.unbox S, b.unbox S with
    | .d x, .d y => if x.cmpOk && y.cmpOk then .ok (.d (.bl (!x.eqv y))) S else .bad
    | _, _ => .bad
  | .isIn => match a.unbox S, seqOf b S with
    | .d x, some ys => if x.cmpOk && ys.all D.cmpOk then .ok (.d (.bl (ys.any fun y => y.eqv x))) S else .bad
    | _, _ => .bad
  | .notIn => match a.unbox S, seqOf b S with
    | .d x, some ys => if x.cmpOk && ys.all D.cmpOk then .ok (.d (.bl (!ys.any fun y => y.eqv x))) S else .bad
    | _, _ => .bad
  | op => cmpI op a b S
def eCmp (op : Cmp) (f g : EF) : EF := fun C env S => (fz f C env S).bind fun a S1 => (fz g C env S1).bind fun b S2 => cmpV op a b S2
/-- a op b op' c -/
def eChain (op op' : Cmp) (f g h : EF) : EF := fun C env S => (fz f C env S).bind fun a S1 => (fz g C env S1).bind fun b S2 => (cmpV op a b S2).bind fun r S3 => match r with
  | .d (.bl true) => (fz h C env S3).bind fun c S4 => cmpV op' b c S4
  | .d (.bl false) => .ok (.d (.bl false)) S3
  | _ => .bad
def eIsNone (neg : Bool) (f : EF) : EF := fun C env S => (fz f C env S).bind fun a S1 => match a with
  | .d .non => .ok (.d (.bl (!neg))) S1
  | .d _ => .ok (.d (.bl neg)) S1
  | _ => .bad
inductive Ty where
  | int | bool | str | list | tuple | cls (c : Nat)
inductive Kd where
  | non | bl | int | str | tup | lst | ins (c : Nat)
def kdOf : D → Kd
  | .non => .non
  | .bl _ => .bl
  | .int _ => .int
  | .str _ => .str
  | .tup _ => .tup
  | .lst _ => .lst
  | .ins c _ => .ins c
def kdIs : Ty → Kd → Bool
  | .int, .int => true
  | .int, .bl => true
  | .bool, .bl => true
  | .str, .str => true
  | .list, .lst => true
  | .tuple, .tup => true
  | .cls c, .ins c' => c == c'
  | _, _ => false
def kdOk (cs : List Nat) : Kd → Bool
  | .ins c => cs.contains c
  | _ => true
def isTys (ts : List Ty) (k : Kd) : Bool := ts.any fun t => kdIs t k
/-- isinstance(e, one class or several); cs: the own classes that may come -/
def eIsInst (cs : List Nat) (ts : List Ty) (f : EF) : EF := fun C env S => (fz f C env S).bind fun a S1 => match a.unbox S1 with
  | .d x => if kdOk cs (kdOf x) then .ok (.d (.bl (isTys ts (kdOf x)))) S1 else .bad
  | _ => .bad

/-- == where the left one is of an own class whose __eq__ is the def m of it -/
def eEqOwn (cs : List Nat) (m : Nat → Option Nat) (f g : EF) : EF := fun C env S => (fz f C env S).bind fun a S1 => (fz g C env S1).bind fun b S2 => match a, b with
  | .d (.ins c fs), .d y => if kdOk cs (.ins c) && kdOk cs (kdOf y) then match m c with
    | some q => match C.call q [.d (.ins c fs), .d y] S2 with
      | .ok (.d (.bl r)) S3 => .ok (.d (.bl r)) S3
      | _ => .bad
    | none => .bad
    else .bad
  | _, _ => .bad

/-- arguments from the left -/
def evAll : List EF → Cxt → Slots → Sto → Rs (List Vl)
  | [], _, _, S => .ok [] S
  | f :: fs, C, env, S => (fz f C env S).bind fun v S1 => (evAll fs C env S1).bind fun vs S2 => .ok (v :: vs) S2
def toDs : List Vl → Option (List D)
  | [] => some []
  | .d x :: vs => (toDs vs).map (x :: ·)
  | _ :: _ => none
def eTup (fs : List EF) : EF := fun C env S => (evAll fs C env S).bind fun vs S1 => match toDs vs with
  | some ds => if ds.length ≤ sizeCap then .ok (.d (.tup ds)) S1 else .bad
  | none => .bad
def eLst (fs : List EF) : EF := fun C env S => (evAll fs C env S).bind fun vs S1 => match toDs vs with
  | some ds => if ds.length ≤ sizeCap then .ok (.new ds) S1 else .bad
  | none => .bad
def eLams (js : List Nat) : EF := fun _ _ S => .ok (.lams js) S

def ixV (a b : Vl) (S : Sto) : Rs Vl :=
  match b.int?, seqOf a S with
  | some i, some xs => match ixOf xs.length i with
    | some k => match xs[k]? with
      | some x => .ok (.d x) S
      | none => .bad
    | none => .bad
  | _, _ => .bad
def eIx (f g : EF) : EF := fun C env S => (fz f C env S).bind fun a S1 => (fz g C env S1).bind fun b S2 => ixV a b S2
def getK (k : Sum Int Str) : List (Sum Int Str × D) → Option D
  | [] => none
  | (k', x) :: r => if k' = k then some x else getK k r
/-- d['k'] of a boxed dict -/
def eKey (f : EF) (k : Str) : EF := fun C env S => (fz f C env S).bind fun a S1 => match a with
  | .box n => match S1[n]? with
    | some (.dct kvs) => match getK (.inr k) kvs with
      | some x => .ok (.d x) S1
      | none => .bad
    | _ => .bad
  | _ => .bad
/-- a part of a slice -/
def evPart (f : Option EF) (C : Cxt) (env : Slots) (S : Sto) : Rs (Option Int) :=
  match f with
  | none => .ok none S
  | some f => (fz f C env S).bind fun a S1 => match a with
    | .d (.int i) => .ok (some i) S1
    | _ => .bad
def eSlice (f : EF) (lo hi : Option EF) : EF := fun C env S => (fz f C env S).bind fun a S1 => (evPart lo C env S1).bind fun l S2 => (evPart hi C env S2).bind fun h S3 => match a.unbox S3 with
  | .d (.lst xs) => .ok (.new (cut xs l h)) S3
  | .d (.tup xs) => .ok (.d (.tup (cut xs l h))) S3
  | _ => .bad
/-- xs[::-1] -/
def eRev (f : EF) : EF := fun C env S => (fz f C env S).bind fun a S1 => match a.unbox S1 with
  | .d (.lst xs) => .ok (.new xs.reverse) S1
  | .d (.tup xs) => .ok (.d (.tup xs.reverse)) S1
  | _ => .bad
def eFld (cs : List Nat) (f : EF) (n : Str) : EF := fun C env S => (fz f C env S).bind fun a S1 => match a with
  | .d (.ins c fs) => if cs.contains c then match fs.lookup n with
    | some x => .ok (.d x) S1
    | none => .bad
    else .bad
  | _ => .bad
def argOk : Vl → Bool
  | .d _ => true
  | .box _ => true
  | .ro _ => true
  | _ => false
def eCall (q : Nat) (fs : List EF) : EF := fun C env S => (evAll fs C env S).bind fun vs S1 => if vs.all argOk then C.call q vs S1 else .bad
/-- the slots that a lambda may read: boxes are hidden from it -/
def noBox (env : Slots) : Slots := env.map fun o => match o with
  | some (.box _) => none
  | o => o
/-- q(lambda ..) -/
def eCallA (q j : Nat) : EF := fun C env S => C.callA q (fun S' => C.lam j (noBox env) S') S
/-- the parameter that holds a lambda, called -/
def eAct (i : Nat) : EF := fun C env S => match env[i]? with
  | some (some (.lam _)) => match C.act S with
    | .ok (.d x) S1 => .ok (.d x) S1
    | .exc x S1 => .exc x S1
    | _ => .bad
  | _ => .bad
/-- repr(e) -/
def eRepr (f : EF) : EF := fun C env S => (fz f C env S).bind fun v S1 => match v with
  | .d x => match C.rp x with
    | some y => .ok (.d (.str y)) S1
    | none => .bad
  | _ => .bad
/-- c(..): an instance, then its __init__, the def q -/
def eMake (c q : Nat) (fs : List EF) : EF := fun C env S => (evAll fs C env S).bind fun vs S1 => if vs.all argOk then
    match C.call q (.box S1.length :: vs) (S1 ++ [.ins c []]) with
    | .ok (.d .non) S2 => match S2[S1.length]? with
      | some (.ins c' xs) => if c' = c then .ok (.d (.ins c xs)) (S2.take S1.length) else .bad
      | _ => .bad
    | _ => .bad
  else .bad

/-! ### built-ins -/
inductive Bi where
  | len | list | tuple | int1 | min2 | max2 | all | any | sum | sorted | lenSet | sortedSet | reprOf | absInt | maxL | minL
def boolsOf : List D → Option (List Bool)
  | [] => some []
  | .bl b :: xs => (boolsOf xs).map (b :: ·)
  | _ :: _ => none
def intsOf : List D → Option (List Int)
  | [] => some []
  | .int i :: xs => (intsOf xs).map (i :: ·)
  | _ :: _ => none
def insInt (i : Int) : List Int → List Int
  | [] => [i]
  | j :: r => if i ≤ j then i :: j :: r else j :: insInt i r
def sortInts : List Int → List Int
  | [] => []
  | i :: r => insInt i (sortInts r)
def firstMet : List Int → List Int → List Int
  | _, [] => []
  | seen, i :: r => if seen.contains i then firstMet seen r else i :: firstMet (i :: seen) r
def rangeD (lo : Int) (n : Nat) : List D := (List.range n).map fun (k : Nat) => D.int (lo + (k : Int))
def rngOk (i : Int) : Bool := decide (-(2 ^ 62) ≤ i) && decide (i < 2 ^ 62)

/-- repr -/
def natDigits (fuel n : Nat) (acc : List Nat) : List Nat :=
  match fuel with
  | 0 => acc
  | k + 1 => if n < 10 then (48 + n) :: acc else natDigits k (n / 10) ((48 + n % 10) :: acc)

def biV (b : Bi) (vs : List Vl) (S : Sto) : Rs Vl :=
  match b, vs with
  | .len, [v] => match seqOf v S with
    | some xs => .ok (.d (.int xs.length)) S
    | none => .bad
  | .list, [v] => match seqOf v S with
    | some xs => .ok (.new xs) S
    | none => .bad
  | .tuple, [v] => match seqOf v S with
    | some xs => .ok (.d (.tup xs)) S
    | none => .bad
  | .int1, [.d (.int i)] => .ok (.d (.int i)) S
  | .min2, [.d (.int i), .d (.int j)] => .ok (.d (.int (if j < i then j else i))) S
  | .max2, [.d (.int i), .d (.int j)] => .ok (.d (.int (if j > i then j else i))) S
  | .all, [v] => match (seqOf v S).bind boolsOf with
    | some bs => if isLst v S then .ok (.d (.bl (bs.all id))) S else .bad
    | none => .bad
  | .any, [v] => match (seqOf v S).bind boolsOf with
    | some bs => if isLst v S then .ok (.d (.bl (bs.any id))) S else .bad
    | none => .bad
  | .sum, [v] => match (seqOf v S).bind intsOf with
    | some is => if isLst v S then .ok (.d (.int is.sum)) S else .bad
    | none => .bad
  | .sorted, [v] => match (seqOf v S).bind intsOf with
    | some is => .ok (.new ((sortInts is).map .int)) S
    | none => .bad
  | .lenSet, [v] => match (seqOf v S).bind intsOf with
    | some is => if is.length ≤ 1000 then .ok (.d (.int (firstMet [] is).length)) S else .bad
    | none => .bad
  | .sortedSet, [v] => match (seqOf v S).bind intsOf with
    | some is => if is.length ≤ 60 then .ok (.new ((sortInts (firstMet [] is)).map .int)) S else .bad
    | none => .bad
  | _, _ => .bad
def eBi (b : Bi) (fs : List EF) : EF := fun C env S => (evAll fs C env S).bind fun vs S1 => biV b vs S1

/-- list(range(..)), tuple(range(..)) -/
def mkSeq (tup : Bool) (xs : List D) : Vl := if tup then .d (.tup xs) else .new xs
def rg1V (tup : Bool) (v : Vl) (S : Sto) : Rs Vl :=
  match v with
  | .d (.int j) => if rngOk j ∧ j ≤ 10000000 then .ok (mkSeq tup (rangeD 0 j.toNat)) S else .bad
  | _ => .bad
def rg2V (tup : Bool) (v u : Vl) (S : Sto) : Rs Vl :=
  match v.int?, u.int? with
  | some i, some j => if rngOk i ∧ rngOk j ∧ j - i ≤ 10000000 then .ok (mkSeq tup (rangeD i (j - i).toNat)) S else .bad
  | _, _ => .bad
def eRng1 (tup : Bool) (f : EF) : EF := fun C env S => (fz f C env S).bind fun v S1 => rg1V tup v S1
def eRng2 (tup : Bool) (f g : EF) : EF := fun C env S => (fz f C env S).bind fun v S1 => (fz g C env S1).bind fun u S2 => rg2V tup v u S2

/-! ### built-in methods -/
inductive Mt where
  | append | pop | popAt | index | remove | count | extend
def putAt (S : Sto) (n : Nat) (o : Bx) : Sto := S.set n o
def mtV (m : Mt) (o : Vl) (vs : List Vl) (S : Sto) : Rs Vl :=
  match m, o, vs with
  | .append, .box n, [.d x] => match S[n]? with
    | some (.lst xs) => if xs.length < sizeCap then .ok (.d .non) (S.set n (.lst (xs ++ [x]))) else .bad
    | _ => .bad
  | .pop, .box n, [] => match S[n]? with
    | some (.lst xs) => match xs[xs.length - 1]? with
      | some y => .ok (.d y) (S.set n (.lst xs.dropLast))
      | none => .bad
    | _ => .bad
  | .popAt, .box n, [.d (.int i)] => match S[n]? with
    | some (.lst xs) => if -(2 ^ 63) ≤ i ∧ i < 2 ^ 63 then match ixOf xs.length i with
        | some k => match xs[k]? with
          | some y => .ok (.d y) (S.set n (.lst (xs.eraseIdx k)))
          | none => .bad
        | none => .bad
      else .bad
    | _ => .bad
  | .index, v, [.d (.int i)] => match (seqOf v S).bind intsOf with
    | some is => if is.contains i && isLst v S then .ok (.d (.int (is.findIdx (· == i)))) S else .bad
    | none => .bad
  | _, _, _ => .bad
def eMt (m : Mt) (f : EF) (fs : List EF) : EF := fun C env S => (fz f C env S).bind fun o S1 => if isLst o S1 then (evAll fs C env S1).bind fun vs S2 => mtV m o vs S2 else .bad

/-! ### what is walked -/
inductive Src where
  | seq (f : EF)
  | range1 (f : EF)
  | range2 (f g : EF)
  | enum (f : EF)
def enumD : Nat → List D → List D
  | _, [] => []
  | i, x :: xs => .tup [.int i, x] :: enumD (i + 1) xs
def srcV : Src → Cxt → Slots → Sto → Rs (List D)
  | .seq f, C, env, S => (fz f C env S).bind fun v S1 => match v with
    | .d (.lst xs) => .ok xs S1
    | .d (.tup xs) => .ok xs S1
    | .ro xs => .ok xs S1
    | _ => .bad
  | .range1 f, C, env, S => (fz f C env S).bind fun v S1 => match v with
    | .d (.int j) => if rngOk j then .ok (rangeD 0 j.toNat) S1 else .bad
    | _ => .bad
  | .range2 f g, C, env, S => (fz f C env S).bind fun v S1 => (fz g C env S1).bind fun u S2 => match v, u with
    | .d (.int i), .d (.int j) => if rngOk i && rngOk j then .ok (rangeD i (j - i).toNat) S2 else .bad
    | _, _ => .bad
  | .enum f, C, env, S => (fz f C env S).bind fun v S1 => match v with
    | .d (.lst xs) => .ok (enumD 0 xs) S1
    | .d (.tup xs) => .ok (enumD 0 xs) S1
    | _ => .bad

/-- targets: a name, or names -/
inductive Tg where
  | name (i : Nat)
  | names (is : List Nat)
def bindNames : List Nat → List D → Slots → Option Slots
  | [], [], env => some env
  | i :: is, x :: xs, env => bindNames is xs (env.set i (some (.d x)))
  | _, _, _ => none
def tgV (t : Tg) (x : D) (env : Slots) : Option Slots :=
  match t with
  | .name i => some (env.set i (some (.d x)))
  | .names is => match x with
    | .tup xs => bindNames is xs env
    | _ => none

def wipeE (own : List Nat) (env : Slots) : Slots :=
  match own with
  | [] => env
  | i :: is => (wipeE is env).set i none

/-- the turns of a comprehension with one clause: c the test, f the element -/
def compGo (t : Tg) (c : Option EF) (f : EF) (C : Cxt) (env : Slots) : List D → List D → Sto → Rs (List D)
  | [], acc, S => .ok acc S
  | x :: xs, acc, S => match tgV t x env with
    | none => .bad
    | some env1 =>
      match c with
      | none => match fz f C env1 S with
        | .ok (.d y) S1 => if acc.length < sizeCap then compGo t c f C env xs (acc ++ [y]) S1 else .bad
        | _ => .bad
      | some c' => match fz c' C env1 S with
        | .ok (.d (.bl true)) S0 => match fz f C env1 S0 with
          | .ok (.d y) S1 => if acc.length < sizeCap then compGo t c f C env xs (acc ++ [y]) S1 else .bad
          | _ => .bad
        | .ok (.d (.bl false)) S0 => compGo t c f C env xs acc S0
        | _ => .bad
def eComp (own : List Nat) (s : Src) (t : Tg) (c : Option EF) (f : EF) : EF := fun C env S =>
  (srcV s C env S).bind fun xs S1 => (compGo t c f C (wipeE own env) xs [] S1).bind fun ys S2 => .ok (.new ys) S2
/-- .. with two clauses -/
def compGo2 (own1 : List Nat) (t : Tg) (s1 : Src) (t1 : Tg) (c : Option EF) (f : EF) (C : Cxt) (env : Slots) : List D → List D → Sto → Rs (List D)
  | [], acc, S => .ok acc S
  | x :: xs, acc, S => match tgV t x env with
    | none => .bad
    | some env1 => match srcV s1 C env1 S with
      | .ok ys S1 => match compGo t1 c f C (wipeE own1 env1) ys acc S1 with
        | .ok acc' S2 => compGo2 own1 t s1 t1 c f C env xs acc' S2
        | _ => .bad
      | _ => .bad
def eComp2 (own own1 : List Nat) (s : Src) (t : Tg) (s1 : Src) (t1 : Tg) (c : Option EF) (f : EF) : EF := fun C env S =>
  (srcV s C env S).bind fun xs S1 => (compGo2 own1 t s1 t1 c f C (wipeE own env) xs [] S1).bind fun ys S2 => .ok (.new ys) S2

/-! ### statements -/
def sNext : SF := fun _ env S => .nx env S
def sSeq (a b : SF) : SF := fun C env S => match a C env S with
  | .nx env1 S1 => b C env1 S1
  | o => o
def sPass : SF := sNext
def sBreak : SF := fun _ env S => .bk env S
def sCont : SF := fun _ env S => .ct env S
def sExpr (f : EF) : SF := fun C env S => (fz f C env S).out fun _ S1 => .nx env S1
def sRet (f : EF) : SF := fun C env S => (fz f C env S).out fun v S1 => .rt v S1
def sRetN : SF := fun _ _ S => .rt (.d .non) S
def sIf (c : EF) (a b : SF) : SF := fun C env S => (fz c C env S).out fun v S1 => match v with
  | .d (.bl true) => a C env S1
  | .d (.bl false) => b C env S1
  | _ => .bad
def sSet (i : Nat) (f : EF) : SF := fun C env S => (fz f C env S).out fun v S1 => .nx (env.set i (some v)) S1
/-- a new list that this def goes on to change -/
def sBox (i : Nat) (f : EF) : SF := fun C env S => (f C env S).out fun v S1 => match v with
  | .new xs => .nx (env.set i (some (.box S1.length))) (S1 ++ [.lst xs])
  | _ => .bad
def sUnpack (is : List Nat) (f : EF) : SF := fun C env S => (fz f C env S).out fun v S1 => match v with
  | .d (.tup xs) => match bindNames is xs env with
    | some env1 => .nx env1 S1
    | none => .bad
  | .d (.lst xs) => match bindNames is xs env with
    | some env1 => .nx env1 S1
    | none => .bad
  | _ => .bad
/-- one side of a, b = e, e' -/
def parV (boxed : Bool) (f : EF) : EF := fun C env S => if boxed then (f C env S).bind fun v S1 => match v with
    | .new xs => .ok (.box S1.length) (S1 ++ [.lst xs])
    | _ => .bad
  else fz f C env S
def sPar (i j : Nat) (bi bj : Bool) (f g : EF) : SF := fun C env S => (parV bi f C env S).out fun v S1 => (parV bj g C env S1).out fun u S2 => .nx ((env.set i (some v)).set j (some u)) S2
/-- xs[i] = e of a boxed list -/
def setIx (o i : Vl) (x : D) (S : Sto) : Option Sto :=
  match o, i with
  | .box n, .d (.int k) => match S[n]? with
    | some (.lst xs) => (ixOf xs.length k).map fun j => S.set n (.lst (xs.set j x))
    | _ => none
  | _, _ => none
def sSetIx (o i f : EF) : SF := fun C env S => (fz f C env S).out fun v S1 => (fz o C env S1).out fun a S2 => (fz i C env S2).out fun b S3 => match v with
  | .d x => match setIx a b x S3 with
    | some S4 => .nx env S4
    | none => .bad
  | _ => .bad
/-- o[i], p[j] = e, e' -/
def sSetIx2 (o i p j f g : EF) : SF := fun C env S => (evAll [f, g] C env S).out fun vs S1 => match vs with
  | [.d x, .d y] => (fz o C env S1).out fun a S2 => (fz i C env S2).out fun b S3 => match setIx a b x S3 with
    | some S4 => (fz p C env S4).out fun a' S5 => (fz j C env S5).out fun b' S6 => match setIx a' b' y S6 with
      | some S7 => .nx env S7
      | none => .bad
    | none => .bad
  | _ => .bad
def putK (k : Sum Int Str) (x : D) (kvs : List (Sum Int Str × D)) : List (Sum Int Str × D) :=
  if (kvs.any fun kv => decide (kv.1 = k)) = true then kvs.map (fun kv => if kv.1 = k then (kv.1, x) else kv) else kvs ++ [(k, x)]
/-- d['k'] = e -/
def sPutK (o : EF) (k : Str) (f : EF) : SF := fun C env S => (fz f C env S).out fun v S1 => (fz o C env S1).out fun a S2 => match v, a with
  | .d x, .box n => match S2[n]? with
    | some (.dct kvs) => if kvs.length < 1000 then .nx env (S2.set n (.dct (putK (.inr k) x kvs))) else .bad
    | _ => .bad
  | _, _ => .bad
/-- {'k': e, ..} -/
def eDict (ks : List Str) (fs : List EF) : EF := fun C env S => (evAll fs C env S).bind fun vs S1 => match toDs vs with
  | some ds => .ok (.box S1.length) (S1 ++ [.dct (((ks.map Sum.inr).zip ds).foldl (fun acc kv => putK kv.1 kv.2 acc) [])])
  | none => .bad
/-- self.f = e of a new instance -/
def putFs (f : Str) (x : D) : List (Str × D) → List (Str × D)
  | [] => [(f, x)]
  | (g, y) :: r => if g = f then (g, x) :: r else (g, y) :: putFs f x r
def sFld (cs : List Nat) (o : EF) (n : Str) (f : EF) : SF := fun C env S => (fz f C env S).out fun v S1 => (fz o C env S1).out fun a S2 => match v, a with
  | .d x, .box k => match S2[k]? with
    | some (.ins c fs) => if cs.contains c then (if fs.length < 900 then .nx env (S2.set k (.ins c (putFs n x fs))) else .bad) else .bad
    | _ => .bad
  | _, _ => .bad
/-- raise c(..): ns the parameters, which its __init__ keeps -/
def sRaise (c : Nat) (ns : List Str) (fs : List EF) : SF := fun C env S => (evAll fs C env S).out fun vs S1 => match toDs vs with
  | some ds => .exc ⟨c, ns.zip ds⟩ S1
  | none => .bad

def forGo (t : Tg) (b : SF) (C : Cxt) : List D → Slots → Sto → Ou
  | [], env, S => .nx env S
  | x :: xs, env, S => match tgV t x env with
    | none => .bad
    | some env1 => match b C env1 S with
      | .nx env2 S2 => forGo t b C xs env2 S2
      | .ct env2 S2 => forGo t b C xs env2 S2
      | .bk env2 S2 => .nx env2 S2
      | o => o
def sFor (s : Src) (t : Tg) (b : SF) : SF := fun C env S => (srcV s C env S).out fun xs S1 => forGo t b C xs env S1
/-- for x in a row of lambdas -/
def forLam (i : Nat) (b : SF) (C : Cxt) : List Nat → Slots → Sto → Ou
  | [], env, S => .nx env S
  | j :: js, env, S => match b C (env.set i (some (.lam j))) S with
      | .nx env2 S2 => forLam i b C js env2 S2
      | .ct env2 S2 => forLam i b C js env2 S2
      | .bk env2 S2 => .nx env2 S2
      | o => o
def sForLam (f : EF) (i : Nat) (b : SF) : SF := fun C env S => (f C env S).out fun v S1 => match v with
  | .lams js => forLam i b C js env S1
  | _ => .bad
def whileGo (c : EF) (b : SF) (C : Cxt) : Nat → Slots → Sto → Ou
  | 0, _, _ => .bad
  | n + 1, env, S => (fz c C env S).out fun v S1 => match v with
    | .d (.bl true) => match b C env S1 with
      | .nx env2 S2 => whileGo c b C n env2 S2
      | .ct env2 S2 => whileGo c b C n env2 S2
      | .bk env2 S2 => .nx env2 S2
      | o => o
    | .d (.bl false) => .nx env S1
    | _ => .bad
def whileFuel : Nat := 1099511627776
def sWhile (c : EF) (b : SF) : SF := fun C env S => whileGo c b C whileFuel env S

/-- the first clause that takes an error of the class c -/
def clauseOf (c : Nat) : List (Nat × Str × Str) → Option (Str × Str)
  | [] => none
  | (c', hs) :: r => if c' = c then some hs else clauseOf c r
/-- try: return (t, call()) / except c as e: return (t', repr(e.f)); es: the classes of the own errors; ie: the place of e -/
def sTryAct (es : List Nat) (t : Str) (i ie : Nat) (cl : List (Nat × Str × Str)) : SF := fun C env S => match fz (eAct i) C env S with
  | .ok (.d x) S1 => .rt (.d (.tup [.str t, x])) S1
  | .ok _ _ => .bad
  | .bad => .bad
  | .exc x S1 => if es.contains x.cls && decide (ie < env.length) then match clauseOf x.cls cl with
    | some (t', f) => match x.fs.lookup f with
      | some d => match C.rp d with
        | some y => .rt (.d (.tup [.str t', .str y])) S1
        | none => .bad
      | none => .bad
    | none => .exc x S1
    else .bad

/-! ### defs -/
structure FDef where
  slots : Nat
  params : Nat
  body : SF
/-- the result and the state behind a def's body; boxes made within go, unless the result is one -/
def leave (n : Nat) : Ou → Rs Vl
  | .nx _ S => .ok (.d .non) (S.take n)
  | .rt v S => match v with
    | .box k => if k < n then .ok v (S.take n) else .ok v S
    | .d x => .ok (.d x) (S.take n)
    | _ => .bad
  | .exc x S => .exc x (S.take n)
  | _ => .bad
def startE (fd : FDef) (vs : List Vl) : Slots := vs.map some ++ List.replicate (fd.slots - vs.length) none
structure Prog where
  fn : Nat → FDef
  lam : Nat → EF
abbrev CallF := Nat → List Vl → Sto → Rs Vl
def noCall : CallF := fun _ _ _ => .bad
def noRp : D → Option Str := fun _ => none
/-- the lambdas' own context: no lambda within, nothing called that was handed in -/
def lamCx (call : CallF) : Cxt := ⟨noRp, call, fun _ _ _ => .bad, fun _ _ _ => .bad, fun _ => .bad⟩
/-- a body's context: what it calls (its lambdas too), what a def that gets a lambda does -/
def bodyCx (P : Prog) (rp : D → Option Str) (call : CallF) (callA : Nat → (Sto → Rs Vl) → Sto → Rs Vl) (act : Sto → Rs Vl) : Cxt :=
  ⟨rp, call, callA, fun j env S => fz (P.lam j) (lamCx call) env S, act⟩
def noCallA : Nat → (Sto → Rs Vl) → Sto → Rs Vl := fun _ _ _ => .bad
/-- a def that gets a lambda; it calls no other -/
def callAct (P : Prog) (rp : D → Option Str) (q : Nat) (act : Sto → Rs Vl) (S : Sto) : Rs Vl :=
  if (P.fn q).params = 1 then
    leave S.length ((P.fn q).body (bodyCx P rp noCall noCallA act) (some (.lam 0) :: List.replicate ((P.fn q).slots - 1) none) S)
  else .bad
/-- a def called -/
def callFn (P : Prog) (rp : D → Option Str) (ca : Nat → (Sto → Rs Vl) → Sto → Rs Vl) (call : CallF) (q : Nat) (vs : List Vl) (S : Sto) : Rs Vl :=
  if vs.length = (P.fn q).params then
    leave S.length ((P.fn q).body (bodyCx P rp call ca (fun _ => .bad)) (startE (P.fn q) vs) S)
  else .bad
/-- calls at most k deep -/
def callEv (P : Prog) : Nat → CallF
  | 0 => noCall
  | k + 1 => callFn P noRp noCallA (callEv P k)
/-- the law's own def, called from without -/
def topEv (P : Prog) (rp : D → Option Str) (k : Nat) : CallF := callFn P rp (callAct P rp) (callEv P k)
end Py
end

section
set_option Elab.async false
set_option linter.all false
set_option maxRecDepth 100000
set_option
        maxHeartbeats 4000000
/-! PSnd1: how our values lie in the hand layer's heap; the judgement FE. -/
namespace PyS
open PySem PySem.Spec PyProof.Rows L2 Py

/-! ### values -/
mutual
inductive RD (K : PySem.W.Frag) (gc : Nat → Addr) (F : Hp) : V → D → Prop
  | non : RD K gc F .non .non
  | bl (b : Bool) : RD K gc F (.bl b) (.bl b)
  | int (i : Int) : RD K gc F (.int i) (.int i)
  | str (x : Str) : RD K gc F (.str x) (.str x)
  | tup {a : Addr} {vs : List V} {xs : List D} : SqT K F a vs → RDs K gc F vs xs → RD K gc F (.ref a) (.tup xs)
  | lst {a : Addr} {vs : List V} {xs : List D} : F a = some (.lst vs) → RDs K gc F vs xs → RD K gc F (.ref a) (.lst xs)
  | ins {a dx : Addr} {c : Nat} {ws : List (Str × V)} {fs : List (Str × D)} : F a = some (.ins (gc c) dx ws) → RF K gc F ws fs → RD K gc F (.ref a) (.ins c fs)
inductive RDs (K : PySem.W.Frag) (gc : Nat → Addr) (F : Hp) : List V → List D → Prop
  | nil : RDs K gc F [] []
  | cons {v : V} {vs : List V} {x : D} {xs : List D} : RD K gc F v x → RDs K gc F vs xs → RDs K gc F (v :: vs) (x :: xs)
inductive RF (K : PySem.W.Frag) (gc : Nat → Addr) (F : Hp) : List (Str × V) → List (Str × D) → Prop
  | nil : RF K gc F [] []
  | cons {f : Str} {v : V} {vs : List (Str × V)} {x : D} {xs : List (Str × D)} : RD K gc F v x → RF K gc F vs xs → RF K gc F ((f, v) :: vs) ((f, x) :: xs)
end

section
variable {K : PySem.W.Frag} {gc : Nat → Addr} {F F' : Hp}
theorem sqT_mono (e : Same F F') {a : Addr} {xs : List V} (h : SqT K F a xs) : SqT K F' a xs := by
  rcases h with (h | ⟨o,
          h⟩) | h
  · exact .inl (.inl (e _ _ h))
  · exact .inl (.inr ⟨o,
          e _ _ h⟩)
  · exact .inr h
mutual
theorem RD.mono (e : Same F F') : ∀ {v : V} {x : D}, RD K gc F v x → RD K gc F' v x
  | _, _, .non => .non
  | _, _, .bl b => .bl b
  | _, _, .int i => .int i
  | _, _, .str x => .str x
  | _, _, .tup h r => .tup (sqT_mono e h) (RDs.mono e r)
  | _, _, .lst h r => .lst (e _ _ h) (RDs.mono e r)
  | _, _, .ins h r => .ins (e _ _ h) (RF.mono e r)
theorem RDs.mono (e : Same F F') : ∀ {v : List V} {x : List D}, RDs K gc F v x → RDs K gc F' v x
  | _, _, .nil => .nil
  | _, _, .cons h r => .cons (RD.mono e h) (RDs.mono e r)
theorem RF.mono (e : Same F F') : ∀ {v : List (Str × V)} {x : List (Str × D)}, RF K gc F v x → RF K gc F' v x
  | _, _, .nil => .nil
  | _, _, .cons h r => .cons (RD.mono e h) (RF.mono e r)
end
theorem RDs.length : ∀ {vs : List V} {xs : List D}, RDs K gc F vs xs → vs.length = xs.length
  | _, _, .nil => rfl
  | _, _, .cons _ r => congrArg (· + 1) (RDs.length r)
theorem RDs.get : ∀ {vs : List V} {xs : List D} {i : Nat} {x : D}, RDs K gc F vs xs → xs[i]? = some x → ∃ v, vs[i]? = some v ∧ RD K gc F v x
  | _,
          _, _, _, .nil, e => by simp at e
  | _,
          _, 0, _, .cons r _, e => by simp at e; subst e; exact ⟨_, rfl, r⟩
  | _,
          _, i + 1, x, .cons _ t, e => by
    obtain ⟨u, h1, h2⟩ := RDs.get (i := i) (x := x) t (by simpa using e)
    exact ⟨u,
            by simpa using h1, h2⟩
theorem RDs.append : ∀ {vs ws : List V} {xs ys : List D}, RDs K gc F vs xs → RDs K gc F ws ys → RDs K gc F (vs ++ ws) (xs ++ ys)
  | _, _, _, _, .nil, s => s
  | _, _, _, _, .cons r t, s => .cons r (RDs.append t s)
theorem RDs.take : ∀ {vs : List V} {xs : List D} (n : Nat), RDs K gc F vs xs → RDs K gc F (vs.take n) (xs.take n)
  | _, _, 0, _ => .nil
  | _, _, _ + 1, .nil => .nil
  | _, _, n + 1, .cons r t => .cons r (RDs.take n t)
theorem RDs.drop : ∀ {vs : List V} {xs : List D} (n : Nat), RDs K gc F vs xs → RDs K gc F (vs.drop n) (xs.drop n)
  | _, _, 0, r => r
  | _, _, _ + 1, .nil => .nil
  | _, _, n + 1, .cons _ t => RDs.drop n t
theorem RDs.reverse {vs : List V} {xs : List D} (h : RDs K gc F vs xs) : RDs K gc F vs.reverse xs.reverse := by
  induction vs generalizing xs with
  | nil => cases h; exact .nil
  | cons v vs ih =>
    cases h with
    | cons r t =>
      rw [List.reverse_cons,
              List.reverse_cons]
      exact (ih t).append (.cons r .nil)
theorem RDs.set : ∀ {vs : List V} {xs : List D} (i : Nat) {v : V} {x : D}, RDs K gc F vs xs → RD K gc F v x → RDs K gc F (vs.set i v) (xs.set i x)
  | _, _, _, _, _, .nil, _ => .nil
  | _, _, 0, _, _, .cons _ t, r => .cons r t
  | _, _, i + 1, _, _, .cons q t, r => .cons q (RDs.set i t r)
theorem RDs.eraseIdx : ∀ {vs : List V} {xs : List D} (i : Nat), RDs K gc F vs xs → RDs K gc F (vs.eraseIdx i) (xs.eraseIdx i)
  | _, _, _, .nil => .nil
  | _, _, 0, .cons _ t => t
  | _, _, i + 1, .cons q t => .cons q (RDs.eraseIdx i t)
theorem RDs.dropLast : ∀ {vs : List V} {xs : List D}, RDs K gc F vs xs → RDs K gc F vs.dropLast xs.dropLast
  | _, _, .nil => .nil
  | _, _, .cons _ .nil => .nil
  | _, _, .cons q (.cons q' t) => .cons q (RDs.dropLast (.cons q' t))
theorem RDs.rep {vs : List V} {xs : List D} (h : RDs K gc F vs xs) : ∀ k : Nat, RDs K gc F (List.replicate k vs).flatten (List.replicate k xs).flatten
  | 0 => .nil
  | k + 1 => by
    rw [List.replicate_succ,
            List.replicate_succ, List.flatten_cons, List.flatten_cons]
    exact h.append (RDs.rep h k)
theorem RF.lookup : ∀ {vs : List (Str × V)} {xs : List (Str × D)} {f : Str} {x : D}, RF K gc F vs xs → xs.lookup f = some x → ∃ v, vs.lookup f = some v ∧ RD K gc F v x
  | _, _, _, _, .nil, e => by cases e
  | _, _, f, x, .cons (f := g) (v := v) r t, e => by
    rw [List.lookup_cons] at e ⊢
    by_cases h : (f == g) = true
    · rw [h] at e ⊢
      cases e
      exact ⟨v, rfl, r⟩
    · have h' : (f == g) = false := by simpa using h
      rw [h'] at e ⊢
      exact RF.lookup t e
theorem RF.length : ∀ {vs : List (Str × V)} {xs : List (Str × D)}, RF K gc F vs xs → vs.length = xs.length
  | _, _, .nil => rfl
  | _, _, .cons _ r => congrArg (· + 1) (RF.length r)
theorem RF.put : ∀ {vs : List (Str × V)} {xs : List (Str × D)} (f : Str) {v : V} {x : D}, RF K gc F vs xs → RD K gc F v x → RF K gc F (putF f v vs) (putFs f x xs)
  | _, _, _, _, _, .nil, r => .cons r .nil
  | _, _, f, v, x, .cons (f := g) (v := w) (x := y) q t, r => by
    show RF K gc F (if g = f then (g, v) :: _ else (g, w) :: putF f v _) (if g = f then (g, x) :: _ else (g, y) :: putFs f x _)
    by_cases h : g = f
    · rw [if_pos h, if_pos h]; exact .cons r t
    · rw [if_neg h, if_neg h]; exact .cons q (RF.put f t r)
end

/-! ### what a law's text gives, once -/
structure Stat where
  gc : Nat → Addr
  T : List (Addr × Str)
  fa : Nat → Addr
  fd : Nat → FuncData
  ps : Nat → List Str
  nf : Nat
  pr : Program
  P : Prog
  lc : Addr
  lt : Addr
  lq : Str
  rp : D → Option Str
  M : PySem.W.Frag → (Str → Option Value) → Prop

abbrev LRT := Hp → V → Nat → Prop
def live : Bx → Prop
  | .dead => False
  | _ => True
def RV (K : PySem.W.Frag) (gc : Nat → Addr) (LR : LRT) (F : Hp) (ι : Nat → Addr) (m : Nat) (x : V) : Vl → Prop
  | .d d => RD K gc F x d
  | .ro xs => ∃ a vs, x = .ref a ∧ SqL K F a vs ∧ RDs K gc F vs xs
  | .box n => n < m ∧ x = .ref (ι n)
  | .lam j => LR F x j
  | .lams js => ∃ a vs, x = .ref a ∧ F a = some (.lst vs) ∧ Paired (LR F) vs js
  | .new _ => False
def RB (K : PySem.W.Frag) (gc : Nat → Addr) (F H : Hp) (p : Addr) : Bx → Prop
  | .lst xs => ∃ vs, H p = some (.lst vs) ∧ RDs K gc F vs xs
  | .dct kvs => ∃ kws : List (Key × V), H p = some (.dK kws) ∧ Paired (fun (a : Key × V) (b : Sum Int Str × D) => a.1 = b.1 ∧ RD K gc F a.2 b.2) kws kvs
  | .ins c fs => ∃ dx ws, H p = some (.ins (gc c) dx ws) ∧ RF K gc F ws fs
  | .dead => True
structure Rep (K : PySem.W.Frag) (g : Stat) (F R : Hp) (ι : Nat → Addr) (S : Sto) (H : Hp) : Prop where
  fH : Same F H
  rH : Same R H
  box : ∀ i o, S[i]? = some o → RB K g.gc F H (ι i) o
  inj : ∀ i j oi oj, S[i]? = some oi → S[j]? = some oj → live oi → live oj → ι i = ι j → i = j
  fr : ∀ i o, S[i]? = some o → live o → F (ι i) = none ∧ R (ι i) = none
  dj : ∀ a o, R a = some o → F a = none
  tabs : LamX.Tabs g.T H
  ntF : ∀ a ps, F a ≠ some (.tbl ps)
  ntR : ∀ a o, R a = some o → (∀ ps, o ≠ .tbl ps) ∧ ∀ φ, o ≠ .ext φ
def RT (K : PySem.W.Frag) (g : Stat) (LR : LRT) (F R : Hp) (ι : Nat → Addr) (S : Sto) (H : Hp) (x : V) : Vl → Prop
  | .new xs => ∃ p vs, x = .ref p ∧ H p = some (.lst vs) ∧ RDs K g.gc F vs xs ∧ F p = none ∧ R p = none ∧ ∀ i o, S[i]? = some o → live o → ι i ≠ p
  | v => RV K g.gc LR F ι S.length x v
def REnv (K : PySem.W.Frag) (gc : Nat → Addr) (LR : LRT) (F : Hp) (ι : Nat → Addr) (m : Nat) (σ : L2.St) (env : Slots) : Prop :=
  σ.length = env.length ∧ ∀ (i : Nat) (v : Vl), env[i]? = some (some v) → ∃ x : V, (σ : List (Option V))[i]? = some (some x) ∧ RV K gc LR F ι m x v
structure IExt (S : Sto) (ι : Nat → Addr) (S' : Sto) (ι' : Nat → Addr) : Prop where
  len : S.length ≤ S'.length
  eq : ∀ i, i < S.length → ι' i = ι i
theorem IExt.refl {S : Sto} {ι : Nat → Addr} : IExt S ι S ι := ⟨Nat.le_refl _, fun _ _ => rfl⟩
theorem IExt.trans {S S1 S2 : Sto} {ι ι1 ι2 : Nat → Addr} (a : IExt S ι S1 ι1) (b : IExt S1 ι1 S2 ι2) : IExt S ι S2 ι2 :=
  ⟨Nat.le_trans a.len b.len, fun i h => (b.eq i (Nat.lt_of_lt_of_le h a.len)).trans (a.eq i h)⟩
def LMono (LR : LRT) : Prop := ∀ F F' x j, Same F F' → LR F x j → LR F' x j
def noLam : LRT := fun _ _ _ => False
theorem noLam_mono : LMono noLam := fun _ _ _ _ _ h => h

section
variable {K : PySem.W.Frag} {g : Stat} {LR : LRT} {F F' R H H' : Hp} {ι ι' : Nat → Addr} {S S' : Sto} {x : V} {v : Vl} {m m' : Nat} {σ : L2.St} {env : Slots}
theorem pair_mono (hl : LMono LR) (e : Same F F') : ∀ {vs : List V} {js : List Nat}, Paired (LR F) vs js → Paired (LR F') vs js
  | _, _, .nil => .nil
  | _, _, .cons r t => .cons (hl _ _ _ _ e r) (pair_mono hl e t)
theorem RV.mono (hl : LMono LR) (e : Same F F') (hm : m ≤ m') (hi : ∀ i, i < m → ι' i = ι i) (h : RV K g.gc LR F ι m x v) : RV K g.gc LR F' ι' m' x v := by
  cases v with
  | d d => exact RD.mono e h
  | ro xs =>
    obtain ⟨a, vs, q, h1, h2⟩ := h
    exact ⟨a, vs, q, Same.seq e h1, RDs.mono e h2⟩
  | box n =>
    obtain ⟨h1, h2⟩ := h
    exact ⟨Nat.lt_of_lt_of_le h1 hm, by rw [hi n h1]; exact h2⟩
  | lam j => exact hl _ _ _ _ e h
  | lams js =>
    obtain ⟨a, vs, q, h1, h2⟩ := h
    exact ⟨a, vs, q, e _ _ h1, pair_mono hl e h2⟩
  | new xs => exact h
theorem RV.ext (hl : LMono LR) (e : Same F F') (hi : IExt S ι S' ι') (h : RV K g.gc LR F ι S.length x v) : RV K g.gc LR F' ι' S'.length x v := RV.mono hl e hi.len hi.eq h
theorem REnv.ext (hl : LMono LR) (e : Same F F') (hi : IExt S ι S' ι') (h : REnv K g.gc LR F ι S.length σ env) : REnv K g.gc LR F' ι' S'.length σ env :=
  ⟨h.1, fun i v q => let ⟨y, h1, h2⟩ := h.2 i v q; ⟨y, h1, RV.ext hl e hi h2⟩⟩
theorem REnv.set (h : REnv K g.gc LR F ι m σ env) (i : Nat) (r : RV K g.gc LR F ι m x v) : REnv K g.gc LR F ι m (σ.set i (some x)) (env.set i (some v)) := by
  refine ⟨by rw [List.length_set, List.length_set]; exact h.1, fun j u q => ?_⟩
  by_cases hij : i = j
  · subst hij
    by_cases hl : i < env.length
    · rw [List.getElem?_set_self hl] at q
      cases q
      exact ⟨x, by rw [List.getElem?_set_self (by rw [h.1]; exact hl)], r⟩
    · rw [List.getElem?_eq_none (by rw [List.length_set]; omega)] at q
      cases q
  · rw [List.getElem?_set_ne hij] at q ⊢
    exact h.2 j u q
theorem REnv.wipe (h : REnv K g.gc LR F ι m σ env) : ∀ own : List Nat, REnv K g.gc LR F ι m (L2.wipe σ own) (wipeE own env)
  | [] => h
  | i :: is => by
    have ih := REnv.wipe h is
    show REnv K g.gc LR F ι m ((L2.wipe σ is).set i none) ((wipeE is env).set i none)
    refine ⟨by rw [List.length_set, List.length_set]; exact ih.1, fun j u q => ?_⟩
    by_cases hij : i = j
    · subst hij
      by_cases hl : i < (wipeE is env).length
      · rw [List.getElem?_set_self hl] at q
        cases q
      · rw [List.getElem?_eq_none (by rw [List.length_set]; omega)] at q
        cases q
    · rw [List.getElem?_set_ne hij] at q ⊢
      exact ih.2 j u q
theorem RB.mono (e : Same F F') {p : Addr} {o : Bx} (h : RB K g.gc F H p o) : RB K g.gc F' H p o := by
  cases o with
  | lst xs => obtain ⟨vs, h1, h2⟩ := h; exact ⟨vs, h1, RDs.mono e h2⟩
  | dct kvs =>
    obtain ⟨kws, h1, h2⟩ := h
    exact ⟨kws, h1, Paired.mapP h2 fun _ _ q => ⟨q.1, RD.mono e q.2⟩⟩
  | ins c fs => obtain ⟨dx, ws, h1, h2⟩ := h; exact ⟨dx, ws, h1, RF.mono e h2⟩
  | dead => trivial
theorem RB.at {p : Addr} {o : Bx} (hH : H' p = H p) (h : RB K g.gc F H p o) : RB K g.gc F H' p o := by
  cases o with
  | lst xs => obtain ⟨vs, h1, h2⟩ := h; exact ⟨vs, hH.trans h1, h2⟩
  | dct kvs => obtain ⟨kws, h1, h2⟩ := h; exact ⟨kws, hH.trans h1, h2⟩
  | ins c fs => obtain ⟨dx, ws, h1, h2⟩ := h; exact ⟨dx, ws, hH.trans h1, h2⟩
  | dead => trivial
theorem RB.there {p : Addr} {o : Bx} (hl : live o) (h : RB K g.gc F H p o) : ∃ u, H p = some u ∧ ∀ ps, u ≠ .tbl ps := by
  cases o with
  | lst xs => obtain ⟨vs, h1, h2⟩ := h; exact ⟨_, h1, fun _ z => by cases z⟩
  | dct kvs => obtain ⟨kws, h1, h2⟩ := h; exact ⟨_, h1, fun _ z => by cases z⟩
  | ins c fs => obtain ⟨dx, ws, h1, h2⟩ := h; exact ⟨_, h1, fun _ z => by cases z⟩
  | dead => exact hl.elim
theorem same_upd {F : Hp} {p : Addr} {o : HO} (h : F p = none) : Same F (upd F p o) := fun b u e => by
  rw [upd_ne (ne_of_none e h)]
  exact e
theorem Same.upd_both {F H : Hp} (e : Same F H) (p : Addr) (o : HO) : Same (upd F p o) (upd H p o) := fun b u q => by
  by_cases hb : b = p
  · subst hb; rw [upd_same] at q ⊢; exact q
  · rw [upd_ne hb] at q ⊢; exact e _ _ q
/-- the heap grows by a new object -/
theorem Rep.grow (h : Rep K g F R ι S H) {p : Addr} {o : HO} (hp : H p = none) : Rep K g F R ι S (upd H p o) where
  fH := h.fH.trans (same_upd hp)
  rH := h.rH.trans (same_upd hp)
  box := fun i b q => by
    by_cases hl : live b
    · obtain ⟨u, hu, _⟩ := RB.there hl (h.box i b q)
      exact RB.at (upd_ne (ne_of_none hu hp)) (h.box i b q)
    · cases b with
      | dead => trivial
      | _ => exact absurd trivial hl
  inj := h.inj
  fr := h.fr
  dj := h.dj
  tabs := h.tabs.ext (same_upd hp)
  ntF := h.ntF
  ntR := h.ntR
theorem upd_nt {F : Hp} {p : Addr} {o : HO} (h : ∀ a ps, F a ≠ some (.tbl ps)) (ho : ∀ ps, o ≠ .tbl ps) : ∀ a ps, upd F p o a ≠ some (.tbl ps) := fun a ps z => by
  by_cases ha : a = p
  · rw [ha, upd_same] at z
    exact ho ps (Option.some.inj z)
  · rw [upd_ne ha] at z
    exact h a ps z
/-- .. which is frozen at once -/
theorem Rep.growF (h : Rep K g F R ι S H) {p : Addr} {o : HO} (hp : H p = none) (ho : ∀ ps, o ≠ .tbl ps := by intro _ z; cases z) : Rep K g (upd F p o) R ι S (upd H p o) ∧ Same F (upd F p o) ∧ F p = none := by
  have fp : F p = none := h.fH.free hp
  have sm := same_upd (o := o) fp
  have h1 := h.grow (o := o) hp
  refine ⟨⟨Same.upd_both h.fH p o, h1.rH, fun i b q => RB.mono sm (h1.box i b q), h.inj, fun i b q hl => ?_, fun a u q => by rw [upd_ne (ne_of_none (h.rH _ _ q) hp)]; exact h.dj a u q, h1.tabs, upd_nt h.ntF ho, h.ntR⟩, sm, fp⟩
  obtain ⟨u, hu, _⟩ := RB.there hl (h.box i b q)
  exact ⟨by rw [upd_ne (ne_of_none hu hp)]; exact (h.fr i b q hl).1, (h.fr i b q hl).2⟩
/-- a new list is frozen -/
theorem Rep.freeze (h : Rep K g F R ι S H) {p : Addr} {o : HO} (hp : H p = some o) (fp : F p = none) (np : R p = none) (hi : ∀ i o, S[i]? = some o → live o → ι i ≠ p) (ho : ∀ ps, o ≠ .tbl ps := by intro _ z; cases z) : Rep K g (upd F p o) R ι S H ∧ Same F (upd F p o) := by
  have sm := same_upd (o := o) fp
  refine ⟨⟨fun b u q => ?_, h.rH, fun i b q => RB.mono sm (h.box i b q), h.inj, fun i b q hl => ⟨by rw [upd_ne (hi i b q hl)]; exact (h.fr i b q hl).1, (h.fr i b q hl).2⟩, fun a u q => by rw [upd_ne (ne_of_none q np)]; exact h.dj a u q, h.tabs, upd_nt h.ntF ho, h.ntR⟩, sm⟩
  by_cases hb : b = p
  · subst hb; rw [upd_same] at q; cases q; exact hp
  · rw [upd_ne hb] at q; exact h.fH _ _ q
theorem RT.frz (h : Rep K g F R ι S H) (r : RT K g LR F R ι S H x v) (hl : LMono LR) : ∃ F', Same F F' ∧ Rep K g F' R ι S H ∧ RV K g.gc LR F' ι S.length x v.frz := by
  cases v with
  | new xs =>
    obtain ⟨p, vs, e, hp, rs, fp, rp, hi⟩ := r
    obtain ⟨h1, sm⟩ := h.freeze hp fp rp hi
    refine ⟨_, sm, h1, ?_⟩
    subst e
    exact RD.lst upd_same (RDs.mono sm rs)
  | d d => exact ⟨F, Same.refl F, h, r⟩
  | ro xs => exact ⟨F, Same.refl F, h, r⟩
  | box n => exact ⟨F, Same.refl F, h, r⟩
  | lam j => exact ⟨F, Same.refl F, h, r⟩
  | lams js => exact ⟨F, Same.refl F, h, r⟩
end

/-! ### readings -/
/-- an error's class and what it keeps -/
def RX (K : PySem.W.Frag) (g : Stat) (F H : Hp) (cls : Value) (d : Option Addr) (e : Xn) : Prop :=
  cls = .ref (g.gc e.cls) ∧ ∃ dx ws, d = some dx ∧ H dx = some (.xd ws) ∧ RF K g.gc F ws e.fs
def ExP (K : PySem.W.Frag) (g : Stat) (W : Value → Option Addr → Hp → Prop) (F R : Hp) (ι : Nat → Addr) (S : Sto) (e : Xn) (S' : Sto) : Prop :=
  ∀ F' ι' H' cls d, Same F F' → IExt S ι S' ι' → Rep K g F' R ι' S' H' → RX K g F' H' cls d e → W cls d H'
def PostE (K : PySem.W.Frag) (g : Stat) (LR : LRT) (W : Value → Option Addr → Hp → Prop) (F R : Hp) (ι : Nat → Addr) (S : Sto) (r : Rs Vl) (Q : VK) : Prop :=
  match r with
  | .ok v S' => ∀ F' ι' H' x, Same F F' → IExt S ι S' ι' → Rep K g F' R ι' S' H' → RT K g LR F' R ι' S' H' x v → Q x H'
  | .exc e S' => ExP K g W F R ι S e S'
  | .bad => False
def PostA (K : PySem.W.Frag) (g : Stat) (LR : LRT) (W : Value → Option Addr → Hp → Prop) (F R : Hp) (ι : Nat → Addr) (S : Sto) (r : Rs (List Vl)) (Q : List V → Hp → Prop) : Prop :=
  match r with
  | .ok vs S' => ∀ F' ι' H' xs, Same F F' → IExt S ι S' ι' → Rep K g F' R ι' S' H' → Paired (RV K g.gc LR F' ι' S'.length) xs vs → Q xs H'
  | .exc e S' => ExP K g W F R ι S e S'
  | .bad => False
def PostT (K : PySem.W.Frag) (g : Stat) (W : Value → Option Addr → Hp → Prop) (F R : Hp) (ι : Nat → Addr) (S : Sto) (r : Rs Vl) (Q : Bool → Hp → Prop) : Prop :=
  match r with
  | .ok v S' => ∃ b, v = .d (.bl b) ∧ ∀ F' ι' H', Same F F' → IExt S ι S' ι' → Rep K g F' R ι' S' H' → Q b H'
  | .exc e S' => ExP K g W F R ι S e S'
  | .bad => False
def tE (K : PySem.W.Frag) (g : Stat) (LR : LRT) (C : Cxt) (W : WX) (f : EF) : TE := fun σ H Q => ∃ env F R ι S, REnv K g.gc LR F ι S.length σ env ∧ Rep K g F R ι S H ∧ PostE K g LR (fun c d H => W c d σ H) F R ι S (f C env S) Q
def tT (K : PySem.W.Frag) (g : Stat) (LR : LRT) (C : Cxt) (W : WX) (f : EF) : TT := fun σ H Q => ∃ env F R ι S, REnv K g.gc LR F ι S.length σ env ∧ Rep K g F R ι S H ∧ PostT K g (fun c d H => W c d σ H) F R ι S (f C env S) Q
def tA (K : PySem.W.Frag) (g : Stat) (LR : LRT) (C : Cxt) (W : WX) (fs : List EF) : TA := fun σ H Q => ∃ env F R ι S, REnv K g.gc LR F ι S.length σ env ∧ Rep K g F R ι S H ∧ PostA K g LR (fun c d H => W c d σ H) F R ι S (evAll fs C env S) Q

/-- a def's promise -/
def PostF (K : PySem.W.Frag) (g : Stat) (F R : Hp) (ι : Nat → Addr) (S : Sto) (r : Rs Vl) (Q : VK) (E : XK) : Prop :=
  match r with
  | .ok v S' => ∀ F' ι' H' x, Same F F' → IExt S ι S' ι' → Rep K g F' R ι' S' H' → RV K g.gc noLam F' ι' S'.length x v → Q x H'
  | .exc e S' => ExP K g E F R ι S e S'
  | .bad => False
def spOf (K : PySem.W.Frag) (g : Stat) (call : CallF) (q : Nat) : Sp := fun vs H Q E => vs.length = (g.ps q).length ∧
  ∃ F R ι S args, Paired (RV K g.gc noLam F ι S.length) vs args ∧ Rep K g F R ι S H ∧ PostF K g F R ι S (call q args S) Q E

/-- where one stands -/
structure XOk (g : Stat) (LR : LRT) (C : Cxt) (N : List Str) (sc : Scope) (X : Cx) : Prop where
  hN : X.N = N
  nd : N.Nodup
  sc : X.env.scope = sc
  calm : X.calm = true
  lm : LMono LR
  facts : g.M X.K X.mg
  prg : X.prog = g.pr
  rp : ∀ d x, C.rp d = some x → X.A.guards = some [] ∧ g.rp d = some x
  hlam : ∀ j env S, C.lam j env S = .bad ∨ C.lam j env S = Py.fz (g.P.lam j) (Py.lamCx C.call) env S
  hca : ∀ q act S, C.callA q act S = .bad ∨ (C.callA q act S = callAct g.P C.rp q act S ∧ X.env.code = .ref g.lc ∧ X.env.qual ++ "<lambda>" = g.lq ∧ g.T = [(g.lt, g.lq)] ∧ LamX.TabB X.base X.mg g.lc g.lt ∧ ∃ k, Room (k + 12) X.A ∧ ∀ q, q < g.nf → FnOk X.prog X.w X.K X.mg X.base (L2.CX X.prog X.w) k (g.fa q) (g.fd q) (g.ps q) (spOf X.K g C.call q))
  room : ∃ k, Room (k + 8) X.A ∧ ∀ q, q < g.nf → FnOk X.prog X.w X.K X.mg X.base (L2.CX X.prog X.w) k (g.fa q) (g.fd q) (g.ps q) (spOf X.K g C.call q)
/-- the expression e of a def with the names N in the scope sc reads as f -/
structure FE (g : Stat) (N : List Str) (sc : Scope) (e : Expr) (f : EF) : Prop where
  ev : ∀ LR C X W, XOk g LR C N sc X → Takes X W → PE X e (tE X.K g LR C W f)
  te : ∀ LR C X W, XOk g LR C N sc X → Takes X W → PT X e (tT X.K g LR C W f)
  st : ∀ env es, starEach (e :: es) env = (false, eval e env) :: starEach es env

section
variable {X : Cx} {e : Expr} {K : PySem.W.Frag} {g : Stat} {LR : LRT} {C : Cxt} {W : WX} {f : EF} {F R H : Hp} {ι : Nat → Addr} {S : Sto} {σ : L2.St}
theorem PE.imp {t t' : TE} (h : PE X e t) (i : ∀ σ H Q, t' σ H Q → t σ H Q) : PE X e t' := ⟨fun pins s σ H Q I q => h.run pins s σ H Q I (i _ _ _ q)⟩
theorem PT.imp {t t' : TT} (h : PT X e t) (i : ∀ σ H Q, t' σ H Q → t σ H Q) : PT X e t' := ⟨fun pins s σ H Q I q => h.run pins s σ H Q I (i _ _ _ q)⟩
theorem PA.imp {es : List Expr} {t t' : TA} (h : PA X es t) (i : ∀ σ H Q, t' σ H Q → t σ H Q) : PA X es t' := ⟨fun pos pins s σ H Q I q => h.run pos pins s σ H Q I (i _ _ _ q)⟩
theorem PS.imp {st : Stmt} {t t' : TS} (h : PS X st t) (i : ∀ D σ H, t' D σ H → t D σ H) : PS X st t' := ⟨fun pins s σ H D I q => h.run pins s σ H D I (i _ _ _ q)⟩
theorem post_fz {w : Value → Option Addr → Hp → Prop} {r : Rs Vl} {Q : VK} (hl : LMono LR) (h : PostE K g LR w F R ι S (r.bind fun v S1 => .ok v.frz S1) Q) : PostE K g LR w F R ι S r Q := by
  cases r with
  | ok v S' =>
    intro F' ι' H' x sm ie rp rt
    obtain ⟨F'', sm2, rp2, rv⟩ := RT.frz rp rt hl
    exact h F'' ι' H' x (sm.trans sm2) ie rp2 (by cases v <;> exact rv)
  | exc e S' => exact h
  | bad => exact h
theorem tE_fz (hl : LMono LR) {Q : VK} (h : tE K g LR C W (fz f) σ H Q) : tE K g LR C W f σ H Q := by
  obtain ⟨env, F, R, ι, S, r1, r2, p⟩ := h
  exact ⟨env, F, R, ι, S, r1, r2, post_fz hl p⟩
theorem FE.fz {N : List Str} {sc : Scope} (h : FE g N sc e f) {LR C X W} (ok : XOk g LR C N sc X) (tk : Takes X W) : PE X e (tE X.K g LR C W (fz f)) :=
  PE.imp (h.ev LR C X W ok tk) fun _ _ _ q => tE_fz ok.lm q
theorem PostE.up {w : Value → Option Addr → Hp → Prop} {F1 : Hp} {ι1 : Nat → Addr} {S1 : Sto} {r : Rs Vl} {Q : VK} (sm : Same F F1) (ie : IExt S ι S1 ι1) (h : PostE K g LR w F R ι S r Q) : PostE K g LR w F1 R ι1 S1 r Q := by
  cases r with
  | bad => exact h
  | exc e S' => exact fun F' ι' H' c d s1 i1 r1 x1 => h F' ι' H' c d (sm.trans s1) (ie.trans i1) r1 x1
  | ok u S' => exact fun F' ι' H' y s1 i1 r1 x1 => h F' ι' H' y (sm.trans s1) (ie.trans i1) r1 x1
theorem PostA.up {w : Value → Option Addr → Hp → Prop} {F1 : Hp} {ι1 : Nat → Addr} {S1 : Sto} {r : Rs (List Vl)} {Q : List V → Hp → Prop} (sm : Same F F1) (ie : IExt S ι S1 ι1) (h : PostA K g LR w F R ι S r Q) : PostA K g LR w F1 R ι1 S1 r Q := by
  cases r with
  | bad => exact h
  | exc e S' => exact fun F' ι' H' c d s1 i1 r1 x1 => h F' ι' H' c d (sm.trans s1) (ie.trans i1) r1 x1
  | ok u S' => exact fun F' ι' H' y s1 i1 r1 x1 => h F' ι' H' y (sm.trans s1) (ie.trans i1) r1 x1
theorem PostT.up {w : Value → Option Addr → Hp → Prop} {F1 : Hp} {ι1 : Nat → Addr} {S1 : Sto} {r : Rs Vl} {Q : Bool → Hp → Prop} (sm : Same F F1) (ie : IExt S ι S1 ι1) (h : PostT K g w F R ι S r Q) : PostT K g w F1 R ι1 S1 r Q := by
  cases r with
  | bad => exact h
  | exc e S' => exact fun F' ι' H' c d s1 i1 r1 x1 => h F' ι' H' c d (sm.trans s1) (ie.trans i1) r1 x1
  | ok u S' =>
    obtain ⟨b, e, h⟩ := h
    exact ⟨b, e, fun F' ι' H' s1 i1 r1 => h F' ι' H' (sm.trans s1) (ie.trans i1) r1⟩
/-- a value that is no new list -/
theorem RT.rv {x : V} {v : Vl} {S : Sto} (h : RT K g LR F R ι S H x v) (hv : ∀ xs, v ≠ .new xs) : RV K g.gc LR F ι S.length x v := by
  cases v with
  | new xs => exact absurd rfl (hv xs)
  | _ => exact h
theorem RV.rt {x : V} {v : Vl} {S : Sto} (h : RV K g.gc LR F ι S.length x v) : RT K g LR F R ι S H x v := by
  cases v with
  | new xs => exact h.elim
  | _ => exact h
theorem frz_ne (v : Vl) : ∀ xs, v.frz ≠ .new xs := by
  intro xs
  cases v <;> (intro z; cases z)
/-- behind fz f: the value, no new list any more -/
theorem post_bind {w : Value → Option Addr → Hp → Prop} {Ca : Cxt} {env : Slots} {k : Vl → Sto → Rs Vl} {Q : VK} {Q1 : VK} (h : PostE K g LR w F R ι S ((fz f Ca env S).bind k) Q)
    (i : ∀ v S1 F1 ι1 H1 x, fz f Ca env S = .ok v S1 → Same F F1 → IExt S ι S1 ι1 → Rep K g F1 R ι1 S1 H1 → RV K g.gc LR F1 ι1 S1.length x v → PostE K g LR w F1 R ι1 S1 (k v S1) Q → Q1 x H1) : PostE K g LR w F R ι S (fz f Ca env S) Q1 := by
  cases hr : fz f Ca env S with
  | bad =>
    rw [hr] at h
    exact h
  | exc e S' =>
    rw [hr] at h
    exact h
  | ok v S1 =>
    rw [hr] at h
    have hn : ∀ xs, v ≠ .new xs := by
      intro xs z
      unfold Py.fz at hr
      cases hf : f Ca env S with
      | bad => rw [hf] at hr; cases hr
      | exc e S' => rw [hf] at hr; cases hr
      | ok u S' =>
        rw [hf] at hr
        have hr' : (Rs.ok u.frz S' : Rs Vl) = .ok v S1 := hr
        injection hr' with h1 h2
        exact frz_ne u xs (h1.trans z)
    intro F1 ι1 H1 x sm ie rp rt
    refine i v S1 F1 ι1 H1 x hr sm ie rp (RT.rv rt hn) ?_
    exact PostE.up sm ie h
end
end PyS
end

section
set_option Elab.async false
set_option linter.all false
set_option maxRecDepth 100000
set_option
        maxHeartbeats 4000000
/-! PSnd2: names, constants, operators, comparisons. -/
namespace PyS
open PySem PySem.Spec PyProof.Rows L2 Py

/-! ### data of both kinds -/
mutual
def toPy : D → PyData
  | .non => .none
  | .bl b => .bool b
  | .int i => .int i
  | .str x => .str x
  | .tup xs => .tuple (toPys xs)
  | .lst xs => .list (toPys xs)
  | .ins _ _ => .none
def toPys : List D → List PyData
  | [] => []
  | x :: xs => toPy x :: toPys xs
end
theorem toPys_map : ∀ xs : List D, toPys xs = xs.map toPy
  | [] => by simp [toPys]
  | x :: xs => by simp [toPys, toPys_map xs]
theorem sOk_eq (x : Str) : sOk x = PyData.strOk x := rfl
mutual
theorem lay_of : ∀ x : D, x.plain = true → x.txtOk = true → (toPy x).canLay0 = true
  | .non, _, _ => by simp [toPy, PyData.canLay0]
  | .bl _, _, _ => by simp [toPy, PyData.canLay0]
  | .int _, _, _ => by simp [toPy, PyData.canLay0]
  | .str x, _, h => by
    have h' : sOk x = true := by simpa [D.txtOk] using h
    simpa [toPy, PyData.canLay0, ← sOk_eq] using h'
  | .tup xs, p, h => by
    simp only [toPy, PyData.canLay0]
    exact lays_of xs (by simpa [D.plain] using p) (by simpa [D.txtOk] using h)
  | .lst xs, p, h => by
    simp only [toPy, PyData.canLay0]
    exact lays_of xs (by simpa [D.plain] using p) (by simpa [D.txtOk] using h)
  | .ins _ _, p, _ => by simp [D.plain] at p
theorem lays_of : ∀ xs : List D, D.plains xs = true → D.txtOks xs = true → PyData.canLayAll0 (toPys xs) = true
  | [], _, _ => by simp [toPys, PyData.canLayAll0]
  | x :: xs, p, h => by
    simp only [D.plains, D.txtOks, Bool.and_eq_true] at p h
    simp only [toPys, PyData.canLayAll0, lay_of x p.1 h.1, lays_of xs p.2 h.2, Bool.and_self]
end
mutual
theorem depth_of : ∀ x : D, (toPy x).depth = x.depth
  | .non => by simp [toPy, PyData.depth, D.depth]
  | .bl _ => by simp [toPy, PyData.depth, D.depth]
  | .int _ => by simp [toPy, PyData.depth, D.depth]
  | .str _ => by simp [toPy, PyData.depth, D.depth]
  | .tup xs => by simp [toPy, PyData.depth, D.depth, depths_of xs]
  | .lst xs => by simp [toPy, PyData.depth, D.depth, depths_of xs]
  | .ins _ _ => by simp [toPy, PyData.depth, D.depth]
theorem depths_of : ∀ xs : List D, PyData.depthAll (toPys xs) = D.depths xs
  | [] => by simp [toPys, PyData.depthAll, D.depths]
  | x :: xs => by simp [toPys, PyData.depthAll, D.depths, depth_of x, depths_of xs]
end
theorem shaped_of {x : D} (h : x.cmpOk = true) : SeqAt.shaped (toPy x) = true := by
  unfold D.cmpOk at h
  simp only [Bool.and_eq_true,
          decide_eq_true_eq] at h
  unfold SeqAt.shaped
  rw [lay_of x h.1.1 h.1.2, depth_of]
  simp only [Bool.true_and, decide_eq_true_eq]
  omega
theorem shaped_lst {xs : List D} (h : xs.all D.cmpOk = true) : SeqAt.shaped (.list (toPys xs)) = true ∧ PyData.canLayAll0 (toPys xs) = true := by
  have a : PyData.canLayAll0 (toPys xs) = true ∧ PyData.depthAll (toPys xs) ≤ 60 := by
    induction xs with
    | nil => simp [toPys, PyData.canLayAll0, PyData.depthAll]
    | cons x xs ih =>
      simp only [List.all_cons,
              Bool.and_eq_true] at h
      have ih := ih h.2
      have h1 := h.1
      unfold D.cmpOk at h1
      simp only [Bool.and_eq_true,
              decide_eq_true_eq] at h1
      simp only [toPys, PyData.canLayAll0, PyData.depthAll, lay_of x h1.1.1 h1.1.2, ih.1, depth_of]
      exact ⟨rfl, Nat.max_le.mpr ⟨h1.2, ih.2⟩⟩
  refine ⟨?_, a.1⟩
  have b : PyData.depth (.list (toPys xs)) = PyData.depthAll (toPys xs) + 1 := by simp only [PyData.depth]
  have a2 := a.2
  unfold SeqAt.shaped
  rw [b]
  simp only [PyData.canLay0, a.1, Bool.true_and, decide_eq_true_eq]
  omega
mutual
theorem eqv_of : ∀ x y : D, x.plain = true → y.plain = true → D.eqv x y = PyData.eqv (toPy x) (toPy y)
  | .ins _ _, _, p, _ => by simp [D.plain] at p
  | .non, y, _, q => by cases y <;> simp [D.plain] at q <;> simp [D.eqv, toPy, PyData.eqv]
  | .bl _, y, _, q => by cases y <;> simp [D.plain] at q <;> simp [D.eqv, toPy, PyData.eqv]
  | .int _, y, _, q => by cases y <;> simp [D.plain] at q <;> simp [D.eqv, toPy, PyData.eqv]
  | .str _, y, _, q => by cases y <;> simp [D.plain] at q <;> simp [D.eqv, toPy, PyData.eqv]
  | .tup xs, y, p, q => by
    cases y with
    | tup ys =>
      simp only [D.eqv, toPy, PyData.eqv]
      exact eqvs_of xs ys (by simpa [D.plain] using p) (by simpa [D.plain] using q)
    | ins _ _ => simp [D.plain] at q
    | _ => simp [D.eqv, toPy, PyData.eqv]
  | .lst xs, y, p, q => by
    cases y with
    | lst ys =>
      simp only [D.eqv, toPy, PyData.eqv]
      exact eqvs_of xs ys (by simpa [D.plain] using p) (by simpa [D.plain] using q)
    | ins _ _ => simp [D.plain] at q
    | _ => simp [D.eqv, toPy, PyData.eqv]
theorem eqvs_of : ∀ xs ys : List D, D.plains xs = true → D.plains ys = true → D.eqvs xs ys = PyData.eqvAll (toPys xs) (toPys ys)
  | [], [], _, _ => by simp [D.eqvs, toPys, PyData.eqvAll]
  | [], _ :: _, _, _ => by simp [D.eqvs, toPys, PyData.eqvAll]
  | _ :: _, [], _, _ => by simp [D.eqvs, toPys, PyData.eqvAll]
  | x :: xs, y :: ys, p, q => by
    simp only [D.plains, Bool.and_eq_true] at p q
    simp only [D.eqvs, toPys, PyData.eqvAll, eqv_of x y p.1 q.1, eqvs_of xs ys p.2 q.2]
end
theorem plain_of {x : D} (h : x.cmpOk = true) : x.plain = true := by
  unfold D.cmpOk at h
  simp
          only [Bool.and_eq_true] at h
  exact h.1.1
section
variable {K : PySem.W.Frag} {gc : Nat → Addr} {F H : Hp}
mutual
theorem dp_of (e : Same F H) : ∀ {v : V} {x : D}, RD K gc F v x → x.plain = true → Dp K H v (toPy x)
  | _, _, .non, _ => by simpa [toPy] using Dp.non
  | _, _, .bl b, _ => by simpa [toPy] using Dp.bl b
  | _, _, .int i, _ => by simpa [toPy] using Dp.int i
  | _, _, .str x, _ => by simpa [toPy] using Dp.str x
  | _, _, .tup h r, p => by
    simp only [toPy]
    exact Dp.tup (sqT_mono e h) (dps_of e r (by simpa [D.plain] using p))
  | _, _, .lst h r, p => by
    simp only [toPy]
    exact Dp.lst (SqL.of (e _ _ h)) (dps_of e r (by simpa [D.plain] using p))
  | _, _, .ins h r, p => by simp [D.plain] at p
theorem dps_of (e : Same F H) : ∀ {v : List V} {x : List D}, RDs K gc F v x → D.plains x = true → DpAll K H v (toPys x)
  | _, _, .nil, _ => by simpa [toPys] using DpAll.nil
  | _, _, .cons h r, p => by
    simp only [D.plains, Bool.and_eq_true] at p
    simp only [toPys]
    exact DpAll.cons (dp_of e h p.1) (dps_of e r p.2)
end
end

/-! ### by values -/
section
variable {K : PySem.W.Frag} {g : Stat} {LR : LRT} {F F' R H H' : Hp} {ι ι' : Nat → Addr} {S S' : Sto} {x y : V} {a b v : Vl} {σ : L2.St} {env : Slots}
/-- what a list's or a tuple's value is -/
theorem unbox_lst (h : Rep K g F R ι S H) (r : RV K g.gc LR F ι S.length x v) {xs : List D} (e : v.unbox S = .d (.lst xs)) : ∃ p vs, x = .ref p ∧ H p = some (.lst vs) ∧ RDs K g.gc F vs xs := by
  cases v with
  | d d =>
    have e' : Vl.d d = .d (.lst xs) := e
    cases e'
    cases r with
    | lst h1 h2 => exact ⟨_, _, rfl, h.fH _ _ h1, h2⟩
  | box n =>
    obtain ⟨hn, q⟩ := r
    cases hs : S[n]? with
    | none => simp [Vl.unbox, hs] at e
    | some o =>
      cases o with
      | lst ys =>
        simp [Vl.unbox, hs] at e
        subst e
        obtain ⟨vs, h1, h2⟩ := h.box _ _ hs
        exact ⟨_, vs, q, h1, h2⟩
      | dct _ => simp [Vl.unbox, hs] at e
      | ins _ _ => simp [Vl.unbox, hs] at e
      | dead => simp [Vl.unbox, hs] at e
  | ro _ => cases e
  | new _ => exact r.elim
  | lam _ => cases e
  | lams _ => cases e
theorem unbox_d (r : RV K g.gc LR F ι S.length x v) (h : Rep K g F R ι S H) {d : D} (e : v.unbox S = .d d) : (RD K g.gc F x d) ∨ ∃ p vs xs, d = .lst xs ∧ x = .ref p ∧ H p = some (.lst vs) ∧ RDs K g.gc F vs xs := by
  cases v with
  | d d' =>
    have e' : Vl.d d' = .d d := e
    cases e'
    exact .inl r
  | box n =>
    obtain ⟨hn, q⟩ := r
    cases hs : S[n]? with
    | none => simp [Vl.unbox, hs] at e
    | some o =>
      cases o with
      | lst ys =>
        simp [Vl.unbox, hs] at e
        subst e
        obtain ⟨vs, h1, h2⟩ := h.box _ _ hs
        exact .inr ⟨_, vs, ys, rfl, q, h1, h2⟩
      | dct _ => simp [Vl.unbox, hs] at e
      | ins _ _ => simp [Vl.unbox, hs] at e
      | dead => simp [Vl.unbox, hs] at e
  | ro _ => cases e
  | new _ => exact r.elim
  | lam _ => cases e
  | lams _ => cases e
/-- as data -/
theorem unbox_dp (r : RV K g.gc LR F ι S.length x v) (h : Rep K g F R ι S H) {d : D} (e : v.unbox S = .d d) (p : d.plain = true) : Dp K H x (toPy d) := by
  rcases unbox_d r h e with q | ⟨a, vs, xs, rfl, rfl, h1, h2⟩
  · exact dp_of h.fH q p
  · simp only [toPy]
    exact Dp.lst (SqL.of h1) (dps_of h.fH h2 (by simpa [D.plain] using p))
/-- a sequence that is read -/
theorem seq_at (h : Rep K g F R ι S H) (r : RV K g.gc LR F ι S.length x v) {xs : List D} (e : seqOf v S = some xs) :
    ∃ p vs, x = .ref p ∧ RDs K g.gc F vs xs ∧ (SqL K H p vs ∨ SqT K H p vs) ∧ (isLst v S = true → SqL K H p vs) := by
  unfold seqOf at e
  split at e
  · injection e with e; subst e
    cases r with
    | lst h1 h2 => exact ⟨_, _, rfl, h2, .inl (SqL.of (h.fH _ _ h1)), fun _ => SqL.of (h.fH _ _ h1)⟩
  · injection e with e; subst e
    cases r with
    | tup h1 h2 => exact ⟨_, _, rfl, h2, .inr (sqT_mono h.fH h1), fun z => by simp [isLst] at z⟩
  · exact r.elim
  · injection e with e; subst e
    obtain ⟨p, vs, e1, h1, h2⟩ := r
    exact ⟨p, vs, e1, h2, .inl (Same.seq h.fH h1), fun _ => Same.seq h.fH h1⟩
  · rename_i n
    obtain ⟨hn, q⟩ := r
    split at e
    · rename_i ys hs
      injection e with e; subst e
      obtain ⟨vs, h1, h2⟩ := h.box _ _ hs
      exact ⟨_, vs, q, h2, .inl (SqL.of h1), fun _ => SqL.of h1⟩
    · cases e
  · cases e

/-- an operation upon two values -/
def rV2 (K : PySem.W.Frag) (g : Stat) (LR : LRT) (fn : Vl → Vl → Sto → Rs Vl) : R2 := fun x y H Q => ∃ w F R ι S a b, RV K g.gc LR F ι S.length x a ∧ RV K g.gc LR F ι S.length y b ∧ Rep K g F R ι S H ∧ PostE K g LR w F R ι S (fn a b S) Q ∧ ∀ e S', fn a b S ≠ .exc e S'
def rV1 (K : PySem.W.Frag) (g : Stat) (LR : LRT) (fn : Vl → Sto → Rs Vl) : V → Hp → VK → Prop := fun x H Q => ∃ w F R ι S a, RV K g.gc LR F ι S.length x a ∧ Rep K g F R ι S H ∧ PostE K g LR w F R ι S (fn a S) Q ∧ ∀ e S', fn a S ≠ .exc e S'
variable {C : Cxt} {W : WX} {Q : VK}
theorem op2_of {f1 f2 : EF} {fn : Vl → Vl → Sto → Rs Vl} (hl : LMono LR) (hfn : ∀ a b S e S', fn a b S ≠ .exc e S')
    (h : tE K g LR C W (fun C env S => (fz f1 C env S).bind fun a S1 => (fz f2 C env S1).bind fun b S2 => fn a b S2) σ H Q) :
    tE K g LR C W (fz f1) σ H fun x H1 => tE K g LR C W (fz f2) σ H1 fun y H2 => rV2 K g LR fn x y H2 Q := by
  obtain ⟨env, F, R, ι, S, re, rp, p⟩ := h
  refine ⟨env, F, R, ι, S, re, rp, post_bind p fun v S1 F1 ι1 H1 x hr sm ie rp1 rv p1 => ?_⟩
  refine ⟨env, F1, R, ι1, S1, REnv.ext hl sm ie re, rp1, post_bind p1 fun u S2 F2 ι2 H2 y hr2 sm2 ie2 rp2 rv2 p2 => ?_⟩
  exact ⟨_, F2, R, ι2, S2, v, u, RV.ext hl sm2 ie2 rv, rv2, rp2, p2, hfn v u S2⟩
theorem op1_of {f1 : EF} {fn : Vl → Sto → Rs Vl} (hl : LMono LR) (hfn : ∀ a S e S', fn a S ≠ .exc e S')
    (h : tE K g LR C W (fun C env S => (fz f1 C env S).bind fun a S1 => fn a S1) σ H Q) :
    tE K g LR C W (fz f1) σ H fun x H1 => rV1 K g LR fn x H1 Q := by
  obtain ⟨env, F, R, ι, S, re, rp, p⟩ := h
  refine ⟨env, F, R, ι, S, re, rp, post_bind p fun v S1 F1 ι1 H1 x hr sm ie rp1 rv p1 => ?_⟩
  exact ⟨_, F1, R, ι1, S1, v, rv, rp1, p1, hfn v S1⟩
end

/-! ### names, constants -/
section
variable {g : Stat} {N : List Str} {sc : Scope}
theorem fe_of {e : Expr} {f : EF} (h : ∀ LR C X W, XOk g LR C N sc X → Takes X W → PE X e (tE X.K g LR C W f)) (he : ∀ env whole, isTrue e env whole = (do let v ← whole; standAt e.pos; holding [v] (truthy v)))
    (st : ∀ env es, starEach (e :: es) env = (false, eval e env) :: starEach es env) : FE g N sc e f := by
  refine ⟨h, fun LR C X W ok tk => ?_, st⟩
  refine PT.imp (pt_val (h LR C X W ok tk) fun whole => he _ whole) fun σ H Q q => ?_
  obtain ⟨env, F, R, ι, S, re, rp, p⟩ := q
  refine ⟨env, F, R, ι, S, re, rp, ?_⟩
  cases hr : f C env S with
  | bad => rw [hr] at p; exact p
  | exc e S' => rw [hr] at p; exact p
  | ok v S' =>
    rw [hr] at p
    obtain ⟨b, rfl, p⟩ := p
    intro F' ι' H' x sm ie rp' rt
    cases rt
    exact ⟨b, rfl, p F' ι' H' sm ie rp'⟩
/-- a test's reading from the value's, where the test's rule is its own -/
theorem tT_imp {X : Cx} {K : PySem.W.Frag} {LR : LRT} {C : Cxt} {W : WX} {f : EF} {σ : L2.St} {H : Hp} {Q : Bool → Hp → Prop} (q : tT K g LR C W f σ H Q) : tE K g LR C W f σ H (fun x H1 => ∃ k, x = .bl k ∧ Q k H1) := by
  obtain ⟨env, F, R, ι, S, re, rp, p⟩ := q
  refine ⟨env, F, R, ι, S, re, rp, ?_⟩
  cases hr : f C env S with
  | bad => rw [hr] at p; exact p
  | exc e S' => rw [hr] at p; exact p
  | ok v S' =>
    rw [hr] at p
    obtain ⟨b, rfl, p⟩ := p
    intro F' ι' H' x sm ie rp' rt
    cases rt
    exact ⟨b, rfl, p F' ι' H' sm ie rp'⟩

theorem fe_var {x : Str} {pos : Pos} (i : Nat) (hi : N[i]? = some x) (hv : Vis sc x) (hd : (x == ("__debug__" : Str)) = false := by decide) (hcd : (x == ("__classdict__" : Str)) = false := by decide) :
    FE g N sc (.Name x pos) (eVar i) := by
  refine fe_of (fun LR C X W ok tk => ?_) (fun _ _ => rfl) (fun _ _ => rfl)
  refine PE.imp (pe_var (i := i) (by rw [ok.hN]; exact hi) (by rw [ok.sc]; exact hv) hd hcd) fun σ H Q q => ?_
  obtain ⟨env, F, R, ι, S, re, rp, p⟩ := q
  unfold eVar at p
  split at p
  · rename_i v hv
    obtain ⟨y, hy, ry⟩ := re.2 i v hv
    exact ⟨y, hy, p F ι H y (Same.refl F) IExt.refl rp (RV.rt ry)⟩
  · exact p.elim
theorem fe_take {x : Str} {pos : Pos} (i : Nat) (hi : N[i]? = some x) (hv : Vis sc x) (hd : (x == ("__debug__" : Str)) = false := by decide) (hcd : (x == ("__classdict__" : Str)) = false := by decide) :
    FE g N sc (.Name x pos) (eTake i) := by
  refine fe_of (fun LR C X W ok tk => ?_) (fun _ _ => rfl) (fun _ _ => rfl)
  refine PE.imp (pe_var (i := i) (by rw [ok.hN]; exact hi) (by rw [ok.sc]; exact hv) hd hcd) fun σ H Q q => ?_
  obtain ⟨env, F, R, ι, S, re, rp, p⟩ := q
  unfold eTake at p
  split at p
  · rename_i n hv
    split at p
    · rename_i xs hs
      obtain ⟨y, hy, hn, ey⟩ := re.2 i _ hv
      refine ⟨y, hy, ?_⟩
      obtain ⟨vs, h1, h2⟩ := rp.box _ _ hs
      obtain ⟨f1, r1⟩ := rp.fr _ _ hs trivial
      have hlt : n < S.length := hn
      have get' : ∀ j o, (S.set n .dead)[j]? = some o → live o → j ≠ n ∧ S[j]? = some o := fun j o e hl => by
        by_cases hj : n = j
        · subst hj
          rw [List.getElem?_set_self hlt] at e
          cases e
          exact hl.elim
        · rw [List.getElem?_set_ne hj] at e
          exact ⟨fun z => hj z.symm, e⟩
      have sm : Same F (upd F (ι n) (.lst vs)) := same_upd f1
      refine p (upd F (ι n) (.lst vs)) ι H y sm ⟨by simp, fun _ _ => rfl⟩ ?_ ?_
      · refine ⟨fun c u q => ?_, rp.rH, fun j o e => ?_, fun j k oj ok e1 e2 l1 l2 ee => ?_, fun j o e hl => ?_, fun a u q => by rw [upd_ne (ne_of_none q r1)]; exact rp.dj a u q, rp.tabs, upd_nt rp.ntF (fun _ z => by cases z), rp.ntR⟩
        · by_cases hc : c = ι n
          · rw [hc, upd_same] at q; cases q; rw [hc]; exact h1
          · rw [upd_ne hc] at q; exact rp.fH _ _ q
        · by_cases hl : live o
          · exact RB.mono sm (rp.box j o (get' j o e hl).2)
          · cases o with
            | dead => trivial
            | _ => exact absurd trivial hl
        · exact rp.inj j k oj ok (get' j oj e1 l1).2 (get' k ok e2 l2).2 l1 l2 ee
        · obtain ⟨hj, e'⟩ := get' j o e hl
          have ne : ι j ≠ ι n := fun z => hj (rp.inj j n o _ e' hs hl trivial z)
          exact ⟨by rw [upd_ne ne]; exact (rp.fr j o e' hl).1, (rp.fr j o e' hl).2⟩
      · rw [ey]
        exact RD.lst upd_same (RDs.mono sm h2)
    · exact p.elim
  · exact p.elim
theorem fe_int {i j pos} : FE g N sc (.Constant (.int i) j pos) (eC (.int i)) := by
  refine fe_of (fun LR C X W ok tk => PE.imp pe_int fun σ H Q q => ?_) (fun _ _ => rfl) (fun _ _ => rfl)
  obtain ⟨env, F, R, ι, S, re, rp, p⟩ := q
  exact p F ι H _ (Same.refl F) IExt.refl rp (.int i)
theorem fe_bl {i j pos} : FE g N sc (.Constant (.bool i) j pos) (eC (.bl i)) := by
  refine fe_of (fun LR C X W ok tk => PE.imp pe_bl fun σ H Q q => ?_) (fun _ _ => rfl) (fun _ _ => rfl)
  obtain ⟨env, F, R, ι, S, re, rp, p⟩ := q
  exact p F ι H _ (Same.refl F) IExt.refl rp (.bl i)
theorem fe_non {j pos} : FE g N sc (.Constant .none j pos) (eC .non) := by
  refine fe_of (fun LR C X W ok tk => PE.imp pe_non fun σ H Q q => ?_) (fun _ _ => rfl) (fun _ _ => rfl)
  obtain ⟨env, F, R, ι, S, re, rp, p⟩ := q
  exact p F ι H _ (Same.refl F) IExt.refl rp .non
theorem fe_str {x j pos} : FE g N sc (.Constant (.str x) j pos) (eC (.str x)) := by
  refine fe_of (fun LR C X W ok tk => PE.imp pe_str fun σ H Q q => ?_) (fun _ _ => rfl) (fun _ _ => rfl)
  obtain ⟨env, F, R, ι, S, re, rp, p⟩ := q
  exact p F ι H _ (Same.refl F) IExt.refl rp (.str x)
/-- a module's number -/
theorem fe_gint {x : Str} {pos : Pos} {i : Int} (hg : sc.names.lookup x = some .globalImplicit) (hm : ∀ K mg, g.M K mg → ∃ t, mg x = some (.int i t)) (hd : (x == ("__debug__" : Str)) = false := by decide) : FE g N sc (.Name x pos) (eC (.int i)) := by
  refine fe_of (fun LR C X W ok tk => ?_) (fun _ _ => rfl) (fun _ _ => rfl)
  obtain ⟨t, hm⟩ := hm _ _ ok.facts
  refine PE.imp (pe_glob (v := .int i) (show X.env.scope.names.lookup x = _ by rw [ok.sc]; exact hg) hm ⟨t, rfl⟩ hd) fun σ H Q q => ?_
  obtain ⟨env, F, R, ι, S, re, rp, p⟩ := q
  exact p F ι H _ (Same.refl F) IExt.refl rp (.int i)
end
end PyS
end

section
set_option Elab.async false
set_option linter.all false
set_option maxRecDepth 100000
set_option
        maxHeartbeats 4000000
/-! PSnd3: operators, comparisons, truth. -/
namespace PyS
open PySem PySem.Spec PyProof.Rows L2 Py

section
variable {K : PySem.W.Frag} {g : Stat} {LR : LRT} {F F' R H H' : Hp} {ι ι' : Nat → Addr} {S S' : Sto} {x y : V} {a b v : Vl} {σ : L2.St} {env : Slots} {w : Value → Option Addr → Hp → Prop} {Q : VK} {xs : List D} {vs : List V}
theorem cap_eq : sizeCap = sizeLine := by rw [sizeLine_eq]; rfl
theorem post_new (p : PostE K g LR w F R ι S (.ok (.new xs) S) Q) (rp : Rep K g F R ι S H) (rs : RDs K g.gc F vs xs) (q : Addr) (hq : H q = none) : Q (.ref q) (upd H q (.lst vs)) := by
  refine p F ι _ _ (Same.refl F) IExt.refl (rp.grow hq) ⟨q, vs, rfl, upd_same, rs, rp.fH.free hq, rp.rH.free hq, fun i o e hl z => ?_⟩
  obtain ⟨u, hu, _⟩ := RB.there hl (rp.box i o e)
  rw [z, hq] at hu
  cases hu
theorem post_tup (p : PostE K g LR w F R ι S (.ok (.d (.tup xs)) S) Q) (rp : Rep K g F R ι S H) (rs : RDs K g.gc F vs xs) (q : Addr) (hq : H q = none) : Q (.ref q) (upd H q (.tup vs)) := by
  obtain ⟨rp', sm, _⟩ := rp.growF (o := .tup vs) hq
  exact p _ ι _ _ sm IExt.refl rp' (RD.tup (SqT.of upd_same) (RDs.mono sm rs))
theorem post_d {d : D} (p : PostE K g LR w F R ι S (.ok (.d d) S) Q) (rp : Rep K g F R ι S H) (r : RD K g.gc F x d) : Q x H :=
  p F ι H x (Same.refl F) IExt.refl rp r
theorem unbox_int {i : Int} (rp : Rep K g F R ι S H) (r : RV K g.gc LR F ι S.length x v) (e : v.unbox S = .d (.int i)) : x = .int i := by
  rcases unbox_d r rp e with q | ⟨p, vs, xs, z, _⟩
  · cases q; rfl
  · cases z
theorem unbox_tup (rp : Rep K g F R ι S H) (r : RV K g.gc LR F ι S.length x v) (e : v.unbox S = .d (.tup xs)) : ∃ p vs, x = .ref p ∧ SqT K H p vs ∧ RDs K g.gc F vs xs := by
  rcases unbox_d r rp e with q | ⟨p, vs, xs, z, _⟩
  · cases q with
    | tup h1 h2 => exact ⟨_, _, rfl, sqT_mono rp.fH h1, h2⟩
  · cases z
end

def opX : Bin → Operator
  | .add => .Add
  | .sub => .Sub
  | .mul => .Mult
  | .fdiv => .FloorDiv
  | .mod => .Mod
  | .pow => .Pow
theorem mulOk_iff {i j : Int} (h : mulOk i j = true) : CMul i j := by
  unfold mulOk at h
  simp only [Bool.or_eq_true, Bool.and_eq_true, decide_eq_true_eq] at h
  exact h
section
variable {X : Cx} {g : Stat} {LR : LRT} {w : Value → Option Addr → Hp → Prop}
/-- whole numbers -/
theorem op_bint (op : Bin) {pins : List (Addr × Obj)} {s : Shared} {σ : L2.St} {H : Hp} {i j k : Int} {v u : Value} {Q : VK} (I : Inv X pins σ H s) (rx : RelV (.int i) v) (ry : RelV (.int j) u) (h : binInt op i j = some k) (q : Q (.int k) H) :
    wpAny (model X.prog X.w) X.A (binaryOp (opX op) v u) (EP X pins σ Q) X.xe s := by
  cases op with
  | add => cases h; exact op_add pins s σ H _ _ v u Q I rx ry ⟨i, j, rfl, rfl, q⟩
  | sub => cases h; exact op_sub pins s σ H _ _ v u Q I rx ry ⟨i, j, rfl, rfl, q⟩
  | mul =>
    simp only [binInt] at h
    split at h
    · rename_i hm
      cases h
      exact op_mul pins s σ H _ _ v u Q I rx ry ⟨i, j, rfl, rfl, mulOk_iff hm, q⟩
    · cases h
  | fdiv =>
    simp only [binInt] at h
    split at h
    · rename_i hm
      cases h
      exact op_fdivN pins s σ H _ _ v u Q I rx ry ⟨i, j, rfl, rfl, hm, q⟩
    · cases h
  | mod =>
    simp only [binInt] at h
    split at h
    · rename_i hm
      cases h
      exact op_modN pins s σ H _ _ v u Q I rx ry ⟨i, j, rfl, rfl, hm, q⟩
    · cases h
  | pow =>
    simp only [binInt] at h
    split at h
    · rename_i hm
      cases h
      exact op_pow pins s σ H _ _ v u Q I rx ry ⟨i, j, rfl, rfl, hm, q⟩
    · cases h
theorem op_bin (op : Bin) : OpR X (binaryOp (opX op)) (rV2 X.K g LR fun a b S => binV op (a.unbox S) (b.unbox S) S) := by
  intro pins
          s σ H x y v u Q I rx ry h
  obtain ⟨w, F, R, ι, S, a, b, ra, rb, rp, p, _⟩ := h
  simp only [binV] at p
  split at p
  · rename_i i j ea eb
    have e1 := unbox_int rp ra ea
    have e2 := unbox_int rp rb eb
    subst e1 e2
    split at p
    · rename_i k hk
      exact op_bint op I rx ry hk (post_d p rp (.int k))
    · exact p.elim
  · rename_i xs ys ea eb
    obtain ⟨p1, vs, rfl, h1, r1⟩ := unbox_lst rp ra ea
    obtain ⟨p2, ws, rfl, h2, r2⟩ := unbox_lst rp rb eb
    split at p
    · split at p
      · rename_i hz
        refine op_cat pins s σ H _ _ v u Q I rx ry ⟨p1, p2, vs, ws, rfl, rfl, h1, h2, by rw [r1.length, r2.length, ← cap_eq]; exact hz, fun q hq => post_new p rp (r1.append r2) q hq⟩
      · exact p.elim
    · exact p.elim
  · rename_i xs k ea eb
    obtain ⟨p1, vs, rfl, h1, r1⟩ := unbox_lst rp ra ea
    have e2 := unbox_int rp rb eb
    subst e2
    split at p
    · split at p
      · rename_i hz
        refine op_rep pins s σ H _ _ v u Q I rx ry ⟨p1, k, vs, rfl, rfl, h1, hz.1, hz.2.1, by rw [r1.length, ← cap_eq]; exact hz.2.2, fun q hq => post_new p rp (r1.rep _) q hq⟩
      · exact p.elim
    · exact p.elim
  · rename_i xs ys ea eb
    obtain ⟨p1, vs, rfl, h1, r1⟩ := unbox_tup rp ra ea
    obtain ⟨p2, ws, rfl, h2, r2⟩ := unbox_tup rp rb eb
    split at p
    · split at p
      · rename_i hz
        have l1 := r1.length
        have l2 := r2.length
        refine op_catA pins s σ H _ _ v u Q I rx ry ⟨p1, p2, vs, ws, rfl, rfl, h1, h2, by rw [l1, l2, ← cap_eq]; exact hz, fun e => ?_, fun _ e => ?_, fun _ _ q hq => post_tup p rp (r1.append r2) q hq⟩
        · subst e
          cases r1
          rcases unbox_d rb rp eb with q | ⟨_, _, _, z, _⟩
          · exact post_d p rp q
          · cases z
        · subst e
          cases r2
          rw [List.append_nil] at p
          rcases unbox_d ra rp ea with q | ⟨_, _, _, z, _⟩
          · exact post_d p rp q
          · cases z
      · exact p.elim
    · exact p.elim
  · exact p.elim

def cmpX : Cmp → CmpOp
  | .lt => .Lt
  | .le => .LtE
  | .gt => .Gt
  | .ge => .GtE
  | .eq => .Eq
  | .ne => .NotEq
  | .isIn => .In
  | .notIn => .NotIn
theorem int?_eq {K : PySem.W.Frag} {F : Hp} {ι : Nat → Addr} {m : Nat} {x : V} {v : Vl} {i : Int} (r : RV K g.gc LR F ι m x v) (e : v.int? = some i) : x = .int i := by
  cases v with
  | d d =>
    cases d with
    | int j =>
      cases e
      cases r
      rfl
    | _ => cases e
  | _ => cases e
theorem all_plains {xs : List D} (h : xs.all D.cmpOk = true) : D.plains xs = true := by
  induction xs with
  | nil => rfl
  | cons x xs ih =>
    simp only [List.all_cons,
            Bool.and_eq_true] at h
    simp only [D.plains, plain_of h.1, ih h.2, Bool.and_self]
theorem any_of {xs : List D} {x : D} (h : xs.all D.cmpOk = true) (hx : x.cmpOk = true) : ((toPys xs).any fun z => PyData.eqv z (toPy x)) = xs.any fun y => y.eqv x := by
  induction xs with
  | nil => rfl
  | cons z xs ih =>
    simp only [List.all_cons,
            Bool.and_eq_true] at h
    simp only [toPys, List.any_cons, ih h.2, eqv_of z x (plain_of h.1) (plain_of hx)]
theorem op_cmp (op : Cmp) (hu : X.A.units + 65 < cLine) : OpR X (compareOp (cmpX op)) (rV2 X.K g LR (cmpV op)) := by
  intro pins
          s σ H x y v u Q I rx ry h
  obtain ⟨w, F, R, ι, S, a, b, ra, rb, rp, p, _⟩ := h
  have nums : ∀ {op : Cmp}, PostE X.K g LR w F R ι S (cmpI op a b S) Q → ∃ i j, x = .int i ∧ y = .int j ∧ Q (.bl (cmpInt op i j)) H := by
    intro op p
    unfold cmpI at p
    split at p
    · rename_i i j ea eb
      have e1 := int?_eq ra ea
      have e2 := int?_eq rb eb
      subst e1 e2
      exact ⟨i, j, rfl, rfl, post_d p rp (.bl _)⟩
    · exact p.elim
  cases op with
  | lt => obtain ⟨i, j, rfl, rfl, q⟩ := nums (op := .lt) p; exact op_lt pins s σ H _ _ v u Q I rx ry ⟨i, j, rfl, rfl, q⟩
  | le => obtain ⟨i, j, rfl, rfl, q⟩ := nums (op := .le) p; exact op_le pins s σ H _ _ v u Q I rx ry ⟨i, j, rfl, rfl, q⟩
  | gt => obtain ⟨i, j, rfl, rfl, q⟩ := nums (op := .gt) p; exact op_gt pins s σ H _ _ v u Q I rx ry ⟨i, j, rfl, rfl, q⟩
  | ge => obtain ⟨i, j, rfl, rfl, q⟩ := nums (op := .ge) p; exact op_ge pins s σ H _ _ v u Q I rx ry ⟨i, j, rfl, rfl, q⟩
  | eq =>
    simp only [cmpV] at p
    split at p
    · rename_i d e ea eb
      split at p
      · rename_i hc
        simp
                only [Bool.and_eq_true] at hc
        rw [eqv_of _ _ (plain_of hc.1) (plain_of hc.2)] at p
        exact op_eqD (by omega) pins s σ H _ _ v u Q I rx ry ⟨_, _, unbox_dp ra rp ea (plain_of hc.1), unbox_dp rb rp eb (plain_of hc.2), shaped_of hc.1, shaped_of hc.2, post_d p rp (.bl _)⟩
      · exact p.elim
    · exact p.elim
  | ne =>
    simp only [cmpV] at p
    split at p
    · rename_i d e ea eb
      split at p
      · rename_i hc
        simp
                only [Bool.and_eq_true] at hc
        rw [eqv_of _ _ (plain_of hc.1) (plain_of hc.2)] at p
        exact op_neD (by omega) pins s σ H _ _ v u Q I rx ry ⟨_, _, unbox_dp ra rp ea (plain_of hc.1), unbox_dp rb rp eb (plain_of hc.2), shaped_of hc.1, shaped_of hc.2, post_d p rp (.bl _)⟩
      · exact p.elim
    · exact p.elim
  | isIn =>
    simp only [cmpV] at p
    split at p
    · rename_i d ys ea eb
      split at p
      · rename_i hc
        simp
                only [Bool.and_eq_true] at hc
        obtain ⟨q, vs, rfl, rs, sq, _⟩ := seq_at rp rb eb
        have hd := unbox_dp ra rp ea (plain_of hc.1)
        have hs := shaped_lst hc.2
        rw [← any_of hc.2 hc.1] at p
        have q1 := post_d p rp (.bl _)
        rcases sq with sq | sq
        · exact op_inD hu pins s σ H _ _ v u Q I rx ry ⟨_, _, hd, Dp.lst sq (dps_of rp.fH rs (all_plains hc.2)), shaped_of hc.1, hs.1, q1⟩
        · obtain ⟨as, r1⟩ := Dp.reads I _ x v hd rx
          obtain ⟨bs, r2⟩ := Dp.reads I (.tuple (toPys ys)) _ u (Dp.tup sq (dps_of rp.fH rs (all_plains hc.2))) ry
          exact SeqAt.in_tuple_reads r2 r1 hs.2 (SeqAt.canLay_of_shaped (shaped_of hc.1)) (room_in_shaped (shaped_of hc.1) hu) ⟨.bl _, H, I, rfl, q1⟩
      · exact p.elim
    · exact p.elim
  | notIn =>
    simp only [cmpV] at p
    split at p
    · rename_i d ys ea eb
      split at p
      · rename_i hc
        simp
                only [Bool.and_eq_true] at hc
        obtain ⟨q, vs, rfl, rs, sq, _⟩ := seq_at rp rb eb
        have hd := unbox_dp ra rp ea (plain_of hc.1)
        have hs := shaped_lst hc.2
        rw [← any_of hc.2 hc.1] at p
        have q1 := post_d p rp (.bl _)
        rcases sq with sq | sq
        · exact op_notInD hu pins s σ H _ _ v u Q I rx ry ⟨_, _, hd, Dp.lst sq (dps_of rp.fH rs (all_plains hc.2)), shaped_of hc.1, hs.1, q1⟩
        · obtain ⟨as, r1⟩ := Dp.reads I _ x v hd rx
          obtain ⟨bs, r2⟩ := Dp.reads I (.tuple (toPys ys)) _ u (Dp.tup sq (dps_of rp.fH rs (all_plains hc.2))) ry
          exact SeqAt.notIn_tuple_reads r2 r1 hs.2 (SeqAt.canLay_of_shaped (shaped_of hc.1)) (room_in_shaped (shaped_of hc.1) hu) ⟨.bl _, H, I, rfl, q1⟩
      · exact p.elim
    · exact p.elim
end

section
variable {g : Stat} {N : List Str} {sc : Scope}
theorem XOk.hu {LR : LRT} {C : Cxt} {X : Cx} (ok : XOk g LR C N sc X) : X.A.units + 65 < cLine := by
  obtain ⟨k, r, _⟩ := ok.room
  have := r.un
  omega
theorem binV_ok (op : Bin) (a b : Vl) (S : Sto) (e : Xn) (S' : Sto) : binV op a b S ≠ .exc e S' := by
  intro h
  unfold binV at h
  repeat' split at h
  all_goals cases h
theorem cmpV_ok (op : Cmp) (a b : Vl) (S : Sto) (e : Xn) (S' : Sto) : cmpV op a b S ≠ .exc e S' := by
  intro h
  unfold cmpV cmpI at h
  repeat' split at h
  all_goals cases h
variable {e1 e2 e3 : Expr} {f1 f2 f3 : EF} {pos : Pos}
theorem fe_bin (op : Bin) (h1 : FE g N sc e1 f1) (h2 : FE g N sc e2 f2) : FE g N sc (.BinOp e1 (opX op) e2 pos) (eBin op f1 f2) := by
  refine fe_of (fun LR C X W ok tk => ?_) (fun _ _ => rfl) (fun _ _ => rfl)
  exact PE.imp (pe_op (op_bin (g := g) (LR := LR) op) (h1.fz ok tk) (h2.fz ok tk)) fun σ H Q q => op2_of ok.lm (fun a b S e S' => binV_ok op _ _ S e S') q
theorem fe_neg (h1 : FE g N sc e1 f1) : FE g N sc (.UnaryOp .USub e1 pos) (eNeg f1) := by
  refine fe_of (fun LR C X W ok tk => ?_) (fun _ _ => rfl) (fun _ _ => rfl)
  refine PE.imp (pe_un un_neg (h1.fz ok tk)) fun σ H Q q => ?_
  obtain ⟨env, F, R, ι, S, re, rp, p⟩ := q
  refine ⟨env, F, R, ι, S, re, rp, post_bind p fun v S1 F1 ι1 H1 x hr sm ie rp1 rv p1 => ?_⟩
  split at p1
  · rename_i i
    cases rv
    exact ⟨i, rfl, post_d p1 rp1 (.int _)⟩
  · exact p1.elim
theorem fe_cmp (op : Cmp) (h1 : FE g N sc e1 f1) (h2 : FE g N sc e2 f2) (hm : behindInMarks (cmpX op) e2 = false) : FE g N sc (.Compare e1 [cmpX op] [e2] pos) (eCmp op f1 f2) := by
  refine ⟨fun LR C X W ok tk => ?_, fun LR C X W ok tk => ?_, fun _ _ => rfl⟩
  · exact PE.imp (pe_cmpR (op_cmp (g := g) (LR := LR) op ok.hu) (h1.fz ok tk) (h2.fz ok tk) hm) fun σ H Q q => op2_of ok.lm (cmpV_ok op) q
  · exact PT.imp (pt_cmpR (op_cmp (g := g) (LR := LR) op ok.hu) (h1.fz ok tk) (h2.fz ok tk) hm) fun σ H Q q => op2_of ok.lm (cmpV_ok op) (tT_imp (X := X) q)
theorem fe_chain (op op' : Cmp) (h1 : FE g N sc e1 f1) (h2 : FE g N sc e2 f2) (h3 : FE g N sc e3 f3) (hm : lastMarks [cmpX op, cmpX op'] [e2, e3] = false) : FE g N sc (.Compare e1 [cmpX op, cmpX op'] [e2, e3] pos) (eChain op op' f1 f2 f3) := by
  have main : ∀ {LR : LRT} {C : Cxt} {X : Cx} {W : WX} {σ : L2.St} {H : Hp} {Q : VK}, XOk g LR C N sc X → tE X.K g LR C W (eChain op op' f1 f2 f3) σ H Q →
      tChain (rV2 X.K g LR (cmpV op)) (rV2 X.K g LR (cmpV op')) (tE X.K g LR C W (fz f1)) (tE X.K g LR C W (fz f2)) (tE X.K g LR C W (fz f3)) σ H Q := by
    intro LR C X W σ H Q ok q
    obtain ⟨env, F, R, ι, S, re, rp, p⟩ := q
    refine ⟨env, F, R, ι, S, re, rp, post_bind p fun v S1 F1 ι1 H1 x hr sm ie rp1 rv p1 => ?_⟩
    refine ⟨env, F1, R, ι1, S1, REnv.ext ok.lm sm ie re, rp1, post_bind p1 fun u S2 F2 ι2 H2 y hr2 sm2 ie2 rp2 rv2 p2 => ?_⟩
    refine ⟨fun c d H => W c d σ H, F2, R, ι2, S2, v, u, RV.ext ok.lm sm2 ie2 rv, rv2, rp2, ?_, cmpV_ok op v u S2⟩
    have noX := cmpV_ok op v u S2
    cases hc : cmpV op v u S2 with
    | bad => rw [hc] at p2; exact p2
    | exc e S' => exact absurd hc (noX e S')
    | ok r S3 =>
      rw [hc] at p2
      intro F3 ι3 H3 z sm3 ie3 rp3 rt3
      cases r with
      | d d =>
        cases d with
        | bl b =>
          cases rt3
          refine ⟨b, rfl, ?_⟩
          cases b with
          | true =>
            rw [if_pos rfl]
            have p3 := PostE.up sm3 ie3 (show PostE X.K g LR (fun c d H => W c d σ H) F2 R ι2 S2 ((fz f3 C env S3).bind fun c S4 => cmpV op' u c S4) Q from p2)
            refine ⟨env, F3, R, ι3, S3, REnv.ext ok.lm sm3 ie3 (REnv.ext ok.lm sm2 ie2 (REnv.ext ok.lm sm ie re)), rp3, post_bind p3 fun c S4 F4 ι4 H4 z4 hr4 sm4 ie4 rp4 rv4 p4 => ?_⟩
            exact ⟨_, F4, R, ι4, S4, u, c, RV.ext ok.lm sm4 ie4 (RV.ext ok.lm sm3 ie3 rv2), rv4, rp4, p4, cmpV_ok op' u c S4⟩
          | false =>
            rw [if_neg
                    Bool.false_ne_true]
            exact p2 F3 ι3 H3 _ sm3 ie3 rp3 (RD.bl false)
        | _ => exact p2.elim
      | _ => exact p2.elim
  refine ⟨fun LR C X W ok tk => ?_, fun LR C X W ok tk => ?_, fun _ _ => rfl⟩
  · exact PE.imp (pe_chain (op_cmp (g := g) (LR := LR) op ok.hu) (op_cmp (g := g) (LR := LR) op' ok.hu) (h1.fz ok tk) (h2.fz ok tk) (h3.fz ok tk) hm) fun σ H Q q => main ok q
  · exact PT.imp (pt_chain (op_cmp (g := g) (LR := LR) op ok.hu) (op_cmp (g := g) (LR := LR) op' ok.hu) (h1.fz ok tk) (h2.fz ok tk) (h3.fz ok tk) hm) fun σ H Q q => main ok (tT_imp (X := X) q)
end
end PyS
end

section
set_option Elab.async false
set_option linter.all false
set_option maxRecDepth 100000
set_option
        maxHeartbeats 4000000
/-! PSnd4: truth, displays, subscripts, fields. -/
namespace PyS
open PySem PySem.Spec PyProof.Rows L2 Py

section
variable {K : PySem.W.Frag} {g : Stat} {LR : LRT} {F F' R H H' : Hp} {ι ι' : Nat → Addr} {S S' : Sto} {x y : V} {a b v : Vl} {σ : L2.St} {env : Slots} {w : Value → Option Addr → Hp → Prop} {xs : List D} {vs : List V}
/-- behind a test -/
theorem bindT {f : EF} {Ca : Cxt} {k : Vl → Sto → Rs Vl} {Q Q1 : Bool → Hp → Prop} (h : PostT K g w F R ι S ((fz f Ca env S).bind k) Q) (hk : ∀ v S1, (∀ b, v ≠ .d (.bl b)) → k v S1 = .bad)
    (i : ∀ b S1 F1 ι1 H1, Same F F1 → IExt S ι S1 ι1 → Rep K g F1 R ι1 S1 H1 → PostT K g w F1 R ι1 S1 (k (.d (.bl b)) S1) Q → Q1 b H1) : PostT K g w F R ι S (f Ca env S) Q1 := by
  unfold Py.fz at h
  cases hr : f Ca env S with
  | bad => rw [hr] at h; exact h
  | exc e S' => rw [hr] at h; exact h
  | ok v S1 =>
    rw [hr] at h
    have h : PostT K g w F R ι S (k v.frz S1) Q := h
    by_cases hb : ∃ b, v = .d (.bl b)
    · obtain ⟨b, rfl⟩ := hb
      exact ⟨b, rfl, fun F1 ι1 H1 sm ie rp => i b S1 F1 ι1 H1 sm ie rp (PostT.up sm ie h)⟩
    · rw [hk v.frz S1 fun b z => hb ⟨b, by cases v <;> cases z <;> rfl⟩] at h
      exact h.elim
theorem bindTE {f : EF} {Ca : Cxt} {k : Vl → Sto → Rs Vl} {Q : VK} {Q1 : Bool → Hp → Prop} (h : PostE K g LR w F R ι S ((fz f Ca env S).bind k) Q) (hk : ∀ v S1, (∀ b, v ≠ .d (.bl b)) → k v S1 = .bad)
    (i : ∀ b S1 F1 ι1 H1, Same F F1 → IExt S ι S1 ι1 → Rep K g F1 R ι1 S1 H1 → PostE K g LR w F1 R ι1 S1 (k (.d (.bl b)) S1) Q → Q1 b H1) : PostT K g w F R ι S (f Ca env S) Q1 := by
  unfold Py.fz at h
  cases hr : f Ca env S with
  | bad => rw [hr] at h; exact h
  | exc e S' => rw [hr] at h; exact h
  | ok v S1 =>
    rw [hr] at h
    have h : PostE K g LR w F R ι S (k v.frz S1) Q := h
    by_cases hb : ∃ b, v = .d (.bl b)
    · obtain ⟨b, rfl⟩ := hb
      exact ⟨b, rfl, fun F1 ι1 H1 sm ie rp => i b S1 F1 ι1 H1 sm ie rp (PostE.up sm ie h)⟩
    · rw [hk v.frz S1 fun b z => hb ⟨b, by cases v <;> cases z <;> rfl⟩] at h
      exact h.elim
end

section
variable {g : Stat} {N : List Str} {sc : Scope} {e1 e2 e3 : Expr} {f1 f2 f3 : EF} {pos : Pos}
/-- and, or: the row of operands from here on -/
structure FB (g : Stat) (N : List Str) (sc : Scope) (op : BoolOp) (es : List Expr) (pos : Pos) (f : EF) : Prop where
  ev : ∀ LR C X W, XOk g LR C N sc X → Takes X W → PE X (.BoolOp op es pos) (tE X.K g LR C W f)
  te : ∀ LR C X W, XOk g LR C N sc X → Takes X W → PW X (.BoolOp op es pos) (tT X.K g LR C W f)
theorem PW.imp {X : Cx} {e : Expr} {t t' : TT} (h : PW X e t) (i : ∀ σ H Q, t' σ H Q → t σ H Q) : PW X e t' := ⟨fun wh pins s σ H Q I q => h.run wh pins s σ H Q I (i _ _ _ q)⟩
theorem fb_and1 (h : FE g N sc e1 f1) : FB g N sc .And [e1] pos f1 := ⟨fun LR C X W ok tk => pe_one (h.ev LR C X W ok tk), fun LR C X W ok tk => pw_and1 (h.te LR C X W ok tk)⟩
theorem fb_or1 (h : FE g N sc e1 f1) : FB g N sc .Or [e1] pos f1 := ⟨fun LR C X W ok tk => pe_one (h.ev LR C X W ok tk), fun LR C X W ok tk => pw_or1 (h.te LR C X W ok tk)⟩
theorem andK {f2 : EF} {C : Cxt} {env : Slots} : ∀ (v : Vl) (S1 : Sto), (∀ b, v ≠ .d (.bl b)) → (match v with
    | .d (.bl true) => f2 C env S1
    | .d (.bl false) => .ok (.d (.bl false)) S1
    | _ => (.bad : Rs Vl)) = .bad := fun v S1 h => by
  cases v with
  | d d =>
    cases d with
    | bl b => exact absurd rfl (h b)
    | _ => rfl
  | _ => rfl
theorem orK {f2 : EF} {C : Cxt} {env : Slots} : ∀ (v : Vl) (S1 : Sto), (∀ b, v ≠ .d (.bl b)) → (match v with
    | .d (.bl true) => (Rs.ok (.d (.bl true)) S1 : Rs Vl)
    | .d (.bl false) => f2 C env S1
    | _ => (.bad : Rs Vl)) = .bad := fun v S1 h => by
  cases v with
  | d d =>
    cases d with
    | bl b => exact absurd rfl (h b)
    | _ => rfl
  | _ => rfl
theorem ifK {f1 f2 : EF} {C : Cxt} {env : Slots} : ∀ (v : Vl) (S1 : Sto), (∀ b, v ≠ .d (.bl b)) → (match v with
    | .d (.bl true) => f1 C env S1
    | .d (.bl false) => f2 C env S1
    | _ => (.bad : Rs Vl)) = .bad := fun v S1 h => by
  cases v with
  | d d =>
    cases d with
    | bl b => exact absurd rfl (h b)
    | _ => rfl
  | _ => rfl
theorem fb_and {b : Expr} {rest : List Expr} (h1 : FE g N sc e1 f1) (h2 : FB g N sc .And (b :: rest) pos f2) : FB g N sc .And (e1 :: b :: rest) pos (eAnd f1 f2) := by
  refine ⟨fun LR C X W ok tk => PE.imp (pe_and (h1.fz ok tk) (h2.ev LR C X W ok tk)) fun σ H Q q => ?_, fun LR C X W ok tk => PW.imp (pw_and (h1.te LR C X W ok tk) (h2.te LR C X W ok tk)) fun σ H Q q => ?_⟩
  · obtain ⟨env, F, R, ι, S, re, rp, p⟩ := q
    refine ⟨env, F, R, ι, S, re, rp, post_bind p fun v S1 F1 ι1 H1 x hr sm ie rp1 rv p1 => ?_⟩
    cases v with
    | d d =>
      cases d with
      | bl c =>
        cases rv
        refine ⟨c, rfl, ?_⟩
        cases c with
        | true =>
          rw [if_pos rfl]
          exact ⟨env, F1, R, ι1, S1, REnv.ext ok.lm sm ie re, rp1, p1⟩
        | false =>
          rw [if_neg
                  Bool.false_ne_true]
          exact post_d p1 rp1 (.bl false)
      | _ => exact p1.elim
    | _ => exact p1.elim
  · obtain ⟨env, F, R, ι, S, re, rp, p⟩ := q
    refine ⟨env, F, R, ι, S, re, rp, bindT p andK fun c S1 F1 ι1 H1 sm ie rp1 p1 => ?_⟩
    cases c with
    | true =>
      rw [if_pos rfl]
      exact ⟨env, F1, R, ι1, S1, REnv.ext ok.lm sm ie re, rp1, p1⟩
    | false =>
      rw [if_neg
              Bool.false_ne_true]
      obtain ⟨b, e, q⟩ := p1
      cases e
      exact q F1 ι1 H1 (Same.refl _) IExt.refl rp1
theorem fb_or {b : Expr} {rest : List Expr} (h1 : FE g N sc e1 f1) (h2 : FB g N sc .Or (b :: rest) pos f2) : FB g N sc .Or (e1 :: b :: rest) pos (eOr f1 f2) := by
  refine ⟨fun LR C X W ok tk => PE.imp (pe_or (h1.fz ok tk) (h2.ev LR C X W ok tk)) fun σ H Q q => ?_, fun LR C X W ok tk => PW.imp (pw_or (h1.te LR C X W ok tk) (h2.te LR C X W ok tk)) fun σ H Q q => ?_⟩
  · obtain ⟨env, F, R, ι, S, re, rp, p⟩ := q
    refine ⟨env, F, R, ι, S, re, rp, post_bind p fun v S1 F1 ι1 H1 x hr sm ie rp1 rv p1 => ?_⟩
    cases v with
    | d d =>
      cases d with
      | bl c =>
        cases rv
        refine ⟨c, rfl, ?_⟩
        cases c with
        | true =>
          rw [if_pos rfl]
          exact post_d p1 rp1 (.bl true)
        | false =>
          rw [if_neg
                  Bool.false_ne_true]
          exact ⟨env, F1, R, ι1, S1, REnv.ext ok.lm sm ie re, rp1, p1⟩
      | _ => exact p1.elim
    | _ => exact p1.elim
  · obtain ⟨env, F, R, ι, S, re, rp, p⟩ := q
    refine ⟨env, F, R, ι, S, re, rp, bindT p orK fun c S1 F1 ι1 H1 sm ie rp1 p1 => ?_⟩
    cases c with
    | true =>
      rw [if_pos rfl]
      obtain ⟨b, e, q⟩ := p1
      cases e
      exact q F1 ι1 H1 (Same.refl _) IExt.refl rp1
    | false =>
      rw [if_neg
              Bool.false_ne_true]
      exact ⟨env, F1, R, ι1, S1, REnv.ext ok.lm sm ie re, rp1, p1⟩
theorem fe_bool {op : BoolOp} {es : List Expr} (h : FB g N sc op es pos f1) : FE g N sc (.BoolOp op es pos) f1 :=
  ⟨h.ev, fun LR C X W ok tk => (h.te LR C X W ok tk).pt, fun _ _ => rfl⟩
theorem fe_not (h1 : FE g N sc e1 f1) : FE g N sc (.UnaryOp .Not e1 pos) (eNot f1) := by
  refine ⟨fun LR C X W ok tk => PE.imp (pe_not (h1.fz ok tk)) fun σ H Q q => ?_, fun LR C X W ok tk => PT.imp (pt_not (h1.te LR C X W ok tk)) fun σ H Q q => ?_, fun _ _ => rfl⟩
  · obtain ⟨env, F, R, ι, S, re, rp, p⟩ := q
    refine ⟨env, F, R, ι, S, re, rp, post_bind p fun v S1 F1 ι1 H1 x hr sm ie rp1 rv p1 => ?_⟩
    cases v with
    | d d =>
      cases d with
      | bl c =>
        cases rv
        exact ⟨c, rfl, post_d p1 rp1 (.bl _)⟩
      | _ => exact p1.elim
    | _ => exact p1.elim
  · obtain ⟨env, F, R, ι, S, re, rp, p⟩ := q
    refine ⟨env, F, R, ι, S, re, rp, bindT p (fun v S1 h => ?_) fun c S1 F1 ι1 H1 sm ie rp1 p1 => ?_⟩
    · cases v with
      | d d =>
        cases d with
        | bl b => exact absurd rfl (h b)
        | _ => rfl
      | _ => rfl
    · obtain ⟨b, e, q⟩ := p1
      cases e
      exact q F1 ι1 H1 (Same.refl _) IExt.refl rp1
theorem fe_if (h1 : FE g N sc e1 f1) (h2 : FE g N sc e2 f2) (h3 : FE g N sc e3 f3) : FE g N sc (.IfExp e1 e2 e3 pos) (eIf f1 f2 f3) := by
  refine ⟨fun LR C X W ok tk => ?_, fun LR C X W ok tk => ?_, fun _ _ => rfl⟩
  · refine PE.imp (pe_ifExp (h1.te LR C X W ok tk) (h2.ev LR C X W ok tk) (h3.ev LR C X W ok tk)) fun σ H Q q => ?_
    obtain ⟨env, F, R, ι, S, re, rp, p⟩ := q
    refine ⟨env, F, R, ι, S, re, rp, bindTE p ifK fun c S1 F1 ι1 H1 sm ie rp1 p1 => ?_⟩
    cases c with
    | true =>
      rw [if_pos rfl]
      exact ⟨env, F1, R, ι1, S1, REnv.ext ok.lm sm ie re, rp1, p1⟩
    | false =>
      rw [if_neg
              Bool.false_ne_true]
      exact ⟨env, F1, R, ι1, S1, REnv.ext ok.lm sm ie re, rp1, p1⟩
  · have ha := h1.te LR C X W ok tk
    have hb := h2.te LR C X W ok tk
    have hc := h3.te LR C X W ok tk
    refine ⟨fun pins s σ H Q I q =>
            ?_⟩
    obtain ⟨env, F, R, ι, S, re, rp, p⟩ := q
    refine isTrue_IfExp (thn (ha.run pins s σ H (fun c H1 => if c = true then tT X.K g LR C W f2 σ H1 Q else tT X.K g LR C W f3 σ H1 Q) I ⟨env, F, R, ι, S, re, rp, bindT p ifK fun c S1 F1 ι1 H1 sm ie rp1 p1 => ?_⟩) fun c s1 q1 => ?_)
    · cases c with
      | true =>
        rw [if_pos rfl]
        exact ⟨env, F1, R, ι1, S1, REnv.ext ok.lm sm ie re, rp1, p1⟩
      | false =>
        rw [if_neg
                Bool.false_ne_true]
        exact ⟨env, F1, R, ι1, S1, REnv.ext ok.lm sm ie re, rp1, p1⟩
    · obtain ⟨H1, I1, q1⟩ := q1
      cases c with
      | true =>
        rw [if_pos rfl] at q1
        exact hb.run pins s1 σ H1 Q I1 q1
      | false =>
        rw [if_neg Bool.false_ne_true] at q1
        exact hc.run pins s1 σ H1 Q I1 q1
theorem isN_of {K : PySem.W.Frag} {LR : LRT} {C : Cxt} {W : WX} {σ : L2.St} {H : Hp} {Q : VK} {neg : Bool} (h : tE K g LR C W (eIsNone neg f1) σ H Q) :
    tE K g LR C W (fz f1) σ H fun x H1 => Q (.bl (if x = .non then !neg else neg)) H1 := by
  obtain ⟨env, F, R, ι, S, re, rp, p⟩ := h
  refine ⟨env, F, R, ι, S, re, rp, post_bind p fun v S1 F1 ι1 H1 x hr sm ie rp1 rv p1 => ?_⟩
  cases v with
  | d d =>
    cases d with
    | non =>
      cases rv
      rw [if_pos rfl]
      exact post_d p1 rp1 (.bl _)
    | _ =>
      have hx : x ≠ .non := by
        intro z
        subst z
        cases rv
      rw [if_neg hx]
      exact post_d p1 rp1 (.bl _)
  | _ => exact p1.elim
theorem fe_isN {j : Nat} {p2 : Pos} (h1 : FE g N sc e1 f1) : FE g N sc (.Compare e1 [.Is] [.Constant .none j p2] pos) (eIsNone false f1) := by
  have main : ∀ {K : PySem.W.Frag} {LR : LRT} {C : Cxt} {W : WX} {σ : L2.St} {H : Hp} {Q : VK}, tE K g LR C W (eIsNone false f1) σ H Q → tIsN (tE K g LR C W (fz f1)) σ H Q := by
    intro K LR C W σ H Q h
    obtain ⟨env, F, R, ι, S, re, rp, p⟩ := isN_of h
    refine ⟨env, F, R, ι, S, re, rp, ?_⟩
    cases hr : fz f1 C env S with
    | bad => rw [hr] at p; exact p
    | exc e S' => rw [hr] at p; exact p
    | ok u S' =>
      rw [hr] at p
      intro F' ι' H' x sm ie rp' rt
      have q : Q (.bl (if x = .non then !false else false)) H' := p F' ι' H' x sm ie rp' rt
      by_cases hx : x = .non
      · rw [if_pos hx] at q
        rw [decide_eq_true hx]
        exact q
      · rw [if_neg hx] at q
        rw [decide_eq_false hx]
        exact q
  refine ⟨fun LR C X W ok tk => ?_, fun LR C X W ok tk => ?_, fun _ _ => rfl⟩
  · exact PE.imp (pe_cmp (pc_isN (h1.fz ok tk)) (nobehind _ (by decide) (by decide))) fun σ H Q q => main q
  · exact PT.imp (pt_cmp (pc_isN (h1.fz ok tk)) (nobehind _ (by decide) (by decide))) fun σ H Q q => main (tT_imp (X := X) q)
theorem fe_notN {j : Nat} {p2 : Pos} (h1 : FE g N sc e1 f1) : FE g N sc (.Compare e1 [.IsNot] [.Constant .none j p2] pos) (eIsNone true f1) := by
  have main : ∀ {K : PySem.W.Frag} {LR : LRT} {C : Cxt} {W : WX} {σ : L2.St} {H : Hp} {Q : VK}, tE K g LR C W (eIsNone true f1) σ H Q → tNotN (tE K g LR C W (fz f1)) σ H Q := by
    intro K LR C W σ H Q h
    obtain ⟨env, F, R, ι, S, re, rp, p⟩ := isN_of h
    refine ⟨env, F, R, ι, S, re, rp, ?_⟩
    cases hr : fz f1 C env S with
    | bad => rw [hr] at p; exact p
    | exc e S' => rw [hr] at p; exact p
    | ok u S' =>
      rw [hr] at p
      intro F' ι' H' x sm ie rp' rt
      have q : Q (.bl (if x = .non then !true else true)) H' := p F' ι' H' x sm ie rp' rt
      by_cases hx : x = .non
      · rw [if_pos hx] at q
        rw [decide_eq_true hx]
        exact q
      · rw [if_neg hx] at q
        rw [decide_eq_false hx]
        exact q
  refine ⟨fun LR C X W ok tk => ?_, fun LR C X W ok tk => ?_, fun _ _ => rfl⟩
  · exact PE.imp (pe_cmp (pc_notN (h1.fz ok tk)) (nobehind _ (by decide) (by decide))) fun σ H Q q => main q
  · exact PT.imp (pt_cmp (pc_notN (h1.fz ok tk)) (nobehind _ (by decide) (by decide))) fun σ H Q q => main (tT_imp (X := X) q)

/-! ### arguments -/
inductive FEs (g : Stat) (N : List Str) (sc : Scope) : List Expr → List EF → Prop
  | nil : FEs g N sc [] []
  | cons {e : Expr} {f : EF} {es : List Expr} {fs : List EF} : FE g N sc e f → FEs g N sc es fs → FEs g N sc (e :: es) (f :: fs)
theorem post_bindA {K : PySem.W.Frag} {LR : LRT} {F R : Hp} {ι : Nat → Addr} {S : Sto} {env : Slots} {w : Value → Option Addr → Hp → Prop} {f : EF} {Ca : Cxt} {k : Vl → Sto → Rs (List Vl)} {Q : List V → Hp → Prop} {Q1 : VK} (h : PostA K g LR w F R ι S ((fz f Ca env S).bind k) Q)
    (i : ∀ v S1 F1 ι1 H1 x, fz f Ca env S = .ok v S1 → Same F F1 → IExt S ι S1 ι1 → Rep K g F1 R ι1 S1 H1 → RV K g.gc LR F1 ι1 S1.length x v → PostA K g LR w F1 R ι1 S1 (k v S1) Q → Q1 x H1) : PostE K g LR w F R ι S (fz f Ca env S) Q1 := by
  cases hr : fz f Ca env S with
  | bad =>
    rw [hr] at h
    exact h
  | exc e S' =>
    rw [hr] at h
    exact h
  | ok v S1 =>
    rw [hr] at h
    have hn : ∀ xs, v ≠ .new xs := by
      intro xs z
      unfold Py.fz at hr
      cases hf : f Ca env S with
      | bad => rw [hf] at hr; cases hr
      | exc e S' => rw [hf] at hr; cases hr
      | ok u S' =>
        rw [hf] at hr
        have hr' : (Rs.ok u.frz S' : Rs Vl) = .ok v S1 := hr
        injection hr' with h1 h2
        exact frz_ne u xs (h1.trans z)
    exact fun F1 ι1 H1 x sm ie rp rt => i v S1 F1 ι1 H1 x hr sm ie rp (RT.rv rt hn) (PostA.up sm ie h)
theorem pair_ext {K : PySem.W.Frag} {LR : LRT} {F F' : Hp} {ι ι' : Nat → Addr} {S S' : Sto} (hl : LMono LR) (sm : Same F F') (ie : IExt S ι S' ι') : ∀ {xs : List V} {vs : List Vl}, Paired (RV K g.gc LR F ι S.length) xs vs → Paired (RV K g.gc LR F' ι' S'.length) xs vs
  | _, _, .nil => .nil
  | _, _, .cons r t => .cons (RV.ext hl sm ie r) (pair_ext hl sm ie t)
theorem fa_of {es : List Expr} {fs : List EF} (h : FEs g N sc es fs) {LR : LRT} {C : Cxt} {X : Cx} {W : WX} (ok : XOk g LR C N sc X) (tk : Takes X W) : PA X es (tA X.K g LR C W fs) := by
  induction h with
  | nil =>
    refine PA.imp pa_nil fun σ H Q q => ?_
    obtain ⟨env, F, R, ι, S, re, rp, p⟩ := q
    exact p F ι H [] (Same.refl F) IExt.refl rp .nil
  | @cons e f es fs h1 _ ih =>
    refine PA.imp (pa_cons (h1.fz ok tk) ih (h1.st _ _)) fun σ H Q q => ?_
    obtain ⟨env, F, R, ι, S, re, rp, p⟩ := q
    refine ⟨env, F, R, ι, S, re, rp, post_bindA p fun v S1 F1 ι1 H1 x hr sm ie rp1 rv p1 => ?_⟩
    refine ⟨env, F1, R, ι1, S1, REnv.ext ok.lm sm ie re, rp1, ?_⟩
    cases hk : evAll fs C env S1 with
    | bad => rw [hk] at p1; exact p1
    | exc e S' => rw [hk] at p1; exact p1
    | ok vs S2 =>
      rw [hk] at p1
      exact fun F2 ι2 H2 ys sm2 ie2 rp2 r2 => p1 F2 ι2 H2 (x :: ys) sm2 ie2 rp2 (.cons (RV.ext ok.lm sm2 ie2 rv) r2)
theorem noStar {es : List Expr} {fs : List EF} (h : FEs g N sc es fs) (env : PySem.Env) (pos : Pos) : (backTo pos (starEach es env)).any (·.1) = false := by
  induction h with
  | nil => rfl
  | cons h1 _ ih =>
    rw [h1.st]
    have e : ∀ (x : Bool × Sem Value) (l : List (Bool × Sem Value)), x.1 = false → (backTo pos l).any (·.1) = false → (backTo pos (x :: l)).any (·.1) = false := by
      intro x l hx hl
      unfold backTo at hl ⊢
      rw [List.map_cons, List.any_cons, hl]
      simp [hx]
    exact e _ _ rfl ih

/-- values behind the arguments -/
theorem args_of {K : PySem.W.Frag} {LR : LRT} {C : Cxt} {W : WX} {σ : L2.St} {H : Hp} {fs : List EF} {k : Cxt → List Vl → Sto → Rs Vl} {Q : VK} {Q1 : List V → Hp → Prop}
    (h : tE K g LR C W (fun C env S => (evAll fs C env S).bind (k C)) σ H Q) (i : ∀ env F R ι S vs ws H1, REnv K g.gc LR F ι S.length σ env → Rep K g F R ι S H1 → Paired (RV K g.gc LR F ι S.length) ws vs → PostE K g LR (fun c d H => W c d σ H) F R ι S (k C vs S) Q → Q1 ws H1)
    (hl : LMono LR) : tA K g LR C W fs σ H Q1 := by
  obtain ⟨env, F, R, ι, S, re, rp, p⟩ := h
  have p : PostE K g LR (fun c d H => W c d σ H) F R ι S ((evAll fs C env S).bind (k C)) Q := p
  refine ⟨env, F, R, ι, S, re, rp, ?_⟩
  cases hk : evAll fs C env S with
  | bad => rw [hk] at p; exact p
  | exc e S' => rw [hk] at p; exact p
  | ok vs S1 =>
    rw [hk] at p
    exact fun F1 ι1 H1 ws sm ie rp1 r1 => i env F1 R ι1 S1 vs ws H1 (REnv.ext hl sm ie re) rp1 r1 (PostE.up sm ie p)
theorem toDs_rds {K : PySem.W.Frag} {LR : LRT} {F : Hp} {ι : Nat → Addr} {m : Nat} : ∀ {ws : List V} {vs : List Vl} {ds : List D}, Paired (RV K g.gc LR F ι m) ws vs → toDs vs = some ds → RDs K g.gc F ws ds
  | _, _, _, .nil, e => by cases e; exact .nil
  | _, _, _, .cons (a := x) (b := v) r t, e => by
    cases v with
    | d d =>
      simp only [toDs] at e
      cases hd : toDs _ with
      | none => rw [hd] at e; cases e
      | some ds' =>
        rw [hd] at e
        cases e
        exact .cons r (toDs_rds t hd)
    | _ => cases e
theorem fe_tup {es : List Expr} {fs : List EF} {j : Nat} (h : FEs g N sc es fs) : FE g N sc (.Tuple es j pos) (eTup fs) := by
  refine fe_of (fun LR C X W ok tk => ?_) (fun _ _ => rfl) (fun _ _ => rfl)
  refine PE.imp (pe_tup (fa_of h ok tk)) fun σ H Q q => args_of (k := fun _ vs S1 => match toDs vs with
    | some ds => if ds.length ≤ sizeCap then .ok (.d (.tup ds)) S1 else .bad
    | none => .bad) q (fun env F R ι S vs ws H1 re rp r p => ?_) ok.lm
  split at p
  · rename_i ds hd
    split at p
    · rename_i hz
      have rs := toDs_rds r hd
      exact ⟨by rw [rs.length, ← cap_eq]; exact hz, fun q hq => post_tup p rp rs q hq⟩
    · exact p.elim
  · exact p.elim
theorem fe_lst {es : List Expr} {fs : List EF} (h : FEs g N sc es fs) : FE g N sc (.List es pos) (eLst fs) := by
  refine fe_of (fun LR C X W ok tk => ?_) (fun _ _ => rfl) (fun _ _ => rfl)
  refine PE.imp (pe_lst (fa_of h ok tk)) fun σ H Q q => args_of (k := fun _ vs S1 => match toDs vs with
    | some ds => if ds.length ≤ sizeCap then .ok (.new ds) S1 else .bad
    | none => .bad) q (fun env F R ι S vs ws H1 re rp r p => ?_) ok.lm
  split at p
  · rename_i ds hd
    split at p
    · rename_i hz
      have rs := toDs_rds r hd
      exact ⟨by rw [rs.length, ← cap_eq]; exact hz, fun q hq => post_new p rp rs q hq⟩
    · exact p.elim
  · exact p.elim
end
end PyS
end

section
set_option Elab.async false
set_option linter.all false
set_option maxRecDepth 100000
set_option
        maxHeartbeats 4000000
/-! PSnd5: subscripts, fields, calls, built-ins. -/
namespace PyS
open PySem PySem.Spec PyProof.Rows L2 Py

section
variable {X : Cx} {g : Stat} {LR : LRT}
theorem ixOf_eq (n : Nat) (i : Int) : ixOf n i = ixN n i := rfl
theorem op_ix : IxR X (rV2 X.K g LR ixV) := by
  intro value
          slice pins s σ H x y v u Q I rx ry h hs
  obtain ⟨w, F, R, ι, S, a, b, ra, rb, rp, p, _⟩ := h
  unfold ixV at p
  split at p
  · rename_i i xs eb ea
    have e2 := int?_eq rb eb
    subst e2
    obtain ⟨q, vs, rfl, rs, sq, _⟩ := seq_at rp ra ea
    split at p
    · rename_i k hk
      split at p
      · rename_i z hz
        obtain ⟨vz, h1, h2⟩ := rs.get hz
        have ha : atI vs i = some vz := by
          unfold atI
          rw [rs.length, ← ixOf_eq, hk]
          exact h1
        have q1 := post_d p rp h2
        rcases sq with sq | sq
        · exact ix_list value slice pins s σ H _ _ v u Q I rx ry ⟨q, vs, i, vz, rfl, rfl, sq, ha, q1⟩ hs
        · exact ix_tup value slice pins s σ H _ _ v u Q I rx ry ⟨q, vs, i, vz, rfl, rfl, sq, ha, q1⟩ hs
      · exact p.elim
    · exact p.elim
  · exact p.elim
theorem ixV_ok (a b : Vl) (S : Sto) (e : Xn) (S' : Sto) : ixV a b S ≠ .exc e S' := by
  intro h
  unfold ixV at h
  repeat' split at h
  all_goals cases h
end

section
variable {g : Stat} {N : List Str} {sc : Scope} {e1 e2 e3 : Expr} {f1 f2 f3 : EF} {pos p1 p2 p3 : Pos}
theorem fe_ix (h1 : FE g N sc e1 f1) (h2 : FE g N sc e2 f2) (hx : PlainIx e2) (hst : ∀ env es, starEach (.Subscript e1 e2 pos :: es) env = (false, eval (.Subscript e1 e2 pos) env) :: starEach es env := by intro _ _; rfl) : FE g N sc (.Subscript e1 e2 pos) (eIx f1 f2) := by
  refine fe_of (fun LR C X W ok tk => ?_) (fun _ _ => rfl) hst
  exact PE.imp (pe_ix (op_ix (g := g) (LR := LR)) (h1.fz ok tk) (h2.fz ok tk) hx) fun σ H Q q => op2_of ok.lm ixV_ok q

/-! ### slices -/
/-- a slice's part -/
inductive FP (g : Stat) (N : List Str) (sc : Scope) : Option Expr → Option EF → Prop
  | none : FP g N sc none none
  | some {e : Expr} {f : EF} : FE g N sc e f → FP g N sc (some e) (some f)
def PostO (K : PySem.W.Frag) (g : Stat) (W : Value → Option Addr → Hp → Prop) (F R : Hp) (ι : Nat → Addr) (S : Sto) (r : Rs (Option Int)) (Q : Option Int → Hp → Prop) : Prop :=
  match r with
  | .ok o S' => ∀ F' ι' H', Same F F' → IExt S ι S' ι' → Rep K g F' R ι' S' H' → Q o H'
  | .exc e S' => ExP K g W F R ι S e S'
  | .bad => False
def tO (K : PySem.W.Frag) (g : Stat) (LR : LRT) (C : Cxt) (W : WX) (f : Option EF) : TO := fun σ H Q => ∃ env F R ι S, REnv K g.gc LR F ι S.length σ env ∧ Rep K g F R ι S H ∧ PostO K g (fun c d H => W c d σ H) F R ι S (evPart f C env S) Q
theorem PO.imp {X : Cx} {e : Option Expr} {t t' : TO} (h : PO X e t) (i : ∀ σ H Q, t' σ H Q → t σ H Q) : PO X e t' := ⟨fun pins s σ H Q I q => h.run pins s σ H Q I (i _ _ _ q)⟩
theorem fp_of {e : Option Expr} {f : Option EF} (h : FP g N sc e f) {LR : LRT} {C : Cxt} {X : Cx} {W : WX} (ok : XOk g LR C N sc X) (tk : Takes X W) : PO X e (tO X.K g LR C W f) := by
  cases h with
  | none =>
    refine PO.imp po_none fun σ H Q q => ?_
    obtain ⟨env, F, R, ι, S, re, rp, p⟩ := q
    exact p F ι H (Same.refl F) IExt.refl rp
  | some h1 =>
    rename_i e f
    refine PO.imp (po_some (h1.fz ok tk)) fun σ H Q q => ?_
    obtain ⟨env, F, R, ι, S, re, rp, p⟩ := q
    refine ⟨env, F, R, ι, S, re, rp, ?_⟩
    have p : PostO X.K g (fun c d H => W c d σ H) F R ι S ((fz f C env S).bind fun a S1 => match a with
      | .d (.int i) => .ok (some i) S1
      | _ => .bad) Q := p
    cases hr : fz f C env S with
    | bad => rw [hr] at p; exact p
    | exc e S' => rw [hr] at p; exact p
    | ok v S1 =>
      rw [hr] at p
      intro F1 ι1 H1 x sm ie rp1 rt
      cases v with
      | d d =>
        cases d with
        | int i =>
          cases rt
          exact ⟨i, rfl, p F1 ι1 H1 sm ie rp1⟩
        | _ => exact p.elim
      | _ => exact p.elim
theorem slIx_eq (n d : Nat) (o : Option Int) (hd : d ≤ n) : slIx n d o = HT.sIx n d o := by
  cases o with
  | none => rfl
  | some i =>
    have h := HT.clip_eq i n d
    have e : ((slIx n d (some i) : Nat) : Int) = if i < 0 then max (i + (n : Int)) 0 else min i (n : Int) := by
      show (((if i < 0 then (i + n).toNat else min i.toNat n) : Nat) : Int) = _
      by_cases hi : i < 0
      · rw [if_pos hi, if_pos hi]
        omega
      · rw [if_neg hi, if_neg hi]
        omega
    omega
theorem cut_eq {α : Type} (xs : List α) (lo hi : Option Int) : cut xs lo hi = (xs.drop (HT.sIx xs.length 0 lo)).take (HT.sIx xs.length xs.length hi - HT.sIx xs.length 0 lo) := by
  unfold cut
  rw [slIx_eq _ _ _ (Nat.zero_le _), slIx_eq _ _ _ (Nat.le_refl _)]
theorem cut_whole {α : Type} (xs : List α) (lo hi : Option Int) (h : HT.sIx xs.length 0 lo = 0 ∧ HT.sIx xs.length xs.length hi = xs.length) : cut xs lo hi = xs := by
  rw [cut_eq, h.1, h.2]
  simp
theorem RDs.cut {K : PySem.W.Frag} {gc : Nat → Addr} {F : Hp} {vs : List V} {xs : List D} (h : RDs K gc F vs xs) (lo hi : Option Int) : RDs K gc F (cutV vs lo hi) (Py.cut xs lo hi) := by
  rw [cut_eq]
  unfold cutV
  rw [h.length]
  exact (h.drop _).take _
/-- by values -/
def rSl (K : PySem.W.Frag) (g : Stat) (LR : LRT) : V → Option Int → Option Int → Hp → VK → Prop := fun x l h H Q => ∃ w F R ι S a, RV K g.gc LR F ι S.length x a ∧ Rep K g F R ι S H ∧
  PostE K g LR w F R ι S (match a.unbox S with
  | .d (.lst xs) => .ok (.new (Py.cut xs l h)) S
  | .d (.tup xs) => .ok (.d (.tup (Py.cut xs l h))) S
  | _ => .bad) Q
theorem op_sl {X : Cx} {LR : LRT} : SlR X (rSl X.K g LR) := by
  intro pins
          s σ H x v vl vu lo hi sl Q I rx hs pl pu h
  obtain ⟨w, F, R, ι, S, a, ra, rp, p⟩ := h
  split at p
  · rename_i xs ea
    obtain ⟨q, vs, rfl, h1, r1⟩ := unbox_lst rp ra ea
    exact sl_list pins s σ H _ v vl vu lo hi sl Q I rx hs pl pu ⟨q, vs, rfl, SqL.of h1, fun q hq => post_new p rp (r1.cut lo hi) q hq⟩
  · rename_i xs ea
    obtain ⟨q, vs, rfl, h1, r1⟩ := unbox_tup rp ra ea
    refine sl_tupA pins s σ H _ v vl vu lo hi sl Q I rx hs pl pu ⟨q, vs, rfl, h1, fun e => ?_, fun _ q hq => post_tup p rp (r1.cut lo hi) q hq⟩
    rw [r1.length] at e
    rw [cut_whole xs lo hi e] at p
    rcases unbox_d ra rp ea with q | ⟨_, _, _, z, _⟩
    · exact post_d p rp q
    · cases z
  · exact p.elim
theorem fe_slice {lo hi : Option Expr} {fl fh : Option EF} (h1 : FE g N sc e1 f1) (h2 : FP g N sc lo fl) (h3 : FP g N sc hi fh) : FE g N sc (.Subscript e1 (.Slice lo hi none p2) pos) (eSlice f1 fl fh) := by
  refine fe_of (fun LR C X W ok tk => ?_) (fun _ _ => rfl) (fun _ _ => rfl)
  refine PE.imp (pe_slice (op_sl (g := g) (LR := LR)) (h1.fz ok tk) (fp_of h2 ok tk) (fp_of h3 ok tk)) fun σ H Q q => ?_
  obtain ⟨env, F, R, ι, S, re, rp, p⟩ := q
  refine ⟨env, F, R, ι, S, re, rp, post_bind p fun v S1 F1 ι1 H1 x hr sm ie rp1 rv p1 => ?_⟩
  have re1 := REnv.ext ok.lm sm ie re
  refine ⟨env, F1, R, ι1, S1, re1, rp1, ?_⟩
  cases hl : evPart fl C env S1 with
  | bad => rw [hl] at p1; exact p1
  | exc e S' => rw [hl] at p1; exact p1
  | ok l S2 =>
    rw [hl] at p1
    intro F2 ι2 H2 sm2 ie2 rp2
    have re2 := REnv.ext ok.lm sm2 ie2 re1
    have p2 := PostE.up sm2 ie2 (show PostE X.K g LR (fun c d H => W c d σ H) F1 R ι1 S1 ((evPart fh C env S2).bind fun h S3 => match v.unbox S3 with
      | .d (.lst xs) => .ok (.new (Py.cut xs l h)) S3
      | .d (.tup xs) => .ok (.d (.tup (Py.cut xs l h))) S3
      | _ => .bad) Q from p1)
    refine ⟨env, F2, R, ι2, S2, re2, rp2, ?_⟩
    cases hh : evPart fh C env S2 with
    | bad => rw [hh] at p2; exact p2
    | exc e S' => rw [hh] at p2; exact p2
    | ok h S3 =>
      rw [hh] at p2
      intro F3 ι3 H3 sm3 ie3 rp3
      exact ⟨fun c d H => W c d σ H, F3, R, ι3, S3, v, RV.ext ok.lm sm3 ie3 (RV.ext ok.lm sm2 ie2 rv), rp3, PostE.up sm3 ie3 p2⟩

/-! ### fields -/
theorem fe_fld {n : Str} (cs : List Nat) (h1 : FE g N sc e1 f1) (hc : ∀ K mg, g.M K mg → ∀ c, c ∈ cs → Cls K (g.gc c) ∧ NoAttr K (g.gc c) n) (hb : ∀ env, attributeBase e1 n env (eval e1 env) = eval e1 env) :
    FE g N sc (.Attribute e1 n pos) (eFld cs f1 n) := by
  refine fe_of (fun LR C X W ok tk => ?_) (fun _ _ => rfl) (fun _ _ => rfl)
  refine PE.imp (pe_fld (h1.fz ok tk) (hb _)) fun σ H Q q => ?_
  obtain ⟨env, F, R, ι, S, re, rp, p⟩ := q
  refine ⟨env, F, R, ι, S, re, rp, post_bind p fun v S1 F1 ι1 H1 x hr sm ie rp1 rv p1 => ?_⟩
  split at p1
  · rename_i c fs
    split at p1
    · rename_i hcs
      split at p1
      · rename_i z hz
        cases rv with
        | ins h1 h2 =>
          rename_i a dx ws
          obtain ⟨vz, e1, e2⟩ := h2.lookup hz
          obtain ⟨c1, c2⟩ := hc _ _ ok.facts c (by simpa using hcs)
          exact ⟨a, _, dx, ws, vz, rfl, rp1.fH _ _ h1, c1, c2, e1, post_d p1 rp1 e2⟩
      · exact p1.elim
    · exact p1.elim
  · exact p1.elim

/-! ### calls of defs -/
theorem evAll_len {C : Cxt} {env : Slots} : ∀ {fs : List EF} {S : Sto} {vs : List Vl} {S' : Sto}, evAll fs C env S = .ok vs S' → vs.length = fs.length
  | [], _, _, _, h => by
    cases h
    rfl
  | f :: fs, S, vs, S', h => by
    unfold evAll at h
    cases h1 : fz f C env S with
    | bad => rw [h1] at h; cases h
    | exc e S1 => rw [h1] at h; cases h
    | ok v S1 =>
      rw [h1] at h
      cases h2 : evAll fs C env S1 with
      | bad => simp only [Rs.bind, h2] at h; cases h
      | exc e S2 => simp only [Rs.bind, h2] at h; cases h
      | ok us S2 =>
        simp only [Rs.bind, h2] at h
        cases h
        rw [List.length_cons, List.length_cons, evAll_len h2]
theorem rv_no {K : PySem.W.Frag} {LR : LRT} {F : Hp} {ι : Nat → Addr} {m : Nat} {x : V} {v : Vl} (r : RV K g.gc LR F ι m x v) (h : argOk v = true) : RV K g.gc noLam F ι m x v := by
  cases v with
  | lam j => cases h
  | lams js => cases h
  | new xs => exact r.elim
  | _ => exact r
theorem rv_of_no {K : PySem.W.Frag} {LR : LRT} {F : Hp} {ι : Nat → Addr} {m : Nat} {x : V} {v : Vl} (r : RV K g.gc noLam F ι m x v) : RV K g.gc LR F ι m x v := by
  cases v with
  | lam j => exact r.elim
  | lams js =>
    obtain ⟨a, vs, e, h1, h2⟩ := r
    cases h2 with
    | nil => exact ⟨a, _, e, h1, .nil⟩
    | cons q _ => exact q.elim
  | new xs => exact r.elim
  | _ => exact r
theorem pair_no {K : PySem.W.Frag} {LR : LRT} {F : Hp} {ι : Nat → Addr} {m : Nat} : ∀ {xs : List V} {vs : List Vl}, Paired (RV K g.gc LR F ι m) xs vs → vs.all argOk = true → Paired (RV K g.gc noLam F ι m) xs vs
  | _, _, .nil, _ => .nil
  | _, _, .cons r t, h => by
    simp only [List.all_cons,
            Bool.and_eq_true] at h
    exact .cons (rv_no r h.1) (pair_no t h.2)
theorem postF_of {K : PySem.W.Frag} {LR : LRT} {F R : Hp} {ι : Nat → Addr} {S : Sto} {r : Rs Vl} {Q : VK} {E : XK} (h : PostE K g LR E F R ι S r Q) : PostF K g F R ι S r Q E := by
  cases r with
  | bad => exact h
  | exc e S' => exact h
  | ok v S' => exact fun F' ι' H' x sm ie rp rv => h F' ι' H' x sm ie rp (RV.rt (rv_of_no rv))
/-- what a def is in the text -/
structure FnI (g : Stat) (q : Nat) (x : Str) : Prop where
  lt : q < g.nf
  ok : ∀ K mg, g.M K mg → mg x = some (.ref (g.fa q)) ∧ PySem.W.keepIn K (.ref (g.fa q)) = true ∧ Binds K (g.fd q) (g.ps q) []
theorem fe_call {q : Nat} {x : Str} {e : Expr} {es : List Expr} {f : EF} {fs : List EF} (I : FnI g q x) (hg : sc.names.lookup x = some .globalImplicit) (ha : FEs g N sc (e :: es) (f :: fs)) (hn : (f :: fs).length = (g.ps q).length)
    (hdb : (x == ("__debug__" : Str)) = false := by decide) : FE g N sc (.Call (.Name x p1) (e :: es) [] pos) (eCall q (f :: fs)) := by
  refine fe_of (fun LR C X W ok tk => ?_) (fun _ _ => rfl) (fun _ _ => rfl)
  obtain ⟨k, hr, fok⟩ := ok.room
  obtain ⟨m1, m2, m3⟩ := I.ok _ _ ok.facts
  have hst : starEach (e :: es) X.env = (false, eval e X.env) :: starEach es X.env := by
    cases ha with
    | cons h1 _ => exact h1.st _ _
  have hpl : (backTo pos (starEach es X.env)).any (·.1) = false := by
    cases ha with
    | cons _ h2 => exact noStar h2 _ _
  refine PE.imp (pe_callS (fok q I.lt) (hr.mono (by omega)) (show X.env.scope.names.lookup x = _ by rw [ok.sc]; exact hg) m1 m2 m3 (E := WE W) (fun σ => passAt tk σ) (fa_of ha ok tk) hdb hst hpl) fun σ H Q q' => ?_
  obtain ⟨env, F, R, ι, S, re, rp, p⟩ := q'
  have p : PostE X.K g LR (fun c d H => W c d σ H) F R ι S ((evAll (f :: fs) C env S).bind fun vs S1 => if vs.all argOk then C.call q vs S1 else .bad) Q := p
  refine ⟨env, F, R, ι, S, re, rp, ?_⟩
  cases hk : evAll (f :: fs) C env S with
  | bad => rw [hk] at p; exact p
  | exc e S' => rw [hk] at p; exact p
  | ok vs S1 =>
    rw [hk] at p
    have p : PostE X.K g LR (fun c d H => W c d σ H) F R ι S (if vs.all argOk then C.call q vs S1 else .bad) Q := p
    intro F1 ι1 H1 ws sm ie rp1 r1
    split at p
    · rename_i hall
      refine ⟨?_, F1, R, ι1, S1, vs, pair_no r1 hall, rp1, postF_of (PostE.up sm ie p)⟩
      rw [← hn, ← evAll_len hk]
      exact r1.length
    · exact p.elim
end
end PyS
end

section
set_option Elab.async false
set_option linter.all false
set_option maxRecDepth 100000
set_option
        maxHeartbeats 4000000
/-! PSnd6: built-in functions. -/
namespace PyS
open PySem PySem.Spec PyProof.Rows L2 Py

/-- by values -/
def rVs (K : PySem.W.Frag) (g : Stat) (LR : LRT) (fn : List Vl → Sto → Rs Vl) : List V → Hp → VK → Prop := fun ws H Q => ∃ w F R ι S vs, Paired (RV K g.gc LR F ι S.length) ws vs ∧ Rep K g F R ι S H ∧ PostE K g LR w F R ι S (fn vs S) Q
section
variable {K : PySem.W.Frag} {gc : Nat → Addr} {F : Hp}
theorem bools_rd : ∀ {vs : List V} {xs : List D} {bs : List Bool}, RDs K gc F vs xs → boolsOf xs = some bs → vs = bs.map V.bl
  | _, _, _, .nil, e => by cases e; rfl
  | _, _, bs, .cons (x := x) (xs := xs) r t, e => by
    cases x with
    | bl b =>
      simp only [boolsOf] at e
      cases hd : boolsOf xs with
      | none => rw [hd] at e; cases e
      | some cs =>
        rw [hd] at e
        cases e
        cases r
        rw [bools_rd t hd]
        rfl
    | _ => cases e
theorem ints_rd : ∀ {vs : List V} {xs : List D} {is : List Int}, RDs K gc F vs xs → intsOf xs = some is → vs = is.map V.int
  | _, _, _, .nil, e => by cases e; rfl
  | _, _, bs, .cons (x := x) (xs := xs) r t, e => by
    cases x with
    | int b =>
      simp only [intsOf] at e
      cases hd : intsOf xs with
      | none => rw [hd] at e; cases e
      | some cs =>
        rw [hd] at e
        cases e
        cases r
        rw [ints_rd t hd]
        rfl
    | _ => cases e
theorem rds_ints : ∀ is : List Int, RDs K gc F (is.map V.int) (is.map D.int)
  | [] => .nil
  | i :: r => .cons (.int i) (rds_ints r)
end

/-- one ascending list of given ints -/
theorem insInt_perm (i : Int) : ∀ l : List Int, (insInt i l).Perm (i :: l)
  | [] => .refl _
  | j :: r => by
    unfold insInt
    split
    · exact .refl _
    · exact ((insInt_perm i r).cons j).trans (.swap i j r)
theorem sortInts_perm : ∀ l : List Int, (sortInts l).Perm l
  | [] => .refl _
  | i :: r => (insInt_perm i _).trans ((sortInts_perm r).cons i)
theorem insInt_sorted (i : Int) : ∀ l : List Int, l.Pairwise (· ≤ ·) → (insInt i l).Pairwise (· ≤ ·)
  | [], _ => by simp [insInt]
  | j :: r, h => by
    have h' :=
            List.pairwise_cons.mp h
    unfold insInt
    split
    · rename_i hij
      refine List.pairwise_cons.mpr ⟨fun x hx => ?_, h⟩
      rcases List.mem_cons.mp
              hx with rfl | hx
      · exact hij
      · exact Int.le_trans hij (h'.1 x hx)
    · rename_i hij
      refine List.pairwise_cons.mpr ⟨fun x hx => ?_, insInt_sorted i r h'.2⟩
      rcases List.mem_cons.mp ((insInt_perm i r).mem_iff.mp hx) with rfl | hx
      · omega
      · exact h'.1 x hx
theorem sortInts_sorted : ∀ l : List Int, (sortInts l).Pairwise (· ≤ ·)
  | [] => .nil
  | i :: r => insInt_sorted i _ (sortInts_sorted r)
theorem sorted_one : ∀ {a b : List Int}, a.Perm b → a.Pairwise (· ≤ ·) → b.Pairwise (· ≤ ·) → a = b
  | [], b, p, _, _ => (List.nil_perm.mp p).symm
  | x :: xs, [], p, _, _ => by simp at p
  | x :: xs, y :: ys, p, ha, hb => by
    have ha' := List.pairwise_cons.mp ha
    have hb' := List.pairwise_cons.mp hb
    have e : x = y := by
      have h1 : x ∈ y :: ys := p.mem_iff.mp List.mem_cons_self
      have h2 : y ∈ x :: xs := p.mem_iff.mpr List.mem_cons_self
      rcases List.mem_cons.mp h1 with e | h1
      · exact e
      · rcases List.mem_cons.mp h2 with e | h2
        · exact e.symm
        · have a1 := ha'.1 y h2
          have a2 := hb'.1 x h1
          omega
    subst e
    rw [sorted_one ((List.perm_cons x).mp p) ha'.2 hb'.2]

section
variable {X : Cx} {g : Stat} {LR : LRT}
/-- what a call's built-in does, by values -/
def BiOk (b : Bi) (f : Value) : Prop := ∀ (X : Cx) (g : Stat) (LR : LRT), X.calm = true → CallR X f (rVs X.K g LR (biV b))
theorem seq_tup {v : Vl} {S : Sto} {xs : List D} (e : seqOf v S = some xs) (h : isLst v S = false) : v = .d (.tup xs) := by
  unfold seqOf at e
  split at e
  · simp [isLst] at h
  · cases e; rfl
  · simp [isLst] at h
  · simp [isLst] at h
  · rename_i n
    split at e
    · rename_i ys hs
      simp [isLst, hs] at h
    · cases e
  · cases e
theorem pair1 {F : V → Vl → Prop} {ws : List V} {v : Vl} (h : Paired F ws [v]) : ∃ x, ws = [x] ∧ F x v := by
  cases h with
  | cons r t => cases t; exact ⟨_, rfl, r⟩
theorem pair2 {F : V → Vl → Prop} {ws : List V} {v u : Vl} (h : Paired F ws [v, u]) : ∃ x y, ws = [x, y] ∧ F x v ∧ F y u := by
  cases h with
  | cons r t =>
    cases t with
    | cons r2 t2 => cases t2; exact ⟨_, _, rfl, r, r2⟩
theorem bi_len : BiOk .len (.builtin "len") := by
  intro X g LR hc pins s σ H ws us Q I r h
  obtain ⟨w, F, R, ι, S, vs, rv, rp, p⟩ := h
  unfold biV at p
  split at p <;> try (exact p.elim)
  all_goals (rename_i hb; try (cases hb))
  rename_i v
  split at p
  · rename_i xs hx
    obtain ⟨x, rfl, r1⟩ := pair1 rv
    obtain ⟨q, ys, rfl, rs, sq, _⟩ := seq_at rp r1 hx
    rw [← rs.length] at p
    exact call_len_seq pins s σ H _ us Q I r ⟨q, ys, rfl, sq, post_d p rp (.int _)⟩
  · exact p.elim
theorem bi_list : BiOk .list (.type "list") := by
  intro X g LR hc pins s σ H ws us Q I r h
  obtain ⟨w, F, R, ι, S, vs, rv, rp, p⟩ := h
  unfold biV at p
  split at p <;> try (exact p.elim)
  all_goals (rename_i hb; try (cases hb))
  rename_i v
  split at p
  · rename_i xs hx
    obtain ⟨x, rfl, r1⟩ := pair1 rv
    obtain ⟨q, ys, rfl, rs, sq, _⟩ := seq_at rp r1 hx
    exact call_list_of pins s σ H _ us Q I r ⟨q, ys, rfl, sq, fun l hl => post_new p rp rs l hl⟩
  · exact p.elim
theorem bi_tuple : BiOk .tuple (.type "tuple") := by
  intro X g LR hc pins s σ H ws us Q I r h
  obtain ⟨w, F, R, ι, S, vs, rv, rp, p⟩ := h
  unfold biV at p
  split at p <;> try (exact p.elim)
  all_goals (rename_i hb; try (cases hb))
  rename_i v
  split at p
  · rename_i xs hx
    obtain ⟨x, rfl, r1⟩ := pair1 rv
    cases hl : isLst v S with
    | true =>
      obtain ⟨q, ys, rfl, rs, _, sl⟩ := seq_at rp r1 hx
      exact call_tuple_of pins s σ H _ us Q I r ⟨q, ys, rfl, .inl ⟨sl hl, fun l hl => post_tup p rp rs l hl⟩⟩
    | false =>
      have e := seq_tup hx hl
      subst e
      cases r1 with
      | tup h1 h2 => exact call_tuple_of pins s σ H _ us Q I r ⟨_, _, rfl, .inr ⟨sqT_mono rp.fH h1, post_d p rp (RD.tup h1 h2)⟩⟩
  · exact p.elim
theorem bi_int1 : BiOk .int1 (.type "int") := by
  intro X g LR hc pins s σ H ws us Q I r h
  obtain ⟨w, F, R, ι, S, vs, rv, rp, p⟩ := h
  unfold biV at p
  split at p <;> try (exact p.elim)
  all_goals (rename_i hb; try (cases hb))
  obtain ⟨x, rfl, r1⟩ := pair1 rv
  cases r1
  exact call_int1 pins s σ H _ us Q I r (.inl ⟨_, rfl, post_d p rp (.int _)⟩)
theorem bi_min2 : BiOk .min2 (.builtin "min") := by
  intro X g LR hc pins s σ H ws us Q I r h
  obtain ⟨w, F, R, ι, S, vs, rv, rp, p⟩ := h
  unfold biV at p
  split at p <;> try (exact p.elim)
  all_goals (rename_i hb; try (cases hb))
  obtain ⟨x, y, rfl, r1, r2⟩ := pair2 rv
  cases r1
  cases r2
  exact call_min2 hc pins s σ H _ us Q I r ⟨_, _, rfl, post_d p rp (.int _)⟩
theorem bi_max2 : BiOk .max2 (.builtin "max") := by
  intro X g LR hc pins s σ H ws us Q I r h
  obtain ⟨w, F, R, ι, S, vs, rv, rp, p⟩ := h
  unfold biV at p
  split at p <;> try (exact p.elim)
  all_goals (rename_i hb; try (cases hb))
  obtain ⟨x, y, rfl, r1, r2⟩ := pair2 rv
  cases r1
  cases r2
  exact call_max2 hc pins s σ H _ us Q I r ⟨_, _, rfl, post_d p rp (.int _)⟩
theorem bi_all : BiOk .all (.builtin "all") := by
  intro X g LR hc pins s σ H ws us Q I r h
  obtain ⟨w, F, R, ι, S, vs, rv, rp, p⟩ := h
  unfold biV at p
  split at p <;> try (exact p.elim)
  all_goals (rename_i hb; try (cases hb))
  rename_i v
  split at p
  · rename_i bs hx
    split at p
    · rename_i hl
      obtain ⟨x, rfl, r1⟩ := pair1 rv
      cases hq : seqOf v S with
      | none => rw [hq] at hx; cases hx
      | some xs =>
        rw [hq] at hx
        obtain ⟨q, ys, rfl, rs, _, sl⟩ := seq_at rp r1 hq
        have e := bools_rd rs hx
        subst e
        exact cr_all hc pins s σ H _ us Q I r ⟨q, bs, rfl, sl hl, post_d p rp (.bl _)⟩
    · exact p.elim
  · exact p.elim
theorem bi_any : BiOk .any (.builtin "any") := by
  intro X g LR hc pins s σ H ws us Q I r h
  obtain ⟨w, F, R, ι, S, vs, rv, rp, p⟩ := h
  unfold biV at p
  split at p <;> try (exact p.elim)
  all_goals (rename_i hb; try (cases hb))
  rename_i v
  split at p
  · rename_i bs hx
    split at p
    · rename_i hl
      obtain ⟨x, rfl, r1⟩ := pair1 rv
      cases hq : seqOf v S with
      | none => rw [hq] at hx; cases hx
      | some xs =>
        rw [hq] at hx
        obtain ⟨q, ys, rfl, rs, _, sl⟩ := seq_at rp r1 hq
        have e := bools_rd rs hx
        subst e
        exact cr_any hc pins s σ H _ us Q I r ⟨q, bs, rfl, sl hl, post_d p rp (.bl _)⟩
    · exact p.elim
  · exact p.elim
theorem bi_sum : BiOk .sum (.builtin "sum") := by
  intro X g LR hc pins s σ H ws us Q I r h
  obtain ⟨w, F, R, ι, S, vs, rv, rp, p⟩ := h
  unfold biV at p
  split at p <;> try (exact p.elim)
  all_goals (rename_i hb; try (cases hb))
  rename_i v
  split at p
  · rename_i is hx
    split at p
    · rename_i hl
      obtain ⟨x, rfl, r1⟩ := pair1 rv
      cases hq : seqOf v S with
      | none => rw [hq] at hx; cases hx
      | some xs =>
        rw [hq] at hx
        obtain ⟨q, ys, rfl, rs, _, sl⟩ := seq_at rp r1 hq
        have e := ints_rd rs hx
        subst e
        exact cr_sum hc pins s σ H _ us Q I r ⟨q, is, rfl, sl hl, post_d p rp (.int _)⟩
    · exact p.elim
  · exact p.elim
end

/-! ### sorted(t), t a tuple of ints -/
section
variable
        {prog : Program} {w : World} {A : Around} {E : Value → Shared → Prop} {s : Shared}
/-- the list that is gathered from a tuple's items -/
theorem collect_tup {l : Addr} {vs : List Value} {Q : List Value → Shared → Prop} (hl : IsTup s.heap l vs.toArray) (hz : vs.length ≤ sizeLine)
    (h : Q vs { s with heap := (s.heap.push (seqObj "list" #[] 0)).update s.heap.objs.size (Obj.mapSeq (· ++ vs.toArray)) }) : wpAny (model prog w) A (collect (.ref l)) Q E s := by
  obtain ⟨ob, e1, e2, n, e3⟩ := hl
  unfold collect
  refine wpAny_bind (wpAny_runValue (codeAny_builtin PyProof.Rows.entry_proto_collect' ?_))
  show wpAny _ _ (newList [] >>= fun r => again (.builtin "list.__iadd__" ⟨[r, .ref l], []⟩)) _ _ s
  refine wpAny_bind (wpAny_newList (wpAny_pure
    ⟨Code.quiet_builtin _ (by decide +kernel), codeAny_builtin PyProof.Rows.entry_list_iadd' ?_⟩))
  show wpAny _ _ (Builtin.List.listExtendWith (.ref s.heap.objs.size) (.ref l)
    (.ref s.heap.objs.size)) _ _ { s with heap := s.heap.push (seqObj "list" #[] 0) }
  unfold
          Builtin.List.listExtendWith
  have e1' : (s.heap.push (seqObj "list" #[] 0)).get? l = some ob := Heap.get?_push_of_some _ e1
  refine wpAny_bind (wpAny_typeOf (T := "tuple") ⟨ob, e1', e2⟩ ?_)
  rw [if_pos (by
    have a : (Value.type "tuple" == Value.type "tuple") = true := rfl
    rw [a, Bool.or_true])]
  refine wpAny_bind (PyProof.Rows.listItems_at e1' e3 ?_)
  refine wpAny_bind (PyProof.Rows.listItems_at (xs := #[]) (n := 0)
    (Heap.get?_push_size _ rfl) rfl ?_)
  rw [if_neg (by simp)]
  refine wpAny_bind (PyProof.Rows.listUpdate_at (xs := #[]) (n := 0)
    (Heap.get?_push_size _ rfl) rfl ?_ (Nat.zero_le _) (by
      show (#[] ++ vs.toArray).size ≤ sizeLine + 1
      rw [Array.size_append, List.size_toArray, List.size_toArray, List.length_nil]
      omega))
  refine wpAny_pure ?_
  show wpAny (model prog w) A (load s.heap.objs.size >>= fun o =>
      match o.data with
      | .seq xs _ => pure xs.toList
      | _ => unsupported "internal:collect") Q E _
  refine wpAny_bind (wpAny_load (PyProof.Rows.get?_update_seq (Heap.get?_push_size _ rfl) _) ?_)
  show wpAny _ _ (pure ((#[] :
          Array Value) ++ vs.toArray).toList) Q E _
  have z : ((#[] : Array Value) ++ vs.toArray).toList = vs := by simp
  rw [z]
  exact wpAny_pure h
open SrtO in
theorem sorted_tupI {l : Addr} {vs : List Value} {ns : List Int} {Q : Value → Shared → Prop} (hl : IsTup s.heap l vs.toArray) (hz : vs.length ≤ sizeLine) (hi : IntsAre vs ns)
    (h : ∀ out : List Value, Srtd ltIv out → Stb ltIv out vs → Q (.ref (s.heap.objs.size + 1)) { s with heap := PyProof.Rows.sortedAll s.heap vs out.toArray }) :
    wpAny
            (model prog w) A (call (.builtin "sorted") [.ref l]) Q E s := by
  refine
          Calls.call_function_entry PyProof.Rows.kind_sorted PyProof.Rows.plain_sorted PyProof.Rows.entry_sorted (PyProof.Rows.args_sorted1 _) ?_
  unfold Builtin.«sorted»
  refine wpAny_bind (m :=
          checkCount "sorted" 1 1 _) (wpAny_pure ?_)
  refine wpAny_bind (collect_tup hl hz ?_)
  refine
          wpAny_bind (wpAny_newList ?_ hz)
  obtain ⟨h1, eh1⟩ : ∃ h1, h1 = (s.heap.push (seqObj "list" #[] 0)).update s.heap.objs.size (Obj.mapSeq (· ++ vs.toArray)) := ⟨_, rfl⟩
  have hsz : h1.objs.size = s.heap.objs.size + 1 := by
    rw [eh1, Heap.size_update, Heap.size_push]
  have hoL : (h1.push (seqObj "list" vs.toArray 0)).get? (s.heap.objs.size + 1) = some (seqObj "list" vs.toArray 0) := by
    rw [← hsz]
    exact
            Heap.get?_push_size _ rfl
  show
          wpAny _ _ _ _ _ { s with heap := ((s.heap.push (seqObj "list" #[] 0)).update s.heap.objs.size (Obj.mapSeq (· ++ vs.toArray))).push (seqObj "list" vs.toArray 0) }
  rw [← eh1, hsz]
  refine wpAny_bind (wpAny_holding (wpAny_call_entry PySem.F.slot_list_sort ⟨_, hoL, rfl⟩ PyProof.Rows.entry_list_sort
    (list_sort_ord swo_int hoL hz (fun h2 => ints_sortable hi h2) fun out hs hb => ⟨_, rfl, ?_⟩) (PyProof.Rows.args_list_sort _)))
  refine wpAny_pure ⟨_,
          rfl, ?_⟩
  have q := h out hs hb
  unfold PyProof.Rows.sortedAll at q
  rw [← eh1] at q
  exact q
end
end PyS
end

section
set_option Elab.async false
set_option linter.all false
set_option maxRecDepth 100000
set_option
        maxHeartbeats 4000000
/-! PSnd7: what is walked, targets, comprehensions. -/
namespace PyS
open PySem PySem.Spec PyProof.Rows L2 Py

/-! ### sources -/
/-- the iterator's turns are the items xs -/
def SrcOk (K : PySem.W.Frag) (gc : Nat → Addr) (F : Hp) (xs : List D) (J : It) : Prop := ∀ (i : Nat) (H : Hp), Same F H →
  (∀ d, xs[i]? = some d → J.go i H ∧ ∀ x H', J.yld i H x H' → (H' = H ∧ RD K gc F x d) ∨ (∃ p vs ds, d = .tup ds ∧ x = .ref p ∧ H p = none ∧ H' = upd H p (.tup vs) ∧ RDs K gc F vs ds)) ∧
  (xs.length ≤ i → J.stop i H)
def PostI (K : PySem.W.Frag) (g : Stat) (W : Value → Option Addr → Hp → Prop) (F R : Hp) (ι : Nat → Addr) (S : Sto) (r : Rs (List D)) (Q : It → Hp → Prop) : Prop :=
  match r with
  | .ok xs S' => ∀ F' ι' H' J, Same F F' → IExt S ι S' ι' → Rep K g F' R ι' S' H' → SrcOk K g.gc F' xs J → Q J H'
  | .exc e S' => ExP K g W F R ι S e S'
  | .bad => False
def tI (K : PySem.W.Frag) (g : Stat) (LR : LRT) (C : Cxt) (W : WX) (s : Src) : TI := fun σ H Q => ∃ env F R ι S, REnv K g.gc LR F ι S.length σ env ∧ Rep K g F R ι S H ∧ PostI K g (fun c d H => W c d σ H) F R ι S (srcV s C env S) Q
structure FI (g : Stat) (N : List Str) (sc : Scope) (tg iter : Expr) (s : Src) : Prop where
  pi : ∀ LR C X W, XOk g LR C N sc X → Takes X W → PI X tg iter (tI X.K g LR C W s)
  fold : ∀ env x, foldedSetIterable iter env x = pure x
theorem PI.imp {X : Cx} {tg iter : Expr} {t t' : TI} (h : PI X tg iter t) (i : ∀ σ H Q, t' σ H Q → t σ H Q) : PI X tg iter t' := ⟨fun pins s σ H Q I q => h.run pins s σ H Q I (i _ _ _ q)⟩
/-- over a list or a tuple -/
theorem pi_seq {X : Cx} {tg l : Expr} {tl : TE} (hl : PE X l tl) : PI X tg l (fun σ H R => tl σ H fun x H1 => ∃ a, x = .ref a ∧ (((∃ xs, SqL X.K H1 a xs) ∧ R (Itl X.K a) H1) ∨ ((∃ xs, SqT X.K H1 a xs) ∧ R (Itt X.K a) H1))) := by
  refine ⟨fun pins s σ H R I h => thn (hl.run pins s σ H _ I h) fun v s1 q1 => ?_⟩
  obtain ⟨x, H1, I1, r1, a, e, q⟩ := q1
  subst e
  cases r1
  have fresh : ∀ (b : Addr), b ∈ [s1.heap.objs.size] → FpOk X pins H1 b := by
    intro b hb
    rw [List.mem_singleton.mp hb]
    exact
            I1.fpOk (Nat.le_refl _) (I1.hok.fresh (Nat.le_refl _))
  rcases q with ⟨⟨xs, hq⟩, q⟩ | ⟨⟨xs, hq⟩, q⟩
  · obtain ⟨its, rv, p, hz⟩ := I1.list hq
    exact wpAny_pyIter_list p.isList ⟨_, [s1.heap.objs.size], _, _, H1, rfl, I1.kept (t' := s1.toks) fun b o e => Heap.get?_push_of_some _ e, turn_list a _, ⟨_, Heap.get?_push_size _ rfl, rfl, rfl⟩, fresh, q⟩
  · obtain ⟨its, rv, p, hz⟩ := I1.tuple hq
    exact wpAny_pyIter_tuple (show s1.heap.IsTuple a its.toArray from p) ⟨_, [s1.heap.objs.size], _, _, H1, rfl, I1.kept (t' := s1.toks) fun b o e => Heap.get?_push_of_some _ e, turn_tuple a _, ⟨_, Heap.get?_push_size _ rfl, rfl, rfl⟩, fresh, q⟩
section
variable {K : PySem.W.Frag} {gc : Nat → Addr} {F : Hp} {xs : List D} {vs : List V} {a : Addr}
theorem srcOk_list (h : SqL K F a vs) (r : RDs K gc F vs xs) (one : ∀ H ys zs, Same F H → SqL K H a ys → SqL K H a zs → ys = zs) : SrcOk K gc F xs (Itl K a) := fun i H sm => by
  have hH := Same.seq sm h
  refine ⟨fun d hd => ?_, fun hi => ⟨vs, hH, by rw [r.length]; exact hi⟩⟩
  obtain ⟨v, hv, rv⟩ := r.get hd
  refine ⟨⟨vs, v, hH, hv⟩, fun x H' y => ?_⟩
  obtain ⟨e, y⟩ := y
  have hx := y vs hH
  rw [hv] at hx
  cases hx
  exact .inl ⟨e, rv⟩
theorem srcOk_tup (h : SqT K F a vs) (r : RDs K gc F vs xs) : SrcOk K gc F xs (Itt K a) := fun i H sm => by
  have hH := sqT_mono sm h
  refine ⟨fun d hd => ?_, fun hi => ⟨vs, hH, by rw [r.length]; exact hi⟩⟩
  obtain ⟨v, hv, rv⟩ := r.get hd
  refine ⟨⟨vs, v, hH, hv⟩, fun x H' y => ?_⟩
  obtain ⟨e, y⟩ := y
  have hx := y vs hH
  rw [hv] at hx
  cases hx
  exact .inl ⟨e, rv⟩
theorem srcOk_list' (h : SqL K F a vs) (r : RDs K gc F vs xs) : SrcOk K gc F xs (Itl K a) := fun i H sm => by
  have hH := Same.seq sm h
  refine ⟨fun d hd => ?_, fun hi => ⟨vs, hH, by rw [r.length]; exact hi⟩⟩
  obtain ⟨v, hv, rv⟩ := r.get hd
  refine ⟨⟨vs, v, hH, hv⟩, fun x H' y => ?_⟩
  obtain ⟨e, y⟩ := y
  have hx := y vs hH
  rw [hv] at hx
  cases hx
  exact .inl ⟨e, rv⟩
theorem rangeD_get (lo : Int) (n i : Nat) (d : D) (h : (rangeD lo n)[i]? = some d) : i < n ∧ d = .int (lo + i) := by
  unfold rangeD at h
  rw [List.getElem?_map] at h
  cases hq : (List.range n)[i]? with
  | none =>
          rw [hq] at h; cases h
  | some k =>
    rw [hq] at h
    cases h
    obtain ⟨h1, h2⟩ := List.getElem?_eq_some_iff.mp hq
    rw [List.getElem_range] at h2
    subst h2
    exact ⟨by simpa using h1, rfl⟩
theorem rangeD_length (lo : Int) (n : Nat) : (rangeD lo n).length = n := by
  unfold rangeD
  rw [List.length_map,
          List.length_range]
theorem srcOk_range (lo : Int) (n : Nat) : SrcOk K gc F (rangeD lo n) (Itr lo n) := fun i H sm => by
  refine ⟨fun d hd => ?_, fun hi => by rw [rangeD_length] at hi; exact hi⟩
  obtain ⟨h1, rfl⟩ := rangeD_get lo n i d hd
  refine ⟨h1, fun x H' y => ?_⟩
  obtain ⟨e, y⟩ := y
  subst y
  exact .inl ⟨e, .int _⟩
end
section
variable {g : Stat} {N : List Str} {sc : Scope} {e1 e2 tg : Expr} {f1 f2 : EF} {pos p1 p2 : Pos}
/-- behind fz f, for a source -/
theorem post_bindI {K : PySem.W.Frag} {LR : LRT} {F R : Hp} {ι : Nat → Addr} {S : Sto} {env : Slots} {w : Value → Option Addr → Hp → Prop} {f : EF} {Ca : Cxt} {k : Vl → Sto → Rs (List D)} {Q : It → Hp → Prop} {Q1 : VK} (h : PostI K g w F R ι S ((fz f Ca env S).bind k) Q)
    (i : ∀ v S1 F1 ι1 H1 x, fz f Ca env S = .ok v S1 → Same F F1 → IExt S ι S1 ι1 → Rep K g F1 R ι1 S1 H1 → RV K g.gc LR F1 ι1 S1.length x v → PostI K g w F1 R ι1 S1 (k v S1) Q → Q1 x H1) : PostE K g LR w F R ι S (fz f Ca env S) Q1 := by
  cases hr : fz f Ca env S with
  | bad =>
    rw [hr] at h
    exact h
  | exc e S' =>
    rw [hr] at h
    exact h
  | ok v S1 =>
    rw [hr] at h
    have hn : ∀ xs, v ≠ .new xs := by
      intro xs z
      unfold Py.fz at hr
      cases hf : f Ca env S with
      | bad => rw [hf] at hr; cases hr
      | exc e S' => rw [hf] at hr; cases hr
      | ok u S' =>
        rw [hf] at hr
        have hr' : (Rs.ok u.frz S' : Rs Vl) = .ok v S1 := hr
        injection hr' with h1 h2
        exact frz_ne u xs (h1.trans z)
    intro F1 ι1 H1 x sm ie rp rt
    refine i v S1 F1 ι1 H1 x hr sm ie rp (RT.rv rt hn) ?_
    have h : PostI K g w F R ι S (k v S1) Q := h
    cases hk : k v S1 with
    | bad => rw [hk] at h; exact h
    | exc e S' => rw [hk] at h; exact fun F' ι' H' c d s1 i1 r1 x1 => h F' ι' H' c d (sm.trans s1) (ie.trans i1) r1 x1
    | ok u S' => rw [hk] at h; exact fun F' ι' H' J s1 i1 r1 x1 => h F' ι' H' J (sm.trans s1) (ie.trans i1) r1 x1
theorem rngOk_iff {i : Int} (h : rngOk i = true) : -(2 ^ 62) ≤ i ∧ i < 2 ^ 62 := by
  unfold rngOk at h
  simpa using h
theorem fi_seq (h1 : FE g N sc e1 f1) (hf : ∀ env x, foldedSetIterable e1 env x = pure x) : FI g N sc tg e1 (.seq f1) := by
  refine ⟨fun LR C X W ok tk => PI.imp (pi_seq (h1.fz ok tk)) fun σ H Q q => ?_, hf⟩
  obtain ⟨env, F, R, ι, S, re, rp, p⟩ := q
  refine ⟨env, F, R, ι, S, re, rp, post_bindI p fun v S1 F1 ι1 H1 x hr sm ie rp1 rv p1 => ?_⟩
  split at p1
  · cases rv with
    | lst a1 a2 => exact ⟨_, rfl, .inl ⟨⟨_, SqL.of (rp1.fH _ _ a1)⟩, p1 F1 ι1 H1 _ (Same.refl _) IExt.refl rp1 (srcOk_list' (SqL.of a1) a2)⟩⟩
  · cases rv with
    | tup a1 a2 => exact ⟨_, rfl, .inr ⟨⟨_, sqT_mono rp1.fH a1⟩, p1 F1 ι1 H1 _ (Same.refl _) IExt.refl rp1 (srcOk_tup a1 a2)⟩⟩
  · obtain ⟨a, vs, rfl, a1, a2⟩ := rv
    exact ⟨_, rfl, .inl ⟨⟨_, Same.seq rp1.fH a1⟩, p1 F1 ι1 H1 _ (Same.refl _) IExt.refl rp1 (srcOk_list' a1 a2)⟩⟩
  · exact p1.elim
theorem fi_range1 (h1 : FE g N sc e1 f1) (hg : sc.names.lookup ("range" : Str) = some .globalImplicit) (hm : ∀ K mg, g.M K mg → mg "range" = none) : FI g N sc tg (.Call (.Name "range" p1) [e1] [] pos) (.range1 f1) := by
  refine ⟨fun LR C X W ok tk => ?_, fun _ _ => rfl⟩
  have hst : starEach [e1] X.env = [(false, eval e1 X.env)] := h1.st _ _
  refine PI.imp (pi_range1 (show X.env.scope.names.lookup ("range" : Str) = _ by rw [ok.sc]; exact hg) (hm _ _ ok.facts) (pa_cons (h1.fz ok tk) pa_nil hst) hst) fun σ H Q q => ?_
  obtain ⟨env, F, R, ι, S, re, rp, p⟩ := q
  refine ⟨env, F, R, ι, S, re, rp, post_bindI p fun v S1 F1 ι1 H1 x hr sm ie rp1 rv p1 => ?_⟩
  split at p1
  · rename_i j
    cases rv
    split at p1
    · rename_i hj
      have hj := rngOk_iff hj
      refine ⟨j, rfl, hj.1, hj.2, p1 F1 ι1 H1 _ (Same.refl _) IExt.refl rp1 (srcOk_range 0 _)⟩
    · exact p1.elim
  · exact p1.elim
theorem fi_range2 (h1 : FE g N sc e1 f1) (h2 : FE g N sc e2 f2) (hg : sc.names.lookup ("range" : Str) = some .globalImplicit) (hm : ∀ K mg, g.M K mg → mg "range" = none) : FI g N sc tg (.Call (.Name "range" p1) [e1, e2] [] pos) (.range2 f1 f2) := by
  refine ⟨fun LR C X W ok tk => ?_, fun _ _ => rfl⟩
  have hst2 : starEach [e2] X.env = [(false, eval e2 X.env)] := h2.st _ _
  have hst : starEach [e1, e2] X.env = [(false, eval e1 X.env), (false, eval e2 X.env)] := by rw [h1.st, hst2]
  refine PI.imp (pi_range2 (show X.env.scope.names.lookup ("range" : Str) = _ by rw [ok.sc]; exact hg) (hm _ _ ok.facts) (pa_cons (h1.fz ok tk) (pa_cons (h2.fz ok tk) pa_nil hst2) (h1.st _ _)) hst hst2) fun σ H Q q => ?_
  obtain ⟨env, F, R, ι, S, re, rp, p⟩ := q
  refine ⟨env, F, R, ι, S, re, rp, post_bindI p fun v S1 F1 ι1 H1 x hr sm ie rp1 rv p1 => ?_⟩
  refine ⟨env, F1, R, ι1, S1, REnv.ext ok.lm sm ie re, rp1, post_bindI p1 fun u S2 F2 ι2 H2 y hr2 sm2 ie2 rp2 rv2 p2 => ?_⟩
  split at p2
  · rename_i i j
    have e1 : x = .int i := by
      have rv' := RV.ext ok.lm sm2 ie2 rv
      cases rv'
      rfl
    cases rv2
    split at p2
    · rename_i hij
      simp only [Bool.and_eq_true] at hij
      have hi := rngOk_iff hij.1
      have hj := rngOk_iff hij.2
      refine ⟨i, j, by rw [e1], ⟨hi.1, hi.2, hj.1, hj.2⟩, p2 F2 ι2 H2 _ (Same.refl _) IExt.refl rp2 (srcOk_range i _)⟩
    · exact p2.elim
  · exact p2.elim

/-! ### targets -/
def PostG (K : PySem.W.Frag) (g : Stat) (LR : LRT) (F R : Hp) (ι : Nat → Addr) (S : Sto) (H : Hp) (o : Option Slots) (Q : L2.St → Hp → Prop) : Prop :=
  match o with
  | some env' => ∀ σ', REnv K g.gc LR F ι S.length σ' env' → Q σ' H
  | none => False
/-- the slots differ at these places alone -/
def OnlyAt (is : List Nat) (σ σ' : L2.St) : Prop := σ'.length = σ.length ∧ ∀ j, j ∉ is → (σ' : List (Option V))[j]? = (σ : List (Option V))[j]?
theorem OnlyAt.refl (is : List Nat) (σ : L2.St) : OnlyAt is σ σ := ⟨rfl, fun _ _ => rfl⟩
theorem OnlyAt.set {is : List Nat} {σ σ' : L2.St} {i : Nat} {v : Option V} (h : i ∈ is) (o : OnlyAt is (σ.set i v) σ') : OnlyAt is σ σ' :=
  ⟨by rw [o.1, List.length_set], fun j hj => by rw [o.2 j hj, List.getElem?_set_ne (fun z => hj (by rw [← z]; exact h))]⟩
theorem OnlyAt.mono {is js : List Nat} {σ σ' : L2.St} (h : ∀ i, i ∈ is → i ∈ js) (o : OnlyAt is σ σ') : OnlyAt js σ σ' := ⟨o.1, fun j hj => o.2 j fun z => hj (h j z)⟩
theorem wipe_get (σ : L2.St) : ∀ (vs : List Nat) (j : Nat), (L2.wipe σ vs : List (Option V))[j]? = if j ∈ vs ∧ j < σ.length then some none else (σ : List (Option V))[j]?
  | [], j => by simp [L2.wipe]
  | i :: is, j => by
    show ((L2.wipe σ is).set i none : List (Option V))[j]? = _
    have ih := wipe_get σ is j
    by_cases h : i = j
    · subst h
      by_cases hl : i < σ.length
      · rw [List.getElem?_set_self (by rw [L2.wipe_length]; exact hl), if_pos ⟨List.mem_cons_self, hl⟩]
      · rw [if_neg (fun z => hl z.2), List.getElem?_eq_none (by rw [List.length_set, L2.wipe_length]; omega), List.getElem?_eq_none (by omega)]
    · rw [List.getElem?_set_ne h, ih]
      have e : (j ∈ is ∧ j < σ.length) ↔ (j ∈ i :: is ∧ j < σ.length) := by
        rw [List.mem_cons]
        exact ⟨fun z => ⟨.inr z.1, z.2⟩, fun z => ⟨z.1.resolve_left (fun w => h w.symm), z.2⟩⟩
      by_cases hc : j ∈ is ∧ j < σ.length
      · rw [if_pos hc, if_pos (e.mp hc)]
      · rw [if_neg hc, if_neg (fun z => hc (e.mpr z))]
theorem OnlyAt.wipe {vs : List Nat} {σ σ' : L2.St} (o : OnlyAt vs (L2.wipe σ vs) σ') : L2.wipe σ' vs = L2.wipe σ vs := by
  apply List.ext_getElem?
  intro j
  have hl : σ'.length = σ.length := by rw [o.1, L2.wipe_length]
  rw [wipe_get, wipe_get, hl]
  by_cases hc : j ∈ vs ∧ j < σ.length
  · rw [if_pos hc, if_pos hc]
  · rw [if_neg hc, if_neg hc]
    by_cases hj : j ∈ vs
    · have h1 : σ.length ≤ j := Nat.le_of_not_lt fun z => hc ⟨hj, z⟩
      rw [List.getElem?_eq_none (by rw [hl]; exact h1), List.getElem?_eq_none h1]
    · rw [o.2 j hj, wipe_get, if_neg hc]
def Tg.at : Tg → List Nat
  | .name i => [i]
  | .names is => is
def tG (K : PySem.W.Frag) (g : Stat) (LR : LRT) (t : Tg) : TG := fun v σ H Q => ∃ env F R ι S d, REnv K g.gc LR F ι S.length σ env ∧ Rep K g F R ι S H ∧ RD K g.gc F v d ∧ PostG K g LR F R ι S H (tgV t d env) fun σ' H' => OnlyAt (Tg.at t) σ σ' → Q σ' H'
structure FG (g : Stat) (N : List Str) (sc : Scope) (fs : Str → Bool) (tg : Expr) (t : Tg) : Prop where
  pg : ∀ LR C X, XOk g LR C N sc X → (∀ x, fs x = true → X.fn x = true) → PG X tg (tG X.K g LR t)
theorem PG.imp {X : Cx} {e : Expr} {t t' : TG} (h : PG X e t) (i : ∀ v σ H Q, t' v σ H Q → t v σ H Q) : PG X e t' := ⟨fun pins s σ H v u Q I r q => h.run pins s σ H v u Q I r (i _ _ _ _ q)⟩
theorem fg_name {fs : Str → Bool} {x : Str} (i : Nat) (hi : N[i]? = some x) (hx : Loc sc x) (hf : fs x = true ∨ sc.names.lookup x = some .local) : FG g N sc fs (.Name x pos) (.name i) := by
  refine ⟨fun LR C X ok hfs => PG.imp (pg_name (i := i) (by rw [ok.hN]; exact ok.nd) (by rw [ok.hN]; exact hi) (by rw [ok.sc]; exact hx) (hf.imp (hfs x) fun h => by rw [ok.sc]; exact h)) fun v σ H Q q => ?_⟩
  obtain ⟨env, F, R, ι, S, d, re, rp, rd, p⟩ := q
  exact p _ (REnv.set re i rd) ⟨by rw [List.length_set], fun j hj => List.getElem?_set_ne (fun z => hj (by rw [z]; exact List.mem_singleton.mpr rfl))⟩
/-- several names -/
inductive FNs (N : List Str) (sc : Scope) (fs : Str → Bool) : List Expr → List Nat → Prop
  | nil : FNs N sc fs [] []
  | cons {x : Str} {i : Nat} {p : Pos} {es : List Expr} {is : List Nat} : N[i]? = some x → Loc sc x → (fs x = true ∨ sc.names.lookup x = some .local) → FNs N sc fs es is → FNs N sc fs (.Name x p :: es) (i :: is)
def tGs (K : PySem.W.Frag) (g : Stat) (LR : LRT) (is : List Nat) : TGs := fun vs σ H Q => ∃ env F R ι S ds, REnv K g.gc LR F ι S.length σ env ∧ Rep K g F R ι S H ∧ RDs K g.gc F vs ds ∧ PostG K g LR F R ι S H (bindNames is ds env) fun σ' H' => OnlyAt is σ σ' → Q σ' H'
theorem PGs.imp {X : Cx} {es : List Expr} {t t' : TGs} (h : PGs X es t) (i : ∀ v σ H Q, t' v σ H Q → t v σ H Q) : PGs X es t' := ⟨fun pins s σ H v u Q I r q => h.run pins s σ H v u Q I r (i _ _ _ _ q)⟩
theorem fns_pgs {fs : Str → Bool} {es : List Expr} {is : List Nat} (h : FNs N sc fs es is) {LR : LRT} {C : Cxt} {X : Cx} (ok : XOk g LR C N sc X) (hfs : ∀ x, fs x = true → X.fn x = true) : PGs X es (tGs X.K g LR is) ∧ (assignEach es X.env).length = is.length ∧ (assignEach es X.env).findIdx? (·.1) = none := by
  induction h with
  | nil =>
    refine ⟨PGs.imp pgs_nil fun vs σ H Q q => ?_, rfl, rfl⟩
    obtain ⟨env, F, R, ι, S, ds, re, rp, rd, p⟩ := q
    cases rd with
    | nil => exact ⟨rfl, p _ re (OnlyAt.refl _ _)⟩
    | cons _ _ => exact p.elim
  | @cons x i pp es is hi hx hf _ ih =>
    obtain ⟨i1, i2, i3⟩ := ih
    have h1 : PG X (.Name x pp) (gName i) := pg_name (by rw [ok.hN]; exact ok.nd) (by rw [ok.hN]; exact hi) (by rw [ok.sc]; exact hx) (hf.imp (hfs x) fun h => by rw [ok.sc]; exact h)
    refine ⟨PGs.imp (pgs_cons h1 i1 rfl) fun vs σ H Q q => ?_, ?_, ?_⟩
    · obtain ⟨env, F, R, ι, S, ds, re, rp, rd, p⟩ := q
      cases rd with
      | nil => exact p.elim
      | cons r rs =>
        refine ⟨_, _, rfl, env.set i (some (.d _)), F, R, ι, S, _, REnv.set re i r, rp, rs, ?_⟩
        cases hb : bindNames is _ (env.set i (some (.d _))) with
        | none => unfold bindNames at p; rw [hb] at p; exact p.elim
        | some env' =>
          unfold bindNames at p
          rw [hb] at p
          exact fun σ' r' o => p σ' r' (OnlyAt.set List.mem_cons_self (o.mono fun j hj => List.mem_cons_of_mem _ hj))
    · show (assignEach es X.env).length + 1 = is.length + 1
      rw [i2]
    · show ((false, assign (.Name x pp) X.env) :: assignEach es X.env).findIdx? (·.1) = none
      rw [List.findIdx?_cons, i3] <;> rfl
theorem fg_names {fs : Str → Bool} {es : List Expr} {is : List Nat} {k : Nat} (h : FNs N sc fs es is) : FG g N sc fs (.Tuple es k pos) (.names is) := by
  refine ⟨fun LR C X ok hfs => ?_⟩
  obtain ⟨h1, h2, h3⟩ := fns_pgs h ok hfs
  refine PG.imp (pg_tup ok.calm h1 h2 h3) fun v σ H Q q => ?_
  obtain ⟨env, F, R, ι, S, d, re, rp, rd, p⟩ := q
  cases rd with
  | @tup a vs xs a1 a2 =>
    refine ⟨a, vs, rfl, sqT_mono rp.fH a1, ?_, env, F, R, ι, S, xs, re, rp, a2, p⟩
    rw [a2.length]
    have lenOf : ∀ (is : List Nat) (xs : List D) (env : Slots), ∀ Q', PostG X.K g LR F R ι S H (bindNames is xs env) Q' → xs.length = is.length := by
      intro is
      induction is with
      | nil => intro xs env Q' q; cases xs with | nil => rfl | cons _ _ => exact q.elim
      | cons i is ih => intro xs env Q' q; cases xs with | nil => exact q.elim | cons x xs => rw [List.length_cons, List.length_cons, ih xs _ Q' q]
    exact lenOf is xs env _ p
  | _ => exact p.elim
end
end PyS
end

section
set_option Elab.async false
set_option linter.all false
set_option maxRecDepth 100000
set_option
        maxHeartbeats 4000000
/-! PSnd8: list comprehensions. -/
namespace PyS
open PySem PySem.Spec PyProof.Rows L2 Py

section
variable {g : Stat} {N : List Str} {sc : Scope}
abbrev blkX (X : Cx) (scope : Scope) (s : Shared) (H : Hp) (C : Addr) (cl : List (Str × Addr)) (fp : List Addr) : Cx := X.blk s H scope (compEnvC scope cl C X.env) fp
theorem XOk.blk {LR : LRT} {Ca : Cxt} {X : Cx} {scope : Scope} (ok : XOk g LR Ca N sc X) (s : Shared) (H : Hp) (C : Addr) (cl : List (Str × Addr)) (fp : List Addr) : XOk g LR Ca N (relS scope sc) (blkX X scope s H C cl fp) := by
  refine ⟨ok.hN, ok.nd, ?_, ok.calm, ok.lm, ok.facts, ok.prg, ok.rp, ok.hlam, ok.hca, ok.room⟩
  rw [← ok.sc]
  rfl
abbrev blkFn (scope : Scope) : Str → Bool := fun x => scope.names.lookup x == some .cell
theorem takesF {X : Cx} : Takes X (fun _ _ _ _ => False) := L2.takes0
/-- one test, or none -/
inductive FC (g : Stat) (N : List Str) (sc : Scope) : List Expr → Option EF → Prop
  | none : FC g N sc [] none
  | some {e : Expr} {f : EF} : FE g N sc e f → FC g N sc [e] (some f)
def tC? (K : PySem.W.Frag) (g : Stat) (LR : LRT) (C : Cxt) : Option EF → TT
  | none => tYes
  | some f => tT K g LR C (fun _ _ _ _ => False) f
theorem fc_of {es : List Expr} {c : Option EF} (h : FC g N sc es c) {LR : LRT} {C : Cxt} {X : Cx} (ok : XOk g LR C N sc X) : PTs X es (tC? X.K g LR C c) := by
  cases h with
  | none => exact pts_nil
  | some h => exact pts_one (h.te LR C X _ ok takesF)
/-- the list that is made: it is ours until the end -/
def PostC (K : PySem.W.Frag) (g : Stat) (F R : Hp) (ι : Nat → Addr) (S : Sto) (Dd : Addr) (r : Rs (List D)) (Q : Hp → Prop) : Prop :=
  match r with
  | .ok ys S' => ∀ F' ι' H' ws, Same F F' → IExt S ι S' ι' → Rep K g F' (upd R Dd (.lst ws)) ι' S' H' → RDs K g.gc F' ws ys → Q H'
  | _ => False
theorem PostC.up {K : PySem.W.Frag} {F R F1 : Hp} {ι ι1 : Nat → Addr} {S S1 : Sto} {Dd : Addr} {r : Rs (List D)} {Q : Hp → Prop} (sm : Same F F1) (ie : IExt S ι S1 ι1) (h : PostC K g F R ι S Dd r Q) : PostC K g F1 R ι1 S1 Dd r Q := by
  cases r with
  | ok ys S' => exact fun F' ι' H' ws s1 i1 r1 x1 => h F' ι' H' ws (sm.trans s1) (ie.trans i1) r1 x1
  | exc _ _ => exact h
  | bad => exact h
section
variable {K : PySem.W.Frag} {F R H : Hp} {ι : Nat → Addr} {S : Sto} {Dd : Addr} {o o' : HO}
theorem upd_nr {R : Hp} {p : Addr} {o : HO} (h : ∀ a o, R a = some o → (∀ ps, o ≠ .tbl ps) ∧ ∀ φ, o ≠ .ext φ) (ho : (∀ ps, o ≠ .tbl ps) ∧ ∀ φ, o ≠ .ext φ) : ∀ a u, upd R p o a = some u → (∀ ps, u ≠ .tbl ps) ∧ ∀ φ, u ≠ .ext φ := fun a u z => by
  by_cases ha : a = p
  · rw [ha, upd_same] at z
    cases z
    exact ho
  · rw [upd_ne ha] at z
    exact h a u z
theorem Rep.own (h : Rep K g F R ι S H) (hD : H Dd = none) (ho : (∀ ps, o ≠ .tbl ps) ∧ ∀ φ, o ≠ .ext φ := by constructor <;> (intro _ z; cases z)) : Rep K g F (upd R Dd o) ι S (upd H Dd o) := by
  have a := h.grow (o := o) hD
  refine ⟨a.fH, Same.upd_both h.rH Dd _, a.box, a.inj, fun i u e hl => ⟨(a.fr i u e hl).1, ?_⟩, fun b u q => ?_, a.tabs, h.ntF, upd_nr h.ntR ho⟩
  · obtain ⟨w, hu, _⟩ := RB.there hl (h.box i u e)
    rw [upd_ne (ne_of_none hu hD)]
    exact (a.fr i u e hl).2
  · by_cases hb : b = Dd
    · rw [hb]
      exact h.fH.free hD
    · rw [upd_ne hb] at q
      exact h.dj b u q
theorem tabs_upd {T : List (Addr × Str)} {H : Hp} {Dd : Addr} {o o' : HO} (t : LamX.Tabs T H) (hD : H Dd = some o) (n1 : ∀ ps, o ≠ .tbl ps) (n2 : ∀ φ, o ≠ .ext φ) : LamX.Tabs T (upd H Dd o') := by
  intro p hp
  obtain ⟨ps, q1, q2, q3⟩ := t p hp
  have m1 : p.1 ≠ Dd := fun z => by rw [z, hD] at q1; exact n1 _ (Option.some.inj q1)
  refine ⟨ps, by rw [upd_ne m1]; exact q1, q2, fun pos cv hc => ?_⟩
  obtain ⟨c, e1, e2⟩ := q3 pos cv hc
  have m2 : c ≠ Dd := fun z => by
    rw [z, hD] at e2
    exact n2 _ (Option.some.inj e2)
  exact ⟨c, e1, by rw [upd_ne m2]; exact e2⟩
/-- an untracked change: only an object of ours, no table and no box -/
theorem Rep.change (h : Rep K g F (upd R Dd o) ι S H) (n1 : ∀ ps, o ≠ .tbl ps) (n2 : ∀ φ, o ≠ .ext φ) (ho : (∀ ps, o' ≠ .tbl ps) ∧ ∀ φ, o' ≠ .ext φ := by constructor <;> (intro _ z; cases z)) : Rep K g F (upd R Dd o') ι S (upd H Dd o') := by
  have hD : H Dd = some o := h.rH _ _ upd_same
  have fD : F Dd = none := h.dj Dd _ upd_same
  have nb : ∀ i u, S[i]? = some u → live u → ι i ≠ Dd := fun i u e hl z => by
    have q := (h.fr i u e hl).2
    rw [z, upd_same] at q
    cases q
  refine ⟨fun b u q => ?_, fun b u q => ?_, fun i u e => ?_, h.inj, fun i u e hl => ⟨(h.fr i u e hl).1, ?_⟩, fun b u q => ?_, tabs_upd h.tabs hD n1 n2, h.ntF, fun b u q => by
    by_cases hb : b = Dd
    · rw [hb, upd_same] at q
      cases q
      exact ho
    · rw [upd_ne hb] at q
      exact h.ntR b u (by rw [upd_ne hb]; exact q)⟩
  · rw [upd_ne (fun z => by rw [z, fD] at q; cases q)]
    exact h.fH _ _ q
  · by_cases hb : b = Dd
    · rw [hb, upd_same] at q ⊢
      exact q
    · rw [upd_ne hb] at q ⊢
      exact h.rH b u (by rw [upd_ne hb]; exact q)
  · by_cases hl : live u
    · exact RB.at (upd_ne (nb i u e hl)) (h.box i u e)
    · cases u with
      | dead => trivial
      | _ => exact absurd trivial hl
  · have q := (h.fr i u e hl).2
    rw [upd_ne (nb i u e hl)] at q ⊢
    exact q
  · by_cases hb : b = Dd
    · rw [hb]; exact fD
    · rw [upd_ne hb] at q
      exact h.dj b u (by rw [upd_ne hb]; exact q)
/-- ours no longer -/
theorem Rep.disown (h : Rep K g F (upd R Dd o) ι S H) (rD : R Dd = none) : Rep K g F R ι S H ∧ H Dd = some o ∧ F Dd = none ∧ ∀ i o, S[i]? = some o → live o → ι i ≠ Dd := by
  have nb : ∀ i u, S[i]? = some u → live u → ι i ≠ Dd := fun i u e hl z => by
    have q := (h.fr i u e hl).2
    rw [z, upd_same] at q
    cases q
  have ne : ∀ b u, R b = some u → b ≠ Dd := fun b u q z => by rw [z, rD] at q; cases q
  refine ⟨⟨h.fH, fun b u q => h.rH b u (by rw [upd_ne (ne b u q)]; exact q), h.box, h.inj, fun i u e hl => ⟨(h.fr i u e hl).1, ?_⟩, fun b u q => h.dj b u (by rw [upd_ne (ne b u q)]; exact q), h.tabs, h.ntF, fun b u q => h.ntR b u (by rw [upd_ne (ne b u q)]; exact q)⟩, h.rH _ _ upd_same, h.dj Dd _ upd_same, nb⟩
  have q := (h.fr i u e hl).2
  rw [upd_ne (nb i u e hl)] at q
  exact q
end

theorem lt_get {xs : List D} {i : Nat} (h : i < xs.length) : ∃ d, xs[i]? = some d ∧ xs.drop i = d :: xs.drop (i + 1) :=
  ⟨xs[i], List.getElem?_eq_getElem h, List.drop_eq_getElem_cons h⟩

/-- the state at a turn -/
def CompW (K : PySem.W.Frag) (g : Stat) (LR : LRT) (F0 R : Hp) (ι0 : Nat → Addr) (S0 : Sto) (Dd : Addr) (Q : Hp → Prop) (go : List D → List D → Sto → Rs (List D)) (xs : List D) (i m : Nat) (H : Hp) : Prop :=
  m = xs.length - i ∧ i ≤ xs.length ∧ ∃ F ι S acc vs, Same F0 F ∧ IExt S0 ι0 S ι ∧ Rep K g F (upd R Dd (.lst vs)) ι S H ∧ RDs K g.gc F vs acc ∧ PostC K g F R ι S Dd (go (xs.drop i) acc S) Q

variable {elt tg iter : Expr} {ifs : List Expr} {scope : Scope} {own : List (Str × Nat)} {pos : Pos} {s : Src} {t : Tg} {c : Option EF} {f : EF}
/-- one turn: the target, the test, the element -/
theorem turn_of {K : PySem.W.Frag} {LR : LRT} {C : Cxt} {F R : Hp} {ι : Nat → Addr} {S : Sto} {Dd : Addr} {vs : List V} {acc : List D} {x : V} {d : D} {rest : List D} {σ : L2.St} {env : Slots} {H : Hp} {Q : Hp → Prop} {Nx : Hp → Prop} {vw : List Nat} (hl : LMono LR) (hat : ∀ i, i ∈ Tg.at t → i ∈ vw)
    (re : REnv K g.gc LR F ι S.length (L2.wipe σ vw) env) (rp : Rep K g F (upd R Dd (.lst vs)) ι S H) (rs : RDs K g.gc F vs acc) (rd : RD K g.gc F x d)
    (p : PostC K g F R ι S Dd (compGo t c f C env (d :: rest) acc S) Q)
    (fin : ∀ F1 ι1 S1 acc1 vs1 H1, Same F F1 → IExt S ι S1 ι1 → Rep K g F1 (upd R Dd (.lst vs1)) ι1 S1 H1 → RDs K g.gc F1 vs1 acc1 → PostC K g F1 R ι1 S1 Dd (compGo t c f C env rest acc1 S1) Q → Nx H1) :
    tG K g LR t x (L2.wipe σ vw) H fun σ2 H2 => L2.wipe σ2 vw = L2.wipe σ vw ∧ tC? K g LR C c σ2 H2 fun b H3 =>
      if b = true then tE K g LR C (fun _ _ _ _ => False) (fz f) σ2 H3 fun y H4 => ∃ acc, H4 Dd = some (.lst acc) ∧ acc.length < sizeLine ∧ Nx (upd H4 Dd (.lst (acc ++ [y]))) else Nx H3 := by
  refine ⟨env, F, upd R Dd (.lst vs), ι, S, d, re, rp, rd, ?_⟩
  unfold compGo at p
  cases hb : tgV t d env with
  | none => rw [hb] at p; exact p
  | some env1 =>
    rw [hb] at p
    dsimp only at p
    intro σ' re1 only
    have ow : OnlyAt vw (L2.wipe σ vw) σ' := only.mono hat
    refine ⟨OnlyAt.wipe ow, ?_⟩
    -- the element, behind the test
    have elem : ∀ {F2 : Hp} {ι2 : Nat → Addr} {S2 : Sto} {H2 : Hp}, Same F F2 → IExt S ι S2 ι2 → Rep K g F2 (upd R Dd (.lst vs)) ι2 S2 H2 →
        PostC K g F2 R ι2 S2 Dd (match fz f C env1 S2 with
          | .ok (.d y) S1 => if acc.length < sizeCap then compGo t c f C env rest (acc ++ [y]) S1 else .bad
          | _ => .bad) Q → tE K g LR C (fun _ _ _ _ => False) (fz f) σ' H2 fun y H4 => ∃ acc, H4 Dd = some (.lst acc) ∧ acc.length < sizeLine ∧ Nx (upd H4 Dd (.lst (acc ++ [y]))) := by
      intro F2 ι2 S2 H2 sm2 ie2 rp2 p2
      refine ⟨env1, F2, upd R Dd (.lst vs), ι2, S2, REnv.ext hl sm2 ie2 re1, rp2, ?_⟩
      cases hr : fz f C env1 S2 with
      | bad => rw [hr] at p2; exact p2
      | exc e S' => rw [hr] at p2; exact p2.elim
      | ok v S3 =>
        rw [hr] at p2
        cases v with
        | d y =>
          dsimp only at p2
          split at p2
          · rename_i hz
            intro F3 ι3 H3 z sm3 ie3 rp3 rz
            have rs3 := RDs.mono sm3 (RDs.mono sm2 rs)
            refine ⟨vs, rp3.rH _ _ upd_same, by rw [rs.length, ← cap_eq]; exact hz, ?_⟩
            refine fin F3 ι3 S3 (acc ++ [y]) (vs ++ [z]) _ (sm2.trans sm3) (ie2.trans ie3) (Rep.change rp3 (fun _ z => by cases z) (fun _ z => by cases z)) (rs3.append (.cons rz .nil)) (PostC.up sm3 ie3 p2)
          · exact p2.elim
        | _ => exact p2.elim
    cases c with
    | none =>
      simp only [tC?, tYes, if_true]
      exact elem (Same.refl _) IExt.refl rp p
    | some c' =>
      dsimp only at p
      refine ⟨env1, F, upd R Dd (.lst vs), ι, S, re1, rp, ?_⟩
      unfold Py.fz at p
      cases hc : c' C env1 S with
      | bad => rw [hc] at p; exact p
      | exc e S' => rw [hc] at p; exact p.elim
      | ok v S0 =>
        rw [hc] at p
        have p : PostC K g F R ι S Dd (match (Rs.ok v.frz S0 : Rs Vl) with
          | .ok (.d (.bl true)) S0 => (match fz f C env1 S0 with
            | .ok (.d y) S1 => if acc.length < sizeCap then compGo t (some c') f C env rest (acc ++ [y]) S1 else .bad
            | _ => .bad)
          | .ok (.d (.bl false)) S0 => compGo t (some c') f C env rest acc S0
          | _ => .bad) Q := p
        cases v with
        | d d' =>
          cases d' with
          | bl b =>
            refine ⟨b, rfl, fun F2 ι2 H2 sm2 ie2 rp2 => ?_⟩
            cases b with
            | true =>
              rw [if_pos rfl]
              exact elem sm2 ie2 rp2 (PostC.up sm2 ie2 p)
            | false =>
              rw [if_neg
                      Bool.false_ne_true]
              exact fin F2 ι2 S0 acc vs H2 sm2 ie2 rp2 (RDs.mono sm2 rs) (PostC.up sm2 ie2 p)
          | _ => exact p.elim
        | new _ => exact p.elim
        | _ => exact p.elim

theorem post_src {K : PySem.W.Frag} {LR : LRT} {W : Value → Option Addr → Hp → Prop} {F R : Hp} {ι : Nat → Addr} {S : Sto} {r : Rs (List D)} {k : List D → Sto → Rs Vl} {Q : VK} {Q1 : It → Hp → Prop} (h : PostE K g LR W F R ι S (r.bind k) Q)
    (i : ∀ xs S1 F1 ι1 H1 J, Same F F1 → IExt S ι S1 ι1 → Rep K g F1 R ι1 S1 H1 → SrcOk K g.gc F1 xs J → PostE K g LR W F1 R ι1 S1 (k xs S1) Q → Q1 J H1) : PostI K g W F R ι S r Q1 := by
  cases r with
  | bad => exact h
  | exc e S' => exact h
  | ok xs S1 => exact fun F1 ι1 H1 J sm ie rp sk => i xs S1 F1 ι1 H1 J sm ie rp sk (PostE.up sm ie (show PostE K g LR W F R ι S (k xs S1) Q from h))
/-- the reading of a comprehension -/
theorem comp_read {K : PySem.W.Frag} {LR : LRT} {C : Cxt} {W : WX} {σ : L2.St} {H : Hp} {Q : VK} (hl : LMono LR) (hat : ∀ i, i ∈ Tg.at t → i ∈ own.map (·.2)) (q : tE K g LR C W (eComp (own.map (·.2)) s t c f) σ H Q) :
    tLc (tI K g LR C W s) (tG K g LR t) (tC? K g LR C c) (tE K g LR C (fun _ _ _ _ => False) (fz f)) (own.map (·.2)) σ H Q := by
  obtain ⟨env, F, R, ι, S, re, rp, p⟩ := q
  have p : PostE K g LR (fun c d H => W c d σ H) F R ι S ((srcV s C env S).bind fun xs S1 => (compGo t c f C (wipeE (own.map (·.2)) env) xs [] S1).bind fun ys S2 => .ok (.new ys) S2) Q := p
  refine ⟨env, F, R, ι, S, re, rp, post_src p fun xs S1 F1 ι1 H1 J sm ie rp1 sk p1 => ?_⟩
  intro Dd hD
  have rD : R Dd = none := rp1.rH.free hD
  have re1 := REnv.ext hl sm ie re
  have p2 : PostC K g F1 R ι1 S1 Dd (compGo t c f C (wipeE (own.map (·.2)) env) xs [] S1) (fun H' => Q (.ref Dd) H') := by
    cases hk : compGo t c f C (wipeE (own.map (·.2)) env) xs [] S1 with
    | bad => rw [hk] at p1; exact p1
    | exc e S' =>
      exfalso
      have noX : ∀ (xs acc : List D) (S : Sto) (e : Xn) (S' : Sto), compGo t c f C (wipeE (own.map (·.2)) env) xs acc S ≠ .exc e S' := by
        intro xs
        induction xs with
        | nil => intro acc S e S' z; unfold compGo at z; cases z
        | cons x xs ih =>
          intro acc S e S' z
          unfold compGo at z
          repeat' split at z
          all_goals first | (exact ih _ _ _ _ z) | cases z
      exact noX _ _ _ _ _ hk
    | ok ys S2 =>
      rw [hk] at p1
      intro F' ι' H' ws sm' ie' rp' rs'
      obtain ⟨b1, b2, b3, b4⟩ := rp'.disown rD
      exact p1 F' ι' H' _ sm' ie' b1 ⟨Dd, ws, rfl, b2, rs', b3, rD, b4⟩
  refine ⟨CompW K g LR F1 R ι1 S1 Dd (fun H' => Q (.ref Dd) H') (compGo t c f C (wipeE (own.map (·.2)) env)) xs, ⟨_, rfl, Nat.zero_le _, F1, ι1, S1, [], [], Same.refl _, IExt.refl, rp1.own hD, .nil, p2⟩, ?_⟩
  rintro i m H2 ⟨em, hi, F2, ι2, S2, acc, vs, sm2, ie2, rp2, rs2, q2⟩
  obtain ⟨s1, s2⟩ := sk i H2 (sm2.trans rp2.fH)
  by_cases hlt : i < xs.length
  · right
    obtain ⟨d, hd, hdrop⟩ := lt_get hlt
    obtain ⟨go, yl⟩ := s1 d hd
    rw [hdrop] at q2
    refine ⟨go, fun H' => CompW K g LR F1 R ι1 S1 Dd (fun H' => Q (.ref Dd) H') (compGo t c f C (wipeE (own.map (·.2)) env)) xs (i + 1) (xs.length - (i + 1)) H', fun H' h' => ⟨xs.length - (i + 1), by omega, h'⟩, fun x H3 y => ?_⟩
    have done : ∀ {F3 : Hp} {H3 : Hp}, Same F2 F3 → Rep K g F3 (upd R Dd (.lst vs)) ι2 S2 H3 → RD K g.gc F3 x d → _ := fun {F3 H3} sm3 rp3 rd =>
      turn_of (Nx := fun H' => CompW K g LR F1 R ι1 S1 Dd (fun H' => Q (.ref Dd) H') (compGo t c f C (wipeE (own.map (·.2)) env)) xs (i + 1) (xs.length - (i + 1)) H') hl hat
        (REnv.wipe (REnv.ext hl (sm2.trans sm3) ie2 re1) (own.map (·.2))) rp3 (RDs.mono sm3 rs2) rd (PostC.up sm3 IExt.refl q2)
        fun F4 ι4 S4 acc4 vs4 H4 sm4 ie4 rp4 rs4 q4 => ⟨rfl, hlt, F4, ι4, S4, acc4, vs4, (sm2.trans sm3).trans sm4, ie2.trans ie4, rp4, rs4, q4⟩
    rcases yl x H3 y with ⟨rfl, rd⟩ | ⟨pp, ws, ds, rfl, rfl, hp, rfl, rds⟩
    · exact done (Same.refl _) rp2 (RD.mono sm2 rd)
    · obtain ⟨g1, g2, g3⟩ := rp2.growF (o := .tup ws) hp
      exact done g2 g1 (RD.tup (SqT.of upd_same) (RDs.mono (sm2.trans g2) rds))
  · left
    have ei : i = xs.length := by omega
    subst ei
    refine ⟨s2 (Nat.le_refl _), ?_⟩
    rw [List.drop_eq_nil_of_le (Nat.le_refl _)] at q2
    unfold compGo at q2
    exact q2 F2 ι2 H2 vs (Same.refl _) IExt.refl rp2 rs2
/-- [elt for tg in iter if ..] -/
theorem fe_comp (hi : FI g N sc tg iter s) (hb : blkC N sc scope own = true) (hg : FG g N (relS scope sc) (blkFn scope) tg t) (hc : FC g N (relS scope sc) ifs c) (he : FE g N (relS scope sc) elt f) (hat : ∀ i, i ∈ Tg.at t → i ∈ own.map (·.2)) :
    FE g N sc (.ListComp elt [⟨tg, iter, ifs, 0⟩] scope pos) (eComp (own.map (·.2)) s t c f) := by
  refine fe_of (fun LR C X W ok tk => ?_) (fun _ _ => rfl) (fun _ _ => rfl)
  refine PE.imp (pe_lc ok.calm (by rw [ok.hN]; exact ok.nd) (hi.pi LR C X W ok tk) (blkOk_by (by rw [ok.hN, ok.sc]; exact hb)) (fun s H Ca cl fp => hg.pg LR C _ (ok.blk s H Ca cl fp) fun _ h => h) (fun s H Ca cl fp => fc_of hc (ok.blk s H Ca cl fp)) (fun s H Ca cl fp => he.fz (ok.blk s H Ca cl fp) takesF) (hi.fold _)) fun σ H Q q => comp_read ok.lm hat q
end
end PyS
end

section
set_option Elab.async false
set_option linter.all false
set_option maxRecDepth 100000
set_option
        maxHeartbeats 4000000
/-! PSnd9: statements. -/
namespace PyS
open PySem PySem.Spec PyProof.Rows L2 Py

/-- a statement's outcome -/
def PostS (K : PySem.W.Frag) (g : Stat) (LR : LRT) (W : WX) (F R : Hp) (ι : Nat → Addr) (S : Sto) (n : Nat) (o : Ou) (D : Ends) : Prop :=
  match o with
  | .nx env' S' => ∀ F' ι' σ' H', Same F F' → IExt S ι S' ι' → Rep K g F' R ι' S' H' → REnv K g.gc LR F' ι' S'.length σ' env' → σ'.length = n → D.nx σ' H'
  | .rt v S' => ∀ F' ι' H' x, Same F F' → IExt S ι S' ι' → Rep K g F' R ι' S' H' → RV K g.gc LR F' ι' S'.length x v → D.rt x H'
  | .bk env' S' => ∀ F' ι' σ' H', Same F F' → IExt S ι S' ι' → Rep K g F' R ι' S' H' → REnv K g.gc LR F' ι' S'.length σ' env' → σ'.length = n → D.bk σ' H'
  | .ct env' S' => ∀ F' ι' σ' H', Same F F' → IExt S ι S' ι' → Rep K g F' R ι' S' H' → REnv K g.gc LR F' ι' S'.length σ' env' → σ'.length = n → D.ct σ' H'
  | .exc e S' => ∀ F' ι' (σ' : L2.St) H' cls d, Same F F' → IExt S ι S' ι' → Rep K g F' R ι' S' H' → RX K g F' H' cls d e → σ'.length = n → W cls d σ' H'
  | .bad => False
def tS (K : PySem.W.Frag) (g : Stat) (LR : LRT) (C : Cxt) (W : WX) (s : SF) : TS := fun D σ H => ∃ env F R ι S, REnv K g.gc LR F ι S.length σ env ∧ Rep K g F R ι S H ∧ PostS K g LR W F R ι S σ.length (s C env S) D
/-- a def's body runs here -/
structure XSt (g : Stat) (LR : LRT) (C : Cxt) (X : Cx) : Prop where
  act : ∀ (W : WX) (pn : List (Addr × Obj)) (xe : Value → Shared → Prop) (a : Str) (p1 p2 : Pos), X.N[0]? = some a → Vis X.env.scope a → (a == ("__debug__" : Str)) = false → (a == ("__classdict__" : Str)) = false → Takes (X.tr pn xe) W → PE (X.tr pn xe) (.Call (.Name a p1) [] [] p2) (tE X.K g LR C W (eAct 0))
  po : PassesOwn (model X.prog X.w) X.A X.env X.xe
  fn : ∀ x, X.fn x = true
  stk : X.stack = X.env :: X.outer
  fr : X.env.frame = some X.env.locals
abbrev fnAll : Str → Bool := fun _ => true
structure FS (g : Stat) (N : List Str) (sc : Scope) (st : Stmt) (s : SF) : Prop where
  ps : ∀ LR C X W, XOk g LR C N sc X → XSt g LR C X → Takes X W → PS X st (tS X.K g LR C W s)
structure FSs (g : Stat) (N : List Str) (sc : Scope) (st : List Stmt) (s : SF) : Prop where
  ps : ∀ LR C X W, XOk g LR C N sc X → XSt g LR C X → Takes X W → PSs X st (tS X.K g LR C W s)
theorem PSs.imp {X : Cx} {st : List Stmt} {t t' : TS} (h : PSs X st t) (i : ∀ D σ H, t' D σ H → t D σ H) : PSs X st t' := ⟨fun pins s σ H D I q => h.run pins s σ H D I (i _ _ _ q)⟩
section
variable {K : PySem.W.Frag} {g : Stat} {LR : LRT} {C : Cxt} {W : WX} {F R F1 : Hp} {ι ι1 : Nat → Addr} {S S1 : Sto} {n : Nat} {D : Ends} {env : Slots} {σ : L2.St}
theorem PostS.up {o : Ou} (sm : Same F F1) (ie : IExt S ι S1 ι1) (h : PostS K g LR W F R ι S n o D) : PostS K g LR W F1 R ι1 S1 n o D := by
  cases o with
  | bad => exact h
  | exc e S' => exact fun F' ι' σ' H' c d s1 i1 r1 x1 l => h F' ι' σ' H' c d (sm.trans s1) (ie.trans i1) r1 x1 l
  | rt v S' => exact fun F' ι' H' x s1 i1 r1 x1 => h F' ι' H' x (sm.trans s1) (ie.trans i1) r1 x1
  | nx e S' => exact fun F' ι' σ' H' s1 i1 r1 x1 l => h F' ι' σ' H' (sm.trans s1) (ie.trans i1) r1 x1 l
  | bk e S' => exact fun F' ι' σ' H' s1 i1 r1 x1 l => h F' ι' σ' H' (sm.trans s1) (ie.trans i1) r1 x1 l
  | ct e S' => exact fun F' ι' σ' H' s1 i1 r1 x1 l => h F' ι' σ' H' (sm.trans s1) (ie.trans i1) r1 x1 l
/-- behind an expression's value, at the slots σ -/
theorem post_out {r : Rs Vl} {k : Vl → Sto → Ou} (h : PostS K g LR W F R ι S σ.length (r.out k) D) {Q1 : VK}
    (i : ∀ v S1 F1 ι1 H1 x, r = .ok v S1 → Same F F1 → IExt S ι S1 ι1 → Rep K g F1 R ι1 S1 H1 → RT K g LR F1 R ι1 S1 H1 x v → PostS K g LR W F1 R ι1 S1 σ.length (k v S1) D → Q1 x H1) : PostE K g LR (fun c d H => W c d σ H) F R ι S r Q1 := by
  cases r with
  | bad => exact h
  | exc e S' => exact fun F' ι' H' c d s1 i1 r1 x1 => h F' ι' σ H' c d s1 i1 r1 x1 rfl
  | ok v S1 => exact fun F1 ι1 H1 x sm ie rp rt => i v S1 F1 ι1 H1 x rfl sm ie rp rt (PostS.up sm ie (show PostS K g LR W F R ι S σ.length (k v S1) D from h))
theorem fz_rv {f : EF} {v : Vl} {S1 : Sto} {R' : Hp} {H1 : Hp} {x : V} (hr : fz f C env S = .ok v S1) (rt : RT K g LR F1 R' ι1 S1 H1 x v) : RV K g.gc LR F1 ι1 S1.length x v := by
  refine RT.rv rt fun xs z => ?_
  unfold Py.fz at hr
  cases hf : f C env S with
  | bad => rw [hf] at hr; cases hr
  | exc e S' => rw [hf] at hr; cases hr
  | ok u S' =>
    rw [hf] at hr
    have hr' : (Rs.ok u.frz S' : Rs Vl) = .ok v S1 := hr
    injection hr' with h1 h2
    exact frz_ne u xs (h1.trans z)
end

section
variable {g : Stat} {N : List Str} {sc : Scope} {e e1 e2 tg iter : Expr} {f f1 f2 : EF} {pos p1 : Pos} {st : Stmt} {sts a b : List Stmt} {s1 s2 : SF}
theorem fss_nil : FSs g N sc [] sNext := by
  refine ⟨fun LR C X W ok xs tk => PSs.imp pss_nil fun D σ H q => ?_⟩
  obtain ⟨env, F, R, ι, S, re, rp, p⟩ := q
  exact p F ι σ H (Same.refl _) IExt.refl rp re rfl
theorem fss_cons (h1 : FS g N sc st s1) (h2 : FSs g N sc sts s2) : FSs g N sc (st :: sts) (sSeq s1 s2) := by
  refine ⟨fun LR C X W ok xs tk => PSs.imp (pss_cons (h1.ps LR C X W ok xs tk) (h2.ps LR C X W ok xs tk)) fun D σ H q => ?_⟩
  obtain ⟨env, F, R, ι, S, re, rp, p⟩ := q
  refine ⟨env, F, R, ι, S, re, rp, ?_⟩
  unfold sSeq at p
  cases hr : s1 C env S with
  | nx env1 S1 =>
    rw [hr] at p
    intro F1 ι1 σ1 H1 sm ie rp1 re1 hl
    exact ⟨env1, F1, R, ι1, S1, re1, rp1, by rw [hl]; exact PostS.up sm ie p⟩
  | rt v S' => rw [hr] at p; exact p
  | bk e S' => rw [hr] at p; exact p
  | ct e S' => rw [hr] at p; exact p
  | exc e S' => rw [hr] at p; exact p
  | bad => rw [hr] at p; exact p
theorem fss_one (h1 : FS g N sc st s1) : FSs g N sc [st] s1 := ⟨fun LR C X W ok xs tk => pss_one (h1.ps LR C X W ok xs tk)⟩
theorem fs_pass : FS g N sc (.Pass pos) sNext := by
  refine ⟨fun LR C X W ok xs tk => PS.imp ps_pass fun D σ H q => ?_⟩
  obtain ⟨env, F, R, ι, S, re, rp, p⟩ := q
  exact p F ι σ H (Same.refl _) IExt.refl rp re rfl
theorem fs_break : FS g N sc (.Break pos) sBreak := by
  refine ⟨fun LR C X W ok xs tk => PS.imp ps_break fun D σ H q => ?_⟩
  obtain ⟨env, F, R, ι, S, re, rp, p⟩ := q
  exact p F ι σ H (Same.refl _) IExt.refl rp re rfl
theorem fs_cont : FS g N sc (.Continue pos) sCont := by
  refine ⟨fun LR C X W ok xs tk => PS.imp ps_continue fun D σ H q => ?_⟩
  obtain ⟨env, F, R, ι, S, re, rp, p⟩ := q
  exact p F ι σ H (Same.refl _) IExt.refl rp re rfl
theorem fs_expr (h : FE g N sc e f) (hs : ∀ l env, swapsWith e none l env = pure false) : FS g N sc (.Expr e pos) (sExpr f) := by
  refine ⟨fun LR C X W ok xs tk => PS.imp (ps_expr (h.fz ok tk) (hs _ _)) fun D σ H q => ?_⟩
  obtain ⟨env, F, R, ι, S, re, rp, p⟩ := q
  refine ⟨env, F, R, ι, S, re, rp, post_out p fun v S1 F1 ι1 H1 x hr sm ie rp1 rt p1 => ?_⟩
  exact p1 F1 ι1 σ H1 (Same.refl _) IExt.refl rp1 (REnv.ext ok.lm sm ie re) rfl
theorem fs_ret (h : FE g N sc e f) : FS g N sc (.Return (some e) pos) (sRet f) := by
  refine ⟨fun LR C X W ok xs tk => PS.imp (ps_ret (h.fz ok tk)) fun D σ H q => ?_⟩
  obtain ⟨env, F, R, ι, S, re, rp, p⟩ := q
  refine ⟨env, F, R, ι, S, re, rp, post_out p fun v S1 F1 ι1 H1 x hr sm ie rp1 rt p1 => ?_⟩
  exact p1 F1 ι1 H1 x (Same.refl _) IExt.refl rp1 (fz_rv hr rt)
theorem fs_retN : FS g N sc (.Return none pos) sRetN := by
  refine ⟨fun LR C X W ok xs tk => PS.imp ps_retN fun D σ H q => ?_⟩
  obtain ⟨env, F, R, ι, S, re, rp, p⟩ := q
  exact p F ι H _ (Same.refl _) IExt.refl rp RD.non
theorem outT {K : PySem.W.Frag} {LR : LRT} {C : Cxt} {W : WX} {F R : Hp} {ι : Nat → Addr} {S : Sto} {D : Ends} {env : Slots} {σ : L2.St} {k1 k2 : Sto → Ou} {Q1 : Bool → Hp → Prop}
    (h : PostS K g LR W F R ι S σ.length ((fz f C env S).out fun v S1 => match v with
      | .d (.bl true) => k1 S1
      | .d (.bl false) => k2 S1
      | _ => .bad) D)
    (i : ∀ b S1 F1 ι1 H1, Same F F1 → IExt S ι S1 ι1 → Rep K g F1 R ι1 S1 H1 → PostS K g LR W F1 R ι1 S1 σ.length (if b = true then k1 S1 else k2 S1) D → Q1 b H1) : PostT K g (fun c d H => W c d σ H) F R ι S (f C env S) Q1 := by
  unfold Py.fz at h
  cases hr : f C env S with
  | bad => rw [hr] at h; exact h
  | exc e S' =>
    rw [hr] at h
    exact fun F' ι' H' c d s1 i1 r1 x1 => h F' ι' σ H' c d s1 i1 r1 x1 rfl
  | ok v S1 =>
    rw [hr] at h
    have h : PostS K g LR W F R ι S σ.length (match v.frz with
      | .d (.bl true) => k1 S1
      | .d (.bl false) => k2 S1
      | _ => .bad) D := h
    cases v with
    | d d =>
      cases d with
      | bl b =>
        refine ⟨b, rfl, fun F1 ι1 H1 sm ie rp => i b S1 F1 ι1 H1 sm ie rp (PostS.up sm ie ?_)⟩
        cases b <;> exact h
      | _ => exact h.elim
    | _ => exact h.elim
theorem fs_if (hc : FE g N sc e f) (ha : FSs g N sc a s1) (hb : FSs g N sc b s2) : FS g N sc (.If e a b pos) (sIf f s1 s2) := by
  refine ⟨fun LR C X W ok xs tk => PS.imp (ps_if (hc.te LR C X W ok tk) (ha.ps LR C X W ok xs tk) (hb.ps LR C X W ok xs tk)) fun D σ H q => ?_⟩
  obtain ⟨env, F, R, ι, S, re, rp, p⟩ := q
  refine ⟨env, F, R, ι, S, re, rp, outT (k1 := fun S1 => s1 C env S1) (k2 := fun S1 => s2 C env S1) p fun c S1 F1 ι1 H1 sm ie rp1 p1 => ?_⟩
  have re1 := REnv.ext ok.lm sm ie re
  cases c with
  | true =>
    rw [if_pos rfl] at p1 ⊢
    exact ⟨env, F1, R, ι1, S1, re1, rp1, p1⟩
  | false =>
    rw [if_neg Bool.false_ne_true] at p1 ⊢
    exact ⟨env, F1, R, ι1, S1, re1, rp1, p1⟩
theorem fs_set {x : Str} (i : Nat) (hi : N[i]? = some x) (hx : Loc sc x) (h : FE g N sc e f) (hs : ∀ l env, swapsWith e (some (.Name x p1)) l env = pure false) : FS g N sc (.Assign [.Name x p1] e pos) (sSet i f) := by
  refine ⟨fun LR C X W ok xs tk => PS.imp (ps_set (i := i) (by rw [ok.hN]; exact ok.nd) (by rw [ok.hN]; exact hi) (by rw [ok.sc]; exact hx) (h.fz ok tk) (hs _ _) (.inl (xs.fn x))) fun D σ H q => ?_⟩
  obtain ⟨env, F, R, ι, S, re, rp, p⟩ := q
  refine ⟨env, F, R, ι, S, re, rp, post_out p fun v S1 F1 ι1 H1 x hr sm ie rp1 rt p1 => ?_⟩
  exact p1 F1 ι1 _ H1 (Same.refl _) IExt.refl rp1 (REnv.set (REnv.ext ok.lm sm ie re) i (fz_rv hr rt)) (by rw [List.length_set])
/-- a new list becomes a box -/
theorem Rep.boxed {K : PySem.W.Frag} {F R H : Hp} {ι : Nat → Addr} {S : Sto} {p : Addr} {o : Bx} (h : Rep K g F R ι S H) (hb : RB K g.gc F H p o) (hF : F p = none) (hR : R p = none) (hi : ∀ i o, S[i]? = some o → live o → ι i ≠ p) :
    ∃ ι', IExt S ι (S ++ [o]) ι' ∧ ι' S.length = p ∧ Rep K g F R ι' (S ++ [o]) H := by
  have e1 : ∀ i, i < S.length → (if i = S.length then p else ι i) = ι i := fun i hi => if_neg (Nat.ne_of_lt hi)
  have get : ∀ i u, (S ++ [o])[i]? = some u → (i < S.length ∧ S[i]? = some u) ∨ (i = S.length ∧ u = o) := fun i u e => by
    by_cases hl : i < S.length
    · rw [List.getElem?_append_left hl] at e
      exact .inl ⟨hl, e⟩
    · rw [List.getElem?_append_right (by omega)] at e
      have z : i - S.length = 0 := by
        cases hz : i - S.length with
        | zero => rfl
        | succ k => rw [hz] at e; simp at e
      rw [z] at e
      cases e
      exact .inr ⟨by omega, rfl⟩
  refine ⟨fun i => if i = S.length then p else ι i, ⟨by rw [List.length_append]; omega, e1⟩, if_pos rfl, ⟨h.fH, h.rH, fun i u e => ?_, fun i j oi oj ei ej li lj q => ?_, fun i u e l => ?_, h.dj, h.tabs, h.ntF, h.ntR⟩⟩
  · rcases get i u e with ⟨hl, e⟩ | ⟨rfl, rfl⟩
    · show RB K g.gc F H (if i = S.length then p else ι i) u
      rw [e1 i hl]
      exact h.box i u e
    · show RB K g.gc F H (if S.length = S.length then p else ι S.length) u
      rw [if_pos rfl]
      exact hb
  · rcases get i oi ei with ⟨hl, e⟩ | ⟨rfl, rfl⟩ <;> rcases get j oj ej with ⟨hl2, e2⟩ | ⟨rfl, rfl⟩
    · rw [e1 i hl, e1 j hl2] at q
      exact h.inj i j oi oj e e2 li lj q
    · rw [e1 i hl, if_pos rfl] at q
      exact absurd q (hi i oi e li)
    · rw [e1 j hl2, if_pos rfl] at q
      exact absurd q.symm (hi j oj e2 lj)
    · rfl
  · rcases get i u e with ⟨hl, e⟩ | ⟨rfl, rfl⟩
    · show F (if i = S.length then p else ι i) = none ∧ R (if i = S.length then p else ι i) = none
      rw [e1 i hl]
      exact h.fr i u e l
    · show F (if S.length = S.length then p else ι S.length) = none ∧ R (if S.length = S.length then p else ι S.length) = none
      rw [if_pos rfl]
      exact ⟨hF, hR⟩
theorem rt_boxed {K : PySem.W.Frag} {LR : LRT} {F R H : Hp} {ι : Nat → Addr} {S : Sto} {x : V} {xs : List D} (h : Rep K g F R ι S H) (rt : RT K g LR F R ι S H x (.new xs)) :
    ∃ ι', IExt S ι (S ++ [Bx.lst xs]) ι' ∧ Rep K g F R ι' (S ++ [Bx.lst xs]) H ∧ RV K g.gc LR F ι' (S ++ [Bx.lst xs]).length x (.box S.length) := by
  obtain ⟨p, vs, rfl, hp, rs, fp, rp, hi⟩ := rt
  obtain ⟨ι', h1, h2, h3⟩ := h.boxed (o := .lst xs) ⟨vs, hp, rs⟩ fp rp hi
  exact ⟨ι', h1, h3, by simp, by rw [h2]⟩
theorem fs_box {x : Str} (i : Nat) (hi : N[i]? = some x) (hx : Loc sc x) (h : FE g N sc e f) (hs : ∀ l env, swapsWith e (some (.Name x p1)) l env = pure false) : FS g N sc (.Assign [.Name x p1] e pos) (sBox i f) := by
  refine ⟨fun LR C X W ok xs tk => PS.imp (ps_set (i := i) (by rw [ok.hN]; exact ok.nd) (by rw [ok.hN]; exact hi) (by rw [ok.sc]; exact hx) (h.ev LR C X W ok tk) (hs _ _) (.inl (xs.fn x))) fun D σ H q => ?_⟩
  obtain ⟨env, F, R, ι, S, re, rp, p⟩ := q
  refine ⟨env, F, R, ι, S, re, rp, post_out p fun v S1 F1 ι1 H1 x hr sm ie rp1 rt p1 => ?_⟩
  cases v with
  | new xs =>
    obtain ⟨ι2, ie2, rp2, rv2⟩ := rt_boxed rp1 rt
    exact p1 F1 ι2 _ H1 (Same.refl _) ie2 rp2 (REnv.set (REnv.ext ok.lm (Same.refl _) ie2 (REnv.ext ok.lm sm ie re)) i rv2) (by rw [List.length_set])
  | _ => exact p1.elim

/-! ### loops -/
/-- the state of a loop -/
def LoopW (K : PySem.W.Frag) (g : Stat) (LR : LRT) (W : WX) (F0 R : Hp) (ι0 : Nat → Addr) (S0 : Sto) (n : Nat) (D : Ends) (go : Slots → Sto → Ou) (σ : L2.St) (H : Hp) : Prop :=
  σ.length = n ∧ ∃ env F ι S, Same F0 F ∧ IExt S0 ι0 S ι ∧ REnv K g.gc LR F ι S.length σ env ∧ Rep K g F R ι S H ∧ PostS K g LR W F R ι S n (go env S) D
theorem post_srcO {K : PySem.W.Frag} {LR : LRT} {W : WX} {F R : Hp} {ι : Nat → Addr} {S : Sto} {σ : L2.St} {De : Ends} {r : Rs (List D)} {k : List D → Sto → Ou} {Q1 : It → Hp → Prop} (h : PostS K g LR W F R ι S σ.length (r.out k) De)
    (i : ∀ xs S1 F1 ι1 H1 J, Same F F1 → IExt S ι S1 ι1 → Rep K g F1 R ι1 S1 H1 → SrcOk K g.gc F1 xs J → PostS K g LR W F1 R ι1 S1 σ.length (k xs S1) De → Q1 J H1) : PostI K g (fun c d H => W c d σ H) F R ι S r Q1 := by
  cases r with
  | bad => exact h
  | exc e S' => exact fun F' ι' H' c d s1 i1 r1 x1 => h F' ι' σ H' c d s1 i1 r1 x1 rfl
  | ok xs S1 => exact fun F1 ι1 H1 J sm ie rp sk => i xs S1 F1 ι1 H1 J sm ie rp sk (PostS.up sm ie (show PostS K g LR W F R ι S σ.length (k xs S1) De from h))
theorem fs_for {s : Src} {t : Tg} (hi : FI g N sc tg iter s) (hg : FG g N sc fnAll tg t) (hb : FSs g N sc a s1) : FS g N sc (.For tg iter a [] pos) (sFor s t s1) := by
  refine ⟨fun LR C X W ok xs tk => PS.imp (ps_for xs.po ok.calm (hi.pi LR C X W ok tk) (hg.pg LR C X ok fun x _ => xs.fn x) (hb.ps LR C X W ok xs tk) (hi.fold _)) fun De σ H q => ?_⟩
  obtain ⟨env, F, R, ι, S, re, rp, p⟩ := q
  refine ⟨env, F, R, ι, S, re, rp, post_srcO p fun xs S1 F1 ι1 H1 J sm ie rp1 sk p1 => ?_⟩
  refine ⟨fun i m σ' H' => m = xs.length - i ∧ i ≤ xs.length ∧ LoopW X.K g LR W F1 R ι1 S1 σ.length De (forGo t s1 C (xs.drop i)) σ' H', ⟨_, rfl, Nat.zero_le _, rfl, env, F1, ι1, S1, Same.refl _, IExt.refl, REnv.ext ok.lm sm ie re, rp1, p1⟩, ?_⟩
  rintro i m σ2 H2 ⟨em, hil, hl, env2, F2, ι2, S2, sm2, ie2, re2, rp2, q2⟩
  obtain ⟨sk1, sk2⟩ := sk i H2 (sm2.trans rp2.fH)
  by_cases hlt : i < xs.length
  · right
    obtain ⟨d, hd, hdrop⟩ := lt_get hlt
    obtain ⟨go, yl⟩ := sk1 d hd
    rw [hdrop] at q2
    refine ⟨go, fun σ' H' => LoopW X.K g LR W F1 R ι1 S1 σ.length De (forGo t s1 C (xs.drop (i + 1))) σ' H', fun σ' H' h' => ⟨xs.length - (i + 1), by omega, rfl, hlt, h'⟩, fun x H3 y => ?_⟩
    have done : ∀ {F3 H3 : Hp}, Same F2 F3 → Rep X.K g F3 R ι2 S2 H3 → RD X.K g.gc F3 x d → tG X.K g LR t x σ2 H3 fun σ4 H4 => tS X.K g LR C W s1 { De with nx := fun σ' H' => LoopW X.K g LR W F1 R ι1 S1 σ.length De (forGo t s1 C (xs.drop (i + 1))) σ' H', ct := fun σ' H' => LoopW X.K g LR W F1 R ι1 S1 σ.length De (forGo t s1 C (xs.drop (i + 1))) σ' H', bk := De.nx } σ4 H4 := by
      intro F3 H3 sm3 rp3 rd
      refine ⟨env2, F3, R, ι2, S2, d, REnv.ext ok.lm sm3 IExt.refl re2, rp3, rd, ?_⟩
      have q3 := PostS.up sm3 IExt.refl q2
      unfold forGo at q3
      cases hb : tgV t d env2 with
      | none => rw [hb] at q3; exact q3
      | some env3 =>
        rw [hb] at q3
        dsimp only at q3
        intro σ4 re4 only
        have hl4 : σ4.length = σ.length := by rw [only.1, hl]
        refine ⟨env3, F3, R, ι2, S2, re4, rp3, ?_⟩
        rw [hl4]
        cases hr : s1 C env3 S2 with
        | bad => rw [hr] at q3; exact q3
        | exc e S' => rw [hr] at q3; exact q3
        | rt v S' => rw [hr] at q3; exact q3
        | nx env5 S5 =>
          rw [hr] at q3
          exact fun F' ι' σ' H' s' i' r' e' l' => ⟨l', env5, F', ι', S5, (sm2.trans sm3).trans s', ie2.trans i', e', r', PostS.up s' i' q3⟩
        | ct env5 S5 =>
          rw [hr] at q3
          exact fun F' ι' σ' H' s' i' r' e' l' => ⟨l', env5, F', ι', S5, (sm2.trans sm3).trans s', ie2.trans i', e', r', PostS.up s' i' q3⟩
        | bk env5 S5 => rw [hr] at q3; exact q3
    rcases yl x H3 y with ⟨rfl, rd⟩ | ⟨pp, ws, ds, rfl, rfl, hp, rfl, rds⟩
    · exact done (Same.refl _) rp2 (RD.mono sm2 rd)
    · obtain ⟨g1, g2, g3⟩ := rp2.growF (o := .tup ws) hp
      exact done g2 g1 (RD.tup (SqT.of upd_same) (RDs.mono (sm2.trans g2) rds))
  · left
    have ei : i = xs.length := by omega
    subst ei
    refine ⟨sk2 (Nat.le_refl _), ?_⟩
    rw [List.drop_eq_nil_of_le (Nat.le_refl _)] at q2
    unfold forGo at q2
    exact q2 F2 ι2 σ2 H2 (Same.refl _) IExt.refl rp2 re2 hl
theorem fs_while (hc : FE g N sc e f) (hb : FSs g N sc a s1) : FS g N sc (.While e a [] pos) (sWhile f s1) := by
  refine ⟨fun LR C X W ok xs tk => PS.imp (ps_while xs.po (hc.te LR C X W ok tk) (hb.ps LR C X W ok xs tk)) fun De σ H q => ?_⟩
  obtain ⟨env, F, R, ι, S, re, rp, p⟩ := q
  refine ⟨fun m σ' H' => LoopW X.K g LR W F R ι S σ.length De (whileGo f s1 C m) σ' H', ⟨whileFuel, rfl, env, F, ι, S, Same.refl _, IExt.refl, re, rp, p⟩, ?_⟩
  rintro m σ2 H2 ⟨hl, env2, F2, ι2, S2, sm2, ie2, re2, rp2, q2⟩
  cases m with
  | zero => exact q2.elim
  | succ m =>
    unfold whileGo at q2
    rw [← hl] at q2
    refine ⟨env2, F2, R, ι2, S2, re2, rp2, outT (k1 := fun S1 => match s1 C env2 S1 with
      | .nx env2 S2 => whileGo f s1 C m env2 S2
      | .ct env2 S2 => whileGo f s1 C m env2 S2
      | .bk env2 S2 => .nx env2 S2
      | o => o) (k2 := fun S1 => .nx env2 S1) q2 fun c S3 F3 ι3 H3 sm3 ie3 rp3 p3 => ?_⟩
    have re3 := REnv.ext ok.lm sm3 ie3 re2
    cases c with
    | true =>
      rw [if_pos rfl] at p3 ⊢
      refine ⟨fun σ' H' => LoopW X.K g LR W F R ι S σ.length De (whileGo f s1 C m) σ' H', fun σ' H' h' => ⟨m, Nat.lt_succ_self _, h'⟩, env2, F3, R, ι3, S3, re3, rp3, ?_⟩
      rw [hl] at p3 ⊢
      cases hr : s1 C env2 S3 with
      | bad => rw [hr] at p3; exact p3
      | exc e S' => rw [hr] at p3; exact p3
      | rt v S' => rw [hr] at p3; exact p3
      | nx env5 S5 =>
        rw [hr] at p3
        exact fun F' ι' σ' H' s' i' r' e' l' => ⟨l', env5, F', ι', S5, (sm2.trans sm3).trans s', (ie2.trans ie3).trans i', e', r', PostS.up s' i' p3⟩
      | ct env5 S5 =>
        rw [hr] at p3
        exact fun F' ι' σ' H' s' i' r' e' l' => ⟨l', env5, F', ι', S5, (sm2.trans sm3).trans s', (ie2.trans ie3).trans i', e', r', PostS.up s' i' p3⟩
      | bk env5 S5 => rw [hr] at p3; exact p3
    | false =>
      rw [if_neg Bool.false_ne_true] at p3 ⊢
      exact p3 F3 ι3 σ2 H3 (Same.refl _) IExt.refl rp3 re3 rfl
end
end PyS
end

section
set_option Elab.async false
set_option linter.all false
set_option maxRecDepth 100000
set_option
        maxHeartbeats 4000000
/-! PSnd10: built-ins called, methods, dicts, stores. -/
namespace PyS
open PySem PySem.Spec PyProof.Rows L2 Py

section
variable {K : PySem.W.Frag} {g : Stat} {LR : LRT} {F F' R H H' : Hp} {ι ι' : Nat → Addr} {S S' : Sto}
theorem ho_plain {o : Bx} {p : Addr} (hl : live o) (h : RB K g.gc F H p o) : ∃ u, H p = some u ∧ (∀ ps, u ≠ .tbl ps) ∧ ∀ φ, u ≠ .ext φ := by
  cases o with
  | lst xs => obtain ⟨vs, h1, h2⟩ := h; exact ⟨_, h1, (fun _ z => by cases z), (fun _ z => by cases z)⟩
  | dct kvs => obtain ⟨kws, h1, h2⟩ := h; exact ⟨_, h1, (fun _ z => by cases z), (fun _ z => by cases z)⟩
  | ins c fs => obtain ⟨dx, ws, h1, h2⟩ := h; exact ⟨_, h1, (fun _ z => by cases z), (fun _ z => by cases z)⟩
  | dead => exact hl.elim
/-- a box is written -/
theorem Rep.write (h : Rep K g F R ι S H) {n : Nat} {o o' : Bx} {u : HO} (hs : S[n]? = some o) (lo : live o) (lo' : live o') (hb : RB K g.gc F (upd H (ι n) u) (ι n) o') : Rep K g F R ι (S.set n o') (upd H (ι n) u) := by
  obtain ⟨f1, r1⟩ := h.fr n o hs lo
  obtain ⟨u0, hu, n1, n2⟩ := ho_plain lo (h.box n o hs)
  have hlt : n < S.length := (List.getElem?_eq_some_iff.mp hs).1
  have get : ∀ j b, (S.set n o')[j]? = some b → (j = n ∧ b = o') ∨ (j ≠ n ∧ S[j]? = some b) := fun j b e => by
    by_cases hj : n = j
    · subst hj
      rw [List.getElem?_set_self hlt] at e
      cases e
      exact .inl ⟨rfl, rfl⟩
    · rw [List.getElem?_set_ne hj] at e
      exact .inr ⟨fun z => hj z.symm, e⟩
  have old : ∀ j b, (S.set n o')[j]? = some b → live b → ∃ b', S[j]? = some b' ∧ live b' := fun j b e l => by
    rcases get j b e with ⟨rfl, rfl⟩ | ⟨_, e'⟩
    · exact ⟨o, hs, lo⟩
    · exact ⟨b, e', l⟩
  refine ⟨fun b w q => ?_, fun b w q => ?_, fun j b e => ?_, fun j k oj ok e1 e2 l1 l2 ee => ?_, fun j b e l => ?_, h.dj, tabs_upd h.tabs hu n1 n2, h.ntF, h.ntR⟩
  · rw [upd_ne (fun z => by rw [z, f1] at q; cases q)]
    exact h.fH _ _ q
  · rw [upd_ne (fun z => by rw [z, r1] at q; cases q)]
    exact h.rH _ _ q
  · rcases get j b e with ⟨rfl, rfl⟩ | ⟨hj, e'⟩
    · exact hb
    · by_cases hl : live b
      · exact RB.at (upd_ne fun z => hj (h.inj j n b o e' hs hl lo z)) (h.box j b e')
      · cases b with
        | dead => trivial
        | _ => exact absurd trivial hl
  · obtain ⟨b1, x1, y1⟩ := old j oj e1 l1
    obtain ⟨b2, x2, y2⟩ := old k ok e2 l2
    exact h.inj j k b1 b2 x1 x2 y1 y2 ee
  · obtain ⟨b1, x1, y1⟩ := old j b e l
    exact h.fr j b1 x1 y1
theorem iext_set {n : Nat} {o : Bx} : IExt S ι (S.set n o) ι := ⟨by rw [List.length_set]; exact Nat.le_refl _, fun _ _ => rfl⟩
end

section
variable {g : Stat} {N : List Str} {sc : Scope} {e e1 e2 : Expr} {f f1 f2 : EF} {pos p1 p2 : Pos} {es : List Expr} {fs : List EF} {x : Str}
theorem fe_biB {b : Bi} {id : String} (hok : BiOk b (.builtin id)) (hg : sc.names.lookup x = some .globalImplicit) (hm : ∀ K mg, g.M K mg → mg x = none) (hv : bootBuiltins x = some (.builtin id)) (ha : FEs g N sc (e :: es) (f :: fs)) (hn : x ≠ "__name__") (hdb : (x == ("__debug__" : Str)) = false) :
    FE g N sc (.Call (.Name x p1) (e :: es) [] pos) (eBi b (f :: fs)) := by
  refine fe_of (fun LR C X W ok tk => ?_) (fun _ _ => rfl) (fun _ _ => rfl)
  have hst : starEach (e :: es) X.env = (false, eval e X.env) :: starEach es X.env := by
    cases ha with
    | cons h1 _ => exact h1.st _ _
  have hpl : (backTo pos (starEach es X.env)).any (·.1) = false := by
    cases ha with
    | cons _ h2 => exact noStar h2 _ _
  refine PE.imp (pe_callB (hok X g LR ok.calm) (show X.env.scope.names.lookup x = _ by rw [ok.sc]; exact hg) (hm _ _ ok.facts) hv (fa_of ha ok tk) hn hdb hst hpl) fun σ H Q q => ?_
  exact args_of (k := fun _ vs S1 => biV b vs S1) q (fun env F R ι S vs ws H1 re rp r p => ⟨_, F, R, ι, S, vs, r, rp, p⟩) ok.lm
theorem fe_biT {b : Bi} {T : String} (hok : BiOk b (.type T)) (hg : sc.names.lookup x = some .globalImplicit) (hm : ∀ K mg, g.M K mg → mg x = none) (hv : bootBuiltins x = some (.type T)) (ha : FEs g N sc (e :: es) (f :: fs)) (hn : x ≠ "__name__") (hdb : (x == ("__debug__" : Str)) = false) :
    FE g N sc (.Call (.Name x p1) (e :: es) [] pos) (eBi b (f :: fs)) := by
  refine fe_of (fun LR C X W ok tk => ?_) (fun _ _ => rfl) (fun _ _ => rfl)
  have hst : starEach (e :: es) X.env = (false, eval e X.env) :: starEach es X.env := by
    cases ha with
    | cons h1 _ => exact h1.st _ _
  have hpl : (backTo pos (starEach es X.env)).any (·.1) = false := by
    cases ha with
    | cons _ h2 => exact noStar h2 _ _
  refine PE.imp (pe_callTy (hok X g LR ok.calm) (show X.env.scope.names.lookup x = _ by rw [ok.sc]; exact hg) (hm _ _ ok.facts) hv (fa_of ha ok tk) hn hdb hst hpl) fun σ H Q q => ?_
  exact args_of (k := fun _ vs S1 => biV b vs S1) q (fun env F R ι S vs ws H1 re rp r p => ⟨_, F, R, ι, S, vs, r, rp, p⟩) ok.lm

/-! ### list(range(..)), tuple(range(..)) -/
theorem rgV_rd {K : PySem.W.Frag} {gc : Nat → Addr} {F : Hp} (a b : Int) : RDs K gc F (rgV a b) (rangeD a (b - a).toNat) := by
  unfold rgV rangeD
  generalize List.range (b - a).toNat = l
  induction l with
  | nil => exact .nil
  | cons k r ih => exact .cons (.int _) ih
def tupName (tup : Bool) : Str := if tup then "tuple" else "list"
theorem rng_post {K : PySem.W.Frag} {LR : LRT} {w : Value → Option Addr → Hp → Prop} {F R H : Hp} {ι : Nat → Addr} {S : Sto} {Q : VK} {a b : Int} (tup : Bool) (rp : Rep K g F R ι S H) (p : PostE K g LR w F R ι S (.ok (mkSeq tup (rangeD a (b - a).toNat)) S) Q) :
    ∀ q, H q = none → Q (.ref q) (upd H q (if tup then .tup (rgV a b) else .lst (rgV a b))) := by
  intro q hq
  cases tup with
  | true => exact post_tup p rp (rgV_rd a b) q hq
  | false => exact post_new p rp (rgV_rd a b) q hq
theorem fe_rng1 (tup : Bool) (hg : sc.names.lookup (tupName tup) = some .globalImplicit) (hm : ∀ K mg, g.M K mg → mg (tupName tup) = none) (hg2 : sc.names.lookup ("range" : Str) = some .globalImplicit) (hm2 : ∀ K mg, g.M K mg → mg "range" = none) (h1 : FE g N sc e1 f1) :
    FE g N sc (.Call (.Name (tupName tup) p1) [.Call (.Name "range" p2) [e1] [] p] [] pos) (eRng1 tup f1) := by
  refine fe_of (fun LR C X W ok tk => ?_) (fun _ _ => rfl) (fun _ _ => rfl)
  have hr := prg_1 (p := p2) (pos := p) (show X.env.scope.names.lookup ("range" : Str) = _ by rw [ok.sc]; exact hg2) (hm2 _ _ ok.facts) (h1.fz ok tk) (h1.st _ _)
  have gl : X.env.scope.names.lookup (tupName tup) = some .globalImplicit := by rw [ok.sc]; exact hg
  have mg0 := hm _ _ ok.facts
  have read : ∀ {σ : L2.St} {H : Hp} {Q : VK}, tE X.K g LR C W (eRng1 tup f1) σ H Q → tRg1 (tE X.K g LR C W (fz f1)) σ H fun a b H1 => RgOk a b ∧ ∀ q, H1 q = none → Q (.ref q) (upd H1 q (if tup then .tup (rgV a b) else .lst (rgV a b))) := by
    intro σ H Q q
    obtain ⟨env, F, R, ι, S, re, rp, p⟩ := q
    refine ⟨env, F, R, ι, S, re, rp, post_bind p fun v S1 F1 ι1 H1 x hr sm ie rp1 rv p1 => ?_⟩
    unfold rg1V at p1
    split at p1
    · rename_i j
      cases rv
      split at p1
      · rename_i hj
        have hj1 := rngOk_iff hj.1
        refine ⟨j, rfl, ⟨by omega, by omega, by omega, by omega, by omega⟩, rng_post tup rp1 (by rw [Int.sub_zero]; exact p1)⟩
      · exact p1.elim
    · exact p1.elim
  cases tup with
  | true => exact PE.imp (pe_tupRg ok.calm gl mg0 hr rfl) fun σ H Q q => read q
  | false => exact PE.imp (pe_listRg ok.calm gl mg0 hr rfl) fun σ H Q q => read q

/-! ### methods of lists -/
def rM (K : PySem.W.Frag) (g : Stat) (LR : LRT) (m : Mt) : V → List V → Hp → VK → Prop := fun x ws H Q => ∃ w F R ι S o vs, RV K g.gc LR F ι S.length x o ∧ Paired (RV K g.gc LR F ι S.length) ws vs ∧ Rep K g F R ι S H ∧ PostE K g LR w F R ι S (mtV m o vs S) Q
def MtOk (m : Mt) (id : String) : Prop := ∀ (X : Cx) (g : Stat) (LR : LRT), MtR X id (rM X.K g LR m)
theorem rvD {K : PySem.W.Frag} {LR : LRT} {F : Hp} {ι : Nat → Addr} {m : Nat} {x : V} {d : D} (r : RV K g.gc LR F ι m x (.d d)) : RD K g.gc F x d := r
theorem mo_append : MtOk .append "list.append" := by
  intro X g LR pins s σ H x ws v us Q I rx rs h
  obtain ⟨w, F, R, ι, S, o, vs, ro, rv, rp, p⟩ := h
  unfold mtV at p
  split at p <;> try (exact p.elim)
  all_goals (rename_i hb; try (cases hb))
  rename_i n d
  split at p
  · rename_i xs hs
    split at p
    · rename_i hz
      obtain ⟨y, rfl, ry⟩ := pair1 rv
      obtain ⟨hn, rfl⟩ := ro
      obtain ⟨zs, h1, h2⟩ := rp.box _ _ hs
      refine mt_append pins s σ H _ _ v us Q I rx rs ⟨ι n, zs, y, rfl, rfl, h1, by rw [h2.length, ← cap_eq]; exact hz, ?_⟩
      exact p F ι _ _ (Same.refl _) iext_set (rp.write hs trivial trivial ⟨zs ++ [y], upd_same, h2.append (.cons ry .nil)⟩) .non
    · exact p.elim
  · exact p.elim
theorem mo_popAt : MtOk .popAt "list.pop" := by
  intro X g LR pins s σ H x ws v us Q I rx rs h
  obtain ⟨w, F, R, ι, S, o, vs, ro, rv, rp, p⟩ := h
  unfold mtV at p
  split at p <;> try (exact p.elim)
  all_goals (rename_i hb; try (cases hb))
  rename_i n i
  split at p
  · rename_i xs hs
    split at p
    · rename_i hz
      split at p
      · rename_i k hk
        split at p
        · rename_i yv hy
          obtain ⟨y, rfl, ry⟩ := pair1 rv
          cases ry
          obtain ⟨hn, rfl⟩ := ro
          obtain ⟨zs, h1, h2⟩ := rp.box _ _ hs
          obtain ⟨vz, g1, g2⟩ := h2.get hy
          have hk2 := (ixN_seq (show ixN xs.length i = some k from hk)).1
          refine mt_popAt pins s σ H _ _ v us Q I rx rs ⟨ι n, zs, i, k, vz, rfl, rfl, h1, hz.1, hz.2, by rw [h2.length]; exact hk2, g1, ?_⟩
          exact p F ι _ _ (Same.refl _) iext_set (rp.write hs trivial trivial ⟨zs.eraseIdx k, upd_same, h2.eraseIdx k⟩) g2
        · exact p.elim
      · exact p.elim
    · exact p.elim
  · exact p.elim
theorem mo_pop : MtOk .pop "list.pop" := by
  intro X g LR pins s σ H x ws v us Q I rx rs h
  obtain ⟨w, F, R, ι, S, o, vs, ro, rv, rp, p⟩ := h
  unfold mtV at p
  split at p <;> try (exact p.elim)
  all_goals (rename_i hb; try (cases hb))
  rename_i n
  split at p
  · rename_i xs hs
    split at p
    · rename_i yv hy
      cases rv
      obtain ⟨hn, rfl⟩ := ro
      obtain ⟨zs, h1, h2⟩ := rp.box _ _ hs
      obtain ⟨vz, g1, g2⟩ := h2.get hy
      refine mt_pop pins s σ H _ _ v us Q I rx rs ⟨ι n, zs, vz, rfl, rfl, h1, by rw [h2.length]; exact g1, ?_⟩
      exact p F ι _ _ (Same.refl _) iext_set (rp.write hs trivial trivial ⟨zs.dropLast, upd_same, h2.dropLast⟩) g2
    · exact p.elim
  · exact p.elim
theorem ints_flat (is : List Int) : (is.map V.int).all flatV = true := by
  induction is with
  | nil => rfl
  | cons i r ih => simpa [flatV] using ih
theorem mo_index : MtOk .index "list.index" := by
  intro X g LR pins s σ H x ws v us Q I rx rs h
  obtain ⟨w, F, R, ι, S, o, vs, ro, rv, rp, p⟩ := h
  unfold mtV at p
  split at p <;> try (exact p.elim)
  all_goals (rename_i hb; try (cases hb))
  rename_i vo _ _ _ i
  split at p
  · rename_i is hx
    split at p
    · rename_i hc
      simp
              only [Bool.and_eq_true] at hc
      obtain ⟨y, rfl, ry⟩ := pair1 rv
      cases ry
      cases hq : seqOf vo S with
      | none => rw [hq] at hx; cases hx
      | some xs =>
        rw [hq] at hx
        obtain ⟨q, ys, rfl, rds, _, sl⟩ := seq_at rp ro hq
        have ey := ints_rd rds hx
        subst ey
        have hmem : i ∈ is := by simpa using hc.1
        have hex : ∃ z ∈ is, (z == i) = true := ⟨i, hmem, by simp⟩
        have hlt := List.findIdx_lt_length_of_exists hex
        have hat : (is[List.findIdx (· == i) is] == i) = true := List.findIdx_getElem (w := hlt)
        refine mt_index pins s σ H _ _ v us Q I rx rs ⟨q, is.map V.int, .int i, is.findIdx (· == i), .int i, rfl, rfl, sl hc.2, rfl, ints_flat is, ?_, by simp [eqV], fun m z' hm hz' => ?_, post_d p rp (.int _)⟩
        · rw [List.getElem?_map, List.getElem?_eq_getElem hlt]
          have e : is[List.findIdx (· == i) is] = i := by simpa using hat
          rw [e]
          rfl
        · rw [List.getElem?_map] at hz'
          have hml : m < is.length := Nat.lt_trans hm hlt
          rw [List.getElem?_eq_getElem hml] at hz'
          cases hz'
          have := List.not_of_lt_findIdx hm
          simpa [eqV] using this
    · exact p.elim
  · exact p.elim
theorem isLst_ty {K : PySem.W.Frag} {LR : LRT} {F R H : Hp} {ι : Nat → Addr} {S : Sto} {x : V} {v : Vl} (rp : Rep K g F R ι S H) (r : RV K g.gc LR F ι S.length x v) (h : isLst v S = true) : tyV K "list" x H := by
  have hs : ∃ xs, seqOf v S = some xs := by
    cases v with
    | d dd =>
      cases dd with
      | lst xs => exact ⟨xs, rfl⟩
      | _ => simp [isLst] at h
    | new xs => exact ⟨xs, rfl⟩
    | ro xs => exact ⟨xs, rfl⟩
    | box n =>
      cases hq : S[n]? with
      | none => simp [isLst, hq] at h
      | some bx =>
        cases bx with
        | lst xs => exact ⟨xs, by simp [seqOf, hq]⟩
        | _ => simp [isLst, hq] at h
    | lam _ => simp [isLst] at h
    | lams _ => simp [isLst] at h
  obtain ⟨xs, hs⟩ := hs
  obtain ⟨q, ys, rfl, _, _, sl⟩ := seq_at rp r hs
  exact .inl ⟨rfl, ys, sl h⟩
theorem fe_mt {m : Mt} {id : String} {name : Str} {apos : Pos} (slot : Slot "list" name id) (hty : typeOf (.builtin id) = pure (.type "method_descriptor")) (hok : MtOk m id) (h1 : FE g N sc e1 f1) (ha : FEs g N sc (e :: es) (f :: fs))
    (hbase : ∀ env, attributeBase e1 name env (eval e1 env) = eval e1 env)
    (hfew : ∀ env, ((backTo pos (starEach (e :: es) env)).all (fun x => !x.1) && (backToKw pos (keywordEach [] env)).all (fun x => x.1.isSome) && decide ((e :: es).length + ([] : List Keyword).length + (if ([] : List Keyword).isEmpty then 0 else 1) < 30)) = true)
    (hline : (apos.endLine == pos.line) = true) : FE g N sc (.Call (.Attribute e1 name apos) (e :: es) [] pos) (eMt m f1 (f :: fs)) := by
  refine fe_of (fun LR C X W ok tk => ?_) (fun _ _ => rfl) (fun _ _ => rfl)
  have hst : starEach (e :: es) X.env = (false, eval e X.env) :: starEach es X.env := by
    cases ha with
    | cons h1 _ => exact h1.st _ _
  have hpl : (backTo pos (starEach es X.env)).any (·.1) = false := by
    cases ha with
    | cons _ h2 => exact noStar h2 _ _
  refine PE.imp (pe_bm PySem.F.plainAttrs_list slot hty (hok X g LR) (h1.fz ok tk) (fa_of ha ok tk) (hbase _) (hfew _) hline hst hpl) fun σ H Q q => ?_
  obtain ⟨env, F, R, ι, S, re, rp, p⟩ := q
  refine ⟨env, F, R, ι, S, re, rp, post_bind p fun v S1 F1 ι1 H1 x hr sm ie rp1 rv p1 => ?_⟩
  split at p1
  · rename_i hl
    refine ⟨isLst_ty rp1 rv hl, env, F1, R, ι1, S1, REnv.ext ok.lm sm ie re, rp1, ?_⟩
    cases hk : evAll (f :: fs) C env S1 with
    | bad => rw [hk] at p1; exact p1
    | exc e S' => rw [hk] at p1; exact p1
    | ok vs S2 =>
      rw [hk] at p1
      exact fun F2 ι2 H2 ws sm2 ie2 rp2 r2 => ⟨_, F2, R, ι2, S2, v, vs, RV.ext ok.lm sm2 ie2 rv, r2, rp2, PostE.up sm2 ie2 (show PostE X.K g LR (fun c d H => W c d σ H) F1 R ι1 S1 (mtV m v vs S2) Q from p1)⟩
  · exact p1.elim
theorem fe_mt0 {m : Mt} {id : String} {name : Str} {apos : Pos} (slot : Slot "list" name id) (hty : typeOf (.builtin id) = pure (.type "method_descriptor")) (hok : MtOk m id) (h1 : FE g N sc e1 f1)
    (hbase : ∀ env, attributeBase e1 name env (eval e1 env) = eval e1 env) (hline : (apos.endLine == pos.line) = true) : FE g N sc (.Call (.Attribute e1 name apos) [] [] pos) (eMt m f1 []) := by
  refine fe_of (fun LR C X W ok tk => ?_) (fun _ _ => rfl) (fun _ _ => rfl)
  refine PE.imp (pe_bm0 PySem.F.plainAttrs_list slot hty (hok X g LR) (h1.fz ok tk) (hbase _) hline) fun σ H Q q => ?_
  obtain ⟨env, F, R, ι, S, re, rp, p⟩ := q
  refine ⟨env, F, R, ι, S, re, rp, post_bind p fun v S1 F1 ι1 H1 x hr sm ie rp1 rv p1 => ?_⟩
  split at p1
  · rename_i hl
    exact ⟨isLst_ty rp1 rv hl, _, F1, R, ι1, S1, v, [], rv, .nil, rp1, p1⟩
  · exact p1.elim
end
end PyS
end

section
set_option Elab.async false
set_option linter.all false
set_option maxRecDepth 100000
set_option
        maxHeartbeats 4000000
/-! PSnd11: dicts with text keys, stores into lists and instances, two at once. -/
namespace PyS
open PySem PySem.Spec PyProof.Rows L2 Py

section
variable {K : PySem.W.Frag} {gc : Nat → Addr} {F : Hp}
abbrev KD (K : PySem.W.Frag) (gc : Nat → Addr) (F : Hp) : List (Key × V) → List (Sum Int Str × D) → Prop := Paired (fun (a : Key × V) (b : Sum Int Str × D) => a.1 = b.1 ∧ RD K gc F a.2 b.2)
theorem kd_get : ∀ {kws : List (Key × V)} {kvs : List (Sum Int Str × D)} {k : Sum Int Str} {x : D}, KD K gc F kws kvs → getK k kvs = some x → ∃ v, valV kws k = some v ∧ RD K gc F v x
  | _, _, _, _, .nil, e => by cases e
  | _, _, k, x, .cons (a := a) (b := b) r t, e => by
    obtain ⟨ka, va⟩ := a
    obtain ⟨kb, vb⟩ := b
    obtain ⟨e1, rv⟩ := r
    have e1 : ka = kb := e1
    subst e1
    unfold getK at e
    by_cases h : ka = k
    · rw [if_pos h] at e
      cases e
      exact ⟨va, valV_pos h, rv⟩
    · rw [if_neg h] at e
      obtain ⟨v, h1, h2⟩ := kd_get t e
      exact ⟨v, by rw [valV_neg (show ¬ (ka, va).1 = k from h)]; exact h1, h2⟩
theorem kd_any : ∀ {kws : List (Key × V)} {kvs : List (Sum Int Str × D)} (k : Sum Int Str), KD K gc F kws kvs → (kws.any fun kv => decide (kv.1 = k)) = kvs.any fun kv => decide (kv.1 = k)
  | _, _, _, .nil => rfl
  | _, _, k, .cons (a := a) (b := b) r t => by
    rw [List.any_cons, List.any_cons, kd_any k t, r.1]
theorem kd_map : ∀ {kws : List (Key × V)} {kvs : List (Sum Int Str × D)} (k : Sum Int Str) {v : V} {x : D}, KD K gc F kws kvs → RD K gc F v x → KD K gc F (kws.map fun kv => if kv.1 = k then (kv.1, v) else kv) (kvs.map fun kv => if kv.1 = k then (kv.1, x) else kv)
  | _, _, _, _, _, .nil, _ => .nil
  | _, _, k, v, x, .cons (a := a) (b := b) r t, q => by
    refine .cons ?_ (kd_map k t q)
    obtain ⟨ka, va⟩ := a
    obtain ⟨kb, vb⟩ := b
    obtain ⟨e1, rv⟩ := r
    have e1 : ka = kb := e1
    subst e1
    show (if ka = k then (ka, v) else (ka, va)).1 = (if ka = k then (ka, x) else (ka, vb)).1 ∧ RD K gc F (if ka = k then (ka, v) else (ka, va)).2 (if ka = k then (ka, x) else (ka, vb)).2
    by_cases h : ka = k
    · rw [if_pos h, if_pos h]
      exact ⟨rfl, q⟩
    · rw [if_neg h, if_neg h]
      exact ⟨rfl, rv⟩
theorem kd_app {kws : List (Key × V)} {kvs : List (Sum Int Str × D)} {k : Sum Int Str} {v : V} {x : D} (h : KD K gc F kws kvs) (q : RD K gc F v x) : KD K gc F (kws ++ [(k, v)]) (kvs ++ [(k, x)]) := by
  induction h with
  | nil => exact .cons ⟨rfl, q⟩ .nil
  | cons r _ ih => exact .cons r ih
theorem kd_put {kws : List (Key × V)} {kvs : List (Sum Int Str × D)} (k : Sum Int Str) {v : V} {x : D} (h : KD K gc F kws kvs) (q : RD K gc F v x) : KD K gc F (L2.putK kws k v) (Py.putK k x kvs) := by
  unfold L2.putK Py.putK
  rw [kd_any k h]
  split
  · exact kd_map k h q
  · exact kd_app h q
theorem kd_len {kws : List (Key × V)} {kvs : List (Sum Int Str × D)} (h : KD K gc F kws kvs) : kws.length = kvs.length := Paired.length h
end

section
variable {g : Stat} {N : List Str} {sc : Scope} {e e1 e2 e3 e4 : Expr} {f f1 f2 f3 f4 : EF} {pos p1 p2 p3 : Pos}
/-- d['k'] -/
theorem fe_key {k : Str} {j : Nat} (h1 : FE g N sc e1 f1) : FE g N sc (.Subscript e1 (.Constant (.str k) j p1) pos) (eKey f1 k) := by
  refine fe_of (fun LR C X W ok tk => ?_) (fun _ _ => rfl) (fun _ _ => rfl)
  have hu := ok.hu
  refine PE.imp (pe_dget (by omega) (h1.fz ok tk) pe_str (fun _ _ => rfl)) fun σ H Q q => ?_
  obtain ⟨env, F, R, ι, S, re, rp, p⟩ := q
  refine ⟨env, F, R, ι, S, re, rp, post_bind p fun v S1 F1 ι1 H1 x hr sm ie rp1 rv p1 => ?_⟩
  split at p1
  · rename_i n
    obtain ⟨hn, rfl⟩ := rv
    split at p1
    · rename_i kvs hs
      split at p1
      · rename_i z hz
        obtain ⟨kws, h1, h2⟩ := rp1.box _ _ hs
        obtain ⟨v, g1, g2⟩ := kd_get h2 hz
        exact ⟨ι1 n, v, rfl, by rw [← g1]; exact DGet.k (k := Sum.inr k) h1, post_d p1 rp1 g2⟩
      · exact p1.elim
    · exact p1.elim
  · exact p1.elim
theorem post_outE {K : PySem.W.Frag} {LR : LRT} {C : Cxt} {W : WX} {F R : Hp} {ι : Nat → Addr} {S : Sto} {De : Ends} {env : Slots} {σ : L2.St} {k : Vl → Sto → Ou} {Q1 : VK} (h : PostS K g LR W F R ι S σ.length ((fz f C env S).out k) De)
    (i : ∀ v S1 F1 ι1 H1 x, Same F F1 → IExt S ι S1 ι1 → Rep K g F1 R ι1 S1 H1 → RV K g.gc LR F1 ι1 S1.length x v → PostS K g LR W F1 R ι1 S1 σ.length (k v S1) De → Q1 x H1) : PostE K g LR (fun c d H => W c d σ H) F R ι S (fz f C env S) Q1 :=
  post_out h fun v S1 F1 ι1 H1 x hr sm ie rp rt p => i v S1 F1 ι1 H1 x sm ie rp (fz_rv hr rt) p
/-- d['k'] = e -/
theorem fs_putK {k : Str} {j : Nat} (h1 : FE g N sc e1 f1) (h2 : FE g N sc e2 f2) (hs : ∀ l env, swapsWith e2 (some (.Subscript e1 (.Constant (.str k) j p1) p2)) l env = pure false) : FS g N sc (.Assign [.Subscript e1 (.Constant (.str k) j p1) p2] e2 pos) (sPutK f1 k f2) := by
  refine ⟨fun LR C X W ok xs tk => ?_⟩
  have hu := ok.hu
  refine PS.imp (ps_dput (by omega) (h1.fz ok tk) pe_str (h2.fz ok tk) (hs _ _)) fun De σ H q => ?_
  obtain ⟨env, F, R, ι, S, re, rp, p⟩ := q
  refine ⟨env, F, R, ι, S, re, rp, post_outE p fun v S1 F1 ι1 H1 x sm ie rp1 rv p1 => ?_⟩
  refine ⟨env, F1, R, ι1, S1, REnv.ext ok.lm sm ie re, rp1, post_outE p1 fun a S2 F2 ι2 H2 y sm2 ie2 rp2 ra p2 => ?_⟩
  split at p2
  · rename_i d n
    obtain ⟨hn, rfl⟩ := ra
    split at p2
    · rename_i kvs hs
      split at p2
      · rename_i hz
        obtain ⟨kws, g1, g2⟩ := rp2.box _ _ hs
        have rv2 : RD X.K g.gc F2 x d := RV.ext ok.lm sm2 ie2 rv
        have rz := rp2.write (u := .dK (L2.putK kws (Sum.inr k) x)) hs trivial trivial (o' := .dct (Py.putK (Sum.inr k) d kvs)) ⟨_, upd_same, kd_put _ g2 rv2⟩
        refine ⟨ι2 n, _, rfl, DPut.k (k := Sum.inr k) g1 (by rw [kd_len g2]; exact Nat.lt_trans hz (by rw [← cap_eq]; decide)), ?_⟩
        exact p2 F2 ι2 σ _ (Same.refl _) iext_set rz (REnv.ext ok.lm (Same.refl _) iext_set (REnv.ext ok.lm sm2 ie2 (REnv.ext ok.lm sm ie re))) rfl
      · exact p2.elim
    · exact p2.elim
  · exact p2.elim

/-! ### {'k': e, ..} -/
inductive FDs (g : Stat) (N : List Str) (sc : Scope) : List (Option Expr) → List Expr → List Str → List EF → Prop
  | nil : FDs g N sc [] [] [] []
  | cons {k : Str} {j : Nat} {p : Pos} {e : Expr} {f : EF} {ks : List (Option Expr)} {es : List Expr} {ns : List Str} {fs : List EF} : FE g N sc e f → FDs g N sc ks es ns fs → FDs g N sc (some (.Constant (.str k) j p) :: ks) (e :: es) (k :: ns) (f :: fs)
def disT (K : PySem.W.Frag) (g : Stat) (LR : LRT) (C : Cxt) (W : WX) : List Str → List EF → List (TE × TE)
  | k :: ks, f :: fs => (tC (.str k), tE K g LR C W (fz f)) :: disT K g LR C W ks fs
  | _, _ => []
theorem fds_of {ks : List (Option Expr)} {es : List Expr} {ns : List Str} {fs : List EF} (h : FDs g N sc ks es ns fs) {LR : LRT} {C : Cxt} {X : Cx} {W : WX} (ok : XOk g LR C N sc X) (tk : Takes X W) (pos : Pos) :
    PPs X pos ks es (disT X.K g LR C W ns fs) ∧ ks.all (·.isSome) = true ∧ ks.length = es.length ∧ ns.length = ks.length ∧ fs.length = ks.length := by
  induction h with
  | nil => exact ⟨pps_nil, rfl, rfl, rfl, rfl⟩
  | cons h1 _ ih =>
    obtain ⟨i1,
            i2, i3, i4, i5⟩ := ih
    exact ⟨pps_cons pe_str (h1.fz ok tk) i1, by simpa using i2, by simp [i3], by simp [i4], by simp [i5]⟩
/-- the pairs, from the left -/
theorem dis_read {K : PySem.W.Frag} {LR : LRT} {C : Cxt} {W : WX} (hl : LMono LR) : ∀ (ns : List Str) (fs : List EF) {env : Slots} {F R : Hp} {ι : Nat → Addr} {S : Sto} {σ : L2.St} {H : Hp} {Q : List V → Hp → Prop} {Qp : List (V × V) → Hp → Prop}, ns.length = fs.length → REnv K g.gc LR F ι S.length σ env → Rep K g F R ι S H →
    (∀ vs H', vs.length = ns.length → Q vs H' → Qp ((ns.map V.str).zip vs) H') →
    PostA K g LR (fun c d H => W c d σ H) F R ι S (evAll fs C env S) Q → tPairs (disT K g LR C W ns fs) σ H Qp
  | [], [], env, F, R, ι, S, σ, H, Q, Qp, _, re, rp, i, p => i [] H rfl (p F ι H [] (Same.refl _) IExt.refl rp .nil)
  | [], _ :: _, _, _, _, _, _, _, _, _, _, e, _, _, _, _ => by cases e
  | _ :: _, [], _, _, _, _, _, _, _, _, _, e, _, _, _, _ => by cases e
  | k :: ns, f :: fs, env, F, R, ι, S, σ, H, Q, Qp, e, re, rp, i, p => by
    show tC (.str k) σ H fun x H1 => tE K g LR C W (fz f) σ H1 fun y H2 => tPairs (disT K g LR C W ns fs) σ H2 fun ps H3 => Qp ((x, y) :: ps) H3
    refine ⟨env, F, R, ι, S, re, rp, post_bindA p fun v S1 F1 ι1 H1 x hr sm ie rp1 rv p1 => ?_⟩
    have p2 : PostA K g LR (fun c d H => W c d σ H) F1 R ι1 S1 (evAll fs C env S1) fun vs H' => Q (x :: vs) H' := by
      cases hk : evAll fs C env S1 with
      | bad => rw [hk] at p1; exact p1
      | exc e S' => rw [hk] at p1; exact p1
      | ok vs S2 =>
        rw [hk] at p1
        exact fun F2 ι2 H2 ys sm2 ie2 rp2 r2 => p1 F2 ι2 H2 (x :: ys) sm2 ie2 rp2 (.cons (RV.ext hl sm2 ie2 rv) r2)
    exact dis_read hl ns fs (Q := fun vs H' => Q (x :: vs) H') (Nat.succ.inj e) (REnv.ext hl sm ie re) rp1 (fun vs H' hv q => i (x :: vs) H' (by rw [List.length_cons, hv]; rfl) q) p2
end
end PyS
end

section
set_option Elab.async false
set_option linter.all false
set_option maxRecDepth 100000
set_option
        maxHeartbeats 4000000
/-! PSnd12: dict displays, stores into lists and instances, several targets. -/
namespace PyS
open PySem PySem.Spec PyProof.Rows L2 Py

section
variable {g : Stat} {N : List Str} {sc : Scope} {e e1 e2 e3 e4 e5 e6 : Expr} {f f1 f2 f3 f4 f5 f6 : EF} {pos p1 p2 p3 p4 : Pos}
theorem kd_zip {K : PySem.W.Frag} {gc : Nat → Addr} {F : Hp} : ∀ (ns : List Str) {vs : List V} {ds : List D}, RDs K gc F vs ds → KD K gc F ((ns.map Sum.inr).zip vs) ((ns.map Sum.inr).zip ds)
  | [], _, _, _ => .nil
  | _ :: _, _, _, .nil => .nil
  | k :: ns, _, _, .cons r t => .cons ⟨rfl, r⟩ (kd_zip ns t)
theorem kd_merge {K : PySem.W.Frag} {gc : Nat → Addr} {F : Hp} {a : List (Key × V)} {b : List (Sum Int Str × D)} (h : KD K gc F a b) : ∀ {kws : List (Key × V)} {kvs : List (Sum Int Str × D)}, KD K gc F kws kvs → KD K gc F (mergeK kws a) (b.foldl (fun acc kv => Py.putK kv.1 kv.2 acc) kvs) := by
  induction h with
  | nil => exact fun h => h
  | @cons x y xs ys r _ ih =>
    intro kws kvs q
    show KD K gc F (mergeK (L2.putK kws x.1 x.2) xs) (ys.foldl (fun acc kv => Py.putK kv.1 kv.2 acc) (Py.putK y.1 y.2 kvs))
    rw [r.1]
    exact ih (kd_put y.1 q r.2)
theorem zip_kV : ∀ (ns : List Str) (vs : List V), (ns.map V.str).zip vs = ((ns.map Sum.inr : List Key).zip vs).map (fun kv => (kV kv.1, kv.2))
  | [], _ => rfl
  | _ :: _, [] => rfl
  | k :: ns, v :: vs => by
    show (V.str k, v) :: (ns.map V.str).zip vs = (kV (.inr k), v) :: ((ns.map Sum.inr : List Key).zip vs).map (fun kv => (kV kv.1, kv.2))
    rw [zip_kV ns vs]
    rfl
theorem fe_dict {ks : List (Option Expr)} {es : List Expr} {ns : List Str} {fs : List EF} (h : FDs g N sc ks es ns fs) (h0 : ks ≠ []) (h15 : ks.length ≤ 15) : FE g N sc (.Dict ks es pos) (eDict ns fs) := by
  refine fe_of (fun LR C X W ok tk => ?_) (fun _ _ => rfl) (fun _ _ => rfl)
  obtain ⟨d1, d2, d3, d4, d5⟩ := fds_of h ok tk pos
  refine PE.imp (pe_disp d1 d2 d3 h0 h15) fun σ H Q q => ?_
  obtain ⟨env, F, R, ι, S, re, rp, p⟩ := q
  intro p0 hp0
  have rD : R p0 = none := rp.rH.free hp0
  have rp' := rp.own (o := .dK []) hp0
  have p : PostE X.K g LR (fun c d H => W c d σ H) F R ι S ((evAll fs C env S).bind fun vs S1 => match toDs vs with
    | some ds => .ok (.box S1.length) (S1 ++ [.dct (((ns.map Sum.inr).zip ds).foldl (fun acc kv => Py.putK kv.1 kv.2 acc) [])])
    | none => .bad) Q := p
  have pa : PostA X.K g LR (fun c d H => W c d σ H) F (upd R p0 (.dK [])) ι S (evAll fs C env S) fun vs H2 => H2 p0 = some (.dK []) ∧ Q (.ref p0) (upd H2 p0 (.dK (mergeK [] ((ns.map Sum.inr).zip vs)))) := by
    cases hk : evAll fs C env S with
    | bad => rw [hk] at p; exact p
    | exc e S' =>
      rw [hk] at p
      exact fun F' ι' H' c d s1 i1 r1 x1 => p F' ι' H' c d s1 i1 (r1.disown rD).1 x1
    | ok vs S1 =>
      rw [hk] at p
      intro F1 ι1 H1 ws sm ie rp1 r1
      refine ⟨rp1.rH _ _ upd_same, ?_⟩
      have p : PostE X.K g LR (fun c d H => W c d σ H) F R ι S (match toDs vs with
        | some ds => .ok (.box S1.length) (S1 ++ [.dct (((ns.map Sum.inr).zip ds).foldl (fun acc kv => Py.putK kv.1 kv.2 acc) [])])
        | none => .bad) Q := p
      split at p
      · rename_i ds hd
        have rs := toDs_rds r1 hd
        have rp2 := rp1.change (o' := .dK (mergeK [] ((ns.map Sum.inr).zip ws))) (fun _ z => by cases z) (fun _ z => by cases z)
        obtain ⟨b1, b2, b3, b4⟩ := rp2.disown rD
        obtain ⟨ι', g1, g2, g3⟩ := b1.boxed (o := .dct (((ns.map Sum.inr).zip ds).foldl (fun acc kv => Py.putK kv.1 kv.2 acc) [])) ⟨_, b2, kd_merge (kd_zip ns rs) .nil⟩ b3 rD b4
        exact p F1 ι' _ _ sm (ie.trans g1) g3 ⟨by simp, by rw [g2]⟩
      · exact p.elim
  refine dis_read ok.lm ns fs (d4.trans d5.symm) (REnv.ext ok.lm (Same.refl _) IExt.refl re) rp' (fun vs H' hv q' => ?_) pa
  refine ⟨q'.1, (ns.map Sum.inr).zip vs, zip_kV ns vs, ?_, q'.2⟩
  rw [List.length_zip, List.length_map]
  omega

/-! ### xs[i] = e -/
theorem setIx_at {K : PySem.W.Frag} {LR : LRT} {F R H : Hp} {ι : Nat → Addr} {S S4 : Sto} {a b : Vl} {x y v : V} {d : D} (rp : Rep K g F R ι S H) (ra : RV K g.gc LR F ι S.length x a) (rb : RV K g.gc LR F ι S.length y b) (rv : RD K g.gc F v d) (h : setIx a b d S = some S4) {Q : Hp → Prop}
    (k : ∀ H', Rep K g F R ι S4 H' → IExt S ι S4 ι → Q H') : rSetL x y v H Q := by
  unfold setIx at h
  split at h
  · rename_i n i
    split at h
    · rename_i xs hs
      cases hj : ixOf xs.length i with
      | none => rw [hj] at h; cases h
      | some j =>
        rw [hj] at h
        cases h
        obtain ⟨hn, rfl⟩ := ra
        cases rb
        obtain ⟨zs, h1, h2⟩ := rp.box _ _ hs
        exact ⟨ι n, zs, i, j, rfl, rfl, h1, by rw [h2.length]; exact hj, k _ (rp.write hs trivial trivial ⟨zs.set j v, upd_same, h2.set j rv⟩) iext_set⟩
    · cases h
  · cases h
theorem fs_setIx (h1 : FE g N sc e1 f1) (h2 : FE g N sc e2 f2) (h3 : FE g N sc e3 f3)
    (hs : ∀ env : PySem.Env, swapsWithSole [.Subscript e1 e2 p1] e3 pos.line env = pure false) (hw : ∀ env : PySem.Env, swappedStores [.Subscript e1 e2 p1] e3 env = pure none)
    (h4 : ∀ env, (assignEach [.Subscript e1 e2 p1] env).map (·.2) = [assign (.Subscript e1 e2 p1) env])
    (ha : ∀ env v, assign (.Subscript e1 e2 p1) env v = (do
      let ov ← holding [v] (eval e1 env)
      let iv ← holding [v, ov] (eval e2 env)
      standAt p1
      holding [v,
              ov, iv] (setItem ov iv v)
      release [v, ov, iv] [])) : FS g N sc (.Assign [.Subscript e1 e2 p1] e3 pos) (sSetIx f1 f2 f3) := by
  refine ⟨fun LR C X W ok xs tk => PS.imp (ps_asg (h3.fz ok tk) (pg_sub (h1.fz ok tk) (h2.fz ok tk) set_list (ha _)) (hs _) (hw _) (h4 _)) fun De σ H q => ?_⟩
  obtain ⟨env, F, R, ι, S, re, rp, p⟩ := q
  refine ⟨env, F, R, ι, S, re, rp, post_outE p fun v S1 F1 ι1 H1 x sm ie rp1 rv p1 => ?_⟩
  have re1 := REnv.ext ok.lm sm ie re
  refine ⟨env, F1, R, ι1, S1, re1, rp1, post_outE p1 fun a S2 F2 ι2 H2 y sm2 ie2 rp2 ra p2 => ?_⟩
  have re2 := REnv.ext ok.lm sm2 ie2 re1
  refine ⟨env, F2, R, ι2, S2, re2, rp2, post_outE p2 fun b S3 F3 ι3 H3 z sm3 ie3 rp3 rb p3 => ?_⟩
  split at p3
  · rename_i d
    split at p3
    · rename_i S4 h4
      have rd : RD X.K g.gc F3 x d := RV.ext ok.lm sm3 ie3 (RV.ext ok.lm sm2 ie2 rv)
      refine setIx_at rp3 (RV.ext ok.lm sm3 ie3 ra) rb rd h4 fun H' r' i' => ?_
      exact p3 F3 ι3 σ H' (Same.refl _) i' r' (REnv.ext ok.lm (Same.refl _) i' (REnv.ext ok.lm sm3 ie3 re2)) rfl
    · exact p3.elim
  · exact p3.elim
theorem fs_setIx2 {k k2 : Nat} {t1 t2 : Pos} (h1 : FE g N sc e1 f1) (h2 : FE g N sc e2 f2) (h3 : FE g N sc e3 f3) (h4 : FE g N sc e4 f4) (h5 : FE g N sc e5 f5) (h6 : FE g N sc e6 f6)
    (hs : ∀ env : PySem.Env, swapsWithSole [.Tuple [.Subscript e1 e2 p1, .Subscript e3 e4 p2] k t1] (.Tuple [e5, e6] k2 t2) pos.line env = pure false) (hw : ∀ env : PySem.Env, env.scope = sc → swappedStores [.Tuple [.Subscript e1 e2 p1, .Subscript e3 e4 p2] k t1] (.Tuple [e5, e6] k2 t2) env = pure none)
    (ha : ∀ env v, assign (.Subscript e1 e2 p1) env v = (do
      let ov ← holding [v] (eval e1 env)
      let iv ← holding [v, ov] (eval e2 env)
      standAt p1
      holding [v,
              ov, iv] (setItem ov iv v)
      release [v, ov, iv] []))
    (hb : ∀ env v, assign (.Subscript e3 e4 p2) env v = (do
      let ov ← holding [v] (eval e3 env)
      let iv ← holding [v, ov] (eval e4 env)
      standAt p2
      holding [v,
              ov, iv] (setItem ov iv v)
      release [v, ov, iv] []))
    (q1 : ∀ env, (assignEach [.Tuple [.Subscript e1 e2 p1, .Subscript e3 e4 p2] k t1] env).map (·.2) = [assign (.Tuple [.Subscript e1 e2 p1, .Subscript e3 e4 p2] k t1) env])
    (q2 : ∀ env, (assignEach [.Subscript e1 e2 p1, .Subscript e3 e4 p2] env).map (·.2) = assign (.Subscript e1 e2 p1) env :: (assignEach [.Subscript e3 e4 p2] env).map (·.2))
    (q3 : ∀ env, (assignEach [.Subscript e3 e4 p2] env).map (·.2) = assign (.Subscript e3 e4 p2) env :: (assignEach [] env).map (·.2))
    (q4 : ∀ env, (assignEach [.Subscript e1 e2 p1, .Subscript e3 e4 p2] env).length = 2) (q5 : ∀ env, (assignEach [.Subscript e1 e2 p1, .Subscript e3 e4 p2] env).findIdx? (·.1) = none) :
    FS g N sc (.Assign [.Tuple [.Subscript e1 e2 p1, .Subscript e3 e4 p2] k t1] (.Tuple [e5, e6] k2 t2) pos) (sSetIx2 f1 f2 f3 f4 f5 f6) := by
  refine ⟨fun LR C X W ok xs tk => PS.imp (ps_asg (pe_tup (fa_of (.cons h5 (.cons h6 .nil)) ok tk)) (pg_tup (n := 2) ok.calm (pgs_cons (pg_sub (h1.fz ok tk) (h2.fz ok tk) set_list (ha _)) (pgs_cons (pg_sub (h3.fz ok tk) (h4.fz ok tk) set_list (hb _)) pgs_nil (q3 _)) (q2 _)) (q4 _) (q5 _)) (hs _) (hw _ ok.sc) (q1 _)) fun De σ H q => ?_⟩
  obtain ⟨env, F, R, ι, S, re, rp, p⟩ := q
  refine ⟨env, F, R, ι, S, re, rp, ?_⟩
  unfold sSetIx2 at p
  cases hk : evAll [f5, f6] C env S with
  | bad => rw [hk] at p; exact p
  | exc e S' =>
    rw [hk] at p
    exact fun F' ι' H' c d s1 i1 r1 x1 => p F' ι' σ H' c d s1 i1 r1 x1 rfl
  | ok vs S1 =>
    rw [hk] at p
    intro F1 ι1 H1 ws sm ie rp1 r1
    simp only [Rs.out] at p
    split at p
    · rename_i d5 d6
      obtain ⟨y5, y6, rfl, r5, r6⟩ := pair2 r1
      refine ⟨by show 2 ≤ sizeLine; decide, fun p0 hp0 => ?_⟩
      obtain ⟨g1, g2, g3⟩ := rp1.growF (o := .tup [y5, y6]) hp0
      refine ⟨p0, [y5, y6], rfl, SqT.of upd_same, rfl, y5, [y6], rfl, ?_⟩
      have re1 := REnv.ext ok.lm g2 IExt.refl (REnv.ext ok.lm sm ie re)
      have r5 := RD.mono g2 r5
      have r6 := RD.mono g2 r6
      have p := PostS.up (sm.trans g2) ie p
      refine ⟨env, _, R, ι1, S1, re1, g1, post_outE p fun a S2 F2 ι2 H2 y sm2 ie2 rp2 ra p2 => ?_⟩
      have re2 := REnv.ext ok.lm sm2 ie2 re1
      refine ⟨env, F2, R, ι2, S2, re2, rp2, post_outE p2 fun b S3 F3 ι3 H3 z sm3 ie3 rp3 rb p3 => ?_⟩
      have re3 := REnv.ext ok.lm sm3 ie3 re2
      split at p3
      · rename_i S4 h4
        refine setIx_at rp3 (RV.ext ok.lm sm3 ie3 ra) rb (RD.mono sm3 (RD.mono sm2 r5)) h4 fun H4 r4 i4 => ⟨y6, [], rfl, ?_⟩
        have re4 := REnv.ext ok.lm (Same.refl _) i4 re3
        have p3 := PostS.up (Same.refl _) i4 p3
        refine ⟨env, F3, R, ι3, S4, re4, r4, post_outE p3 fun a S5 F5 ι5 H5 y sm5 ie5 rp5 ra5 p5 => ?_⟩
        have re5 := REnv.ext ok.lm sm5 ie5 re4
        refine ⟨env, F5, R, ι5, S5, re5, rp5, post_outE p5 fun b S6 F6 ι6 H6 z sm6 ie6 rp6 rb6 p6 => ?_⟩
        have re6 := REnv.ext ok.lm sm6 ie6 re5
        split at p6
        · rename_i S7 h7
          refine setIx_at rp6 (RV.ext ok.lm sm6 ie6 ra5) rb6 (RD.mono sm6 (RD.mono sm5 (RD.mono sm3 (RD.mono sm2 r6)))) h7 fun H7 r7 i7 => ⟨rfl, ?_⟩
          exact p6 F6 ι6 σ H7 (Same.refl _) i7 r7 (REnv.ext ok.lm (Same.refl _) i7 re6) rfl
        · exact p6.elim
      · exact p3.elim
    · exact p.elim

/-! ### self.f = e -/
theorem fs_fld {n : Str} (cs : List Nat) (h1 : FE g N sc e1 f1) (h2 : FE g N sc e2 f2) (hc : ∀ K mg, g.M K mg → ∀ c, c ∈ cs → Cls K (g.gc c) ∧ NoAttr K (g.gc c) n) (hs : ∀ l env, swapsWith e2 (some (.Attribute e1 n p1)) l env = pure false) :
    FS g N sc (.Assign [.Attribute e1 n p1] e2 pos) (Py.sFld cs f1 n f2) := by
  refine ⟨fun LR C X W ok xs tk => PS.imp (ps_fld (h1.fz ok tk) (h2.fz ok tk) (hs _ _)) fun De σ H q => ?_⟩
  obtain ⟨env, F, R, ι, S, re, rp, p⟩ := q
  refine ⟨env, F, R, ι, S, re, rp, post_outE p fun v S1 F1 ι1 H1 x sm ie rp1 rv p1 => ?_⟩
  have re1 := REnv.ext ok.lm sm ie re
  refine ⟨env, F1, R, ι1, S1, re1, rp1, post_outE p1 fun a S2 F2 ι2 H2 y sm2 ie2 rp2 ra p2 => ?_⟩
  split at p2
  · rename_i d k
    obtain ⟨hn, rfl⟩ := ra
    split at p2
    · rename_i c fs hk
      split at p2
      · rename_i hcs
        split at p2
        · rename_i hz
          obtain ⟨dx, ws, h1, h2⟩ := rp2.box _ _ hk
          obtain ⟨c1, c2⟩ := hc _ _ ok.facts c (by simpa using hcs)
          have rd : RD X.K g.gc F2 x d := RV.ext ok.lm sm2 ie2 rv
          refine ⟨ι2 k, _, dx, ws, rfl, h1, c1, c2, by rw [h2.length]; omega, ?_⟩
          have rz := rp2.write (u := .ins (g.gc c) dx (putF n x ws)) hk trivial trivial (o' := .ins c (putFs n d fs)) ⟨dx, _, upd_same, h2.put n rd⟩
          exact p2 F2 ι2 σ _ (Same.refl _) iext_set rz (REnv.ext ok.lm (Same.refl _) iext_set (REnv.ext ok.lm sm2 ie2 re1)) rfl
        · exact p2.elim
      · exact p2.elim
    · exact p2.elim
  · exact p2.elim

/-! ### a, b = e -/
def gOr (a b : TG) : TG := fun v σ H Q => a v σ H Q ∨ b v σ H Q
theorem pg_or {X : Cx} {e : Expr} {a b : TG} (h1 : PG X e a) (h2 : PG X e b) : PG X e (gOr a b) := ⟨fun pins s σ H v u Q I r q => by
  rcases q with q | q
  · exact h1.run pins s σ H v u Q I r q
  · exact h2.run pins s σ H v u Q I r q⟩
theorem bind_len : ∀ (is : List Nat) (xs : List D) (env env' : Slots), bindNames is xs env = some env' → xs.length = is.length
  | [], [], _, _, _ => rfl
  | [], _ :: _, _, _, h => by cases h
  | _ :: _, [], _, _, h => by cases h
  | i :: is, x :: xs, env, env', h => by
    unfold bindNames at h
    rw [List.length_cons, List.length_cons, bind_len is xs _ _ h]
theorem fs_unpack {es : List Expr} {is : List Nat} {k : Nat} (hg : FNs N sc fnAll es is) (h1 : FE g N sc e1 f1)
    (hs : ∀ env : PySem.Env, env.scope = sc → swapsWithSole [.Tuple es k p1] e1 pos.line env = pure false) (hw : ∀ env : PySem.Env, env.scope = sc → swappedStores [.Tuple es k p1] e1 env = pure none)
    (q1 : ∀ env, (assignEach [.Tuple es k p1] env).map (·.2) = [assign (.Tuple es k p1) env]) : FS g N sc (.Assign [.Tuple es k p1] e1 pos) (sUnpack is f1) := by
  refine ⟨fun LR C X W ok xs tk => ?_⟩
  obtain ⟨g1, g2, g3⟩ := fns_pgs hg ok (fun x _ => xs.fn x)
  refine PS.imp (ps_asg (h1.fz ok tk) (pg_or (pg_tup ok.calm g1 g2 g3) (pg_lst ok.calm g1 g2 g3)) (hs _ ok.sc) (hw _ ok.sc) (q1 _)) fun De σ H q => ?_
  obtain ⟨env, F, R, ι, S, re, rp, p⟩ := q
  refine ⟨env, F, R, ι, S, re, rp, post_outE p fun v S1 F1 ι1 H1 x sm ie rp1 rv p1 => ?_⟩
  have re1 := REnv.ext ok.lm sm ie re
  split at p1
  · rename_i ds
    split at p1
    · rename_i env1 hb
      cases rv with
      | @tup a vs _ a1 a2 =>
        refine .inl ⟨a, vs, rfl, sqT_mono rp1.fH a1, by rw [a2.length]; exact bind_len _ _ _ _ hb, env, F1, R, ι1, S1, ds, re1, rp1, a2, ?_⟩
        rw [hb]
        exact fun σ' re' o => p1 F1 ι1 σ' H1 (Same.refl _) IExt.refl rp1 re' o.1
    · exact p1.elim
  · rename_i ds
    split at p1
    · rename_i env1 hb
      cases rv with
      | @lst a vs _ a1 a2 =>
        refine .inr ⟨a, vs, rfl, SqL.of (rp1.fH _ _ a1), by rw [a2.length]; exact bind_len _ _ _ _ hb, env, F1, R, ι1, S1, ds, re1, rp1, a2, ?_⟩
        rw [hb]
        exact fun σ' re' o => p1 F1 ι1 σ' H1 (Same.refl _) IExt.refl rp1 re' o.1
    · exact p1.elim
  · exact p1.elim
/-- one side of a, b = e, e' -/
theorem par_side {b : Bool} (h : FE g N sc e f) {LR : LRT} {C : Cxt} {X : Cx} {W : WX} (ok : XOk g LR C N sc X) (tk : Takes X W) : PE X e (tE X.K g LR C W (parV b f)) := by
  cases b with
  | false => exact h.fz ok tk
  | true =>
    refine PE.imp (h.ev LR C X W ok tk) fun σ H Q q => ?_
    obtain ⟨env, F, R, ι, S, re, rp, p⟩ := q
    refine ⟨env, F, R, ι, S, re, rp, ?_⟩
    have p : PostE X.K g LR (fun c d H => W c d σ H) F R ι S ((f C env S).bind fun v S1 => match v with
      | .new xs => .ok (.box S1.length) (S1 ++ [.lst xs])
      | _ => .bad) Q := p
    cases hr : f C env S with
    | bad => rw [hr] at p; exact p
    | exc e S' => rw [hr] at p; exact p
    | ok v S1 =>
      rw [hr] at p
      cases v with
      | new xs =>
        intro F1 ι1 H1 x sm ie rp1 rt
        obtain ⟨ι2, ie2, rp2, rv2⟩ := rt_boxed rp1 rt
        exact p F1 ι2 H1 x sm (ie.trans ie2) rp2 rv2
      | _ => exact p.elim
theorem par_rv {b : Bool} {C : Cxt} {env : Slots} {S S1 : Sto} {v : Vl} (h : parV b f C env S = .ok v S1) : ∀ xs, v ≠ .new xs := by
  cases b with
  | false =>
    intro xs z
    have h : fz f C env S = .ok v S1 := h
    unfold Py.fz at h
    cases hf : f C env S with
    | bad => rw [hf] at h; cases h
    | exc e S' => rw [hf] at h; cases h
    | ok u S' =>
      rw [hf] at h
      have hr' : (Rs.ok u.frz S' : Rs Vl) = .ok v S1 := h
      injection hr' with h1 h2
      exact frz_ne u xs (h1.trans z)
  | true =>
    intro xs z
    have h : ((f C env S).bind fun v S1 => match v with
      | .new xs => .ok (.box S1.length) (S1 ++ [.lst xs])
      | _ => .bad) = .ok v S1 := h
    cases hf : f C env S with
    | bad => rw [hf] at h; cases h
    | exc e S' => rw [hf] at h; cases h
    | ok u S' =>
      rw [hf] at h
      cases u with
      | new ys =>
        have h : (Rs.ok (.box S'.length) (S' ++ [.lst ys]) : Rs Vl) = .ok v S1 := h
        injection h with h1 h2
        rw [z] at h1
        cases h1
      | _ => cases h
theorem fs_par {i j : Nat} {x y : Str} {bi bj : Bool} {kt k2 : Nat} {px py pt pt2 : Pos} (hi : N[i]? = some x) (hj : N[j]? = some y) (hij : i ≠ j) (hx : sc.names.lookup x = some .local) (hy : sc.names.lookup y = some .local) (h1 : FE g N sc e1 f1) (h2 : FE g N sc e2 f2)
    (hw : ∀ env : PySem.Env, env.scope = sc → swappedStores [.Tuple [.Name x px, .Name y py] kt pt] (.Tuple [e1, e2] k2 pt2) env = pure (some [x, y]))
    (hs : ∀ env : PySem.Env, env.scope = sc → swapsWithSole [.Tuple [.Name x px, .Name y py] kt pt] (.Tuple [e1, e2] k2 pt2) pos.line env = pure false) :
    FS g N sc (.Assign [.Tuple [.Name x px, .Name y py] kt pt] (.Tuple [e1, e2] k2 pt2) pos) (sPar i j bi bj f1 f2) := by
  refine ⟨fun LR C X W ok xs tk => PS.imp (ps_par ok.calm (by rw [ok.hN]; exact ok.nd) (by rw [ok.hN]; exact hi) (by rw [ok.hN]; exact hj) hij (by rw [ok.sc]; exact hx) (by rw [ok.sc]; exact hy) (pa_cons (par_side (b := bi) h1 ok tk) (pa_cons (par_side (b := bj) h2 ok tk) pa_nil (h2.st _ _)) (h1.st _ _)) (hw _ ok.sc) (hs _ ok.sc)) fun De σ H q => ?_⟩
  obtain ⟨env, F, R, ι, S, re, rp, p⟩ := q
  refine ⟨env, F, R, ι, S, re, rp, post_out p fun v S1 F1 ι1 H1 x hr sm ie rp1 rt p1 => ?_⟩
  have re1 := REnv.ext ok.lm sm ie re
  have rv := RT.rv rt (par_rv hr)
  refine ⟨env, F1, R, ι1, S1, re1, rp1, post_out p1 fun u S2 F2 ι2 H2 y hr2 sm2 ie2 rp2 rt2 p2 => ?_⟩
  have ru := RT.rv rt2 (par_rv hr2)
  exact ⟨x, y, rfl, p2 F2 ι2 _ H2 (Same.refl _) IExt.refl rp2 (REnv.set (REnv.set (REnv.ext ok.lm sm2 ie2 re1) i (RV.ext ok.lm sm2 ie2 rv)) j ru) (by rw [List.length_set, List.length_set])⟩
end
end PyS
end

section
set_option Elab.async false
set_option linter.all false
set_option maxRecDepth 100000
set_option
        maxHeartbeats 4000000
/-! PSnd13: enumerate over a tuple, [::-1] of a tuple, isinstance, list(range(a, b)). -/
namespace PyS
open PySem PySem.Spec PyProof.Rows L2 Py

/-! ### enumerate(t) -/
set_option
        maxHeartbeats 1000000 in
theorem enum_new1 {v : Value} {o : Obj} {H : Heap → Prop} (B : Begins v o H) :
    Meets (Builtin.«enumerate.__new__» ⟨[.type "enumerate", v], []⟩) (fun _ R s => H s.heap ∧
      R (.ok (.ret (.ref (s.heap.push o).objs.size))) { s with heap := (s.heap.push o).push { cls := .type "enumerate", data := .fields #[.none, .bool false, .ref s.heap.objs.size, rawInt 0, .none, .none] } }) :=
  .of_wp fun prog w A R s h =>
          by
    obtain ⟨hp, gg, dd, tk, os⟩ := s
    obtain ⟨h1, h⟩ := h
    have hsub := sub_enumerate
    have q1 : ∀ {A' : Around} {E Q : Value → Shared → Prop}, Q (.ref hp.objs.size) ⟨hp.push o, gg, dd, tk, os⟩ → wpAny (model prog w) A' (pyIter v) Q E ⟨hp, gg, dd, tk, os⟩ := fun q => B.iter prog w _ _ ⟨hp, gg, dd, tk, os⟩ _ h1 q
    wp_walk using q1
    refine wpAny_stack_any fun st =>
            wpAny_pure ?_
    split
    · rename_i c _ _ _ _ _
      cases (c == Value.type "enumerate") <;> (wp_walk using q1; exact ⟨_, rfl, h⟩)
    · wp_walk using q1
      exact ⟨_, rfl, h⟩
section
variable
        {prog : Program} {w : World} {A : Around} {E : Value → Shared → Prop} {s : Shared}
theorem call_enum_tup {t : Addr} {items : Array Value} {Q : Value → Shared → Prop} (hL : s.heap.IsTuple t items)
    (h : ∀ h', IsEnum h' (s.heap.objs.size + 1) s.heap.objs.size 0 .none → h'.IsTupleIter s.heap.objs.size t 0 → (∀ b o, s.heap.get? b = some o → h'.get? b = some o) → Q (.ref (s.heap.objs.size + 1)) { s with heap := h' }) :
    wpAny (model prog w) A (call (.type "enumerate") [.ref t]) Q E s := by
  refine callType_new F.called_enumerate (by decide) (F.typeCall_enumerate_1 _) (F.newCall_enumerate_1 _) (fun obj => F.args_object_init_2 obj _) F.entry_enumerate_new (enum_new1 (begins_tuple t items)) ⟨hL, ?_⟩
  have hz : (s.heap.push { cls := .type "tuple_iterator", data := .fields #[.ref t, .int 0 0] }).objs.size = s.heap.objs.size + 1 := Heap.size_push ..
  show _ ∧ _
  rw [hz]
  have he : IsEnum ((s.heap.push { cls := .type "tuple_iterator", data := .fields #[.ref t, .int 0 0] }).push { cls := .type "enumerate", data := .fields #[.none, .bool false, .ref s.heap.objs.size, rawInt 0, .none, .none] }) (s.heap.objs.size + 1) s.heap.objs.size 0 .none := by
    have := Heap.get?_push_size (s.heap.push { cls := .type "tuple_iterator", data := .fields #[.ref t, .int 0 0] }) (o := { cls := .type "enumerate", data := .fields #[.none, .bool false, .ref s.heap.objs.size, rawInt 0, .none, .none] }) rfl
    rw [hz] at this
    exact this
  exact ⟨⟨_, he, rfl⟩, h _ he ⟨_, Heap.get?_push_of_some _ (Heap.get?_push_size _ rfl), rfl, rfl⟩ fun b o x => Heap.get?_push_of_some _ (Heap.get?_push_of_some _ x)⟩
end
/-- the tuple at a, each item in a new pair -/
def Itet (K : PySem.W.Frag) (a : Addr) : It :=
  ⟨fun i H => ∃ (xs : List V) (x : V), SqT K H a xs ∧ xs[i]? = some x, fun i H v H' => ∃ T x, v = .ref T ∧ H T = none ∧ H' = upd H T (.tup [.int (i : Nat), x]) ∧ ∀ xs, SqT K H a xs → xs[i]? = some x, fun i H => ∃ xs : List V, SqT K H a xs ∧ xs.length ≤ i⟩
theorem turn_enumT {P : Program} {w : World} {K : PySem.W.Frag} {elts : List Expr} {kk : Nat} {tpos : Pos} (a e it : Addr) :
    Turn P w K (.Tuple elts kk tpos) (Itet K a) [e, it] e (fun i h => (∃ old, IsEnum h e it ((i : Nat) : Int) old) ∧ h.IsTupleIter it a i ∧ e ≠ it) where
  mem := by simp
  obj := fun i h st b hb => by
    obtain ⟨⟨old,
            he⟩, ⟨o, ho, hc, hd⟩, _⟩ := st
    rcases (show b = e ∨ b = it by simpa using hb) with z | z
    · rw [z]; exact ⟨_,
            he, fun v q => nomatch q⟩
    · rw [z]; exact ⟨o,
            ho, fun v q => by rw [hd] at q; cases q⟩
  keep :=
          fun i h h' st k => let ⟨⟨old, he⟩, hi, hne⟩ := st; ⟨⟨old, k e (by simp) _ he⟩, hi.at fun o q => k it (by simp) o q, hne⟩
  item := by
    intro X
            hP hw hK hc i pins s σ H E I hf st hg
    subst hP hw hK
    obtain ⟨⟨old,
            he⟩, hit, hne⟩ := st
    obtain ⟨xs, x, hq, hx⟩ := hg
    obtain ⟨its,
            rv, p, hz⟩ := I.tuple hq
    obtain ⟨u,
            hu, ru⟩ := rv.get hx
    have hel :
            e < s.heap.objs.size := Heap.lt_size he
    have hil :
            it < s.heap.objs.size := by obtain ⟨_, q, _⟩ := hit; exact Heap.lt_size q
    have hT : s.heap.IsTuple a its.toArray := p
    have nat : a ≠ it := fun z => by
      obtain ⟨o1, q1, c1, _⟩ := hT
      obtain ⟨o2, q2, c2, _⟩ := hit
      rw [z, q2] at q1
      cases q1
      rw [c1] at c2
      injection c2 with z
      exact absurd z (by decide)
    have nae : a ≠ e := fun z => by
      obtain ⟨o1, q1, c1, _⟩ := hT
      rw [z, he] at q1
      cases q1
      injection c1 with z
      exact absurd z (by decide)
    have hef : e ∉ [it, a] := by
      intro z
      rcases (show e = it ∨ e = a by simpa using z) with z | z
      · exact hne z
      · exact nae z.symm
    have hlt : i < its.toArray.size := by
      have := (List.getElem?_eq_some_iff.mp hu).1
      simpa using this
    refine wpAny_pyNext_enum_itemD (Draws.tuple (A := X.A.in1) (show X.A.in1.handled = none from I.ok.hd hc) it a nat its.toArray) he ⟨hit, hT⟩ hlt hne hef fun u' h' tk hP ho hst' hTt hsz hk => ?_
    have eu : u' = u := by
      have hP : its.toArray[i]? = some u' := hP
      have : its[i]? = some u' := by simpa using hP
      rw [hu] at this
      exact
              (Option.some.inj this).symm
    subst eu
    refine ⟨_, rfl, wpAny_letOwnedTupleGo_enum (s := { s with heap := h', toks := tk + 1 }) ho fun h'' he' sb => ?_⟩
    have hT2 : h''.get? s.heap.objs.size = some { cls := .type "tuple", data := .seq #[.int i tk, u'] } := (sb.2 _ (Nat.ne_of_gt hel)).trans hTt
    have new :
            ObjOk X.prog X.w (upd H s.heap.objs.size (.tup [.int (i : Nat), x])) h'' s.heap.objs.size (.tup [.int (i : Nat), x]) :=
      ⟨by show 2 ≤ sizeLine; decide, [.int i tk, u'], .cons ⟨_, rfl⟩ (.cons ru .nil), ⟨_, hT2, rfl, _, rfl⟩⟩
    have I1 : Inv X pins σ (upd H s.heap.objs.size (.tup [.int (i : Nat), x])) { s with heap := h'', toks := tk + 1 } :=
      I.turnedNew (ch :=
              [e, it]) (fun b ob hb q => (sb.2 b (fun z => hb (by simp [z]))).trans (hk b ob (fun z => hb (by simp [z])) (fun z => hb (by simp [z])) q)) hf (Nat.le_refl _) new
    refine ⟨.ref s.heap.objs.size, _, I1, rfl, ⟨_, x, rfl, I.hok.fresh (Nat.le_refl _), rfl, fun ys hy => by rw [I.tuple_inj hy hq]; exact hx⟩, ⟨⟨u', ?_⟩, hst'.1.at fun o q => (sb.2 it (Ne.symm hne)).trans q, hne⟩, fun b hb => ?_⟩
    · rw [show ((i + 1 : Nat) : Int) = (i : Int) + 1 by omega]
      exact he'
    · have hb' :
            b < s.heap.objs.size := by
        rcases (show b = e ∨ b = it by simpa using hb) with z | z
        · rw [z]; exact hel
        · rw [z]; exact hil
      rw [upd_ne
              (Nat.ne_of_lt hb')]
      exact (hf b hb).1
  done := by
    intro X
            hP hw hK hc i pins s σ H E I hf st hg
    subst hP hw hK
    obtain ⟨⟨old,
            he⟩, hit, hne⟩ := st
    obtain ⟨xs, hq, hx⟩ := hg
    obtain ⟨its,
            rv, p, hz⟩ := I.tuple hq
    obtain ⟨f0,
            f1, f2, f3, f4, f5⟩ := hf it (by simp)
    have hl := rv.length
    have hT : s.heap.IsTuple a its.toArray := p
    have nat : a ≠ it := fun z => by
      obtain ⟨o1, q1, c1, _⟩ := hT
      obtain ⟨o2, q2, c2, _⟩ := hit
      rw [z, q2] at q1
      cases q1
      rw [c1] at c2
      injection c2 with z
      exact absurd z (by decide)
    have ei : its.toArray[i]? = none := by simp; omega
    have D : Draws X.prog X.w X.A.in1 it [it, a] i (fun _ _ => False) (fun j h => j = i ∧ h.IsTupleIter it a i ∧ h.IsTuple a its.toArray) :=
      ⟨fun _ _ st => let ⟨o, ho, _⟩ := st.2.1; ⟨o, ho⟩, fun _ _ _ st hk => ⟨st.1, st.2.1.at fun o e => hk it (by simp) o e, st.2.2.at fun o e => hk a (by simp) o e⟩,
        fun j s' Q' E' hj st _ => absurd st.1 (Nat.ne_of_lt hj), fun s' Q' E' st hE => wpAny_nextOf_tuple_end (show X.A.in1.handled = none from I.ok.hd hc) st.2.1 st.2.2 ei hE⟩
    exact wpAny_pyNext_enum_endD D he ⟨rfl, hit, hT⟩ fun h' eb => ⟨rfl, I.turned (t' := s.toks) (fun b o hb q => eb b o hb q) f0 f1 f3 f4 f5⟩
  self :=
          fun A i s Q E st h => let ⟨⟨_, he⟩, _⟩ := st; wpAny_pyIter_enum he h
theorem pi_enumS {X : Cx} {e : Expr} {te : TE} {p pos tpos : Pos} {elts : List Expr} {kk : Nat} (hg : Gl X "enumerate") (hm : X.mg "enumerate" = none) (ha : PE X e te) (hs : starEach [e] X.env = [(false, eval e X.env)]) :
    PI X (.Tuple elts kk tpos) (.Call (.Name "enumerate" p) [e] [] pos) (fun σ H R => te σ H fun x H1 => ∃ a, x = .ref a ∧ (((∃ xs, SqL X.K H1 a xs) ∧ R (Ite X.K a) H1) ∨ ((∃ xs, SqT X.K H1 a xs) ∧ R (Itet X.K a) H1))) := by
  refine ⟨fun pins s σ H R I h =>
          ?_⟩
  refine Call_ (ld_blt I hg hm boot_enumerate (PyProof.Rows.callWith_type1 (one_arg ha I h (fun v s1 x H1 I1 r q => ?_) hs) hs rfl))
  obtain ⟨a, rfl, q⟩ := q
  cases r
  have fp : ∀ b ∈ [s1.heap.objs.size + 1, s1.heap.objs.size], FpOk X pins H1 b := fun b hb => by
    have hle :
            s1.heap.objs.size ≤ b := by
      rcases (show b = s1.heap.objs.size + 1 ∨ b = s1.heap.objs.size by simpa using hb) with z | z
      · rw
              [z]; exact Nat.le_add_right _ _
      · rw [z]; exact Nat.le_refl _
    exact
            I1.fpOk hle (I1.hok.fresh hle)
  rcases q with ⟨⟨xs, hq⟩, q⟩ | ⟨⟨xs, hq⟩, q⟩
  · obtain ⟨its,
          rv, p', hz⟩ := I1.list hq
    refine call_enumerate_list p'.isList fun h' he hit hsz hk =>
            wpAny_pyIter_enum he ?_
    exact ⟨s1.heap.objs.size + 1, [s1.heap.objs.size + 1, s1.heap.objs.size], _, _, H1, rfl, I1.kept (t' := s1.toks) hk, turn_enum a (s1.heap.objs.size + 1) s1.heap.objs.size, ⟨⟨.none, he⟩, hit, Nat.succ_ne_self _⟩, fp, q⟩
  · obtain ⟨its,
          rv, p', hz⟩ := I1.tuple hq
    refine call_enum_tup (show s1.heap.IsTuple a its.toArray from p') fun h' he hit hk => wpAny_pyIter_enum he ?_
    exact ⟨s1.heap.objs.size + 1, [s1.heap.objs.size + 1, s1.heap.objs.size], _, _, H1, rfl, I1.kept (t' := s1.toks) hk, turn_enumT a (s1.heap.objs.size + 1) s1.heap.objs.size, ⟨⟨.none, he⟩, hit, Nat.succ_ne_self _⟩, fp, q⟩

section
variable {K : PySem.W.Frag} {gc : Nat → Addr} {F : Hp} {xs : List D} {vs : List V} {a : Addr}
theorem enumD_get : ∀ {xs : List D} {k i : Nat} {d : D}, (enumD k xs)[i]? = some d → ∃ x, xs[i]? = some x ∧ d = .tup [.int ((k + i : Nat) : Int), x]
  | [], _, i, _, h => by
    unfold enumD at h
    simp at h
  | x :: xs, k, 0, d, h => by
    unfold enumD at h
    simp at h
    exact ⟨x, rfl, by rw [← h]; rfl⟩
  | x :: xs, k, i + 1, d, h => by
    unfold enumD at h
    obtain ⟨y, h1, h2⟩ := enumD_get (xs := xs) (k := k + 1) (i := i) (d := d) (by simpa using h)
    exact ⟨y, by simpa using h1, by rw [h2, show k + 1 + i = k + (i + 1) by omega]⟩
theorem enumD_len : ∀ (k : Nat) (xs : List D), (enumD k xs).length = xs.length
  | _, [] => rfl
  | k, x :: xs => by
    show (enumD (k + 1) xs).length + 1 = xs.length + 1
    rw [enumD_len]
theorem srcOk_enumL (h : SqL K F a vs) (r : RDs K gc F vs xs) : SrcOk K gc F (enumD 0 xs) (Ite K a) := fun i H sm => by
  have hH := Same.seq sm h
  refine ⟨fun d hd => ?_, fun hi => ⟨vs, hH, by rw [r.length]; rw [enumD_len] at hi; exact hi⟩⟩
  obtain ⟨z, hz, rfl⟩ := enumD_get hd
  obtain ⟨v, hv, rv⟩ := r.get hz
  refine ⟨⟨vs, v, hH, hv⟩, fun x H' y => ?_⟩
  obtain ⟨T, u, rfl, hT, rfl, hu⟩ := y
  have hx := hu vs hH
  rw [hv] at hx
  cases hx
  exact .inr ⟨T, _, _, rfl, rfl, hT, rfl, .cons (by rw [Nat.zero_add]; exact .int _) (.cons rv .nil)⟩
theorem srcOk_enumT (h : SqT K F a vs) (r : RDs K gc F vs xs) : SrcOk K gc F (enumD 0 xs) (Itet K a) := fun i H sm => by
  have hH := sqT_mono sm h
  refine ⟨fun d hd => ?_, fun hi => ⟨vs, hH, by rw [r.length]; rw [enumD_len] at hi; exact hi⟩⟩
  obtain ⟨z, hz, rfl⟩ := enumD_get hd
  obtain ⟨v, hv, rv⟩ := r.get hz
  refine ⟨⟨vs, v, hH, hv⟩, fun x H' y => ?_⟩
  obtain ⟨T, u, rfl, hT, rfl, hu⟩ := y
  have hx := hu vs hH
  rw [hv] at hx
  cases hx
  exact .inr ⟨T, _, _, rfl, rfl, hT, rfl, .cons (by rw [Nat.zero_add]; exact .int _) (.cons rv .nil)⟩
end
section
variable {g : Stat} {N : List Str} {sc : Scope} {e1 e2 e tg iter iter1 tg1 elt : Expr} {f1 f2 f : EF} {pos p1 p2 p3 : Pos}
theorem fi_enum {elts : List Expr} {kk : Nat} {tpos : Pos} (h1 : FE g N sc e1 f1) (hg : sc.names.lookup ("enumerate" : Str) = some .globalImplicit) (hm : ∀ K mg, g.M K mg → mg "enumerate" = none) : FI g N sc (.Tuple elts kk tpos) (.Call (.Name "enumerate" p1) [e1] [] pos) (.enum f1) := by
  refine ⟨fun LR C X W ok tk => PI.imp (pi_enumS (show X.env.scope.names.lookup ("enumerate" : Str) = _ by rw [ok.sc]; exact hg) (hm _ _ ok.facts) (h1.fz ok tk) (h1.st _ _)) fun σ H Q q => ?_, fun _ _ => rfl⟩
  obtain ⟨env, F, R, ι, S, re, rp, p⟩ := q
  refine ⟨env, F, R, ι, S, re, rp, post_bindI p fun v S1 F1 ι1 H1 x hr sm ie rp1 rv p1 => ?_⟩
  split at p1
  · cases rv with
    | lst a1 a2 => exact ⟨_, rfl, .inl ⟨⟨_, SqL.of (rp1.fH _ _ a1)⟩, p1 F1 ι1 H1 _ (Same.refl _) IExt.refl rp1 (srcOk_enumL (SqL.of a1) a2)⟩⟩
  · cases rv with
    | tup a1 a2 => exact ⟨_, rfl, .inr ⟨⟨_, sqT_mono rp1.fH a1⟩, p1 F1 ι1 H1 _ (Same.refl _) IExt.refl rp1 (srcOk_enumT a1 a2)⟩⟩
  · exact p1.elim

/-! ### list(range(a, b)) -/
theorem fe_rng2 (tup : Bool) (hg : sc.names.lookup (tupName tup) = some .globalImplicit) (hm : ∀ K mg, g.M K mg → mg (tupName tup) = none) (hg2 : sc.names.lookup ("range" : Str) = some .globalImplicit) (hm2 : ∀ K mg, g.M K mg → mg "range" = none) (h1 : FE g N sc e1 f1) (h2 : FE g N sc e2 f2) :
    FE g N sc (.Call (.Name (tupName tup) p1) [.Call (.Name "range" p2) [e1, e2] [] p] [] pos) (eRng2 tup f1 f2) := by
  refine fe_of (fun LR C X W ok tk => ?_) (fun _ _ => rfl) (fun _ _ => rfl)
  have hst2 : starEach [e2] X.env = [(false, eval e2 X.env)] := h2.st _ _
  have hpl : (backTo p (starEach [e2] X.env)).any (·.1) = false := by rw [hst2] <;> rfl
  have hr := prg_2 (p := p2) (pos := p) (show X.env.scope.names.lookup ("range" : Str) = _ by rw [ok.sc]; exact hg2) (hm2 _ _ ok.facts) (h1.fz ok tk) (h2.fz ok tk) (h1.st _ _) (h2.st _ _) hpl
  have gl : X.env.scope.names.lookup (tupName tup) = some .globalImplicit := by rw [ok.sc]; exact hg
  have mg0 := hm _ _ ok.facts
  have read : ∀ {σ : L2.St} {H : Hp} {Q : VK}, tE X.K g LR C W (eRng2 tup f1 f2) σ H Q → tRg2 (tE X.K g LR C W (fz f1)) (tE X.K g LR C W (fz f2)) σ H fun a b H1 => RgOk a b ∧ ∀ q, H1 q = none → Q (.ref q) (upd H1 q (if tup then .tup (rgV a b) else .lst (rgV a b))) := by
    intro σ H Q q
    obtain ⟨env, F, R, ι, S, re, rp, p⟩ := q
    refine ⟨env, F, R, ι, S, re, rp, post_bind p fun v S1 F1 ι1 H1 x hr sm ie rp1 rv p1 => ?_⟩
    refine ⟨env, F1, R, ι1, S1, REnv.ext ok.lm sm ie re, rp1, post_bind p1 fun u S2 F2 ι2 H2 y hr2 sm2 ie2 rp2 ru p2 => ?_⟩
    unfold rg2V at p2
    split at p2
    · rename_i i j hi hj
      have ev : v = .d (.int i) := by
        unfold Vl.int? at hi
        split at hi
        · cases hi; rfl
        · cases hi
      have eu : u = .d (.int j) := by
        unfold Vl.int? at hj
        split at hj
        · cases hj; rfl
        · cases hj
      subst ev eu
      have rv : RD X.K g.gc F1 x (.int i) := rv
      have ru : RD X.K g.gc F2 y (.int j) := ru
      cases rv
      cases ru
      split at p2
      · rename_i hz
        have h1 := rngOk_iff hz.1
        have h2 := rngOk_iff hz.2.1
        exact ⟨i, j, rfl, rfl, ⟨by omega, by omega, by omega, by omega, by omega⟩, rng_post tup rp2 p2⟩
      · exact p2.elim
    · exact p2.elim
  cases tup with
  | true => exact PE.imp (pe_tupRg ok.calm gl mg0 hr rfl) fun σ H Q q => read q
  | false => exact PE.imp (pe_listRg ok.calm gl mg0 hr rfl) fun σ H Q q => read q
end
end PyS
end

section
set_option Elab.async false
set_option linter.all false
set_option maxRecDepth 100000
set_option
        maxHeartbeats 4000000
/-! PSnd14: comprehensions with two clauses, comprehensions that are named. -/
namespace PyS
open PySem PySem.Spec PyProof.Rows L2 Py

section
variable {g : Stat} {N : List Str} {sc : Scope} {elt tg iter tg1 iter1 : Expr} {ifs : List Expr} {scope : Scope} {own : List (Str × Nat)} {vs1 : List Nat} {pos py spos : Pos} {s s1 : Src} {t t1 : Tg} {c : Option EF} {f : EF}
/-- the turns of one clause -/
theorem comp_loop {K : PySem.W.Frag} {LR : LRT} {C : Cxt} {σ : L2.St} {vw : List Nat} {env : Slots} {F R H : Hp} {ι : Nat → Addr} {S : Sto} {Dd : Addr} {xs acc : List D} {vs : List V} {J : It} {Q : Hp → Prop} (hl : LMono LR) (hat : ∀ i, i ∈ Tg.at t → i ∈ vw)
    (re : REnv K g.gc LR F ι S.length (L2.wipe σ vw) env) (rp : Rep K g F (upd R Dd (.lst vs)) ι S H) (rs : RDs K g.gc F vs acc) (sk : SrcOk K g.gc F xs J) (p : PostC K g F R ι S Dd (compGo t c f C env xs acc S) Q) :
    ∃ W : Nat → Nat → Hp → Prop, (∃ m, W 0 m H) ∧ ∀ i m H, W i m H → (J.stop i H ∧ Q H) ∨ (J.go i H ∧ ∃ Nx : Hp → Prop, (∀ H', Nx H' → ∃ m', m' < m ∧ W (i + 1) m' H') ∧ ∀ x H', J.yld i H x H' → tG K g LR t x (L2.wipe σ vw) H' fun σ2 H2 => L2.wipe σ2 vw = L2.wipe σ vw ∧ tC? K g LR C c σ2 H2 fun b H3 =>
      if b = true then tE K g LR C (fun _ _ _ _ => False) (fz f) σ2 H3 fun y H4 => ∃ acc, H4 Dd = some (.lst acc) ∧ acc.length < sizeLine ∧ Nx (upd H4 Dd (.lst (acc ++ [y]))) else Nx H3) := by
  refine ⟨CompW K g LR F R ι S Dd Q (compGo t c f C env) xs, ⟨_, rfl, Nat.zero_le _, F, ι, S, acc, vs, Same.refl _, IExt.refl, rp, rs, p⟩, ?_⟩
  rintro i m H2 ⟨em, hi, F2, ι2, S2, acc, vs, sm2, ie2, rp2, rs2, q2⟩
  obtain ⟨s1, s2⟩ := sk i H2 (sm2.trans rp2.fH)
  by_cases hlt : i < xs.length
  · right
    obtain ⟨d, hd, hdrop⟩ := lt_get hlt
    obtain ⟨go, yl⟩ := s1 d hd
    rw [hdrop] at q2
    refine ⟨go, fun H' => CompW K g LR F R ι S Dd Q (compGo t c f C env) xs (i + 1) (xs.length - (i + 1)) H', fun H' h' => ⟨xs.length - (i + 1), by omega, h'⟩, fun x H3 y => ?_⟩
    have done : ∀ {F3 : Hp} {H3 : Hp}, Same F2 F3 → Rep K g F3 (upd R Dd (.lst vs)) ι2 S2 H3 → RD K g.gc F3 x d → _ := fun {F3 H3} sm3 rp3 rd =>
      turn_of (Nx := fun H' => CompW K g LR F R ι S Dd Q (compGo t c f C env) xs (i + 1) (xs.length - (i + 1)) H') hl hat
        (REnv.ext hl (sm2.trans sm3) ie2 re) rp3 (RDs.mono sm3 rs2) rd (PostC.up sm3 IExt.refl q2)
        fun F4 ι4 S4 acc4 vs4 H4 sm4 ie4 rp4 rs4 q4 => ⟨rfl, hlt, F4, ι4, S4, acc4, vs4, (sm2.trans sm3).trans sm4, ie2.trans ie4, rp4, rs4, q4⟩
    rcases yl x H3 y with ⟨rfl, rd⟩ | ⟨pp, ws, ds, rfl, rfl, hp, rfl, rds⟩
    · exact done (Same.refl _) rp2 (RD.mono sm2 rd)
    · obtain ⟨g1, g2, g3⟩ := rp2.growF (o := .tup ws) hp
      exact done g2 g1 (RD.tup (SqT.of upd_same) (RDs.mono (sm2.trans g2) rds))
  · left
    have ei : i = xs.length := by omega
    subst ei
    refine ⟨s2 (Nat.le_refl _), ?_⟩
    rw [List.drop_eq_nil_of_le (Nat.le_refl _)] at q2
    unfold compGo at q2
    exact q2 F2 ι2 H2 vs (Same.refl _) IExt.refl rp2 rs2
theorem comp2_exc {C : Cxt} {env : Slots} : ∀ (xs acc : List D) (S : Sto) (e : Xn) (S' : Sto), compGo2 vs1 t s1 t1 c f C env xs acc S ≠ .exc e S' := by
  intro xs
  induction xs with
  | nil => intro acc S e S' z; unfold compGo2 at z; cases z
  | cons x xs ih =>
    intro acc S e S' z
    unfold compGo2 at z
    repeat' split at z
    all_goals first | (exact ih _ _ _ _ z) | cases z
theorem comp2_read {K : PySem.W.Frag} {LR : LRT} {C : Cxt} {W : WX} {σ : L2.St} {H : Hp} {Q : VK} (hl : LMono LR) (hat : ∀ i, i ∈ Tg.at t → i ∈ own.map (·.2)) (hat1 : ∀ i, i ∈ Tg.at t1 → i ∈ vs1) (q : tE K g LR C W (eComp2 (own.map (·.2)) vs1 s t s1 t1 c f) σ H Q) :
    tLc2 (tI K g LR C W s) (tG K g LR t) tYes (tI K g LR C (fun _ _ _ _ => False) s1) (tG K g LR t1) (tC? K g LR C c) (tE K g LR C (fun _ _ _ _ => False) (fz f)) (own.map (·.2)) vs1 σ H Q := by
  obtain ⟨env, F, R, ι, S, re, rp, p⟩ := q
  have p : PostE K g LR (fun c d H => W c d σ H) F R ι S ((srcV s C env S).bind fun xs S1 => (compGo2 vs1 t s1 t1 c f C (wipeE (own.map (·.2)) env) xs [] S1).bind fun ys S2 => .ok (.new ys) S2) Q := p
  refine ⟨env, F, R, ι, S, re, rp, post_src p fun xs S1 F1 ι1 H1 J sm ie rp1 sk p1 => ?_⟩
  intro Dd hD
  have rD : R Dd = none := rp1.rH.free hD
  have re1 := REnv.ext hl sm ie re
  have p2 : PostC K g F1 R ι1 S1 Dd (compGo2 vs1 t s1 t1 c f C (wipeE (own.map (·.2)) env) xs [] S1) (fun H' => Q (.ref Dd) H') := by
    cases hk : compGo2 vs1 t s1 t1 c f C (wipeE (own.map (·.2)) env) xs [] S1 with
    | bad => rw [hk] at p1; exact p1
    | exc e S' => exact absurd hk (comp2_exc _ _ _ _ _)
    | ok ys S2 =>
      rw [hk] at p1
      intro F' ι' H' ws sm' ie' rp' rs'
      obtain ⟨b1, b2, b3, b4⟩ := rp'.disown rD
      exact p1 F' ι' H' _ sm' ie' b1 ⟨Dd, ws, rfl, b2, rs', b3, rD, b4⟩
  refine ⟨CompW K g LR F1 R ι1 S1 Dd (fun H' => Q (.ref Dd) H') (compGo2 vs1 t s1 t1 c f C (wipeE (own.map (·.2)) env)) xs, ⟨_, rfl, Nat.zero_le _, F1, ι1, S1, [], [], Same.refl _, IExt.refl, rp1.own hD, .nil, p2⟩, ?_⟩
  rintro i m H2 ⟨em, hi, F2, ι2, S2, acc, vs, sm2, ie2, rp2, rs2, q2⟩
  obtain ⟨sk1, sk2⟩ := sk i H2 (sm2.trans rp2.fH)
  by_cases hlt : i < xs.length
  · right
    obtain ⟨d, hd, hdrop⟩ := lt_get hlt
    obtain ⟨go, yl⟩ := sk1 d hd
    rw [hdrop] at q2
    refine ⟨go, fun H' => CompW K g LR F1 R ι1 S1 Dd (fun H' => Q (.ref Dd) H') (compGo2 vs1 t s1 t1 c f C (wipeE (own.map (·.2)) env)) xs (i + 1) (xs.length - (i + 1)) H', fun H' h' => ⟨xs.length - (i + 1), by omega, h'⟩, fun x H3 y => ?_⟩
    have done : ∀ {F3 : Hp} {H3 : Hp}, Same F2 F3 → Rep K g F3 (upd R Dd (.lst vs)) ι2 S2 H3 → RD K g.gc F3 x d → tG K g LR t x (L2.wipe σ (own.map (·.2))) H3 fun σ2 H2 => L2.wipe σ2 (own.map (·.2)) = L2.wipe σ (own.map (·.2)) ∧ tYes σ2 H2 fun b H3 =>
        if b = true then tI K g LR C (fun _ _ _ _ => False) s1 σ2 H3 fun J1 H4 => ∃ W1 : Nat → Nat → Hp → Prop, (∃ m, W1 0 m H4) ∧ ∀ j k H, W1 j k H →
          (J1.stop j H ∧ CompW K g LR F1 R ι1 S1 Dd (fun H' => Q (.ref Dd) H') (compGo2 vs1 t s1 t1 c f C (wipeE (own.map (·.2)) env)) xs (i + 1) (xs.length - (i + 1)) H) ∨ (J1.go j H ∧ ∃ Nx1 : Hp → Prop, (∀ H', Nx1 H' → ∃ k', k' < k ∧ W1 (j + 1) k' H') ∧ ∀ x H', J1.yld j H x H' → tG K g LR t1 x (L2.wipe σ2 vs1) H' fun σ3 H5 => L2.wipe σ3 vs1 = L2.wipe σ2 vs1 ∧ tC? K g LR C c σ3 H5 fun b H6 =>
            if b = true then tE K g LR C (fun _ _ _ _ => False) (fz f) σ3 H6 fun y H7 => ∃ acc, H7 Dd = some (.lst acc) ∧ acc.length < sizeLine ∧ Nx1 (upd H7 Dd (.lst (acc ++ [y]))) else Nx1 H6)
        else CompW K g LR F1 R ι1 S1 Dd (fun H' => Q (.ref Dd) H') (compGo2 vs1 t s1 t1 c f C (wipeE (own.map (·.2)) env)) xs (i + 1) (xs.length - (i + 1)) H3 := by
      intro F3 H3 sm3 rp3 rd
      have re3 := REnv.wipe (REnv.ext hl (sm2.trans sm3) ie2 re1) (own.map (·.2))
      refine ⟨wipeE (own.map (·.2)) env, F3, _, ι2, S2, d, re3, rp3, rd, ?_⟩
      have q3 := PostC.up sm3 IExt.refl q2
      unfold compGo2 at q3
      cases hb : tgV t d (wipeE (own.map (·.2)) env) with
      | none => rw [hb] at q3; exact q3
      | some env1 =>
        rw [hb] at q3
        dsimp only at q3
        intro σ' re4 only
        refine ⟨OnlyAt.wipe (only.mono hat), ?_⟩
        simp only [tYes, if_true]
        refine ⟨env1, F3, _, ι2, S2, re4, rp3, ?_⟩
        cases hs : srcV s1 C env1 S2 with
        | bad => rw [hs] at q3; exact q3
        | exc e S' => rw [hs] at q3; exact q3.elim
        | ok ys S4 =>
          rw [hs] at q3
          dsimp only at q3
          intro F4 ι4 H4 J1 sm4 ie4 rp4 sk4
          have q4 := PostC.up sm4 ie4 q3
          refine comp_loop hl hat1 (REnv.wipe (REnv.ext hl sm4 ie4 re4) vs1) rp4 (RDs.mono sm4 (RDs.mono sm3 rs2)) sk4 ?_
          cases hk : compGo t1 c f C (wipeE vs1 env1) ys acc S4 with
          | bad => rw [hk] at q4; exact q4
          | exc e S' => rw [hk] at q4; exact q4.elim
          | ok acc' S5 =>
            rw [hk] at q4
            dsimp only at q4
            exact fun F5 ι5 H5 ws5 sm5 ie5 rp5 rs5 => ⟨rfl, hlt, F5, ι5, S5, acc', ws5, (((sm2.trans sm3).trans sm4).trans sm5), ((ie2.trans ie4).trans ie5), rp5, rs5, PostC.up sm5 ie5 q4⟩
    rcases yl x H3 y with ⟨rfl, rd⟩ | ⟨pp, ws, ds, rfl, rfl, hp, rfl, rds⟩
    · exact done (Same.refl _) rp2 (RD.mono sm2 rd)
    · obtain ⟨g1, g2, g3⟩ := rp2.growF (o := .tup ws) hp
      exact done g2 g1 (RD.tup (SqT.of upd_same) (RDs.mono (sm2.trans g2) rds))
  · left
    have ei : i = xs.length := by omega
    subst ei
    refine ⟨sk2 (Nat.le_refl _), ?_⟩
    rw [List.drop_eq_nil_of_le (Nat.le_refl _)] at q2
    unfold compGo2 at q2
    exact q2 F2 ι2 H2 vs (Same.refl _) IExt.refl rp2 rs2
/-- [elt for tg in iter for tg1 in iter1 if ..] -/
theorem fe_comp2 (hi : FI g N sc tg iter s) (hb : blkC N sc scope own = true) (hv : ∀ i ∈ vs1, i ∈ own.map (·.2)) (hg : FG g N (relS scope sc) (blkFn scope) tg t) (hi1 : FI g N (relS scope sc) tg1 iter1 s1) (hg1 : FG g N (relS scope sc) (blkFn scope) tg1 t1) (hc : FC g N (relS scope sc) ifs c) (he : FE g N (relS scope sc) elt f)
    (hat : ∀ i, i ∈ Tg.at t → i ∈ own.map (·.2)) (hat1 : ∀ i, i ∈ Tg.at t1 → i ∈ vs1) : FE g N sc (.ListComp elt [⟨tg, iter, [], 0⟩, ⟨tg1, iter1, ifs, 0⟩] scope pos) (eComp2 (own.map (·.2)) vs1 s t s1 t1 c f) := by
  refine fe_of (fun LR C X W ok tk => ?_) (fun _ _ => rfl) (fun _ _ => rfl)
  refine PE.imp (pe_lc2 ok.calm (by rw [ok.hN]; exact ok.nd) (hi.pi LR C X W ok tk) (blkOk_by (by rw [ok.hN, ok.sc]; exact hb)) hv (fun s H Ca cl fp => hg.pg LR C _ (ok.blk s H Ca cl fp) fun _ h => h) (fun s H Ca cl fp => pts_nil) (fun s H Ca cl fp => hi1.pi LR C _ _ (ok.blk s H Ca cl fp) takesF) (fun s H Ca cl fp => hg1.pg LR C _ (ok.blk s H Ca cl fp) fun _ h => h) (fun s H Ca cl fp => fc_of hc (ok.blk s H Ca cl fp)) (fun s H Ca cl fp => he.fz (ok.blk s H Ca cl fp) takesF) (hi.fold _) (hi1.fold)) fun σ H Q q => comp2_read ok.lm hat hat1 q

/-! ### name = [..] -/
theorem set_readC {K : PySem.W.Frag} {LR : LRT} {C : Cxt} {W : WX} {σ : L2.St} {H : Hp} {De : Ends} {i : Nat} (hl : LMono LR) (q : tS K g LR C W (sSet i f) De σ H) : tE K g LR C W f σ H fun x H1 => De.nx (σ.set i (some x)) H1 := by
  obtain ⟨env, F, R, ι, S, re, rp, p⟩ := q
  refine ⟨env, F, R, ι, S, re, rp, post_fz hl (post_out p fun v S1 F1 ι1 H1 x hr sm ie rp1 rt p1 => ?_)⟩
  exact p1 F1 ι1 _ H1 (Same.refl _) IExt.refl rp1 (REnv.set (REnv.ext hl sm ie re) i (fz_rv hr rt)) (by rw [List.length_set])
theorem box_readC {K : PySem.W.Frag} {LR : LRT} {C : Cxt} {W : WX} {σ : L2.St} {H : Hp} {De : Ends} {i : Nat} (hl : LMono LR) (q : tS K g LR C W (sBox i f) De σ H) : tE K g LR C W f σ H fun x H1 => De.nx (σ.set i (some x)) H1 := by
  obtain ⟨env, F, R, ι, S, re, rp, p⟩ := q
  refine ⟨env, F, R, ι, S, re, rp, post_out p fun v S1 F1 ι1 H1 x hr sm ie rp1 rt p1 => ?_⟩
  cases v with
  | new xs =>
    obtain ⟨ι2, ie2, rp2, rv2⟩ := rt_boxed rp1 rt
    exact p1 F1 ι2 _ H1 (Same.refl _) ie2 rp2 (REnv.set (REnv.ext hl (Same.refl _) ie2 (REnv.ext hl sm ie re)) i rv2) (by rw [List.length_set])
  | _ => exact p1.elim
def setB (b : Bool) : Nat → EF → SF := if b then sBox else sSet
theorem fs_setC {y : Str} (b : Bool) (i : Nat) (hN : N[i]? = some y) (hy : sc.names.lookup y = some .local) (hsw : ∀ env : PySem.Env, env.scope = sc → swapsWith (.ListComp elt [⟨tg, iter, ifs, 0⟩] scope pos) (some (.Name y py)) spos.line env = pure true)
    (hi : FI g N sc tg iter s) (hb : blkC N sc scope own = true) (hg : FG g N (relS scope sc) (blkFn scope) tg t) (hc : FC g N (relS scope sc) ifs c) (he : FE g N (relS scope sc) elt f) (hat : ∀ i, i ∈ Tg.at t → i ∈ own.map (·.2)) :
    FS g N sc (.Assign [.Name y py] (.ListComp elt [⟨tg, iter, ifs, 0⟩] scope pos) spos) (setB b i (eComp (own.map (·.2)) s t c f)) := by
  refine ⟨fun LR C X W ok xs tk => PS.imp (ps_setLc (g := tG X.K g LR t) (tt := tC? X.K g LR C c) (te := tE X.K g LR C (fun _ _ _ _ => False) (fz f)) ok.calm (by rw [ok.hN]; exact ok.nd) (by rw [ok.hN]; exact hN) (by rw [ok.sc]; exact hy) (hsw _ ok.sc) (hi.pi LR C X W ok tk) (blkOk_by (by rw [ok.hN, ok.sc]; exact hb)) (fun s H Ca cl fp => hg.pg LR C _ (ok.blk s H Ca cl fp) fun _ h => h) (fun s H Ca cl fp => fc_of hc (ok.blk s H Ca cl fp)) (fun s H Ca cl fp => he.fz (ok.blk s H Ca cl fp) takesF) (hi.fold _)) fun De σ H q => ?_⟩
  cases b with
  | false => exact comp_read ok.lm hat (set_readC ok.lm q)
  | true => exact comp_read ok.lm hat (box_readC ok.lm q)
end
end PyS
end

section
set_option Elab.async false
set_option linter.all false
set_option maxRecDepth 100000
set_option
        maxHeartbeats 4000000
/-! PSnd15: [::-1], isinstance. -/
namespace PyS
open PySem PySem.Spec PyProof.Rows L2 Py

/-! ### t[::-1] -/
section
variable
        {prog : Program} {w : World} {A : Around} {E : Value → Shared → Prop} {s : Shared}
theorem places_rev (n : Nat) : Builtin.Slice.slicePlaces ((n : Int) - 1) (-1) (-1) = n := by
  unfold
          Builtin.Slice.slicePlaces
  rw [if_neg (by decide)]
  by_cases h :
          (n : Int) - 1 > -1
  · rw [if_pos h, show (-(-1 : Int)) = 1 by decide, Int.ediv_one]
    omega
  · rw [if_neg h]
    omega
theorem applied_rev {sl : Addr} {vl vu vs : Value} {n : Nat} {Q : Int × Int × Nat → Shared → Prop} (hs : s.heap.IsSliceOf sl vl vu vs) (pl : IsPart vl none) (pu : IsPart vu none) (ps : IsPart vs (some (-1)))
    (h : Q ((n : Int) - 1, -1, n) s) : wpAny (model prog w) A (Builtin.Slice.sliceApplied (.ref sl) (pure (n : Int))) Q E s := by
  obtain ⟨os,
          hos, hcs, hds⟩ := id hs
  unfold
          Builtin.Slice.sliceApplied Builtin.Slice.sliceFields
  refine wpAny_bind (wpAny_bind (wpAny_field hos hds (x := vl) rfl (wpAny_bind (wpAny_field hos hds (x := vu) rfl (wpAny_bind (wpAny_field hos hds (x := vs) rfl (wpAny_pure ?_)))))))
  refine wpAny_bind (HT.slicePart_ ps ?_)
  show wpAny _ _ (if ((-1 : Int) == 0) = true then _ else _) _ _ s
  rw [if_neg (by decide)]
  refine wpAny_bind (HT.slicePart_ pl (wpAny_bind (HT.slicePart_ pu (wpAny_bind (wpAny_pure ?_)))))
  show wpAny _ _ (pure ((n : Int) - 1, (-1 : Int), Builtin.Slice.slicePlaces ((n : Int) - 1) (-1) (-1))) _ _ s
  rw [places_rev]
  exact wpAny_pure h
theorem fmap_congr {α β : Type} {f h : α → Option β} : ∀ {l : List α}, (∀ x ∈ l, f x = h x) → l.filterMap f = l.filterMap h
  | [], _ => rfl
  | a :: l, e => by
    rw [List.filterMap_cons, List.filterMap_cons, e a List.mem_cons_self, fmap_congr fun x hx => e x (List.mem_cons_of_mem _ hx)]
theorem pick_back (xs : Array Value) : ((List.range xs.size).filterMap fun (m : Nat) => xs[((xs.size : Int) - 1 + (m : Int) * (-1)).toNat]?).toArray = xs.toList.reverse.toArray := by
  have h1 : ((List.range xs.size).map fun (m : Nat) => xs.size - 1 - m).filterMap (xs[·]?) = xs.toList.reverse := by
    rw [PySem.W.krv_range, List.filterMap_reverse, PySem.W.krv_all]
  rw [← h1, List.filterMap_map]
  congr 1
  refine fmap_congr fun m hm => ?_
  have := List.mem_range.mp hm
  show xs[((xs.size : Int) - 1 + (m : Int) * (-1)).toNat]? = xs[xs.size - 1 - m]?
  rw [show ((xs.size : Int) - 1 + (m : Int) * (-1)).toNat = xs.size - 1 - m by omega]
theorem getItem_tuple_back {t sl : Addr} {items : Array Value} {vl vu vs : Value} {Q : Value → Shared → Prop} (ht : IsTup s.heap t items) (hs : s.heap.IsSliceOf sl vl vu vs) (pl : IsPart vl none) (pu : IsPart vu none) (ps : IsPart vs (some (-1)))
    (h : Q (.ref s.heap.objs.size) { s with heap := s.heap.push { cls := .type "tuple", data := .seq items.toList.reverse.toArray } }) (hsz : items.size ≤ sizeLine) : wpAny (model prog w) A (getItem (.ref t) (.ref sl)) Q E s := by
  have hok : sizeOk (.seq items.toList.reverse.toArray) := by
    show items.toList.reverse.toArray.size ≤ sizeLine
    rw [List.size_toArray, List.length_reverse, Array.length_toList]
    exact hsz
  obtain ⟨os,
          hos, hcs, hds⟩ := id hs
  have hTs :
          s.TypeIs (.ref sl) "slice" := ⟨os, hos, hcs⟩
  unfold getItem
  try with_reducible
          refine wpAny_holding ?_
  first
          | refine wpAny_bind (wpAny_pure ?_) | skip
  refine
          wpAny_bind (wpAny_sequenceKey ht.typeIs (by decide) ?_)
  refine wpAny_bind (wpAny_callSpecial?_slot (name :=
          Str.ofString "__getitem__") ht.typeIs PyProof.Rows.slot_tuple_getitem
    (wpAny_call_entry
            PyProof.Rows.slot_tuple_getitem ht.typeIs entry_tuple_getitem ?_ (args_tuple_getitem _ _)))
  show
          wpAny _ _ (Builtin.Tuple.tupleItemsOf (.ref t) >>= _) _ _ s
  refine
          wpAny_bind (tupleItemsOf_ ht ?_)
  refine
          wpAny_bind (wpAny_typeOf hTs ?_)
  rw [if_pos (by decide)]
  refine wpAny_bind (applied_rev hs pl pu ps ?_)
  have hno : ¬ ((((items.size : Int) - 1) == 0 && (-1 : Int) == 1 && items.size == items.size) = true) := by
    intro q
    rw [Bool.and_eq_true,
            Bool.and_eq_true] at q
    exact absurd q.1.2 (by decide)
  show wpAny _ _ (if (((items.size : Int) - 1) == 0 && (-1 : Int) == 1 && items.size == items.size) = true then _ else _) _ _ s
  rw [if_neg hno, pick_back]
  first
    | exact wpAny_bind (m := Builtin.Tuple.tupleExact _) (wpAny_newObj_type (wpAny_pure ⟨_, rfl, wpAny_pure h⟩) hok)
    | exact wpAny_bind (m := Builtin.Tuple.tupleExact _) (wpAny_newObj_type (wpAny_bind (wpAny_pure (wpAny_pure ⟨_, rfl, wpAny_pure h⟩))) hok)
    | exact wpAny_bind (wpAny_bind (m := Builtin.Tuple.tupleExact _) (wpAny_newObj_type (wpAny_pure (wpAny_pure ⟨_, rfl, wpAny_pure h⟩)) hok))
    | exact wpAny_bind (wpAny_bind (m := Builtin.Tuple.tupleExact _) (wpAny_newObj_type (wpAny_pure ⟨_, rfl, wpAny_pure h⟩) hok))
end
section
variable {X : Cx} {pos : Pos}
def tRevS (K : PySem.W.Frag) (te : TE) : TE := fun σ H Q => te σ H fun x H1 => ∃ a xs, x = .ref a ∧ ((SqL K H1 a xs ∧ ∀ p, H1 p = none → Q (.ref p) (upd H1 p (.lst xs.reverse))) ∨ (SqT K H1 a xs ∧ ∀ p, H1 p = none → Q (.ref p) (upd H1 p (.tup xs.reverse))))
theorem pe_revS {e : Expr} {te : TE} {k : Nat} {p1 p2 p3 pos : Pos} (he : PE X e te) : PE X (.Subscript e (.Slice none none (some (.UnaryOp .USub (.Constant (.int 1) k p1) p2)) p3) pos) (tRevS X.K te) := by
  refine ⟨fun pins s σ H Q I h =>
          ?_⟩
  refine Subscript_ (thn (he.run pins s σ H _ I h) fun v s1 ⟨x,
          H1, I1, r1, q1⟩ => ?_)
  obtain ⟨a, xs, rfl, q⟩ := q1
  cases r1
  have hst :
          PO X (some (.UnaryOp .USub (.Constant (.int 1) k p1) p2)) (tPart (tUn (rU fun i => .int (-i)) (tC (.int 1)))) := po_some (pe_un un_neg pe_int)
  refine wpAny_Slice (thn (po_none.run pins s1 σ H1 (fun o H2 =>
          o = none ∧ H2 = H1) I1 ⟨rfl, rfl⟩) fun vl s2 ⟨l, H2, I2, pl, el, e2⟩ => ?_)
  subst el e2
  refine thn (po_none.run pins s2 σ H2 (fun o H3 =>
          o = none ∧ H3 = H2) I2 ⟨rfl, rfl⟩) fun vu s3 ⟨u, H3, I3, pu, eu, e3⟩ => ?_
  subst eu e3
  refine thn (hst.run pins s3 σ H3 (fun o H4 =>
          o = some (-1) ∧ H4 = H3) I3 ⟨1, rfl, -1, rfl, rfl, rfl⟩) fun vs s4 ⟨o, H4, I4, ps, eo, e4⟩ => ?_
  subst eo e4
  have I5 :
          Inv X pins σ H4 { s4 with heap := s4.heap.push { cls := .type "slice", data := .fields #[vl, vu, vs] } } := I4.kept (t' := s4.toks) fun b ob q => Heap.get?_push_of_some _ q
  show
          wpAny (model X.prog X.w) X.A (subscriptTail e (.Slice none none (some (.UnaryOp .USub (.Constant (.int 1) k p1) p2)) p3) (.ref a) (.ref s4.heap.objs.size)) (EP X pins σ Q) X.xe { s4 with heap := s4.heap.push { cls := .type "slice", data := .fields #[vl, vu, vs] } }
  rcases q with ⟨hx, q⟩ | ⟨hx, q⟩
  · obtain ⟨its, r, ht, hz⟩ := I5.list hx
    have hlen := r.length
    refine tail_any (ops :=
            [.ref a, .ref s4.heap.objs.size]) ht.isList.typeIs (PySem.slot_list_getitem.lookup) ?_ (by with_unfolding_all rfl)
    refine
            wpAny_getItem_list_slice ht.isList (Heap.IsSliceOf.new _ vl vu vs) pl pu ps (by decide) ?_ (by rw [List.size_toArray]; omega)
    rw [PySem.W.krv_pick]
    exact ⟨.ref _, _, I5.laid (t' := s4.toks) (o := .lst xs.reverse) (fun b ob q => Heap.get?_push_of_some _ q) (Nat.le_refl _) ⟨by rw [List.length_reverse]; exact hz, _, 0, r.reverse, Heap.get?_push_size _ rfl⟩, rfl, q _ (I5.hok.fresh (Nat.le_refl _))⟩
  · obtain ⟨its, r, ht, hz⟩ := I5.tuple hx
    have hlen := r.length
    refine tail_any (ops := [.ref a, .ref s4.heap.objs.size]) ht.typeIs (PyProof.Rows.slot_tuple_getitem.lookup) ?_ (by with_unfolding_all rfl)
    refine getItem_tuple_back ht (Heap.IsSliceOf.new _ vl vu vs) pl pu ps ?_ (by rw [List.size_toArray]; omega)
    exact ⟨.ref _, _, I5.laid (t' := s4.toks) (o := .tup xs.reverse) (fun b ob q => Heap.get?_push_of_some _ q) (Nat.le_refl _) ⟨by rw [List.length_reverse]; exact hz, _, r.reverse, IsTup.new _ _⟩, rfl, q _ (I5.hok.fresh (Nat.le_refl _))⟩
end
section
variable {g : Stat} {N : List Str} {sc : Scope} {e1 : Expr} {f1 : EF} {pos : Pos}
theorem fe_rev {k : Nat} {p1 p2 p3 : Pos} (h1 : FE g N sc e1 f1) : FE g N sc (.Subscript e1 (.Slice none none (some (.UnaryOp .USub (.Constant (.int 1) k p1) p2)) p3) pos) (eRev f1) := by
  refine fe_of (fun LR C X W ok tk => ?_) (fun _ _ => rfl) (fun _ _ => rfl)
  refine PE.imp (pe_revS (h1.fz ok tk)) fun σ H Q q => ?_
  obtain ⟨env, F, R, ι, S, re, rp, p⟩ := q
  refine ⟨env, F, R, ι, S, re, rp, post_bind p fun v S1 F1 ι1 H1 x hr sm ie rp1 rv p1 => ?_⟩
  split at p1
  · rename_i xs ea
    obtain ⟨q, vs, rfl, h1, r1⟩ := unbox_lst rp1 rv ea
    exact ⟨q, vs, rfl, .inl ⟨SqL.of h1, fun q hq => post_new p1 rp1 r1.reverse q hq⟩⟩
  · rename_i xs ea
    obtain ⟨q, vs, rfl, h1, r1⟩ := unbox_tup rp1 rv ea
    exact ⟨q, vs, rfl, .inr ⟨h1, fun q hq => post_tup p1 rp1 r1.reverse q hq⟩⟩
  · exact p1.elim

/-! ### isinstance -/
def kdV (gc : Nat → Addr) : Kd → Value
  | .non => .type "NoneType"
  | .bl => .type "bool"
  | .int => .type "int"
  | .str => .type "str"
  | .tup => .type "tuple"
  | .lst => .type "list"
  | .ins c => .ref (gc c)
def tyVal (gc : Nat → Addr) : Ty → Value
  | .int => .type "int"
  | .bool => .type "bool"
  | .str => .type "str"
  | .list => .type "list"
  | .tuple => .type "tuple"
  | .cls c => .ref (gc c)
def tyVv (gc : Nat → Addr) : Ty → V
  | .int => .ty "int"
  | .bool => .ty "bool"
  | .str => .ty "str"
  | .list => .ty "list"
  | .tuple => .ty "tuple"
  | .cls c => .ref (gc c)
theorem clsV_of (gc : Nat → Addr) : ∀ t : Ty, ClsV (tyVv gc t) (tyVal gc t)
  | .int => .ty _
  | .bool => .ty _
  | .str => .ty _
  | .list => .ty _
  | .tuple => .ty _
  | .cls _ => .own _
theorem clsVs_of (gc : Nat → Addr) : ∀ ts : List Ty, Paired ClsV (ts.map (tyVv gc)) (ts.map (tyVal gc))
  | [] => .nil
  | t :: ts => .cons (clsV_of gc t) (clsVs_of gc ts)
/-- an own class, as isinstance reads it -/
structure InsK (K : PySem.W.Frag) (C : Addr) : Prop where
  cl : Cls K C
  ha :
          PySem.W.findIn K (.ref C) "__class__" = some (some (.builtin "object.__class__"))
  hn :
          PySem.W.specialIn K (.builtin "object.__class__") "__get__" = some (some (.builtin "getset_descriptor.__get__"))
  htk :
          PySem.W.takesIn K (.builtin "object.__class__") = some true
  hm :
          PySem.W.mroIn K C (.type "object") = some true
/-- a class by name -/
inductive FTy (g : Stat) (sc : Scope) : Expr → Ty → Prop
  | bi {x : Str} {t : Ty} {T : String} {p : Pos} : sc.names.lookup x = some .globalImplicit → (∀ K mg, g.M K mg → mg x = none) → bootBuiltins x = some (.type T) → tyVal g.gc t = .type T → x ≠ "__name__" → (x == ("__debug__" : Str)) = false → tyVv g.gc t = .ty T → FTy g sc (.Name x p) t
  | own {x : Str} {c : Nat} {p : Pos} : sc.names.lookup x = some .globalImplicit → (∀ K mg, g.M K mg → mg x = some (.ref (g.gc c))) → (x == ("__debug__" : Str)) = false → FTy g sc (.Name x p) (.cls c)
inductive FTys (g : Stat) (sc : Scope) : List Expr → List Ty → Prop
  | nil : FTys g sc [] []
  | cons {e : Expr} {t : Ty} {es : List Expr} {ts : List Ty} : FTy g sc e t → FTys g sc es ts → FTys g sc (e :: es) (t :: ts)
theorem fty_pe {e : Expr} {t : Ty} (h : FTy g sc e t) {LR : LRT} {C : Cxt} {X : Cx} (ok : XOk g LR C N sc X) : PE X e (tC (tyVv g.gc t)) ∧ ∀ es env, starEach (e :: es) env = (false, eval e env) :: starEach es env := by
  cases h with
  | bi hg hm hb h1 hn hd h2 =>
    rw [h2]
    exact ⟨pe_bltn (show X.env.scope.names.lookup _ = _ by rw [ok.sc]; exact hg) (hm _ _ ok.facts) hb rfl hn hd, fun _ _ => rfl⟩
  | own hg hm hd => exact ⟨pe_glob (show X.env.scope.names.lookup _ = _ by rw [ok.sc]; exact hg) (hm _ _ ok.facts) rfl hd, fun _ _ => rfl⟩
def tConsts (vs : List V) : TA := fun _ H Q => Q vs H
theorem ftys_pa {es : List Expr} {ts : List Ty} (h : FTys g sc es ts) {LR : LRT} {C : Cxt} {X : Cx} (ok : XOk g LR C N sc X) : PA X es (tConsts (ts.map (tyVv g.gc))) := by
  induction h with
  | nil => exact PA.imp pa_nil fun σ H Q q => q
  | cons h1 _ ih => exact PA.imp (pa_cons (fty_pe h1 ok).1 ih ((fty_pe h1 ok).2 _ _)) fun σ H Q q => q
/-- the answers that the law's text gives -/
def IsAns (g : Stat) (cs : List Nat) (ts : List Ty) : Prop := ∀ K mg, g.M K mg → (∀ c ∈ cs, InsK K (g.gc c)) ∧ ∀ k, kdOk cs k = true → PySem.W.kitAny K (kdV g.gc k) (ts.map (tyVal g.gc)) = some (isTys ts k)
theorem ty_of {K : PySem.W.Frag} {LR : LRT} {F R H : Hp} {ι : Nat → Addr} {S : Sto} {v : Vl} {x : V} {d : D} {cs : List Nat} (hi : ∀ c ∈ cs, InsK K (g.gc c)) (rp : Rep K g F R ι S H) (rv : RV K g.gc LR F ι S.length x v) (e : v.unbox S = .d d) (hk : kdOk cs (kdOf d) = true) : TyX K H x (kdV g.gc (kdOf d)) := by
  rcases unbox_d rv rp e with q | ⟨p, vs, xs, rfl, rfl, h1, _⟩
  · cases q with
    | non => exact .base .non
    | bl b => exact .base (.bl b)
    | int i => exact .base (.int i)
    | str y => exact .base (.str y)
    | tup h _ =>
      rcases sqT_mono rp.fH h with (h | ⟨o, h⟩) | ⟨o, its, n, h1, h2, _⟩
      · exact .base (.tup h)
      · exact .fTuple h
      · exact .kTuple h1 h2
    | lst h _ => exact .base (.lst (rp.fH _ _ h))
    | @ins a dx c ws fs h _ =>
      have z := hi c (by simpa [kdOk, kdOf] using hk)
      exact .base (.ins (rp.fH _ _ h) z.cl z.ha z.hn z.htk z.hm)
  · exact .base (.lst h1)
theorem kitAny_one {K : PySem.W.Frag} {t u : Value} {b : Bool} (h : PySem.W.kitAny K t [u] = some b) : PySem.W.kitOne K t u = some b := by
  unfold PySem.W.kitAny at h
  split at h
  · rename_i q; rw [q]; exact h
  · rename_i q; rw [q]; exact h
  · cases h
theorem fe_isInst1 {x2 : Expr} {t : Ty} {cs : List Nat} {p1 : Pos} (h1 : FE g N sc e1 f1) (h2 : FTy g sc x2 t) (ha : IsAns g cs [t]) (hg : sc.names.lookup ("isinstance" : Str) = some .globalImplicit) (hm : ∀ K mg, g.M K mg → mg "isinstance" = none) :
    FE g N sc (.Call (.Name "isinstance" p1) [e1, x2] [] pos) (eIsInst cs [t] f1) := by
  refine fe_of (fun LR C X W ok tk => ?_) (fun _ _ => rfl) (fun _ _ => rfl)
  obtain ⟨a1, a2⟩ := ha _ _ ok.facts
  have hpl : (backTo pos (starEach [x2] X.env)).any (·.1) = false := by rw [(fty_pe h2 ok).2 [] X.env] <;> rfl
  refine PE.imp (pe_callB call_isi (show X.env.scope.names.lookup ("isinstance" : Str) = _ by rw [ok.sc]; exact hg) (hm _ _ ok.facts) (by decide +kernel) (pa_cons (h1.fz ok tk) (pa_cons (fty_pe h2 ok).1 pa_nil ((fty_pe h2 ok).2 _ _)) (h1.st _ _)) (by decide) (by decide) (h1.st _ _) hpl) fun σ H Q q => ?_
  obtain ⟨env, F, R, ι, S, re, rp, p⟩ := q
  refine ⟨env, F, R, ι, S, re, rp, post_bind p fun v S1 F1 ι1 H1 x hr sm ie rp1 rv p1 => ?_⟩
  split at p1
  · rename_i d ed
    split at p1
    · rename_i hk
      exact ⟨x, _, _, _, _, rfl, clsV_of _ _, ty_of a1 rp1 rv ed hk, kitAny_one (a2 _ hk), post_d p1 rp1 (.bl _)⟩
    · exact p1.elim
  · exact p1.elim
theorem fe_isInst {es : List Expr} {ts : List Ty} {cs : List Nat} {p1 p2 : Pos} {k : Nat} (h1 : FE g N sc e1 f1) (h2 : FTys g sc es ts) (ha : IsAns g cs ts) (hz : ts.length ≤ 10) (hg : sc.names.lookup ("isinstance" : Str) = some .globalImplicit) (hm : ∀ K mg, g.M K mg → mg "isinstance" = none) :
    FE g N sc (.Call (.Name "isinstance" p1) [e1, .Tuple es k p2] [] pos) (eIsInst cs ts f1) := by
  refine fe_of (fun LR C X W ok tk => ?_) (fun _ _ => rfl) (fun _ _ => rfl)
  obtain ⟨a1, a2⟩ := ha _ _ ok.facts
  refine PE.imp (pe_callB call_isiT (show X.env.scope.names.lookup ("isinstance" : Str) = _ by rw [ok.sc]; exact hg) (hm _ _ ok.facts) (by decide +kernel) (pa_cons (h1.fz ok tk) (pa_cons (pe_tup (ftys_pa h2 ok)) pa_nil rfl) (h1.st _ _)) (by decide) (by decide) (h1.st _ _) rfl) fun σ H Q q => ?_
  obtain ⟨env, F, R, ι, S, re, rp, p⟩ := q
  refine ⟨env, F, R, ι, S, re, rp, post_bind p fun v S1 F1 ι1 H1 x hr sm ie rp1 rv p1 => ?_⟩
  refine ⟨by rw [List.length_map, sizeLine_eq]; omega, fun q hq => ?_⟩
  split at p1
  · rename_i d ed
    split at p1
    · rename_i hk
      have r2 := rp1.grow (o := .tup (ts.map (tyVv g.gc))) hq
      exact ⟨x, q, _, _, _, _, rfl, upd_same, clsVs_of _ _, ty_of a1 r2 rv ed hk, a2 _ hk, post_d p1 r2 (.bl _)⟩
    · exact p1.elim
  · exact p1.elim
end
end PyS
end

section
set_option Elab.async false
set_option linter.all false
set_option maxRecDepth 100000
set_option
        maxHeartbeats 4000000
/-! PSnd16: set, sorted. -/
namespace PyS
open PySem PySem.Spec PyProof.Rows L2 Py

/-- a new empty set -/
abbrev setO (w : World) : Obj := { cls := .type "set", dict := none, data := .set #[] 0 (.fresh 0 0 (!w.params.followText "set-order")) }
section
variable
        {P : Program} {w : World} {A : Around} {E : Value → Shared → Prop} {s : Shared}
set_option
        maxHeartbeats 3200000 in
/-- set(xs) of a list of ints -/
theorem set_listI {l : Addr} {its : Array Value} (ns : List Int) {Q : Value → Shared → Prop} (hh : A.handled = none) (hl : s.heap.IsList l its) (hi : IntsAre its.toList ns) (hb : ns.length + 1 < scanBound)
    (h :
            ∀ (h' : Heap) (tk c : Nat), SetR w h' s.heap.objs.size (fun j => decide (j ∈ ns)) c → c ≤ ns.length → (∀ b o, s.heap.get? b = some o → h'.get? b = some o) → Q (.ref s.heap.objs.size) { s with heap := h', toks := tk }) :
    wpAny (model P w) A (call (.type "set") [.ref l]) Q E s :=
            by
  have sz : its.size = ns.length := by
    have q := IntsAre.length hi
    rwa [Array.length_toList] at q
  obtain ⟨c,
          tl, hmro⟩ := F.called_set.mro
  have made := F.called_set.made
  have sub := F.called_set.sub
  refine
          wpAny_call (codeAny_of_tree ?_)
  show
          wpAny _ _ (callAny (.type "set") _) _ _ _
  refine wpAny_pure ⟨Code.quiet_builtin _ (by decide +kernel),
          codeAny_builtin F.entry_type_call ?_⟩
  rw [Around.under_plain
          (weight_type_call_type "set" [.ref l] []) rfl]
  have h1 :=
          F.called_set.notType
  have h2 :=
          F.called_set.canCreate
  have hct :=
          F.typeCall_set_1 (.ref l)
  repeat
          (any_goals (first | assumption | wp_step))

  refine codeAny_mono (code_set_led1 (.ref l) (E := E) (Q₁ := fun obj s₁ => obj = .ref s.heap.objs.size ∧ s₁ = { s with heap := s.heap.push (setO w) }) ⟨rfl, rfl⟩) fun r s₁ hr => ?_
  cases r with
  | error e => exact hr
  | ok fl =>
    cases fl with
    | ret obj =>
      obtain ⟨rfl, rfl⟩ := hr
      have hS : (s.heap.push (setO w)).get? s.heap.objs.size = some (setO w) := Heap.get?_push_size _ rfl
      have hT : Shared.TypeIs { s with heap := s.heap.push (setO w) } (.ref s.heap.objs.size) "set" := ⟨_, hS, rfl⟩
      have li := F.called_set.init.lookup
      have bi := F.called_set.init.bind (.ref s.heap.objs.size)
      repeat
              (any_goals (first | assumption | wp_step))

      refine codeAny_mono (codeAny_call_builtin (R := wants (fun r s₂ => r = .none ∧ ∃ h' tk c, s₂ = { s with heap := h', toks := tk } ∧ SetR w h' s.heap.objs.size (fun j => decide (j ∈ ns)) c ∧ c ≤ ns.length ∧ (∀ b o, s.heap.get? b = some o → h'.get? b = some o)) E) F.called_set.init.plain F.entry_set_init (check_set_init_1 hT ?_)) fun r₂ s₂ hr₂ => ?_
      · obtain ⟨⟨ocls, odict, odata, oslots⟩, hol, hcl, nl, hdl⟩ := hl
        simp only at hcl hdl
        subst hcl; subst hdl
        have hol' : (s.heap.push (setO w)).get? l = some { cls := .type "list", dict := odict, data := .seq its nl, slots := oslots } := Heap.get?_push_of_some _ hol
        have a1 := F.sub_list_set
        have a2 := F.sub_list_frozenset
        have a3 : (Value.type "list" == Value.type "dict") = false := by decide
        have hl1 : (s.heap.push (setO w)).IsList l its := ⟨_, hol', rfl, nl, rfl⟩
        unfold
                Builtin.«set.__init__» noKeywords Builtin.Frozenset.updateFrom
        generalize hPI : pyIter = PI
        wp_walk
        subst hPI

        refine
                wpAny_pyIter_list hl1 ?_
        refine
                wpAny_bind (wpAny_runValue ?_)
        have lS : l < s.heap.objs.size := Heap.lt_size hol
        have h3 : A.in1.in1.in1.handled = none := by simp [hh]
        have lI : l ≠ (s.heap.push (setO w)).objs.size := by
          rw [Heap.size_push]; exact Nat.ne_of_lt (Nat.lt_succ_of_lt lS)
        have Sf : s.heap.objs.size ∉ [(s.heap.push (setO w)).objs.size, l] := by
          rw [Heap.size_push]
          intro z
          rcases (show s.heap.objs.size = s.heap.objs.size + 1 ∨ s.heap.objs.size = l by simpa using z) with z | z
          · exact absurd z (Nat.ne_of_lt (Nat.lt_succ_self _))
          · exact absurd z.symm (Nat.ne_of_lt lS)
        have val : ∀ (i : Nat) (v : Value), its[i]? = some v → ∃ k t, ns[i]? = some k ∧ v = .int k t := fun i v hv => by
          have hlt : i < ns.length := by rw [← sz]; exact (Array.getElem?_eq_some_iff.mp hv).1
          obtain ⟨t, e⟩ := PyProof.Rows.IntsAre.int_at hi i v (by rw [Array.getElem?_toList]; exact hv)
          refine ⟨ns[i], t, List.getElem?_eq_getElem hlt, ?_⟩
          rw [e, List.getD_eq_getElem?_getD, List.getElem?_eq_getElem hlt] <;> rfl
        refine set_update_ints ((Walks.list h3 _ l lI its).toS) s.heap.objs.size Sf ns sz hb val (its.size - 0) 0 _ (by omega) (Nat.zero_le _) ⟨⟨_, Heap.get?_push_size _ rfl, rfl, rfl⟩, (hl1.push _)⟩ ?s0 ?sR
        case s0 => exact ⟨0, Nat.le_refl 0, setR_new_at (Heap.get?_push_of_some _ hS)⟩
        case sR =>
          intro s' c' hm hc' hS'
          obtain ⟨h',
                  g2, d', tk', os'⟩ := s'
          have eg :
                  g2 = s.gens := hm.gens
          have ed :
                  d' = s.drawn := hm.drawn
          have eo : os' = s.os := hm.os
          subst eg ed eo
          show wpAny _ _ _ _ _ _
          refine wpAny_pure ?_
          show
                  wpAny _ _ (ret Value.none) _ _ _
          rw [sz] at hc'
          refine wpAny_pure ⟨rfl,
                  h', tk', c', rfl, hS', hc', fun b o e => ?_⟩
          have b0 : b < s.heap.objs.size := Heap.lt_size e
          refine hm.heap b o (fun z => ?_) (Heap.get?_push_of_some _ (Heap.get?_push_of_some _ e))
          rw [Heap.size_push] at z
          rcases (show b = s.heap.objs.size ∨ b = s.heap.objs.size + 1 by simpa using z) with z | z
          · exact absurd z (Nat.ne_of_lt b0)
          · exact absurd z (Nat.ne_of_lt (Nat.lt_succ_of_lt b0))

      · cases r₂ with
        | error e => exact hr₂
        | ok fl₂ =>
          cases fl₂ with
          | ret r =>
            obtain ⟨rfl,
                    h', tk, c', rfl, hS', hc', hk'⟩ := hr₂
            repeat
                    (any_goals (first | assumption | wp_step))
            exact h _ _ _ hS' hc' hk'
          | _ => exact hr₂.elim
    | _ => exact hr.elim
end

/-! ### how many there are -/
theorem first_mem : ∀ (l seen : List Int) (k : Int), k ∈ Py.firstMet seen l ↔ k ∈ l ∧ k ∉ seen
  | [], seen, k => by simp [Py.firstMet]
  | i :: r, seen, k => by
    unfold Py.firstMet
    by_cases h : seen.contains i = true
    · rw [if_pos h, first_mem r seen k]
      have h' : i ∈ seen := by simpa using h
      constructor
      · exact fun q => ⟨List.mem_cons_of_mem _ q.1, q.2⟩
      · rintro ⟨q, n⟩
        rcases List.mem_cons.mp
                q with e | q
        · exact absurd (e ▸ h') n
        · exact ⟨q, n⟩
    · rw [if_neg h, List.mem_cons, first_mem r (i :: seen) k]
      have h' : i ∉ seen := by simpa using h
      constructor
      · rintro (e | ⟨q, n⟩)
        · rw [e]; exact ⟨List.mem_cons_self, h'⟩
        · exact ⟨List.mem_cons_of_mem _ q, fun z => n (List.mem_cons_of_mem _ z)⟩
      · rintro ⟨q, n⟩
        by_cases e : k = i
        · exact .inl e
        · exact .inr ⟨(List.mem_cons.mp q).resolve_left e, fun z => (List.mem_cons.mp z).elim e n⟩
theorem first_nodup : ∀ (l seen : List Int), (Py.firstMet seen l).Nodup
  | [], _ => List.nodup_nil
  | i :: r, seen => by
    unfold Py.firstMet
    by_cases h : seen.contains i = true
    · rw [if_pos h]; exact first_nodup r seen
    · rw [if_neg h]
      exact List.nodup_cons.mpr ⟨fun z => ((first_mem r (i :: seen) i).mp z).2 List.mem_cons_self, first_nodup r (i :: seen)⟩
theorem setR_count {w : World} {h : Heap} {a : Addr} {ns : List Int} {c : Nat} (R : SetR w h a (fun j => decide (j ∈ ns)) c) : c = (Py.firstMet [] ns).length := by
  obtain ⟨o, es, ep, t, _, _, _, _, nd, hm, _, _, hn, _⟩ := R
  have pm : (es.toList.map keyOf).Perm (Py.firstMet [] ns) := (List.perm_ext_iff_of_nodup nd (first_nodup ns [])).mpr fun k => by
    rw [← hm k, first_mem]
    simp
  have q := pm.length_eq
  rw [List.length_map, Array.length_toList, hn] at q
  exact q
section
variable {X : Cx} {e : Expr} {ta : TA} {p p2 q pos : Pos}
def SqLT (K : PySem.W.Frag) (H : Hp) (a : Addr) (xs : List V) : Prop := SqL K H a xs ∨ SqT K H a xs
/-- set(e) as an argument -/
theorem set_arg {pins : List (Addr × Obj)} {s : Shared} {σ : L2.St} {H : Hp} {E : Value → Shared → Prop} {Q : Value → Shared → Prop} (hc : X.calm = true) (I : Inv X pins σ H s) {a : Addr} {ns : List Int} (hq : SqLT X.K H a (ns.map V.int)) (hl : ns.length ≤ 1000)
    (h : ∀ (h' : Heap) (tk : Nat), SetR X.w h' s.heap.objs.size (fun j => decide (j ∈ ns)) (Py.firstMet [] ns).length → (∀ b o, s.heap.get? b = some o → h'.get? b = some o) → Q (.ref s.heap.objs.size) { s with heap := h', toks := tk }) :
    wpAny (model X.prog X.w) X.A (call (.type "set") [.ref a]) Q E s := by
  rcases hq with hq | hq
  · obtain ⟨its, rv, pt, hz⟩ := I.list hq
    exact set_listI ns (I.ok.hd hc) pt.isList (by simpa using ints_of_vals rv) (by unfold scanBound; omega) fun h' tk c R _ k => by
      have z := setR_count R
      subst z
      exact h h' tk R k
  · obtain ⟨its, rv, pt, hz⟩ := I.tuple hq
    exact call_set_tupI ns (I.ok.hd hc) (show s.heap.IsTuple a its.toArray from pt) (by simpa using ints_of_vals rv) (by unfold scanBound; omega) fun h' tk c R _ k => by
      have z := setR_count R
      subst z
      exact h h' tk R k
def tSetA (K : PySem.W.Frag) (ta : TA) (m : Nat) (k : List Int → Hp → VK → Prop) : TE := fun σ H Q => ta σ H fun vs H1 => ∃ (l : Addr) (ns : List Int), vs = [.ref l] ∧ SqLT K H1 l (ns.map V.int) ∧ ns.length ≤ m ∧ k ns H1 Q
theorem pe_lenSetS (hg : Gl X "len") (hm : X.mg "len" = none) (hg2 : Gl X "set") (hm2 : X.mg "set" = none) (ha : PA X [e] ta) (hc : X.calm = true) (na : starEach [e] X.env = [(false, eval e X.env)]) :
    PE X (.Call (.Name "len" p) [.Call (.Name "set" p2) [e] [] q] [] pos) (tSetA X.K ta 1000 fun ns H Q => Q (.int (Py.firstMet [] ns).length) H) := by
  refine ⟨fun pins s σ H Q I h =>
          ?_⟩
  refine
          Call_ (ld_blt I hg hm boot_len ?_)
  refine
          PyProof.Rows.callWith_builtin1 (PyProof.Rows.args_cons ?_ rfl) rfl rfl
  refine
          Call_ (ld_blt I hg2 hm2 boot_set ?_)
  refine PyProof.Rows.callWith_type1 (thn (ha.run q pins s σ H _ I h) fun us s1 ⟨vs, H1, I1, r1, l, ns, ev, hq, hl, q1⟩ => ?_) na rfl
  subst ev
  cases r1 with
  | cons r rr =>
    cases rr
    cases r
    refine set_arg hc I1 hq hl fun h' tk R k => PyProof.Rows.args_nil ?_
    obtain ⟨o, es, ep, t, ho, hex, hd, _, _, _, hb, hf, hn, _⟩ := R
    have I2 : Inv X pins σ H1 { s1 with heap := h', toks := tk } := I1.kept k
    exact call_len_set ho hex hd hf (by unfold scanBound at hb; omega) ⟨.int (Py.firstMet [] ns).length, H1, I2.tok _, ⟨_, by rw [hn]⟩, q1⟩
theorem pe_sortedSetS (hg : Gl X "sorted") (hm : X.mg "sorted" = none) (hg2 : Gl X "set") (hm2 : X.mg "set" = none) (ha : PA X [e] ta) (hc : X.calm = true) (na : starEach [e] X.env = [(false, eval e X.env)]) :
    PE X (.Call (.Name "sorted" p) [.Call (.Name "set" p2) [e] [] q] [] pos) (tSetA X.K ta 60 fun ns H Q => ∀ p, H p = none → Q (.ref p) (upd H p (.lst ((Py.sortInts (Py.firstMet [] ns)).map V.int)))) := by
  refine ⟨fun pins s σ H Q I h =>
          ?_⟩
  refine Call_ (ld_blt I hg hm PyProof.Rows.boot_sorted ?_)
  refine
          PyProof.Rows.callWith_builtin1 (PyProof.Rows.args_cons ?_ rfl) rfl rfl
  refine
          Call_ (ld_blt I hg2 hm2 boot_set ?_)
  refine PyProof.Rows.callWith_type1 (thn (ha.run q pins s σ H _ I h) fun us s1 ⟨vs, H1, I1, r1, l, ns, ev, hq, hl, q1⟩ => ?_) na rfl
  subst ev
  cases r1 with
  | cons r rr =>
    cases rr
    cases r
    refine set_arg hc I1 hq (by omega) fun h' tk R k => PyProof.Rows.args_nil ?_
    have I2 : Inv X pins σ H1 { s1 with heap := h', toks := tk } := I1.kept k
    have hlen : (Py.firstMet [] ns).length ≤ ns.length := by
      have sub : ∀ (l seen : List Int), (Py.firstMet seen l).length ≤ l.length := by
        intro l
        induction l with
        | nil => intro seen; exact Nat.le_refl _
        | cons i r ih =>
          intro seen
          unfold Py.firstMet
          split
          · exact Nat.le_succ_of_le (ih seen)
          · exact Nat.succ_le_succ (ih (i :: seen))
      exact sub ns []
    refine sorted_set (s := { s1 with heap := h', toks := tk }) R (I1.ok.hd hc) (by omega) fun s' a out c ms k2 hg2 ho2 hle hget hi hp hm2 hl2 => ?_
    have e : ms = Py.sortInts (Py.firstMet [] ns) := by
      refine sorted_one ?_ (hp.imp fun h => Int.le_of_lt h) (sortInts_sorted _)
      refine List.Perm.trans ((List.perm_ext_iff_of_nodup (hp.imp fun h z => by omega) (first_nodup ns [])).mpr fun j => ?_) (sortInts_perm _).symm
      rw [hm2 j, first_mem]
      simp
    subst e
    have hn : H1 a = none := I1.hok.fresh (Nat.le_trans (Nat.le_of_lt (Nat.lt_of_not_le fun z => by
      have z2 := R.lt
      have z3 := Nat.lt_of_lt_of_le z2 hle
      exact absurd z (Nat.not_le_of_lt z3))) (Nat.le_refl _))
    have le2 : ((Py.sortInts (Py.firstMet [] ns)).map V.int).length ≤ sizeLine := by rw [List.length_map, hl2, sizeLine_eq]; omega
    have J : Inv X pins σ (upd H1 a (.lst ((Py.sortInts (Py.firstMet [] ns)).map V.int))) s' :=
      I2.call' (ch := []) ho2 (Un.laid k2 hle hn) (I2.hok.laid k2 hle ⟨le2, out.toList, c, vals_of_ints hi, hget⟩) (by rw [hg2]; exact I2.bare) (fun _ z => nomatch z)
    exact ⟨.ref a, _, J, rfl, q1 a hn⟩
/-- sorted(e), a list or a tuple of ints -/
theorem cr_sortedLT : CallR X (.builtin "sorted") (fun vs H Q => ∃ (a : Addr) (ns : List Int), vs = [V.ref a] ∧ SqLT X.K H a (ns.map V.int) ∧ ∀ p : Addr, H p = none → Q (.ref p) (upd H p (.lst ((Py.sortInts ns).map V.int)))) := by
  intro pins
          s σ H vs us Q I r h
  obtain ⟨a,
          ns, rfl, hs, q⟩ := h
  rcases hs with hs | hs
  · refine cr_sortedI pins s σ H _ us Q I r ⟨a, ns, rfl, hs, fun ns' p h1 h2 hp => ?_⟩
    have e : ns' = Py.sortInts ns := sorted_one (h1.trans (sortInts_perm ns).symm) h2 (sortInts_sorted ns)
    rw [e]
    exact q p hp
  · obtain ⟨its, rv, hl, hz⟩ := I.tuple hs
    rw [Vals.ref1 r]
    have hi := rv.ints
    refine sorted_tupI hl (by rw [← rv.length]; exact hz) hi fun out h1 h2 => ?_
    obtain ⟨k1,
            k2, k3⟩ := SrtO.ints_out hi h1 h2
    obtain ⟨ep,
            he'⟩ := PyProof.Rows.sortedAll_at s.heap its out.toArray
    have e : out.map SrtO.iv = Py.sortInts ns := sorted_one (k2.trans (sortInts_perm ns).symm) k3 (sortInts_sorted ns)
    have hlen :
            ((out.map SrtO.iv).map V.int).length ≤ sizeLine := by
      rw [List.length_map,
              k2.length_eq]
      rw [List.length_map] at hz
      exact hz
    have q2 := q (s.heap.objs.size + 1) (I.hok.fresh (Nat.le_succ _))
    rw [← e] at q2
    exact ⟨.ref _, _, I.laid (t' := s.toks) (o := .lst ((out.map SrtO.iv).map V.int)) (fun _ _ => PyProof.Rows.sortedAll_old) (Nat.le_succ _) ⟨hlen, out, ep, vals_of_ints k1, he'⟩, rfl, q2⟩
end
section
variable {g : Stat} {N : List Str} {sc : Scope} {e1 : Expr} {f1 : EF} {pos p1 p2 q1 : Pos}
theorem seqLT {K : PySem.W.Frag} {LR : LRT} {F R H : Hp} {ι : Nat → Addr} {S : Sto} {x : V} {v : Vl} {is : List Int} (rp : Rep K g F R ι S H) (rv : RV K g.gc LR F ι S.length x v) (h : (seqOf v S).bind intsOf = some is) : ∃ a, x = .ref a ∧ SqLT K H a (is.map V.int) := by
  cases hq : seqOf v S with
  | none =>
          rw [hq] at h; cases h
  | some xs =>
    rw [hq] at h
    obtain ⟨q, ys, rfl, rds, st, sl⟩ := seq_at rp rv hq
    have ey := ints_rd rds h
    subst ey
    exact ⟨q, rfl, by first | exact st | exact st.elim .inl .inr⟩
theorem bi_sorted : BiOk .sorted (.builtin "sorted") := by
  intro X g LR hc pins s σ H vs us Q I r h
  obtain ⟨w, F, R, ι, S, ws, rv, rp, p⟩ := h
  unfold biV at p
  split at p <;> try (exact p.elim)
  all_goals (rename_i hb; try (cases hb))
  split at p
  · rename_i is hx
    obtain ⟨x, rfl, rx⟩ := pair1 rv
    obtain ⟨a, rfl, hs⟩ := seqLT rp rx hx
    exact cr_sortedLT pins s σ H _ us Q I r ⟨a, is, rfl, hs, fun q hq => post_new p rp (rds_ints _) q hq⟩
  · exact p.elim
theorem fe_lenSet (h1 : FE g N sc e1 f1) (hg : sc.names.lookup ("len" : Str) = some .globalImplicit) (hm : ∀ K mg, g.M K mg → mg "len" = none) (hg2 : sc.names.lookup ("set" : Str) = some .globalImplicit) (hm2 : ∀ K mg, g.M K mg → mg "set" = none) :
    FE g N sc (.Call (.Name "len" p1) [.Call (.Name "set" p2) [e1] [] q1] [] pos) (eBi .lenSet [f1]) := by
  refine fe_of (fun LR C X W ok tk => ?_) (fun _ _ => rfl) (fun _ _ => rfl)
  refine PE.imp (pe_lenSetS (show X.env.scope.names.lookup ("len" : Str) = _ by rw [ok.sc]; exact hg) (hm _ _ ok.facts) (show X.env.scope.names.lookup ("set" : Str) = _ by rw [ok.sc]; exact hg2) (hm2 _ _ ok.facts) (fa_of (.cons h1 .nil) ok tk) ok.calm (h1.st _ _)) fun σ H Q q => ?_
  refine args_of (k := fun _ vs S1 => biV .lenSet vs S1) q (fun env F R ι S vs ws H1 re rp r p => ?_) ok.lm
  unfold biV at p
  split at p <;> try (exact p.elim)
  all_goals (rename_i hb; try (cases hb))
  split at p
  · rename_i is hx
    split at p
    · rename_i hz
      obtain ⟨x, rfl, rx⟩ := pair1 r
      obtain ⟨a, rfl, hs⟩ := seqLT rp rx hx
      exact ⟨a, is, rfl, hs, hz, post_d p rp (.int _)⟩
    · exact p.elim
  · exact p.elim
theorem fe_sortedSet (h1 : FE g N sc e1 f1) (hg : sc.names.lookup ("sorted" : Str) = some .globalImplicit) (hm : ∀ K mg, g.M K mg → mg "sorted" = none) (hg2 : sc.names.lookup ("set" : Str) = some .globalImplicit) (hm2 : ∀ K mg, g.M K mg → mg "set" = none) :
    FE g N sc (.Call (.Name "sorted" p1) [.Call (.Name "set" p2) [e1] [] q1] [] pos) (eBi .sortedSet [f1]) := by
  refine fe_of (fun LR C X W ok tk => ?_) (fun _ _ => rfl) (fun _ _ => rfl)
  refine PE.imp (pe_sortedSetS (show X.env.scope.names.lookup ("sorted" : Str) = _ by rw [ok.sc]; exact hg) (hm _ _ ok.facts) (show X.env.scope.names.lookup ("set" : Str) = _ by rw [ok.sc]; exact hg2) (hm2 _ _ ok.facts) (fa_of (.cons h1 .nil) ok tk) ok.calm (h1.st _ _)) fun σ H Q q => ?_
  refine args_of (k := fun _ vs S1 => biV .sortedSet vs S1) q (fun env F R ι S vs ws H1 re rp r p => ?_) ok.lm
  unfold biV at p
  split at p <;> try (exact p.elim)
  all_goals (rename_i hb; try (cases hb))
  split at p
  · rename_i is hx
    split at p
    · rename_i hz
      obtain ⟨x, rfl, rx⟩ := pair1 r
      obtain ⟨a, rfl, hs⟩ := seqLT rp rx hx
      exact ⟨a, is, rfl, hs, hz, fun q hq => post_new p rp (rds_ints _) q hq⟩
    · exact p.elim
  · exact p.elim
end
end PyS
end

section
set_option Elab.async false
set_option linter.all false
set_option maxRecDepth 100000
set_option
        maxHeartbeats 4000000
/-! PSnd17: instances made, own ==. -/
namespace PyS
open PySem PySem.Spec PyProof.Rows L2 Py

section
variable {g : Stat} {N : List Str} {sc : Scope} {e1 e2 : Expr} {f1 f2 : EF} {pos p1 : Pos}
/-- what == asks of a law's text -/
structure EqK (g : Stat) (cs : List Nat) (m : Nat → Option Nat) : Prop where
  lt : ∀ c q, m c = some q → q < g.nf ∧ (g.ps q).length = 2
  ok : ∀ K mg, g.M K mg → (∀ c ∈ cs, InsK K (g.gc c)) ∧ ∀ c q, m c = some q → PySem.W.findIn K (.ref (g.gc c)) "__eq__" = some (some (.ref (g.fa q))) ∧ PySem.W.isFn K (.ref (g.fa q)) = true ∧ Binds K (g.fd q) (g.ps q) [] ∧ ∀ k, kdOk cs k = true → PySem.W.notFirst K (g.gc c) (kdV g.gc k) = true
def rEqO (K : PySem.W.Frag) (g : Stat) (LR : LRT) (C : Cxt) (cs : List Nat) (m : Nat → Option Nat) : R2 := fun x y H Q => ∃ F R ι S c fs d q b S3, RD K g.gc F x (.ins c fs) ∧ RD K g.gc F y d ∧ c ∈ cs ∧ kdOk cs (kdOf d) = true ∧ m c = some q ∧ Rep K g F R ι S H ∧ C.call q [.d (.ins c fs), .d d] S = .ok (.d (.bl b)) S3 ∧ PostE K g LR (fun _ _ _ => False) F R ι S (.ok (.d (.bl b)) S3) Q
theorem op_eqOwn {cs : List Nat} {m : Nat → Option Nat} {LR : LRT} {C : Cxt} {X : Cx} (ek : EqK g cs m) (ok : XOk g LR C N sc X) : OpR X (compareOp .Eq) (rEqO X.K g LR C cs m) := by
  intro pins
          s σ H x y v u Q I rx ry h
  obtain ⟨F, R, ι, S, c, fs, d, q, b, S3, rd, rd2, hc, hk, hm, rp, hcall, p⟩ := h
  obtain ⟨k, hr, fok⟩ := ok.room
  obtain ⟨i1, i2⟩ := ek.ok _ _ ok.facts
  obtain ⟨m1, m2, m3, m4⟩ := i2 c q hm
  have ty : TyX X.K H y (kdV g.gc (kdOf d)) := ty_of (LR := LR) (ι := ι) (S := S) (v := .d d) i1 rp rd2 rfl hk
  obtain ⟨Pk, Z, pk, _⟩ := kit_of I ry ty
  have rdx := rd
  cases rd with
  | @ins a dx c ws fs h1 h2 =>
    cases rx
    obtain ⟨mA, J, _⟩ := ins_get I.hok (rp.fH _ _ h1)
    obtain ⟨od, J, _⟩ := J.look
    obtain ⟨mm, hF⟩ := I.fr
    refine PySem.W.cmp_K (op := .Eq) (tb := kdV g.gc (kdOf d)) hr.units0 hF I.ok.mod.kin J (Z.ty _ _ I.kIn pk) (m4 _ hk) m1 m2 ?_
    refine wpAny_mono (run_fnS (vs := [V.ref a, y]) (E := fun _ _ _ _ => False) (Q := fun v H' => v = .bl b ∧ Q (.bl b) H') (fok q (ek.lt c q hm).1) (hr.mono (by omega)) m3 (passAt (W := fun _ _ _ _ => False) takesF σ) I (.cons (show RelV (V.ref a) (Value.ref a) from rfl) (.cons ry .nil)) ?_) (fun r s' z => ?_) fun _ _ z => z
    · have h2' : PostF X.K g F R ι S (C.call q [.d (.ins c fs), .d d] S) (fun v H' => v = .bl b ∧ Q (.bl b) H') (fun _ _ _ => False) := by
        rw [hcall]
        intro F' ι' H' z sm ie r rv
        have rv : RD X.K g.gc F' z (.bl b) := rv
        cases rv
        exact ⟨rfl, p F' ι' H' _ sm ie r (RD.bl b)⟩
      exact ⟨(ek.lt c q hm).2.symm, F, R, ι, S, [.d (.ins c fs), .d d], .cons rdx (.cons rd2 .nil), rp, h2'⟩
    · obtain ⟨z, H', I', rz, ez, q'⟩ := z
      subst ez
      cases rz
      exact ⟨.bl b, H', I', rfl, q'⟩
theorem eqO_of {cs : List Nat} {m : Nat → Option Nat} {K : PySem.W.Frag} {LR : LRT} {C : Cxt} {W : WX} {σ : L2.St} {H : Hp} {Q : VK} (hl : LMono LR) (q : tE K g LR C W (eEqOwn cs m f1 f2) σ H Q) : tE K g LR C W (fz f1) σ H fun x H1 => tE K g LR C W (fz f2) σ H1 fun y H2 => rEqO K g LR C cs m x y H2 Q := by
  obtain ⟨env, F, R, ι, S, re, rp, p⟩ := q
  refine ⟨env, F, R, ι, S, re, rp, post_bind p fun a S1 F1 ι1 H1 x hr sm ie rp1 rv p1 => ?_⟩
  refine ⟨env, F1, R, ι1, S1, REnv.ext hl sm ie re, rp1, post_bind p1 fun b S2 F2 ι2 H2 y hr2 sm2 ie2 rp2 ru p2 => ?_⟩
  have rv2 := RV.ext hl sm2 ie2 rv
  split at p2
  · rename_i c fs d
    split at p2
    · rename_i hk
      rw [Bool.and_eq_true] at hk
      split at p2
      · rename_i q hm
        split at p2
        · rename_i r S3 hc
          exact ⟨F2, R, ι2, S2, c, fs, d, q, r, S3, rv2, ru, by simpa [kdOk] using hk.1, hk.2, hm, rp2, hc, p2⟩
        · exact p2.elim
      · exact p2.elim
    · exact p2.elim
  · exact p2.elim
theorem fe_eqOwn {cs : List Nat} {m : Nat → Option Nat} (ek : EqK g cs m) (h1 : FE g N sc e1 f1) (h2 : FE g N sc e2 f2) (hm : behindInMarks .Eq e2 = false) : FE g N sc (.Compare e1 [.Eq] [e2] pos) (eEqOwn cs m f1 f2) := by
  refine ⟨fun LR C X W ok tk => ?_, fun LR C X W ok tk => ?_, fun _ _ => rfl⟩
  · exact PE.imp (pe_cmpR (op_eqOwn ek ok) (h1.fz ok tk) (h2.fz ok tk) hm) fun σ H Q q => eqO_of ok.lm q
  · exact PT.imp (pt_cmpR (op_eqOwn ek ok) (h1.fz ok tk) (h2.fz ok tk) hm) fun σ H Q q => eqO_of ok.lm (tT_imp (X := X) q)

/-! ### c(..) -/
theorem Rep.drop {K : PySem.W.Frag} {F R H : Hp} {ι : Nat → Addr} {S : Sto} (h : Rep K g F R ι S H) (n : Nat) : Rep K g F R ι (S.take n) H := by
  have get : ∀ i o, (S.take n)[i]? = some o → S[i]? = some o := fun i o e => by
    rw [List.getElem?_take] at e
    split at e
    · exact e
    · cases e
  exact ⟨h.fH, h.rH, fun i o e => h.box i o (get i o e), fun i j oi oj ei ej => h.inj i j oi oj (get _ _ ei) (get _ _ ej), fun i o e => h.fr i o (get _ _ e), h.dj, h.tabs, h.ntF, h.ntR⟩
structure MkK (g : Stat) (c q : Nat) (x : Str) : Prop where
  lt : q < g.nf
  ok : ∀ K mg, g.M K mg → Mk K (g.gc c) (g.fa q) ∧ mg x = some (.ref (g.gc c)) ∧ Binds K (g.fd q) (g.ps q) []
theorem fe_make {c q : Nat} {x : Str} {e : Expr} {es : List Expr} {f : EF} {fs : List EF} (M : MkK g c q x) (hg : sc.names.lookup x = some .globalImplicit) (ha : FEs g N sc (e :: es) (f :: fs)) (hn : (f :: fs).length + 1 = (g.ps q).length)
    (hdb : (x == ("__debug__" : Str)) = false := by decide) : FE g N sc (.Call (.Name x p1) (e :: es) [] pos) (eMake c q (f :: fs)) := by
  refine fe_of (fun LR C X W ok tk => ?_) (fun _ _ => rfl) (fun _ _ => rfl)
  obtain ⟨k, hr, fok⟩ := ok.room
  obtain ⟨m1, m2, m3⟩ := M.ok _ _ ok.facts
  have hst : starEach (e :: es) X.env = (false, eval e X.env) :: starEach es X.env := by
    cases ha with
    | cons h1 _ => exact h1.st _ _
  have hpl : (backTo pos (starEach es X.env)).any (·.1) = false := by
    cases ha with
    | cons _ h2 => exact noStar h2 _ _
  refine PE.imp (pe_make (E := fun _ _ _ => False) (dvs := []) m1 (fok q M.lt) (hr.mono (by omega)) (show X.env.scope.names.lookup x = _ by rw [ok.sc]; exact hg) m2 m3 .nil (fun pins σ H s e s' I z => passAt (W := fun _ _ _ _ => False) takesF σ pins H s e s' I z) (fa_of ha ok tk) hdb hst hpl) fun σ H Q q' => ?_
  obtain ⟨env, F, R, ι, S, re, rp, p⟩ := q'
  have p : PostE X.K g LR (fun c d H => W c d σ H) F R ι S ((evAll (f :: fs) C env S).bind fun vs S1 => if vs.all argOk then
    match C.call q (.box S1.length :: vs) (S1 ++ [.ins c []]) with
    | .ok (.d .non) S2 => match S2[S1.length]? with
      | some (.ins c' xs) => if c' = c then .ok (.d (.ins c xs)) (S2.take S1.length) else .bad
      | _ => .bad
    | _ => .bad
    else .bad) Q := p
  refine ⟨env, F, R, ι, S, re, rp, ?_⟩
  cases hk : evAll (f :: fs) C env S with
  | bad => rw [hk] at p; exact p
  | exc e S' => rw [hk] at p; exact p
  | ok vs S1 =>
    rw [hk] at p
    have p : PostE X.K g LR (fun c d H => W c d σ H) F R ι S (if vs.all argOk then
      match C.call q (.box S1.length :: vs) (S1 ++ [.ins c []]) with
      | .ok (.d .non) S2 => match S2[S1.length]? with
        | some (.ins c' xs) => if c' = c then .ok (.d (.ins c xs)) (S2.take S1.length) else .bad
        | _ => .bad
      | _ => .bad
      else .bad) Q := p
    intro F1 ι1 H1 ws sm ie rp1 r1
    split at p
    · rename_i hall
      split at p
      · rename_i S2 hc
        split at p
        · rename_i c' xs hs2
          split at p
          · rename_i hcc
            subst hcc
            intro a dx ha hdx hne
            -- the new instance, a box of its own
            have rpa := rp1.grow (o := .own a) hdx
            have ha2 : upd H1 dx (.own a) a = none := by rw [upd_ne (Ne.symm hne)]; exact ha
            have rpb := rpa.grow (o := .ins (g.gc c') dx []) ha2
            have fa : F1 a = none := rp1.fH.free ha
            have ra : R a = none := rp1.rH.free ha
            have nb : ∀ i o, S1[i]? = some o → live o → ι1 i ≠ a := fun i o e hl z => by
              obtain ⟨u, hu, _⟩ := RB.there hl (rp1.box i o e)
              rw [z, ha] at hu
              cases hu
            obtain ⟨ι2, g1, g2, g3⟩ := rpb.boxed (o := .ins c' []) ⟨dx, [], upd_same, .nil⟩ fa ra nb
            refine ⟨?_, F1, R, ι2, S1 ++ [.ins c' []], .box S1.length :: vs, .cons ⟨by simp, by rw [g2]⟩ (pair_ext noLam_mono (Same.refl _) g1 (by rw [List.append_nil]; exact pair_no r1 hall)), g3, ?_⟩
            · rw [List.length_cons, List.append_nil, Paired.length r1, evAll_len hk]
              exact hn
            · rw [hc]
              intro F3 ι3 H3 z sm3 ie3 rp3 rz
              have rz : RD X.K g.gc F3 z .non := rz
              cases rz
              refine ⟨rfl, ?_⟩
              obtain ⟨dx', ws', h1, h2⟩ := rp3.box _ _ hs2
              have e3 : ι3 S1.length = a := by rw [ie3.eq _ (by simp), g2]
              rw [e3] at h1
              obtain ⟨f3, r3⟩ := rp3.fr _ _ hs2 trivial
              rw [e3] at f3 r3
              have len3 : (S1 ++ [Bx.ins c' []]).length ≤ S2.length := ie3.len
              have hlt : S1.length < S2.length := by rw [List.length_append] at len3; exact len3
              have nb3 : ∀ i o, (S2.take S1.length)[i]? = some o → live o → ι3 i ≠ a := fun i o e hl q => by
                rw [List.getElem?_take] at e
                split at e
                · rename_i hi
                  have := rp3.inj i S1.length o _ e hs2 hl trivial (by rw [q, e3])
                  omega
                · cases e
              obtain ⟨rp4, sm4⟩ := (rp3.drop S1.length).freeze h1 f3 r3 nb3
              have ie4 : IExt S ι (S2.take S1.length) ι3 := by
                refine ie.trans ⟨?_, fun i hi => ?_⟩
                · rw [List.length_take]; omega
                · rw [ie3.eq i (by rw [List.length_append]; omega), g1.eq i hi]
              exact p _ ι3 H3 _ ((sm.trans sm3).trans sm4) ie4 rp4 (RD.ins upd_same (RF.mono sm4 h2))
          · exact p.elim
        · exact p.elim
      · exact p.elim
    · exact p.elim
end
end PyS
end

section
set_option Elab.async false
set_option linter.all false
set_option maxRecDepth 100000
set_option
        maxHeartbeats 4000000
/-! PSnd18: own exceptions whose __init__ says super().__init__(x); self.f = x, over a chain that ends in ValueError. -/
namespace PyS
open PySem PySem.Spec PyProof.Rows L2 Py
open PySem.W (ksFn ksEnv ks_superIn kxs_mw)

/-- the text of such an __init__ -/
def exBody (prm fld : Str) (p0 p1 p2 p3 p4 p5 q1 q2 q3 q4 : Pos) : List Stmt :=
  [.Expr (.Call (.Attribute (.Call (.Name "super" p0) [] [] p1) "__init__" p2) [.Name prm p3] [] p4) p5, .Assign [.Attribute (.Name "self" q1) fld q2] (.Name prm q3) q4]
/-- how the call in it is read -/
def ExEq (prm : Str) (p0 p1 p2 p3 p4 : Pos) : Prop := ∃ pl : Sem Bool, ∀ env : Env, eval (.Call (.Attribute (.Call (.Name "super" p0) [] [] p1) "__init__" p2) [.Name prm p3] [] p4) env = (do
  let ov ← attributeBase (.Call (.Name "super" p0) [] [] p1) "__init__" env (eval (.Call (.Name "super" p0) [] [] p1) env)
  standAt p2.atName
  let (f,
          first) ← holding [ov] (getMethod ov "__init__" pl)
  callWith p4 f first (backTo p4 (starEach [.Name prm p3] env)) [])
/-- what the written part says of the class at C and of its __init__ at fI -/
structure ExT (K : PySem.W.Frag) (main : Str) (C fI : Addr) (prm fld : Str) : Prop where
  oc : OexC K C
  noF : PySem.W.findIn K (.ref C) fld = some none
  iC : PySem.W.findIn K (.ref C) "__init__" = some (some (.ref fI))
  tI : PySem.W.typeIn K (.ref fI) = some (.type "function")
  fn : ∃ oc od osl qual params sc dV kV doc pm an cda ct cc p0 p1 p2 p3 p4 p5 q1 q2 q3 q4, K.lookup fI = some ⟨oc, od, .func (ksFn "__init__" qual params (exBody prm fld p0 p1 p2 p3 p4 p5 q1 q2 q3 q4) sc dV kV doc pm an (.ref cda) ct cc), osl⟩ ∧ PySem.W.codeIn K (.ref cda) qual = true ∧
    (∃ ccl cdd vs ccs file tf, K.lookup cda = some ⟨ccl, cdd, .fields vs, ccs⟩ ∧ vs[2]? = some (.str file tf) ∧ (main == file) = true) ∧ (∃ cl cld csl, K.lookup cc = some ⟨cl, cld, .cell (some (.ref C)), csl⟩) ∧
    (∃ ar, (params.posonlyargs ++ params.args).head? = some ar ∧ ar.arg = ("self" : Str)) ∧ sc.kind = .function ∧ sc.isCoroutine = false ∧ sc.isGenerator = false ∧ (∀ x ∈ sc.names, x.2 ≠ .cell) ∧ sc.names.lookup ("super" : Str) = some .globalImplicit ∧ sc.names.lookup ("__class__" : Str) = some .free ∧
    sc.names.lookup ("self" : Str) = some .local ∧ sc.names.lookup prm = some .local ∧ ExEq prm p0 p1 p2 p3 p4 ∧
    (∀ (s : Shared) (us : List Value), us.length = 2 → BindsTo s (ksFn "__init__" qual params (exBody prm fld p0 p1 p2 p3 p4 p5 q1 q2 q3 q4) sc dV kV doc pm an (.ref cda) ct cc) ⟨us, []⟩ (([("self" : Str), prm] : List Str).zip us))
  sup : ks_superIn K C C "__init__" = some (some (.builtin "ValueError.__init__"))
  vE : PySem.W.subIn K (.ref C) (.type "ValueError") = some true
  opq : PySem.W.nsIn K cStatics "thirdparty.any" = some none
  mro : PySem.W.mroIn K C (.ref C) = some true
  np : prm ≠ "self" ∧ (prm == ("__debug__" : Str)) = false

section
variable {prog : Program} {w : World} {A : Around} {E : Value → Shared → Prop} {R : Result → Shared → Prop} {s : Shared} {K : PySem.W.Frag} {mg : Str → Option Value} {C fI : Addr} {prm fld : Str}
/-- the bound ValueError.__init__ called -/
theorem call_mwVE {h : Heap} {g : Array GenState} {d : Drawn} {t : Nat} {os : OsState} {nm q : Str} {N : Addr} {bs bm : List Value} {hdct : Bool} {sn : List Str} {sub : List Value} {ab : Bool} {col : Option Bool} {dd : Option Addr} {k0 k1 k2 k3 k5 : Option Value} {u e t0 : Addr} {rest : List Value} {Q : Value → Shared → Prop}
    (hC : h.get? C = some (excClassObj nm q C N bs bm hdct sn sub ab col dd k0 k1 k2 k3 k5 "ValueError.__new__")) (he : h.get? e = some (PySem.HandSPX.excO C t0)) (hu : h.get? u = some (kxs_mw "ValueError.__init__" e)) (hrest : rest.length ≤ sizeLine)
    (hq : ∀ h' t1, (∀ b o, b ≠ e → h.get? b = some o → h'.get? b = some o) → h'.get? e = some (PySem.HandSPX.excO C t1) → Q .none ⟨h', g, d, t, os⟩) :
    wpAny (model prog w) A (call (.ref u) rest) Q E ⟨h,
            g, d, t, os⟩ := by
  refine
          wpAny_call (codeAny_of_tree ?_)
  show wpAny _ A.in1 (callAny (.ref u) ⟨rest,
          []⟩) _ _ _
  simp only [callAny]
  refine
          wpAny_bind (wpAny_load hu ?_)
  simp only [kxs_mw,
          show (Value.type "method-wrapper" == Value.type "method" || Value.type "method-wrapper" == Value.type "builtin_function_or_method" || Value.type "method-wrapper" == Value.type "method-wrapper") = true by decide, if_true]
  refine
          PySem.W.KFB.if_so (by decide) ?_
  refine wpAny_bind (PySem.W.check_bound_init F.excBase_ValueError.toExcCallFacts hC he rfl ?_)
  refine
          wpAny_bind (wpAny_pure (wpAny_pure ?_))
  refine ⟨plainId_quiet F.excBase_ValueError.init.plain _, codeAny_builtin F.excBase_ValueError.initEntry ?_⟩
  exact PySem.W.exc_init_tree (cls := .ref C) (t0 := t0) (dv := none) (c2 := .none) (c3 := .none) (b4 := .bool false) he hrest fun h' k e' _ => hq h' _ k e'
/-- the walk of __init__ -/
theorem exs_init (T : ExT K prog.main.file C fI prm fld) {x t0 : Addr} {v : Value} (X : K.In s.heap) (G : s.heap.Ns mainGlobals mg) (hmg : mg "super" = none) (B : ∃ mb, s.heap.Ns builtinsNs mb ∧ ∀ x : Str, x ≠ "__name__" → mb x = bootBuiltins x) (htop : (prog.main.scope.names.lookup ("super" : Str)).isSome = false)
    (hlim : s.heap.NoLimit) (hnx : K.lookup x = none) (hx : s.heap.get? x = some (PySem.HandSPX.excO C t0)) (hroom : A.depth < recursionLimit)
    (hq : ∀ h' tk dx t1, (∀ b o, b ≠ x → s.heap.get? b = some o → h'.get? b = some o) → h'.get? x = some ({ cls := .ref C, dict := some dx, data := .fields #[.ref t1, .none, .none, .none, .bool false, .none] } : Obj) → s.heap.objs.size ≤ dx → dx ≠ x →
      h'.Ns1 dx (fun y => if y = fld then some v else none) → R (.ok (.ret .none)) { s with heap := h', toks := tk }) :
    codeAny (model prog w) A (.call (.ref fI) ⟨[.ref x,
            v], []⟩) R s := by
  obtain ⟨oc, od, osl, qual, params, sc, dV, kV, doc, pm, an, cda, ct, cc, p0, p1, p2, p3, p4, p5, q1, q2, q3, q4, ho, hcd, ⟨ccl, cdd, vs, ccs, file, tf, hcode, hvs, hfile⟩, ⟨cl, cld, csl, hcell⟩, ⟨ar, har, hself⟩, hk, hco, hgen, hcells, hks, hkc, hka, hkp, ⟨pl, heq⟩, hbind⟩ := T.fn
  obtain ⟨nm, q, N, bs, bm, sn, sub, ab, col, dd, k0, k1, k2, k3, k5, hC, hbm⟩ := T.oc.cls
  have hcl : PySem.W.clsIn K C = some { name := nm, bases := bs, mro := .ref C :: bm, ns := N, qualname := q, hasDict := true, slotNames := sn, subclasses := sub, abstract := ab, collection := col, hasDel := false } := by unfold PySem.W.clsIn; rw [hC] <;> rfl
  obtain ⟨hp, g, d, t, os⟩ := s
  refine ks_codeAny_call_defAt (fd := ksFn "__init__" qual params (exBody prm fld p0 p1 p2 p3 p4 p5 q1 q2 q3 q4) sc dV kV doc pm an (.ref cda) ct cc) (body := exBody prm fld p0 p1 p2 p3 p4 p5 q1 q2 q3 q4) (binds := [(("self" : Str), .ref x), (prm, v)]) hroom (X _ _ ho) rfl hlim (PySem.W.codeRec_of X hcd) rfl (hbind _ [.ref x, v] rfl) hcells
    (fun y hy => by
      rcases (show y = ((("self" : Str), Value.ref x) : Str × Value) ∨ y = (prm, v) by simpa using hy) with z | z
      · rw [z]; exact hka
      · rw [z]; exact hkp) (fun h₁ hns k => ?_) hco hgen hk
  have hm1 : ([(("self" : Str), Value.ref x), (prm, v)].reverse.lookup ("self" : Str)) = some (.ref x) := by
    have e : (("self" : Str) == prm) = false := by simpa using fun z => T.np.1 z.symm
    simp [List.lookup, e]
  have hm2 : ([(("self" : Str), Value.ref x), (prm, v)].reverse.lookup prm) = some v := by simp [List.lookup]
  have X₁ :
          K.In h₁ := X.keeps k
  have hx₁ := k _ _ hx
  show PySem.wpAt (model prog w) (A.deeper (ksEnv qual sc hp.objs.size fI (.ref cda) cc)) (.func _ (ksEnv qual sc hp.objs.size fI (.ref cda) cc)) (execs _ (ksEnv qual sc hp.objs.size fI (.ref cda) cc)) _ _ _
  have hI : PySem.W.InstAt h₁ x (PySem.HandSPX.excO C t0) C none := ⟨hx₁, rfl, rfl, trivial⟩
  have hin : (interactive (ksEnv qual sc hp.objs.size fI (.ref cda) cc)) = false := by
    show (sc.kind == .module && _) = false
    rw [hk]
    rfl
  refine ks_wpAt_execs_cons (ks_wpAt_Expr_any ?_ hin rfl)
  refine ks_wpAt_MethodCall (pl := pl) ?_ (heq _)
  have hvs' := hvs
  obtain ⟨oD, hD1, hD2⟩ : ∃ oD, h₁.get? C = some oD ∧ oD.data = .cls { name := nm, bases := bs, mro := .ref C :: bm, ns := N, qualname := q, hasDict := true, slotNames := sn, subclasses := sub, abstract := ab, collection := col, hasDel := false } := ⟨_, X₁ _ _ hC, rfl⟩
  refine ks_wpAt_super_base (env := ksEnv qual sc hp.objs.size fI (.ref cda) cc) hks hkc (by decide) rfl (X₁ _ _ ho) rfl har rfl (X₁ _ _ hcode) rfl hvs hfile htop ?_
  obtain ⟨mb, hb1, hb2⟩ := B
  refine PySem.W.ks_loadName_global hk hks (Calls.loadGlobal_builtin (env := ksEnv qual sc hp.objs.size fI (.ref cda) cc) (G.keeps k) hmg (hb1.keeps k) ((hb2 "super" (by decide)).trans (show bootBuiltins "super" = some (.type "super") by decide +kernel)) ⟨rfl, ?_⟩)
  refine wpAny_loadName_free hk hkc rfl ⟨_, X₁ _ _ hcell, rfl⟩ ?_
  rw [hself]
  refine wpAny_loadName_local hk hka hns hm1 ?_
  refine ks_wpAny_isType_cls hD1 hD2 ⟨rfl,
          ?_⟩
  refine ks_wpAny_call_super hD1 hD2 hI.at_ hI.cls (fun c e => by cases e) (PySem.W.looks_mroIn X₁ T.mro) fun h₂ hso k2 => ?_
  -- the bound ValueError.__init__
  have X₂ : K.In h₂ := X₁.keeps k2
  have hI2 : PySem.W.InstAt h₂ x (PySem.HandSPX.excO C t0) C none := ⟨k2 _ _ hx₁, rfl, rfl, trivial⟩
  have hf : PySem.W.alongIn K "__init__" (((Value.ref C :: bm).dropWhile (· != .ref C)).drop 1) = some (some (.builtin "ValueError.__init__")) := by
    have z := T.sup
    unfold ks_superIn at z
    rw [hcl] at z
    exact z
  refine PySem.W.kxs_getMethod PySem.W.kxs_ValueError hso (PySem.W.looks_opaque X₂ T.opq) (l₀ := .ref C :: bm) (fun A Q E s k q => wpAny_bind ((PySem.W.looks_clsIn X₂ hcl) A _ E s k (wpAny_pure q))) rfl X₂ hf (hI2.type.andThen (PySem.W.looks_subIn X₂ T.vE)) (PySem.W.ks_ne X₂ hI2 hcl) (by decide) ?_
  have k3 : ∀ b o, h₂.get? b = some o → (h₂.push (kxs_mw "ValueError.__init__" x)).get? b = some o := fun b o e => Heap.get?_push_of_some _ e
  refine PySem.W.kxs_callWith (i := "ValueError.__init__") (x := x) rfl (Calls.evalArgs_plain (Calls.spliced_cons (wpAny_Name (wpAny_loadName_local hk hkp ((hns.keeps k2).keeps k3) hm2 (Calls.spliced_nil ?_)) T.np.2)))
  refine ⟨Heap.get?_push_size _ rfl, ?_⟩
  refine call_mwVE ((X₂.keeps k3) _ _ hC) (k3 _ _ (k2 _ _ hx₁)) (Heap.get?_push_size _ rfl) (by show 1 ≤ sizeLine; decide) fun h₄ t1 k4 hx4 => ?_
  -- self.f = x
  have kx : ∀ b o, b ≠ x → h₁.get? b = some o → h₄.get? b = some o := fun b o hb e => k4 b o hb (k3 _ _ (k2 _ _ e))
  have nx : hp.objs.size ≠ x := Nat.ne_of_gt (Heap.lt_size hx)
  have ns4 : h₄.Ns hp.objs.size (fun y => [(("self" : Str), Value.ref x), (prm, v)].reverse.lookup y) := by
    obtain ⟨oL, es, ep, hL, r⟩ := hns
    exact ⟨oL, es, ep, kx _ _ nx hL, r⟩
  have X₄ : K.In h₄ := fun a o e => kx a o (fun z => by rw [z, hnx] at e; cases e) (X₁ a o e)
  refine ks_wpAt_execs_cons (wpAt_of_wpAny ?_)
  refine plainObj_wpAny_Assign_Attribute ?_
  refine wpAny_Name (wpAny_loadName_local hk hkp ns4 hm2 ?_) T.np.2
  refine wpAny_Name (wpAny_loadName_local hk hka ns4 hm1 ?_) (by decide)
  refine PySem.W.set_plain X₄ (ox := PySem.HandSPX.excO C t1) (od := none) ⟨hx4, rfl, rfl, trivial⟩ T.oc.sa ?_
  refine PySem.HandSPX.exc_osa X₄ hx4 hcl (show PySem.HandSPX.refsVE (.ref C :: bm) = true from hbm) rfl T.noF (fun h₅ tk₅ dx k5 dn dne hx5 hn5 => ?_)
  have sz : hp.objs.size ≤ h₄.objs.size := by
    obtain ⟨oL, es, ep, hL, r⟩ := ns4
    exact Nat.le_of_lt (Heap.lt_size hL)
  exact wpAt_of_wpAny (wpAny_execs_nil (hq h₅ tk₅ dx t1 (fun b o hb e => k5 b o hb (kx b o hb (k b o e))) hx5 (Nat.le_trans sz dn) dne hn5))
end
theorem relO_one {v : V} {v' : Value} {fld : Str} (r : RelV v v') (f : Str) : RelO (List.lookup f [(fld, v)]) (if f = fld then some v' else none) := by
  by_cases hw : f = fld
  · subst hw
    rw [if_pos rfl]
    have q : List.lookup f [(f, v)] = some v := by simp [List.lookup]
    rw [q]
    exact r
  · rw [if_neg hw]
    have qw : (f == fld) = false := by simpa using hw
    have q2 : List.lookup f [(fld, v)] = none := by simp [List.lookup, qw]
    rw [q2]
    trivial
section
variable {X : Cx} {C fI : Addr} {prm fld : Str}
/-- C(e) -/
def tMkEx (C : Addr) (fld : Str) (ta : TA) : L2.St → Hp → XK → Prop := fun σ H Q => ta σ H fun vs H1 => ∃ v, vs = [v] ∧ ∀ d, H1 d = none → Q (.ref C) (some d) (upd H1 d (.xd [(fld, v)]))
theorem pmk_ex {x : Str} {a : Expr} {ta : TA} {p pos : Pos} {k : Nat} (T : ExT X.K X.prog.main.file C fI prm fld) (htop : (X.prog.main.scope.names.lookup ("super" : Str)).isSome = false) (hsup : X.mg "super" = none) (hm : X.mg x = some (.ref C)) (hr : Room k X.A) (hg : Gl X x) (ha : PA X [a] ta)
    (hdb : (x == ("__debug__" : Str)) = false) (he : starEach (a :: []) X.env = (false, eval a X.env) :: starEach [] X.env) : PMk X (.Call (.Name x p) [a] [] pos) (tMkEx C fld ta) := by
  intro pins s σ H Q I h
  refine
          wpAny_Call_Name_kw (ld_glob I hg hm ?_ hdb)
  refine PySem.W.callWith_K (h₀ := X.base) I.ok.mod.kin T.oc.kC (thn (ha.run pos pins s σ H _ I h) fun us s1 hh => ?_) he rfl
  obtain ⟨vs,
          H1, I1, r1, v, ev, q1⟩ := hh
  subst ev
  refine ⟨I1.kIn, ?_⟩
  cases r1 with
  | cons rv rn =>
    rename_i v' us'
    cases rn
    show
            wpAny _ _ (call (.ref C) [v']) _ _ _
    have hlim := I1.nolimit
    have X1 := I1.kIn
    have G1 : s1.heap.Ns mainGlobals X.mg := I1.ok.mod.glob.keeps I1.bk
    have B1 : ∃ mb, s1.heap.Ns builtinsNs mb ∧ ∀ x : Str, x ≠ "__name__" → mb x = bootBuiltins x := by
      obtain ⟨mb, h1, h2⟩ := I1.ok.mod.blt
      exact ⟨mb, h1.keeps I1.bk, h2⟩
    obtain ⟨nm, q, N, bs, bm, sn, sub, ab, col, dd, k0, k1, k2, k3, k5, hC, hbm⟩ := T.oc.cls
    obtain ⟨hp,
            g, dr, tk, os⟩ := s1
    have kk : ∀ b o, hp.get? b = some o → ((hp.push (PySem.W.kdv_tup [v'])).push (PySem.HandSPX.excO C hp.objs.size)).get? b = some o := fun b o e => Heap.get?_push_of_some _ (Heap.get?_push_of_some _ e)
    have hget : ((hp.push (PySem.W.kdv_tup [v'])).push (PySem.HandSPX.excO C hp.objs.size)).get? (hp.objs.size + 1) = some (PySem.HandSPX.excO C hp.objs.size) := by heap_get
    have hnx : X.K.lookup (hp.objs.size + 1) = none := by
      cases e : X.K.lookup (hp.objs.size + 1) with
      | none => rfl
      | some o =>
        have z : hp.get? (hp.objs.size + 1) = some o := X1 _ _ e
        exact
                absurd (Nat.lt_of_succ_lt (Heap.lt_size z)) (Nat.lt_irrefl _)
    refine wpAny_call (PySem.HandSPX.call_own F.excBase_ValueError (fun Y => PySem.HandSPX.refsVE_contains Y bm hbm) (X1 _ _ hC) (PySem.W.looks_findIn X1 T.iC) (fun self => PySem.W.bind_fn X1 self T.tI) (by show 1 ≤ sizeLine; decide) ?_)
    refine exs_init (s := ⟨(hp.push (PySem.W.kdv_tup [v'])).push (PySem.HandSPX.excO C hp.objs.size), g, dr, tk, os⟩) T (X1.keeps kk) (G1.keeps kk) hsup (by obtain ⟨mb, h1, h2⟩ := B1; exact ⟨mb, h1.keeps kk, h2⟩) htop (hlim.keeps kk) hnx hget (by
      show X.A.depth + 1 < recursionLimit
      have := hr.dp
      omega) fun h' tk' dx t1 k' hx dn dne hns => ?_
    have old : ∀ b o, hp.get? b = some o → h'.get? b = some o := fun b o e => k' b o (Nat.ne_of_lt (Nat.lt_succ_of_lt (Heap.lt_size e))) (kk b o e)
    have z :
            hp.objs.size + 1 + 1 ≤ dx := by
      have q := dn
      rw [Heap.size_push, Heap.size_push] at q
      exact q
    refine ⟨rfl, ?_⟩
    show MkP X pins σ Q (.ref (hp.objs.size + 1)) ⟨h', g, dr, tk', os⟩
    obtain ⟨G', g1, g2⟩ := restrict h' fun b => decide (b ≠ hp.objs.size + 1)
    have gk : ∀ b, b ≠ hp.objs.size + 1 → G'.get? b = h'.get? b := fun b hb => g1 b (decide_eq_true hb)
    have ge : G'.get? (hp.objs.size + 1) = none := g2 _ (by simp)
    have old2 : ∀ b o, hp.get? b = some o → G'.get? b = some o := fun b o q => (gk b (Nat.ne_of_lt (Nat.lt_succ_of_lt (Heap.lt_size q)))).trans (old b o q)
    have ob : ObjOk X.prog X.w (upd H1 dx (.xd [(fld, v)])) G' dx (.xd [(fld, v)]) := ⟨_, hns.at (fun o q => (gk dx dne).trans q), fun f => relO_one rv f⟩
    have dbig : hp.objs.size ≤ dx := Nat.le_trans (Nat.le_trans (Nat.le_succ _) (Nat.le_succ _)) z
    have J : Inv X pins σ (upd H1 dx (.xd [(fld, v)])) ⟨G', g, dr, tk', os⟩ := I1.laid (t' := tk') old2 dbig ob
    refine ⟨hp.objs.size + 1, _, _, ⟨G', g, dr, tk', os⟩, _, .ref C, some dx, rfl, J, fun b o q => ?_, ge, hx, ⟨rfl, rfl⟩, rfl, rfl, ?_, rfl, I1.bare, raises_own T.oc.exC T.oc.tyC, q1 dx (I1.hok.fresh dbig)⟩
    · by_cases hb : b = hp.objs.size + 1
      · have q' :
              G'.get? b = some o := q
        rw [hb, ge] at q'
        cases q'
      · exact
              (gk b hb).symm.trans q
    · rw [upd_ne (Ne.symm dne)]
      exact I1.hok.fresh (Nat.le_succ _)
end
section
variable {g : Stat} {N : List Str} {sc : Scope} {e1 : Expr} {f1 : EF} {pos p1 p2 : Pos}
/-- an own error's facts -/
structure RaK (g : Stat) (c : Nat) (x fld : Str) : Prop where
  ok : ∀ K mg, g.M K mg → ∃ fI prm, ExT K g.pr.main.file (g.gc c) fI prm fld ∧ (g.pr.main.scope.names.lookup ("super" : Str)).isSome = false ∧ mg "super" = none ∧ mg x = some (.ref (g.gc c))
/-- raise c(e) -/
theorem fs_raise {c : Nat} {x fld : Str} (M : RaK g c x fld) (hg : sc.names.lookup x = some .globalImplicit) (h1 : FE g N sc e1 f1) (hdb : (x == ("__debug__" : Str)) = false := by decide) : FS g N sc (.Raise (some (.Call (.Name x p1) [e1] [] p2)) none pos) (sRaise c [fld] [f1]) := by
  refine ⟨fun LR C X W ok xs tk => ?_⟩
  obtain ⟨k, hr, fok⟩ := ok.room
  obtain ⟨fI, prm, T, t1, t2, t3⟩ := M.ok _ _ ok.facts
  rw [← ok.prg] at T t1
  refine PS.imp (ps_raise ok.calm tk (pmk_ex T t1 t2 t3 hr (show X.env.scope.names.lookup x = _ by rw [ok.sc]; exact hg) (fa_of (.cons h1 .nil) ok tk) hdb (h1.st _ _))) fun De σ H q => ?_
  obtain ⟨env, F, R, ι, S, re, rp, p⟩ := q
  refine ⟨env, F, R, ι, S, re, rp, ?_⟩
  unfold sRaise at p
  cases hk : evAll [f1] C env S with
  | bad => rw [hk] at p; exact p
  | exc e S' => rw [hk] at p; exact fun F' ι' H' c d s1 i1 r1 x1 => p F' ι' σ H' c d s1 i1 r1 x1 rfl
  | ok vs S1 =>
    rw [hk] at p
    have p : PostS X.K g LR W F R ι S σ.length (match toDs vs with
      | some ds => .exc ⟨c, [fld].zip ds⟩ S1
      | none => .bad) De := p
    intro F1 ι1 H1 ws sm ie rp1 r1
    split at p
    · rename_i ds hd
      have rs := toDs_rds r1 hd
      have hl : ws.length = 1 := by rw [Paired.length r1, evAll_len hk]; rfl
      match ws, hl, rs with
      | [v], _, .cons rv .nil =>
        rename_i d
        refine ⟨v, rfl, fun dx hdx => ?_⟩
        have rz := rp1.grow (o := .xd [(fld, v)]) hdx
        exact p F1 ι1 σ _ _ _ sm ie rz ⟨rfl, dx, _, rfl, upd_same, .cons rv .nil⟩ rfl
    · exact p.elim
end
end PyS
end

section
set_option Elab.async false
set_option linter.all false
set_option maxRecDepth 100000
set_option
        maxHeartbeats 4000000
/-! PSnd19: repr of data; try with named clauses; what was handed in, called. -/
namespace PyS
open PySem PySem.Spec PyProof.Rows L2 Py

/-- repr of data, as the model has it -/
def rpD (d : D) : Option Str := if d.plain && (toPy d).showable && !(toPy d).hasDict && decide (d.depth ≤ 50) && decide ((toPy d).shown.length ≤ 1000) then some (toPy d).shown else none
def rRep (K : PySem.W.Frag) (gd : Prop) : List V → Hp → VK → Prop := fun vs H Q => gd ∧ ∃ (x : V) (d : PyData), vs = [x] ∧ Dp K H x d ∧ d.showable = true ∧ d.hasDict = false ∧ d.depth ≤ 60 ∧ d.shown.length ≤ 1000 ∧ Q (.str d.shown) H
theorem call_reprD {X : Cx} (hu : X.A.units + 100 < cLine) : CallR X (.builtin "repr") (rRep X.K (X.A.guards = some [])) := by
  intro pins
          s σ H vs us Q I r h
  obtain ⟨hg, x, d, rfl, hd, hs, hn, hdp, hl, q⟩ := h
  obtain ⟨u, rfl, ru⟩ : ∃ u, us = [u] ∧ RelV x u := by
    cases r with
    | cons r rr => cases rr; exact ⟨_, rfl, r⟩
  have hz : d.shown.length ≤ sizeLine := by rw [sizeLine_eq]; omega
  have disp : ∀ {a : Addr}, x = .ref a → wpAny (model X.prog X.w) X.A (call (.builtin "repr") [u]) (EP X pins σ Q) X.xe s := by
    intro a e
    subst e
    cases
            (show u = Value.ref a from ru)
    obtain ⟨as, r1⟩ := Dp.reads I d (.ref a) (.ref a) hd rfl
    exact repr_of_reads' r1 hs (PyData.noDict_hsm hn) hg (by omega) (fun _ _ e => e) (fun h' u tk hk => ⟨.str d.shown, H, I.kept hk, ⟨u, rfl⟩, q⟩) hz
  cases hd with
  | non =>
    cases (show u = Value.none from ru)
    exact P.repr_of_none ⟨.str "None", H, I.tok _, ⟨_, rfl⟩, by simpa [PyData.shown] using q⟩
  | bl b =>
    cases (show u = Value.bool b from ru)
    exact P.repr_of_bool ⟨.str (if b then "True" else "False"), H, I.tok _, ⟨s.toks, by cases b <;> rfl⟩, by simpa [PyData.shown] using q⟩
  | int i =>
    obtain ⟨t, rfl⟩ := (show ∃ t, u = Value.int i t from ru)
    exact P.repr_of_int (by simpa [PyData.showable] using hs) ⟨.str (toString i), H, I.tok _, ⟨_, rfl⟩, by simpa [PyData.shown] using q⟩
  | str y =>
    obtain ⟨t, rfl⟩ := (show ∃ t, u = Value.str y t from ru)
    exact P.repr_of_str ⟨.str (reprText y), H, I.tok _, ⟨_, rfl⟩, by simpa [PyData.shown] using q⟩ (by simpa [PyData.shown] using hz)
  | lst h1 h2 => exact disp rfl
  | tup h1 h2 => exact disp rfl
theorem rpD_spec {d : D} {y : Str} (h : rpD d = some y) : d.plain = true ∧ (toPy d).showable = true ∧ (toPy d).hasDict = false ∧ (toPy d).depth ≤ 60 ∧ (toPy d).shown.length ≤ 1000 ∧ (toPy d).shown = y := by
  unfold rpD at h
  split at h
  · rename_i hc
    simp only [Bool.and_eq_true, Bool.not_eq_true', decide_eq_true_eq] at hc
    obtain ⟨⟨⟨⟨h1, h2⟩, h3⟩, h4⟩, h5⟩ := hc
    exact ⟨h1, h2, h3, by rw [depth_of]; omega, h5, Option.some.inj h⟩
  · cases h
section
variable {g : Stat} {N : List Str} {sc : Scope} {e1 : Expr} {f1 : EF} {pos p1 : Pos}
theorem XOk.un {LR : LRT} {C : Cxt} {X : Cx} (ok : XOk g LR C N sc X) : X.A.units + 200 < cLine := by
  obtain ⟨k, r, _⟩ := ok.room
  have := r.un
  omega
theorem fe_repr (hrp : g.rp = rpD) (h1 : FE g N sc e1 f1) (hg : sc.names.lookup ("repr" : Str) = some .globalImplicit) (hm : ∀ K mg, g.M K mg → mg "repr" = none) : FE g N sc (.Call (.Name "repr" p1) [e1] [] pos) (eRepr f1) := by
  refine fe_of (fun LR C X W ok tk => ?_) (fun _ _ => rfl) (fun _ _ => rfl)
  refine PE.imp (pe_callB (call_reprD (by have := ok.un; omega)) (show X.env.scope.names.lookup ("repr" : Str) = _ by rw [ok.sc]; exact hg) (hm _ _ ok.facts) (by decide +kernel) (pa_cons (h1.fz ok tk) pa_nil (h1.st _ _)) (by decide) (by decide) (h1.st _ _) rfl) fun σ H Q q => ?_
  obtain ⟨env, F, R, ι, S, re, rp, p⟩ := q
  refine ⟨env, F, R, ι, S, re, rp, post_bind p fun v S1 F1 ι1 H1 x hr sm ie rp1 rv p1 => ?_⟩
  split at p1
  · rename_i d
    split at p1
    · rename_i y hy
      obtain ⟨gd, z⟩ := ok.rp _ _ hy
      rw [hrp] at z
      obtain ⟨h1, h2, h3, h4, h5, h6⟩ := rpD_spec z
      subst h6
      exact ⟨gd, x, toPy d, rfl, dp_of rp1.fH rv h1, h2, h3, h4, h5, post_d p1 rp1 (.str _)⟩
    · exact p1.elim
  · exact p1.elim
end

/-! ### try: .. / except X as e: .. (several) -/
/-- what the named clauses wish of an exception of the body -/
def wManyAs (K : PySem.W.Frag) (Wout : WX) (De : Ends) : List (Value × Nat × (Addr → Value → Option Addr → TS)) → WX
  | [] => Wout
  | (c, i, ts) :: r => fun cls d σ H => ∃ b, PySem.W.exmOne K cls c = some b ∧ (b = true → ∀ a, H a = none → ts a cls d { nx := fun σ' H' => De.nx (σ'.set i none) H', rt := De.rt, bk := fun σ' H' => De.bk (σ'.set i none) H', ct := fun σ' H' => De.ct (σ'.set i none) H' } (σ.set i (some (.ref a))) H) ∧ (b = false → wManyAs K Wout De r cls d σ H)
inductive HdsAs (X : Cx) : List ExceptHandler → List (Value × Nat × (Addr → Value → Option Addr → TS)) → Prop
  | nil : HdsAs X [] []
  | cons {x n : Str} {c : Value} {i : Nat} {ts : Addr → Value → Option Addr → TS} {b₀ : Stmt} {suite : List Stmt} {np pos' : Pos} {hds : List ExceptHandler} {l : List (Value × Nat × (Addr → Value → Option Addr → TS))} (hi : X.N[i]? = some n) (hln : X.env.kindOf n = some .local) (hc : Names X x c)
      (hsu : ∀ (a : Addr) (oe : Obj) (cls : Value) (d : Option Addr) (pn : List (Addr × Obj)), Zc cls d oe → (∃ vs, oe.data = .fields vs) → PSs (X.suite a ((a, oe) :: pn)) (b₀ :: suite) (ts a cls d)) (r : HdsAs X hds l) :
      HdsAs X (.ExceptHandler (some (.Name x np)) (some n) (b₀ :: suite) pos' :: hds) ((c, i, ts) :: l)
theorem ps_try_manyAs {X : Cx} {body : List Stmt} {h₀ : ExceptHandler} {hds : List ExceptHandler} {l : List (Value × Nat × (Addr → Value → Option Addr → TS))} {pos : Pos} {tb : WX → TS} {Wout : WX} (hs : X.stack = X.env :: X.outer) (hf : X.env.frame = some X.env.locals) (hN : X.N.Nodup) (tk : Takes X Wout)
    (hb :
            ∀ (W : WX) (pn : List (Addr × Obj)) (xe : Value → Shared → Prop), Takes (X.tr pn xe) W → PassesOwn (model X.prog X.w) X.A X.env xe → PSs (X.tr pn xe) body (tb W))
    (hh : HdsAs X (h₀ :: hds) l) : PS X (.Try body (h₀ :: hds) [] [] pos) (fun De σ H => tb (wManyAs X.K Wout De l) De σ H) := by
  refine ⟨fun pins s σ H De I h => ?_⟩
  have ok := I.ok
  have hfr :
          X.A.frames = some (X.env :: X.outer) := by rw [ok.frames, hs]
  refine wpAny_Try_except ?_
  refine wpAny_mono ((hb (wManyAs X.K Wout De l) (X.pn ++ pins) (fun e s₁ => wpAny (model X.prog X.w) X.A (noteFrame e X.env) (fun _ s₂ => wpAny (model X.prog X.w) X.A (setFlight e none) (fun _ s₃ =>
    wpAny (model X.prog X.w) X.A (handleBy e X.env (h₀ :: hds)) (SP X pins De) X.xe s₃) X.xe s₂) X.xe s₁) (fun u s' xx => ?_) PassesOwn.looking).run [] s σ H De (I.toTry _) h) (fun f s1 hsp => ?_) (fun e s1 he => he)
  · obtain ⟨a, B, sI, pins', σ', H', cls, d, rfl, J', nb, up, sky, na, os, ag, w⟩ := xx
    have J :
            Inv X pins σ' H' sI := J'.ofTry ok
    have sky' :
            Sky B (X.env :: X.outer) a (Zc cls d) X.env.locals s'.heap := by rw [← hs]; exact sky
    show
            wpAny (model X.prog X.w) X.A (noteFrame (.ref a) X.env) _ _ _
    refine Sky.land Zc.steady hfr hf sky' fun h3 fl3 up3 =>
            ?_
    have J3 :
            Inv X pins σ' H' { s' with heap := h3 } := J.landed nb fl3.1 (up.trans up3) os ag
    obtain ⟨oe3,
            vs3, he3, hz3, hd3⟩ := fl3.there
    have nfr : a ∉ frs (X.env :: X.outer) := fun hm => by
      obtain ⟨_, o', e', hnf⟩ := fl3.2.2.1.mem hm
      rw [he3] at e'
      cases e'
      exact hnf _ hd3
    have nL :
            a ≠ X.env.locals := fun z => nfr (List.mem_filterMap.mpr ⟨X.env, List.mem_cons_self, by rw [hf, z]⟩)
    have nF :
            a ∉ X.fs := fun hm => by
      obtain ⟨e,
              he, q⟩ := List.mem_filterMap.mp hm
      exact nfr (List.mem_filterMap.mpr ⟨e,
              List.mem_cons_of_mem _ he, q⟩)
    have S3 :=
            J3.suite he3 hd3 na nL nF
    have go : ∀ {hds' : List ExceptHandler} {l' : List (Value × Nat × (Addr → Value → Option Addr → TS))}, HdsAs X hds' l' → wManyAs X.K Wout De l' cls d σ' H' →
        wpAny (model X.prog X.w) X.A (handleBy (.ref a) X.env hds') (SP X pins De) X.xe { s' with heap := h3 } := by
      intro hds' l' hk
      induction hk with
      | nil =>
        intro w
        refine wpAny_handleBy_nil ?_
        obtain ⟨k1,
                k2, k3, oe, vs, T, oT, ts', he, hz, hd, h1, hr⟩ := id fl3
        unfold PySem.passOn
        refine
                wpAny_bind (wpAny_field he hd h1 ?_)
        rw [if_neg
                (show ¬ ((Value.ref T == Value.none) = true) from by simp)]
        have fin : wpAny (model X.prog X.w) X.A (setFlight (.ref a) X.env.frame) (fun _ s4 => wpAny (model X.prog X.w) X.A (throw (.ref a) : Sem Flow) (SP X pins De) X.xe s4) X.xe { s' with heap := h3 } := by
          rw [hf]
          refine HandSPX.setFlight_upZ fl3 fun h4 hh4 up4 =>
                  wpAny_throw (tk _ _ ?_)
          exact ⟨a,
                  B, sI, pins, σ', H', cls, d, rfl, J, nb, (up.trans up3).trans up4, .inr (.inr (by rw [hs]; exact hh4)), na, os, ag, w⟩
        first
          | exact
                  wpAny_bind (wpAny_pure (wpAny_bind fin))
          | exact wpAny_bind fin
      | @cons x n c i ts b₀ suite np pos' hds2 l2 hi hln hc hsu r ih =>
        intro w
        obtain ⟨b,
                hb1, hyes, hno⟩ := w
        refine
                wpAny_handleBy_cons (codeAny_handlers_test ?_) (by intro q; cases q)
        have LT :
                PySem.W.Looks (model X.prog X.w) h3 (typeOf (.ref a)) cls := fun A Q E s k q => wpAny_typeOf_ref (k _ _ he3) (by rw [hz3.1]; exact q)
        have LM :=
                PySem.W.exm_one (M := model X.prog X.w) (J3.kIn) LT hb1
        have test :
                ∀ {Q : Value → Shared → Prop} {E : Value → Shared → Prop}, Q c { s' with heap := h3 } → wpAny (model X.prog X.w) (X.A.mark (some (.ref a))) (eval (.Name x np) X.env) Q E { s' with heap := h3 } := fun {Q E} q => by
          obtain ⟨hg,
                  hdbg, hm | ⟨hm, hv, hnn⟩⟩ := hc
          · exact ld_glob (X :=
                  X.suite a ((a, oe3) :: (X.pn ++ pins))) S3 hg hm q hdbg
          · exact ld_blt (X :=
                  X.suite a ((a, oe3) :: (X.pn ++ pins))) S3 hg hm hv q hnn hdbg
        refine test (LM.here ?_)
        cases b with
        | true =>
          refine
                  codeAny_handlers_suite_as ?_
          refine HandSPX.lands_againZ fl3 fun h4 fl4 up4 =>
                  ?_
          have J4 :
                  Inv X pins σ' H' { s' with heap := h4 } := J.landed nb fl4.1 ((up.trans up3).trans up4) os ag
          obtain ⟨oe4,
                  vs4, he4, hz4, hd4⟩ := fl4.there
          have S4 :=
                  J4.suite he4 hd4 na nL nF
          refine store_ok (X := X.suite a ((a, oe4) :: (X.pn ++ pins))) (v := .ref a) S4 hN hi (.inl hln) rfl (fun s5 S5 => ?_) (.inr hln)
          refine wpAny_mono ((hsu a oe4 cls d (X.pn ++ pins) hz4 ⟨_,
                  hd4⟩).run [] s5 _ H' _ S5 (hyes rfl a na)) (fun f s6 hsp => ?_) (fun _ _ z => False.elim z)
          have end_ : ∀ {σ6 : L2.St} {H6 : Hp} {Q : Shared → Prop}, Inv (X.suite a ((a, oe4) :: (X.pn ++ pins))) [] σ6 H6 s6 → (∀ s7, Inv X pins (σ6.set i none) H6 s7 → Q s7) →
              wpAny (model X.prog X.w) X.A (do bindName X.env n .none; unbindBehindTheSuite X.env n pos') (fun _ s7 =>
                      Q s7) X.xe s6 := fun {σ6 H6 Q} S6 hq => gone_ok (S6.unsuite ok) hN hi hln hq
          cases f with
          | next =>
            obtain ⟨σ6,
                    H6, S6, q6⟩ := hsp
            exact end_ S6 fun s7 J7 =>
                    ⟨_, _, J7, q6⟩
          | brk =>
            obtain ⟨σ6,
                    H6, S6, q6⟩ := hsp
            exact end_ S6 fun s7 J7 =>
                    ⟨_, _, J7, q6⟩
          | cont =>
            obtain ⟨σ6,
                    H6, S6, q6⟩ := hsp
            exact end_ S6 fun s7 J7 =>
                    ⟨_, _, J7, q6⟩
          | ret u =>
            obtain ⟨v6,
                    σ6, H6, S6, r6, q6⟩ := hsp
            exact end_ S6 fun s7 J7 =>
                    ⟨_, _, _, J7, r6, q6⟩
        | false =>
          show
                  wpAny _ X.A (handleBy (.ref a) X.env hds2) _ _ _
          exact ih (hno rfl)
    exact go hh w
  · cases f with
    | next =>
      obtain ⟨σ', H', J', q⟩ := hsp
      exact wpAny_execs_nil ⟨σ',
              H', J'.ofTry ok, q⟩
    | brk =>
      obtain ⟨σ', H', J', q⟩ := hsp
      exact ⟨σ',
              H', J'.ofTry ok, q⟩
    | cont =>
      obtain ⟨σ', H', J', q⟩ := hsp
      exact ⟨σ',
              H', J'.ofTry ok, q⟩
    | ret u =>
      obtain ⟨v,
              σ', H', J', r, q⟩ := hsp
      exact ⟨v,
              σ', H', J'.ofTry ok, r, q⟩
section
variable {g : Stat} {N : List Str} {sc : Scope}
/-- one clause's suite -/
def tsC (K : PySem.W.Frag) (gd : Prop) (C : Addr) (t f : Str) (i : Nat) (a : Addr) (cls : Value) (d : Option Addr) : TS := fun De σ H => tTup (tCons (tC (.str t)) (tCons (tCB (rRep K gd) (tCons (tXf a cls d C f (tVar i)) tNil)) tNil)) σ H De.rt
inductive FHs (g : Stat) (N : List Str) (sc : Scope) (n : Str) (i : Nat) : List ExceptHandler → List (Nat × Str × Str) → Prop
  | nil : FHs g N sc n i [] []
  | cons {x t f : Str} {c j k : Nat} {p1 p2 p3 p4 p5 p6 p7 p8 p9 : Pos} {hds : List ExceptHandler} {cl : List (Nat × Str × Str)} (hg : sc.names.lookup x = some .globalImplicit) (hd : (x == ("__debug__" : Str)) = false) (hm : ∀ K mg, g.M K mg → mg x = some (.ref (g.gc c)) ∧ XfC K (g.gc c) ∧ PySem.W.findIn K (.ref (g.gc c)) f = some none)
      (hb : ∀ env, attributeBase (.Name n p4) f env (eval (.Name n p4) env) = eval (.Name n p4) env) (r : FHs g N sc n i hds cl) :
      FHs g N sc n i (.ExceptHandler (some (.Name x p1)) (some n) [.Return (some (.Tuple [.Constant (.str t) j p2, .Call (.Name "repr" p3) [.Attribute (.Name n p4) f p5] [] p6] k p7)) p8] p9 :: hds) ((c, t, f) :: cl)
def lsC (K : PySem.W.Frag) (gd : Prop) (g : Stat) (i : Nat) (cl : List (Nat × Str × Str)) : List (Value × Nat × (Addr → Value → Option Addr → TS)) := cl.map fun p => (.ref (g.gc p.1), i, tsC K gd (g.gc p.1) p.2.1 p.2.2 i)
theorem fhs_of {n : Str} {i : Nat} {hds : List ExceptHandler} {cl : List (Nat × Str × Str)} (h : FHs g N sc n i hds cl) {LR : LRT} {C : Cxt} {X : Cx} (ok : XOk g LR C N sc X) (hi : N[i]? = some n) (hl : sc.names.lookup n = some .local) (hnd : (n == ("__debug__" : Str)) = false) (hnc : (n == ("__classdict__" : Str)) = false)
    (hg : sc.names.lookup ("repr" : Str) = some .globalImplicit) (hm : ∀ K mg, g.M K mg → mg "repr" = none) : HdsAs X hds (lsC X.K (X.A.guards = some []) g i cl) := by
  induction h with
  | nil => exact .nil
  | cons hg1 hd hm1 hb r ih =>
    obtain ⟨m1, m2, m3⟩ := hm1 _ _ ok.facts
    refine .cons (by rw [ok.hN]; exact hi) (show X.env.scope.names.lookup n = _ by rw [ok.sc]; exact hl) ⟨show X.env.scope.names.lookup _ = _ by rw [ok.sc]; exact hg1, hd, .inl m1⟩ (fun a oe cls d pn hz hf => ?_) ih
    have gl : Gl (X.suite a ((a, oe) :: pn)) "repr" := show X.env.scope.names.lookup ("repr" : Str) = _ by rw [ok.sc]; exact hg
    have un : (X.suite a ((a, oe) :: pn)).A.units + 100 < cLine := by
      show X.A.units + 100 < cLine
      have := ok.un
      omega
    have hv : ∀ p : Pos, PE (X.suite a ((a, oe) :: pn)) (.Name n p) (tVar i) := fun p => pe_var (X := X.suite a ((a, oe) :: pn)) (by show X.N[i]? = some n; rw [ok.hN]; exact hi) (.inl (show X.env.scope.names.lookup n = _ by rw [ok.sc]; exact hl)) hnd hnc
    have hx := fun p : Pos => pe_xf (pos := p) m2 m3 hz hf (hv _) (hb _)
    exact pss_one (ps_ret (pe_tup (pa_cons pe_str (pa_cons (pe_callB (call_reprD un) gl (hm _ _ ok.facts) (by decide +kernel) (pa_cons (hx _) pa_nil rfl) (by decide) (by decide) rfl rfl) pa_nil rfl) rfl)))
/-- the clauses' wish of an own error -/
theorem many_wish {K : PySem.W.Frag} {LR : LRT} {C : Cxt} {W : WX} {De : Ends} {gd : Prop} {i n : Nat} {es : List Nat} (hrp : g.rp = rpD) (hC : ∀ d x, C.rp d = some x → gd ∧ g.rp d = some x) {F R H : Hp} {ι : Nat → Addr} {S : Sto} {σ : L2.St} {e : Xn} {cls : Value} {d : Option Addr} (he : e.cls ∈ es) (hi : i < σ.length) (rp : Rep K g F R ι S H) (rx : RX K g F H cls d e) : ∀ (cl : List (Nat × Str × Str)), (∀ c' ∈ cl.map (·.1), ∀ c ∈ es, PySem.W.exmOne K (.ref (g.gc c)) (.ref (g.gc c')) = some (c == c')) →
    PostS K g LR W F R ι S n (match clauseOf e.cls cl with
      | some (t', f) => match e.fs.lookup f with
        | some d => match C.rp d with
          | some y => .rt (.d (.tup [.str t', .str y])) S
          | none => .bad
        | none => .bad
      | none => .exc e S) De → σ.length = n → wManyAs K W De (lsC K gd g i cl) cls d σ H
  | [], _, p, hn => p F ι σ H cls d (Same.refl _) IExt.refl rp rx hn
  | (c, t, f) :: cl, hx, p, hn => by
    refine ⟨e.cls == c, ?_, fun hb a ha => ?_, fun hb => ?_⟩
    · rw [rx.1]
      exact hx c (List.mem_map.mpr ⟨_, List.mem_cons_self, rfl⟩) _ he
    · have ec : e.cls = c := by simpa using hb
      unfold clauseOf at p
      rw [if_pos ec.symm] at p
      dsimp only at p
      split at p
      · rename_i dv hdv
        split at p
        · rename_i y hy
          obtain ⟨hcls, dx, ws, rfl, hdx, rf⟩ := rx
          obtain ⟨v, hv, rv⟩ := rf.lookup hdv
          obtain ⟨gd1, z⟩ := hC _ _ hy
          rw [hrp] at z
          obtain ⟨h1, h2, h3, h4, h5, h6⟩ := rpD_spec z
          subst h6
          refine ⟨.ref a, List.getElem?_set_self hi, rfl, by rw [hcls, ec], dx, ws, v, rfl, hdx, hv, gd1, v, toPy dv, rfl, dp_of rp.fH rv h1, h2, h3, h4, h5, by show 2 ≤ sizeLine; decide, fun q hq => ?_⟩
          obtain ⟨g1, g2, g3⟩ := rp.growF (o := .tup [.str t, .str (toPy dv).shown]) hq
          exact p _ ι _ _ g2 IExt.refl g1 (RD.tup (SqT.of upd_same) (.cons (.str _) (.cons (.str _) .nil)))
        · exact p.elim
      · exact p.elim
    · have ec : ¬ c = e.cls := fun z => by
        rw [← z] at hb
        simp at hb
      unfold clauseOf at p
      rw [if_neg ec] at p
      exact many_wish hrp hC he hi rp rx cl (fun c' hc' => hx c' (List.mem_cons_of_mem _ hc')) p hn
theorem fs_tryAct {a n t : Str} {ie j k : Nat} {es : List Nat} {hds : List ExceptHandler} {h₀ : ExceptHandler} {cl : List (Nat × Str × Str)} {q1 q2 q3 q4 q5 pos : Pos} (hrp : g.rp = rpD) (hi : N[0]? = some a) (ha : Vis sc a) (had : (a == ("__debug__" : Str)) = false) (hac : (a == ("__classdict__" : Str)) = false)
    (hn : N[ie]? = some n) (hl : sc.names.lookup n = some .local) (hnd : (n == ("__debug__" : Str)) = false) (hnc : (n == ("__classdict__" : Str)) = false) (hg : sc.names.lookup ("repr" : Str) = some .globalImplicit) (hm : ∀ K mg, g.M K mg → mg "repr" = none) (hh : FHs g N sc n ie (h₀ :: hds) cl)
    (hx : ∀ K mg, g.M K mg → ∀ c' ∈ cl.map (·.1), ∀ c ∈ es, PySem.W.exmOne K (.ref (g.gc c)) (.ref (g.gc c')) = some (c == c')) :
    FS g N sc (.Try [.Return (some (.Tuple [.Constant (.str t) j q1, .Call (.Name a q2) [] [] q3] k q4)) q5] (h₀ :: hds) [] [] pos) (sTryAct es t 0 ie cl) := by
  refine ⟨fun LR C X W ok xs tk => ?_⟩
  refine PS.imp (ps_try_manyAs xs.stk xs.fr (by rw [ok.hN]; exact ok.nd) tk (tb := fun W' De σ H => tTup (tCons (tC (.str t)) (tCons (tE X.K g LR C W' (eAct 0)) tNil)) σ H De.rt)
    (fun W' pn xe tk' po => pss_one (ps_ret (pe_tup (pa_cons pe_str (pa_cons (xs.act W' pn xe a q2 q3 (by rw [ok.hN]; exact hi) (by rw [ok.sc]; exact ha) had hac tk') pa_nil rfl) rfl)))) (fhs_of hh ok hn hl hnd hnc hg hm)) fun De σ H q => ?_
  obtain ⟨env, F, R, ι, S, re, rp, p⟩ := q
  refine ⟨env, F, R, ι, S, re, rp, ?_⟩
  unfold sTryAct Py.fz at p
  cases hr : eAct 0 C env S with
  | bad => rw [hr] at p; exact p
  | exc e S1 =>
    rw [hr] at p
    simp only [Rs.bind] at p
    split at p
    · rename_i hc
      simp only [Bool.and_eq_true,
              decide_eq_true_eq] at hc
      intro F1 ι1 H1 cls d sm ie1 rp1 rx
      exact many_wish (n := σ.length) hrp (fun d x h => ok.rp d x h) (by simpa using hc.1) (by rw [re.1]; exact hc.2) rp1 rx cl (hx _ _ ok.facts) (PostS.up sm ie1 p) rfl
    · exact p.elim
  | ok v S1 =>
    rw [hr] at p
    refine post_fz ok.lm (show PostE X.K g LR _ F R ι S (.ok v.frz S1) _ from ?_)
    have p : PostS X.K g LR W F R ι S σ.length (match (Rs.ok v.frz S1 : Rs Vl) with
      | .ok (.d x) S1 => .rt (.d (.tup [.str t, x])) S1
      | .ok _ _ => .bad
      | .bad => .bad
      | .exc x S1 => _) De := p
    cases hv : v.frz with
    | d x =>
      rw [hv] at p
      intro F1 ι1 H1 y sm ie1 rp1 rt
      have rv : RD X.K g.gc F1 y x := rt
      refine ⟨by show 2 ≤ sizeLine; decide, fun q hq => ?_⟩
      obtain ⟨g1, g2, g3⟩ := rp1.growF (o := .tup [.str t, y]) hq
      exact p _ ι1 _ _ (sm.trans g2) ie1 g1 (RD.tup (SqT.of upd_same) (.cons (.str _) (.cons (RD.mono g2 rv) .nil)))
    | _ => rw [hv] at p; exact p.elim
end
end PyS
end

section
set_option Elab.async false
set_option linter.all false
set_option maxRecDepth 100000
set_option
        maxHeartbeats 400000
/-! PSnd20: the defs keep their promises. -/
namespace PyS
open PySem PySem.Spec PyProof.Rows L2 Py

section
variable {g : Stat} {K : PySem.W.Frag} {F R : Hp} {ι : Nat → Addr} {S : Sto}
/-- behind a def's body -/
theorem post_leave {De : Ends} {LR : LRT} {W : WX} {Q : VK} {E : XK} {n : Nat} {o : Ou} (hW : ∀ c d σ H, W c d σ H = E c d H) (hn : De.nx = fun _ H' => Q .non H') (hr : De.rt = Q) (hLR : ∀ F ι m x v, RV K g.gc LR F ι m x v → ∀ b, (v = .d b ∨ ∃ k, v = .box k) → RV K g.gc noLam F ι m x v)
    (h : PostF K g F R ι S (leave S.length o) Q E) : PostS K g LR W F R ι S n o De := by
  have tk : ∀ {S' : Sto} {ι' : Nat → Addr}, IExt S ι S' ι' → IExt S ι (S'.take S.length) ι' := fun ie => ⟨by rw [List.length_take]; have := ie.len; omega, ie.eq⟩
  cases o with
  | nx env S' =>
    intro F' ι' σ' H' sm ie rp _ _
    rw [hn]
    exact h F' ι' H' .non sm (tk ie) (rp.drop _) RD.non
  | rt v S' =>
    intro F' ι' H' x sm ie rp rv
    rw [hr]
    cases v with
    | box k =>
      have h : PostF K g F R ι S (if k < S.length then .ok (.box k) (S'.take S.length) else .ok (.box k) S') Q E := h
      split at h
      · rename_i hk
        refine h F' ι' H' x sm (tk ie) (rp.drop _) ⟨?_, rv.2⟩
        rw [List.length_take]
        have := ie.len
        omega
      · exact h F' ι' H' x sm ie rp ⟨rv.1, rv.2⟩
    | d d => exact h F' ι' H' x sm (tk ie) (rp.drop _) rv
    | _ => exact h.elim
  | exc e S' =>
    intro F' ι' σ' H' c d sm ie rp rx _
    rw [hW]
    exact h F' ι' H' c d sm (tk ie) (rp.drop _) rx
  | bk env S' => exact h.elim
  | ct env S' => exact h.elim
  | bad => exact h.elim
theorem env_start {LR : LRT} {vs : List V} {args : List Vl} {m : Nat} {N : List Str} {fd : FDef} (hN : fd.slots = N.length) (h : Paired (RV K g.gc LR F ι m) vs args) : REnv K g.gc LR F ι m (L2.start N vs) (startE fd args) := by
  have hl := Paired.length h
  have hget : ∀ {vs : List V} {args : List Vl}, Paired (RV K g.gc LR F ι m) vs args → ∀ (i : Nat) (v : Vl), args[i]? = some v → ∃ x, vs[i]? = some x ∧ RV K g.gc LR F ι m x v := by
    intro vs args h
    induction h with
    | nil =>
            intro i v e; simp at e
    | cons r t ih =>
      intro i v e
      cases i with
      | zero => simp at e; subst e; exact ⟨_, rfl, r⟩
      | succ i =>
              simpa using ih i v (by simpa using e)
  unfold L2.start startE
  refine ⟨by simp [hl, hN], fun i v e => ?_⟩
  by_cases hi : i < args.length
  · rw [List.getElem?_append_left (by simpa using hi), List.getElem?_map] at e
    cases hq : args[i]? with
    | none => rw [hq] at e; cases e
    | some u =>
      rw [hq] at e
      cases e
      obtain ⟨x, h1, h2⟩ := hget h i _ hq
      refine ⟨x, ?_, h2⟩
      rw [List.getElem?_append_left (by rw [List.length_map, hl]; exact hi), List.getElem?_map, h1]
      rfl
  · rw [List.getElem?_append_right (by simp; omega), List.getElem?_replicate] at e
    split at e <;> cases e
end
/-- nothing was handed in -/
theorem act_none {g : Stat} {C : Cxt} {X : Cx} (W : WX) (pn : List (Addr × Obj)) (xe : Value → Shared → Prop) (a : Str) (p1 p2 : Pos) (_ : X.N[0]? = some a) (_ : Vis X.env.scope a) (_ : (a == ("__debug__" : Str)) = false) (_ : (a == ("__classdict__" : Str)) = false) (_ : Takes (X.tr pn xe) W) : PE (X.tr pn xe) (.Call (.Name a p1) [] [] p2) (tE X.K g noLam C W (eAct 0)) := by
  refine ⟨fun pins s σ H Q I q =>
          ?_⟩
  obtain ⟨env, F, R, ι, S, re, rp, p⟩ := q
  exfalso
  unfold eAct at p
  split at p
  · rename_i j hj
    obtain ⟨x, _, z⟩ := re.2 0 _ hj
    exact z
  · exact p
/-- what the law's text gives of the def q -/
structure DefK (g : Stat) (q : Nat) (N : List Str) (sc : Scope) (body : List Stmt) : Prop where
  scp : FnScope N (g.ps q) sc
  ok : ∀ K mg, g.M K mg → ∃ oc od osl name qual params dV kV doc pm an cdv ct, K.lookup (g.fa q) = some ⟨oc, od, .func (PySem.W.fnOf name qual params body sc dV kV doc pm an cdv ct), osl⟩ ∧ PySem.W.codeIn K cdv qual = true ∧ g.fd q = PySem.W.fnOf name qual params body sc dV kV doc pm an cdv ct
/-- a def of ours -/
structure DefOk (g : Stat) (q : Nat) : Prop where
  ok : ∃ N sc body s, DefK g q N sc body ∧ g.P.fn q = ⟨N.length, (g.ps q).length, s⟩ ∧ FSs g N sc body s
theorem ok_none {g : Stat} {P : Program} {w : World} {K : PySem.W.Frag} {mg : Str → Option Value} {base : Heap} {k q : Nat} : FnOk P w K mg base (L2.CX P w) k (g.fa q) (g.fd q) (g.ps q) (spOf K g noCall q) :=
  ⟨fun vs H Q E h => h.1, fun A outer s H args us vs Q E hr e0 hb r h => by
    obtain ⟨_, F, R, ι, S, ar, _, _, z⟩ := h
    exact z.elim⟩
theorem ok_step {g : Stat} {w : World} {K : PySem.W.Frag} {mg : Str → Option Value} {base : Heap} {k q : Nat} {call : CallF} (hM : g.M K mg) (d : DefOk g q) (prev : ∀ q, q < g.nf → FnOk g.pr w K mg base (L2.CX g.pr w) k (g.fa q) (g.fd q) (g.ps q) (spOf K g call q)) :
    FnOk g.pr w K mg base (L2.CX g.pr w) (k + 9) (g.fa q) (g.fd q) (g.ps q) (spOf K g (callFn g.P noRp noCallA call) q) := by
  obtain ⟨N, sc, body, s, D, hfn, hs⟩ := d.ok
  obtain ⟨oc, od, osl, name, qual, params, dV, kV, doc, pm, an, cdv, ct, lk, hcd, hfd⟩ := D.ok K mg hM
  rw [hfd]
  refine fn_of (k := k + 8) lk hcd D.scp (fun vs H Q E h => h.1) (fun A outer st H vs Q E hr h => ?_)
  obtain ⟨hl, F, R, ι, S, args, pa, rp, p⟩ := h
  refine ⟨tS K g noLam (bodyCx g.P noRp call noCallA (fun _ => .bad)) (fun c d _ H => E c d H) s, ?_, ?_⟩
  · have xok : XOk g noLam (bodyCx g.P noRp call noCallA (fun _ => .bad)) N sc (cxOf (L2.CX g.pr w) g.pr w K mg base N qual sc (g.fa q) cdv A outer st H E) :=
      { hN := rfl, nd := D.scp.nd, sc := rfl, calm := rfl, lm := noLam_mono, facts := hM, prg := rfl, rp := (fun d x z => by cases z), hlam := fun j env S => .inr rfl, hca := fun q act S => .inl rfl, room := ⟨k, hr, prev⟩ }
    exact hs.ps noLam _ _ _ xok ⟨act_none, passes_of rfl, fun _ => rfl, rfl, rfl⟩ (takes_of rfl rfl rfl rfl)
  · refine ⟨startE (g.P.fn q) args, F, R, ι, S, env_start (by rw [hfn]) pa, rp, ?_⟩
    have hargs : args.length = (g.P.fn q).params := by rw [hfn, ← Paired.length pa, hl]
    unfold callFn at p
    rw [if_pos hargs] at p
    refine post_leave (Q := Q) (E := E) (fun _ _ _ _ => rfl) rfl rfl (fun _ _ _ _ _ r _ _ => r) ?_
    rw [hfn] at p ⊢
    exact p
theorem all_ok {g : Stat} {w : World} {K : PySem.W.Frag} {mg : Str → Option Value} {base : Heap} (hM : g.M K mg) (d : ∀ q, q < g.nf → DefOk g q) : ∀ k q, q < g.nf → FnOk g.pr w K mg base (L2.CX g.pr w) (9 * k) (g.fa q) (g.fd q) (g.ps q) (spOf K g (callEv g.P k) q)
  | 0, q, _ => ok_none
  | k + 1, q, hq => ok_step (k := 9 * k) hM (d q hq) (fun q hq => all_ok hM d k q hq)
/-- the law's own def at A, nothing of repr under way -/
theorem top_run {g : Stat} {w : World} {K : PySem.W.Frag} {mg : Str → Option Value} {base : Heap} {k q : Nat} {call : CallF} {A : Around} {s : Shared} {H : Hp} {u : Value} {v : V} {arg : Vl} {Q : VK} {E : XK} {F R : Hp} {ι : Nat → Addr} {S : Sto} (hM : g.M K mg) (d : DefOk g q) (hp1 : (g.ps q).length = 1) (prev : ∀ q, q < g.nf → FnOk g.pr w K mg base (L2.CX g.pr w) k (g.fa q) (g.fd q) (g.ps q) (spOf K g call q))
    (hg : A.guards = some []) (hr : Room (k + 13) A) (e0 : Env0 g.pr w K mg base A [] s H) (hb : ∀ us : List Value, us.length = 1 → BindsTo s (g.fd q) ⟨us, []⟩ ((g.ps q).zip us)) (ru : RelV v u)
    (hcode : ∀ oc od osl name (qual : Str) params body sc dV kV doc pm an cdv ct, K.lookup (g.fa q) = some ⟨oc, od, .func (PySem.W.fnOf name qual params body sc dV kV doc pm an cdv ct), osl⟩ → cdv = .ref g.lc ∧ (envOfC qual sc 0 (g.fa q) cdv).qual ++ "<lambda>" = g.lq) (hT : g.T = [(g.lt, g.lq)]) (htb : LamX.TabB base mg g.lc g.lt)
    (rv : RV K g.gc noLam F ι S.length v arg) (rp : Rep K g F R ι S H) (p : PostF K g F R ι S (callFn g.P g.rp (callAct g.P g.rp) call q [arg] S) Q E) : codeAny (model g.pr w) A (.call (.ref (g.fa q)) ⟨[u], []⟩) (CR (L2.CX g.pr w) [] g.pr w H s Q E) s := by
  obtain ⟨N, sc, body, st, D, hfn, hs⟩ := d.ok
  obtain ⟨oc, od, osl, name, qual, params, dV, kV, doc, pm, an, cdv, ct, lk, hcd, hfd⟩ := D.ok K mg hM
  obtain ⟨c1, c2⟩ := hcode _ _ _ _ _ _ _ _ _ _ _ _ _ _ _ lk
  have hb1 := hb [u] rfl
  rw [hfd] at hb1
  refine LamX.run_ofS (us := [u]) (vs := [v]) (k := k + 12) lk hcd D.scp hr e0 hb1 (.cons ru .nil) (by rw [hp1]; rfl) fun hr' => ?_
  refine ⟨tS K g noLam (bodyCx g.P g.rp call (callAct g.P g.rp) (fun _ => .bad)) (fun c d _ H => E c d H) st, ?_, ?_⟩
  · have e1 : (cxOf (L2.CX g.pr w) g.pr w K mg base N qual sc (g.fa q) cdv A [] s H E).env.code = .ref g.lc := c1
    have e2 : (cxOf (L2.CX g.pr w) g.pr w K mg base N qual sc (g.fa q) cdv A [] s H E).env.qual ++ "<lambda>" = g.lq := c2
    have e3 : LamX.TabB (cxOf (L2.CX g.pr w) g.pr w K mg base N qual sc (g.fa q) cdv A [] s H E).base (cxOf (L2.CX g.pr w) g.pr w K mg base N qual sc (g.fa q) cdv A [] s H E).mg g.lc g.lt := htb
    have xok : XOk g noLam (bodyCx g.P g.rp call (callAct g.P g.rp) (fun _ => .bad)) N sc (cxOf (L2.CX g.pr w) g.pr w K mg base N qual sc (g.fa q) cdv A [] s H E) :=
      { hN := rfl, nd := D.scp.nd, sc := rfl, calm := rfl, lm := noLam_mono, facts := hM, prg := rfl, rp := (fun d x z => ⟨hg, z⟩), hlam := (fun j env S => .inr rfl), hca := (fun q act S => Or.inr ⟨(rfl : callAct g.P g.rp q act S = callAct g.P g.rp q act S), e1, e2, hT, e3, k, hr', prev⟩), room := ⟨k, hr'.mono (by omega), prev⟩ }
    exact hs.ps noLam _ _ _ xok ⟨act_none, passes_of rfl, fun _ => rfl, rfl, rfl⟩ (takes_of rfl rfl rfl rfl)
  · refine ⟨startE (g.P.fn q) [arg], F, R, ι, S, env_start (by rw [hfn]) (.cons rv .nil), rp, ?_⟩
    have hargs : [arg].length = (g.P.fn q).params := by rw [hfn, hp1]; rfl
    unfold callFn at p
    rw [if_pos hargs] at p
    refine post_leave (Q := Q) (E := E) (fun _ _ _ _ => rfl) rfl rfl (fun _ _ _ _ _ r _ _ => r) ?_
    rw [hfn] at p ⊢
    exact p
end PyS
end

section
set_option Elab.async false
set_option linter.all false
set_option maxRecDepth 100000
set_option maxHeartbeats 800000
/-! PSnd21: a lambda without parameters handed to a def. -/
namespace PyS
open PySem PySem.Spec PyProof.Rows L2 Py

section
variable
        {X : Cx} {pins : List (Addr × Obj)} {σ : L2.St} {H : Hp} {s : Shared}
/-- the lambda called in the def that got it; the wish at that def's slots -/
theorem act_at {CXg : CXT} {Eg : XK} {Ng : List Str} {qg : Str} {sg : Scope} {gA f c' : Addr} {cdg pm ctv : Value} {params : Arguments} {body : Expr} {scope : Scope} {k : Nat} {a : Str} {pn : List (Addr × Obj)} {xe : Value → Shared → Prop} {W : WX} {tb : XK → TE} {p1 p2 : Pos}
    (I : Inv X pins σ H s) (L : LamX.LamS X.env.scope scope) (hf : s.heap.get? f = some (PySem.W.kla_obj "<lambda>" (X.env.qual ++ "<lambda>") params body scope (cloFrom X.env.cells scope.names []) pm c' ctv)) (hfn : H f = none) (hfr : f ∉ frs X.stack)
    (hbind :
            bindArgs (PySem.W.kla_fn "<lambda>" (X.env.qual ++ "<lambda>") params body scope (cloFrom X.env.cells scope.names []) pm (.ref c') ctv) ⟨[], []⟩ = pure [])
    (tk : Takes ((cxOf CXg X.prog X.w X.K X.mg X.base Ng qg sg gA cdg X.A X.stack s H Eg).tr pn xe) W) (hr : Room (k + 1) (X.A.deeper (envOfC qg sg s.heap.objs.size gA cdg)))
    (hbody : ∀ (A : Around) (outer : List Env) (s : Shared) (H : Hp) (E : XK), Room k (A.deeper (LamX.lamEnv X scope s.heap.objs.size f c')) → PE (LamX.lamCx X A outer s H E scope f c') body (tb E))
    (hN : Ng[0]? = some a) (hv : Vis sg a) (hd : (a == ("__debug__" : Str)) = false) (hcd : (a == ("__classdict__" : Str)) = false) :
    PE ((cxOf CXg X.prog X.w X.K X.mg X.base Ng qg sg gA cdg X.A X.stack s H Eg).tr pn xe) (.Call (.Name a p1) [] [] p2)
      (fun σZ HZ Q => σZ[0]? = some (some (.ref f)) ∧ HZ c' = some (LamX.CodeO c' (X.env.qual ++ "<lambda>")) ∧ tb (WE W σZ) σ HZ Q) := by
  refine ⟨fun pinsZ sZ σZ HZ Q IZ h =>
          ?_⟩
  obtain ⟨hs, hc, ht⟩ := h
  refine wpAny_Call_Name_kw (thn ((pe_var (pos := p1) (i := 0) hN hv hd hcd).run pinsZ sZ σZ HZ (fun v H1 => v = .ref f ∧ H1 = HZ) IZ ⟨.ref f, hs, rfl, rfl⟩) fun u s1 ⟨v, H1, I1, r1, q1⟩ => ?_)
  obtain ⟨ev, eH⟩ := q1
  subst ev
  rw [eH] at I1
  obtain rfl :
          u = Value.ref f := r1
  have un :
          Un (frs X.stack) [] H HZ s.heap s1.heap := I1.base
  have of1 := un.keep f _ hf hfn hfr (by simp)
  refine PySem.W.callWith_F0 ⟨_,
          _, _, _, of1⟩ ?_
  obtain ⟨⟨oc,
          vs, t, hoc, hdc, hvc⟩, _, _⟩ := I1.hok c' _ hc
  have rc : codeAny (model X.prog X.w) (X.A.deeper (envOfC qg sg s.heap.objs.size gA cdg)) (.call (.ref f) ⟨[], []⟩) (CR (L2.CX X.prog X.w) (envOfC qg sg s.heap.objs.size gA cdg :: X.stack) X.prog X.w HZ s1 Q (WE W σZ)) s1 := by
    refine PySem.W.kla_callFunE hr.depth of1 rfl L.co L.gen rfl ⟨c',
            oc, vs, t, rfl, hoc, hdc, hvc⟩ ?_
    rw [hbind]
    refine wpAny_pure (wpAny_newFunctionEnv (fun y hy =>
            (L.own y hy).2) (fun y hy => absurd hy (by simp)) (fun h₁ hns hsb => ⟨I1.nolimit.fresh _ hsb, ?_⟩) L.kind)
    show codeAny _ _ (.expr body (LamX.lamEnv X scope s1.heap.objs.size f c')) _ _
    have kp :
            ∀ b o, s1.heap.get? b = some o → h₁.get? b = some o := fun b o e => hsb.extBut b o (Nat.ne_of_lt (Heap.lt_size e)) (Heap.get?_push_of_some _ e)
    have J := LamX.lam_start2 (E := WE W σZ) (f := f) (c' := c') (tk := s1.toks + ([] : List (Str × Value)).length) I L I1.env0 hr.hd un hns kp
    refine PySem.W.kla_codeExpr (wpAny_mono ((hbody _ _ s1 HZ (WE W σZ) (hr.deeper _)).run [] _ _ HZ Q J ht) (fun v s' hq => ?_) fun e s' hq => hq)
    obtain ⟨w',
            H', J', rv, q⟩ := hq
    exact ⟨w',
            H', J'.os, J'.bare, J'.base, J'.hok, rv, q⟩
  refine wpAny_call (codeAny_mono rc fun r s' hq =>
          ?_)
  cases r with
  | error e => exact passAt tk σZ pinsZ HZ s1 e s' I1 hq
  | ok fl => cases fl <;> first | exact I1.after hq | exact False.elim hq
end
section
variable {g : Stat} {N : List Str} {sc : Scope} {K : PySem.W.Frag} {F R H H1 : Hp} {ι : Nat → Addr} {S : Sto}
theorem Rep.extN (rp : Rep K g F R ι S H) (e : LamX.ExtN H H1) (t : LamX.Tabs g.T H1) : Rep K g F R ι S H1 := by
  refine ⟨fun b o q => e b o (rp.fH _ _ q) fun ps z => rp.ntF b ps (by rw [q, z]), fun b o q => e b o (rp.rH _ _ q) (rp.ntR b o q).1, fun i o q => ?_, rp.inj, rp.fr, rp.dj, t, rp.ntF, rp.ntR⟩
  by_cases hl : live o
  · obtain ⟨u, hu, n1⟩ := RB.there hl (rp.box i o q)
    exact RB.at ((e _ _ hu n1).trans hu.symm) (rp.box i o q)
  · cases o with
    | dead => trivial
    | _ => exact absurd trivial hl
/-- the lambda's code object is known from now on -/
theorem Rep.code {c' : Addr} {q : Str} (rp : Rep K g F R ι S H) (hc : H c' = some (LamX.CodeO c' q)) : ∃ F1, Same F F1 ∧ Rep K g F1 R ι S H ∧ F1 c' = some (LamX.CodeO c' q) := by
  cases hF : F c' with
  | some o =>
    have := rp.fH _ _ hF
    rw [hc] at this
    cases this
    exact ⟨F, Same.refl _, rp, hF⟩
  | none =>
    have hR : R c' = none := by
      cases hR : R c' with
      | none => rfl
      | some o =>
        have z := rp.rH _ _ hR
        rw [hc] at z
        exact absurd (Option.some.inj z).symm ((rp.ntR _ _ hR).2 _)
    obtain ⟨r1, sm⟩ := rp.freeze hc hF hR (fun i o e hl z => by
      obtain ⟨u, hu, _, n2⟩ := ho_plain hl (rp.box i o e)
      rw [z, hc] at hu
      exact n2 _ (Option.some.inj hu).symm) (fun ps => LamX.codeO_ne ps)
    exact ⟨_, sm, r1, upd_same⟩
theorem REnv.noBox {LR : LRT} {F' : Hp} {ι' : Nat → Addr} {m m' : Nat} {σ : L2.St} {env : Slots} (hl : LMono LR) (sm : Same F F') (h : REnv K g.gc LR F ι m σ env) : REnv K g.gc LR F' ι' m' σ (Py.noBox env) := by
  refine ⟨by unfold Py.noBox; rw [List.length_map]; exact h.1, fun i v q => ?_⟩
  unfold Py.noBox at q
  rw [List.getElem?_map] at q
  cases hq : env[i]? with
  | none =>
          rw [hq] at q; cases q
  | some o =>
    rw [hq] at q
    cases o with
    | none => cases q
    | some u =>
      obtain ⟨x, h1, h2⟩ := h.2 i u hq
      cases u with
      | box n => cases q
      | d d => cases q; exact ⟨x, h1, RD.mono sm h2⟩
      | ro xs =>
        cases q
        obtain ⟨a, vs, e, a1, a2⟩ := h2
        exact ⟨x, h1, a, vs, e, Same.seq sm a1, RDs.mono sm a2⟩
      | lam j => cases q; exact ⟨x, h1, hl _ _ _ _ sm h2⟩
      | lams js =>
        cases q
        obtain ⟨a, vs, e, a1, a2⟩ := h2
        exact ⟨x, h1, a, vs, e, sm _ _ a1, pair_mono hl sm a2⟩
      | new xs => exact h2.elim
theorem PostF.up {Q : VK} {E : XK} {r : Rs Vl} {F1 : Hp} (sm : Same F F1) (h : PostF K g F R ι S r Q E) : PostF K g F1 R ι S r Q E := by
  cases r with
  | bad => exact h
  | exc e S' => exact fun F' ι' H' c d s1 i1 r1 x1 => h F' ι' H' c d (sm.trans s1) i1 r1 x1
  | ok u S' => exact fun F' ι' H' y s1 i1 r1 x1 => h F' ι' H' y (sm.trans s1) i1 r1 x1
/-- the def that is handed a lambda -/
structure CaK (g : Stat) (q : Nat) (x a : Str) (Ng : List Str) (sg : Scope) (bg : List Stmt) (sb : SF) : Prop where
  ok : ∀ K mg, g.M K mg → mg x = some (.ref (g.fa q)) ∧ PySem.W.keepIn K (.ref (g.fa q)) = true ∧ ∃ oc od osl pg dV kV doc pm an cdv ct, K.lookup (g.fa q) = some ⟨oc, od, .func (PySem.W.fnOf x x pg bg sg dV kV doc pm an cdv ct), osl⟩ ∧ PySem.W.codeIn K cdv x = true ∧ L2.Binds K (PySem.W.fnOf x x pg bg sg dV kV doc pm an cdv ct) [a] []
  scp : FnScope Ng [a] sg
  n0 : Ng[0]? = some a
  vis : Vis sg a
  nd : (a == ("__debug__" : Str)) = false
  nc : (a == ("__classdict__" : Str)) = false
  fn : g.P.fn q = ⟨Ng.length, 1, sb⟩
  fs : FSs g Ng sg bg sb
/-- x(lambda: body) -/
theorem fe_callA {q j : Nat} {x a : Str} {Ng : List Str} {sg scope : Scope} {bg : List Stmt} {sb : SF} {params : Arguments} {body : Expr} {p lpos pos : Pos} {fl : EF} (CK : CaK g q x a Ng sg bg sb) (hg : sc.names.lookup x = some .globalImplicit) (hdb : (x == ("__debug__" : Str)) = false) (hL : LamX.LamS sc scope) (hdef : ∀ env, defaultsOf params env = ([], []))
    (hbind : ∀ (q : Str) (cl : List (Str × Addr)) (pm cv ctv : Value), bindArgs (PySem.W.kla_fn "<lambda>" q params body scope cl pm cv ctv) ⟨[], []⟩ = pure []) (hj : g.P.lam j = fl) (hfl : FE g N scope body fl) : FE g N sc (.Call (.Name x p) [.Lambda params body scope lpos] [] pos) (eCallA q j) := by
  refine fe_of (fun LR C X W ok tk => ?_) (fun _ _ => rfl) (fun _ _ => rfl)
  refine ⟨fun pins s σ H Q I h =>
          ?_⟩
  obtain ⟨env, F, R, ι, S, re, rp, p⟩ := h
  have p : PostE X.K g LR (fun c d H => W c d σ H) F R ι S (C.callA q (fun S' => C.lam j (Py.noBox env) S') S) Q := p
  rcases ok.hca q (fun S' => C.lam j (Py.noBox env) S') S with hb | ⟨hca, hcode, hq, hT, TB, k, hr, fok⟩
  · rw [hb] at p; exact p.elim
  rw [hca] at p
  obtain ⟨m1, m2, oc, od, osl, pg, dV, kV, doc, pm, an, cdv, ct, lk, hcg, hbg⟩ := CK.ok _ _ ok.facts
  have L : LamX.LamS X.env.scope scope := by rw [ok.sc]; exact hL
  refine wpAny_Call_Name_kw (ld_glob I (show X.env.scope.names.lookup x = _ by rw [ok.sc]; exact hg) m1 ?_ hdb)
  refine PySem.W.callWith_K (h₀ := X.base) I.ok.mod.kin m2 ?_ (by rfl) (by rfl)
  show wpAny _ _ (spliced ((false,
          eval (.Lambda params body scope lpos) X.env) :: backTo pos (starEach [] X.env))) _ _ s
  refine Calls.spliced_cons (LamX.lam_make2 (T := g.T) I TB hcode (by rw [hT, hq]; exact List.mem_cons_self) (fun p hp _ => by rw [hT] at hp; rw [List.mem_singleton.mp hp, hq]) rp.tabs (hdef _) (L.has I.ok) fun f c' pm' ctv H1 s' I1 eN T1 hf hfn hfr hco => ?_)
  refine Calls.spliced_nil ⟨I1.kIn,
          ?_⟩
  obtain ⟨F1, sm1, rp1, hFc⟩ := Rep.code (rp.extN eN T1) hco
  have lmz : LMono (fun F' v _ => v = .ref f ∧ F' c' = some (LamX.CodeO c' (X.env.qual ++ "<lambda>")) ∧ Same F1 F') := fun A B v j sm h => ⟨h.1, sm _ _ h.2.1, h.2.2.trans sm⟩
  have rc : codeAny (model X.prog X.w) X.A (.call (.ref (g.fa q)) ⟨[.ref f], []⟩) (CR (L2.CX X.prog X.w) X.stack X.prog X.w H1 s' Q (WE W σ)) s' := by
    refine LamX.run_ofS (N := Ng) (ps := [a]) (us := [.ref f]) (vs := [.ref f]) (k := k + 11) lk hcg CK.scp hr I1.env0 (hbg s' [.ref f] I1.kIn rfl) (.cons rfl .nil) rfl fun hr' => ?_
    refine ⟨tS X.K g (fun F' v _ => v = .ref f ∧ F' c' = some (LamX.CodeO c' (X.env.qual ++ "<lambda>")) ∧ Same F1 F') (bodyCx g.P C.rp noCall noCallA (fun S' => C.lam j (Py.noBox env) S')) (fun c d _ H => (WE W σ) c d H) sb, ?_, ?_⟩
    · have xok : XOk g (fun F' v _ => v = .ref f ∧ F' c' = some (LamX.CodeO c' (X.env.qual ++ "<lambda>")) ∧ Same F1 F') (bodyCx g.P C.rp noCall noCallA (fun S' => C.lam j (Py.noBox env) S')) Ng sg (cxOf (L2.CX X.prog X.w) X.prog X.w X.K X.mg X.base Ng x sg (g.fa q) cdv X.A X.stack s' H1 (WE W σ)) :=
        { hN := rfl, nd := CK.scp.nd, sc := rfl, calm := rfl, lm := lmz, facts := ok.facts, prg := ok.prg, rp := (fun d x z => ok.rp d x z), hlam := (fun j env S => .inr rfl), hca := (fun q act S => .inl rfl), room := ⟨0, hr'.mono (by omega), fun q hq => by rw [ok.prg]; exact ok_none⟩ }
      refine CK.fs.ps _ _ _ _ xok ⟨fun W' pn xe a' p1 p2 ha hv hd hc tk' => ?_, passes_of rfl, fun _ => rfl, rfl, rfl⟩ (takes_of rfl rfl rfl rfl)
      have ea : a' = a := by
        have z : Ng[0]? = some a' := ha
        rw [CK.n0] at z
        exact (Option.some.inj z).symm
      subst ea
      refine PE.imp (act_at (k := k + 10) (tb := fun E => tE X.K g LR (Py.lamCx C.call) (fun c d _ H => E c d H) (Py.fz fl)) I1 L hf hfn hfr (hbind _ _ _ _ _) tk' hr' (fun A outer s H E hr2 => ?_) CK.n0 CK.vis CK.nd CK.nc) fun σZ HZ QZ qz => ?_
      · have xl : XOk g LR (Py.lamCx C.call) N scope (LamX.lamCx X A outer s H E scope f c') :=
          { hN := ok.hN, nd := ok.nd, sc := rfl, calm := rfl, lm := ok.lm, facts := ok.facts, prg := ok.prg, rp := (fun d x z => by cases z), hlam := (fun j env S => .inl rfl), hca := (fun q act S => .inl rfl), room := ⟨k, hr2.mono (by omega), fok⟩ }
        have z := hfl.fz xl (takes_of rfl rfl rfl rfl : Takes (LamX.lamCx X A outer s H E scope f c') (fun c d _ H => E c d H))
        exact z
      · obtain ⟨env', F', R', ι', S', re', rp', p'⟩ := qz
        unfold eAct at p'
        split at p'
        · rename_i j' hj'
          obtain ⟨x0, h0, hx, hc', sm'⟩ := re'.2 0 _ hj'
          subst hx
          refine ⟨h0, rp'.fH _ _ hc', Py.noBox env, F', R', ι', S', REnv.noBox ok.lm (sm1.trans sm') re, rp', ?_⟩
          have hlam := ok.hlam j (Py.noBox env) S'
          have p' : PostE X.K g _ (fun c d H => W' c d σZ H) F' R' ι' S' (match C.lam j (Py.noBox env) S' with
            | .ok (.d x) S1 => .ok (.d x) S1
            | .exc x S1 => .exc x S1
            | _ => .bad) QZ := p'
          rcases hlam with z | z
          · rw [z] at p'; exact p'.elim
          · rw [z, hj] at p'
            cases hk : Py.fz fl (Py.lamCx C.call) (Py.noBox env) S' with
            | bad => rw [hk] at p'; exact p'
            | exc e S1 => rw [hk] at p'; exact p'
            | ok v S1 =>
              rw [hk] at p'
              cases v with
              | d x => exact p'
              | _ => exact p'.elim
        · exact p'.elim
    · refine ⟨some (.lam 0) :: List.replicate (Ng.length - 1) none, F1, R, ι, S, ?_, rp1, ?_⟩
      · refine ⟨by simp [L2.start], fun i v qv => ?_⟩
        cases i with
        | zero =>
          simp at qv
          subst qv
          exact ⟨.ref f, rfl, rfl, hFc, Same.refl _⟩
        | succ i =>
          rw [List.getElem?_cons_succ, List.getElem?_replicate] at qv
          split at qv <;> cases qv
      · have p := postF_of p
        unfold callAct at p
        rw [CK.fn, if_pos rfl] at p
        exact post_leave (Q := Q) (E := WE W σ) (fun _ _ _ _ => rfl) rfl rfl (fun _ _ _ _ _ r b hb => by rcases hb with rfl | ⟨k, rfl⟩ <;> exact r) (PostF.up sm1 p)
  refine wpAny_call (codeAny_mono rc fun r s2 hq =>
          ?_)
  cases r with
  | error e => exact passAt tk σ pins H1 s' e s2 I1 hq
  | ok fl => cases fl <;> first | exact I1.after hq | exact False.elim hq
end
end PyS
end

section
set_option Elab.async false
set_option linter.all false
set_option maxRecDepth 100000
set_option maxHeartbeats 800000
/-! PSnd22: the end of a law: its def called once, at the caller, where no repr is under way. -/
namespace PyS
open PySem PySem.Spec PyProof.Rows L2 Py

section
variable {P : Program} {w : World} {K : PySem.W.Frag} {mg mb : Str → Option Value} {fa a lc lt : Addr} {s₁ : Shared} {vs : List Value} {ns : List Int}
/-- what is tracked at the start: the lambdas' table, and the script unless it stands in the written part -/
def startH (K : PySem.W.Frag) (lt a : Addr) (vs : List Value) (ns : List Int) : Hp := fun b =>
  if b = lt then some (.tbl #[]) else if b = a ∧ K.lookup a = none then some (.frz { cls := .type "list", data := .seq vs.toArray } (.lst (ns.map V.int))) else none
/-- .. of it what is frozen -/
def startF (K : PySem.W.Frag) (lt a : Addr) (vs : List Value) (ns : List Int) : Hp := fun b => if b = lt then none else startH K lt a vs ns b
theorem end_call (KX : K.In s₁.heap) (hns : s₁.heap.Ns mainGlobals mg) (hb : s₁.heap.Ns builtinsNs mb) (hbb : ∀ x : Str, x ≠ "__name__" → mb x = bootBuiltins x) (hlim : s₁.heap.NoLimit) (hg : s₁.gens = #[])
    (hT : s₁.heap.get? lt = some { cls := .none, data := .fields #[] }) (nT : K.lookup lt = none) (C : PySem.W.CodeHd s₁.heap lc lt)
    (hbm :
            ∃ (bm : Addr) (ob : Obj), mg "__builtins__" = some (.ref bm) ∧ bm ≠ builtinsNs ∧ s₁.heap.get? bm = some ob ∧ ob.cls = .type "module" ∧ ob.dict = some builtinsNs ∧ ob.data = .plain)
    (ha : s₁.heap.get? a = some { cls := .type "list", data := .seq vs.toArray }) (hi : IntsAre vs ns) (hl : ns.length ≤ sizeLine)
    (run : ∀ base : Heap, L2.Mod K mg base → LamX.TabB base mg lc lt → Env0 P w K mg base callerA [] s₁ (startH K lt a vs ns) →
      codeAny (model P w) callerA (.call (.ref fa) ⟨[.ref a], []⟩) (CR (L2.CX P w) [] P w (startH K lt a vs ns) s₁ (fun v _ => v = .bl true) fun _ _ _ => False) s₁) :
    codeAny (model P w) callerA (.call (.ref fa) ⟨[.ref a],
            []⟩) (fun r s' => r = .ok (.ret (.bool true)) ∧ OldK s₁.heap s'.heap ∧ s'.os = s₁.os ∧ AllBare s'.gens) s₁ := by
  have nal : a ≠ lt := fun z => by
    rw [z, hT] at ha
    have q := congrArg Obj.data (Option.some.inj ha)
    cases q
  have atL : startH K lt a vs ns lt = some (.tbl #[]) := if_pos rfl
  have cases3 : ∀ b, (b = lt) ∨ (b = a ∧ K.lookup a = none ∧ startH K lt a vs ns b = some (.frz { cls := .type "list", data := .seq vs.toArray } (.lst (ns.map V.int)))) ∨ (b ≠ lt ∧ startH K lt a vs ns b = none) := fun b => by
    by_cases h1 : b = lt
    · exact .inl h1
    · by_cases h2 : b = a ∧ K.lookup a = none
      · refine .inr (.inl ⟨h2.1, h2.2, ?_⟩)
        unfold startH
        rw [if_neg h1, if_pos h2]
      · refine .inr (.inr ⟨h1, ?_⟩)
        unfold startH
        rw [if_neg h1, if_neg h2]
  have hok : HOk P w (startH K lt a vs ns) s₁.heap := fun b u z => by
    rcases cases3 b with rfl | ⟨rfl, h2, e⟩ | ⟨_, e⟩
    · rw [atL] at z
      cases z
      exact hT
    · rw [e] at z
      cases z
      exact ⟨ha, by rw [List.length_map]; exact hl, vs, _, vals_ints hi, ha⟩
    · rw [e] at z
      cases z
  have old : ∀ {b : Addr} {o : Obj}, s₁.heap.get? b = some o → (∀ us m, o.data ≠ .seq us m) → o.data ≠ .fields #[] → (hidT s₁.heap (startH K lt a vs ns)).get? b = some o := fun {b o} e h1 h2 => by
    rcases cases3 b with rfl | ⟨rfl, _, _⟩ | ⟨_, q⟩
    · rw [hT] at e
      cases e
      exact (h2 rfl).elim
    · rw [ha] at e
      cases e
      exact (h1 _ _ rfl).elim
    · exact hidT_get e q
  have dic : ∀ {b : Addr} {m : Str → Option Value}, s₁.heap.Ns b m → (hidT s₁.heap (startH K lt a vs ns)).Ns b m := fun ⟨o, es, ep, e, hd, r⟩ =>
    ⟨o, es, ep, old e (fun us m z => by rw [hd] at z; cases z) (fun z => by rw [hd] at z; cases z), hd, r⟩
  have kin : K.In (hidT s₁.heap (startH K lt a vs ns)) := fun b o e => by
    rcases cases3 b with rfl | ⟨rfl, h2, _⟩ | ⟨_, q⟩
    · rw [nT] at e
      cases e
    · rw [h2] at e
      cases e
    · exact hidT_get (KX b o e) q
  have mod : L2.Mod K mg (hidT s₁.heap (startH K lt a vs ns)) := ⟨kin, dic hns, ⟨mb, dic hb, hbb⟩, let ⟨mc, h1, h2⟩ := hlim; ⟨mc, dic h1, h2⟩⟩
  have tab : LamX.TabB (hidT s₁.heap (startH K lt a vs ns)) mg lc lt := by
    refine ⟨?_, ?_, fun z => ?_⟩
    · obtain ⟨o, us, file, tf, flags, tg, inF, text, tt, e1, r1, r2, r3, r⟩ := C
      exact ⟨o, us, file, tf, flags, tg, inF, text, tt, old e1 (fun us m z => by rw [r2] at z; cases z) (fun z => by rw [r2] at z; cases z; simp at r3), r1, r2, r3, r⟩
    · obtain ⟨bm,
            ob, b1, b2, b3, b4, b5, b6⟩ := hbm
      refine ⟨bm, ob, b1, b2, fun q => ?_, fun q => ?_, old b3 (fun us m z => by rw [b6] at z; cases z) (fun z => by rw [b6] at z; cases z), b4, b5, b6⟩
      · obtain ⟨o,
              es, ep, e, hd, _⟩ := hns
        rw [q, e] at b3
        cases b3
        rw [hd] at b6
        cases b6
      · rw [q, hT] at b3
        cases b3
        cases b6
    · obtain ⟨o,
            es, ep, e, hd, _⟩ := hns
      rw [z, hT] at e
      cases e
      cases hd
  have e0 : Env0 P w K mg (hidT s₁.heap (startH K lt a vs ns)) callerA [] s₁ (startH K lt a vs ns) := ⟨rfl, mod, fun b o e => of_hidT e, Nat.le_of_eq (hidT_size _ _), trivial, (fun b hb => by cases hb), hok, .of_eq hg⟩
  refine codeAny_mono (run _ mod tab e0) fun r s' h => ?_
  cases r with
  | error e =>
    obtain ⟨_, _, _, _, _, _, _, _, _, _, _, _, z⟩ := (show L2.CX P w [] _ s₁ (fun _ _ _ => False) e s' from h)
    exact z.elim
  | ok fl =>
    cases fl with
    | ret u =>
      obtain ⟨v,
              H', os, bare, un, hok', r', q⟩ := h
      have q' : v = .bl true := q
      subst q'
      obtain rfl :
              u = Value.bool true := r'
      obtain ⟨more, hm⟩ := un.tbls lt #[] atL
      have tabAt : s'.heap.get? lt = some { cls := .none, data := .fields (#[] ++ more) } := hok' lt _ hm
      have rest : ∀ b o, b ≠ lt → s₁.heap.get? b = some o → s'.heap.get? b = some o := fun b o nb e => by
        rcases cases3 b with h1 | ⟨_, _, h3⟩ | ⟨_, h3⟩
        · exact absurd h1 nb
        · have z := un.frzs b _ _ h3
          obtain ⟨e1, _⟩ := hok b _ h3
          obtain ⟨e2, _⟩ := hok' b _ z
          rw [e] at e1
          cases e1
          exact e2
        · exact un.keep b o e h3 (by simp [frs]) (by simp)
      refine ⟨rfl,
              ⟨fun b o e => ?_, fun b o e => ?_⟩, os, bare⟩
      · by_cases hb : b = lt
        · subst hb
          rw [hT] at e
          cases e
          exact .inr (.inl ⟨(C.tab hT).isCodeTable, rfl, #[], more, rfl, tabAt⟩)
        · exact .inl (rest b o hb e)
      · by_cases hb : b = lt
        · subst hb
          exact ⟨_, tabAt⟩
        · exact ⟨o, rest b o hb e⟩
    | _ => exact False.elim h
end
/-- what a law's text gives at the head's heap h -/
def EndF (l : PySem.W.OpenLaw) (n : Nat) (K : PySem.W.Frag) (mg : Str → Option Value) (fa : Addr) (h : Heap) : Prop :=
  ∃ (g : Stat) (qL kk : Nat), g.M K mg ∧ g.pr = l.prog ∧ g.fa qL = fa ∧ (∀ q, q < g.nf → DefOk g q) ∧ DefOk g qL ∧ (g.ps qL).length = 1 ∧ (∀ (s : Shared) (us : List Value), us.length = 1 → BindsTo s (g.fd qL) ⟨us, []⟩ ((g.ps qL).zip us)) ∧
    (∀ oc od osl name (qual : Str) params body sc dV kV doc pm an cdv ct, K.lookup (g.fa qL) = some ⟨oc, od, .func (PySem.W.fnOf name qual params body sc dV kV doc pm an cdv ct), osl⟩ → cdv = .ref g.lc ∧ (envOfC qual sc 0 (g.fa qL) cdv).qual ++ "<lambda>" = g.lq) ∧
    g.T = [(g.lt, g.lq)] ∧ h.get? g.lt = some { cls := .none, data := .fields #[] } ∧ K.lookup g.lt = none ∧ PySem.W.CodeHd h g.lc g.lt ∧ Room (9 * kk + 13) callerA ∧
    ∀ ns : List Int, ns.length ≤ n → (∀ z ∈ ns, Builtin.Int.intBits z ≤ 1048576) → ∃ S', topEv g.P g.rp kk qL [.ro (ns.map D.int)] [] = .ok (.d (.bl true)) S'
theorem end_run {l : PySem.W.OpenLaw} {n : Nat} {w : World} {K : PySem.W.Frag} {mg mb : Str → Option Value} {fa a : Addr} {s₁ : Shared} {vs : List Value} {ns : List Int} (E : EndF l n K mg fa s₁.heap)
    (KX :
            K.In s₁.heap) (hns : s₁.heap.Ns mainGlobals mg) (hb : s₁.heap.Ns builtinsNs mb) (hbb : ∀ x : Str, x ≠ "__name__" → mb x = bootBuiltins x) (hlim : s₁.heap.NoLimit) (hg : s₁.gens = #[])
    (hbm :
            ∃ (bm : Addr) (ob : Obj), mg "__builtins__" = some (.ref bm) ∧ bm ≠ builtinsNs ∧ s₁.heap.get? bm = some ob ∧ ob.cls = .type "module" ∧ ob.dict = some builtinsNs ∧ ob.data = .plain)
    (ha : s₁.heap.get? a = some { cls := .type "list", data := .seq vs.toArray }) (hi : IntsAre vs ns) (hl : ns.length ≤ n) (hl2 : n ≤ sizeLine) (hbits : ∀ z ∈ ns, Builtin.Int.intBits z ≤ 1048576) :
    codeAny (model l.prog w) callerA (.call (.ref fa) ⟨[.ref a], []⟩) (fun r s' => r = .ok (.ret (.bool true)) ∧ OldK s₁.heap s'.heap ∧ s'.os = s₁.os ∧ AllBare s'.gens) s₁ := by
  obtain ⟨g, qL, kk, hM, hpr, hfa, dq, dL, hp1, hbind, hcode, hT, tT, nT, C, hr, top⟩ := E
  refine end_call KX hns hb hbb hlim hg tT nT C hbm ha hi (Nat.le_trans hl hl2) fun base mod tab e0 => ?_
  rw [← hpr] at e0 ⊢
  rw [← hfa]
  have nal : a ≠ g.lt := fun z => by
    rw [z, tT] at ha
    have q := congrArg Obj.data (Option.some.inj ha)
    cases q
  have rp : Rep K g (startF K g.lt a vs ns) (fun _ => none) (fun _ => 0) [] (startH K g.lt a vs ns) := by
    refine ⟨fun b o q => ?_, (fun b o q => by cases q), (fun i o q => by simp at q), (fun i j oi oj q => by simp at q), (fun i o q => by simp at q), (fun b o q => by cases q), fun p hp => ?_, fun b ps q => ?_, (fun b o q => by cases q)⟩
    · unfold startF at q
      split at q
      · cases q
      · exact q
    · rw [hT] at hp
      rw [List.mem_singleton.mp hp]
      exact LamX.TabS.nil (if_pos rfl)
    · unfold startF startH at q
      split at q
      · cases q
      · split at q <;> cases q
  have rv : RV K g.gc noLam (startF K g.lt a vs ns) (fun _ => 0) ([] : Sto).length (.ref a) (.ro (ns.map D.int)) := by
    refine ⟨a, ns.map V.int, rfl, ?_, rds_ints ns⟩
    cases hk : K.lookup a with
    | none =>
      refine .inl (.inr ⟨{ cls := .type "list", data := .seq vs.toArray }, ?_⟩)
      unfold startF startH
      rw [if_neg nal, if_neg nal, if_pos ⟨rfl, hk⟩]
    | some o =>
      have e := KX a o hk
      rw [ha] at e
      cases e
      exact .inr ⟨_, vs.toArray, _, hk, rfl, rfl, rfl, by rw [List.size_toArray, hi.length]; exact Nat.le_trans hl hl2, by simpa using vals_ints hi⟩
  obtain ⟨S', ht⟩ := top ns hl hbits
  refine top_run (k := 9 * kk) (call := callEv g.P kk) (v := .ref a) hM dL hp1 (fun q hq => all_ok hM dq kk q hq) rfl hr e0 (hbind s₁) rfl hcode hT tab rv rp ?_
  have ht : callFn g.P g.rp (callAct g.P g.rp) (callEv g.P kk) qL [.ro (ns.map D.int)] [] = .ok (.d (.bl true)) S' := ht
  rw [ht]
  intro F' ι' H' x _ _ _ rx
  have rx : RD K g.gc F' x (.bl true) := rx
  cases rx
  rfl
/-- what a law's written part gives; x: the law's def -/
def EndG (l : PySem.W.OpenLaw) (n : Nat) (K : PySem.W.Frag) (mg : Str → Option Value) (fa : Addr) (x : Str) : Prop :=
  ∃ (g : Stat) (qL kk : Nat), g.M K mg ∧ g.pr = l.prog ∧ g.fa qL = fa ∧ (∀ q, q < g.nf → DefOk g q) ∧ DefOk g qL ∧ (g.ps qL).length = 1 ∧ (∀ (s : Shared) (us : List Value), us.length = 1 → BindsTo s (g.fd qL) ⟨us, []⟩ ((g.ps qL).zip us)) ∧
    (∀ oc od osl name (qual : Str) params body sc dV kV doc pm an cdv ct, K.lookup (g.fa qL) = some ⟨oc, od, .func (PySem.W.fnOf name qual params body sc dV kV doc pm an cdv ct), osl⟩ → cdv = .ref g.lc ∧ (envOfC qual sc 0 (g.fa qL) cdv).qual ++ "<lambda>" = g.lq) ∧
    g.T = [(g.lt, g.lq)] ∧ PySem.W.tabIn K x = some (g.lc, g.lt) ∧ K.lookup g.lt = none ∧ Room (9 * kk + 13) callerA ∧
    ∀ ns : List Int, ns.length ≤ n → (∀ z ∈ ns, Builtin.Int.intBits z ≤ 1048576) → ∃ S', topEv g.P g.rp kk qL [.ro (ns.map D.int)] [] = .ok (.d (.bl true)) S'
/-- the end of a law's row -/
theorem walk_top {l : PySem.W.OpenLaw} {n : Nat} {q : Program} {loose : List Str} {XP : (Str → Option Value) → Heap → Prop} {YP : World → Heap → Prop} {d d' : DefRec} (hn : l.most = some n) (hn2 : n ≤ sizeLine) (hdf : d.params.defaults = []) (hrec : (recsOf q).find? (fun e => e.name == d.name) = some d')
    (F : ∀ (w : World) (mg : Str → Option Value) (fa : Addr) (h : Heap), YP w h → h.Ns mainGlobals mg → mg d.name = some (.ref fa) → ∃ K : PySem.W.Frag, K.In h ∧ EndG l n K mg fa d.name) : PySem.W.WalkO q loose XP YP l.row.toRowW d [] (fun f vs => PySem.call f vs) := by
  refine Att.attach_callB hn hdf fun w s₀ s₁ mg mb fa o pm cd doc a vs ns G Y ho hd hcd hmg hobj hints hlen hbits hg =>
          ?_
  obtain ⟨K, KX, g, qL, kk, e1, e2, e3, e4, e5, e6, e7, e8, e9, ht, e10, e11, e12⟩ := F w mg fa _ Y G.T.g hmg
  obtain ⟨C, tT⟩ := PySem.W.tab_of G.T KX hrec ht
  exact end_run ⟨g, qL, kk, e1, e2, e3, e4, e5, e6, e7, e8, e9, tT, e10, C, e11, e12⟩ KX G.T.g G.T.b G.T.builtins G.T.nolimit hg G.T.bmain hobj hints hlen hn2 hbits
section
variable {g : Stat} {N : List Str} {sc : Scope} {e : Expr} {f : EF} {pos p1 : Pos}
/-- name = e, the name a cell and e a comprehension -/
theorem fs_setS {x : Str} (i : Nat) (hi : N[i]? = some x) (hx : Loc sc x) (h : FE g N sc e f) (hs : ∀ (l : Nat) (env : PySem.Env), env.scope = sc → swapsWith e (some (.Name x p1)) l env = pure false) : FS g N sc (.Assign [.Name x p1] e pos) (sSet i f) := by
  refine ⟨fun LR C X W ok xs tk => PS.imp (ps_set (i := i) (by rw [ok.hN]; exact ok.nd) (by rw [ok.hN]; exact hi) (by rw [ok.sc]; exact hx) (h.fz ok tk) (hs _ _ ok.sc) (.inl (xs.fn x))) fun De σ H q => ?_⟩
  obtain ⟨env, F, R, ι, S, re, rp, p⟩ := q
  refine ⟨env, F, R, ι, S, re, rp, post_out p fun v S1 F1 ι1 H1 x hr sm ie rp1 rt p1 => ?_⟩
  exact p1 F1 ι1 _ H1 (Same.refl _) IExt.refl rp1 (REnv.set (REnv.ext ok.lm sm ie re) i (fz_rv hr rt)) (by rw [List.length_set])
end
end PyS
end

section
set_option Elab.async false
set_option linter.all false
set_option maxRecDepth 100000
set_option
        maxHeartbeats 400000
/-! PSnd23: from what the written part says to the facts of a text. -/
namespace PyS
open PySem PySem.Spec PyProof.Rows L2 Py

section
variable {g : Stat} {K : PySem.W.Frag} {mg : Str → Option Value} {h : Heap}
/-- the facts hold at one written part and one module -/
def Only (K : PySem.W.Frag) (mg : Str → Option Value) : PySem.W.Frag → (Str → Option Value) → Prop := fun K' mg' => K' = K ∧ mg' = mg
theorem defk_of {q : Nat} {N ps : List Str} {x qual : Str} {st : Stmt} {f : Addr} {fd : FuncData} (hM : g.M = Only K mg) (F : Fun K x qual st f fd) (hf : g.fa q = f) (hd : g.fd q = fd) (hp : g.ps q = ps) (S : FnScope N ps (defScope st)) : DefK g q N (defScope st) (defBody st) := by
  refine ⟨by rw [hp]; exact S, fun K' mg' m => ?_⟩
  rw [hM] at m
  obtain ⟨rfl, rfl⟩ := m
  obtain ⟨oc, od, kV, doc, pm, an, cdv, ct, osl, e, l, c⟩ := F.ex
  subst e
  exact ⟨oc, od, osl, x, qual, defArgs st, .none, kV, doc, pm, an, cdv, ct, by rw [hf]; exact l, c, hd⟩
theorem fni_of {q : Nat} {ps : List Str} {x qual : Str} {st : Stmt} {f : Addr} {fd : FuncData} (hM : g.M = Only K mg) (KX : K.In h) (G : h.Ns mainGlobals mg) (F : Fun K x qual st f fd) (a : PySem.W.nsIn K mainGlobals x = some (some (.ref f))) (hq : q < g.nf) (hf : g.fa q = f) (hd : g.fd q = fd) (hp : g.ps q = ps) (B : Binds K fd ps []) : FnI g q x := by
  refine ⟨hq, fun K' mg' m => ?_⟩
  rw [hM] at m
  obtain ⟨rfl, rfl⟩ := m
  rw [hf, hd, hp]
  exact ⟨PySem.W.mg_of KX G a, F.kp, B⟩
theorem mk_of {c q : Nat} {ps : List Str} {x m qual : Str} {st : Stmt} {C f : Addr} {fd : FuncData} (hM : g.M = Only K mg) (KX : K.In h) (G : h.Ns mainGlobals mg) (F : Fun K m qual st f fd) (a : PySem.W.nsIn K mainGlobals x = some (some (.ref C))) (mk : Mk K C f) (hq : q < g.nf) (hc : g.gc c = C) (hf : g.fa q = f) (hd : g.fd q = fd) (hp : g.ps q = ps) (B : Binds K fd ps []) : MkK g c q x := by
  refine ⟨hq, fun K' mg' m => ?_⟩
  rw [hM] at m
  obtain ⟨rfl, rfl⟩ := m
  rw [hf, hd, hp, hc]
  exact ⟨mk, PySem.W.mg_of KX G a, B⟩
theorem no_of {x : Str} (hM : g.M = Only K mg) (KX : K.In h) (G : h.Ns mainGlobals mg) (a : PySem.W.nsIn K mainGlobals x = some none) : ∀ K' mg', g.M K' mg' → mg' x = none := fun K' mg' m => by
  rw [hM] at m
  obtain ⟨rfl, rfl⟩ := m
  exact PySem.W.mg_none_of KX G a
theorem val_of {x : Str} {v : Value} (hM : g.M = Only K mg) (KX : K.In h) (G : h.Ns mainGlobals mg) (a : PySem.W.nsIn K mainGlobals x = some (some v)) : ∀ K' mg', g.M K' mg' → mg' x = some v := fun K' mg' m => by
  rw [hM] at m
  obtain ⟨rfl, rfl⟩ := m
  exact PySem.W.mg_of KX G a
theorem only_of {P : PySem.W.Frag → (Str → Option Value) → Prop} (hM : g.M = Only K mg) (p : P K mg) : ∀ K' mg', g.M K' mg' → P K' mg' := fun K' mg' m => by
  rw [hM] at m
  obtain ⟨rfl, rfl⟩ := m
  exact p
/-- the lambdas' table of the def x, from its parts -/
theorem tab_by {x : Str} {f c lt : Addr} {oc od osl fdt cc cd vs csl} (a : PySem.W.nsIn K mainGlobals x = some (some (.ref f))) (l : K.lookup f = some ⟨oc, od, .func fdt, osl⟩) (e : fdt.code = .ref c) (l2 : K.lookup c = some ⟨cc, cd, .fields vs, csl⟩) (e2 : (vs[11]? : Option Value) = some (.ref lt)) : PySem.W.tabIn K x = some (c, lt) := by
  unfold PySem.W.tabIn
  rw [a]
  simp only [l, e, l2, e2]
end
end PyS
end

section
set_option Elab.async false
set_option linter.all false
/-! PWp: reasoning about the functional reading, in plain Lean. -/
namespace Py
open PySem (Str)

/-- r ends well, with Q -/
def Rs.wp {α : Type} (r : Rs α) (Q : α → Sto → Prop) : Prop := match r with
  | .ok v S => Q v S
  | _ => False
/-- o goes on with Qn, or returns with Qr -/
def Ou.wp (o : Ou) (Qn : Slots → Sto → Prop) (Qr : Vl → Sto → Prop) : Prop := match o with
  | .nx e S => Qn e S
  | .rt v S => Qr v S
  | _ => False
theorem Rs.wp_ok {α : Type} {v : α} {S : Sto} {Q : α → Sto → Prop} : (Rs.ok v S).wp Q = Q v S := rfl
theorem Rs.wp_bind {α β : Type} {r : Rs α} {f : α → Sto → Rs β} {Q : β → Sto → Prop} (h : r.wp fun v S => (f v S).wp Q) : (r.bind f).wp Q := by
  cases r with
  | ok v S => exact h
  | exc x S => exact h.elim
  | bad => exact h.elim
theorem Rs.wp_out {α : Type} {r : Rs α} {f : α → Sto → Ou} {Qn Qr} (h : r.wp fun v S => (f v S).wp Qn Qr) : (r.out f).wp Qn Qr := by
  cases r with
  | ok v S => exact h
  | exc x S => exact h.elim
  | bad => exact h.elim
theorem Rs.wp_mono {α : Type} {r : Rs α} {Q Q' : α → Sto → Prop} (h : r.wp Q) (m : ∀ v S, Q v S → Q' v S) : r.wp Q' := by
  cases r with
  | ok v S => exact m _ _ h
  | exc x S => exact h.elim
  | bad => exact h.elim
theorem Rs.wp_eq {α : Type} {r : Rs α} {v : α} {S : Sto} {Q : α → Sto → Prop} (e : r = .ok v S) (h : Q v S) : r.wp Q := by rw [e]; exact h
theorem Rs.of_wp {α : Type} {r : Rs α} {Q : α → Sto → Prop} (h : r.wp Q) : ∃ v S, r = .ok v S ∧ Q v S := by
  cases r with
  | ok v S => exact ⟨v, S, rfl, h⟩
  | exc x S => exact h.elim
  | bad => exact h.elim
theorem Ou.wp_seq {a b : SF} {C : Cxt} {env : Slots} {S : Sto} {Qn Qr} (h : (a C env S).wp (fun e S1 => (b C e S1).wp Qn Qr) Qr) : (sSeq a b C env S).wp Qn Qr := by
  unfold sSeq
  cases e : a C env S <;> rw [e] at h <;> exact h
/-- a for loop by an invariant: I of what is still to come -/
theorem forGo_wp {t : Tg} {b : SF} {C : Cxt} {Qn Qr} (I : List D → Slots → Sto → Prop)
    (step : ∀ x xs env S, I (x :: xs) env S → ∃ env1, tgV t x env = some env1 ∧ match b C env1 S with
      | .nx e S1 => I xs e S1
      | .ct e S1 => I xs e S1
      | .bk e S1 => Qn e S1
      | .rt v S1 => Qr v S1
      | _ => False) (done : ∀ env S, I [] env S → Qn env S) :
    ∀ xs env S, I xs env S → (forGo t b C xs env S).wp Qn Qr
  | [], env, S, h => done env S h
  | x :: xs, env, S, h => by
    obtain ⟨env1, e, h1⟩ := step x xs env S h
    unfold forGo
    rw [e]
    dsimp only
    cases e2 : b C env1 S with
    | nx e S1 => rw [e2] at h1; exact forGo_wp I step done xs e S1 h1
    | ct e S1 => rw [e2] at h1; exact forGo_wp I step done xs e S1 h1
    | bk e S1 => rw [e2] at h1; exact h1
    | rt v S1 => rw [e2] at h1; exact h1
    | exc x S1 => rw [e2] at h1; exact h1.elim
    | bad => rw [e2] at h1; exact h1.elim
/-- a comprehension whose test and element change nothing -/
theorem compGo_pure {t : Tg} {c : Option EF} {f : EF} {C : Cxt} {env : Slots} {S : Sto} {p : D → Bool} {g : D → D} :
    ∀ (xs acc : List D), (∀ x ∈ xs, ∃ env1, tgV t x env = some env1 ∧ (match c with | none => p x = true | some c' => fz c' C env1 S = .ok (.d (.bl (p x))) S) ∧ (p x = true → fz f C env1 S = .ok (.d (g x)) S)) → acc.length + xs.length ≤ sizeCap →
    compGo t c f C env xs acc S = .ok (acc ++ (xs.filter p).map g) S
  | [], acc, _, _ => by simp [compGo]
  | x :: xs, acc, h, hl => by
    obtain ⟨env1, e, h1, h2⟩ := h x (List.mem_cons_self ..)
    have hl' : acc.length + (xs.length + 1) ≤ sizeCap := hl
    have hr : ∀ y ∈ xs, _ := fun y hy => h y (List.mem_cons_of_mem _ hy)
    have go : p x = true → compGo t c f C env xs (acc ++ [g x]) S = .ok (acc ++ ((x :: xs).filter p).map g) S := fun hp => by
      rw [compGo_pure xs (acc ++ [g x]) hr (by rw [List.length_append, List.length_singleton]; omega)]
      simp [List.filter_cons, hp]
    unfold compGo
    rw [e]
    dsimp only
    cases c with
    | none =>
      have hp : p x = true := h1
      rw [h2 hp]
      dsimp only
      rw [if_pos (by omega)]
      exact go hp
    | some c' =>
      have h1' : fz c' C env1 S = .ok (.d (.bl (p x))) S := h1
      dsimp only
      rw [h1']
      cases hp : p x with
      | true =>
        dsimp only
        rw [h2 hp]
        dsimp only
        rw [if_pos (by omega)]
        exact go hp
      | false =>
        dsimp only
        rw [compGo_pure xs acc hr (by omega)]
        simp [List.filter_cons, hp]
end Py
end

section
set_option Elab.async false
set_option linter.all false
/-! PEv: stepping through the functional reading by simp. -/
namespace Py
open PySem (Str)

/-! ### results -/
theorem Rs.bind_ok {α β : Type} {v : α} {S : Sto} {f : α → Sto → Rs β} : (Rs.ok v S).bind f = f v S := (rfl)
theorem Rs.bind_exc {α β : Type} {x : Xn} {S : Sto} {f : α → Sto → Rs β} : (Rs.exc x S).bind f = .exc x S := (rfl)
theorem Rs.out_ok {α : Type} {v : α} {S : Sto} {f : α → Sto → Ou} : (Rs.ok v S).out f = f v S := (rfl)
theorem Rs.out_exc {α : Type} {x : Xn} {S : Sto} {f : α → Sto → Ou} : (Rs.exc x S).out f = .exc x S := (rfl)
theorem Rs.bind_ite {α β : Type} {p : Prop} [Decidable p] {r r' : Rs α} {f : α → Sto → Rs β} : (if p then r else r').bind f = if p then r.bind f else r'.bind f := by split <;> rfl
theorem Rs.out_ite {α : Type} {p : Prop} [Decidable p] {r r' : Rs α} {f : α → Sto → Ou} : (if p then r else r').out f = if p then r.out f else r'.out f := by split <;> rfl
/-- one statement, then the others -/
def Ou.andT (o : Ou) (f : Slots → Sto → Ou) : Ou := match o with
  | .nx e S => f e S
  | o => o
theorem Ou.andT_nx {e : Slots} {S : Sto} {f : Slots → Sto → Ou} : (Ou.nx e S).andT f = f e S := (rfl)
theorem Ou.andT_rt {v : Vl} {S : Sto} {f : Slots → Sto → Ou} : (Ou.rt v S).andT f = .rt v S := (rfl)
theorem Ou.andT_bk {e : Slots} {S : Sto} {f : Slots → Sto → Ou} : (Ou.bk e S).andT f = .bk e S := (rfl)
theorem Ou.andT_ct {e : Slots} {S : Sto} {f : Slots → Sto → Ou} : (Ou.ct e S).andT f = .ct e S := (rfl)
theorem Ou.andT_exc {x : Xn} {S : Sto} {f : Slots → Sto → Ou} : (Ou.exc x S).andT f = .exc x S := (rfl)
theorem Ou.andT_ite {p : Prop} [Decidable p] {o o' : Ou} {f : Slots → Sto → Ou} : (if p then o else o').andT f = if p then o.andT f else o'.andT f := by split <;> rfl
theorem leave_ite {p : Prop} [Decidable p] {o o' : Ou} {n : Nat} : leave n (if p then o else o') = if p then leave n o else leave n o' := by split <;> rfl
theorem leave_nx {n : Nat} {e : Slots} {S : Sto} : leave n (.nx e S) = .ok (.d .non) (S.take n) := (rfl)
theorem leave_d {n : Nat} {x : D} {S : Sto} : leave n (.rt (.d x) S) = .ok (.d x) (S.take n) := (rfl)
theorem leave_box {n k : Nat} {S : Sto} : leave n (.rt (.box k) S) = if k < n then .ok (.box k) (S.take n) else .ok (.box k) S := (rfl)
theorem leave_exc {n : Nat} {x : Xn} {S : Sto} : leave n (.exc x S) = .exc x (S.take n) := (rfl)

section
variable {C : Cxt} {env : Slots} {S : Sto} {f g h c : EF} {i j : Nat} {x y : D} {b : Bool} {op : Cmp}

def frzK (v : Vl) (S : Sto) : Rs Vl := .ok v.frz S
theorem fz_eq : fz f C env S = (f C env S).bind frzK := (rfl)
theorem frzK_d : frzK (.d x) S = .ok (.d x) S := (rfl)
theorem frzK_new {xs : List D} : frzK (.new xs) S = .ok (.d (.lst xs)) S := (rfl)
theorem frzK_ro {xs : List D} : frzK (.ro xs) S = .ok (.ro xs) S := (rfl)
theorem frzK_box {n : Nat} : frzK (.box n) S = .ok (.box n) S := (rfl)
theorem frzK_lams {n : List Nat} : frzK (.lams n) S = .ok (.lams n) S := (rfl)

def varK (o : Option (Option Vl)) (S : Sto) : Rs Vl := match o with
  | some (some v) => .ok v S
  | _ => .bad
theorem eVar_eq : eVar i C env S = varK env[i]? S := (rfl)
theorem varK_some {v : Vl} : varK (some (some v)) S = .ok v S := (rfl)
theorem eC_eq : eC x C env S = .ok (.d x) S := (rfl)
theorem eLam_eq : eLam i C env S = .ok (.lam i) S := (rfl)

def takeK (o : Option (Option Vl)) (S : Sto) : Rs Vl := match o with
  | some (some (.box n)) => match S[n]? with
    | some (.lst xs) => .ok (.d (.lst xs)) (S.set n .dead)
    | _ => .bad
  | _ => .bad
theorem eTake_eq : eTake i C env S = takeK env[i]? S := (rfl)
def takeK2 (n : Nat) (o : Option Bx) (S : Sto) : Rs Vl := match o with
    | some (.lst xs) => .ok (.d (.lst xs)) (S.set n .dead)
    | _ => .bad
theorem takeK_box {n : Nat} : takeK (some (some (.box n))) S = takeK2 n S[n]? S := (rfl)
theorem takeK2_lst {n : Nat} {xs : List D} : takeK2 n (some (.lst xs)) S = .ok (.d (.lst xs)) (S.set n .dead) := (rfl)

def binK2 (op : Bin) (a b : Vl) (S2 : Sto) : Rs Vl := binV op (a.unbox S2) (b.unbox S2) S2
def binK (op : Bin) (g : EF) (C : Cxt) (env : Slots) (a : Vl) (S1 : Sto) : Rs Vl := (fz g C env S1).bind (binK2 op a)
theorem eBin_eq {op : Bin} : eBin op f g C env S = (fz f C env S).bind (binK op g C env) := (rfl)
theorem binK_eq {op : Bin} {a : Vl} : binK op g C env a S = (fz g C env S).bind (binK2 op a) := (rfl)
theorem binK2_eq {op : Bin} {a b : Vl} : binK2 op a b S = binV op (a.unbox S) (b.unbox S) S := (rfl)
theorem unbox_d {x : D} {S : Sto} : (Vl.d x).unbox S = .d x := (rfl)
def unboxK (v : Vl) (o : Option Bx) : Vl := match o with
    | some (.lst xs) => .d (.lst xs)
    | _ => v
theorem unbox_box {n : Nat} : (Vl.box n).unbox S = unboxK (.box n) S[n]? := (rfl)
theorem unboxK_lst {v : Vl} {xs : List D} : unboxK v (some (.lst xs)) = .d (.lst xs) := (rfl)
theorem binV_add {i j : Int} : binV .add (.d (.int i)) (.d (.int j)) S = .ok (.d (.int (i + j))) S := (rfl)
theorem binV_sub {i j : Int} : binV .sub (.d (.int i)) (.d (.int j)) S = .ok (.d (.int (i - j))) S := (rfl)
theorem binV_mul {i j : Int} (h : mulOk i j = true) : binV .mul (.d (.int i)) (.d (.int j)) S = .ok (.d (.int (i * j))) S := by
  show (match binInt .mul i j with | some k => Rs.ok (Vl.d (.int k)) S | none => .bad) = _
  unfold binInt; dsimp only; rw [if_pos h]
theorem binV_fdiv {i j : Int} (h : j ≠ 0 ∧ j.natAbs < 1073741824) : binV .fdiv (.d (.int i)) (.d (.int j)) S = .ok (.d (.int (i.fdiv j))) S := by
  show (match binInt .fdiv i j with | some k => Rs.ok (Vl.d (.int k)) S | none => .bad) = _
  unfold binInt; dsimp only; rw [if_pos h]
theorem binV_mod {i j : Int} (h : j ≠ 0) : binV .mod (.d (.int i)) (.d (.int j)) S = .ok (.d (.int (i.fmod j))) S := by
  show (match binInt .mod i j with | some k => Rs.ok (Vl.d (.int k)) S | none => .bad) = _
  unfold binInt; dsimp only; rw [if_pos h]
theorem binV_pow {i j : Int} (h : 0 ≤ j ∧ j ≤ 1000000 ∧ i.natAbs < 2 ^ 64) : binV .pow (.d (.int i)) (.d (.int j)) S = .ok (.d (.int (i ^ j.toNat))) S := by
  show (match binInt .pow i j with | some k => Rs.ok (Vl.d (.int k)) S | none => .bad) = _
  unfold binInt; dsimp only; rw [if_pos h]
theorem binV_cat {xs ys : List D} (h : xs.length + ys.length ≤ sizeCap) : binV .add (.d (.lst xs)) (.d (.lst ys)) S = .ok (.new (xs ++ ys)) S := by
  show (if _ then _ else _) = _
  rw [if_pos h]
theorem binV_rep {xs : List D} {k : Nat} (h : xs.length * k ≤ 1000000) (hk : k ≤ 1000000) : binV .mul (.d (.lst xs)) (.d (.int k)) S = .ok (.new (List.replicate k xs).flatten) S := by
  have hz : sizeCap = 16777216 := rfl
  unfold binV
  dsimp only
  rw [Int.toNat_natCast, if_pos ⟨by omega, by omega, by rw [hz]; omega⟩]
theorem binV_catT {xs ys : List D} (h : xs.length + ys.length ≤ sizeCap) : binV .add (.d (.tup xs)) (.d (.tup ys)) S = .ok (.d (.tup (xs ++ ys))) S := by
  show (if _ then _ else _) = _
  rw [if_pos h]

def negK (v : Vl) (S : Sto) : Rs Vl := match v with
  | .d (.int i) => .ok (.d (.int (-i))) S
  | _ => .bad
theorem eNeg_eq : eNeg f C env S = (fz f C env S).bind negK := (rfl)
theorem negK_int {i : Int} : negK (.d (.int i)) S = .ok (.d (.int (-i))) S := (rfl)
def notK (v : Vl) (S : Sto) : Rs Vl := match v with
  | .d (.bl b) => .ok (.d (.bl (!b))) S
  | _ => .bad
theorem eNot_eq : eNot f C env S = (fz f C env S).bind notK := (rfl)
theorem notK_b : notK (.d (.bl b)) S = .ok (.d (.bl (!b))) S := (rfl)
def andK (g : EF) (C : Cxt) (env : Slots) (a : Vl) (S1 : Sto) : Rs Vl := match a with
  | .d (.bl true) => g C env S1
  | .d (.bl false) => .ok (.d (.bl false)) S1
  | _ => .bad
theorem eAnd_eq : eAnd f g C env S = (fz f C env S).bind (andK g C env) := (rfl)
theorem andK_b : andK g C env (.d (.bl b)) S = if b = true then g C env S else .ok (.d (.bl false)) S := by cases b <;> rfl
def orK (g : EF) (C : Cxt) (env : Slots) (a : Vl) (S1 : Sto) : Rs Vl := match a with
  | .d (.bl true) => .ok (.d (.bl true)) S1
  | .d (.bl false) => g C env S1
  | _ => .bad
theorem eOr_eq : eOr f g C env S = (fz f C env S).bind (orK g C env) := (rfl)
theorem orK_b : orK g C env (.d (.bl b)) S = if b = true then .ok (.d (.bl true)) S else g C env S := by cases b <;> rfl
def ifK (f g : EF) (C : Cxt) (env : Slots) (a : Vl) (S1 : Sto) : Rs Vl := match a with
  | .d (.bl true) => f C env S1
  | .d (.bl false) => g C env S1
  | _ => .bad
theorem eIf_eq : eIf c f g C env S = (fz c C env S).bind (ifK f g C env) := (rfl)
theorem ifK_b : ifK f g C env (.d (.bl b)) S = if b = true then f C env S else g C env S := by cases b <;> rfl
theorem and_mg {a b : Bool} : (if a = true then Rs.ok (Vl.d (.bl b)) S else .ok (.d (.bl false)) S) = .ok (.d (.bl (a && b))) S := by cases a <;> rfl
theorem or_mg {a b : Bool} : (if a = true then Rs.ok (Vl.d (.bl true)) S else .ok (.d (.bl b)) S) = .ok (.d (.bl (a || b))) S := by cases a <;> rfl
theorem ite_mg {p : Prop} [Decidable p] {x y : D} : (if p then Rs.ok (Vl.d x) S else .ok (.d y) S) = .ok (.d (if p then x else y)) S := by split <;> rfl

def cmpK (op : Cmp) (g : EF) (C : Cxt) (env : Slots) (a : Vl) (S1 : Sto) : Rs Vl := (fz g C env S1).bind (cmpV op a)
theorem ite_bl_t {a : Bool} {b : Bool} : (if a = true then D.bl b else D.bl false) = D.bl (a && b) := by cases a <;> rfl
theorem ite_bl_f {a : Bool} {b : Bool} : (if a = true then D.bl true else D.bl b) = D.bl (a || b) := by cases a <;> rfl
theorem ite_bl_n {a : Bool} {b : Bool} : (if a = true then D.bl false else D.bl b) = D.bl (!a && b) := by cases a <;> rfl
theorem ite_bl_o {a : Bool} {b : Bool} : (if a = true then D.bl b else D.bl true) = D.bl (!a || b) := by cases a <;> rfl
theorem ite_int {p : Prop} [Decidable p] {a b : Int} : (if p then D.int a else D.int b) = D.int (if p then a else b) := by split <;> rfl
theorem eCmp_eq : eCmp op f g C env S = (fz f C env S).bind (cmpK op g C env) := (rfl)
theorem cmpK_eq {a : Vl} : cmpK op g C env a S = (fz g C env S).bind (cmpV op a) := (rfl)
theorem cmpV_lt {i j : Int} : cmpV .lt (.d (.int i)) (.d (.int j)) S = .ok (.d (.bl (decide (i < j)))) S := (rfl)
theorem cmpV_le {i j : Int} : cmpV .le (.d (.int i)) (.d (.int j)) S = .ok (.d (.bl (decide (i ≤ j)))) S := (rfl)
theorem cmpV_gt {i j : Int} : cmpV .gt (.d (.int i)) (.d (.int j)) S = .ok (.d (.bl (decide (j < i)))) S := (rfl)
theorem cmpV_ge {i j : Int} : cmpV .ge (.d (.int i)) (.d (.int j)) S = .ok (.d (.bl (decide (j ≤ i)))) S := (rfl)
theorem cmpV_eq {x y : D} (h : (x.cmpOk && y.cmpOk) = true) : cmpV .eq (.d x) (.d y) S = .ok (.d (.bl (x.eqv y))) S := by
  show (if _ then _ else _) = _
  rw [if_pos h]
theorem cmpV_ne {x y : D} (h : (x.cmpOk && y.cmpOk) = true) : cmpV .ne (.d x) (.d y) S = .ok (.d (.bl (!x.eqv y))) S := by
  show (if _ then _ else _) = _
  rw [if_pos h]
theorem cmpV_eqI {i j : Int} : cmpV .eq (.d (.int i)) (.d (.int j)) S = .ok (.d (.bl (i == j))) S := (rfl)
theorem cmpV_neI {i j : Int} : cmpV .ne (.d (.int i)) (.d (.int j)) S = .ok (.d (.bl (!(i == j)))) S := (rfl)
theorem cmpV_eqB {i j : Bool} : cmpV .eq (.d (.bl i)) (.d (.bl j)) S = .ok (.d (.bl (i == j))) S := (rfl)
theorem cmpV_neB {i j : Bool} : cmpV .ne (.d (.bl i)) (.d (.bl j)) S = .ok (.d (.bl (!(i == j)))) S := (rfl)
theorem cmpV_in {x : D} {v : Vl} {ys : List D} (hs : seqOf v S = some ys) (h : (x.cmpOk && ys.all D.cmpOk) = true) : cmpV .isIn (.d x) v S = .ok (.d (.bl (ys.any fun y => y.eqv x))) S := by
  unfold cmpV; simp only [unbox_d]
  rw [hs]; dsimp only; rw [if_pos h]
def inK (x : D) (o : Option (List D)) (S : Sto) : Rs Vl := match o with
    | some ys => if x.cmpOk && ys.all D.cmpOk then .ok (.d (.bl (ys.any fun y => y.eqv x))) S else .bad
    | none => .bad
theorem cmpV_inE {x : D} {v : Vl} : cmpV .isIn (.d x) v S = inK x (seqOf v S) S := by unfold cmpV inK; simp only [unbox_d]; cases seqOf v S <;> rfl
def ninK (x : D) (o : Option (List D)) (S : Sto) : Rs Vl := match o with
    | some ys => if x.cmpOk && ys.all D.cmpOk then .ok (.d (.bl (!ys.any fun y => y.eqv x))) S else .bad
    | none => .bad
theorem cmpV_ninE {x : D} {v : Vl} : cmpV .notIn (.d x) v S = ninK x (seqOf v S) S := by unfold cmpV ninK; simp only [unbox_d]; cases seqOf v S <;> rfl
theorem cmpV_nin {x : D} {v : Vl} {ys : List D} (hs : seqOf v S = some ys) (h : (x.cmpOk && ys.all D.cmpOk) = true) : cmpV .notIn (.d x) v S = .ok (.d (.bl (!ys.any fun y => y.eqv x))) S := by
  unfold cmpV; simp only [unbox_d]
  rw [hs]; dsimp only; rw [if_pos h]
def chK (op' : Cmp) (h : EF) (C : Cxt) (env : Slots) (b r : Vl) (S3 : Sto) : Rs Vl := match r with
  | .d (.bl true) => (fz h C env S3).bind (cmpV op' b)
  | .d (.bl false) => .ok (.d (.bl false)) S3
  | _ => .bad
def chK1 (op op' : Cmp) (h : EF) (C : Cxt) (env : Slots) (a b : Vl) (S2 : Sto) : Rs Vl := (cmpV op a b S2).bind (chK op' h C env b)
def chK0 (op op' : Cmp) (g h : EF) (C : Cxt) (env : Slots) (a : Vl) (S1 : Sto) : Rs Vl := (fz g C env S1).bind (chK1 op op' h C env a)
theorem eChain_eq {op op' : Cmp} : eChain op op' f g h C env S = (fz f C env S).bind (chK0 op op' g h C env) := (rfl)
theorem chK0_eq {op op' : Cmp} {a : Vl} : chK0 op op' g h C env a S = (fz g C env S).bind (chK1 op op' h C env a) := (rfl)
theorem chK1_eq {op op' : Cmp} {a b : Vl} : chK1 op op' h C env a b S = (cmpV op a b S).bind (chK op' h C env b) := (rfl)
theorem chK_b {op' : Cmp} {v : Vl} : chK op' h C env v (.d (.bl b)) S = if b = true then (fz h C env S).bind (cmpV op' v) else .ok (.d (.bl false)) S := by cases b <;> rfl
def D.isNon : D → Bool
  | .non => true
  | _ => false
def noneK (neg : Bool) (a : Vl) (S : Sto) : Rs Vl := match a with
  | .d .non => .ok (.d (.bl (!neg))) S
  | .d _ => .ok (.d (.bl neg)) S
  | _ => .bad
theorem eIsNone_eq {neg : Bool} : eIsNone neg f C env S = (fz f C env S).bind (noneK neg) := (rfl)
theorem noneK_d {neg : Bool} : noneK neg (.d x) S = .ok (.d (.bl (x.isNon != neg))) S := by cases x <;> cases neg <;> rfl
def instK (cs : List Nat) (ts : List Ty) (a : Vl) (S1 : Sto) : Rs Vl := match a.unbox S1 with
  | .d x => if kdOk cs (kdOf x) then .ok (.d (.bl (isTys ts (kdOf x)))) S1 else .bad
  | _ => .bad
theorem eIsInst_eq {cs : List Nat} {ts : List Ty} : eIsInst cs ts f C env S = (fz f C env S).bind (instK cs ts) := (rfl)
theorem instK_d {cs : List Nat} {ts : List Ty} (h : kdOk cs (kdOf x) = true) : instK cs ts (.d x) S = .ok (.d (.bl (isTys ts (kdOf x)))) S := by
  show (if _ then _ else _) = _
  rw [if_pos h]

theorem isTys_nil {k : Kd} : isTys [] k = false := (rfl)
theorem isTys_cons {t : Ty} {ts : List Ty} {k : Kd} : isTys (t :: ts) k = (kdIs t k || isTys ts k) := (rfl)
theorem kdIs_int_non : kdIs .int .non = false := (rfl)
theorem kdIs_int_bl : kdIs .int .bl = true := (rfl)
theorem kdIs_int_int : kdIs .int .int = true := (rfl)
theorem kdIs_int_str : kdIs .int .str = false := (rfl)
theorem kdIs_int_tup : kdIs .int .tup = false := (rfl)
theorem kdIs_int_lst : kdIs .int .lst = false := (rfl)
theorem kdIs_int_ins {c' : Nat} : kdIs .int (.ins c') = false := (rfl)
theorem kdIs_bool_non : kdIs .bool .non = false := (rfl)
theorem kdIs_bool_bl : kdIs .bool .bl = true := (rfl)
theorem kdIs_bool_int : kdIs .bool .int = false := (rfl)
theorem kdIs_bool_str : kdIs .bool .str = false := (rfl)
theorem kdIs_bool_tup : kdIs .bool .tup = false := (rfl)
theorem kdIs_bool_lst : kdIs .bool .lst = false := (rfl)
theorem kdIs_bool_ins {c' : Nat} : kdIs .bool (.ins c') = false := (rfl)
theorem kdIs_str_non : kdIs .str .non = false := (rfl)
theorem kdIs_str_bl : kdIs .str .bl = false := (rfl)
theorem kdIs_str_int : kdIs .str .int = false := (rfl)
theorem kdIs_str_str : kdIs .str .str = true := (rfl)
theorem kdIs_str_tup : kdIs .str .tup = false := (rfl)
theorem kdIs_str_lst : kdIs .str .lst = false := (rfl)
theorem kdIs_str_ins {c' : Nat} : kdIs .str (.ins c') = false := (rfl)
theorem kdIs_list_non : kdIs .list .non = false := (rfl)
theorem kdIs_list_bl : kdIs .list .bl = false := (rfl)
theorem kdIs_list_int : kdIs .list .int = false := (rfl)
theorem kdIs_list_str : kdIs .list .str = false := (rfl)
theorem kdIs_list_tup : kdIs .list .tup = false := (rfl)
theorem kdIs_list_lst : kdIs .list .lst = true := (rfl)
theorem kdIs_list_ins {c' : Nat} : kdIs .list (.ins c') = false := (rfl)
theorem kdIs_tuple_non : kdIs .tuple .non = false := (rfl)
theorem kdIs_tuple_bl : kdIs .tuple .bl = false := (rfl)
theorem kdIs_tuple_int : kdIs .tuple .int = false := (rfl)
theorem kdIs_tuple_str : kdIs .tuple .str = false := (rfl)
theorem kdIs_tuple_tup : kdIs .tuple .tup = true := (rfl)
theorem kdIs_tuple_lst : kdIs .tuple .lst = false := (rfl)
theorem kdIs_tuple_ins {c' : Nat} : kdIs .tuple (.ins c') = false := (rfl)
theorem kdIs_cls_non {c : Nat} : kdIs (.cls c) .non = false := (rfl)
theorem kdIs_cls_bl {c : Nat} : kdIs (.cls c) .bl = false := (rfl)
theorem kdIs_cls_int {c : Nat} : kdIs (.cls c) .int = false := (rfl)
theorem kdIs_cls_str {c : Nat} : kdIs (.cls c) .str = false := (rfl)
theorem kdIs_cls_tup {c : Nat} : kdIs (.cls c) .tup = false := (rfl)
theorem kdIs_cls_lst {c : Nat} : kdIs (.cls c) .lst = false := (rfl)
theorem kdIs_cls_ins {c : Nat} {c' : Nat} : kdIs (.cls c) (.ins c') = (c == c') := (rfl)
theorem instK_non {cs : List Nat} {ts : List Ty} : instK cs ts (.d .non) S = .ok (.d (.bl (isTys ts .non))) S := (rfl)
theorem instK_bl {cs : List Nat} {ts : List Ty} : instK cs ts (.d (.bl b)) S = .ok (.d (.bl (isTys ts .bl))) S := (rfl)
theorem instK_int {cs : List Nat} {ts : List Ty} {i : Int} : instK cs ts (.d (.int i)) S = .ok (.d (.bl (isTys ts .int))) S := (rfl)
theorem instK_str {cs : List Nat} {ts : List Ty} {t : Str} : instK cs ts (.d (.str t)) S = .ok (.d (.bl (isTys ts .str))) S := (rfl)
theorem instK_tup {cs : List Nat} {ts : List Ty} {xs : List D} : instK cs ts (.d (.tup xs)) S = .ok (.d (.bl (isTys ts .tup))) S := (rfl)
theorem instK_lst {cs : List Nat} {ts : List Ty} {xs : List D} : instK cs ts (.d (.lst xs)) S = .ok (.d (.bl (isTys ts .lst))) S := (rfl)
theorem instK_ins {cs : List Nat} {ts : List Ty} {c : Nat} {fs : List (Str × D)} (h : cs.contains c = true) : instK cs ts (.d (.ins c fs)) S = .ok (.d (.bl (isTys ts (.ins c)))) S := instK_d h
theorem evAll_nil : evAll [] C env S = .ok [] S := (rfl)
def consK2 (v : Vl) (vs : List Vl) (S2 : Sto) : Rs (List Vl) := .ok (v :: vs) S2
def consK (fs : List EF) (C : Cxt) (env : Slots) (v : Vl) (S1 : Sto) : Rs (List Vl) := (evAll fs C env S1).bind (consK2 v)
theorem evAll_cons {fs : List EF} : evAll (f :: fs) C env S = (fz f C env S).bind (consK fs C env) := (rfl)
theorem consK_eq {fs : List EF} {v : Vl} : consK fs C env v S = (evAll fs C env S).bind (consK2 v) := (rfl)
theorem consK2_eq {v : Vl} {vs : List Vl} : consK2 v vs S = .ok (v :: vs) S := (rfl)
theorem toDs_nil : toDs [] = some [] := (rfl)
theorem toDs_cons {vs : List Vl} : toDs (.d x :: vs) = (toDs vs).map (x :: ·) := (rfl)
def tupK (vs : List Vl) (S1 : Sto) : Rs Vl := match toDs vs with
  | some ds => if ds.length ≤ sizeCap then .ok (.d (.tup ds)) S1 else .bad
  | none => .bad
theorem eTup_eq {fs : List EF} : eTup fs C env S = (evAll fs C env S).bind tupK := (rfl)
theorem tupK_0 : tupK [] S = .ok (.d (.tup [])) S := (rfl)
theorem tupK_1 {a : D} : tupK [.d a] S = .ok (.d (.tup [a])) S := (rfl)
theorem tupK_2 {a b : D} : tupK [.d a, .d b] S = .ok (.d (.tup [a, b])) S := (rfl)
theorem tupK_3 {a b c : D} : tupK [.d a, .d b, .d c] S = .ok (.d (.tup [a, b, c])) S := (rfl)
theorem tupK_4 {a b c d : D} : tupK [.d a, .d b, .d c, .d d] S = .ok (.d (.tup [a, b, c, d])) S := (rfl)
def lstK (vs : List Vl) (S1 : Sto) : Rs Vl := match toDs vs with
  | some ds => if ds.length ≤ sizeCap then .ok (.new ds) S1 else .bad
  | none => .bad
theorem eLst_eq {fs : List EF} : eLst fs C env S = (evAll fs C env S).bind lstK := (rfl)
theorem lstK_vs {vs : List Vl} {ds : List D} (h : toDs vs = some ds) (hl : ds.length ≤ sizeCap) : lstK vs S = .ok (.new ds) S := by
  unfold lstK; rw [h]; dsimp only; rw [if_pos hl]
theorem lstK_0 : lstK [] S = .ok (.new []) S := (rfl)
theorem lstK_1 {a : D} : lstK [.d a] S = .ok (.new [a]) S := (rfl)
theorem lstK_2 {a b : D} : lstK [.d a, .d b] S = .ok (.new [a, b]) S := (rfl)
theorem lstK_3 {a b c : D} : lstK [.d a, .d b, .d c] S = .ok (.new [a, b, c]) S := (rfl)
theorem lstK_4 {a b c d : D} : lstK [.d a, .d b, .d c, .d d] S = .ok (.new [a, b, c, d]) S := (rfl)
theorem lstK_5 {a b c d e : D} : lstK [.d a, .d b, .d c, .d d, .d e] S = .ok (.new [a, b, c, d, e]) S := (rfl)
theorem lstK_6 {a b c d e f : D} : lstK [.d a, .d b, .d c, .d d, .d e, .d f] S = .ok (.new [a, b, c, d, e, f]) S := (rfl)
theorem lstK_7 {a b c d e f g : D} : lstK [.d a, .d b, .d c, .d d, .d e, .d f, .d g] S = .ok (.new [a, b, c, d, e, f, g]) S := (rfl)
theorem lstK_8 {a b c d e f g h : D} : lstK [.d a, .d b, .d c, .d d, .d e, .d f, .d g, .d h] S = .ok (.new [a, b, c, d, e, f, g, h]) S := (rfl)
theorem lstK_9 {a b c d e f g h i : D} : lstK [.d a, .d b, .d c, .d d, .d e, .d f, .d g, .d h, .d i] S = .ok (.new [a, b, c, d, e, f, g, h, i]) S := (rfl)
theorem eLams_eq {js : List Nat} : eLams js C env S = .ok (.lams js) S := (rfl)

def ixK (g : EF) (C : Cxt) (env : Slots) (a : Vl) (S1 : Sto) : Rs Vl := (fz g C env S1).bind (ixV a)
theorem eIx_eq : eIx f g C env S = (fz f C env S).bind (ixK g C env) := (rfl)
theorem ixK_eq {a : Vl} : ixK g C env a S = (fz g C env S).bind (ixV a) := (rfl)
theorem ixV_nat {v : Vl} {xs : List D} {k : Nat} {y : D} (hs : seqOf v S = some xs) (h : xs[k]? = some y) : ixV v (.d (.int (k : Int))) S = .ok (.d y) S := by
  have hk : k < xs.length := by
    rcases Nat.lt_or_ge k xs.length with h1 | h1
    · exact h1
    · rw [List.getElem?_eq_none h1] at h; exact absurd h (by simp)
  have : ixOf xs.length (k : Int) = some k := by
    unfold ixOf; rw [if_pos (by omega), if_pos (by omega)]; simp
  unfold ixV Vl.int?
  rw [hs]; dsimp only; rw [this]; dsimp only; rw [h]
theorem ixV_int {v : Vl} {xs : List D} {i : Int} {y : D} (hs : seqOf v S = some xs) (h0 : 0 ≤ i) (h : xs[i.toNat]? = some y) : ixV v (.d (.int i)) S = .ok (.d y) S := by
  have := ixV_nat (S := S) hs h
  rwa [Int.toNat_of_nonneg h0] at this
theorem ixV_neg1 {v : Vl} {xs : List D} {y : D} (hs : seqOf v S = some xs) (h : xs[xs.length - 1]? = some y) : ixV v (.d (.int (-1))) S = .ok (.d y) S := by
  have hk : 0 < xs.length := by
    rcases Nat.eq_zero_or_pos xs.length with h1 | h1
    · rw [List.getElem?_eq_none (by omega)] at h; exact absurd h (by simp)
    · exact h1
  have : ixOf xs.length (-1 : Int) = some (xs.length - 1) := by
    unfold ixOf; rw [if_neg (by omega), if_pos (by omega)]; congr 1; omega
  unfold ixV Vl.int?
  rw [hs]; dsimp only; rw [this]; dsimp only; rw [h]

def keyK (k : Str) (a : Vl) (S1 : Sto) : Rs Vl := match a with
  | .box n => match S1[n]? with
    | some (.dct kvs) => match getK (.inr k) kvs with
      | some x => .ok (.d x) S1
      | none => .bad
    | _ => .bad
  | _ => .bad
theorem eKey_eq {k : Str} : eKey f k C env S = (fz f C env S).bind (keyK k) := (rfl)
def keyK2 (k : Str) (o : Option Bx) (S1 : Sto) : Rs Vl := match o with
    | some (.dct kvs) => match getK (.inr k) kvs with
      | some x => .ok (.d x) S1
      | none => .bad
    | _ => .bad
theorem keyK_box {k : Str} {n : Nat} : keyK k (.box n) S = keyK2 k S[n]? S := (rfl)
theorem keyK2_dct {k : Str} {kvs : List (Sum Int Str × D)} (h : getK (.inr k) kvs = some x) : keyK2 k (some (.dct kvs)) S = .ok (.d x) S := by
  unfold keyK2; dsimp only; rw [h]
theorem keyK_0 {k : Str} {kvs : List (Sum Int Str × D)} {T : Sto} (h : getK (.inr k) kvs = some x) : keyK k (.box 0) (.dct kvs :: T) = .ok (.d x) (.dct kvs :: T) := by
  show (match getK (.inr k) kvs with | some x => Rs.ok (Vl.d x) (.dct kvs :: T) | none => .bad) = _
  rw [h]

def partK (a : Vl) (S1 : Sto) : Rs (Option Int) := match a with
  | .d (.int i) => .ok (some i) S1
  | _ => .bad
theorem evPart_none : evPart none C env S = .ok none S := (rfl)
theorem evPart_some : evPart (some f) C env S = (fz f C env S).bind partK := (rfl)
theorem partK_int {i : Int} : partK (.d (.int i)) S = .ok (some i) S := (rfl)
def cutV (l h : Option Int) (a : Vl) (S : Sto) : Rs Vl := match a with
  | .d (.lst xs) => .ok (.new (cut xs l h)) S
  | .d (.tup xs) => .ok (.d (.tup (cut xs l h))) S
  | _ => .bad
def slK2 (a : Vl) (l h : Option Int) (S3 : Sto) : Rs Vl := cutV l h (a.unbox S3) S3
def slK1 (hi : Option EF) (C : Cxt) (env : Slots) (a : Vl) (l : Option Int) (S2 : Sto) : Rs Vl := (evPart hi C env S2).bind (slK2 a l)
def slK (lo hi : Option EF) (C : Cxt) (env : Slots) (a : Vl) (S1 : Sto) : Rs Vl := (evPart lo C env S1).bind (slK1 hi C env a)
theorem eSlice_eq {lo hi : Option EF} : eSlice f lo hi C env S = (fz f C env S).bind (slK lo hi C env) := (rfl)
theorem slK_eq {lo hi : Option EF} {a : Vl} : slK lo hi C env a S = (evPart lo C env S).bind (slK1 hi C env a) := (rfl)
theorem slK1_eq {hi : Option EF} {a : Vl} {l : Option Int} : slK1 hi C env a l S = (evPart hi C env S).bind (slK2 a l) := (rfl)
theorem slK2_eq {a : Vl} {l h : Option Int} : slK2 a l h S = cutV l h (a.unbox S) S := (rfl)
theorem cutV_lst {l h : Option Int} {xs : List D} : cutV l h (.d (.lst xs)) S = .ok (.new (cut xs l h)) S := (rfl)
theorem cutV_tup {l h : Option Int} {xs : List D} : cutV l h (.d (.tup xs)) S = .ok (.d (.tup (cut xs l h))) S := (rfl)
def revV (a : Vl) (S : Sto) : Rs Vl := match a with
  | .d (.lst xs) => .ok (.new xs.reverse) S
  | .d (.tup xs) => .ok (.d (.tup xs.reverse)) S
  | _ => .bad
def revK (a : Vl) (S1 : Sto) : Rs Vl := revV (a.unbox S1) S1
theorem eRev_eq : eRev f C env S = (fz f C env S).bind revK := (rfl)
theorem revK_eq {a : Vl} : revK a S = revV (a.unbox S) S := (rfl)
theorem revV_lst {xs : List D} : revV (.d (.lst xs)) S = .ok (.new xs.reverse) S := (rfl)
theorem revV_tup {xs : List D} : revV (.d (.tup xs)) S = .ok (.d (.tup xs.reverse)) S := (rfl)
def fldK (cs : List Nat) (n : Str) (a : Vl) (S1 : Sto) : Rs Vl := match a with
  | .d (.ins c fs) => if cs.contains c then match fs.lookup n with
    | some x => .ok (.d x) S1
    | none => .bad
    else .bad
  | _ => .bad
theorem eFld_eq {cs : List Nat} {n : Str} : eFld cs f n C env S = (fz f C env S).bind (fldK cs n) := (rfl)
theorem fldK_ins {cs : List Nat} {n : Str} {c : Nat} {fs : List (Str × D)} (hc : cs.contains c = true) (h : fs.lookup n = some x) : fldK cs n (.d (.ins c fs)) S = .ok (.d x) S := by
  unfold fldK; dsimp only; rw [if_pos hc, h]
theorem fldK_1 {cs : List Nat} {n : Str} {c : Nat} (hc : cs.contains c = true) : fldK cs n (.d (.ins c [(n, x)])) S = .ok (.d x) S :=
  fldK_ins hc (by simp [List.lookup])
def callK (C : Cxt) (q : Nat) (vs : List Vl) (S1 : Sto) : Rs Vl := if vs.all argOk then C.call q vs S1 else .bad
theorem eCall_eq {q : Nat} {fs : List EF} : eCall q fs C env S = (evAll fs C env S).bind (callK C q) := (rfl)
theorem callK_ok {q : Nat} {vs : List Vl} (h : vs.all argOk = true) : callK C q vs S = C.call q vs S := if_pos h
def makeK (C : Cxt) (c q : Nat) (vs : List Vl) (S1 : Sto) : Rs Vl := if vs.all argOk then
    match C.call q (.box S1.length :: vs) (S1 ++ [.ins c []]) with
    | .ok (.d .non) S2 => match S2[S1.length]? with
      | some (.ins c' xs) => if c' = c then .ok (.d (.ins c xs)) (S2.take S1.length) else .bad
      | _ => .bad
    | _ => .bad
  else .bad
theorem eMake_eq {c q : Nat} {fs : List EF} : eMake c q fs C env S = (evAll fs C env S).bind (makeK C c q) := (rfl)
theorem make_ok {c q : Nat} {vs : List Vl} {fs : List (Str × D)} (h : vs.all argOk = true) (hc : C.call q (.box S.length :: vs) (S ++ [.ins c []]) = .ok (.d .non) (S ++ [.ins c fs])) : makeK C c q vs S = .ok (.d (.ins c fs)) S := by
  unfold makeK
  rw [if_pos h, hc]
  dsimp only
  rw [List.getElem?_concat_length]
  dsimp only
  rw [if_pos rfl, List.take_left]
def eqK2 (cs : List Nat) (m : Nat → Option Nat) (C : Cxt) (a b : Vl) (S2 : Sto) : Rs Vl := match a, b with
  | .d (.ins c fs), .d y => if kdOk cs (.ins c) && kdOk cs (kdOf y) then match m c with
    | some q => match C.call q [.d (.ins c fs), .d y] S2 with
      | .ok (.d (.bl r)) S3 => .ok (.d (.bl r)) S3
      | _ => .bad
    | none => .bad
    else .bad
  | _, _ => .bad
def eqK1 (cs : List Nat) (m : Nat → Option Nat) (g : EF) (C : Cxt) (env : Slots) (a : Vl) (S1 : Sto) : Rs Vl := (fz g C env S1).bind (eqK2 cs m C a)
theorem eEqOwn_eq {cs : List Nat} {m : Nat → Option Nat} : eEqOwn cs m f g C env S = (fz f C env S).bind (eqK1 cs m g C env) := (rfl)
theorem eqK1_eq {cs : List Nat} {m : Nat → Option Nat} {a : Vl} : eqK1 cs m g C env a S = (fz g C env S).bind (eqK2 cs m C a) := (rfl)
theorem eqK2_ok {cs : List Nat} {m : Nat → Option Nat} {c q : Nat} {fs : List (Str × D)} {y : D} {r : Bool} (hk : (kdOk cs (.ins c) && kdOk cs (kdOf y)) = true) (hm : m c = some q) (hc : C.call q [.d (.ins c fs), .d y] S = .ok (.d (.bl r)) S) :
    eqK2 cs m C (.d (.ins c fs)) (.d y) S = .ok (.d (.bl r)) S := by
  unfold eqK2; dsimp only; rw [if_pos hk, hm]; dsimp only; rw [hc]
theorem eBi_eq {b : Bi} {fs : List EF} : eBi b fs C env S = (evAll fs C env S).bind (biV b) := (rfl)
theorem eRng1_eq {tup : Bool} : eRng1 tup f C env S = (fz f C env S).bind (rg1V tup) := (rfl)
def rngK2 (tup : Bool) (g : EF) (C : Cxt) (env : Slots) (a : Vl) (S1 : Sto) : Rs Vl := (fz g C env S1).bind (rg2V tup a)
theorem eRng2_eq {tup : Bool} : eRng2 tup f g C env S = (fz f C env S).bind (rngK2 tup g C env) := (rfl)
theorem rngK2_eq {tup : Bool} {a : Vl} : rngK2 tup g C env a S = (fz g C env S).bind (rg2V tup a) := (rfl)
theorem biV_len {v : Vl} {xs : List D} (h : seqOf v S = some xs) : biV .len [v] S = .ok (.d (.int xs.length)) S := by
  show (match seqOf v S with | some xs => _ | none => _) = _
  rw [h]
theorem biV_list {v : Vl} {xs : List D} (h : seqOf v S = some xs) : biV .list [v] S = .ok (.new xs) S := by
  show (match seqOf v S with | some xs => _ | none => _) = _
  rw [h]
theorem biV_tuple {v : Vl} {xs : List D} (h : seqOf v S = some xs) : biV .tuple [v] S = .ok (.d (.tup xs)) S := by
  show (match seqOf v S with | some xs => _ | none => _) = _
  rw [h]
theorem biV_int1 {i : Int} : biV .int1 [.d (.int i)] S = .ok (.d (.int i)) S := (rfl)
theorem biV_min2 {i j : Int} : biV .min2 [.d (.int i), .d (.int j)] S = .ok (.d (.int (if j < i then j else i))) S := (rfl)
theorem biV_max2 {i j : Int} : biV .max2 [.d (.int i), .d (.int j)] S = .ok (.d (.int (if j > i then j else i))) S := (rfl)
theorem boolsOf_map : ∀ bs : List Bool, boolsOf (bs.map D.bl) = some bs
  | [] => rfl
  | b :: bs => by rw [List.map_cons, boolsOf, boolsOf_map bs]; rfl
theorem intsOf_map : ∀ is : List Int, intsOf (is.map D.int) = some is
  | [] => rfl
  | b :: bs => by rw [List.map_cons, intsOf, intsOf_map bs]; rfl
theorem biV_all {v : Vl} {bs : List Bool} (h : seqOf v S = some (bs.map .bl)) (hl : isLst v S = true) : biV .all [v] S = .ok (.d (.bl (bs.all id))) S := by
  show (match (seqOf v S).bind boolsOf with | some bs => _ | none => _) = _
  rw [h, Option.bind_some, boolsOf_map]; dsimp only; rw [if_pos hl]
theorem biV_any {v : Vl} {bs : List Bool} (h : seqOf v S = some (bs.map .bl)) (hl : isLst v S = true) : biV .any [v] S = .ok (.d (.bl (bs.any id))) S := by
  show (match (seqOf v S).bind boolsOf with | some bs => _ | none => _) = _
  rw [h, Option.bind_some, boolsOf_map]; dsimp only; rw [if_pos hl]
theorem biV_sum {v : Vl} {bs : List Int} (h : seqOf v S = some (bs.map .int)) (hl : isLst v S = true) : biV .sum [v] S = .ok (.d (.int bs.sum)) S := by
  show (match (seqOf v S).bind intsOf with | some bs => _ | none => _) = _
  rw [h, Option.bind_some, intsOf_map]; dsimp only; rw [if_pos hl]
theorem biV_sorted {v : Vl} {is : List Int} (h : seqOf v S = some (is.map .int)) : biV .sorted [v] S = .ok (.new ((sortInts is).map .int)) S := by
  show (match (seqOf v S).bind intsOf with | some bs => _ | none => _) = _
  rw [h, Option.bind_some, intsOf_map]
theorem biV_lenSet {v : Vl} {is : List Int} (h : seqOf v S = some (is.map .int)) (hl : is.length ≤ 1000) : biV .lenSet [v] S = .ok (.d (.int (firstMet [] is).length)) S := by
  show (match (seqOf v S).bind intsOf with | some bs => _ | none => _) = _
  rw [h, Option.bind_some, intsOf_map]; dsimp only; rw [if_pos hl]
theorem biV_sortedSet {v : Vl} {is : List Int} (h : seqOf v S = some (is.map .int)) (hl : is.length ≤ 60) : biV .sortedSet [v] S = .ok (.new ((sortInts (firstMet [] is)).map .int)) S := by
  show (match (seqOf v S).bind intsOf with | some bs => _ | none => _) = _
  rw [h, Option.bind_some, intsOf_map]; dsimp only; rw [if_pos hl]
theorem seqOf_lst {xs : List D} : seqOf (.d (.lst xs)) S = some xs := (rfl)
theorem seqOf_tup {xs : List D} : seqOf (.d (.tup xs)) S = some xs := (rfl)
theorem seqOf_ro {xs : List D} : seqOf (.ro xs) S = some xs := (rfl)
theorem seqOf_new {xs : List D} : seqOf (.new xs) S = some xs := (rfl)
theorem isLst_lst {xs : List D} : isLst (.d (.lst xs)) S = true := (rfl)
theorem isLst_new {xs : List D} : isLst (.new xs) S = true := (rfl)
def seqB (o : Option Bx) : Option (List D) := match o with
    | some (.lst xs) => some xs
    | _ => none
theorem seqOf_box {n : Nat} : seqOf (.box n) S = seqB S[n]? := (rfl)
theorem seqB_lst {xs : List D} : seqB (some (.lst xs)) = some xs := (rfl)
def isLB (o : Option Bx) : Bool := match o with
    | some (.lst _) => true
    | _ => false
theorem isLst_box {n : Nat} : isLst (.box n) S = isLB S[n]? := (rfl)
theorem isLB_lst {xs : List D} : isLB (some (.lst xs)) = true := (rfl)
def lenK (o : Option (List D)) (S : Sto) : Rs Vl := match o with
  | some xs => .ok (.d (.int xs.length)) S
  | none => .bad
theorem biV_lenE {v : Vl} : biV .len [v] S = lenK (seqOf v S) S := (rfl)
theorem lenK_s {xs : List D} : lenK (some xs) S = .ok (.d (.int xs.length)) S := (rfl)
def listK (o : Option (List D)) (S : Sto) : Rs Vl := match o with
  | some xs => .ok (.new xs) S
  | none => .bad
theorem biV_listE {v : Vl} : biV .list [v] S = listK (seqOf v S) S := (rfl)
theorem listK_s {xs : List D} : listK (some xs) S = .ok (.new xs) S := (rfl)
def tupleK (o : Option (List D)) (S : Sto) : Rs Vl := match o with
  | some xs => .ok (.d (.tup xs)) S
  | none => .bad
theorem biV_tupleE {v : Vl} : biV .tuple [v] S = tupleK (seqOf v S) S := (rfl)
theorem tupleK_s {xs : List D} : tupleK (some xs) S = .ok (.d (.tup xs)) S := (rfl)
theorem biV_allM {α : Type} {xs : List α} {g : α → Bool} : biV .all [.d (.lst (xs.map fun x => D.bl (g x)))] S = .ok (.d (.bl (xs.all g))) S := by
  rw [biV_all (bs := xs.map g) (by rw [seqOf_lst, List.map_map]; rfl) rfl, List.all_map]; rfl
theorem biV_anyM {α : Type} {xs : List α} {g : α → Bool} : biV .any [.d (.lst (xs.map fun x => D.bl (g x)))] S = .ok (.d (.bl (xs.any g))) S := by
  rw [biV_any (bs := xs.map g) (by rw [seqOf_lst, List.map_map]; rfl) rfl, List.any_map]; rfl
theorem biV_sumM {α : Type} {xs : List α} {g : α → Int} : biV .sum [.d (.lst (xs.map fun x => D.int (g x)))] S = .ok (.d (.int (xs.map g).sum)) S := by
  rw [biV_sum (bs := xs.map g) (by rw [seqOf_lst, List.map_map]; rfl) rfl]
/-- an index -/
def ixK2 (o : Option (List D)) (i : Int) (S : Sto) : Rs Vl := match o with
  | some xs => match ixOf xs.length i with
    | some k => match xs[k]? with
      | some x => .ok (.d x) S
      | none => .bad
    | none => .bad
  | none => .bad
theorem ixV_E {v : Vl} {i : Int} : ixV v (.d (.int i)) S = ixK2 (seqOf v S) i S := by
  unfold ixV ixK2 Vl.int?; cases seqOf v S <;> rfl
theorem ixK2_nat {xs : List D} {k : Nat} {y : D} (h : xs[k]? = some y) : ixK2 (some xs) (k : Int) S = .ok (.d y) S := by
  have := ixV_nat (v := .d (.lst xs)) (S := S) rfl h
  rwa [ixV_E] at this
theorem ixK2_int {xs : List D} {i : Int} {y : D} (h0 : 0 ≤ i) (h : xs[i.toNat]? = some y) : ixK2 (some xs) i S = .ok (.d y) S := by
  have := ixV_int (v := .d (.lst xs)) (S := S) rfl h0 h
  rwa [ixV_E] at this
theorem ixK2_0 {xs : List D} {x : D} : ixK2 (some (x :: xs)) 0 S = .ok (.d x) S := ixK2_int (Int.le_refl 0) rfl
theorem ixK2_1 {xs : List D} {x y : D} : ixK2 (some (x :: y :: xs)) 1 S = .ok (.d y) S := ixK2_int (by omega) rfl
theorem ixK2_2 {xs : List D} {x y z : D} : ixK2 (some (x :: y :: z :: xs)) 2 S = .ok (.d z) S := ixK2_int (by omega) rfl
theorem ixK2_neg1 {xs : List D} {y : D} : ixK2 (some (xs ++ [y])) (-1) S = .ok (.d y) S := by
  have := ixV_neg1 (v := .d (.lst (xs ++ [y]))) (xs := xs ++ [y]) (y := y) (S := S) rfl (by simp)
  rwa [ixV_E] at this
/-- the whole numbers from lo on -/
def rangeI (lo : Int) (n : Nat) : List Int := (List.range n).map fun (k : Nat) => lo + (k : Int)
theorem rangeD_map {lo : Int} {n : Nat} : rangeD lo n = (rangeI lo n).map D.int := by
  unfold rangeD rangeI; rw [List.map_map]; rfl
theorem rg1V_ok {tup : Bool} {n : Nat} (h : n ≤ 1000) : rg1V tup (.d (.int n)) S = .ok (mkSeq tup ((rangeI 0 n).map D.int)) S := by
  have hr : rngOk (n : Int) = true := by unfold rngOk; rw [Bool.and_eq_true, decide_eq_true_eq, decide_eq_true_eq]; omega
  unfold rg1V; dsimp only
  rw [if_pos ⟨hr, by omega⟩, rangeD_map, Int.toNat_natCast]
theorem mkSeq_t {xs : List D} : mkSeq true xs = .d (.tup xs) := (rfl)
theorem mkSeq_f {xs : List D} : mkSeq false xs = .new xs := (rfl)

def mtK (m : Mt) (fs : List EF) (C : Cxt) (env : Slots) (o : Vl) (S1 : Sto) : Rs Vl := if isLst o S1 then (evAll fs C env S1).bind (mtV m o) else .bad
theorem eMt_eq {m : Mt} {fs : List EF} : eMt m f fs C env S = (fz f C env S).bind (mtK m fs C env) := (rfl)
theorem mtK_ok {m : Mt} {fs : List EF} {v : Vl} (h : isLst v S = true) : mtK m fs C env v S = (evAll fs C env S).bind (mtV m v) := if_pos h
def appK (n : Nat) (x : D) (o : Option Bx) (S : Sto) : Rs Vl := match o with
    | some (.lst xs) => if xs.length < sizeCap then .ok (.d .non) (S.set n (.lst (xs ++ [x]))) else .bad
    | _ => .bad
theorem mtV_appE {n : Nat} : mtV .append (.box n) [.d x] S = appK n x S[n]? S := (rfl)
theorem appK_lst {n : Nat} {xs : List D} (hl : xs.length < sizeCap) : appK n x (some (.lst xs)) S = .ok (.d .non) (S.set n (.lst (xs ++ [x]))) := if_pos hl
theorem appK_nil {n : Nat} : appK n x (some (.lst [])) S = .ok (.d .non) (S.set n (.lst [x])) := (rfl)
def popK (n : Nat) (i : Int) (o : Option Bx) (S : Sto) : Rs Vl := match o with
    | some (.lst xs) => if -(2 ^ 63) ≤ i ∧ i < 2 ^ 63 then match ixOf xs.length i with
        | some k => match xs[k]? with
          | some y => .ok (.d y) (S.set n (.lst (xs.eraseIdx k)))
          | none => .bad
        | none => .bad
      else .bad
    | _ => .bad
theorem mtV_popE {n : Nat} {i : Int} : mtV .popAt (.box n) [.d (.int i)] S = popK n i S[n]? S := (rfl)
theorem popK_ok {n : Nat} {i : Int} {xs : List D} {y : D} (h0 : 0 ≤ i) (h1 : i < 1000000) (h : xs[i.toNat]? = some y) : popK n i (some (.lst xs)) S = .ok (.d y) (S.set n (.lst (xs.eraseIdx i.toNat))) := by
  have hk : i.toNat < xs.length := (List.getElem?_eq_some_iff.1 h).1
  have : ixOf xs.length i = some i.toNat := by
    unfold ixOf; rw [if_pos h0, if_pos (by omega)]
  unfold popK
  dsimp only
  rw [if_pos (by omega), this]
  dsimp only
  rw [h]
theorem mtV_append {n : Nat} {xs : List D} (h : S[n]? = some (.lst xs)) (hl : xs.length < sizeCap) : mtV .append (.box n) [.d x] S = .ok (.d .non) (S.set n (.lst (xs ++ [x]))) := by
  show (match S[n]? with | some (.lst xs) => _ | _ => _) = _
  rw [h]; dsimp only; rw [if_pos hl]

/-! ### sources -/
def srcK (v : Vl) (S1 : Sto) : Rs (List D) := match v with
    | .d (.lst xs) => .ok xs S1
    | .d (.tup xs) => .ok xs S1
    | .ro xs => .ok xs S1
    | _ => .bad
theorem src_seq : srcV (.seq f) C env S = (fz f C env S).bind srcK := (rfl)
theorem srcK_lst {xs : List D} : srcK (.d (.lst xs)) S = .ok xs S := (rfl)
theorem srcK_tup {xs : List D} : srcK (.d (.tup xs)) S = .ok xs S := (rfl)
theorem srcK_ro {xs : List D} : srcK (.ro xs) S = .ok xs S := (rfl)
def rg1K (v : Vl) (S1 : Sto) : Rs (List D) := match v with
    | .d (.int j) => if rngOk j then .ok (rangeD 0 j.toNat) S1 else .bad
    | _ => .bad
theorem src_r1 : srcV (.range1 f) C env S = (fz f C env S).bind rg1K := (rfl)
theorem rg1K_nat {n : Nat} (h : n ≤ 1000) : rg1K (.d (.int n)) S = .ok ((rangeI 0 n).map D.int) S := by
  have hr : rngOk (n : Int) = true := by unfold rngOk; rw [Bool.and_eq_true, decide_eq_true_eq, decide_eq_true_eq]; omega
  unfold rg1K; dsimp only
  rw [if_pos hr, rangeD_map, Int.toNat_natCast]
def rg2K (v u : Vl) (S2 : Sto) : Rs (List D) := match v, u with
    | .d (.int i), .d (.int j) => if rngOk i && rngOk j then .ok (rangeD i (j - i).toNat) S2 else .bad
    | _, _ => .bad
def srcK2 (g : EF) (C : Cxt) (env : Slots) (a : Vl) (S1 : Sto) : Rs (List D) := (fz g C env S1).bind (rg2K a)
theorem src_r2 : srcV (.range2 f g) C env S = (fz f C env S).bind (srcK2 g C env) := (rfl)
theorem srcK2_eq {a : Vl} : srcK2 g C env a S = (fz g C env S).bind (rg2K a) := (rfl)
theorem rg2K_int {i j : Int} (hi : (rngOk i && rngOk j) = true) : rg2K (.d (.int i)) (.d (.int j)) S = .ok ((rangeI i (j - i).toNat).map D.int) S := by
  show (if _ then _ else _) = _
  rw [if_pos hi, rangeD_map]
def enK (v : Vl) (S1 : Sto) : Rs (List D) := match v with
    | .d (.lst xs) => .ok (enumD 0 xs) S1
    | .d (.tup xs) => .ok (enumD 0 xs) S1
    | _ => .bad
theorem src_en : srcV (.enum f) C env S = (fz f C env S).bind enK := (rfl)
theorem enK_lst {xs : List D} : enK (.d (.lst xs)) S = .ok (enumD 0 xs) S := (rfl)
theorem enK_tup {xs : List D} : enK (.d (.tup xs)) S = .ok (enumD 0 xs) S := (rfl)
theorem tgV_name : tgV (.name i) x env = some (env.set i (some (.d x))) := (rfl)
theorem tgV_names2 {a b : D} : tgV (.names [i, j]) (.tup [a, b]) env = some ((env.set i (some (.d a))).set j (some (.d b))) := (rfl)
def newK (ys : List D) (S2 : Sto) : Rs Vl := .ok (.new ys) S2
theorem newK_eq {ys : List D} : newK ys S = .ok (.new ys) S := (rfl)
def cpK (own : List Nat) (t : Tg) (c : Option EF) (f : EF) (C : Cxt) (env : Slots) (xs : List D) (S1 : Sto) : Rs Vl := (compGo t c f C (wipeE own env) xs [] S1).bind newK
theorem cpK_eq {own : List Nat} {t : Tg} {c : Option EF} {xs : List D} : cpK own t c f C env xs S = (compGo t c f C (wipeE own env) xs [] S).bind newK := (rfl)
theorem eComp_eq {own : List Nat} {s : Src} {t : Tg} {c : Option EF} : eComp own s t c f C env S = (srcV s C env S).bind (cpK own t c f C env) := (rfl)
def cp2K (own own1 : List Nat) (t : Tg) (s1 : Src) (t1 : Tg) (c : Option EF) (f : EF) (C : Cxt) (env : Slots) (xs : List D) (S1 : Sto) : Rs Vl := (compGo2 own1 t s1 t1 c f C (wipeE own env) xs [] S1).bind newK
theorem cp2K_eq {own own1 : List Nat} {t : Tg} {s1 : Src} {t1 : Tg} {c : Option EF} {xs : List D} : cp2K own own1 t s1 t1 c f C env xs S = (compGo2 own1 t s1 t1 c f C (wipeE own env) xs [] S).bind newK := (rfl)
theorem eComp2_eq {own own1 : List Nat} {s s1 : Src} {t t1 : Tg} {c : Option EF} : eComp2 own own1 s t s1 t1 c f C env S = (srcV s C env S).bind (cp2K own own1 t s1 t1 c f C env) := (rfl)
theorem wipeE_nil : wipeE [] env = env := (rfl)
theorem wipeE_cons {i : Nat} {is : List Nat} : wipeE (i :: is) env = (wipeE is env).set i none := (rfl)

/-! ### statements -/
variable {a b' : SF}
theorem sNext_eq : sNext C env S = .nx env S := (rfl)
theorem sPass_eq : sPass C env S = .nx env S := (rfl)
theorem sBreak_eq : sBreak C env S = .bk env S := (rfl)
theorem sCont_eq : sCont C env S = .ct env S := (rfl)
theorem sSeq_eq : sSeq a b' C env S = (a C env S).andT (b' C) := by
  unfold sSeq Ou.andT; cases a C env S <;> rfl
def exprK (env : Slots) (v : Vl) (S1 : Sto) : Ou := .nx env S1
theorem sExpr_eq : sExpr f C env S = (fz f C env S).out (exprK env) := (rfl)
theorem exprK_eq {v : Vl} : exprK env v S = .nx env S := (rfl)
theorem sRet_eq : sRet f C env S = (fz f C env S).out .rt := (rfl)
theorem sRetN_eq : sRetN C env S = .rt (.d .non) S := (rfl)
def sifK (a b : SF) (C : Cxt) (env : Slots) (v : Vl) (S1 : Sto) : Ou := match v with
  | .d (.bl true) => a C env S1
  | .d (.bl false) => b C env S1
  | _ => .bad
theorem sIf_eq : sIf c a b' C env S = (fz c C env S).out (sifK a b' C env) := (rfl)
theorem sifK_b {p : Bool} : sifK a b' C env (.d (.bl p)) S = if p = true then a C env S else b' C env S := by cases p <;> rfl
def setK (env : Slots) (i : Nat) (v : Vl) (S1 : Sto) : Ou := .nx (env.set i (some v)) S1
theorem sSet_eq : sSet i f C env S = (fz f C env S).out (setK env i) := (rfl)
theorem setK_eq {v : Vl} : setK env i v S = .nx (env.set i (some v)) S := (rfl)
def boxK (env : Slots) (i : Nat) (v : Vl) (S1 : Sto) : Ou := match v with
  | .new xs => .nx (env.set i (some (.box S1.length))) (S1 ++ [.lst xs])
  | _ => .bad
theorem sBox_eq : sBox i f C env S = (f C env S).out (boxK env i) := (rfl)
theorem boxK_new {xs : List D} : boxK env i (.new xs) S = .nx (env.set i (some (.box S.length))) (S ++ [.lst xs]) := (rfl)
def unpK (is : List Nat) (env : Slots) (v : Vl) (S1 : Sto) : Ou := match v with
  | .d (.tup xs) => match bindNames is xs env with
    | some env1 => .nx env1 S1
    | none => .bad
  | .d (.lst xs) => match bindNames is xs env with
    | some env1 => .nx env1 S1
    | none => .bad
  | _ => .bad
theorem sUnpack_eq {is : List Nat} : sUnpack is f C env S = (fz f C env S).out (unpK is env) := (rfl)
theorem unpK_2 {x y : D} : unpK [i, j] env (.d (.tup [x, y])) S = .nx ((env.set i (some (.d x))).set j (some (.d y))) S := (rfl)
def pboxK (v : Vl) (S1 : Sto) : Rs Vl := match v with
    | .new xs => .ok (.box S1.length) (S1 ++ [.lst xs])
    | _ => .bad
theorem parV_t : parV true f C env S = (f C env S).bind pboxK := (rfl)
theorem parV_f : parV false f C env S = fz f C env S := (rfl)
theorem pboxK_new {xs : List D} : pboxK (.new xs) S = .ok (.box S.length) (S ++ [.lst xs]) := (rfl)
def parK2 (env : Slots) (i j : Nat) (v u : Vl) (S2 : Sto) : Ou := .nx ((env.set i (some v)).set j (some u)) S2
def parK (i j : Nat) (bj : Bool) (g : EF) (C : Cxt) (env : Slots) (v : Vl) (S1 : Sto) : Ou := (parV bj g C env S1).out (parK2 env i j v)
theorem sPar_eq {bi bj : Bool} : sPar i j bi bj f g C env S = (parV bi f C env S).out (parK i j bj g C env) := (rfl)
theorem parK_eq {bj : Bool} {v : Vl} : parK i j bj g C env v S = (parV bj g C env S).out (parK2 env i j v) := (rfl)
theorem parK2_eq {u v : Vl} : parK2 env i j v u S = .nx ((env.set i (some v)).set j (some u)) S := (rfl)
def sfldK3 (cs : List Nat) (n : Str) (env : Slots) (x : D) (k : Nat) (o : Option Bx) (S2 : Sto) : Ou := match o with
    | some (.ins c fs) => if cs.contains c then (if fs.length < 900 then .nx env (S2.set k (.ins c (putFs n x fs))) else .bad) else .bad
    | _ => .bad
def sfldK2 (cs : List Nat) (n : Str) (env : Slots) (v a : Vl) (S2 : Sto) : Ou := match v, a with
  | .d x, .box k => sfldK3 cs n env x k S2[k]? S2
  | _, _ => .bad
def sfldK1 (cs : List Nat) (o : EF) (n : Str) (C : Cxt) (env : Slots) (v : Vl) (S1 : Sto) : Ou := (fz o C env S1).out (sfldK2 cs n env v)
theorem sFld_eq {cs : List Nat} {o : EF} {n : Str} : Py.sFld cs o n f C env S = (fz f C env S).out (sfldK1 cs o n C env) := (rfl)
theorem sfldK1_eq {cs : List Nat} {o : EF} {n : Str} {v : Vl} : sfldK1 cs o n C env v S = (fz o C env S).out (sfldK2 cs n env v) := (rfl)
theorem sfldK2_eq {cs : List Nat} {n : Str} {k : Nat} : sfldK2 cs n env (.d x) (.box k) S = sfldK3 cs n env x k S[k]? S := (rfl)
theorem sfldK3_new {cs : List Nat} {n : Str} {k c : Nat} (h : cs.contains c = true) : sfldK3 cs n env x k (some (.ins c [])) S = .nx env (S.set k (.ins c [(n, x)])) := by
  unfold sfldK3; dsimp only; rw [if_pos h]; rfl
def putKK (k : Str) (env : Slots) (v a : Vl) (S2 : Sto) : Ou := match v, a with
  | .d x, .box n => match S2[n]? with
    | some (.dct kvs) => if kvs.length < 1000 then .nx env (S2.set n (.dct (putK (.inr k) x kvs))) else .bad
    | _ => .bad
  | _, _ => .bad
def putK1 (o : EF) (k : Str) (C : Cxt) (env : Slots) (v : Vl) (S1 : Sto) : Ou := (fz o C env S1).out (putKK k env v)
theorem sPutK_eq {o : EF} {k : Str} : sPutK o k f C env S = (fz f C env S).out (putK1 o k C env) := (rfl)
theorem putK1_eq {o : EF} {k : Str} {v : Vl} : putK1 o k C env v S = (fz o C env S).out (putKK k env v) := (rfl)
theorem putKK_0 {k : Str} {kvs : List (Sum Int Str × D)} {T : Sto} (h : kvs.length < 1000) : putKK k env (.d x) (.box 0) (.dct kvs :: T) = .nx env (.dct (putK (.inr k) x kvs) :: T) := by
  show (if _ then _ else _) = _
  rw [if_pos h]; rfl
def dctK (ks : List Str) (vs : List Vl) (S1 : Sto) : Rs Vl := match toDs vs with
  | some ds => .ok (.box S1.length) (S1 ++ [.dct (((ks.map Sum.inr).zip ds).foldl (fun acc kv => putK kv.1 kv.2 acc) [])])
  | none => .bad
theorem eDict_eq {ks : List Str} {fs : List EF} : eDict ks fs C env S = (evAll fs C env S).bind (dctK ks) := (rfl)
def six7 (env : Slots) (o : Option Sto) : Ou := match o with
  | some S7 => .nx env S7
  | none => .bad
def six6 (env : Slots) (y : D) (a b : Vl) (S6 : Sto) : Ou := six7 env (setIx a b y S6)
def six5 (j : EF) (y : D) (C : Cxt) (env : Slots) (a : Vl) (S5 : Sto) : Ou := (fz j C env S5).out (six6 env y a)
def six4 (p j : EF) (y : D) (C : Cxt) (env : Slots) (o : Option Sto) : Ou := match o with
  | some S4 => (fz p C env S4).out (six5 j y C env)
  | none => .bad
def six3 (p j : EF) (x y : D) (C : Cxt) (env : Slots) (a b : Vl) (S3 : Sto) : Ou := six4 p j y C env (setIx a b x S3)
def six2 (i p j : EF) (x y : D) (C : Cxt) (env : Slots) (a : Vl) (S2 : Sto) : Ou := (fz i C env S2).out (six3 p j x y C env a)
def six1 (o i p j : EF) (C : Cxt) (env : Slots) (vs : List Vl) (S1 : Sto) : Ou := match vs with
  | [.d x, .d y] => (fz o C env S1).out (six2 i p j x y C env)
  | _ => .bad
theorem sSetIx2_eq {o i p j : EF} : sSetIx2 o i p j f g C env S = (evAll [f, g] C env S).out (six1 o i p j C env) := (rfl)
theorem six1_eq {o i p j : EF} : six1 o i p j C env [.d x, .d y] S = (fz o C env S).out (six2 i p j x y C env) := (rfl)
theorem six2_eq {i p j : EF} {a : Vl} : six2 i p j x y C env a S = (fz i C env S).out (six3 p j x y C env a) := (rfl)
theorem six3_eq {p j : EF} {a b : Vl} : six3 p j x y C env a b S = six4 p j y C env (setIx a b x S) := (rfl)
theorem six4_eq {p j : EF} : six4 p j y C env (some S) = (fz p C env S).out (six5 j y C env) := (rfl)
theorem six5_eq {j : EF} {a : Vl} : six5 j y C env a S = (fz j C env S).out (six6 env y a) := (rfl)
theorem six6_eq {a b : Vl} : six6 env y a b S = six7 env (setIx a b y S) := (rfl)
theorem six7_eq : six7 env (some S) = .nx env S := (rfl)
def setIxK (n : Nat) (k : Int) (x : D) (o : Option Bx) (S : Sto) : Option Sto := match o with
    | some (.lst xs) => (ixOf xs.length k).map fun j => S.set n (.lst (xs.set j x))
    | _ => none
theorem setIx_E {n : Nat} {k : Int} : setIx (.box n) (.d (.int k)) x S = setIxK n k x S[n]? S := (rfl)
theorem setIxK_ok {n : Nat} {k : Int} {xs : List D} (h0 : 0 ≤ k) (h1 : k < xs.length) : setIxK n k x (some (.lst xs)) S = some (S.set n (.lst (xs.set k.toNat x))) := by
  have : ixOf xs.length k = some k.toNat := by unfold ixOf; rw [if_pos h0, if_pos h1]
  unfold setIxK
  dsimp only
  rw [this]; rfl
def reprK (C : Cxt) (v : Vl) (S1 : Sto) : Rs Vl := match v with
  | .d x => match C.rp x with
    | some y => .ok (.d (.str y)) S1
    | none => .bad
  | _ => .bad
theorem eRepr_eq : eRepr f C env S = (fz f C env S).bind (reprK C) := (rfl)
theorem reprK_ok {y : Str} (h : C.rp x = some y) : reprK C (.d x) S = .ok (.d (.str y)) S := by
  unfold reprK; dsimp only; rw [h]
theorem bodyCx_rp {P : Prog} {rp : D → Option Str} {call : CallF} {ca : Nat → (Sto → Rs Vl) → Sto → Rs Vl} {act : Sto → Rs Vl} : (bodyCx P rp call ca act).rp = rp := (rfl)
theorem lamCx_call {call : CallF} : (lamCx call).call = call := (rfl)
def hideB (o : Option Vl) : Option Vl := match o with
  | some (.box _) => none
  | o => o
theorem noBox_nil : noBox [] = [] := (rfl)
theorem noBox_cons {o : Option Vl} : noBox (o :: env) = hideB o :: noBox env := (rfl)
theorem hideB_none : hideB none = none := (rfl)
theorem hideB_d : hideB (some (.d x)) = some (.d x) := (rfl)
theorem hideB_ro {xs : List D} : hideB (some (.ro xs)) = some (.ro xs) := (rfl)
theorem hideB_box {n : Nat} : hideB (some (.box n)) = none := (rfl)
def raiseK (c : Nat) (ns : List Str) (vs : List Vl) (S1 : Sto) : Ou := match toDs vs with
  | some ds => .exc ⟨c, ns.zip ds⟩ S1
  | none => .bad
theorem sRaise_eq {c : Nat} {ns : List Str} {fs : List EF} : sRaise c ns fs C env S = (evAll fs C env S).out (raiseK c ns) := (rfl)
theorem raiseK_1 {c : Nat} {n : Str} : raiseK c [n] [.d x] S = .exc ⟨c, [(n, x)]⟩ S := (rfl)
def forK (t : Tg) (b : SF) (C : Cxt) (env : Slots) (xs : List D) (S1 : Sto) : Ou := forGo t b C xs env S1
theorem sFor_eq {s : Src} {t : Tg} : sFor s t a C env S = (srcV s C env S).out (forK t a C env) := (rfl)
theorem forK_eq {t : Tg} {xs : List D} : forK t a C env xs S = forGo t a C xs env S := (rfl)
theorem bodyCx_call {P : Prog} {rp : D → Option Str} {call : CallF} {ca : Nat → (Sto → Rs Vl) → Sto → Rs Vl} {act : Sto → Rs Vl} : (bodyCx P rp call ca act).call = call := (rfl)
end

/-! ### loops -/
def Ou.stp (o : Ou) (Qn Qb : Slots → Sto → Prop) (Qr : Vl → Sto → Prop) (Qx : Xn → Sto → Prop) : Prop := match o with
  | .nx e S => Qn e S
  | .ct e S => Qn e S
  | .bk e S => Qb e S
  | .rt v S => Qr v S
  | .exc x S => Qx x S
  | .bad => False
/-- how a loop ends -/
inductive LoopEnd (o : Ou) (Qn : Slots → Sto → Prop) (Qr : Vl → Sto → Prop) (Qx : Xn → Sto → Prop) : Prop where
  | nx (e : Slots) (S : Sto) (h : o = .nx e S) (q : Qn e S)
  | rt (v : Vl) (S : Sto) (h : o = .rt v S) (q : Qr v S)
  | exc (x : Xn) (S : Sto) (h : o = .exc x S) (q : Qx x S)
theorem forGo_ex {t : Tg} {b : SF} {C : Cxt} {xs : List D} {env : Slots} {S : Sto} {o : Ou} (hL : forGo t b C xs env S = o)
    (I : List D → Slots → Sto → Prop) (Qn : Slots → Sto → Prop) (Qr : Vl → Sto → Prop) (Qx : Xn → Sto → Prop)
    (init : I xs env S)
    (step : ∀ x xs env S, I (x :: xs) env S → ∃ env1, tgV t x env = some env1 ∧ (b C env1 S).stp (I xs) Qn Qr Qx)
    (done : ∀ env S, I [] env S → Qn env S) : LoopEnd o Qn Qr Qx := by
  subst hL
  revert env S
  induction xs with
  | nil => intro env S init; exact .nx env S rfl (done env S init)
  | cons x xs ih =>
    intro env S init
    obtain ⟨env1, e, h1⟩ := step x xs env S init
    unfold forGo
    rw [e]
    dsimp only
    cases e2 : b C env1 S with
    | nx e S1 => rw [e2] at h1; exact ih h1
    | ct e S1 => rw [e2] at h1; exact ih h1
    | bk e S1 => rw [e2] at h1; exact .nx _ _ rfl h1
    | rt v S1 => rw [e2] at h1; exact .rt _ _ rfl h1
    | exc x S1 => rw [e2] at h1; exact .exc _ _ rfl h1
    | bad => rw [e2] at h1; exact h1.elim

def Ou.loopT (o : Ou) (f : Slots → Sto → Ou) : Ou := match o with
  | .nx e S => f e S
  | .ct e S => f e S
  | .bk e S => .nx e S
  | o => o
theorem Ou.loopT_nx {e : Slots} {S : Sto} {f : Slots → Sto → Ou} : (Ou.nx e S).loopT f = f e S := (rfl)
theorem Ou.loopT_ct {e : Slots} {S : Sto} {f : Slots → Sto → Ou} : (Ou.ct e S).loopT f = f e S := (rfl)
theorem Ou.loopT_bk {e : Slots} {S : Sto} {f : Slots → Sto → Ou} : (Ou.bk e S).loopT f = .nx e S := (rfl)
theorem Ou.loopT_rt {v : Vl} {S : Sto} {f : Slots → Sto → Ou} : (Ou.rt v S).loopT f = .rt v S := (rfl)
theorem Ou.loopT_exc {x : Xn} {S : Sto} {f : Slots → Sto → Ou} : (Ou.exc x S).loopT f = .exc x S := (rfl)
theorem Ou.loopT_ite {p : Prop} [Decidable p] {o o' : Ou} {f : Slots → Sto → Ou} : (if p then o else o').loopT f = if p then o.loopT f else o'.loopT f := by split <;> rfl
def tgK (o : Option Slots) (b : SF) (C : Cxt) (S : Sto) : Ou := match o with
  | some env1 => b C env1 S
  | none => .bad
theorem tgK_s {env1 : Slots} {b : SF} {C : Cxt} {S : Sto} : tgK (some env1) b C S = b C env1 S := (rfl)
theorem forGo_nil {t : Tg} {b : SF} {C : Cxt} {env : Slots} {S : Sto} : forGo t b C [] env S = .nx env S := (rfl)
theorem forGo_cons {t : Tg} {b : SF} {C : Cxt} {x : D} {xs : List D} {env : Slots} {S : Sto} : forGo t b C (x :: xs) env S = (tgK (tgV t x env) b C S).loopT (forGo t b C xs) := by
  show (match tgV t x env with | none => Ou.bad | some env1 => _) = _
  unfold tgK Ou.loopT
  cases tgV t x env with
  | none => rfl
  | some e =>
    try dsimp only
    all_goals (cases b C e S <;> rfl)
theorem stp_ite {p : Prop} [Decidable p] {o o' : Ou} {Qn Qb : Slots → Sto → Prop} {Qr : Vl → Sto → Prop} {Qx : Xn → Sto → Prop} : (if p then o else o').stp Qn Qb Qr Qx = if p then o.stp Qn Qb Qr Qx else o'.stp Qn Qb Qr Qx := by split <;> rfl
theorem stp_nx {e : Slots} {S : Sto} {Qn Qb : Slots → Sto → Prop} {Qr : Vl → Sto → Prop} {Qx : Xn → Sto → Prop} : (Ou.nx e S).stp Qn Qb Qr Qx = Qn e S := (rfl)
theorem stp_rt {v : Vl} {S : Sto} {Qn Qb : Slots → Sto → Prop} {Qr : Vl → Sto → Prop} {Qx : Xn → Sto → Prop} : (Ou.rt v S).stp Qn Qb Qr Qx = Qr v S := (rfl)
theorem stp_exc {v : Xn} {S : Sto} {Qn Qb : Slots → Sto → Prop} {Qr : Vl → Sto → Prop} {Qx : Xn → Sto → Prop} : (Ou.exc v S).stp Qn Qb Qr Qx = Qx v S := (rfl)
/-- a comprehension without a test, whose element changes nothing -/
theorem compGo_none {t : Tg} {f : EF} {C : Cxt} {env : Slots} {S : Sto} {g : D → D} (xs acc : List D)
    (h : ∀ x ∈ xs, ∃ env1, tgV t x env = some env1 ∧ fz f C env1 S = .ok (.d (g x)) S) (hl : acc.length + xs.length ≤ sizeCap) :
    compGo t none f C env xs acc S = .ok (acc ++ xs.map g) S := by
  rw [compGo_pure (p := fun _ => true) (g := g) xs acc (fun x hx => let ⟨e, h1, h2⟩ := h x hx; ⟨e, h1, rfl, fun _ => h2⟩) hl, List.filter_eq_self.2 (fun _ _ => rfl)]
/-- a loop over encoded items: I of what is done -/
theorem forGo_mp {α : Type} (enc : α → D) {t : Tg} {b : SF} {C : Cxt} {as : List α} {env : Slots} {S : Sto} {o : Ou} (hL : forGo t b C (as.map enc) env S = o)
    (I : List α → Slots → Sto → Prop) (Qn : Slots → Sto → Prop) (Qr : Vl → Sto → Prop) (Qx : Xn → Sto → Prop)
    (init : I [] env S)
    (step : ∀ done a rest env S, as = done ++ a :: rest → I done env S → ∃ env1, tgV t (enc a) env = some env1 ∧ (b C env1 S).stp (I (done ++ [a])) Qn Qr Qx)
    (fin : ∀ env S, I as env S → Qn env S) : LoopEnd o Qn Qr Qx := by
  have H : ∀ (rest done : List α) (env : Slots) (S : Sto) (o : Ou), as = done ++ rest → I done env S → forGo t b C (rest.map enc) env S = o → LoopEnd o Qn Qr Qx := by
    intro rest
    induction rest with
    | nil =>
      intro done env S o e hi h
      rw [List.append_nil] at e
      subst e
      exact .nx env S h.symm (fin env S hi)
    | cons a rest ih =>
      intro done env S o e hi h
      obtain ⟨env1, e1, h1⟩ := step done a rest env S e hi
      rw [List.map_cons, forGo_cons, e1, tgK_s] at h
      have e' : as = (done ++ [a]) ++ rest := by rw [e, List.append_assoc]; rfl
      cases e2 : b C env1 S with
      | nx e S1 => rw [e2] at h1 h; exact ih _ _ _ _ e' h1 h
      | ct e S1 => rw [e2] at h1 h; exact ih _ _ _ _ e' h1 h
      | bk e S1 => rw [e2] at h1 h; exact .nx _ _ h.symm h1
      | rt v S1 => rw [e2] at h1 h; exact .rt _ _ h.symm h1
      | exc x S1 => rw [e2] at h1 h; exact .exc _ _ h.symm h1
      | bad => rw [e2] at h1; exact h1.elim
  exact H as [] env S o rfl init hL
theorem compGo2_map {α : Type} (enc : α → D) (G : α → List D) (m : Nat) {own1 : List Nat} {t : Tg} {s1 : Src} {t1 : Tg} {c : Option EF} {f : EF} {C : Cxt} {env : Slots} {S : Sto} :
    ∀ (xs : List α) (acc : List D), (∀ x ∈ xs, ∃ env1 ys, tgV t (enc x) env = some env1 ∧ srcV s1 C env1 S = .ok ys S ∧ (G x).length ≤ m ∧ ∀ acc : List D, acc.length + m ≤ sizeCap → compGo t1 c f C (wipeE own1 env1) ys acc S = .ok (acc ++ G x) S) → acc.length + xs.length * m ≤ sizeCap →
    compGo2 own1 t s1 t1 c f C env (xs.map enc) acc S = .ok (acc ++ xs.flatMap G) S
  | [], acc, _, _ => by simp [compGo2]
  | x :: xs, acc, h, hl => by
    obtain ⟨env1, ys, e, h1, h2, h3⟩ := h x (List.mem_cons_self ..)
    have hl' : acc.length + (xs.length + 1) * m ≤ sizeCap := hl
    rw [Nat.add_mul, Nat.one_mul] at hl'
    rw [List.map_cons]
    unfold compGo2
    rw [e]
    dsimp only
    rw [h1]
    dsimp only
    rw [h3 acc (by omega)]
    dsimp only
    rw [compGo2_map enc G m xs (acc ++ G x) (fun y hy => h y (List.mem_cons_of_mem _ hy)) (by rw [List.length_append]; omega)]
    simp
/-- a pure comprehension over encoded items -/
theorem compGo_map {α : Type} {t : Tg} {c : Option EF} {f : EF} {C : Cxt} {env : Slots} {S : Sto} (enc : α → D) (p : α → Bool) (g : α → D) :
    ∀ (xs : List α) (acc : List D), (∀ x ∈ xs, ∃ env1, tgV t (enc x) env = some env1 ∧ (match c with | none => p x = true | some c' => fz c' C env1 S = .ok (.d (.bl (p x))) S) ∧ (p x = true → fz f C env1 S = .ok (.d (g x)) S)) → acc.length + xs.length ≤ sizeCap →
    compGo t c f C env (xs.map enc) acc S = .ok (acc ++ (xs.filter p).map g) S
  | [], acc, _, _ => by simp [compGo]
  | x :: xs, acc, h, hl => by
    obtain ⟨env1, e, h1, h2⟩ := h x (List.mem_cons_self ..)
    have hl' : acc.length + (xs.length + 1) ≤ sizeCap := hl
    have hr : ∀ y ∈ xs, _ := fun y hy => h y (List.mem_cons_of_mem _ hy)
    have go : p x = true → compGo t c f C env (xs.map enc) (acc ++ [g x]) S = .ok (acc ++ ((x :: xs).filter p).map g) S := fun hp => by
      rw [compGo_map enc p g xs (acc ++ [g x]) hr (by rw [List.length_append, List.length_singleton]; omega)]
      simp [List.filter_cons, hp]
    rw [List.map_cons]
    unfold compGo
    rw [e]
    dsimp only
    cases c with
    | none =>
      have hp : p x = true := h1
      rw [h2 hp]
      dsimp only
      rw [if_pos (by omega)]
      exact go hp
    | some c' =>
      have h1' : fz c' C env1 S = .ok (.d (.bl (p x))) S := h1
      dsimp only
      rw [h1']
      cases hp : p x with
      | true =>
        dsimp only
        rw [h2 hp]
        dsimp only
        rw [if_pos (by omega)]
        exact go hp
      | false =>
        dsimp only
        rw [compGo_map enc p g xs acc hr (by omega)]
        simp [List.filter_cons, hp]

/-- a def called -/
theorem callEv_eq {P : Prog} {k q : Nat} {vs : List Vl} {S : Sto} (fd : FDef) {env : Slots} (h : P.fn q = fd) (hl : vs.length = fd.params) (he : vs.map some ++ List.replicate (fd.slots - vs.length) none = env) :
    callEv P (k + 1) q vs S = leave S.length (fd.body (bodyCx P noRp (callEv P k) noCallA (fun _ => .bad)) env S) := by
  subst h he
  exact if_pos hl
/-! ### encodings -/
def encP (p : Int × Int) : D := .tup [.int p.1, .int p.2]
theorem encP_eq {p : Int × Int} : encP p = .tup [.int p.1, .int p.2] := (rfl)
theorem plains_of : ∀ xs : List D, (∀ x ∈ xs, x.plain = true) → D.plains xs = true
  | [], _ => rfl
  | x :: xs, h => by rw [D.plains, h x (List.mem_cons_self ..), plains_of xs fun y hy => h y (List.mem_cons_of_mem _ hy)]; rfl
theorem txtOks_of : ∀ xs : List D, (∀ x ∈ xs, x.txtOk = true) → D.txtOks xs = true
  | [], _ => rfl
  | x :: xs, h => by rw [D.txtOks, h x (List.mem_cons_self ..), txtOks_of xs fun y hy => h y (List.mem_cons_of_mem _ hy)]; rfl
theorem depths_of {n : Nat} : ∀ xs : List D, (∀ x ∈ xs, x.depth ≤ n) → D.depths xs ≤ n
  | [], _ => Nat.zero_le _
  | x :: xs, h => by
    rw [D.depths]
    exact Nat.max_le.2 ⟨h x (List.mem_cons_self ..), depths_of xs fun y hy => h y (List.mem_cons_of_mem _ hy)⟩
/-- may be compared, n deep at most -/
def D.okAt (n : Nat) (x : D) : Prop := x.plain = true ∧ x.txtOk = true ∧ x.depth ≤ n
theorem okAt_cmp {n : Nat} {x : D} (h : x.okAt n) (hn : n ≤ 60) : x.cmpOk = true := by
  unfold D.cmpOk
  rw [h.1, h.2.1, decide_eq_true (Nat.le_trans h.2.2 hn)]; rfl
theorem okAt_lst {n : Nat} {xs : List D} (h : ∀ x ∈ xs, x.okAt n) : (D.lst xs).okAt (n + 1) :=
  ⟨plains_of xs fun x hx => (h x hx).1, txtOks_of xs fun x hx => (h x hx).2.1, Nat.succ_le_succ (depths_of xs fun x hx => (h x hx).2.2)⟩
theorem okAt_tup {n : Nat} {xs : List D} (h : ∀ x ∈ xs, x.okAt n) : (D.tup xs).okAt (n + 1) :=
  ⟨plains_of xs fun x hx => (h x hx).1, txtOks_of xs fun x hx => (h x hx).2.1, Nat.succ_le_succ (depths_of xs fun x hx => (h x hx).2.2)⟩
theorem okAt_int {i : Int} {n : Nat} : (D.int i).okAt n := ⟨rfl, rfl, Nat.zero_le _⟩
theorem okAt_bl {b : Bool} {n : Nat} : (D.bl b).okAt n := ⟨rfl, rfl, Nat.zero_le _⟩
theorem okAt_non {n : Nat} : (D.non).okAt n := ⟨rfl, rfl, Nat.zero_le _⟩
theorem okAt_ints {is : List Int} {n : Nat} : ∀ x ∈ is.map D.int, x.okAt n := by
  intro x hx
  obtain ⟨i, _, rfl⟩ := List.mem_map.1 hx
  exact okAt_int
theorem okAt_encP {p : Int × Int} {n : Nat} : (encP p).okAt (n + 1) := by
  refine okAt_tup ?_
  intro x hx
  rcases List.mem_cons.1 hx with rfl | hx
  · exact okAt_int
  · rcases List.mem_cons.1 hx with rfl | hx
    · exact okAt_int
    · exact absurd hx (by simp)
theorem eqvs_ints : ∀ a b : List Int, D.eqvs (a.map D.int) (b.map D.int) = decide (a = b)
  | [], [] => rfl
  | [], _ :: _ => rfl
  | _ :: _, [] => rfl
  | x :: a, y :: b => by
    rw [List.map_cons, List.map_cons, D.eqvs, eqvs_ints a b, D.eqv]
    by_cases h1 : x = y <;> by_cases h2 : a = b <;> simp [h1, h2]
theorem eqv_encP {p q : Int × Int} : (encP p).eqv (encP q) = decide (p = q) := by
  obtain ⟨a, b⟩ := p
  obtain ⟨c, d⟩ := q
  show ((a == c) && ((b == d) && true)) = _
  by_cases h1 : a = c <;> by_cases h2 : b = d <;> simp [h1, h2]
section
variable {S : Sto}
theorem inK_ok {x : D} {ys : List D} (hx : x.cmpOk = true) (hy : ∀ y ∈ ys, y.cmpOk = true) : inK x (some ys) S = .ok (.d (.bl (ys.any fun y => y.eqv x))) S :=
  if_pos (by rw [hx, List.all_eq_true.2 hy]; rfl)
theorem ninK_ok {x : D} {ys : List D} (hx : x.cmpOk = true) (hy : ∀ y ∈ ys, y.cmpOk = true) : ninK x (some ys) S = .ok (.d (.bl (!ys.any fun y => y.eqv x))) S :=
  if_pos (by rw [hx, List.all_eq_true.2 hy]; rfl)
theorem any_int {i : Int} {is : List Int} : ((is.map D.int).any fun y => y.eqv (.int i)) = decide (i ∈ is) := by
  rw [List.any_map]
  induction is with
  | nil => rfl
  | cons j is ih =>
    rw [List.any_cons, ih]
    show ((j == i) || _) = _
    by_cases h : i = j
    · subst h; simp
    · have : ¬ j = i := fun e => h e.symm
      simp [h, this]
theorem any_encP {p : Int × Int} {ps : List (Int × Int)} : ((ps.map encP).any fun y => y.eqv (encP p)) = decide (p ∈ ps) := by
  rw [List.any_map]
  induction ps with
  | nil => rfl
  | cons q ps ih =>
    rw [List.any_cons, ih]
    show ((encP q).eqv (encP p) || _) = _
    rw [eqv_encP]
    by_cases h : p = q
    · subst h; simp
    · have : ¬ q = p := fun e => h e.symm
      simp [h, this]
theorem inK_I {i : Int} {is : List Int} : inK (.int i) (some (is.map D.int)) S = .ok (.d (.bl (decide (i ∈ is)))) S := by
  rw [inK_ok (okAt_cmp (n := 0) okAt_int (by omega)) (fun y hy => okAt_cmp (n := 0) (okAt_ints y hy) (by omega)), any_int]
theorem ninK_I {i : Int} {is : List Int} : ninK (.int i) (some (is.map D.int)) S = .ok (.d (.bl (!decide (i ∈ is)))) S := by
  rw [ninK_ok (okAt_cmp (n := 0) okAt_int (by omega)) (fun y hy => okAt_cmp (n := 0) (okAt_ints y hy) (by omega)), any_int]
theorem okAt_encPs {ps : List (Int × Int)} {n : Nat} : ∀ x ∈ ps.map encP, x.okAt (n + 1) := by
  intro x hx
  obtain ⟨i, _, rfl⟩ := List.mem_map.1 hx
  exact okAt_encP
theorem inK_P {i j : Int} {ps : List (Int × Int)} : inK (.tup [.int i, .int j]) (some (ps.map encP)) S = .ok (.d (.bl (decide ((i, j) ∈ ps)))) S := by
  show inK (encP (i, j)) _ S = _
  rw [inK_ok (okAt_cmp (n := 1) okAt_encP (by omega)) (fun y hy => okAt_cmp (n := 1) (okAt_encPs y hy) (by omega)), any_encP]
theorem ninK_P {i j : Int} {ps : List (Int × Int)} : ninK (.tup [.int i, .int j]) (some (ps.map encP)) S = .ok (.d (.bl (!decide ((i, j) ∈ ps)))) S := by
  show ninK (encP (i, j)) _ S = _
  rw [ninK_ok (okAt_cmp (n := 1) okAt_encP (by omega)) (fun y hy => okAt_cmp (n := 1) (okAt_encPs y hy) (by omega)), any_encP]
theorem cmpV_eqL {a b : List Int} : cmpV .eq (.d (.lst (a.map D.int))) (.d (.lst (b.map D.int))) S = .ok (.d (.bl (decide (a = b)))) S := by
  rw [cmpV_eq (by rw [okAt_cmp (n := 1) (okAt_lst okAt_ints) (by omega), okAt_cmp (n := 1) (okAt_lst okAt_ints) (by omega)]; rfl), ← eqvs_ints]; rfl
theorem cmpV_neL {a b : List Int} : cmpV .ne (.d (.lst (a.map D.int))) (.d (.lst (b.map D.int))) S = .ok (.d (.bl (!decide (a = b)))) S := by
  rw [cmpV_ne (by rw [okAt_cmp (n := 1) (okAt_lst okAt_ints) (by omega), okAt_cmp (n := 1) (okAt_lst okAt_ints) (by omega)]; rfl), ← eqvs_ints]; rfl
theorem cmpV_eqT {a b : List Int} : cmpV .eq (.d (.tup (a.map D.int))) (.d (.tup (b.map D.int))) S = .ok (.d (.bl (decide (a = b)))) S := by
  rw [cmpV_eq (by rw [okAt_cmp (n := 1) (okAt_tup okAt_ints) (by omega), okAt_cmp (n := 1) (okAt_tup okAt_ints) (by omega)]; rfl), ← eqvs_ints]; rfl
theorem cmpV_neT {a b : List Int} : cmpV .ne (.d (.tup (a.map D.int))) (.d (.tup (b.map D.int))) S = .ok (.d (.bl (!decide (a = b)))) S := by
  rw [cmpV_ne (by rw [okAt_cmp (n := 1) (okAt_tup okAt_ints) (by omega), okAt_cmp (n := 1) (okAt_tup okAt_ints) (by omega)]; rfl), ← eqvs_ints]; rfl
theorem eqv_nil {xs : List D} : (D.lst xs).eqv (.lst []) = xs.isEmpty := by
  cases xs <;> rfl
theorem cmpV_eqNil {xs : List D} (h : ∀ x ∈ xs, x.okAt 50) : cmpV .eq (.d (.lst xs)) (.d (.lst [])) S = .ok (.d (.bl xs.isEmpty)) S := by
  rw [cmpV_eq (by rw [okAt_cmp (n := 51) (okAt_lst h) (by omega)]; rfl), eqv_nil]
theorem cmpV_neNil {xs : List D} (h : ∀ x ∈ xs, x.okAt 50) : cmpV .ne (.d (.lst xs)) (.d (.lst [])) S = .ok (.d (.bl (!xs.isEmpty))) S := by
  rw [cmpV_ne (by rw [okAt_cmp (n := 51) (okAt_lst h) (by omega)]; rfl), eqv_nil]
theorem okAt_map_int {α : Type} {xs : List α} {g : α → Int} {n : Nat} : ∀ x ∈ xs.map (fun a => D.int (g a)), x.okAt n := by
  intro x hx
  obtain ⟨i, _, rfl⟩ := List.mem_map.1 hx
  exact okAt_int
end

theorem sum_le : ∀ (xs : List Nat) (m : Nat), (∀ x ∈ xs, x ≤ m) → xs.sum ≤ xs.length * m
  | [], _, _ => by simp
  | x :: xs, m, h => by
    rw [List.sum_cons, List.length_cons, Nat.add_mul, Nat.one_mul]
    have := sum_le xs m fun y hy => h y (List.mem_cons_of_mem _ hy)
    have := h x (List.mem_cons_self ..)
    omega
theorem rangeI0 {n : Nat} : (rangeI 0 n).map D.int = (List.range n).map fun (i : Nat) => D.int i := by
  unfold rangeI; rw [List.map_map]; exact List.map_congr_left fun i _ => by simp
/-- how a told fault looks -/
def IsFault (v : D) : Prop := v = .non ∨ ∃ (t : Str) (is : List Int), (sOk t = true ∧ is.length ≤ 10) ∧ v = .tup (.str t :: is.map .int)
theorem okAt_fault {t : Str} {is : List Int} (h : sOk t = true) : (D.tup (.str t :: is.map .int)).okAt 1 := by
  refine okAt_tup ?_
  intro x hx
  rcases List.mem_cons.1 hx with rfl | hx
  · exact ⟨rfl, h, Nat.le_refl _⟩
  · exact okAt_ints x hx
theorem eqv_fault {t : Str} {is : List Int} : (D.tup (.str t :: is.map .int)).eqv (.tup (.str t :: is.map .int)) = true := by
  show ((t == t) && D.eqvs (is.map .int) (is.map .int)) = true
  rw [eqvs_ints, decide_eq_true rfl, beq_self_eq_true]; rfl
section
variable {S : Sto}
theorem cmp2_ok {t y : Str} (ht : sOk t = true) (hy : sOk y = true) : (D.tup [.str t, .str y]).okAt 1 := by
  refine okAt_tup ?_
  intro x hx
  simp only [List.mem_cons,
          List.not_mem_nil, or_false] at hx
  rcases hx with rfl | rfl
  · exact ⟨rfl, ht, Nat.le_refl _⟩
  · exact ⟨rfl, hy, Nat.le_refl _⟩
theorem cmp2_eqv {t y : Str} : (D.tup [.str t, .str y]).eqv (.tup [.str t, .str y]) = true := by
  show ((t == t) && ((y == y) && true)) = true
  simp
theorem cmp2_ne {t y : Str} (ht : sOk t = true) (hy : sOk y = true) : cmpV .ne (.d (.tup [.str t, .str y])) (.d (.tup [.str t, .str y])) S = .ok (.d (.bl false)) S := by
  rw [cmpV_ne (by rw [okAt_cmp (cmp2_ok ht hy) (by omega)]; rfl), cmp2_eqv]; rfl
theorem cmp2_eq {t y : Str} (ht : sOk t = true) (hy : sOk y = true) : cmpV .eq (.d (.tup [.str t, .str y])) (.d (.tup [.str t, .str y])) S = .ok (.d (.bl true)) S := by
  rw [cmpV_eq (by rw [okAt_cmp (cmp2_ok ht hy) (by omega)]; rfl), cmp2_eqv]
end
/-! ### rows of whole numbers -/
def wAt (w : List Int) (i : Int) : Int := w.getD i.toNat 0
theorem wAt_get {w : List Int} {i : Int} (h0 : 0 ≤ i) (h : i < w.length) : w[i.toNat]? = some (wAt w i) := by
  have : i.toNat < w.length := by omega
  unfold wAt
  rw [List.getD_eq_getElem?_getD, List.getElem?_eq_getElem this]; rfl
theorem ixK2_w {w : List Int} {i : Int} {S : Sto} (h0 : 0 ≤ i) (h : i < w.length) : ixK2 (some (w.map D.int)) i S = .ok (.d (.int (wAt w i))) S :=
  ixK2_int h0 (by rw [List.getElem?_map, wAt_get h0 h]; rfl)
theorem getD_app_l {xs ys : List Int} {k : Nat} (h : k < xs.length) : (xs ++ ys).getD k 0 = xs.getD k 0 := by
  rw [List.getD_eq_getElem?_getD, List.getD_eq_getElem?_getD, List.getElem?_append_left h]
theorem getD_app_r {xs : List Int} {y : Int} : (xs ++ [y]).getD xs.length 0 = y := by
  rw [List.getD_eq_getElem?_getD, List.getElem?_append_right (Nat.le_refl _), Nat.sub_self]; rfl
theorem mtV_index {v : Vl} {S : Sto} {is : List Int} {i : Int} (hs : seqOf v S = some (is.map D.int)) (hl : isLst v S = true) (hi : i ∈ is) : mtV .index v [.d (.int i)] S = .ok (.d (.int (is.findIdx (· == i)))) S := by
  show (match (seqOf v S).bind intsOf with | some is => _ | none => _) = _
  rw [hs, Option.bind_some, intsOf_map]; dsimp only; rw [if_pos (by rw [hl, List.contains_iff_mem.2 hi]; rfl)]
theorem mem_cut {α : Type} {xs : List α} {l h : Option Int} {y : α} (hy : y ∈ cut xs l h) : y ∈ xs := by
  unfold cut at hy
  exact List.mem_of_mem_drop (List.mem_of_mem_take hy)
theorem len_cut {α : Type} {xs : List α} {l h : Option Int} : (cut xs l h).length ≤ xs.length := by
  unfold cut
  rw [List.length_take, List.length_drop]; omega
theorem cut_take {α : Type} {xs : List α} {k : Nat} (h : k ≤ xs.length) : cut xs none (some (k : Int)) = xs.take k := by
  unfold cut slIx
  dsimp only
  rw [if_neg (by omega), Int.toNat_natCast, Nat.min_eq_left h]; simp
theorem cut_drop {α : Type} {xs : List α} {k : Nat} (h : k ≤ xs.length) : cut xs (some (k : Int)) none = xs.drop k := by
  unfold cut slIx
  dsimp only
  rw [if_neg (by omega), Int.toNat_natCast, Nat.min_eq_left h]
  exact
          List.take_of_length_le (by simp)
theorem enumD_map {α : Type} (enc : α → D) : ∀ (i : Nat) (xs : List α), enumD i (xs.map enc) = (xs.zipIdx i).map fun a => D.tup [.int a.2, enc a.1]
  | _, [] => rfl
  | i, x :: xs => by rw [List.map_cons, enumD, enumD_map enc (i + 1) xs]; rfl
theorem zipIdx_split {α : Type} {ps : List α} {done rest : List (α × Nat)} {a : α × Nat} (h : ps.zipIdx = done ++ a :: rest) : a.2 = done.length ∧ ps[done.length]? = some a.1 := by
  have h1 : (ps.zipIdx)[done.length]? = some a := by rw [h]; simp
  rw [List.getElem?_zipIdx] at h1
  cases e : ps[done.length]? with
  | none =>
          rw [e] at h1; simp at h1
  | some x => rw [e] at h1; simp at h1; subst h1; exact ⟨rfl, rfl⟩
theorem drop_cons {α : Type} {ps : List α} {k : Nat} {a : α} (h : ps[k]? = some a) : ps.drop k = a :: ps.drop (k + 1) := by
  obtain ⟨hk, e⟩ := List.getElem?_eq_some_iff.1 h
  rw [List.drop_eq_getElem_cons hk, e]
theorem take_snoc {α : Type} {ps : List α} {k : Nat} {a : α} (h : ps[k]? = some a) : ps.take (k + 1) = ps.take k ++ [a] := by
  obtain ⟨hk, e⟩ := List.getElem?_eq_some_iff.1 h
  rw [List.take_succ_eq_append_getElem hk, e]
theorem get_lt {α : Type} {ps : List α} {k : Nat} {a : α} (h : ps[k]? = some a) : k < ps.length := (List.getElem?_eq_some_iff.1 h).1
/-! ### boxes at the end -/
theorem get_last {S : Sto} {b : Bx} : (S ++ [b])[S.length]? = some b := by simp
theorem set_last {S : Sto} {b c : Bx} : (S ++ [b]).set S.length c = S ++ [c] := by simp
theorem take_last2 {S : Sto} {a b : Bx} : (S ++ [b]).take (S ++ [a]).length = S ++ [b] := List.take_of_length_le (by simp)
theorem take_last {S : Sto} {b : Bx} : (S ++ [b]).take S.length = S := by simp

end Py
end

section
set_option Elab.async false
set_option linter.all false
/-! RMath: orders, their mirrors, rings (plain Lean). -/
namespace Py
open PySem (Str)

def dI (xs : List Int) : List D := xs.map D.int
/-- all pairs i < j below n -/
def allP (n : Nat) : List (Int × Int) := (List.range n).flatMap fun (i : Nat) => (rangeI ((i : Int) + 1) (n - (i + 1))).map fun j => ((i : Int), j)
def mir (w : List Int) : List (Int × Int) := (allP w.length).filter fun p => decide (wAt w p.2 < wAt w p.1)
def turnIn (ms : List (Int × Int)) (x : List Int) : List (Int × Int) := ms.filter fun p => decide (wAt x p.2 < wAt x p.1)

theorem mem_rangeI {lo : Int} {n : Nat} {x : Int} : x ∈ rangeI lo n ↔ lo ≤ x ∧ x < lo + n := by
  unfold rangeI
  rw [List.mem_map]
  constructor
  · rintro ⟨k, hk, rfl⟩
    rw [List.mem_range] at hk
    omega
  · intro h
    exact ⟨(x - lo).toNat, by rw [List.mem_range]; omega, by omega⟩
theorem length_rangeI {lo : Int} {n : Nat} : (rangeI lo n).length = n := by unfold rangeI; simp
theorem nodup_rangeI {lo : Int} {n : Nat} : (rangeI lo n).Nodup := by
  unfold rangeI
  rw [List.Nodup, List.pairwise_map]
  exact List.Pairwise.imp (fun h e => h (by omega)) List.nodup_range
theorem get_rangeI {lo : Int} {n k : Nat} (h : k < n) : (rangeI lo n)[k]? = some (lo + k) := by
  unfold rangeI
  rw [List.getElem?_map, List.getElem?_range h]; rfl
theorem mem_allP {n : Nat} {p : Int × Int} : p ∈ allP n ↔ 0 ≤ p.1 ∧ p.1 < p.2 ∧ p.2 < n := by
  unfold allP
  rw [List.mem_flatMap]
  constructor
  · rintro ⟨i, hi, h⟩
    rw [List.mem_map] at h
    obtain ⟨j, hj, rfl⟩ := h
    rw [mem_rangeI] at hj
    rw [List.mem_range] at hi
    dsimp only
    omega
  · intro h
    refine ⟨p.1.toNat, by rw [List.mem_range]; omega, ?_⟩
    rw [List.mem_map]
    refine ⟨p.2, by rw [mem_rangeI]; omega, ?_⟩
    rw [Int.toNat_of_nonneg h.1]
theorem nodup_allP {n : Nat} : (allP n).Nodup := by
  unfold allP
  rw [List.Nodup, List.pairwise_flatMap]
  constructor
  · intro i _
    rw [List.pairwise_map]
    exact List.Pairwise.imp (fun h e => h (Prod.mk.inj e).2) nodup_rangeI
  · refine List.Pairwise.imp ?_ List.nodup_range
    intro a b hab x hx y hy e
    rw [List.mem_map] at hx hy
    obtain ⟨_, _, rfl⟩ := hx
    obtain ⟨_, _, rfl⟩ := hy
    have := (Prod.mk.inj e).1
    omega
theorem length_allP (n : Nat) : (allP n).length ≤ n * n := by
  unfold allP
  rw [List.length_flatMap]
  refine Nat.le_trans (sum_le _ n ?_) (by rw [List.length_map, List.length_range]; exact Nat.le_refl _)
  intro x hx
  obtain ⟨i, _, rfl⟩ := List.mem_map.1 hx
  rw [List.length_map, length_rangeI]
  omega
theorem nodup_mir {w : List Int} : (mir w).Nodup := List.Pairwise.sublist (List.filter_sublist ..) nodup_allP
theorem mem_mir {w : List Int} {p : Int × Int} : p ∈ mir w ↔ (0 ≤ p.1 ∧ p.1 < p.2 ∧ p.2 < w.length) ∧ wAt w p.2 < wAt w p.1 := by
  unfold mir
  rw [List.mem_filter, mem_allP, decide_eq_true_eq]

/-! ### sorting -/
theorem insInt_perm (i : Int) : ∀ xs : List Int, (insInt i xs).Perm (i :: xs)
  | [] => .refl _
  | j :: r => by
    unfold insInt
    split
    · exact .refl _
    · exact ((insInt_perm i r).cons j).trans (.swap ..)
theorem sortInts_perm : ∀ xs : List Int, (sortInts xs).Perm xs
  | [] => .refl _
  | i :: r => (insInt_perm i (sortInts r)).trans ((sortInts_perm r).cons i)
theorem insInt_sorted (i : Int) : ∀ xs : List Int, xs.Pairwise (· ≤ ·) → (insInt i xs).Pairwise (· ≤ ·)
  | [], _ => by simp [insInt]
  | j :: r, h => by
    rw [List.pairwise_cons] at h
    unfold insInt
    split
    · rename_i hij
      rw [List.pairwise_cons]
      refine ⟨?_, List.pairwise_cons.2 h⟩
      intro a ha
      rcases List.mem_cons.1 ha with rfl | ha
      · exact hij
      · exact Int.le_trans hij (h.1 a ha)
    · rename_i hij
      rw [List.pairwise_cons]
      refine ⟨?_, insInt_sorted i r h.2⟩
      intro a ha
      rcases List.mem_cons.1 ((insInt_perm i r).mem_iff.1 ha) with rfl | ha
      · omega
      · exact h.1 a ha
theorem sortInts_sorted : ∀ xs : List Int, (sortInts xs).Pairwise (· ≤ ·)
  | [] => .nil
  | i :: r => insInt_sorted i _ (sortInts_sorted r)
theorem sorted_perm_eq {xs ys : List Int} (h : xs.Perm ys) (hx : xs.Pairwise (· ≤ ·)) (hy : ys.Pairwise (· ≤ ·)) : xs = ys :=
  h.eq_of_pairwise (fun a b _ _ h1 h2 => Int.le_antisymm h1 h2) hx hy
theorem rangeI_sorted {lo : Int} {n : Nat} : (rangeI lo n).Pairwise (· ≤ ·) := by
  unfold rangeI
  rw [List.pairwise_map]
  exact List.Pairwise.imp (fun h => by omega) List.pairwise_lt_range
theorem sortInts_eq {xs ys : List Int} (h : xs.Perm ys) (hy : ys.Pairwise (· ≤ ·)) : sortInts xs = ys :=
  sorted_perm_eq ((sortInts_perm xs).trans h) (sortInts_sorted xs) hy
/-- w is an order -/
def IsOrd (w : List Int) : Prop := (1 ≤ w.length ∧ w.length ≤ 8) ∧ w.Perm (rangeI 0 w.length)
theorem isOrd_sorted {w : List Int} : w.Perm (rangeI 0 w.length) ↔ sortInts w = rangeI 0 w.length :=
  ⟨fun h => sortInts_eq h rangeI_sorted, fun h => h ▸ (sortInts_perm w).symm⟩
end Py
end

section
set_option Elab.async false
set_option linter.all false
/-! LPen: the pen of a law's draws. -/
namespace Py
open PySem (Str)
def penD (cells : List Int) (at_ : Nat) (dg ct fo : Int) : Bx :=
  .dct [(.inr "cells", .lst (cells.map .int)), (.inr "at", .int at_), (.inr "digits", .int dg), (.inr "count", .int ct), (.inr "fold", .int fo)]
/-- the box of a pen that was drawn from c times at most -/
def PenB (c : Nat) (b : Bx) : Prop := ∃ (cells : List Int) (at_ : Nat) (dg ct fo : Int), b = penD cells at_ dg ct fo ∧ at_ ≤ cells.length ∧ 0 ≤ dg ∧ 0 ≤ ct ∧ ct ≤ c ∧ 0 ≤ fo ∧ fo < 2147483587
theorem PenB.mono {c c' : Nat} {b : Bx} (h : PenB c b) (hc : c ≤ c') : PenB c' b := by
  obtain ⟨cells, a, dg, ct, fo, e, h1, h2, h3, h4, h5, h6⟩ := h
  exact ⟨cells, a, dg, ct, fo, e, h1, h2, h3, by omega, h5, h6⟩
theorem sn_cells_at : (Str.ofString "cells" = Str.ofString "at") = False := eq_false (by decide)
theorem sn_cells_digits : (Str.ofString "cells" = Str.ofString "digits") = False := eq_false (by decide)
theorem sn_cells_count : (Str.ofString "cells" = Str.ofString "count") = False := eq_false (by decide)
theorem sn_cells_fold : (Str.ofString "cells" = Str.ofString "fold") = False := eq_false (by decide)
theorem sn_at_cells : (Str.ofString "at" = Str.ofString "cells") = False := eq_false (by decide)
theorem sn_at_digits : (Str.ofString "at" = Str.ofString "digits") = False := eq_false (by decide)
theorem sn_at_count : (Str.ofString "at" = Str.ofString "count") = False := eq_false (by decide)
theorem sn_at_fold : (Str.ofString "at" = Str.ofString "fold") = False := eq_false (by decide)
theorem sn_digits_cells : (Str.ofString "digits" = Str.ofString "cells") = False := eq_false (by decide)
theorem sn_digits_at : (Str.ofString "digits" = Str.ofString "at") = False := eq_false (by decide)
theorem sn_digits_count : (Str.ofString "digits" = Str.ofString "count") = False := eq_false (by decide)
theorem sn_digits_fold : (Str.ofString "digits" = Str.ofString "fold") = False := eq_false (by decide)
theorem sn_count_cells : (Str.ofString "count" = Str.ofString "cells") = False := eq_false (by decide)
theorem sn_count_at : (Str.ofString "count" = Str.ofString "at") = False := eq_false (by decide)
theorem sn_count_digits : (Str.ofString "count" = Str.ofString "digits") = False := eq_false (by decide)
theorem sn_count_fold : (Str.ofString "count" = Str.ofString "fold") = False := eq_false (by decide)
theorem sn_fold_cells : (Str.ofString "fold" = Str.ofString "cells") = False := eq_false (by decide)
theorem sn_fold_at : (Str.ofString "fold" = Str.ofString "at") = False := eq_false (by decide)
theorem sn_fold_digits : (Str.ofString "fold" = Str.ofString "digits") = False := eq_false (by decide)
theorem sn_fold_count : (Str.ofString "fold" = Str.ofString "count") = False := eq_false (by decide)
section
variable {cells : List Int} {at_ : Nat} {dg ct fo : Int} {S T : Sto} {env : Slots} {x : Int}
theorem pk_cells : keyK2 "cells" (some (penD cells at_ dg ct fo)) S = .ok (.d (.lst (cells.map .int))) S := keyK2_dct (by simp [getK, sn_cells_at, sn_cells_digits, sn_cells_count, sn_cells_fold, sn_at_cells, sn_at_digits, sn_at_count, sn_at_fold, sn_digits_cells, sn_digits_at, sn_digits_count, sn_digits_fold, sn_count_cells, sn_count_at, sn_count_digits, sn_count_fold, sn_fold_cells, sn_fold_at, sn_fold_digits, sn_fold_count])
theorem pk_at : keyK2 "at" (some (penD cells at_ dg ct fo)) S = .ok (.d (.int at_)) S := keyK2_dct (by simp [getK, sn_cells_at, sn_cells_digits, sn_cells_count, sn_cells_fold, sn_at_cells, sn_at_digits, sn_at_count, sn_at_fold, sn_digits_cells, sn_digits_at, sn_digits_count, sn_digits_fold, sn_count_cells, sn_count_at, sn_count_digits, sn_count_fold, sn_fold_cells, sn_fold_at, sn_fold_digits, sn_fold_count])
theorem pk_digits : keyK2 "digits" (some (penD cells at_ dg ct fo)) S = .ok (.d (.int dg)) S := keyK2_dct (by simp [getK, sn_cells_at, sn_cells_digits, sn_cells_count, sn_cells_fold, sn_at_cells, sn_at_digits, sn_at_count, sn_at_fold, sn_digits_cells, sn_digits_at, sn_digits_count, sn_digits_fold, sn_count_cells, sn_count_at, sn_count_digits, sn_count_fold, sn_fold_cells, sn_fold_at, sn_fold_digits, sn_fold_count])
theorem pk_count : keyK2 "count" (some (penD cells at_ dg ct fo)) S = .ok (.d (.int ct)) S := keyK2_dct (by simp [getK, sn_cells_at, sn_cells_digits, sn_cells_count, sn_cells_fold, sn_at_cells, sn_at_digits, sn_at_count, sn_at_fold, sn_digits_cells, sn_digits_at, sn_digits_count, sn_digits_fold, sn_count_cells, sn_count_at, sn_count_digits, sn_count_fold, sn_fold_cells, sn_fold_at, sn_fold_digits, sn_fold_count])
theorem pk_fold : keyK2 "fold" (some (penD cells at_ dg ct fo)) S = .ok (.d (.int fo)) S := keyK2_dct (by simp [getK, sn_cells_at, sn_cells_digits, sn_cells_count, sn_cells_fold, sn_at_cells, sn_at_digits, sn_at_count, sn_at_fold, sn_digits_cells, sn_digits_at, sn_digits_count, sn_digits_fold, sn_count_cells, sn_count_at, sn_count_digits, sn_count_fold, sn_fold_cells, sn_fold_at, sn_fold_digits, sn_fold_count])
theorem pp_at {n : Nat} : putKK "at" env (.d (.int n)) (.box 0) (penD cells at_ dg ct fo :: T) = .nx env (penD cells n dg ct fo :: T) := by
  unfold penD; rw [putKK_0 (by simp)]; simp [putK, sn_cells_at, sn_cells_digits, sn_cells_count, sn_cells_fold, sn_at_cells, sn_at_digits, sn_at_count, sn_at_fold, sn_digits_cells, sn_digits_at, sn_digits_count, sn_digits_fold, sn_count_cells, sn_count_at, sn_count_digits, sn_count_fold, sn_fold_cells, sn_fold_at, sn_fold_digits, sn_fold_count]
theorem pp_digits : putKK "digits" env (.d (.int x)) (.box 0) (penD cells at_ dg ct fo :: T) = .nx env (penD cells at_ x ct fo :: T) := by
  unfold penD; rw [putKK_0 (by simp)]; simp [putK, sn_cells_at, sn_cells_digits, sn_cells_count, sn_cells_fold, sn_at_cells, sn_at_digits, sn_at_count, sn_at_fold, sn_digits_cells, sn_digits_at, sn_digits_count, sn_digits_fold, sn_count_cells, sn_count_at, sn_count_digits, sn_count_fold, sn_fold_cells, sn_fold_at, sn_fold_digits, sn_fold_count]
theorem pp_count : putKK "count" env (.d (.int x)) (.box 0) (penD cells at_ dg ct fo :: T) = .nx env (penD cells at_ dg x fo :: T) := by
  unfold penD; rw [putKK_0 (by simp)]; simp [putK, sn_cells_at, sn_cells_digits, sn_cells_count, sn_cells_fold, sn_at_cells, sn_at_digits, sn_at_count, sn_at_fold, sn_digits_cells, sn_digits_at, sn_digits_count, sn_digits_fold, sn_count_cells, sn_count_at, sn_count_digits, sn_count_fold, sn_fold_cells, sn_fold_at, sn_fold_digits, sn_fold_count]
theorem pp_fold : putKK "fold" env (.d (.int x)) (.box 0) (penD cells at_ dg ct fo :: T) = .nx env (penD cells at_ dg ct x :: T) := by
  unfold penD; rw [putKK_0 (by simp)]; simp [putK, sn_cells_at, sn_cells_digits, sn_cells_count, sn_cells_fold, sn_at_cells, sn_at_digits, sn_at_count, sn_at_fold, sn_digits_cells, sn_digits_at, sn_digits_count, sn_digits_fold, sn_count_cells, sn_count_at, sn_count_digits, sn_count_fold, sn_fold_cells, sn_fold_at, sn_fold_digits, sn_fold_count]
theorem p10_18 : binV .pow (.d (.int 10)) (.d (.int 18)) S = .ok (.d (.int 1000000000000000000)) S := by
  rw [binV_pow (by decide)]; rfl
theorem pow17 {i : Int} (h : 0 ≤ i ∧ i < 18446744073709551616) : binV .pow (.d (.int i)) (.d (.int 17)) S = .ok (.d (.int (i ^ 17))) S := by
  rw [binV_pow ⟨by omega, by omega, by omega⟩]; rfl
theorem mul_ok {i j : Int} (h : -18446744073709551616 < j ∧ j < 18446744073709551616) : mulOk i j = true := by
  unfold mulOk
  rw [Bool.or_eq_true]
  right
  rw [Bool.and_eq_true,
          decide_eq_true_eq, decide_eq_true_eq]
  omega
theorem fmod_rng {a m : Int} (h : 0 < m) : 0 ≤ a.fmod m ∧ a.fmod m < m := ⟨Int.fmod_nonneg_of_pos a h, Int.fmod_lt_of_pos a h⟩
end
/-! two boxes at the end -/
section
variable {b x y z : Bx} {T : Sto}
theorem b2_a : b :: T ++ [x] ++ [y] = b :: (T ++ [x, y]) := by simp
theorem b2_g1 : (T ++ [x, y])[T.length]? = some x := by simp
theorem b2_g2 : (T ++ [x, y])[T.length + 1]? = some y := by simp
theorem b2_s1 : (T ++ [x, y]).set T.length z = T ++ [z, y] := by simp
theorem b2_s2 : (T ++ [x, y]).set (T.length + 1) z = T ++ [x, z] := by simp
theorem b2_t : (b :: (T ++ [x, y])).take (T.length + 1) = b :: T := by simp
theorem b1_a : b :: T ++ [x] = b :: (T ++ [x]) := by simp
theorem b1_g : (T ++ [x])[T.length]? = some x := by simp
theorem b1_s : (T ++ [x]).set T.length z = T ++ [z] := by simp
theorem b1_t : (b :: (T ++ [x])).take (T.length + 1) = b :: T := by simp
theorem b0_t : (b :: T).take (T.length + 1) = b :: T := by simp
theorem len1 {a : Bx} : (a :: T).length = T.length + 1 := (rfl)
theorem b2_b : T ++ [x] ++ [y] = T ++ [x, y] := by simp
theorem len3 : (T ++ [x]).length = T.length + 1 := by simp
theorem len2 : (b :: (T ++ [x])).length = T.length + 1 + 1 := by simp
end
theorem perm_map_aux {α β : Type} {f : α → β} {l1 l2 : List β} (h : l1.Perm l2) : ∀ xs : List α, l1 = xs.map f → ∃ zs : List α, zs.Perm xs ∧ l2 = zs.map f := by
  induction h with
  | nil => intro xs e; exact ⟨xs, .refl _, e⟩
  | cons x _ ih =>
    intro xs e
    cases xs with
    | nil => cases e
    | cons a xs =>
      rw [List.map_cons] at e
      injection e with e1 e2
      obtain ⟨zs, h1, h2⟩ := ih xs e2
      exact ⟨a :: zs, h1.cons a, by rw [List.map_cons, h2, e1]⟩
  | swap x y l =>
    intro xs e
    match xs, e with
    | a :: b :: xs, e =>
      rw [List.map_cons,
              List.map_cons] at e
      injection e with e1 e2
      injection e2 with e2 e3
      exact ⟨b :: a :: xs, .swap .., by rw [List.map_cons, List.map_cons, e1, e2, e3]⟩
  | trans _ _ ih1 ih2 =>
    intro xs e
    obtain ⟨zs, h1, h2⟩ := ih1 xs e
    obtain ⟨us, h3, h4⟩ := ih2 zs h2
    exact ⟨us, h3.trans h1, h4⟩
theorem perm_map_inv {α β : Type} {f : α → β} {ys : List β} {xs : List α} (h : ys.Perm (xs.map f)) : ∃ zs : List α, zs.Perm xs ∧ ys = zs.map f := perm_map_aux h.symm xs rfl
theorem eraseIdx_perm {α : Type} {y : α} : ∀ {xs : List α} {k : Nat}, xs[k]? = some y → (y :: xs.eraseIdx k).Perm xs
  | [], k, h => by simp at h
  | x :: xs, 0, h => by
    rw [List.getElem?_cons_zero] at h
    injection h with h
    rw [h, List.eraseIdx_cons_zero]
  | x :: xs, k + 1, h => by
    rw [List.getElem?_cons_succ] at h
    rw [List.eraseIdx_cons_succ]
    exact (List.Perm.swap ..).trans ((eraseIdx_perm h).cons x)
theorem dct_pen {cells : List Int} {f : Int} {S : Sto} : dctK ["cells", "at", "digits", "count", "fold"] [.d (.lst (cells.map .int)), .d (.int 0), .d (.int 0), .d (.int 0), .d (.int f)] S = .ok (.box S.length) (S ++ [penD cells 0 0 0 f]) := by
  simp [dctK, toDs, putK, penD, sn_cells_at, sn_cells_digits, sn_cells_count, sn_cells_fold, sn_at_cells, sn_at_digits, sn_at_count, sn_at_fold, sn_digits_cells, sn_digits_at, sn_digits_count, sn_digits_fold, sn_count_cells, sn_count_at, sn_count_digits, sn_count_fold, sn_fold_cells, sn_fold_at, sn_fold_digits, sn_fold_count]
end Py
end

section
set_option Elab.async false
set_option linter.all false
set_option maxRecDepth 100000
set_option
        maxHeartbeats 1000000
namespace K85
open PySem (Str)
open Py
def ownCs : List Nat := [5, 6]
def errCs : List Nat := [1, 2, 3, 4]
def eqOf (c : Nat) : Option Nat := if c = 5 then some 9 else if c = 6 then some 11 else none
def nm_is_integer : List Str := ["value"]
def bd_is_integer : SF := sRet (eAnd (eIsInst ownCs [.int] (eVar 0)) (eNot (eIsInst ownCs [.bool] (eVar 0))))
def nm_is_row : List Str := ["value"]
def bd_is_row : SF := sRet (eIsInst ownCs [.list, .tuple] (eVar 0))
def nm_is_order : List Str := ["value", "item"]
def bd_is_order : SF := sSeq (sIf (eOr (eNot (eCall 1 [eVar 0])) (eOr (eNot (eChain .le .le (eC (.int 1)) (eBi .len [eVar 0]) (eC (.int 8)))) (eNot (eBi .all [eComp [1] (.seq (eVar 0)) (.name 1) none (eCall 0 [eVar 1])])))) (sRet (eC (.bl false))) (sNext))
  (sRet (eCmp .eq (eBi .sorted [eVar 0]) (eRng1 false (eBi .len [eVar 0]))))
def nm_need_orders : List Str := ["orders", "found", "order"]
def bd_need_orders : SF := sSeq (sBox 1 (eLst []))
  (sSeq (sFor (.seq (eVar 0)) (.name 2) (sSeq (sIf (eNot (eCall 2 [eVar 2])) (sRaise 2 ["value"] [eVar 2]) (sNext))
  (sSeq (sExpr (eMt .append (eVar 1) [eBi .tuple [eVar 2]]))
  (sIf (eCmp .ne (eBi .len [eVar 2]) (eBi .len [eIx (eVar 1) (eC (.int 0))])) (sRaise 3 ["order"] [eIx (eVar 1) (eNeg (eC (.int 1)))]) (sNext)))))
  (sRet (eTake 1)))
def nm_need_order : List Str := ["order"]
def bd_need_order : SF := sRet (eIx (eCall 3 [eLst [eVar 0]]) (eC (.int 0)))
def nm_all_pairs : List Str := ["n", "i", "j"]
def bd_all_pairs : SF := sRet (eComp2 [1, 2] [2] (.range1 (eVar 0)) (.name 1) (.range2 (eBin .add (eVar 1) (eC (.int 1))) (eVar 0)) (.name 2) none (eTup [eVar 1, eVar 2]))
def nm_turned_pairs : List Str := ["w", "i", "j"]
def bd_turned_pairs : SF := sRet (eBi .tuple [eComp [1, 2] (.seq (eCall 5 [eBi .len [eVar 0]])) (.names [1, 2]) (some (eCmp .gt (eIx (eVar 0) (eVar 1)) (eIx (eVar 0) (eVar 2)))) (eTup [eVar 1, eVar 2])])
def nm_kept_row : List Str := ["value"]
def bd_kept_row : SF := sRet (eIf (eCall 1 [eVar 0]) (eBi .tuple [eVar 0]) (eVar 0))
def nm_Inside_init : List Str := ["self", "order"]
def bd_Inside_init : SF := Py.sFld [5] (eVar 0) "order" (eCall 7 [eVar 1])
def nm_Inside_eq : List Str := ["self", "other"]
def bd_Inside_eq : SF := sRet (eAnd (eIsInst ownCs [(.cls 5)] (eVar 1)) (eCmp .eq (eFld [5] (eVar 0) "order") (eFld [5] (eVar 1) "order")))
def nm_Around_init : List Str := ["self", "places"]
def bd_Around_init : SF := Py.sFld [6] (eVar 0) "places" (eCall 7 [eVar 1])
def nm_Around_eq : List Str := ["self", "other"]
def bd_Around_eq : SF := sRet (eAnd (eIsInst ownCs [(.cls 6)] (eVar 1)) (eCmp .eq (eFld [6] (eVar 0) "places") (eFld [6] (eVar 1) "places")))
def nm_turned_in : List Str := ["mirrors", "x", "pair"]
def bd_turned_in : SF := sRet (eBi .tuple [eComp [2] (.seq (eVar 0)) (.name 2) (some (eCmp .gt (eIx (eVar 1) (eIx (eVar 2) (eC (.int 0)))) (eIx (eVar 1) (eIx (eVar 2) (eC (.int 1)))))) (eVar 2)])
def nm_checked_pairs : List Str := ["w", "pairs", "mirrors", "index", "item"]
def bd_checked_pairs : SF := sSeq (sIf (eNot (eCall 1 [eVar 1])) (sRaise 1 ["value"] [eVar 1]) (sNext))
  (sSeq (sSet 2 (eCall 6 [eVar 0]))
  (sSeq (sFor (.enum (eVar 1)) (.names [3, 4]) (sIf (eOr (eNot (eCall 14 [eVar 2, eVar 4])) (eCmp .isIn (eVar 4) (eSlice (eVar 1) none (some (eVar 3))))) (sRaise 4 ["item"] [eVar 4]) (sNext)))
  (sRet (eBi .list [eVar 1]))))
def nm_is_mirror : List Str := ["mirrors", "value", "item"]
def bd_is_mirror : SF := sSeq (sIf (eOr (eNot (eIsInst ownCs [.tuple] (eVar 1))) (eOr (eCmp .ne (eBi .len [eVar 1]) (eC (.int 2))) (eNot (eBi .all [eComp [2] (.seq (eVar 1)) (.name 2) none (eCall 0 [eVar 2])])))) (sRet (eC (.bl false))) (sNext))
  (sRet (eCmp .isIn (eVar 1) (eVar 0)))
def nm_lesser_ones : List Str := ["w", "pairs", "place", "left", "found", "i", "j", "low", "high"]
def bd_lesser_ones : SF := sSeq (sBox 4 (eLst []))
  (sSeq (sFor (.seq (eCall 6 [eVar 0])) (.names [5, 6]) (sSeq (sUnpack [7, 8] (eIf (eCmp .isIn (eTup [eVar 5, eVar 6]) (eVar 1)) (eTup [eVar 6, eVar 5]) (eTup [eVar 5, eVar 6])))
  (sIf (eAnd (eCmp .eq (eVar 8) (eVar 2)) (eCmp .isIn (eVar 7) (eVar 3))) (sExpr (eMt .append (eVar 4) [eVar 7])) (sNext))))
  (sRet (eTake 4)))
def nm_first_unlike : List Str := ["mirrors", "pairs", "room", "pair"]
def bd_first_unlike : SF := sSeq (sFor (.seq (eVar 0)) (.name 3) (sIf (eCmp .ne (eCmp .isIn (eVar 3) (eVar 1)) (eCmp .isIn (eVar 3) (eVar 2))) (sRet (eTup [eC (.str "pair"), eIx (eVar 3) (eC (.int 0)), eIx (eVar 3) (eC (.int 1))])) (sNext)))
  (sRet (eC .non))
def nm_around_fault : List Str := ["w", "pairs", "places", "index", "a", "b", "item"]
def bd_around_fault : SF := sSeq (sIf (eOr (eNot (eCall 1 [eVar 2])) (eOr (eCmp .lt (eBi .len [eVar 2]) (eC (.int 3))) (eNot (eBi .all [eComp [6] (.seq (eVar 2)) (.name 6) none (eAnd (eCall 0 [eVar 6]) (eChain .le .lt (eC (.int 0)) (eVar 6) (eBi .len [eVar 0])))])))) (sRet (eTup [eC (.str "places")])) (sNext))
  (sSeq (sIf (eCmp .ne (eBi .lenSet [eVar 2]) (eBi .len [eVar 2])) (sRet (eTup [eC (.str "places")])) (sNext))
  (sSeq (sFor (.enum (eVar 2)) (.names [3, 4]) (sSeq (sSet 5 (eIf (eCmp .lt (eBin .add (eVar 3) (eC (.int 1))) (eBi .len [eVar 2])) (eIx (eVar 2) (eBin .add (eVar 3) (eC (.int 1)))) (eIx (eVar 2) (eC (.int 0)))))
  (sIf (eCmp .notIn (eVar 4) (eCall 15 [eVar 0, eVar 1, eVar 5, eRng1 false (eBi .len [eVar 0])])) (sRet (eTup [eC (.str "step"), eVar 3])) (sNext))))
  (sRet (eC .non))))
def nm_room_fault : List Str := ["w", "pairs", "answer", "mirrors"]
def bd_room_fault : SF := sSeq (sSet 0 (eCall 4 [eVar 0]))
  (sSeq (sSet 1 (eCall 13 [eVar 0, eVar 1]))
  (sSeq (sIf (eIsInst ownCs [(.cls 6)] (eVar 2)) (sRet (eCall 17 [eVar 0, eVar 1, eFld [6] (eVar 2) "places"])) (sNext))
  (sSeq (sIf (eNot (eIsInst ownCs [(.cls 5)] (eVar 2))) (sRet (eTup [eC (.str "answer")])) (sNext))
  (sSeq (sIf (eOr (eNot (eCall 2 [eFld [5] (eVar 2) "order"])) (eCmp .ne (eBi .len [eFld [5] (eVar 2) "order"]) (eBi .len [eVar 0]))) (sRet (eTup [eC (.str "order")])) (sNext))
  (sSeq (sSet 3 (eCall 6 [eVar 0]))
  (sRet (eCall 16 [eVar 3, eVar 1, eCall 12 [eVar 3, eFld [5] (eVar 2) "order"]])))))))
def nm__law_pen : List Str := ["script", "fold", "cell"]
def bd__law_pen : SF := sSeq (sSet 1 (eC (.int 0)))
  (sSeq (sFor (.seq (eVar 0)) (.name 2) (sSet 1 (eBin .mod (eBi .int1 [eBin .add (eBin .mul (eVar 1) (eC (.int 47))) (eVar 2)]) (eC (.int 1000000007)))))
  (sRet (eDict ["cells", "at", "digits", "count", "fold"] [eBi .list [eVar 0], eC (.int 0), eC (.int 0), eC (.int 0), eVar 1])))
def nm__law_draw : List Str := ["pen", "many", "mixed", "cell", "digit"]
def bd__law_draw : SF := sSeq (sPutK (eVar 0) "count" (eBin .add (eKey (eVar 0) "count") (eC (.int 1))))
  (sSeq (sIf (eAnd (eCmp .eq (eKey (eVar 0) "digits") (eC (.int 0))) (eCmp .lt (eKey (eVar 0) "at") (eBi .len [eKey (eVar 0) "cells"]))) (sSeq (sSet 3 (eIx (eKey (eVar 0) "cells") (eKey (eVar 0) "at")))
  (sSeq (sPutK (eVar 0) "at" (eBin .add (eKey (eVar 0) "at") (eC (.int 1))))
  (sIf (eCmp .ge (eVar 3) (eBin .pow (eC (.int 10)) (eC (.int 18)))) (sPutK (eVar 0) "digits" (eBin .sub (eVar 3) (eBin .pow (eC (.int 10)) (eC (.int 18))))) (sPutK (eVar 0) "fold" (eBin .mod (eBi .int1 [eBin .add (eBin .mul (eKey (eVar 0) "fold") (eC (.int 69069))) (eVar 3)]) (eC (.int 2147483587))))))) (sNext))
  (sSeq (sIf (eCmp .gt (eKey (eVar 0) "digits") (eC (.int 0))) (sSeq (sSet 4 (eBin .mod (eBi .int1 [eKey (eVar 0) "digits"]) (eVar 1)))
  (sSeq (sPutK (eVar 0) "digits" (eBin .fdiv (eKey (eVar 0) "digits") (eVar 1)))
  (sRet (eVar 4)))) (sNext))
  (sSeq (sSet 2 (eBin .add (eBin .add (eKey (eVar 0) "fold") (eBin .mul (eKey (eVar 0) "count") (eC (.int 7907)))) (eC (.int 37))))
  (sRet (eBin .mod (eBin .fdiv (eBi .int1 [eBin .mod (eBin .pow (eVar 2) (eC (.int 17))) (eC (.int 2305843009213693951))]) (eC (.int 128))) (eVar 1))))))
def nm__law_pick : List Str := ["pen", "some"]
def bd__law_pick : SF := sRet (eIx (eVar 1) (eCall 20 [eVar 0, eBi .len [eVar 1]]))
def nm__law_shuffled : List Str := ["pen", "some", "lap", "rest", "found"]
def bd__law_shuffled : SF := sSeq (sPar 3 4 true true (eBi .list [eVar 1]) (eLst []))
  (sSeq (sFor (.range1 (eBi .len [eVar 1])) (.name 2) (sExpr (eMt .append (eVar 4) [eMt .popAt (eVar 3) [eCall 20 [eVar 0, eBi .len [eVar 3]]]])))
  (sRet (eTake 4)))
def nm__law_pairs : List Str := ["n", "found", "i", "j"]
def bd__law_pairs : SF := sSeq (sSet 1 (eLst []))
  (sSeq (sFor (.range1 (eVar 0)) (.name 2) (sSet 1 (eBin .add (eVar 1) (eComp [3] (.range2 (eBin .add (eVar 2) (eC (.int 1))) (eVar 0)) (.name 3) none (eTup [eVar 2, eVar 3])))))
  (sRet (eVar 1)))
def nm__law_some_order : List Str := ["pen", "n"]
def bd__law_some_order : SF := sRet (eBi .tuple [eCall 22 [eVar 0, eRng1 false (eVar 1)]])
def nm__law_listed : List Str := ["pen", "row"]
def bd__law_listed : SF := sRet (eIf (eCmp .eq (eCall 20 [eVar 0, eC (.int 2)]) (eC (.int 0))) (eBi .list [eVar 1]) (eBi .tuple [eVar 1]))
def nm__law_is_ints : List Str := ["value", "item"]
def bd__law_is_ints : SF := sSeq (sIf (eNot (eIsInst ownCs [.tuple] (eVar 0))) (sRet (eC (.bl false))) (sNext))
  (sRet (eCmp .eq (eComp [1] (.seq (eVar 0)) (.name 1) (some (eOr (eNot (eIsInst ownCs [.int] (eVar 1))) (eIsInst ownCs [.bool] (eVar 1)))) (eC (.int 1))) (eLst [])))
def nm__law_is_fault : List Str := ["told", "due", "item"]
def bd__law_is_fault : SF := sSeq (sIf (eIsNone false (eVar 1)) (sRet (eIsNone false (eVar 0))) (sNext))
  (sSeq (sIf (eNot (eIsInst ownCs [.tuple] (eVar 0))) (sRet (eC (.bl false))) (sNext))
  (sRet (eAnd (eCmp .eq (eVar 0) (eVar 1)) (eCmp .eq (eComp [2] (.seq (eVar 0)) (.name 2) (some (eOr (eIsInst ownCs [.bool] (eVar 2)) (eNot (eIsInst ownCs [.int, .str] (eVar 2))))) (eC (.int 1))) (eLst [])))))
def nm__law_mirrors : List Str := ["w", "i", "j"]
def bd__law_mirrors : SF := sRet (eComp [1, 2] (.seq (eCall 23 [eBi .len [eVar 0]])) (.names [1, 2]) (some (eCmp .gt (eIx (eVar 0) (eVar 1)) (eIx (eVar 0) (eVar 2)))) (eTup [eVar 1, eVar 2]))
def nm__law_room : List Str := ["mirrors", "x", "pair"]
def bd__law_room : SF := sRet (eBi .tuple [eComp [2] (.seq (eVar 0)) (.name 2) (some (eCmp .gt (eIx (eVar 1) (eIx (eVar 2) (eC (.int 0)))) (eIx (eVar 1) (eIx (eVar 2) (eC (.int 1)))))) (eVar 2)])
def nm__law_lesser : List Str := ["w", "pairs", "a", "b", "i", "j"]
def bd__law_lesser : SF := sSeq (sPar 4 5 false false (eBi .min2 [eVar 2, eVar 3]) (eBi .max2 [eVar 2, eVar 3]))
  (sSeq (sIf (eOr (eCmp .eq (eVar 4) (eVar 5)) (eNot (eCmp .gt (eIx (eVar 0) (eVar 4)) (eIx (eVar 0) (eVar 5))))) (sRet (eC (.bl false))) (sNext))
  (sRet (eCmp .eq (eCmp .isIn (eTup [eVar 4, eVar 5]) (eVar 1)) (eCmp .gt (eVar 2) (eVar 3)))))
def nm__law_complaint : List Str := ["call", "e"]
def bd__law_complaint : SF := sTryAct errCs "ok" 0 1 [(2, "order", "value"), (4, "pair", "item"), (1, "row", "value")]
def nm__law_inside_due : List Str := ["w", "pairs", "order", "n", "i", "j"]
def bd__law_inside_due : SF := sSeq (sSet 3 (eBi .len [eVar 0]))
  (sSeq (sIf (eOr (eNot (eIsInst ownCs [.list, .tuple] (eVar 2))) (eCmp .ne (eBi .len [eVar 2]) (eVar 3))) (sRet (eTup [eC (.str "order")])) (sNext))
  (sSeq (sIf (eOr (eNot (eCall 26 [eBi .tuple [eVar 2]])) (eCmp .ne (eBi .sorted [eVar 2]) (eRng1 false (eVar 3)))) (sRet (eTup [eC (.str "order")])) (sNext))
  (sSeq (sFor (.seq (eCall 28 [eVar 0])) (.names [4, 5]) (sIf (eCmp .ne (eCmp .gt (eIx (eVar 2) (eVar 4)) (eIx (eVar 2) (eVar 5))) (eCmp .isIn (eTup [eVar 4, eVar 5]) (eVar 1))) (sRet (eTup [eC (.str "pair"), eVar 4, eVar 5])) (sNext)))
  (sRet (eC .non)))))
def nm__law_around_due : List Str := ["w", "pairs", "places", "index", "after", "item"]
def bd__law_around_due : SF := sSeq (sIf (eOr (eNot (eIsInst ownCs [.list, .tuple] (eVar 2))) (eCmp .lt (eBi .len [eVar 2]) (eC (.int 3)))) (sRet (eTup [eC (.str "places")])) (sNext))
  (sSeq (sIf (eCmp .ne (eComp [5] (.seq (eVar 2)) (.name 5) (some (eOr (eNot (eIsInst ownCs [.int] (eVar 5))) (eOr (eIsInst ownCs [.bool] (eVar 5)) (eNot (eChain .le .lt (eC (.int 0)) (eVar 5) (eBi .len [eVar 0])))))) (eC (.int 1))) (eLst [])) (sRet (eTup [eC (.str "places")])) (sNext))
  (sSeq (sIf (eCmp .ne (eBi .len [eBi .sortedSet [eVar 2]]) (eBi .len [eVar 2])) (sRet (eTup [eC (.str "places")])) (sNext))
  (sSeq (sFor (.range1 (eBi .len [eVar 2])) (.name 3) (sSeq (sSet 4 (eIf (eCmp .lt (eBin .add (eVar 3) (eC (.int 1))) (eBi .len [eVar 2])) (eIx (eVar 2) (eBin .add (eVar 3) (eC (.int 1)))) (eIx (eVar 2) (eC (.int 0)))))
  (sIf (eNot (eCall 30 [eVar 0, eVar 1, eIx (eVar 2) (eVar 3), eVar 4])) (sRet (eTup [eC (.str "step"), eVar 3])) (sNext))))
  (sRet (eC .non)))))
def nm__law_own_ring : List Str := ["w", "pairs", "left", "lap", "way", "lower", "b", "a"]
def bd__law_own_ring : SF := sSeq (sSet 2 (eRng1 false (eBi .len [eVar 0])))
  (sSeq (sFor (.range1 (eBi .len [eVar 0])) (.name 3) (sSet 2 (eComp [6] (.seq (eVar 2)) (.name 6) (some (eCmp .ne (eComp [7] (.seq (eVar 2)) (.name 7) (some (eCall 30 [eVar 0, eVar 1, eVar 7, eVar 6])) (eVar 7)) (eLst []))) (eVar 6))))
  (sSeq (sIf (eCmp .eq (eVar 2) (eLst [])) (sRet (eC .non)) (sNext))
  (sSeq (sBox 4 (eLst [eIx (eVar 2) (eC (.int 0))]))
  (sSeq (sFor (.range1 (eBin .add (eBi .len [eVar 0]) (eC (.int 1)))) (.name 3) (sSeq (sSet 5 (eIx (eComp [7] (.seq (eVar 2)) (.name 7) (some (eCall 30 [eVar 0, eVar 1, eVar 7, eIx (eVar 4) (eNeg (eC (.int 1)))])) (eVar 7)) (eC (.int 0))))
  (sSeq (sIf (eCmp .isIn (eVar 5) (eVar 4)) (sRet (eRev (eSlice (eVar 4) (some (eMt .index (eVar 4) [eVar 5])) none))) (sNext))
  (sExpr (eMt .append (eVar 4) [eVar 5])))))
  (sRet (eC .non))))))
def nm__law_bent_order : List Str := ["pen", "order", "row", "way", "some", "i", "j"]
def bd__law_bent_order : SF := sSeq (sPar 2 3 true false (eBi .list [eVar 1]) (eCall 20 [eVar 0, eC (.int 4)]))
  (sSeq (sIf (eCmp .eq (eVar 3) (eC (.int 0))) (sSeq (sSet 4 (eLst [eC .non, eC (.int 5), eSlice (eVar 2) (some (eC (.int 1))) none, eBin .add (eVar 2) (eLst [eBi .len [eVar 2]]), eBin .add (eLst [eC (.bl true)]) (eSlice (eVar 2) (some (eC (.int 1))) none), eBin .add (eSlice (eVar 2) none (some (eNeg (eC (.int 1))))) (eLst [eC (.str "0")]), eBin .mul (eSlice (eVar 2) none (some (eC (.int 1)))) (eBi .len [eVar 2])]))
  (sRet (eCall 21 [eVar 0, eVar 4]))) (sNext))
  (sSeq (sPar 5 6 false false (eCall 20 [eVar 0, eBi .len [eVar 2]]) (eCall 20 [eVar 0, eBi .len [eVar 2]]))
  (sSeq (sSetIx2 (eVar 2) (eVar 5) (eVar 2) (eVar 6) (eIx (eVar 2) (eVar 6)) (eIx (eVar 2) (eVar 5)))
  (sRet (eIf (eCmp .lt (eVar 3) (eC (.int 3))) (eTake 2) (eRev (eVar 2)))))))
def nm__law_bent_places : List Str := ["pen", "n", "places", "at", "row", "way", "some"]
def bd__law_bent_places : SF := sSeq (sPar 4 5 false false (eBi .list [eVar 2]) (eCall 20 [eVar 0, eC (.int 6)]))
  (sSeq (sSet 3 (eCall 20 [eVar 0, eBi .len [eVar 4]]))
  (sSeq (sIf (eCmp .eq (eVar 5) (eC (.int 0))) (sSeq (sSet 6 (eLst [eC .non, eC (.int 4), eSlice (eVar 4) none (some (eC (.int 2))), eBin .add (eVar 4) (eLst [eIx (eVar 4) (eC (.int 0))]), eBin .add (eVar 4) (eLst [eVar 1]), eBin .add (eLst [eC .non]) (eVar 4), eRev (eVar 4), eC (.str "012"), eBin .add (eLst [eC (.bl true)]) (eSlice (eVar 4) (some (eC (.int 1))) none)]))
  (sRet (eCall 21 [eVar 0, eVar 6]))) (sNext))
  (sSeq (sIf (eCmp .eq (eVar 5) (eC (.int 1))) (sRet (eBin .add (eSlice (eVar 4) none (some (eVar 3))) (eSlice (eVar 4) (some (eBin .add (eVar 3) (eC (.int 1)))) none))) (sNext))
  (sSeq (sIf (eCmp .eq (eVar 5) (eC (.int 2))) (sRet (eBin .add (eBin .add (eSlice (eVar 4) none (some (eVar 3))) (eLst [eCall 20 [eVar 0, eVar 1]])) (eSlice (eVar 4) (some (eVar 3)) none))) (sNext))
  (sSeq (sIf (eCmp .eq (eVar 5) (eC (.int 3))) (sRet (eBin .add (eSlice (eVar 4) (some (eVar 3)) none) (eSlice (eVar 4) none (some (eVar 3))))) (sNext))
  (sSeq (sIf (eCmp .eq (eVar 5) (eC (.int 4))) (sRet (eCall 22 [eVar 0, eVar 4])) (sNext))
  (sRet (eSlice (eCall 22 [eVar 0, eRng1 false (eVar 1)]) none (some (eBin .add (eC (.int 3)) (eCall 20 [eVar 0, eC (.int 2)])))))))))))
def nm_law : List Str := ["script", "pen", "n", "w", "ring", "pairs", "value", "mirrors", "x", "room", "any_pairs", "lap", "odd", "order", "told", "places", "pair"]
def bd_law : SF := sSeq (sSet 1 (eCall 19 [eVar 0]))
  (sSeq (sSet 2 (eBin .add (eC (.int 1)) (eCall 20 [eVar 1, eCall 21 [eVar 1, eLst [eC (.int 4), eC (.int 6), eC (.int 8), eC (.int 8)]]])))
  (sSeq (sSet 3 (eCall 24 [eVar 1, eVar 2]))
  (sSeq (sIf (eCmp .eq (eCall 20 [eVar 1, eC (.int 2)]) (eC (.int 0))) (sSet 3 (eIf (eCmp .lt (eVar 2) (eC (.int 4))) (eRev (eRng1 true (eVar 2))) (eRev (eVar 3)))) (sNext))
  (sSeq (sPar 7 8 false false (eCall 28 [eVar 3]) (eCall 24 [eVar 1, eVar 2]))
  (sSeq (sUnpack [9, 10] (eTup [eBi .list [eCall 29 [eVar 7, eVar 8]], eComp [16] (.seq (eVar 7)) (.name 16) (some (eCmp .eq (eCall 20 [eVar 1, eC (.int 2)]) (eC (.int 0)))) (eVar 16)]))
  (sSeq (sIf (eIsNone true (eCall 18 [eVar 3, eCall 22 [eVar 1, eVar 9], eMake 5 8 [eCall 25 [eVar 1, eVar 8]]])) (sRet (eC (.bl false))) (sNext))
  (sSeq (sSet 4 (eCall 34 [eVar 3, eVar 10]))
  (sSeq (sIf (eAnd (eIsNone true (eVar 4)) (eIsNone true (eCall 18 [eVar 3, eVar 10, eMake 6 10 [eCall 25 [eVar 1, eVar 4]]]))) (sRet (eC (.bl false))) (sNext))
  (sSeq (sFor (.seq (eLst [eVar 9, eVar 10])) (.name 5) (sFor (.range1 (eC (.int 4))) (.name 11) (sSeq (sSet 13 (eCall 35 [eVar 1, eVar 8]))
  (sSeq (sSet 14 (eCall 18 [eVar 3, eCall 25 [eVar 1, eVar 5], eMake 5 8 [eVar 13]]))
  (sSeq (sIf (eNot (eCall 27 [eVar 14, eCall 32 [eVar 3, eVar 5, eVar 13]])) (sRet (eC (.bl false))) (sNext))
  (sSeq (sSet 15 (eCall 36 [eVar 1, eVar 2, eIf (eIsNone true (eVar 4)) (eVar 4) (eRng1 false (eVar 2))]))
  (sIf (eNot (eCall 27 [eCall 18 [eVar 3, eVar 5, eMake 6 10 [eVar 15]], eCall 33 [eVar 3, eVar 5, eVar 15]])) (sRet (eC (.bl false))) (sNext))))))))
  (sSeq (sIf (eOr (eEqOwn ownCs eqOf (eMake 5 8 [eVar 8]) (eMake 6 10 [eVar 8])) (eOr (eEqOwn ownCs eqOf (eMake 5 8 [eVar 8]) (eVar 8)) (eAnd (eCmp .gt (eVar 2) (eC (.int 1))) (eEqOwn ownCs eqOf (eMake 5 8 [eVar 8]) (eMake 5 8 [eRev (eVar 8)]))))) (sRet (eC (.bl false))) (sNext))
  (sSeq (sIf (eOr (eEqOwn ownCs eqOf (eMake 6 10 [eTup [eC (.int 0), eC (.int 1), eC (.int 2)]]) (eMake 6 10 [eTup [eC (.int 0), eC (.int 2), eC (.int 1)]])) (eNot (eEqOwn ownCs eqOf (eMake 5 8 [eBi .list [eVar 8]]) (eMake 5 8 [eVar 8])))) (sRet (eC (.bl false))) (sNext))
  (sSeq (sFor (.seq (eLst [eC .non, eTup [], eC (.int 5), eVar 8])) (.name 6) (sIf (eNot (eCall 27 [eCall 18 [eVar 3, eVar 9, eVar 6], eTup [eC (.str "answer")]])) (sRet (eC (.bl false))) (sNext)))
  (sSeq (sUnpack [12, 13] (eTup [eCall 21 [eVar 1, eLst [eC .non, eC (.int 4), eC (.str "0")]], eCall 21 [eVar 1, eLst [eC .non, eTup [], eTup [eC (.int 0), eC (.int 0)], eTup [eC (.int 1)], eC (.int 5)]]]))
  (sSeq (sIf (eCmp .ne (eCallA 31 0) (eTup [eC (.str "row"), eRepr (eVar 12)])) (sRet (eC (.bl false))) (sNext))
  (sSeq (sIf (eCmp .ne (eCallA 31 1) (eTup [eC (.str "pair"), eC (.str "(0, 0)")])) (sRet (eC (.bl false))) (sNext))
  (sRet (eCmp .eq (eCallA 31 2) (eTup [eC (.str "order"), eRepr (eVar 13)]))))))))))))))))))
def lm_0 : EF := eCall 18 [eVar 3, eVar 12, eC .non]
def lm_1 : EF := eCall 18 [eVar 3, eBin .add (eVar 9) (eLst [eTup [eC (.int 0), eC (.int 0)]]), eC .non]
def lm_2 : EF := eCall 18 [eVar 13, eVar 12, eC .non]
def prog : Prog := ⟨fun q => match q with
  | 0 => ⟨nm_is_integer.length, 1, bd_is_integer⟩
  | 1 => ⟨nm_is_row.length, 1, bd_is_row⟩
  | 2 => ⟨nm_is_order.length, 1, bd_is_order⟩
  | 3 => ⟨nm_need_orders.length, 1, bd_need_orders⟩
  | 4 => ⟨nm_need_order.length, 1, bd_need_order⟩
  | 5 => ⟨nm_all_pairs.length, 1, bd_all_pairs⟩
  | 6 => ⟨nm_turned_pairs.length, 1, bd_turned_pairs⟩
  | 7 => ⟨nm_kept_row.length, 1, bd_kept_row⟩
  | 8 => ⟨nm_Inside_init.length, 2, bd_Inside_init⟩
  | 9 => ⟨nm_Inside_eq.length, 2, bd_Inside_eq⟩
  | 10 => ⟨nm_Around_init.length, 2, bd_Around_init⟩
  | 11 => ⟨nm_Around_eq.length, 2, bd_Around_eq⟩
  | 12 => ⟨nm_turned_in.length, 2, bd_turned_in⟩
  | 13 => ⟨nm_checked_pairs.length, 2, bd_checked_pairs⟩
  | 14 => ⟨nm_is_mirror.length, 2, bd_is_mirror⟩
  | 15 => ⟨nm_lesser_ones.length, 4, bd_lesser_ones⟩
  | 16 => ⟨nm_first_unlike.length, 3, bd_first_unlike⟩
  | 17 => ⟨nm_around_fault.length, 3, bd_around_fault⟩
  | 18 => ⟨nm_room_fault.length, 3, bd_room_fault⟩
  | 19 => ⟨nm__law_pen.length, 1, bd__law_pen⟩
  | 20 => ⟨nm__law_draw.length, 2, bd__law_draw⟩
  | 21 => ⟨nm__law_pick.length, 2, bd__law_pick⟩
  | 22 => ⟨nm__law_shuffled.length, 2, bd__law_shuffled⟩
  | 23 => ⟨nm__law_pairs.length, 1, bd__law_pairs⟩
  | 24 => ⟨nm__law_some_order.length, 2, bd__law_some_order⟩
  | 25 => ⟨nm__law_listed.length, 2, bd__law_listed⟩
  | 26 => ⟨nm__law_is_ints.length, 1, bd__law_is_ints⟩
  | 27 => ⟨nm__law_is_fault.length, 2, bd__law_is_fault⟩
  | 28 => ⟨nm__law_mirrors.length, 1, bd__law_mirrors⟩
  | 29 => ⟨nm__law_room.length, 2, bd__law_room⟩
  | 30 => ⟨nm__law_lesser.length, 4, bd__law_lesser⟩
  | 31 => ⟨nm__law_complaint.length, 1, bd__law_complaint⟩
  | 32 => ⟨nm__law_inside_due.length, 3, bd__law_inside_due⟩
  | 33 => ⟨nm__law_around_due.length, 3, bd__law_around_due⟩
  | 34 => ⟨nm__law_own_ring.length, 2, bd__law_own_ring⟩
  | 35 => ⟨nm__law_bent_order.length, 2, bd__law_bent_order⟩
  | 36 => ⟨nm__law_bent_places.length, 3, bd__law_bent_places⟩
  | _ => ⟨nm_law.length, 1, bd_law⟩
  , fun j => match j with
  | 0 => lm_0
  | 1 => lm_1
  | _ => lm_2
  ⟩
abbrev q_is_integer : Nat := 0
abbrev q_is_row : Nat := 1
abbrev q_is_order : Nat := 2
abbrev q_need_orders : Nat := 3
abbrev q_need_order : Nat := 4
abbrev q_all_pairs : Nat := 5
abbrev q_turned_pairs : Nat := 6
abbrev q_kept_row : Nat := 7
abbrev q_Inside_init : Nat := 8
abbrev q_Inside_eq : Nat := 9
abbrev q_Around_init : Nat := 10
abbrev q_Around_eq : Nat := 11
abbrev q_turned_in : Nat := 12
abbrev q_checked_pairs : Nat := 13
abbrev q_is_mirror : Nat := 14
abbrev q_lesser_ones : Nat := 15
abbrev q_first_unlike : Nat := 16
abbrev q_around_fault : Nat := 17
abbrev q_room_fault : Nat := 18
abbrev q__law_pen : Nat := 19
abbrev q__law_draw : Nat := 20
abbrev q__law_pick : Nat := 21
abbrev q__law_shuffled : Nat := 22
abbrev q__law_pairs : Nat := 23
abbrev q__law_some_order : Nat := 24
abbrev q__law_listed : Nat := 25
abbrev q__law_is_ints : Nat := 26
abbrev q__law_is_fault : Nat := 27
abbrev q__law_mirrors : Nat := 28
abbrev q__law_room : Nat := 29
abbrev q__law_lesser : Nat := 30
abbrev q__law_complaint : Nat := 31
abbrev q__law_inside_due : Nat := 32
abbrev q__law_around_due : Nat := 33
abbrev q__law_own_ring : Nat := 34
abbrev q__law_bent_order : Nat := 35
abbrev q__law_bent_places : Nat := 36
abbrev q_law : Nat := 37
theorem cl_is_integer (k : Nat) (v0 : Vl) (S : Sto) : callEv prog (k + 1) 0 [v0] S = leave S.length (bd_is_integer (bodyCx prog noRp (callEv prog k) noCallA (fun _ => .bad)) [some v0] S) := callEv_eq ⟨1, 1, bd_is_integer⟩ rfl rfl rfl
theorem cl_is_row (k : Nat) (v0 : Vl) (S : Sto) : callEv prog (k + 1) 1 [v0] S = leave S.length (bd_is_row (bodyCx prog noRp (callEv prog k) noCallA (fun _ => .bad)) [some v0] S) := callEv_eq ⟨1, 1, bd_is_row⟩ rfl rfl rfl
theorem cl_is_order (k : Nat) (v0 : Vl) (S : Sto) : callEv prog (k + 1) 2 [v0] S = leave S.length (bd_is_order (bodyCx prog noRp (callEv prog k) noCallA (fun _ => .bad)) [some v0, none] S) := callEv_eq ⟨2, 1, bd_is_order⟩ rfl rfl rfl
theorem cl_need_orders (k : Nat) (v0 : Vl) (S : Sto) : callEv prog (k + 1) 3 [v0] S = leave S.length (bd_need_orders (bodyCx prog noRp (callEv prog k) noCallA (fun _ => .bad)) [some v0, none, none] S) := callEv_eq ⟨3, 1, bd_need_orders⟩ rfl rfl rfl
theorem cl_need_order (k : Nat) (v0 : Vl) (S : Sto) : callEv prog (k + 1) 4 [v0] S = leave S.length (bd_need_order (bodyCx prog noRp (callEv prog k) noCallA (fun _ => .bad)) [some v0] S) := callEv_eq ⟨1, 1, bd_need_order⟩ rfl rfl rfl
theorem cl_all_pairs (k : Nat) (v0 : Vl) (S : Sto) : callEv prog (k + 1) 5 [v0] S = leave S.length (bd_all_pairs (bodyCx prog noRp (callEv prog k) noCallA (fun _ => .bad)) [some v0, none, none] S) := callEv_eq ⟨3, 1, bd_all_pairs⟩ rfl rfl rfl
theorem cl_turned_pairs (k : Nat) (v0 : Vl) (S : Sto) : callEv prog (k + 1) 6 [v0] S = leave S.length (bd_turned_pairs (bodyCx prog noRp (callEv prog k) noCallA (fun _ => .bad)) [some v0, none, none] S) := callEv_eq ⟨3, 1, bd_turned_pairs⟩ rfl rfl rfl
theorem cl_kept_row (k : Nat) (v0 : Vl) (S : Sto) : callEv prog (k + 1) 7 [v0] S = leave S.length (bd_kept_row (bodyCx prog noRp (callEv prog k) noCallA (fun _ => .bad)) [some v0] S) := callEv_eq ⟨1, 1, bd_kept_row⟩ rfl rfl rfl
theorem cl_Inside_init (k : Nat) (v0 : Vl) (v1 : Vl) (S : Sto) : callEv prog (k + 1) 8 [v0, v1] S = leave S.length (bd_Inside_init (bodyCx prog noRp (callEv prog k) noCallA (fun _ => .bad)) [some v0, some v1] S) := callEv_eq ⟨2, 2, bd_Inside_init⟩ rfl rfl rfl
theorem cl_Inside_eq (k : Nat) (v0 : Vl) (v1 : Vl) (S : Sto) : callEv prog (k + 1) 9 [v0, v1] S = leave S.length (bd_Inside_eq (bodyCx prog noRp (callEv prog k) noCallA (fun _ => .bad)) [some v0, some v1] S) := callEv_eq ⟨2, 2, bd_Inside_eq⟩ rfl rfl rfl
theorem cl_Around_init (k : Nat) (v0 : Vl) (v1 : Vl) (S : Sto) : callEv prog (k + 1) 10 [v0, v1] S = leave S.length (bd_Around_init (bodyCx prog noRp (callEv prog k) noCallA (fun _ => .bad)) [some v0, some v1] S) := callEv_eq ⟨2, 2, bd_Around_init⟩ rfl rfl rfl
theorem cl_Around_eq (k : Nat) (v0 : Vl) (v1 : Vl) (S : Sto) : callEv prog (k + 1) 11 [v0, v1] S = leave S.length (bd_Around_eq (bodyCx prog noRp (callEv prog k) noCallA (fun _ => .bad)) [some v0, some v1] S) := callEv_eq ⟨2, 2, bd_Around_eq⟩ rfl rfl rfl
theorem cl_turned_in (k : Nat) (v0 : Vl) (v1 : Vl) (S : Sto) : callEv prog (k + 1) 12 [v0, v1] S = leave S.length (bd_turned_in (bodyCx prog noRp (callEv prog k) noCallA (fun _ => .bad)) [some v0, some v1, none] S) := callEv_eq ⟨3, 2, bd_turned_in⟩ rfl rfl rfl
theorem cl_checked_pairs (k : Nat) (v0 : Vl) (v1 : Vl) (S : Sto) : callEv prog (k + 1) 13 [v0, v1] S = leave S.length (bd_checked_pairs (bodyCx prog noRp (callEv prog k) noCallA (fun _ => .bad)) [some v0, some v1, none, none, none] S) := callEv_eq ⟨5, 2, bd_checked_pairs⟩ rfl rfl rfl
theorem cl_is_mirror (k : Nat) (v0 : Vl) (v1 : Vl) (S : Sto) : callEv prog (k + 1) 14 [v0, v1] S = leave S.length (bd_is_mirror (bodyCx prog noRp (callEv prog k) noCallA (fun _ => .bad)) [some v0, some v1, none] S) := callEv_eq ⟨3, 2, bd_is_mirror⟩ rfl rfl rfl
theorem cl_lesser_ones (k : Nat) (v0 : Vl) (v1 : Vl) (v2 : Vl) (v3 : Vl) (S : Sto) : callEv prog (k + 1) 15 [v0, v1, v2, v3] S = leave S.length (bd_lesser_ones (bodyCx prog noRp (callEv prog k) noCallA (fun _ => .bad)) [some v0, some v1, some v2, some v3, none, none, none, none, none] S) := callEv_eq ⟨9, 4, bd_lesser_ones⟩ rfl rfl rfl
theorem cl_first_unlike (k : Nat) (v0 : Vl) (v1 : Vl) (v2 : Vl) (S : Sto) : callEv prog (k + 1) 16 [v0, v1, v2] S = leave S.length (bd_first_unlike (bodyCx prog noRp (callEv prog k) noCallA (fun _ => .bad)) [some v0, some v1, some v2, none] S) := callEv_eq ⟨4, 3, bd_first_unlike⟩ rfl rfl rfl
theorem cl_around_fault (k : Nat) (v0 : Vl) (v1 : Vl) (v2 : Vl) (S : Sto) : callEv prog (k + 1) 17 [v0, v1, v2] S = leave S.length (bd_around_fault (bodyCx prog noRp (callEv prog k) noCallA (fun _ => .bad)) [some v0, some v1, some v2, none, none, none, none] S) := callEv_eq ⟨7, 3, bd_around_fault⟩ rfl rfl rfl
theorem cl_room_fault (k : Nat) (v0 : Vl) (v1 : Vl) (v2 : Vl) (S : Sto) : callEv prog (k + 1) 18 [v0, v1, v2] S = leave S.length (bd_room_fault (bodyCx prog noRp (callEv prog k) noCallA (fun _ => .bad)) [some v0, some v1, some v2, none] S) := callEv_eq ⟨4, 3, bd_room_fault⟩ rfl rfl rfl
theorem cl__law_pen (k : Nat) (v0 : Vl) (S : Sto) : callEv prog (k + 1) 19 [v0] S = leave S.length (bd__law_pen (bodyCx prog noRp (callEv prog k) noCallA (fun _ => .bad)) [some v0, none, none] S) := callEv_eq ⟨3, 1, bd__law_pen⟩ rfl rfl rfl
theorem cl__law_draw (k : Nat) (v0 : Vl) (v1 : Vl) (S : Sto) : callEv prog (k + 1) 20 [v0, v1] S = leave S.length (bd__law_draw (bodyCx prog noRp (callEv prog k) noCallA (fun _ => .bad)) [some v0, some v1, none, none, none] S) := callEv_eq ⟨5, 2, bd__law_draw⟩ rfl rfl rfl
theorem cl__law_pick (k : Nat) (v0 : Vl) (v1 : Vl) (S : Sto) : callEv prog (k + 1) 21 [v0, v1] S = leave S.length (bd__law_pick (bodyCx prog noRp (callEv prog k) noCallA (fun _ => .bad)) [some v0, some v1] S) := callEv_eq ⟨2, 2, bd__law_pick⟩ rfl rfl rfl
theorem cl__law_shuffled (k : Nat) (v0 : Vl) (v1 : Vl) (S : Sto) : callEv prog (k + 1) 22 [v0, v1] S = leave S.length (bd__law_shuffled (bodyCx prog noRp (callEv prog k) noCallA (fun _ => .bad)) [some v0, some v1, none, none, none] S) := callEv_eq ⟨5, 2, bd__law_shuffled⟩ rfl rfl rfl
theorem cl__law_pairs (k : Nat) (v0 : Vl) (S : Sto) : callEv prog (k + 1) 23 [v0] S = leave S.length (bd__law_pairs (bodyCx prog noRp (callEv prog k) noCallA (fun _ => .bad)) [some v0, none, none, none] S) := callEv_eq ⟨4, 1, bd__law_pairs⟩ rfl rfl rfl
theorem cl__law_some_order (k : Nat) (v0 : Vl) (v1 : Vl) (S : Sto) : callEv prog (k + 1) 24 [v0, v1] S = leave S.length (bd__law_some_order (bodyCx prog noRp (callEv prog k) noCallA (fun _ => .bad)) [some v0, some v1] S) := callEv_eq ⟨2, 2, bd__law_some_order⟩ rfl rfl rfl
theorem cl__law_listed (k : Nat) (v0 : Vl) (v1 : Vl) (S : Sto) : callEv prog (k + 1) 25 [v0, v1] S = leave S.length (bd__law_listed (bodyCx prog noRp (callEv prog k) noCallA (fun _ => .bad)) [some v0, some v1] S) := callEv_eq ⟨2, 2, bd__law_listed⟩ rfl rfl rfl
theorem cl__law_is_ints (k : Nat) (v0 : Vl) (S : Sto) : callEv prog (k + 1) 26 [v0] S = leave S.length (bd__law_is_ints (bodyCx prog noRp (callEv prog k) noCallA (fun _ => .bad)) [some v0, none] S) := callEv_eq ⟨2, 1, bd__law_is_ints⟩ rfl rfl rfl
theorem cl__law_is_fault (k : Nat) (v0 : Vl) (v1 : Vl) (S : Sto) : callEv prog (k + 1) 27 [v0, v1] S = leave S.length (bd__law_is_fault (bodyCx prog noRp (callEv prog k) noCallA (fun _ => .bad)) [some v0, some v1, none] S) := callEv_eq ⟨3, 2, bd__law_is_fault⟩ rfl rfl rfl
theorem cl__law_mirrors (k : Nat) (v0 : Vl) (S : Sto) : callEv prog (k + 1) 28 [v0] S = leave S.length (bd__law_mirrors (bodyCx prog noRp (callEv prog k) noCallA (fun _ => .bad)) [some v0, none, none] S) := callEv_eq ⟨3, 1, bd__law_mirrors⟩ rfl rfl rfl
theorem cl__law_room (k : Nat) (v0 : Vl) (v1 : Vl) (S : Sto) : callEv prog (k + 1) 29 [v0, v1] S = leave S.length (bd__law_room (bodyCx prog noRp (callEv prog k) noCallA (fun _ => .bad)) [some v0, some v1, none] S) := callEv_eq ⟨3, 2, bd__law_room⟩ rfl rfl rfl
theorem cl__law_lesser (k : Nat) (v0 : Vl) (v1 : Vl) (v2 : Vl) (v3 : Vl) (S : Sto) : callEv prog (k + 1) 30 [v0, v1, v2, v3] S = leave S.length (bd__law_lesser (bodyCx prog noRp (callEv prog k) noCallA (fun _ => .bad)) [some v0, some v1, some v2, some v3, none, none] S) := callEv_eq ⟨6, 4, bd__law_lesser⟩ rfl rfl rfl
theorem cl__law_complaint (k : Nat) (v0 : Vl) (S : Sto) : callEv prog (k + 1) 31 [v0] S = leave S.length (bd__law_complaint (bodyCx prog noRp (callEv prog k) noCallA (fun _ => .bad)) [some v0, none] S) := callEv_eq ⟨2, 1, bd__law_complaint⟩ rfl rfl rfl
theorem cl__law_inside_due (k : Nat) (v0 : Vl) (v1 : Vl) (v2 : Vl) (S : Sto) : callEv prog (k + 1) 32 [v0, v1, v2] S = leave S.length (bd__law_inside_due (bodyCx prog noRp (callEv prog k) noCallA (fun _ => .bad)) [some v0, some v1, some v2, none, none, none] S) := callEv_eq ⟨6, 3, bd__law_inside_due⟩ rfl rfl rfl
theorem cl__law_around_due (k : Nat) (v0 : Vl) (v1 : Vl) (v2 : Vl) (S : Sto) : callEv prog (k + 1) 33 [v0, v1, v2] S = leave S.length (bd__law_around_due (bodyCx prog noRp (callEv prog k) noCallA (fun _ => .bad)) [some v0, some v1, some v2, none, none, none] S) := callEv_eq ⟨6, 3, bd__law_around_due⟩ rfl rfl rfl
theorem cl__law_own_ring (k : Nat) (v0 : Vl) (v1 : Vl) (S : Sto) : callEv prog (k + 1) 34 [v0, v1] S = leave S.length (bd__law_own_ring (bodyCx prog noRp (callEv prog k) noCallA (fun _ => .bad)) [some v0, some v1, none, none, none, none, none, none] S) := callEv_eq ⟨8, 2, bd__law_own_ring⟩ rfl rfl rfl
theorem cl__law_bent_order (k : Nat) (v0 : Vl) (v1 : Vl) (S : Sto) : callEv prog (k + 1) 35 [v0, v1] S = leave S.length (bd__law_bent_order (bodyCx prog noRp (callEv prog k) noCallA (fun _ => .bad)) [some v0, some v1, none, none, none, none, none] S) := callEv_eq ⟨7, 2, bd__law_bent_order⟩ rfl rfl rfl
theorem cl__law_bent_places (k : Nat) (v0 : Vl) (v1 : Vl) (v2 : Vl) (S : Sto) : callEv prog (k + 1) 36 [v0, v1, v2] S = leave S.length (bd__law_bent_places (bodyCx prog noRp (callEv prog k) noCallA (fun _ => .bad)) [some v0, some v1, some v2, none, none, none, none] S) := callEv_eq ⟨7, 3, bd__law_bent_places⟩ rfl rfl rfl
theorem cl_law (k : Nat) (v0 : Vl) (S : Sto) : callEv prog (k + 1) 37 [v0] S = leave S.length (bd_law (bodyCx prog noRp (callEv prog k) noCallA (fun _ => .bad)) [some v0, none, none, none, none, none, none, none, none, none, none, none, none, none, none, none, none] S) := callEv_eq ⟨17, 1, bd_law⟩ rfl rfl rfl
end K85
end

section
set_option Elab.async false
set_option linter.all false
set_option maxRecDepth 100000
set_option
        maxHeartbeats 1000000
namespace K85
open PySem (Str)
open Py
local macro_rules
  | `(tactic| simp! [$ls,*]) => `(tactic| simp only [Rs.bind_ok, Rs.bind_exc, Rs.out_ok, Rs.out_exc, Rs.bind_ite, Rs.out_ite, Ou.andT_nx, Ou.andT_rt, Ou.andT_bk, Ou.andT_ct, Ou.andT_exc, Ou.andT_ite,
    leave_ite, leave_nx, leave_d, leave_exc, fz_eq, frzK_d, frzK_new, frzK_ro, frzK_box, frzK_lams, eVar_eq, varK_some, eC_eq, eLam_eq, eTake_eq, takeK_box, takeK2_lst, eBin_eq, binK_eq, binK2_eq, unbox_d, unbox_box, unboxK_lst, binV_add, binV_sub,
    eNeg_eq, negK_int, eNot_eq, notK_b, eAnd_eq, andK_b, eOr_eq, orK_b, eIf_eq, ifK_b, and_mg, or_mg, ite_mg, ite_bl_t, ite_bl_f, ite_bl_n, ite_bl_o, ite_int, eCmp_eq, cmpK_eq, cmpV_lt, cmpV_le, cmpV_gt, cmpV_ge, cmpV_eqI, cmpV_neI, cmpV_eqB, cmpV_neB, eChain_eq, chK0_eq, chK1_eq, chK_b,
    eIsNone_eq, noneK_d, eIsInst_eq, instK_non, instK_bl, instK_int, instK_str, instK_tup, instK_lst, isTys_nil, isTys_cons, kdIs_int_non, kdIs_int_bl, kdIs_int_int, kdIs_int_str, kdIs_int_tup, kdIs_int_lst, kdIs_int_ins, kdIs_bool_non, kdIs_bool_bl, kdIs_bool_int, kdIs_bool_str, kdIs_bool_tup, kdIs_bool_lst, kdIs_bool_ins, kdIs_str_non, kdIs_str_bl, kdIs_str_int, kdIs_str_str, kdIs_str_tup, kdIs_str_lst, kdIs_str_ins, kdIs_list_non, kdIs_list_bl, kdIs_list_int, kdIs_list_str, kdIs_list_tup, kdIs_list_lst, kdIs_list_ins, kdIs_tuple_non, kdIs_tuple_bl, kdIs_tuple_int, kdIs_tuple_str, kdIs_tuple_tup, kdIs_tuple_lst, kdIs_tuple_ins, kdIs_cls_non, kdIs_cls_bl, kdIs_cls_int, kdIs_cls_str, kdIs_cls_tup, kdIs_cls_lst, kdIs_cls_ins, Bool.or_false, Bool.false_or, Bool.or_true, Bool.true_or, Bool.and_true, Bool.true_and, Bool.and_false, Bool.false_and, evAll_nil, evAll_cons, consK_eq, consK2_eq, eTup_eq, tupK_0, tupK_1, tupK_2, tupK_3, tupK_4, eLst_eq, lstK_0, lstK_1, lstK_2, lstK_3, lstK_4, lstK_5, lstK_6, lstK_7, lstK_8, lstK_9, eLams_eq,
    eIx_eq, ixK_eq, eKey_eq, evPart_none, evPart_some, partK_int, eSlice_eq, slK_eq, slK1_eq, slK2_eq, cutV_lst, cutV_tup, eRev_eq, revK_eq, revV_lst, revV_tup, eFld_eq, eCall_eq, callK_ok, bodyCx_call, eMake_eq, eBi_eq, eRng1_eq, eRng2_eq, rngK2_eq,
    biV_int1, biV_min2, biV_max2, seqOf_lst, seqOf_tup, seqOf_ro, seqOf_new, isLst_lst, isLst_new, mkSeq_t, mkSeq_f, eMt_eq, src_seq, srcK_lst, srcK_tup, srcK_ro, src_r1, src_r2, srcK2_eq, src_en, enK_lst, enK_tup, tgV_name, tgV_names2,
    eComp_eq, cpK_eq, newK_eq, eComp2_eq, cp2K_eq, wipeE_nil, wipeE_cons, sNext_eq, sPass_eq, sBreak_eq, sCont_eq, sSeq_eq, sExpr_eq, exprK_eq, sRet_eq, sRetN_eq, sIf_eq, sifK_b, sSet_eq, setK_eq, sBox_eq, boxK_new, sUnpack_eq, unpK_2,
    parV_t, parV_f, pboxK_new, sPar_eq, parK_eq, parK2_eq, sPutK_eq, eRepr_eq, bodyCx_rp, lamCx_call, noBox_nil, noBox_cons, hideB_none, hideB_d, hideB_ro, hideB_box, sSetIx2_eq, six1_eq, six2_eq, six3_eq, six4_eq, six5_eq, six6_eq, six7_eq, setIx_E, eDict_eq, leave_box, sFld_eq, sfldK1_eq, sfldK2_eq, eEqOwn_eq, eqK1_eq, take_last2, putK1_eq, sRaise_eq, raiseK_1, sFor_eq, forK_eq, biV_lenE, lenK_s, biV_listE, listK_s, biV_tupleE, tupleK_s, biV_allM, biV_anyM, biV_sumM, seqOf_box, seqB_lst, isLst_box, isLB_lst, ixV_E, ixK2_0, ixK2_1, ixK2_2, ixK2_neg1, mtV_appE, mtV_popE, appK_nil, mtK_ok, keyK_box, forGo_nil, forGo_cons, tgK_s, Ou.loopT_nx, Ou.loopT_ct, Ou.loopT_bk, Ou.loopT_rt, Ou.loopT_exc, Ou.loopT_ite, stp_ite, stp_nx, stp_rt, stp_exc, cmpV_inE, cmpV_ninE, inK_I, ninK_I, inK_P, ninK_P, encP_eq, cmpV_eqL, cmpV_neL, cmpV_eqT, cmpV_neT, argOk, List.all_cons, List.all_nil, Bool.and_true, Bool.and_self,
    List.getElem?_cons_zero, List.getElem?_cons_succ, List.set_cons_zero, List.set_cons_succ, List.take_length, get_last, set_last, take_last, if_true, if_false, ite_self, Bool.false_eq_true, Bool.true_eq_false, reduceIte, Bool.not_true, Bool.not_false, beq_self_eq_true, Nat.reduceBEq, $ls,*])
local macro_rules
  | `(tactic| simp!) => `(tactic| simp! [Rs.bind_ok])

def isIntB : D → Bool
  | .int _ => true
  | _ => false
def isRowB : D → Bool
  | .lst _ => true
  | .tup _ => true
  | _ => false
def itemsOf : D → List D
  | .lst xs => xs
  | .tup xs => xs
  | _ => []
/-- of no class that is not the law's -/
def knd (x : D) : Prop := kdOk ownCs (kdOf x) = true
theorem knd_int {i : Int} : knd (.int i) := rfl
theorem w_is_integer (k : Nat) (S : Sto) (x : D) (hx : knd x) : callEv prog (k + 1) q_is_integer [.d x] S = .ok (.d (.bl (isIntB x))) S := by
  rw [cl_is_integer]; unfold bd_is_integer
  simp! [instK_d hx]
  cases x <;> rfl
theorem w_is_row (k : Nat) (S : Sto) (x : D) (hx : knd x) : callEv prog (k + 1) q_is_row [.d x] S = .ok (.d (.bl (isRowB x))) S := by
  rw [cl_is_row]; unfold bd_is_row
  simp! [instK_d hx]
  cases x <;> rfl
/-! whole numbers alone -/
theorem intsOf_some : ∀ {xs : List D} {is : List Int}, intsOf xs = some is → xs = is.map .int
  | [], is, h => by simp [intsOf] at h; subst h; rfl
  | x :: xs, is, h => by
    cases x with
    | int i =>
      rw [intsOf] at h
      cases e : intsOf xs with
      | none => rw [e] at h; simp at h
      | some js => rw [e] at h; simp at h; subst h; rw [intsOf_some e]; rfl
    | _ => simp [intsOf] at h
theorem intsOf_none : ∀ {xs : List D}, intsOf xs = none → xs.all isIntB = false
  | [], h => by simp [intsOf] at h
  | x :: xs, h => by
    cases x with
    | int i =>
      rw [intsOf] at h
      cases e : intsOf xs with
      | none => rw [List.all_cons, intsOf_none e]; simp
      | some js => rw [e] at h; simp at h
    | _ => simp [isIntB]
theorem all_ints (is : List Int) : (is.map D.int).all isIntB = true := by
  rw [List.all_map]; exact List.all_eq_true.2 fun _ _ => rfl
def isOrdL (xs : List D) : Bool := decide ((1 : Int) ≤ xs.length) && decide ((xs.length : Int) ≤ 8) && (match intsOf xs with
  | some is => decide (sortInts is = rangeI 0 is.length)
  | none => false)
def isOrdB : D → Bool
  | .lst xs => isOrdL xs
  | .tup xs => isOrdL xs
  | _ => false
theorem w_is_order (k : Nat) (S : Sto) (x : D) (hx : knd x) (hi : ∀ y ∈ itemsOf x, knd y) (hl : (itemsOf x).length ≤ 1000) : callEv prog (k + 2) q_is_order [.d x] S = .ok (.d (.bl (isOrdB x))) S := by
  have hg : ∀ (xs : List D) (o : Option Vl), (∀ y ∈ xs, knd y) → xs.length ≤ 1000 →
      compGo (Tg.name 1) none (eCall 0 [eVar 1]) (bodyCx prog noRp (callEv prog (k + 1)) noCallA fun x => Rs.bad) [o, none] xs [] S = .ok (xs.map fun x => D.bl (isIntB x)) S := by
    intro xs o hk hl
    rw [compGo_none (g := fun x => D.bl (isIntB x)) xs []]
    · rfl
    · intro y hy
      exact ⟨_, rfl, by simp! [w_is_integer k S y (hk y hy)]⟩
    · show 0 + xs.length ≤ 16777216
      omega
  rw [cl_is_order]; unfold bd_is_order
  cases x with
  | lst xs =>
    simp! [w_is_row k S _ hx, hg xs _ hi hl, isRowB]
    cases e : intsOf xs with
    | none => simp [intsOf_none e, isOrdB, isOrdL, e]
    | some is =>
      obtain rfl := intsOf_some e
      have hl' : is.length ≤ 1000 := by have := hl; rwa [itemsOf, List.length_map] at this
      simp! [biV_sorted seqOf_lst, List.length_map, rg1V_ok hl', all_ints, isOrdB, isOrdL, e]
      simp
  | tup xs =>
    simp! [w_is_row k S _ hx, hg xs _ hi hl, isRowB]
    cases e : intsOf xs with
    | none => simp [intsOf_none e, isOrdB, isOrdL, e]
    | some is =>
      obtain rfl := intsOf_some e
      have hl' : is.length ≤ 1000 := by have := hl; rwa [itemsOf, List.length_map] at this
      simp! [biV_sorted seqOf_tup, List.length_map, rg1V_ok hl', all_ints, isOrdB, isOrdL, e]
      simp
  | _ =>
    simp! [w_is_row k S _ hx, isRowB]
    rfl
theorem w_need_orders_t (k : Nat) (S : Sto) (x : D) (hx : knd x) (hi : ∀ y ∈ itemsOf x, knd y) (hl : (itemsOf x).length ≤ 1000) (h : isOrdB x = true) : callEv prog (k + 3) q_need_orders [.d (.lst [x])] S = .ok (.d (.lst [.tup (itemsOf x)])) S := by
  rw [cl_need_orders]; unfold bd_need_orders
  cases x with
  | lst xs => simp! [w_is_order k _ _ hx hi hl, h, itemsOf]
  | tup xs => simp! [w_is_order k _ _ hx hi hl, h, itemsOf]
  | _ => exact absurd h (by simp [isOrdB])
theorem w_need_orders_f (k : Nat) (S : Sto) (x : D) (hx : knd x) (hi : ∀ y ∈ itemsOf x, knd y) (hl : (itemsOf x).length ≤ 1000) (h : isOrdB x = false) : callEv prog (k + 3) q_need_orders [.d (.lst [x])] S = .exc ⟨2, [("value", x)]⟩ S := by
  rw [cl_need_orders]; unfold bd_need_orders
  simp! [w_is_order k _ _ hx hi hl, h]
theorem w_need_order_t (k : Nat) (S : Sto) (x : D) (hx : knd x) (hi : ∀ y ∈ itemsOf x, knd y) (hl : (itemsOf x).length ≤ 1000) (h : isOrdB x = true) : callEv prog (k + 4) q_need_order [.d x] S = .ok (.d (.tup (itemsOf x))) S := by
  rw [cl_need_order]; unfold bd_need_order
  simp! [w_need_orders_t k _ _ hx hi hl h]
theorem w_need_order_f (k : Nat) (S : Sto) (x : D) (hx : knd x) (hi : ∀ y ∈ itemsOf x, knd y) (hl : (itemsOf x).length ≤ 1000) (h : isOrdB x = false) : callEv prog (k + 4) q_need_order [.d x] S = .exc ⟨2, [("value", x)]⟩ S := by
  rw [cl_need_order]; unfold bd_need_order
  simp! [w_need_orders_f k _ _ hx hi hl h]
theorem rng_ok {i : Int} (h : -1000000 ≤ i ∧ i ≤ 1000000) : rngOk i = true := by
  unfold rngOk; rw [Bool.and_eq_true, decide_eq_true_eq, decide_eq_true_eq]; omega
theorem w_all_pairs (k : Nat) (S : Sto) (n : Nat) (hn : n ≤ 1000) : callEv prog (k + 1) q_all_pairs [.d (.int n)] S = .ok (.d (.lst ((allP n).map encP))) S := by
  rw [cl_all_pairs]; unfold bd_all_pairs
  simp! [rg1K_nat hn]
  have e : rangeI 0 n = (List.range n).map fun (i : Nat) => (i : Int) := by unfold rangeI; simp
  rw [e, List.map_map, compGo2_map (D.int ∘ fun (i : Nat) => (i : Int)) (fun i => ((rangeI ((i : Int) + 1) (n - (i + 1))).map fun j => D.tup [.int i, .int j])) n]
  · simp! [List.nil_append]
    unfold allP
    rw [List.map_flatMap]
    simp only [List.map_map]
    rfl
  · intro i hi
    rw [List.mem_range] at hi
    have h1 : (rngOk ((i : Int) + 1) && rngOk n) = true := by rw [rng_ok (by omega), rng_ok (by omega)]; rfl
    have h2 : ((n : Int) - ((i : Int) + 1)).toNat = n - (i + 1) := by omega
    refine ⟨_, (rangeI ((i : Int) + 1) (n - (i + 1))).map D.int, rfl, ?_, ?_, ?_⟩
    · simp! [Function.comp, rg2K_int h1, h2]
    · rw [List.length_map, length_rangeI]; omega
    · intro acc ha
      rw [compGo_map D.int (fun _ => true) (fun j => D.tup [.int i, .int j])]
      · rw [List.filter_eq_self.2 fun _ _ => rfl]
      · intro j _
        exact ⟨_, rfl, rfl, fun _ => by simp! [Function.comp]⟩
      · rw [length_rangeI]; omega
  · rw [List.length_range]
    show 0 + n * n ≤ 16777216
    have := Nat.mul_le_mul hn hn
    omega
theorem w_turned_pairs (k : Nat) (S : Sto) (w : List Int) (hn : w.length ≤ 1000) : callEv prog (k + 2) q_turned_pairs [.d (.tup (w.map .int))] S = .ok (.d (.tup ((mir w).map encP))) S := by
  rw [cl_turned_pairs]; unfold bd_turned_pairs
  simp! [List.length_map, w_all_pairs k S w.length hn]
  rw [compGo_map encP (fun p => decide (wAt w p.2 < wAt w p.1)) encP]
  · simp! [List.nil_append]; rfl
  · intro p hp
    have := mem_allP.1 hp
    exact ⟨_, rfl, by simp! [ixK2_w (w := w) (i := p.1) (by omega) (by omega), ixK2_w (w := w) (i := p.2) (by omega) (by omega)], fun _ => by simp!⟩
  · show 0 + (allP w.length).length ≤ 16777216
    have := length_allP w.length
    have := Nat.mul_le_mul hn hn
    omega
theorem w_turned_in (k : Nat) (S : Sto) (ms : List (Int × Int)) (x : List Int) (hm : ms.length ≤ 1000000) (h : ∀ p ∈ ms, 0 ≤ p.1 ∧ p.1 < x.length ∧ 0 ≤ p.2 ∧ p.2 < x.length) : callEv prog (k + 1) q_turned_in [.d (.tup (ms.map encP)), .d (.tup (x.map .int))] S = .ok (.d (.tup ((turnIn ms x).map encP))) S := by
  rw [cl_turned_in]; unfold bd_turned_in
  simp!
  rw [compGo_map encP (fun p => decide (wAt x p.2 < wAt x p.1)) encP]
  · simp! [List.nil_append]; rfl
  · intro p hp
    have := h p hp
    exact ⟨_, rfl, by simp! [ixK2_w (w := x) (i := p.1) (by omega) (by omega), ixK2_w (w := x) (i := p.2) (by omega) (by omega)], fun _ => by simp!⟩
  · show 0 + ms.length ≤ 16777216
    omega
theorem w_kept_row (k : Nat) (S : Sto) (x : D) (hx : knd x) : callEv prog (k + 2) q_kept_row [.d x] S = .ok (.d (match x with | .lst xs => .tup xs | y => y)) S := by
  rw [cl_kept_row]; unfold bd_kept_row
  cases x <;> simp! [w_is_row k S _ hx, isRowB]
theorem w_is_mirror (k : Nat) (S : Sto) (ms : List (Int × Int)) (p : Int × Int) : callEv prog (k + 2) q_is_mirror [.d (.tup (ms.map encP)), .d (encP p)] S = .ok (.d (.bl (decide (p ∈ ms)))) S := by
  rw [cl_is_mirror]; unfold bd_is_mirror
  simp! [List.length_cons, List.length_nil]
  rw [compGo_none (g := fun x => D.bl (isIntB x)) _ []]
  · simp! [List.nil_append]
    simp! [List.all_cons, isIntB]
    simp
  · intro y hy
    refine ⟨_, rfl, ?_⟩
    have : ∃ i, y = .int i := by
      rcases List.mem_cons.1 hy with rfl | hy
      · exact ⟨_, rfl⟩
      · rcases List.mem_cons.1 hy with rfl | hy
        · exact ⟨_, rfl⟩
        · exact absurd hy (by simp)
    obtain ⟨i, rfl⟩ := this
    simp! [w_is_integer k S _ knd_int]
  · show 0 + 2 ≤ 16777216
    omega
/-- the first pair that is no mirror, or stands there before -/
def firstBad (ms : List (Int × Int)) : List (Int × Int) → List (Int × Int) → Option (Int × Int)
  | _, [] => none
  | seen, p :: r => if p ∈ ms ∧ ¬ p ∈ seen then firstBad ms (seen ++ [p]) r else some p
theorem w_checked_pairs (k : Nat) (S : Sto) (w : List Int) (mk : List D → D) (hmk : mk = D.lst ∨ mk = D.tup) (ps : List (Int × Int)) (hn : w.length ≤ 1000) (hp : ps.length ≤ 1000000) :
    callEv prog (k + 3) q_checked_pairs [.d (.tup (w.map .int)), .d (mk (ps.map encP))] S = match firstBad (mir w) [] ps with
      | none => .ok (.d (.lst (ps.map encP))) S
      | some p => .exc ⟨4, [("item", encP p)]⟩ S := by
  rw [cl_checked_pairs]; unfold bd_checked_pairs
  have hr : callEv prog (k + 2) 1 [.d (mk (ps.map encP))] S = .ok (.d (.bl true)) S := by
    rcases hmk with rfl | rfl <;> rw [w_is_row (k + 1) S _ (by rfl)] <;> rfl
  rcases hmk with rfl | rfl
  all_goals
    simp! [hr, w_turned_pairs k S w hn]
    rw [enumD_map]
    generalize hL : forGo _ _ _ _ _ _ = o
    have H := forGo_mp (fun a : (Int × Int) × Nat => D.tup [.int a.2, encP a.1]) hL
      (fun done env S' => S' = S ∧ firstBad (mir w) (ps.take done.length) (ps.drop done.length) = firstBad (mir w) [] ps ∧ ∃ e3 e4, env = [_, _, _, e3, e4])
      (fun env S' => S' = S ∧ firstBad (mir w) [] ps = none ∧ ∃ e3 e4, env = [_, _, _, e3, e4]) (fun _ _ => False) (fun x S' => S' = S ∧ ∃ p, firstBad (mir w) [] ps = some p ∧ x = ⟨4, [("item", encP p)]⟩)
      ⟨rfl, by simp, _, _, rfl⟩
      (by
        rintro done ⟨p, i⟩ rest env S' hs ⟨rfl, hb, e3, e4, rfl⟩
        obtain ⟨rfl, hg⟩ := zipIdx_split hs
        refine ⟨_, rfl, ?_⟩
        rw [drop_cons hg] at hb
        have := get_lt hg
        simp! [show callEv prog (k + 2) 14 [.d (.tup ((mir w).map encP)), .d (.tup [.int p.1, .int p.2])] S' = _ from w_is_mirror k S' (mir w) p, cut_take (xs := ps.map encP) (k := done.length) (by rw [List.length_map]; omega), ← List.map_take]
        rw [firstBad] at hb
        by_cases h1 : p ∈ mir w ∧ ¬ p ∈ ps.take done.length
        · rw [if_pos h1] at hb
          rw [if_neg (by simp [h1.1, h1.2])]
          exact ⟨by trivial, by rw [List.length_append, List.length_singleton, take_snoc hg]; exact hb, _, _, rfl⟩
        · rw [if_neg h1] at hb
          rw [if_pos (by by_cases h2 : p ∈ mir w <;> simp [h2]; exact Classical.byContradiction fun h3 => h1 ⟨h2, h3⟩)]
          exact ⟨by trivial, p, hb.symm, rfl⟩)
      (by
        rintro env S' ⟨rfl, hb, e3, e4, rfl⟩
        refine ⟨rfl, ?_, e3, e4, rfl⟩
        rw [← hb, List.drop_eq_nil_of_le (by rw [List.length_zipIdx]; exact Nat.le_refl _)]; rfl)
    rcases H with ⟨e, S', rfl, rfl, hb, e3, e4, rfl⟩ | ⟨v, S', rfl, hf⟩ | ⟨x, S', rfl, rfl, p, hb, rfl⟩
    · rw [hb]; simp!
    · exact hf.elim
    · rw [hb]; simp!
/-- the lower place of a mirror below b -/
def lo (ps : List (Int × Int)) (b : Int) (ls : List Int) (p : Int × Int) : Option Int :=
  if p ∈ ps then (if p.1 = b ∧ p.2 ∈ ls then some p.2 else none) else (if p.2 = b ∧ p.1 ∈ ls then some p.1 else none)
theorem w_lesser_ones (k : Nat) (S : Sto) (w : List Int) (ps : List (Int × Int)) (b : Int) (ls : List Int) (hn : w.length ≤ 1000) :
    callEv prog (k + 3) q_lesser_ones [.d (.tup (w.map .int)), .d (.lst (ps.map encP)), .d (.int b), .d (.lst (ls.map .int))] S = .ok (.d (.lst (((mir w).filterMap (lo ps b ls)).map .int))) S := by
  rw [cl_lesser_ones]; unfold bd_lesser_ones
  simp! [w_turned_pairs k _ w hn]
  generalize hL : forGo _ _ _ _ _ _ = o
  have H := forGo_mp encP hL
    (fun done env S' => S' = S ++ [.lst ((done.filterMap (lo ps b ls)).map .int)] ∧ ∃ e5 e6 e7 e8, env = [_, _, _, _, _, e5, e6, e7, e8])
    (fun env S' => S' = S ++ [.lst (((mir w).filterMap (lo ps b ls)).map .int)] ∧ ∃ e5 e6 e7 e8, env = [_, _, _, _, some (.box S.length), e5, e6, e7, e8]) (fun _ _ => False) (fun _ _ => False)
    ⟨rfl, _, _, _, _, rfl⟩
    (by
      rintro done ⟨i, j⟩ rest env S' hs ⟨rfl, e5, e6, e7, e8, rfl⟩
      refine ⟨_, rfl, ?_⟩
      have hd : ((done.filterMap (lo ps b ls)).map D.int).length < sizeCap := by
        rw [List.length_map]
        have h1 := List.length_filterMap_le (lo ps b ls) done
        have h2 : done.length ≤ (mir w).length := by rw [hs, List.length_append]; omega
        have h3 : (mir w).length ≤ (allP w.length).length := List.length_filter_le ..
        have h4 := length_allP w.length
        have h5 := Nat.mul_le_mul hn hn
        show _ < 16777216
        omega
      rw [List.filterMap_append]
      by_cases h1 : (i, j) ∈ ps
      · simp! [h1, decide_true]
        by_cases h2 : i = b ∧ j ∈ ls
        · simp! [h2.1, h2.2, decide_true, appK_lst hd]
          refine ⟨by simp [lo, h1, h2.1 ▸ h1, h2], _, _, _, _, rfl⟩
        · have : (i == b && decide (j ∈ ls)) = false := by
            by_cases h3 : i = b <;> by_cases h4 : j ∈ ls <;> simp [h3, h4]
            exact absurd ⟨h3, h4⟩ h2
          simp! [this]
          refine ⟨by simp [lo, h1, h2], _, _, _, _, rfl⟩
      · simp! [h1, decide_false]
        by_cases h2 : j = b ∧ i ∈ ls
        · simp! [h2.1, h2.2, decide_true, appK_lst hd]
          refine ⟨by simp [lo, h2.1 ▸ h1, h2], _, _, _, _, rfl⟩
        · have : (j == b && decide (i ∈ ls)) = false := by
            by_cases h3 : j = b <;> by_cases h4 : i ∈ ls <;> simp [h3, h4]
            exact absurd ⟨h3, h4⟩ h2
          simp! [this]
          refine ⟨by simp [lo, h1, h2], _, _, _, _, rfl⟩)
    (by
      rintro env S' ⟨rfl, e5, e6, e7, e8, rfl⟩
      exact ⟨rfl, _, _, _, _, rfl⟩)
  rcases H with ⟨e, S', rfl, rfl, e5, e6, e7, e8, rfl⟩ | ⟨v, S', rfl, hf⟩ | ⟨x, S', rfl, hf⟩
  · simp!
  · exact hf.elim
  · exact hf.elim
/-- the first pair for which f holds -/
def firstUn (f : Int × Int → Bool) : List (Int × Int) → D
  | [] => .non
  | p :: r => if f p then .tup [.str "pair", .int p.1, .int p.2] else firstUn f r
theorem w_first_unlike (k : Nat) (S : Sto) (ms ps rs : List (Int × Int)) :
    callEv prog (k + 1) q_first_unlike [.d (.tup (ms.map encP)), .d (.lst (ps.map encP)), .d (.tup (rs.map encP))] S = .ok (.d (firstUn (fun p => !(decide (p ∈ ps) == decide (p ∈ rs))) ms)) S := by
  rw [cl_first_unlike]; unfold bd_first_unlike
  simp!
  generalize hf : (fun p => !(decide (p ∈ ps) == decide (p ∈ rs))) = f
  generalize hL : forGo _ _ _ _ _ _ = o
  have H := forGo_mp encP hL
    (fun done env S' => S' = S ∧ (∀ rest, ms = done ++ rest → firstUn f rest = firstUn f ms) ∧ ∃ e3, env = [_, _, _, e3])
    (fun env S' => S' = S ∧ firstUn f ms = .non) (fun v S' => S' = S ∧ v = .d (firstUn f ms)) (fun _ _ => False)
    ⟨rfl, fun rest h => by rw [h]; rfl, _, rfl⟩
    (by
      rintro done ⟨i, j⟩ rest env S' hs ⟨rfl, hb, e3, rfl⟩
      refine ⟨_, rfl, ?_⟩
      have hb' := hb _ hs
      have hf' : (!(decide ((i, j) ∈ ps) == decide ((i, j) ∈ rs))) = f (i, j) := by rw [← hf]
      simp! [hf']
      cases e : f (i, j) with
      | true =>
        simp! [if_true]
        rw [firstUn, if_pos e] at hb'
        exact ⟨by trivial, by rw [← hb']⟩
      | false =>
        simp!
        rw [firstUn, if_neg (by rw [e]; simp)] at hb'
        refine ⟨by trivial, ?_, _, rfl⟩
        intro rest' h'
        rw [hs, List.append_assoc] at h'
        have := List.append_cancel_left h'
        simp at this
        rw [← this]; exact hb')
    (by
      rintro env S' ⟨rfl, hb, e3, rfl⟩
      exact ⟨rfl, by rw [← hb [] (by simp)]; rfl⟩)
  rcases H with ⟨e, S', rfl, rfl, hb⟩ | ⟨v, S', rfl, rfl, rfl⟩ | ⟨x, S', rfl, hf⟩
  · simp! [hb]
  · simp!
  · exact hf.elim
end K85
end

section
set_option Elab.async false
set_option linter.all false
set_option maxRecDepth 100000
set_option
        maxHeartbeats 1000000
namespace K85
open PySem (Str)
open Py
local macro_rules
  | `(tactic| simp! [$ls,*]) => `(tactic| simp only [Rs.bind_ok, Rs.bind_exc, Rs.out_ok, Rs.out_exc, Rs.bind_ite, Rs.out_ite, Ou.andT_nx, Ou.andT_rt, Ou.andT_bk, Ou.andT_ct, Ou.andT_exc, Ou.andT_ite,
    leave_ite, leave_nx, leave_d, leave_exc, fz_eq, frzK_d, frzK_new, frzK_ro, frzK_box, frzK_lams, eVar_eq, varK_some, eC_eq, eLam_eq, eTake_eq, takeK_box, takeK2_lst, eBin_eq, binK_eq, binK2_eq, unbox_d, unbox_box, unboxK_lst, binV_add, binV_sub,
    eNeg_eq, negK_int, eNot_eq, notK_b, eAnd_eq, andK_b, eOr_eq, orK_b, eIf_eq, ifK_b, and_mg, or_mg, ite_mg, ite_bl_t, ite_bl_f, ite_bl_n, ite_bl_o, ite_int, eCmp_eq, cmpK_eq, cmpV_lt, cmpV_le, cmpV_gt, cmpV_ge, cmpV_eqI, cmpV_neI, cmpV_eqB, cmpV_neB, eChain_eq, chK0_eq, chK1_eq, chK_b,
    eIsNone_eq, noneK_d, eIsInst_eq, instK_non, instK_bl, instK_int, instK_str, instK_tup, instK_lst, isTys_nil, isTys_cons, kdIs_int_non, kdIs_int_bl, kdIs_int_int, kdIs_int_str, kdIs_int_tup, kdIs_int_lst, kdIs_int_ins, kdIs_bool_non, kdIs_bool_bl, kdIs_bool_int, kdIs_bool_str, kdIs_bool_tup, kdIs_bool_lst, kdIs_bool_ins, kdIs_str_non, kdIs_str_bl, kdIs_str_int, kdIs_str_str, kdIs_str_tup, kdIs_str_lst, kdIs_str_ins, kdIs_list_non, kdIs_list_bl, kdIs_list_int, kdIs_list_str, kdIs_list_tup, kdIs_list_lst, kdIs_list_ins, kdIs_tuple_non, kdIs_tuple_bl, kdIs_tuple_int, kdIs_tuple_str, kdIs_tuple_tup, kdIs_tuple_lst, kdIs_tuple_ins, kdIs_cls_non, kdIs_cls_bl, kdIs_cls_int, kdIs_cls_str, kdIs_cls_tup, kdIs_cls_lst, kdIs_cls_ins, Bool.or_false, Bool.false_or, Bool.or_true, Bool.true_or, Bool.and_true, Bool.true_and, Bool.and_false, Bool.false_and, evAll_nil, evAll_cons, consK_eq, consK2_eq, eTup_eq, tupK_0, tupK_1, tupK_2, tupK_3, tupK_4, eLst_eq, lstK_0, lstK_1, lstK_2, lstK_3, lstK_4, lstK_5, lstK_6, lstK_7, lstK_8, lstK_9, eLams_eq,
    eIx_eq, ixK_eq, eKey_eq, evPart_none, evPart_some, partK_int, eSlice_eq, slK_eq, slK1_eq, slK2_eq, cutV_lst, cutV_tup, eRev_eq, revK_eq, revV_lst, revV_tup, eFld_eq, eCall_eq, callK_ok, bodyCx_call, eMake_eq, eBi_eq, eRng1_eq, eRng2_eq, rngK2_eq,
    biV_int1, biV_min2, biV_max2, seqOf_lst, seqOf_tup, seqOf_ro, seqOf_new, isLst_lst, isLst_new, mkSeq_t, mkSeq_f, eMt_eq, src_seq, srcK_lst, srcK_tup, srcK_ro, src_r1, src_r2, srcK2_eq, src_en, enK_lst, enK_tup, tgV_name, tgV_names2,
    eComp_eq, cpK_eq, newK_eq, eComp2_eq, cp2K_eq, wipeE_nil, wipeE_cons, sNext_eq, sPass_eq, sBreak_eq, sCont_eq, sSeq_eq, sExpr_eq, exprK_eq, sRet_eq, sRetN_eq, sIf_eq, sifK_b, sSet_eq, setK_eq, sBox_eq, boxK_new, sUnpack_eq, unpK_2,
    parV_t, parV_f, pboxK_new, sPar_eq, parK_eq, parK2_eq, sPutK_eq, eRepr_eq, bodyCx_rp, lamCx_call, noBox_nil, noBox_cons, hideB_none, hideB_d, hideB_ro, hideB_box, sSetIx2_eq, six1_eq, six2_eq, six3_eq, six4_eq, six5_eq, six6_eq, six7_eq, setIx_E, eDict_eq, leave_box, sFld_eq, sfldK1_eq, sfldK2_eq, eEqOwn_eq, eqK1_eq, take_last2, putK1_eq, sRaise_eq, raiseK_1, sFor_eq, forK_eq, biV_lenE, lenK_s, biV_listE, listK_s, biV_tupleE, tupleK_s, biV_allM, biV_anyM, biV_sumM, seqOf_box, seqB_lst, isLst_box, isLB_lst, ixV_E, ixK2_0, ixK2_1, ixK2_2, ixK2_neg1, mtV_appE, mtV_popE, appK_nil, mtK_ok, keyK_box, forGo_nil, forGo_cons, tgK_s, Ou.loopT_nx, Ou.loopT_ct, Ou.loopT_bk, Ou.loopT_rt, Ou.loopT_exc, Ou.loopT_ite, stp_ite, stp_nx, stp_rt, stp_exc, cmpV_inE, cmpV_ninE, inK_I, ninK_I, inK_P, ninK_P, encP_eq, cmpV_eqL, cmpV_neL, cmpV_eqT, cmpV_neT, argOk, List.all_cons, List.all_nil, Bool.and_true, Bool.and_self,
    List.getElem?_cons_zero, List.getElem?_cons_succ, List.set_cons_zero, List.set_cons_succ, List.take_length, get_last, set_last, take_last, if_true, if_false, ite_self, Bool.false_eq_true, Bool.true_eq_false, reduceIte, Bool.not_true, Bool.not_false, beq_self_eq_true, Nat.reduceBEq, $ls,*])
local macro_rules
  | `(tactic| simp!) => `(tactic| simp! [Rs.bind_ok])

/-- the first index from k on, n of them, that is bad -/
def firstIx (bad : Nat → Bool) : Nat → Nat → D
  | _, 0 => .non
  | k, n + 1 => if bad k then .tup [.str "step", .int k] else firstIx bad (k + 1) n
/-- the place behind the k-th -/
def nextOf (is : List Int) (k : Nat) : Int := if k + 1 < is.length then is.getD (k + 1) 0 else is.getD 0 0
def inR (n : Nat) : D → Bool
  | .int i => decide (0 ≤ i) && decide (i < n)
  | _ => false
def badSt (w : List Int) (ps : List (Int × Int)) (is : List Int) (k : Nat) : Bool := !decide (is.getD k 0 ∈ (mir w).filterMap (lo ps (nextOf is k) (rangeI 0 w.length)))
def dPlaces : D := .tup [.str "places"]
/-- the fault of a row of places -/
def aroundL (w : List Int) (ps : List (Int × Int)) (xs : List D) : D :=
  if xs.length < 3 then dPlaces else
  match intsOf xs with
  | none => dPlaces
  | some is => if (is.all fun i => decide (0 ≤ i) && decide (i < w.length)) = false then dPlaces else
    if (firstMet [] is).length ≠ is.length then dPlaces else firstIx (badSt w ps is) 0 is.length
theorem ix_next {is : List Int} {S : Sto} {k : Nat} (hk : k + 1 < is.length) : ixK2 (some (is.map D.int)) ((k : Int) + 1) S = .ok (.d (.int (nextOf is k))) S := by
  have : ((k : Int) + 1) = ((k + 1 : Nat) : Int) := by omega
  rw [this]
  refine ixK2_nat ?_
  rw [List.getElem?_map, List.getElem?_eq_getElem hk, Option.map_some]
  unfold nextOf
  rw [if_pos hk, List.getD_eq_getElem?_getD, List.getElem?_eq_getElem hk]; rfl
theorem ix_next0 {is : List Int} {S : Sto} {k : Nat} (h0 : 0 < is.length) (hk : ¬ k + 1 < is.length) : ixK2 (some (is.map D.int)) 0 S = .ok (.d (.int (nextOf is k))) S := by
  cases is with
  | nil => exact absurd h0 (by simp)
  | cons i is =>
    rw [List.map_cons, ixK2_0]
    unfold nextOf
    rw [if_neg hk]; rfl
theorem w_around_fault_t (k : Nat) (S : Sto) (w : List Int) (ps : List (Int × Int)) (xs : List D) (hn : w.length ≤ 1000) (hx : ∀ y ∈ xs, knd y) (hl : xs.length ≤ 1000) :
    callEv prog (k + 4) q_around_fault [.d (.tup (w.map .int)), .d (.lst (ps.map encP)), .d (.tup xs)] S = .ok (.d (aroundL w ps xs)) S := by
  rw [cl_around_fault]; unfold bd_around_fault
  have hr : callEv prog (k + 3) 1 [.d (.tup xs)] S = .ok (.d (.bl true)) S := by rw [w_is_row (k + 2) S _ (by rfl)]; rfl
  simp! [hr]
  by_cases h3 : xs.length < 3
  · have : ((xs.length : Int) < 3) := by omega
    simp! [this, decide_true]
    unfold aroundL
    rw [if_pos h3]; rfl
  have h3' : ¬ ((xs.length : Int) < 3) := by omega
  simp! [h3', decide_false]
  rw [compGo_none (g := fun x => D.bl (isIntB x && inR w.length x)) xs []]
  rotate_left
  · intro y hy
    refine ⟨_, rfl, ?_⟩
    cases y <;> simp! [w_is_integer (k + 2) S _ (hx _ hy), isIntB, inR, List.length_map]
  · show 0 + xs.length ≤ 16777216
    omega
  simp! [List.nil_append]
  cases e : intsOf xs with
  | none =>
    have h4 : (xs.all fun x => isIntB x && inR w.length x) = false := by
      have := intsOf_none e
      rw [List.all_eq_false] at this ⊢
      obtain ⟨x, h1, h2⟩ := this
      exact ⟨x, h1, by rw [Bool.not_eq_true] at h2 ⊢; rw [h2]; rfl⟩
    simp! [h4]
    unfold aroundL
    rw [if_neg h3, e]; rfl
  | some is =>
    obtain rfl := intsOf_some e
    have h4 : ((is.map D.int).all fun x => isIntB x && inR w.length x) = is.all fun i => decide (0 ≤ i) && decide (i < w.length) := by
      rw [List.all_map]; rfl
    rw [h4]
    rw [List.length_map] at hl h3
    cases h5 : (is.all fun i => decide (0 ≤ i) && decide (i < w.length)) with
    | false =>
      simp!
      unfold aroundL
      rw [List.length_map, if_neg h3, e]
      dsimp only
      rw [if_pos h5]; rfl
    | true =>
    simp! [biV_lenSet seqOf_tup hl, List.length_map]
    by_cases h6 : (firstMet [] is).length = is.length
    rotate_left
    · have : (((firstMet [] is).length : Int) == (is.length : Int)) = false := by
        rw [beq_eq_false_iff_ne]; omega
      simp! [this]
      unfold aroundL
      rw [List.length_map, if_neg h3, e]
      dsimp only
      rw [if_neg (by rw [h5]; simp), if_pos h6]; rfl
    have h6' : (((firstMet [] is).length : Int) == (is.length : Int)) = true := by
      rw [beq_iff_eq]; omega
    simp! [h6']
    rw [enumD_map]
    have hA : aroundL w ps (is.map D.int) = firstIx (badSt w ps is) 0 is.length := by
      unfold aroundL
      rw [List.length_map, if_neg h3, e]
      dsimp only
      rw [if_neg (by rw [h5]; simp), if_neg (by simp [h6])]
    generalize hL : forGo _ _ _ _ _ _ = o
    have H := forGo_mp (fun a : Int × Nat => D.tup [.int a.2, .int a.1]) hL
      (fun done env S' => S' = S ∧ firstIx (badSt w ps is) done.length (is.length - done.length) = firstIx (badSt w ps is) 0 is.length ∧ ∃ e3 e4 e5, env = [_, _, _, e3, e4, e5, none])
      (fun env S' => S' = S ∧ firstIx (badSt w ps is) 0 is.length = .non) (fun v S' => S' = S ∧ v = .d (firstIx (badSt w ps is) 0 is.length)) (fun _ _ => False)
      ⟨rfl, rfl, _, _, _, rfl⟩
      (by
        rintro done ⟨a, i⟩ rest env S' hs ⟨rfl, hb, e3, e4, e5, rfl⟩
        obtain ⟨rfl, hg⟩ := zipIdx_split hs
        have hlt := get_lt hg
        refine ⟨_, rfl, ?_⟩
        have ha : a = is.getD done.length 0 := by rw [List.getD_eq_getElem?_getD, hg]; rfl
        have hs1 : is.length - done.length = (is.length - (done.length + 1)) + 1 := by omega
        rw [hs1, firstIx] at hb
        have hw : ∀ S, callEv prog (k + 3) 15 [.d (.tup (w.map .int)), .d (.lst (ps.map encP)), .d (.int (nextOf is done.length)), .d (.lst ((rangeI 0 w.length).map .int))] S = _ :=
          fun S => w_lesser_ones k S w ps (nextOf is done.length) (rangeI 0 w.length) hn
        have hbd : (!decide (a ∈ (mir w).filterMap (lo ps (nextOf is done.length) (rangeI 0 w.length)))) = badSt w ps is done.length := by rw [ha]; rfl
        by_cases h7 : done.length + 1 < is.length
        · have h7' : ((done.length : Int) + 1 < (is.length : Int)) := by omega
          simp! [List.length_map, h7', decide_true, ix_next h7, rg1V_ok hn, hw, hbd]
          cases h8 : badSt w ps is done.length with
          | true =>
            rw [if_pos h8] at hb
            simp!
            exact ⟨by trivial, by rw [← hb]⟩
          | false =>
            rw [if_neg (by rw [h8]; simp)] at hb
            simp!
            exact ⟨by trivial, by rw [List.length_append, List.length_singleton]; exact hb, _, _, _, rfl⟩
        · have h7' : ¬ ((done.length : Int) + 1 < (is.length : Int)) := by omega
          simp! [List.length_map, h7', decide_false, ix_next0 (k := done.length) (by omega) h7, rg1V_ok hn, hw, hbd]
          cases h8 : badSt w ps is done.length with
          | true =>
            rw [if_pos h8] at hb
            simp!
            exact ⟨by trivial, by rw [← hb]⟩
          | false =>
            rw [if_neg (by rw [h8]; simp)] at hb
            simp!
            exact ⟨by trivial, by rw [List.length_append, List.length_singleton]; exact hb, _, _, _, rfl⟩)
      (by
        rintro env S' ⟨rfl, hb, e3, e4, e5, rfl⟩
        refine ⟨rfl, ?_⟩
        rw [← hb, List.length_zipIdx, Nat.sub_self]; rfl)
    rcases H with ⟨e, S', rfl, rfl, hb⟩ | ⟨v, S', rfl, rfl, rfl⟩ | ⟨x, S', rfl, hf⟩
    · simp! [hA, hb]
    · simp! [hA]
    · exact hf.elim
end K85
end

section
set_option Elab.async false
set_option linter.all false
set_option maxRecDepth 100000
set_option
        maxHeartbeats 1000000
namespace K85
open PySem (Str)
open Py
local macro_rules
  | `(tactic| simp! [$ls,*]) => `(tactic| simp only [Rs.bind_ok, Rs.bind_exc, Rs.out_ok, Rs.out_exc, Rs.bind_ite, Rs.out_ite, Ou.andT_nx, Ou.andT_rt, Ou.andT_bk, Ou.andT_ct, Ou.andT_exc, Ou.andT_ite,
    leave_ite, leave_nx, leave_d, leave_exc, fz_eq, frzK_d, frzK_new, frzK_ro, frzK_box, frzK_lams, eVar_eq, varK_some, eC_eq, eLam_eq, eTake_eq, takeK_box, takeK2_lst, eBin_eq, binK_eq, binK2_eq, unbox_d, unbox_box, unboxK_lst, binV_add, binV_sub,
    eNeg_eq, negK_int, eNot_eq, notK_b, eAnd_eq, andK_b, eOr_eq, orK_b, eIf_eq, ifK_b, and_mg, or_mg, ite_mg, ite_bl_t, ite_bl_f, ite_bl_n, ite_bl_o, ite_int, eCmp_eq, cmpK_eq, cmpV_lt, cmpV_le, cmpV_gt, cmpV_ge, cmpV_eqI, cmpV_neI, cmpV_eqB, cmpV_neB, eChain_eq, chK0_eq, chK1_eq, chK_b,
    eIsNone_eq, noneK_d, eIsInst_eq, instK_non, instK_bl, instK_int, instK_str, instK_tup, instK_lst, isTys_nil, isTys_cons, kdIs_int_non, kdIs_int_bl, kdIs_int_int, kdIs_int_str, kdIs_int_tup, kdIs_int_lst, kdIs_int_ins, kdIs_bool_non, kdIs_bool_bl, kdIs_bool_int, kdIs_bool_str, kdIs_bool_tup, kdIs_bool_lst, kdIs_bool_ins, kdIs_str_non, kdIs_str_bl, kdIs_str_int, kdIs_str_str, kdIs_str_tup, kdIs_str_lst, kdIs_str_ins, kdIs_list_non, kdIs_list_bl, kdIs_list_int, kdIs_list_str, kdIs_list_tup, kdIs_list_lst, kdIs_list_ins, kdIs_tuple_non, kdIs_tuple_bl, kdIs_tuple_int, kdIs_tuple_str, kdIs_tuple_tup, kdIs_tuple_lst, kdIs_tuple_ins, kdIs_cls_non, kdIs_cls_bl, kdIs_cls_int, kdIs_cls_str, kdIs_cls_tup, kdIs_cls_lst, kdIs_cls_ins, Bool.or_false, Bool.false_or, Bool.or_true, Bool.true_or, Bool.and_true, Bool.true_and, Bool.and_false, Bool.false_and, evAll_nil, evAll_cons, consK_eq, consK2_eq, eTup_eq, tupK_0, tupK_1, tupK_2, tupK_3, tupK_4, eLst_eq, lstK_0, lstK_1, lstK_2, lstK_3, lstK_4, lstK_5, lstK_6, lstK_7, lstK_8, lstK_9, eLams_eq,
    eIx_eq, ixK_eq, eKey_eq, evPart_none, evPart_some, partK_int, eSlice_eq, slK_eq, slK1_eq, slK2_eq, cutV_lst, cutV_tup, eRev_eq, revK_eq, revV_lst, revV_tup, eFld_eq, eCall_eq, callK_ok, bodyCx_call, eMake_eq, eBi_eq, eRng1_eq, eRng2_eq, rngK2_eq,
    biV_int1, biV_min2, biV_max2, seqOf_lst, seqOf_tup, seqOf_ro, seqOf_new, isLst_lst, isLst_new, mkSeq_t, mkSeq_f, eMt_eq, src_seq, srcK_lst, srcK_tup, srcK_ro, src_r1, src_r2, srcK2_eq, src_en, enK_lst, enK_tup, tgV_name, tgV_names2,
    eComp_eq, cpK_eq, newK_eq, eComp2_eq, cp2K_eq, wipeE_nil, wipeE_cons, sNext_eq, sPass_eq, sBreak_eq, sCont_eq, sSeq_eq, sExpr_eq, exprK_eq, sRet_eq, sRetN_eq, sIf_eq, sifK_b, sSet_eq, setK_eq, sBox_eq, boxK_new, sUnpack_eq, unpK_2,
    parV_t, parV_f, pboxK_new, sPar_eq, parK_eq, parK2_eq, sPutK_eq, eRepr_eq, bodyCx_rp, lamCx_call, noBox_nil, noBox_cons, hideB_none, hideB_d, hideB_ro, hideB_box, sSetIx2_eq, six1_eq, six2_eq, six3_eq, six4_eq, six5_eq, six6_eq, six7_eq, setIx_E, eDict_eq, leave_box, sFld_eq, sfldK1_eq, sfldK2_eq, eEqOwn_eq, eqK1_eq, take_last2, putK1_eq, sRaise_eq, raiseK_1, sFor_eq, forK_eq, biV_lenE, lenK_s, biV_listE, listK_s, biV_tupleE, tupleK_s, biV_allM, biV_anyM, biV_sumM, seqOf_box, seqB_lst, isLst_box, isLB_lst, ixV_E, ixK2_0, ixK2_1, ixK2_2, ixK2_neg1, mtV_appE, mtV_popE, appK_nil, mtK_ok, keyK_box, forGo_nil, forGo_cons, tgK_s, Ou.loopT_nx, Ou.loopT_ct, Ou.loopT_bk, Ou.loopT_rt, Ou.loopT_exc, Ou.loopT_ite, stp_ite, stp_nx, stp_rt, stp_exc, cmpV_inE, cmpV_ninE, inK_I, ninK_I, inK_P, ninK_P, encP_eq, cmpV_eqL, cmpV_neL, cmpV_eqT, cmpV_neT, argOk, List.all_cons, List.all_nil, Bool.and_true, Bool.and_self,
    List.getElem?_cons_zero, List.getElem?_cons_succ, List.set_cons_zero, List.set_cons_succ, List.take_length, get_last, set_last, take_last, if_true, if_false, ite_self, Bool.false_eq_true, Bool.true_eq_false, reduceIte, Bool.not_true, Bool.not_false, beq_self_eq_true, Nat.reduceBEq, $ls,*])
local macro_rules
  | `(tactic| simp!) => `(tactic| simp! [Rs.bind_ok])

def kept : D → D
  | .lst xs => .tup xs
  | y => y
theorem w_Inside_init (k : Nat) (S : Sto) (x : D) (hx : knd x) : callEv prog (k + 3) q_Inside_init [.box S.length, .d x] (S ++ [.ins 5 []]) = .ok (.d .non) (S ++ [.ins 5 [("order", kept x)]]) := by
  rw [cl_Inside_init]; unfold bd_Inside_init
  simp! [show ∀ S, callEv prog (k + 2) 7 [.d x] S = .ok (.d (kept x)) S from fun S => by rw [w_kept_row k S x hx]; cases x <;> rfl, sfldK3_new (cs := [5]) (c := 5) rfl]
theorem w_Around_init (k : Nat) (S : Sto) (x : D) (hx : knd x) : callEv prog (k + 3) q_Around_init [.box S.length, .d x] (S ++ [.ins 6 []]) = .ok (.d .non) (S ++ [.ins 6 [("places", kept x)]]) := by
  rw [cl_Around_init]; unfold bd_Around_init
  simp! [show ∀ S, callEv prog (k + 2) 7 [.d x] S = .ok (.d (kept x)) S from fun S => by rw [w_kept_row k S x hx]; cases x <;> rfl, sfldK3_new (cs := [6]) (c := 6) rfl]
theorem w_Inside_eq (k : Nat) (S : Sto) (a b : List Int) : callEv prog (k + 1) q_Inside_eq [.d (.ins 5 [("order", .tup (a.map .int))]), .d (.ins 5 [("order", .tup (b.map .int))])] S = .ok (.d (.bl (decide (a = b)))) S := by
  rw [cl_Inside_eq]; unfold bd_Inside_eq
  simp! [instK_ins (cs := ownCs) (c := 5) rfl, fldK_1 (cs := [5]) (c := 5) (n := "order") (x := .tup (a.map .int)) rfl, fldK_1 (cs := [5]) (c := 5) (n := "order") (x := .tup (b.map .int)) rfl]
theorem w_Inside_eq_o (k : Nat) (S : Sto) (fs : List (Str × D)) (y : D) (hy : knd y) (h : isTys [.cls 5] (kdOf y) = false) : callEv prog (k + 1) q_Inside_eq [.d (.ins 5 fs), .d y] S = .ok (.d (.bl false)) S := by
  rw [cl_Inside_eq]; unfold bd_Inside_eq
  simp only [isTys_cons, isTys_nil, Bool.or_false] at h
  simp! [instK_d hy, h]
theorem w_Around_eq (k : Nat) (S : Sto) (a b : List Int) : callEv prog (k + 1) q_Around_eq [.d (.ins 6 [("places", .tup (a.map .int))]), .d (.ins 6 [("places", .tup (b.map .int))])] S = .ok (.d (.bl (decide (a = b)))) S := by
  rw [cl_Around_eq]; unfold bd_Around_eq
  simp! [instK_ins (cs := ownCs) (c := 6) rfl, fldK_1 (cs := [6]) (c := 6) (n := "places") (x := .tup (a.map .int)) rfl, fldK_1 (cs := [6]) (c := 6) (n := "places") (x := .tup (b.map .int)) rfl]
theorem w_around_fault_o (k : Nat) (S : Sto) (w : List Int) (ps : List (Int × Int)) (x : D) (hx : knd x) (h : isRowB x = false) :
    callEv prog (k + 4) q_around_fault [.d (.tup (w.map .int)), .d (.lst (ps.map encP)), .d x] S = .ok (.d dPlaces) S := by
  rw [cl_around_fault]; unfold bd_around_fault
  simp! [show callEv prog (k + 3) 1 [.d x] S = .ok (.d (.bl false)) S from by rw [w_is_row (k + 2) S _ hx, h]]
  rfl
def dOrder : D := .tup [.str "order"]
def dAnswer : D := .tup [.str "answer"]
def insideL (w : List Int) (ps : List (Int × Int)) (xs : List D) : D :=
  if isOrdL xs && decide (xs.length = w.length) then match intsOf xs with
    | some is => firstUn (fun p => !(decide (p ∈ ps) == decide (p ∈ turnIn (mir w) is))) (mir w)
    | none => dOrder
  else dOrder
/-- the fault that an answer has -/
def faultV (w : List Int) (ps : List (Int × Int)) : D → D
  | .ins c fs => if c = 6 then match fs.lookup ("places" : Str) with
      | some (.tup xs) => aroundL w ps xs
      | _ => dPlaces
    else match fs.lookup ("order" : Str) with
      | some (.tup xs) => insideL w ps xs
      | _ => dOrder
  | _ => dAnswer
section
variable {k : Nat} {S : Sto} {w : List Int} {ps : List (Int × Int)} {mk : List D → D}
theorem isOrdL_ints {w : List Int} (h : IsOrd w) : isOrdL (w.map D.int) = true := by
  unfold isOrdL
  rw [intsOf_map, List.length_map]
  dsimp only
  rw [decide_eq_true (isOrd_sorted.1 h.2), decide_eq_true (by have := h.1.1; omega), decide_eq_true (by have := h.1.2; omega)]; rfl
theorem knd_ints {w : List Int} : ∀ y ∈ w.map D.int, knd y := by
  intro y hy
  obtain ⟨i, _, rfl⟩ := List.mem_map.1 hy
  rfl
theorem room_w (k : Nat) (S : Sto) (hw : IsOrd w) : callEv prog (k + 4) 4 [.d (.tup (w.map .int))] S = .ok (.d (.tup (w.map .int))) S :=
  w_need_order_t k S (.tup (w.map .int)) rfl knd_ints (by rw [itemsOf, List.length_map]; have := hw.1.2; omega) (isOrdL_ints hw)
theorem w_room_around (k : Nat) (S : Sto) (hw : IsOrd w) (hmk : mk = D.lst ∨ mk = D.tup) (hp : ps.length ≤ 1000) (hb : firstBad (mir w) [] ps = none) (x : D) (hx : knd x) (hi : ∀ y ∈ itemsOf x, knd y) (hl : (itemsOf x).length ≤ 1000) :
    callEv prog (k + 5) q_room_fault [.d (.tup (w.map .int)), .d (mk (ps.map encP)), .d (.ins 6 [("places", kept x)])] S = .ok (.d (faultV w ps (.ins 6 [("places", kept x)]))) S := by
  rw [cl_room_fault]; unfold bd_room_fault
  have hc := w_checked_pairs (k + 1) S w mk hmk ps (by have := hw.1.2; omega) (by omega)
  rw [hb] at hc
  have hn : w.length ≤ 1000 := by have := hw.1.2; omega
  have ha : callEv prog (k + 4) 17 [.d (.tup (w.map .int)), .d (.lst (ps.map encP)), .d (kept x)] S = .ok (.d (faultV w ps (.ins 6 [("places", kept x)]))) S := by
    cases x with
    | lst xs => exact w_around_fault_t k S w ps xs hn hi hl
    | tup xs => exact w_around_fault_t k S w ps xs hn hi hl
    | _ => exact w_around_fault_o k S w ps _ hx rfl
  simp! [room_w k S hw, show callEv prog (k + 4) 13 _ S = _ from hc, instK_ins (cs := ownCs) (c := 6) rfl, fldK_1 (cs := [6]) (c := 6) (n := "places") (x := kept x) rfl, ha, show ((6 : Nat) == 6) = true from rfl]
theorem w_room_other (k : Nat) (S : Sto) (hw : IsOrd w) (hmk : mk = D.lst ∨ mk = D.tup) (hp : ps.length ≤ 1000) (hb : firstBad (mir w) [] ps = none) (x : D) (hx : ∀ c fs, x ≠ .ins c fs) :
    callEv prog (k + 5) q_room_fault [.d (.tup (w.map .int)), .d (mk (ps.map encP)), .d x] S = .ok (.d dAnswer) S := by
  rw [cl_room_fault]; unfold bd_room_fault
  have hc := w_checked_pairs (k + 1) S w mk hmk ps (by have := hw.1.2; omega) (by omega)
  rw [hb] at hc
  cases x with
  | ins c fs => exact absurd rfl (hx c fs)
  | _ => simp! [room_w k S hw, show callEv prog (k + 4) 13 _ S = _ from hc]; rfl
theorem w_room_inside_t (k : Nat) (S : Sto) (hw : IsOrd w) (hmk : mk = D.lst ∨ mk = D.tup) (hp : ps.length ≤ 1000) (hb : firstBad (mir w) [] ps = none) (xs : List D) (hi : ∀ y ∈ xs, knd y) (hl : xs.length ≤ 1000) :
    callEv prog (k + 5) q_room_fault [.d (.tup (w.map .int)), .d (mk (ps.map encP)), .d (.ins 5 [("order", .tup xs)])] S = .ok (.d (insideL w ps xs)) S := by
  rw [cl_room_fault]; unfold bd_room_fault
  have hc := w_checked_pairs (k + 1) S w mk hmk ps (by have := hw.1.2; omega) (by omega)
  rw [hb] at hc
  have hn : w.length ≤ 1000 := by have := hw.1.2; omega
  have ho := w_is_order (k + 2) S (.tup xs) rfl hi hl
  have ht := w_turned_pairs (k + 2) S w hn
  simp! [room_w k S hw, show callEv prog (k + 4) 13 _ S = _ from hc, instK_ins (cs := ownCs) (c := 5) rfl, fldK_1 (cs := [5]) (c := 5) (n := "order") (x := .tup xs) rfl,
    show callEv prog (k + 4) 2 _ S = _ from ho, show callEv prog (k + 4) 6 _ S = _ from ht]
  cases e : isOrdL xs with
  | false =>
    simp! [isOrdB, e]
    unfold insideL
    rw [e]; rfl
  | true =>
    have e' := e
    unfold isOrdL at e'
    cases e2 : intsOf xs with
    | none => rw [e2] at e'; simp at e'
    | some is =>
      obtain rfl := intsOf_some e2
      rw [List.length_map] at hl
      simp! [isOrdB, e, List.length_map]
      by_cases h : is.length = w.length
      · have h1 : ((is.length : Int) == (w.length : Int)) = true := by rw [beq_iff_eq]; omega
        have hti := w_turned_in (k + 3) S (mir w) is (by
            have h3 : (mir w).length ≤ (allP w.length).length := List.length_filter_le ..
            have h4 := length_allP w.length
            have h5 := Nat.mul_le_mul hn hn
            omega) (by
            intro p hp
            have := (mem_mir.1 hp).1
            omega)
        simp! [h1, show callEv prog (k + 4) 12 _ S = _ from hti, show ∀ rs, callEv prog (k + 4) 16 _ S = _ from fun rs => w_first_unlike (k + 3) S (mir w) ps rs]
        unfold insideL
        rw [e, e2, List.length_map, decide_eq_true h]; rfl
      · have h1 : ((is.length : Int) == (w.length : Int)) = false := by rw [beq_eq_false_iff_ne]; omega
        simp! [h1]
        unfold insideL
        rw [e, List.length_map, decide_eq_false h]; rfl
theorem w_room_inside_o (k : Nat) (S : Sto) (hw : IsOrd w) (hmk : mk = D.lst ∨ mk = D.tup) (hp : ps.length ≤ 1000) (hb : firstBad (mir w) [] ps = none) (x : D) (hx : knd x) (hr : isRowB x = false) :
    callEv prog (k + 5) q_room_fault [.d (.tup (w.map .int)), .d (mk (ps.map encP)), .d (.ins 5 [("order", x)])] S = .ok (.d dOrder) S := by
  rw [cl_room_fault]; unfold bd_room_fault
  have hc := w_checked_pairs (k + 1) S w mk hmk ps (by have := hw.1.2; omega) (by omega)
  rw [hb] at hc
  have hit : itemsOf x = [] := by cases x <;> first | rfl | exact absurd hr (by simp [isRowB])
  have ho := w_is_order (k + 2) S x hx (by rw [hit]; simp) (by rw [hit]; simp)
  have hor : isOrdB x = false := by cases x <;> first | rfl | exact absurd hr (by simp [isRowB])
  rw [hor] at ho
  simp! [room_w k S hw, show callEv prog (k + 4) 13 _ S = _ from hc, instK_ins (cs := ownCs) (c := 5) rfl, fldK_1 (cs := [5]) (c := 5) (n := "order") (x := x) rfl,
    show callEv prog (k + 4) 2 _ S = _ from ho]
  rfl
theorem w_room_inside (k : Nat) (S : Sto) (hw : IsOrd w) (hmk : mk = D.lst ∨ mk = D.tup) (hp : ps.length ≤ 1000) (hb : firstBad (mir w) [] ps = none) (x : D) (hx : knd x) (hi : ∀ y ∈ itemsOf x, knd y) (hl : (itemsOf x).length ≤ 1000) :
    callEv prog (k + 5) q_room_fault [.d (.tup (w.map .int)), .d (mk (ps.map encP)), .d (.ins 5 [("order", kept x)])] S = .ok (.d (faultV w ps (.ins 5 [("order", kept x)]))) S := by
  cases x with
  | lst xs => exact w_room_inside_t k S hw hmk hp hb xs hi hl
  | tup xs => exact w_room_inside_t k S hw hmk hp hb xs hi hl
  | _ => exact w_room_inside_o k S hw hmk hp hb _ hx rfl
theorem w_room_bad (k : Nat) (S : Sto) (hw : IsOrd w) (hmk : mk = D.lst ∨ mk = D.tup) (hp : ps.length ≤ 1000) (p : Int × Int) (hb : firstBad (mir w) [] ps = some p) (x : D) :
    callEv prog (k + 5) q_room_fault [.d (.tup (w.map .int)), .d (mk (ps.map encP)), .d x] S = .exc ⟨4, [("item", encP p)]⟩ S := by
  rw [cl_room_fault]; unfold bd_room_fault
  have hc := w_checked_pairs (k + 1) S w mk hmk ps (by have := hw.1.2; omega) (by omega)
  rw [hb] at hc
  simp! [room_w k S hw, show callEv prog (k + 4) 13 _ S = _ from hc]
theorem w_checked_row (k : Nat) (S : Sto) (w : D) (x : D) (hx : knd x) (hr : isRowB x = false) : callEv prog (k + 2) q_checked_pairs [.d w, .d x] S = .exc ⟨1, [("value", x)]⟩ S := by
  rw [cl_checked_pairs]; unfold bd_checked_pairs
  simp! [show callEv prog (k + 1) 1 [.d x] S = .ok (.d (.bl false)) S from by rw [w_is_row k S _ hx, hr]]
theorem w_room_row (k : Nat) (S : Sto) (hw : IsOrd w) (x y : D) (hx : knd x) (hr : isRowB x = false) :
    callEv prog (k + 5) q_room_fault [.d (.tup (w.map .int)), .d x, .d y] S = .exc ⟨1, [("value", x)]⟩ S := by
  rw [cl_room_fault]; unfold bd_room_fault
  simp! [room_w k S hw, show callEv prog (k + 4) 13 _ S = _ from w_checked_row (k + 2) S (.tup (w.map .int)) x hx hr]
theorem w_room_order (k : Nat) (S : Sto) (o x y : D) (hx : knd o) (hi : ∀ y ∈ itemsOf o, knd y) (hl : (itemsOf o).length ≤ 1000) (hr : isOrdB o = false) :
    callEv prog (k + 5) q_room_fault [.d o, .d x, .d y] S = .exc ⟨2, [("value", o)]⟩ S := by
  rw [cl_room_fault]; unfold bd_room_fault
  simp! [show callEv prog (k + 4) 4 _ S = _ from w_need_order_f k S o hx hi hl hr]
end
end K85
end

section
set_option Elab.async false
set_option linter.all false
set_option maxRecDepth 100000
set_option
        maxHeartbeats 1000000
namespace K85
open PySem (Str)
open Py
local macro_rules
  | `(tactic| simp! [$ls,*]) => `(tactic| simp only [Rs.bind_ok, Rs.bind_exc, Rs.out_ok, Rs.out_exc, Rs.bind_ite, Rs.out_ite, Ou.andT_nx, Ou.andT_rt, Ou.andT_bk, Ou.andT_ct, Ou.andT_exc, Ou.andT_ite,
    leave_ite, leave_nx, leave_d, leave_exc, fz_eq, frzK_d, frzK_new, frzK_ro, frzK_box, frzK_lams, eVar_eq, varK_some, eC_eq, eLam_eq, eTake_eq, takeK_box, takeK2_lst, eBin_eq, binK_eq, binK2_eq, unbox_d, unbox_box, unboxK_lst, binV_add, binV_sub,
    eNeg_eq, negK_int, eNot_eq, notK_b, eAnd_eq, andK_b, eOr_eq, orK_b, eIf_eq, ifK_b, and_mg, or_mg, ite_mg, ite_bl_t, ite_bl_f, ite_bl_n, ite_bl_o, ite_int, eCmp_eq, cmpK_eq, cmpV_lt, cmpV_le, cmpV_gt, cmpV_ge, cmpV_eqI, cmpV_neI, cmpV_eqB, cmpV_neB, eChain_eq, chK0_eq, chK1_eq, chK_b,
    eIsNone_eq, noneK_d, eIsInst_eq, instK_non, instK_bl, instK_int, instK_str, instK_tup, instK_lst, isTys_nil, isTys_cons, kdIs_int_non, kdIs_int_bl, kdIs_int_int, kdIs_int_str, kdIs_int_tup, kdIs_int_lst, kdIs_int_ins, kdIs_bool_non, kdIs_bool_bl, kdIs_bool_int, kdIs_bool_str, kdIs_bool_tup, kdIs_bool_lst, kdIs_bool_ins, kdIs_str_non, kdIs_str_bl, kdIs_str_int, kdIs_str_str, kdIs_str_tup, kdIs_str_lst, kdIs_str_ins, kdIs_list_non, kdIs_list_bl, kdIs_list_int, kdIs_list_str, kdIs_list_tup, kdIs_list_lst, kdIs_list_ins, kdIs_tuple_non, kdIs_tuple_bl, kdIs_tuple_int, kdIs_tuple_str, kdIs_tuple_tup, kdIs_tuple_lst, kdIs_tuple_ins, kdIs_cls_non, kdIs_cls_bl, kdIs_cls_int, kdIs_cls_str, kdIs_cls_tup, kdIs_cls_lst, kdIs_cls_ins, Bool.or_false, Bool.false_or, Bool.or_true, Bool.true_or, Bool.and_true, Bool.true_and, Bool.and_false, Bool.false_and, evAll_nil, evAll_cons, consK_eq, consK2_eq, eTup_eq, tupK_0, tupK_1, tupK_2, tupK_3, tupK_4, eLst_eq, lstK_0, lstK_1, lstK_2, lstK_3, lstK_4, lstK_5, lstK_6, lstK_7, lstK_8, lstK_9, eLams_eq,
    eIx_eq, ixK_eq, eKey_eq, evPart_none, evPart_some, partK_int, eSlice_eq, slK_eq, slK1_eq, slK2_eq, cutV_lst, cutV_tup, eRev_eq, revK_eq, revV_lst, revV_tup, eFld_eq, eCall_eq, callK_ok, bodyCx_call, eMake_eq, eBi_eq, eRng1_eq, eRng2_eq, rngK2_eq,
    biV_int1, biV_min2, biV_max2, seqOf_lst, seqOf_tup, seqOf_ro, seqOf_new, isLst_lst, isLst_new, mkSeq_t, mkSeq_f, eMt_eq, src_seq, srcK_lst, srcK_tup, srcK_ro, src_r1, src_r2, srcK2_eq, src_en, enK_lst, enK_tup, tgV_name, tgV_names2,
    eComp_eq, cpK_eq, newK_eq, eComp2_eq, cp2K_eq, wipeE_nil, wipeE_cons, sNext_eq, sPass_eq, sBreak_eq, sCont_eq, sSeq_eq, sExpr_eq, exprK_eq, sRet_eq, sRetN_eq, sIf_eq, sifK_b, sSet_eq, setK_eq, sBox_eq, boxK_new, sUnpack_eq, unpK_2,
    parV_t, parV_f, pboxK_new, sPar_eq, parK_eq, parK2_eq, sPutK_eq, eRepr_eq, bodyCx_rp, lamCx_call, noBox_nil, noBox_cons, hideB_none, hideB_d, hideB_ro, hideB_box, sSetIx2_eq, six1_eq, six2_eq, six3_eq, six4_eq, six5_eq, six6_eq, six7_eq, setIx_E, eDict_eq, leave_box, sFld_eq, sfldK1_eq, sfldK2_eq, eEqOwn_eq, eqK1_eq, take_last2, putK1_eq, sRaise_eq, raiseK_1, sFor_eq, forK_eq, biV_lenE, lenK_s, biV_listE, listK_s, biV_tupleE, tupleK_s, biV_allM, biV_anyM, biV_sumM, seqOf_box, seqB_lst, isLst_box, isLB_lst, ixV_E, ixK2_0, ixK2_1, ixK2_2, ixK2_neg1, mtV_appE, mtV_popE, appK_nil, mtK_ok, keyK_box, forGo_nil, forGo_cons, tgK_s, Ou.loopT_nx, Ou.loopT_ct, Ou.loopT_bk, Ou.loopT_rt, Ou.loopT_exc, Ou.loopT_ite, stp_ite, stp_nx, stp_rt, stp_exc, cmpV_inE, cmpV_ninE, inK_I, ninK_I, inK_P, ninK_P, encP_eq, cmpV_eqL, cmpV_neL, cmpV_eqT, cmpV_neT, argOk, List.all_cons, List.all_nil, Bool.and_true, Bool.and_self,
    List.getElem?_cons_zero, List.getElem?_cons_succ, List.set_cons_zero, List.set_cons_succ, List.take_length, get_last, set_last, take_last, if_true, if_false, ite_self, Bool.false_eq_true, Bool.true_eq_false, reduceIte, Bool.not_true, Bool.not_false, beq_self_eq_true, Nat.reduceBEq, $ls,*])
local macro_rules
  | `(tactic| simp!) => `(tactic| simp! [Rs.bind_ok])

/-- a draw -/
theorem w_draw (k c : Nat) (b : Bx) (T : Sto) (m : Int) (hp : PenB c b) (hc : c ≤ 1000000000) (hm : 0 < m) (hm2 : m < 1000000) :
    ∃ (r : Int) (b' : Bx), callEv prog (k + 1) q__law_draw [.box 0, .d (.int m)] (b :: T) = .ok (.d (.int r)) (b' :: T) ∧ 0 ≤ r ∧ r < m ∧ PenB (c + 1) b' := by
  obtain ⟨cells, at_, dg, ct, fo, rfl, h1, h2, h3, h4, h5, h6⟩ := hp
  have hm0 : m ≠ 0 := by omega
  have hmf : m ≠ 0 ∧ m.natAbs < 1073741824 := by omega
  have hM : ∀ S i, binV .mod (.d (.int i)) (.d (.int m)) S = .ok (.d (.int (i.fmod m))) S := fun S i => binV_mod hm0
  have hF : ∀ S i, binV .fdiv (.d (.int i)) (.d (.int m)) S = .ok (.d (.int (i.fdiv m))) S := fun S i => binV_fdiv hmf
  have hML : ∀ S i, binV .mul (.d (.int i)) (.d (.int 69069)) S = .ok (.d (.int (i * 69069))) S := fun S i => binV_mul (mul_ok (by omega))
  have hML2 : ∀ S i, binV .mul (.d (.int i)) (.d (.int 7907)) S = .ok (.d (.int (i * 7907))) S := fun S i => binV_mul (mul_ok (by omega))
  have hM1 : ∀ S i, binV .mod (.d (.int i)) (.d (.int 2147483587)) S = .ok (.d (.int (i.fmod 2147483587))) S := fun S i => binV_mod (by omega)
  have hM2 : ∀ S i, binV .mod (.d (.int i)) (.d (.int 2305843009213693951)) S = .ok (.d (.int (i.fmod 2305843009213693951))) S := fun S i => binV_mod (by omega)
  have hF2 : ∀ S i, binV .fdiv (.d (.int i)) (.d (.int 128)) S = .ok (.d (.int (i.fdiv 128))) S := fun S i => binV_fdiv (by omega)
  have fin : ∀ (a' : Nat) (dg' fo' : Int), a' ≤ cells.length → 0 ≤ dg' → 0 ≤ fo' → fo' < 2147483587 → PenB (c + 1) (penD cells a' dg' (ct + 1) fo') :=
    fun a' dg' fo' i1 i2 i3 i4 => ⟨cells, a', dg', ct + 1, fo', rfl, i1, i2, by omega, by omega, i3, i4⟩
  rw [cl__law_draw]; unfold bd__law_draw
  by_cases g1 : dg = 0 ∧ at_ < cells.length
  · obtain ⟨rfl, g2⟩ := g1
    have g2' : ((at_ : Int) < (cells.length : Int)) := by omega
    have hcell : ∀ S, ixK2 (some (cells.map D.int)) (at_ : Int) S = .ok (.d (.int (wAt cells at_))) S := fun S => ixK2_w (by omega) (by omega)
    have hcast : ((at_ : Int) + 1) = ((at_ + 1 : Nat) : Int) := by omega
    by_cases g3 : 1000000000000000000 ≤ wAt cells at_
    · by_cases g4 : 0 < wAt cells at_ - 1000000000000000000
      · simp! [pk_cells, pk_at, pk_digits, pk_count, pk_fold, pp_at, pp_digits, pp_count, pp_fold, g2', decide_true, List.length_map, hcell, hcast, p10_18, g3, g4, hM, hF, List.length_cons, List.take_succ_cons]
        exact ⟨_, _, rfl, (fmod_rng hm).1, (fmod_rng hm).2, fin _ _ _ (by omega) (Int.fdiv_nonneg (by omega) (by omega)) h5 h6⟩
      · simp! [pk_cells, pk_at, pk_digits, pk_count, pk_fold, pp_at, pp_digits, pp_count, pp_fold, g2', decide_true, decide_false, List.length_map, hcell, hcast, p10_18, g3, g4, hM, hF, hML2, hM2, hF2, pow17 (i := fo + (ct + 1) * 7907 + 37) (by omega), List.length_cons, List.take_succ_cons]
        exact ⟨_, _, rfl, (fmod_rng hm).1, (fmod_rng hm).2, fin _ _ _ (by omega) (by omega) h5 h6⟩
    · have hfo := fmod_rng (a := fo * 69069 + wAt cells at_) (m := 2147483587) (by omega)
      simp! [pk_cells, pk_at, pk_digits, pk_count, pk_fold, pp_at, pp_digits, pp_count, pp_fold, g2', decide_true, decide_false, List.length_map, hcell, hcast, p10_18, g3, hM, hF, hML, hML2, hM1, hM2, hF2, show ((0:Int) < 0) = False from by simp, pow17 (i := (fo * 69069 + wAt cells at_).fmod 2147483587 + (ct + 1) * 7907 + 37) (by omega), List.length_cons, List.take_succ_cons]
      exact ⟨_, _, rfl, (fmod_rng hm).1, (fmod_rng hm).2, fin _ _ _ (by omega) (by omega) hfo.1 hfo.2⟩
  · have g1' : (dg == 0 && decide ((at_ : Int) < (cells.length : Int))) = false := by
      by_cases e1 : dg = 0 <;> by_cases e2 : at_ < cells.length
      · exact absurd ⟨e1, e2⟩ g1
      all_goals simp [e1, e2]
    by_cases g4 : 0 < dg
    · simp! [pk_cells, pk_at, pk_digits, pk_count, pk_fold, pp_at, pp_digits, pp_count, pp_fold, g1', decide_true, List.length_map, g4, hM, hF, List.length_cons, List.take_succ_cons]
      exact ⟨_, _, rfl, (fmod_rng hm).1, (fmod_rng hm).2, fin _ _ _ (by omega) (Int.fdiv_nonneg (by omega) (by omega)) h5 h6⟩
    · simp! [pk_cells, pk_at, pk_digits, pk_count, pk_fold, pp_at, pp_digits, pp_count, pp_fold, g1', decide_true, decide_false, List.length_map, g4, hM, hF, hML2, hM2, hF2, pow17 (i := fo + (ct + 1) * 7907 + 37) (by omega), List.length_cons, List.take_succ_cons]
      exact ⟨_, _, rfl, (fmod_rng hm).1, (fmod_rng hm).2, fin _ _ _ (by omega) (by omega) h5 h6⟩
theorem w_pick (k c : Nat) (b : Bx) (T : Sto) (xs : List D) (hp : PenB c b) (hc : c ≤ 1000000000) (hx : xs ≠ []) (hl : xs.length < 1000000) :
    ∃ (y : D) (b' : Bx), callEv prog (k + 2) q__law_pick [.box 0, .d (.lst xs)] (b :: T) = .ok (.d y) (b' :: T) ∧ y ∈ xs ∧ PenB (c + 1) b' := by
  have h0 : 0 < xs.length := List.length_pos_iff.2 hx
  obtain ⟨r, b', e, h1, h2, h3⟩ := w_draw k c b T xs.length hp hc (by omega) (by omega)
  have hr : r.toNat < xs.length := by omega
  rw [cl__law_pick]; unfold bd__law_pick
  simp! [show callEv prog (k + 1) 20 [.box 0, .d (.int xs.length)] (b :: T) = _ from e, ixK2_int (xs := xs) (y := xs[r.toNat]) h1 (List.getElem?_eq_getElem hr), len1, b0_t]
  exact ⟨_, _, rfl, List.getElem_mem hr, h3⟩
theorem w_shuffled (k c : Nat) (b : Bx) (T : Sto) (xs : List D) (hp : PenB c b) (hc : c + xs.length ≤ 1000000000) (hl : xs.length ≤ 1000) :
    ∃ (ys : List D) (b' : Bx), callEv prog (k + 2) q__law_shuffled [.box 0, .d (.lst xs)] (b :: T) = .ok (.d (.lst ys)) (b' :: T) ∧ ys.Perm xs ∧ PenB (c + xs.length) b' := by
  rw [cl__law_shuffled]; unfold bd__law_shuffled
  simp! [b2_a, len1, b1_a, len2, len3, b2_b, rg1K_nat hl]
  generalize hL : forGo _ _ _ _ _ _ = o
  have H := forGo_mp D.int hL
    (fun done env S' => ∃ b' rest found e2, S' = b' :: (T ++ [.lst rest, .lst found]) ∧ PenB (c + done.length) b' ∧ rest.length + done.length = xs.length ∧ (found ++ rest).Perm xs ∧ env = [some (.box 0), some (.d (.lst xs)), e2, some (.box (T.length + 1)), some (.box (T.length + 1 + 1))])
    (fun env S' => ∃ b' rest found e2, S' = b' :: (T ++ [.lst rest, .lst found]) ∧ PenB (c + xs.length) b' ∧ found.Perm xs ∧ env = [some (.box 0), some (.d (.lst xs)), e2, some (.box (T.length + 1)), some (.box (T.length + 1 + 1))]) (fun _ _ => False) (fun _ _ => False)
    ⟨b, xs, [], _, rfl, hp, rfl, .refl _, rfl⟩
    (by
      rintro done a rest env S' hs ⟨b', rs, fd, e2, rfl, hb, hlen, hpm, rfl⟩
      refine ⟨_, rfl, ?_⟩
      have hdl : done.length < xs.length := by
        have := congrArg List.length hs
        rw [length_rangeI, List.length_append, List.length_cons] at this
        omega
      obtain ⟨r, b2, e, h1, h2, h3⟩ := w_draw k (c + done.length) b' (T ++ [.lst rs, .lst fd]) rs.length hb (by omega) (by omega) (by omega)
      have hr : r.toNat < rs.length := by omega
      have hfd : fd.length < sizeCap := by
        have := hpm.length_eq
        rw [List.length_append] at this
        show _ < 16777216
        omega
      simp! [b2_g1, b2_g2, show callEv prog (k + 1) 20 [.box 0, .d (.int rs.length)] _ = _ from e, popK_ok (xs := rs) (y := rs[r.toNat]) h1 (by omega) (List.getElem?_eq_getElem hr), b2_s1, b2_s2, appK_lst hfd]
      refine ⟨b2, _, _, _, rfl, by rw [List.length_append]; exact h3, by rw [List.length_eraseIdx, if_pos hr, List.length_append, List.length_singleton]; omega, ?_, rfl⟩
      refine List.Perm.trans ?_ hpm
      rw [List.append_assoc]
      exact List.Perm.append_left fd (eraseIdx_perm (List.getElem?_eq_getElem hr)))
    (by
      rintro env S' ⟨b', rs, fd, e2, rfl, hb, hlen, hpm, rfl⟩
      rw [length_rangeI] at hlen hb
      have : rs = [] := List.length_eq_zero_iff.1 (by omega)
      subst this
      rw [List.append_nil] at hpm
      exact ⟨b', _, fd, _, rfl, hb, hpm, rfl⟩)
  rcases H with ⟨e, S', rfl, b', rs, fd, e2, rfl, hb, hpm, rfl⟩ | ⟨v, S', rfl, hf⟩ | ⟨x, S', rfl, hf⟩
  · simp! [b2_g2, b2_s2, b2_t]
    exact ⟨fd, b', rfl, hpm, hb⟩
  · exact hf.elim
  · exact hf.elim
theorem w_some_order (k c : Nat) (b : Bx) (T : Sto) (n : Nat) (hp : PenB c b) (hc : c + n ≤ 1000000000) (hl : n ≤ 1000) :
    ∃ (x : List Int) (b' : Bx), callEv prog (k + 3) q__law_some_order [.box 0, .d (.int n)] (b :: T) = .ok (.d (.tup (x.map .int))) (b' :: T) ∧ x.Perm (rangeI 0 n) ∧ PenB (c + n) b' := by
  obtain ⟨ys, b', e, h1, h2⟩ := w_shuffled k c b T ((rangeI 0 n).map .int) hp (by rw [List.length_map, length_rangeI]; exact hc) (by rw [List.length_map, length_rangeI]; exact hl)
  rw [List.length_map, length_rangeI] at h2
  obtain ⟨x, hx, rfl⟩ := perm_map_inv h1
  rw [cl__law_some_order]; unfold bd__law_some_order
  simp! [rg1V_ok hl, show callEv prog (k + 2) 22 _ _ = _ from e, len1, b0_t]
  exact ⟨x, b', rfl, hx, h2⟩
theorem w_listed (k c : Nat) (b : Bx) (T : Sto) (mk : List D → D) (hmk : mk = D.lst ∨ mk = D.tup) (xs : List D) (hp : PenB c b) (hc : c ≤ 1000000000) :
    ∃ (mk' : List D → D) (b' : Bx), (mk' = D.lst ∨ mk' = D.tup) ∧ callEv prog (k + 2) q__law_listed [.box 0, .d (mk xs)] (b :: T) = .ok (.d (mk' xs)) (b' :: T) ∧ PenB (c + 1) b' := by
  obtain ⟨r, b', e, h1, h2, h3⟩ := w_draw k c b T 2 hp hc (by omega) (by omega)
  rw [cl__law_listed]; unfold bd__law_listed
  have hs : ∀ S, seqOf (.d (mk xs)) S = some xs := fun S => by rcases hmk with rfl | rfl <;> rfl
  cases g : (r == 0) with
  | true => 
    simp! [show callEv prog (k + 1) 20 [.box 0, .d (.int 2)] (b :: T) = _ from e, g, hs, len1, b0_t]
    exact ⟨D.lst, b', Or.inl rfl, rfl, h3⟩
  | false =>
    simp! [show callEv prog (k + 1) 20 [.box 0, .d (.int 2)] (b :: T) = _ from e, g, hs, len1, b0_t]
    exact ⟨D.tup, b', Or.inr rfl, rfl, h3⟩
theorem w_pen (k : Nat) (cells : List Int) : ∃ b : Bx, callEv prog (k + 1) q__law_pen [.ro (cells.map .int)] [] = .ok (.box 0) [b] ∧ PenB 0 b := by
  rw [cl__law_pen]; unfold bd__law_pen
  have hML : ∀ S i, binV .mul (.d (.int i)) (.d (.int 47)) S = .ok (.d (.int (i * 47))) S := fun S i => binV_mul (mul_ok (by omega))
  have hM : ∀ S i, binV .mod (.d (.int i)) (.d (.int 1000000007)) S = .ok (.d (.int (i.fmod 1000000007))) S := fun S i => binV_mod (by omega)
  simp!
  generalize hL : forGo _ _ _ _ _ _ = o
  have H := forGo_mp D.int hL
    (fun done env S' => S' = [] ∧ ∃ (fo : Int) (e2 : Option Vl), 0 ≤ fo ∧ fo < 2147483587 ∧ env = [some (.ro (cells.map .int)), some (.d (.int fo)), e2])
    (fun env S' => S' = [] ∧ ∃ (fo : Int) (e2 : Option Vl), 0 ≤ fo ∧ fo < 2147483587 ∧ env = [some (.ro (cells.map .int)), some (.d (.int fo)), e2]) (fun _ _ => False) (fun _ _ => False)
    ⟨rfl, 0, _, by omega, by omega, rfl⟩
    (by
      rintro done a rest env S' hs ⟨rfl, fo, e2, h1, h2, rfl⟩
      refine ⟨_, rfl, ?_⟩
      simp! [hML, hM]
      have := fmod_rng (a := fo * 47 + a) (m := 1000000007) (by omega)
      exact ⟨by trivial, _, _, this.1, by omega, rfl⟩)
    (fun env S' h => h)
  rcases H with ⟨e, S', rfl, rfl, fo, e2, h1, h2, rfl⟩ | ⟨v, S', rfl, hf⟩ | ⟨x, S', rfl, hf⟩
  · simp! [dct_pen, List.length_nil, Nat.lt_irrefl, List.nil_append]
    exact ⟨_, rfl, cells, 0, 0, 0, fo, rfl, by omega, by omega, by omega, by omega, h1, h2⟩
  · exact hf.elim
  · exact hf.elim
end K85
end

section
set_option Elab.async false
set_option linter.all false
set_option maxRecDepth 100000
set_option
        maxHeartbeats 1000000
namespace K85
open PySem (Str)
open Py
local macro_rules
  | `(tactic| simp! [$ls,*]) => `(tactic| simp only [Rs.bind_ok, Rs.bind_exc, Rs.out_ok, Rs.out_exc, Rs.bind_ite, Rs.out_ite, Ou.andT_nx, Ou.andT_rt, Ou.andT_bk, Ou.andT_ct, Ou.andT_exc, Ou.andT_ite,
    leave_ite, leave_nx, leave_d, leave_exc, fz_eq, frzK_d, frzK_new, frzK_ro, frzK_box, frzK_lams, eVar_eq, varK_some, eC_eq, eLam_eq, eTake_eq, takeK_box, takeK2_lst, eBin_eq, binK_eq, binK2_eq, unbox_d, unbox_box, unboxK_lst, binV_add, binV_sub,
    eNeg_eq, negK_int, eNot_eq, notK_b, eAnd_eq, andK_b, eOr_eq, orK_b, eIf_eq, ifK_b, and_mg, or_mg, ite_mg, ite_bl_t, ite_bl_f, ite_bl_n, ite_bl_o, ite_int, eCmp_eq, cmpK_eq, cmpV_lt, cmpV_le, cmpV_gt, cmpV_ge, cmpV_eqI, cmpV_neI, cmpV_eqB, cmpV_neB, eChain_eq, chK0_eq, chK1_eq, chK_b,
    eIsNone_eq, noneK_d, eIsInst_eq, instK_non, instK_bl, instK_int, instK_str, instK_tup, instK_lst, isTys_nil, isTys_cons, kdIs_int_non, kdIs_int_bl, kdIs_int_int, kdIs_int_str, kdIs_int_tup, kdIs_int_lst, kdIs_int_ins, kdIs_bool_non, kdIs_bool_bl, kdIs_bool_int, kdIs_bool_str, kdIs_bool_tup, kdIs_bool_lst, kdIs_bool_ins, kdIs_str_non, kdIs_str_bl, kdIs_str_int, kdIs_str_str, kdIs_str_tup, kdIs_str_lst, kdIs_str_ins, kdIs_list_non, kdIs_list_bl, kdIs_list_int, kdIs_list_str, kdIs_list_tup, kdIs_list_lst, kdIs_list_ins, kdIs_tuple_non, kdIs_tuple_bl, kdIs_tuple_int, kdIs_tuple_str, kdIs_tuple_tup, kdIs_tuple_lst, kdIs_tuple_ins, kdIs_cls_non, kdIs_cls_bl, kdIs_cls_int, kdIs_cls_str, kdIs_cls_tup, kdIs_cls_lst, kdIs_cls_ins, Bool.or_false, Bool.false_or, Bool.or_true, Bool.true_or, Bool.and_true, Bool.true_and, Bool.and_false, Bool.false_and, evAll_nil, evAll_cons, consK_eq, consK2_eq, eTup_eq, tupK_0, tupK_1, tupK_2, tupK_3, tupK_4, eLst_eq, lstK_0, lstK_1, lstK_2, lstK_3, lstK_4, lstK_5, lstK_6, lstK_7, lstK_8, lstK_9, eLams_eq,
    eIx_eq, ixK_eq, eKey_eq, evPart_none, evPart_some, partK_int, eSlice_eq, slK_eq, slK1_eq, slK2_eq, cutV_lst, cutV_tup, eRev_eq, revK_eq, revV_lst, revV_tup, eFld_eq, eCall_eq, callK_ok, bodyCx_call, eMake_eq, eBi_eq, eRng1_eq, eRng2_eq, rngK2_eq,
    biV_int1, biV_min2, biV_max2, seqOf_lst, seqOf_tup, seqOf_ro, seqOf_new, isLst_lst, isLst_new, mkSeq_t, mkSeq_f, eMt_eq, src_seq, srcK_lst, srcK_tup, srcK_ro, src_r1, src_r2, srcK2_eq, src_en, enK_lst, enK_tup, tgV_name, tgV_names2,
    eComp_eq, cpK_eq, newK_eq, eComp2_eq, cp2K_eq, wipeE_nil, wipeE_cons, sNext_eq, sPass_eq, sBreak_eq, sCont_eq, sSeq_eq, sExpr_eq, exprK_eq, sRet_eq, sRetN_eq, sIf_eq, sifK_b, sSet_eq, setK_eq, sBox_eq, boxK_new, sUnpack_eq, unpK_2,
    parV_t, parV_f, pboxK_new, sPar_eq, parK_eq, parK2_eq, sPutK_eq, eRepr_eq, bodyCx_rp, lamCx_call, noBox_nil, noBox_cons, hideB_none, hideB_d, hideB_ro, hideB_box, sSetIx2_eq, six1_eq, six2_eq, six3_eq, six4_eq, six5_eq, six6_eq, six7_eq, setIx_E, eDict_eq, leave_box, sFld_eq, sfldK1_eq, sfldK2_eq, eEqOwn_eq, eqK1_eq, take_last2, putK1_eq, sRaise_eq, raiseK_1, sFor_eq, forK_eq, biV_lenE, lenK_s, biV_listE, listK_s, biV_tupleE, tupleK_s, biV_allM, biV_anyM, biV_sumM, seqOf_box, seqB_lst, isLst_box, isLB_lst, ixV_E, ixK2_0, ixK2_1, ixK2_2, ixK2_neg1, mtV_appE, mtV_popE, appK_nil, mtK_ok, keyK_box, forGo_nil, forGo_cons, tgK_s, Ou.loopT_nx, Ou.loopT_ct, Ou.loopT_bk, Ou.loopT_rt, Ou.loopT_exc, Ou.loopT_ite, stp_ite, stp_nx, stp_rt, stp_exc, cmpV_inE, cmpV_ninE, inK_I, ninK_I, inK_P, ninK_P, encP_eq, cmpV_eqL, cmpV_neL, cmpV_eqT, cmpV_neT, argOk, List.all_cons, List.all_nil, Bool.and_true, Bool.and_self,
    List.getElem?_cons_zero, List.getElem?_cons_succ, List.set_cons_zero, List.set_cons_succ, List.take_length, get_last, set_last, take_last, if_true, if_false, ite_self, Bool.false_eq_true, Bool.true_eq_false, reduceIte, Bool.not_true, Bool.not_false, beq_self_eq_true, Nat.reduceBEq, $ls,*])
local macro_rules
  | `(tactic| simp!) => `(tactic| simp! [Rs.bind_ok])

theorem w_is_ints (k : Nat) (S : Sto) (xs : List D) (hx : ∀ y ∈ xs, knd y) (hl : xs.length ≤ 1000) : callEv prog (k + 1) q__law_is_ints [.d (.tup xs)] S = .ok (.d (.bl (xs.all isIntB))) S := by
  rw [cl__law_is_ints]; unfold bd__law_is_ints
  simp!
  rw [compGo_pure (p := fun x => !isIntB x) (g := fun _ => D.int 1) xs []]
  · simp! [List.nil_append, cmpV_eqNil (okAt_map_int (g := fun _ => 1))]
    congr 3
    rw [Bool.eq_iff_iff]
    simp [List.isEmpty_iff, List.map_eq_nil_iff, List.filter_eq_nil_iff]
  · intro y hy
    refine ⟨_, rfl, ?_, fun _ => by simp!⟩
    have hk : kdOk ownCs (kdOf y) = true := hx y hy
    simp! [instK_d hk]
    cases y <;> rfl
  · show 0 + xs.length ≤ 16777216
    omega
theorem w_is_fault (k : Nat) (S : Sto) (v : D) (h : IsFault v) : callEv prog (k + 1) q__law_is_fault [.d v, .d v] S = .ok (.d (.bl true)) S := by
  rw [cl__law_is_fault]; unfold bd__law_is_fault
  rcases h with rfl | ⟨t, is, ⟨ht, hil⟩, rfl⟩
  · simp! [D.isNon]; rfl
  · have hc := okAt_cmp (okAt_fault (is := is) ht) (by omega : 1 ≤ 60)
    have hc2 : ((D.tup (.str t :: is.map .int)).cmpOk && (D.tup (.str t :: is.map .int)).cmpOk) = true := by rw [hc]; rfl
    simp! [D.isNon, show (false != false) = false from rfl, cmpV_eq hc2, eqv_fault]
    rw [compGo_pure (p := fun _ => false) (g := fun _ => D.int 1) _ []]
    · simp! [List.nil_append, show List.filter (fun (_ : D) => false) (.str t :: is.map .int) = [] from List.filter_eq_nil_iff.2 (by simp), List.map_nil, cmpV_eqNil (xs := []) (by simp)]
      rfl
    · intro y hy
      refine ⟨_, rfl, ?_, fun _ => by simp!⟩
      rcases List.mem_cons.1 hy with rfl | hy
      · simp!
      · obtain ⟨i, _, rfl⟩ := List.mem_map.1 hy
        simp!
    · rw [List.length_cons, List.length_map]; show 0 + _ ≤ 16777216; omega
theorem w_law_pairs (k : Nat) (S : Sto) (n : Nat) (hn : n ≤ 1000) : callEv prog (k + 1) q__law_pairs [.d (.int n)] S = .ok (.d (.lst ((allP n).map encP))) S := by
  rw [cl__law_pairs]; unfold bd__law_pairs
  simp! [rg1K_nat hn]
  rw [rangeI0]
  generalize hG : (fun (i : Nat) => (rangeI ((i : Int) + 1) (n - (i + 1))).map fun j => ((i : Int), j)) = G
  generalize hL : forGo _ _ _ _ _ _ = o
  have H := forGo_mp (fun (i : Nat) => D.int i) hL
    (fun done env S' => S' = S ∧ ∃ (e2 : Option Vl), env = [some (.d (.int n)), some (.d (.lst ((done.flatMap G).map encP))), e2, none])
    (fun env S' => S' = S ∧ ∃ (e2 : Option Vl), env = [some (.d (.int n)), some (.d (.lst (((List.range n).flatMap G).map encP))), e2, none]) (fun _ _ => False) (fun _ _ => False)
    ⟨rfl, _, rfl⟩
    (by
      rintro done i rest env S' hs ⟨rfl, e2, rfl⟩
      refine ⟨_, rfl, ?_⟩
      have hlen := congrArg List.length hs
      rw [List.length_range, List.length_append, List.length_cons] at hlen
      have hi : i < n := by
        have : i ∈ List.range n := by rw [hs]; simp
        exact List.mem_range.1 this
      have h1 : (rngOk ((i : Int) + 1) && rngOk n) = true := by rw [rng_ok (by omega), rng_ok (by omega)]; rfl
      have h2 : ((n : Int) - ((i : Int) + 1)).toNat = n - (i + 1) := by omega
      have hb : (done.flatMap G).length ≤ 1000 * 1000 := by
        rw [List.length_flatMap]
        refine Nat.le_trans (sum_le _ 1000 ?_) ?_
        · intro x hx
          obtain ⟨j, _, rfl⟩ := List.mem_map.1 hx
          rw [← hG]
          dsimp only
          rw [List.length_map, length_rangeI]
          omega
        · rw [List.length_map]; exact Nat.mul_le_mul (by omega) (Nat.le_refl _)
      simp! [rg2K_int h1, h2]
      rw [compGo_map D.int (fun _ => true) (fun j => D.tup [.int i, .int j])]
      · have hf : (List.filter (fun _ => true) (rangeI ((i : Int) + 1) (n - (i + 1)))) = rangeI ((i : Int) + 1) (n - (i + 1)) := List.filter_eq_self.2 fun _ _ => rfl
        simp! [List.nil_append, hf, binV_cat (xs := (done.flatMap G).map encP) (ys := (rangeI ((i : Int) + 1) (n - (i + 1))).map fun j => D.tup [.int i, .int j]) (by rw [List.length_map, List.length_map, length_rangeI]; show _ ≤ 16777216; omega)]
        refine ⟨by trivial, some (.d (.int i)), ?_⟩
        rw [List.flatMap_append, List.flatMap_singleton, List.map_append, ← hG, List.map_map]
        rfl
      · intro j _
        exact ⟨_, rfl, rfl, fun _ => by simp!⟩
      · rw [length_rangeI]; show 0 + _ ≤ 16777216; omega)
    (fun env S' h => h)
  rcases H with ⟨e, S', rfl, rfl, e2, rfl⟩ | ⟨v, S', rfl, hf⟩ | ⟨x, S', rfl, hf⟩
  · simp! []
    rw [← hG]; rfl
  · exact hf.elim
  · exact hf.elim
theorem w_law_mirrors (k : Nat) (S : Sto) (w : List Int) (hn : w.length ≤ 1000) : callEv prog (k + 2) q__law_mirrors [.d (.tup (w.map .int))] S = .ok (.d (.lst ((mir w).map encP))) S := by
  rw [cl__law_mirrors]; unfold bd__law_mirrors
  simp! [List.length_map, show callEv prog (k + 1) 23 _ S = _ from w_law_pairs k S w.length hn]
  rw [compGo_map encP (fun p => decide (wAt w p.2 < wAt w p.1)) encP]
  · simp! [List.nil_append]; rfl
  · intro p hp
    have := mem_allP.1 hp
    exact ⟨_, rfl, by simp! [ixK2_w (w := w) (i := p.1) (by omega) (by omega), ixK2_w (w := w) (i := p.2) (by omega) (by omega)], fun _ => by simp!⟩
  · show 0 + (allP w.length).length ≤ 16777216
    have := length_allP w.length
    have := Nat.mul_le_mul hn hn
    omega
theorem w_law_room (k : Nat) (S : Sto) (ms : List (Int × Int)) (x : List Int) (hm : ms.length ≤ 1000000) (h : ∀ p ∈ ms, 0 ≤ p.1 ∧ p.1 < x.length ∧ 0 ≤ p.2 ∧ p.2 < x.length) : callEv prog (k + 1) q__law_room [.d (.lst (ms.map encP)), .d (.tup (x.map .int))] S = .ok (.d (.tup ((turnIn ms x).map encP))) S := by
  rw [cl__law_room]; unfold bd__law_room
  simp!
  rw [compGo_map encP (fun p => decide (wAt x p.2 < wAt x p.1)) encP]
  · simp! [List.nil_append]; rfl
  · intro p hp
    have := h p hp
    exact ⟨_, rfl, by simp! [ixK2_w (w := x) (i := p.1) (by omega) (by omega), ixK2_w (w := x) (i := p.2) (by omega) (by omega)], fun _ => by simp!⟩
  · show 0 + ms.length ≤ 16777216
    omega
/-- whether place a is less than place b -/
def lesserB (w : List Int) (ps : List (Int × Int)) (a b : Int) : Bool :=
  !((if b < a then b else a) == (if b > a then b else a) || !decide (wAt w (if b > a then b else a) < wAt w (if b < a then b else a))) &&
    (decide (((if b < a then b else a), (if b > a then b else a)) ∈ ps) == decide (b < a))
theorem w_law_lesser (k : Nat) (S : Sto) (w : List Int) (ps : List (Int × Int)) (a b : Int) (ha : 0 ≤ a ∧ a < w.length) (hb : 0 ≤ b ∧ b < w.length) :
    callEv prog (k + 1) q__law_lesser [.d (.tup (w.map .int)), .d (.lst (ps.map encP)), .d (.int a), .d (.int b)] S = .ok (.d (.bl (lesserB w ps a b))) S := by
  rw [cl__law_lesser]; unfold bd__law_lesser
  simp! [ixK2_w (w := w) (i := if b < a then b else a) (by split <;> omega) (by split <;> omega), ixK2_w (w := w) (i := if b > a then b else a) (by split <;> omega) (by split <;> omega)]
  rfl
end K85
end

section
set_option Elab.async false
set_option linter.all false
set_option maxRecDepth 100000
set_option
        maxHeartbeats 1000000
namespace K85
open PySem (Str)
open Py
local macro_rules
  | `(tactic| simp! [$ls,*]) => `(tactic| simp only [Rs.bind_ok, Rs.bind_exc, Rs.out_ok, Rs.out_exc, Rs.bind_ite, Rs.out_ite, Ou.andT_nx, Ou.andT_rt, Ou.andT_bk, Ou.andT_ct, Ou.andT_exc, Ou.andT_ite,
    leave_ite, leave_nx, leave_d, leave_exc, fz_eq, frzK_d, frzK_new, frzK_ro, frzK_box, frzK_lams, eVar_eq, varK_some, eC_eq, eLam_eq, eTake_eq, takeK_box, takeK2_lst, eBin_eq, binK_eq, binK2_eq, unbox_d, unbox_box, unboxK_lst, binV_add, binV_sub,
    eNeg_eq, negK_int, eNot_eq, notK_b, eAnd_eq, andK_b, eOr_eq, orK_b, eIf_eq, ifK_b, and_mg, or_mg, ite_mg, ite_bl_t, ite_bl_f, ite_bl_n, ite_bl_o, ite_int, eCmp_eq, cmpK_eq, cmpV_lt, cmpV_le, cmpV_gt, cmpV_ge, cmpV_eqI, cmpV_neI, cmpV_eqB, cmpV_neB, eChain_eq, chK0_eq, chK1_eq, chK_b,
    eIsNone_eq, noneK_d, eIsInst_eq, instK_non, instK_bl, instK_int, instK_str, instK_tup, instK_lst, isTys_nil, isTys_cons, kdIs_int_non, kdIs_int_bl, kdIs_int_int, kdIs_int_str, kdIs_int_tup, kdIs_int_lst, kdIs_int_ins, kdIs_bool_non, kdIs_bool_bl, kdIs_bool_int, kdIs_bool_str, kdIs_bool_tup, kdIs_bool_lst, kdIs_bool_ins, kdIs_str_non, kdIs_str_bl, kdIs_str_int, kdIs_str_str, kdIs_str_tup, kdIs_str_lst, kdIs_str_ins, kdIs_list_non, kdIs_list_bl, kdIs_list_int, kdIs_list_str, kdIs_list_tup, kdIs_list_lst, kdIs_list_ins, kdIs_tuple_non, kdIs_tuple_bl, kdIs_tuple_int, kdIs_tuple_str, kdIs_tuple_tup, kdIs_tuple_lst, kdIs_tuple_ins, kdIs_cls_non, kdIs_cls_bl, kdIs_cls_int, kdIs_cls_str, kdIs_cls_tup, kdIs_cls_lst, kdIs_cls_ins, Bool.or_false, Bool.false_or, Bool.or_true, Bool.true_or, Bool.and_true, Bool.true_and, Bool.and_false, Bool.false_and, evAll_nil, evAll_cons, consK_eq, consK2_eq, eTup_eq, tupK_0, tupK_1, tupK_2, tupK_3, tupK_4, eLst_eq, lstK_0, lstK_1, lstK_2, lstK_3, lstK_4, lstK_5, lstK_6, lstK_7, lstK_8, lstK_9, eLams_eq,
    eIx_eq, ixK_eq, eKey_eq, evPart_none, evPart_some, partK_int, eSlice_eq, slK_eq, slK1_eq, slK2_eq, cutV_lst, cutV_tup, eRev_eq, revK_eq, revV_lst, revV_tup, eFld_eq, eCall_eq, callK_ok, bodyCx_call, eMake_eq, eBi_eq, eRng1_eq, eRng2_eq, rngK2_eq,
    biV_int1, biV_min2, biV_max2, seqOf_lst, seqOf_tup, seqOf_ro, seqOf_new, isLst_lst, isLst_new, mkSeq_t, mkSeq_f, eMt_eq, src_seq, srcK_lst, srcK_tup, srcK_ro, src_r1, src_r2, srcK2_eq, src_en, enK_lst, enK_tup, tgV_name, tgV_names2,
    eComp_eq, cpK_eq, newK_eq, eComp2_eq, cp2K_eq, wipeE_nil, wipeE_cons, sNext_eq, sPass_eq, sBreak_eq, sCont_eq, sSeq_eq, sExpr_eq, exprK_eq, sRet_eq, sRetN_eq, sIf_eq, sifK_b, sSet_eq, setK_eq, sBox_eq, boxK_new, sUnpack_eq, unpK_2,
    parV_t, parV_f, pboxK_new, sPar_eq, parK_eq, parK2_eq, sPutK_eq, eRepr_eq, bodyCx_rp, lamCx_call, noBox_nil, noBox_cons, hideB_none, hideB_d, hideB_ro, hideB_box, sSetIx2_eq, six1_eq, six2_eq, six3_eq, six4_eq, six5_eq, six6_eq, six7_eq, setIx_E, eDict_eq, leave_box, sFld_eq, sfldK1_eq, sfldK2_eq, eEqOwn_eq, eqK1_eq, take_last2, putK1_eq, sRaise_eq, raiseK_1, sFor_eq, forK_eq, biV_lenE, lenK_s, biV_listE, listK_s, biV_tupleE, tupleK_s, biV_allM, biV_anyM, biV_sumM, seqOf_box, seqB_lst, isLst_box, isLB_lst, ixV_E, ixK2_0, ixK2_1, ixK2_2, ixK2_neg1, mtV_appE, mtV_popE, appK_nil, mtK_ok, keyK_box, forGo_nil, forGo_cons, tgK_s, Ou.loopT_nx, Ou.loopT_ct, Ou.loopT_bk, Ou.loopT_rt, Ou.loopT_exc, Ou.loopT_ite, stp_ite, stp_nx, stp_rt, stp_exc, cmpV_inE, cmpV_ninE, inK_I, ninK_I, inK_P, ninK_P, encP_eq, cmpV_eqL, cmpV_neL, cmpV_eqT, cmpV_neT, argOk, List.all_cons, List.all_nil, Bool.and_true, Bool.and_self,
    List.getElem?_cons_zero, List.getElem?_cons_succ, List.set_cons_zero, List.set_cons_succ, List.take_length, get_last, set_last, take_last, if_true, if_false, ite_self, Bool.false_eq_true, Bool.true_eq_false, reduceIte, Bool.not_true, Bool.not_false, beq_self_eq_true, Nat.reduceBEq, $ls,*])
local macro_rules
  | `(tactic| simp!) => `(tactic| simp! [Rs.bind_ok])

theorem firstUn_congr {f g : Int × Int → Bool} : ∀ {ms : List (Int × Int)}, (∀ p ∈ ms, f p = g p) → firstUn f ms = firstUn g ms
  | [], _ => rfl
  | p :: ms, h => by
    rw [firstUn, firstUn, h p (List.mem_cons_self ..), firstUn_congr fun q hq => h q (List.mem_cons_of_mem _ hq)]
theorem firstIx_congr {f g : Nat → Bool} : ∀ {n k : Nat}, (∀ i, k ≤ i → i < k + n → f i = g i) → firstIx f k n = firstIx g k n
  | 0, _, _ => rfl
  | n + 1, k, h => by
    rw [firstIx, firstIx, h k (Nat.le_refl _) (by omega), firstIx_congr fun i h1 h2 => h i (by omega) (by omega)]
theorem mem_turnIn {ms : List (Int × Int)} {x : List Int} {p : Int × Int} : p ∈ turnIn ms x ↔ p ∈ ms ∧ wAt x p.2 < wAt x p.1 := by
  unfold turnIn; rw [List.mem_filter, decide_eq_true_eq]
theorem mir_len {w : List Int} (hn : w.length ≤ 1000) : (mir w).length ≤ 1000000 := by
  have h3 : (mir w).length ≤ (allP w.length).length := List.length_filter_le ..
  have h4 := length_allP w.length
  have h5 := Nat.mul_le_mul hn hn
  omega
theorem w_inside_due_r (k : Nat) (S : Sto) (w : List Int) (ps : List (Int × Int)) (mk : List D → D) (hmk : mk = D.lst ∨ mk = D.tup) (xs : List D) (hw : IsOrd w) (hi : ∀ y ∈ xs, knd y) (hl : xs.length ≤ 1000) :
    callEv prog (k + 3) q__law_inside_due [.d (.tup (w.map .int)), .d (.lst (ps.map encP)), .d (mk xs)] S = .ok (.d (insideL w ps xs)) S := by
  rw [cl__law_inside_due]; unfold bd__law_inside_due
  have hn : w.length ≤ 1000 := by have := hw.1.2; omega
  have hs : ∀ S, seqOf (.d (mk xs)) S = some xs := fun S => by rcases hmk with rfl | rfl <;> rfl
  have hin : ∀ S, instK ownCs [.list, .tuple] (.d (mk xs)) S = .ok (.d (.bl true)) S := fun S => by rcases hmk with rfl | rfl <;> rfl
  have hii := fun S => w_is_ints (k + 1) S xs hi hl
  by_cases h : xs.length = w.length
  rotate_left
  · have h1 : ((xs.length : Int) == (w.length : Int)) = false := by rw [beq_eq_false_iff_ne]; omega
    simp! [hs, hin, List.length_map, h1]
    unfold insideL
    rw [decide_eq_false h, Bool.and_false]; rfl
  have h1 : ((xs.length : Int) == (w.length : Int)) = true := by rw [beq_iff_eq]; omega
  cases e : intsOf xs with
  | none =>
    simp! [hs, hin, List.length_map, h1, show ∀ S, callEv prog (k + 2) 26 _ S = _ from hii, intsOf_none e]
    unfold insideL isOrdL
    rw [e]
    simp
    rfl
  | some is =>
    obtain rfl := intsOf_some e
    rw [List.length_map] at h hl h1
    simp! [hs, hin, List.length_map, h1, show ∀ S, callEv prog (k + 2) 26 _ S = _ from hii, all_ints, biV_sorted (hs _), rg1V_ok hn]
    have hol : isOrdL (is.map D.int) = decide (sortInts is = rangeI 0 w.length) := by
      unfold isOrdL
      rw [e, List.length_map]
      dsimp only
      rw [decide_eq_true (by have := hw.1.1; omega), decide_eq_true (by have := hw.1.2; omega), h]; rfl
    by_cases h2 : sortInts is = rangeI 0 w.length
    rotate_left
    · simp! [h2, decide_false]
      unfold insideL
      rw [hol, decide_eq_false h2]; rfl
    simp! [h2, decide_true, show ∀ S, callEv prog (k + 2) 28 _ S = _ from fun S => w_law_mirrors k S w hn]
    have hA : insideL w ps (is.map D.int) = firstUn (fun p => !(decide (wAt is p.2 < wAt is p.1) == decide (p ∈ ps))) (mir w) := by
      unfold insideL
      rw [hol, decide_eq_true h2, List.length_map, decide_eq_true h, if_pos (by rfl), e]
      dsimp only
      refine firstUn_congr fun p hp => ?_
      have : decide (p ∈ turnIn (mir w) is) = decide (wAt is p.2 < wAt is p.1) := by
        by_cases h3 : wAt is p.2 < wAt is p.1 <;> simp [mem_turnIn, hp, h3]
      rw [this, Bool.beq_comm]
    generalize hf : (fun (p : Int × Int) => !(decide (wAt is p.2 < wAt is p.1) == decide (p ∈ ps))) = f at hA
    generalize hL : forGo _ _ _ _ _ _ = o
    have H := forGo_mp encP hL
      (fun done env S' => S' = S ∧ (∀ rest, mir w = done ++ rest → firstUn f rest = firstUn f (mir w)) ∧ ∃ (e4 e5 : Option Vl), env = [some (.d (.tup (w.map .int))), some (.d (.lst (ps.map encP))), some (.d (mk (is.map .int))), some (.d (.int w.length)), e4, e5])
      (fun env S' => S' = S ∧ firstUn f (mir w) = .non) (fun v S' => S' = S ∧ v = .d (firstUn f (mir w))) (fun _ _ => False)
      ⟨rfl, fun rest h => by rw [h]; rfl, _, _, rfl⟩
      (by
        rintro done ⟨i, j⟩ rest env S' hs' ⟨rfl, hb, e4, e5, rfl⟩
        refine ⟨_, rfl, ?_⟩
        have hb' := hb _ hs'
        have hp : (i, j) ∈ mir w := by rw [hs']; simp
        have hp2 := (mem_mir.1 hp).1
        have hf' : (!(decide (wAt is j < wAt is i) == decide ((i, j) ∈ ps))) = f (i, j) := by rw [← hf]
        simp! [hs, ixK2_w (w := is) (i := i) (by omega) (by omega), ixK2_w (w := is) (i := j) (by omega) (by omega), hf']
        cases e : f (i, j) with
        | true =>
          simp! [if_true]
          rw [firstUn, if_pos e] at hb'
          exact ⟨by trivial, by rw [← hb']⟩
        | false =>
          simp!
          rw [firstUn, if_neg (by rw [e]; simp)] at hb'
          refine ⟨by trivial, ?_, _, _, rfl⟩
          intro rest' h'
          rw [hs', List.append_assoc] at h'
          have := List.append_cancel_left h'
          simp at this
          rw [← this]; exact hb')
      (by
        rintro env S' ⟨rfl, hb, e4, e5, rfl⟩
        exact ⟨rfl, by rw [← hb [] (by simp)]; rfl⟩)
    rcases H with ⟨e, S', rfl, rfl, hb⟩ | ⟨v, S', rfl, rfl, rfl⟩ | ⟨x, S', rfl, hf⟩
    · simp! [hA, hb]
    · simp! [hA]
    · exact hf.elim
theorem w_inside_due (k : Nat) (S : Sto) (w : List Int) (ps : List (Int × Int)) (x : D) (hw : IsOrd w) (hx : knd x) (hi : ∀ y ∈ itemsOf x, knd y) (hl : (itemsOf x).length ≤ 1000) :
    callEv prog (k + 3) q__law_inside_due [.d (.tup (w.map .int)), .d (.lst (ps.map encP)), .d x] S = .ok (.d (faultV w ps (.ins 5 [("order", kept x)]))) S := by
  cases x with
  | lst xs => exact w_inside_due_r k S w ps D.lst (Or.inl rfl) xs hw hi hl
  | tup xs => exact w_inside_due_r k S w ps D.tup (Or.inr rfl) xs hw hi hl
  | ins c fs =>
    rw [cl__law_inside_due]; unfold bd__law_inside_due
    have hk : kdOk ownCs (kdOf (.ins c fs)) = true := hx
    simp! [List.length_map, instK_d hk, kdOf]
    rfl
  | _ =>
    rw [cl__law_inside_due]; unfold bd__law_inside_due
    simp! [List.length_map]
    rfl
/-- whether a is less than b, told by the package's lesser_ones -/
theorem lesser_agree {w : List Int} {ps : List (Int × Int)} {a b : Int} (ha : 0 ≤ a ∧ a < w.length) (hb : 0 ≤ b ∧ b < w.length) :
    decide (a ∈ (mir w).filterMap (lo ps b (rangeI 0 w.length))) = lesserB w ps a b := by
  have hra : a ∈ rangeI 0 w.length := mem_rangeI.2 (by omega)
  have key : a ∈ (mir w).filterMap (lo ps b (rangeI 0 w.length)) ↔ ((b, a) ∈ mir w ∧ (b, a) ∈ ps) ∨ ((a, b) ∈ mir w ∧ ¬ (a, b) ∈ ps) := by
    rw [List.mem_filterMap]
    constructor
    · rintro ⟨⟨i, j⟩, hm, h⟩
      unfold lo at h
      dsimp only at h
      by_cases h1 : (i, j) ∈ ps
      · rw [if_pos h1] at h
        split at h
        · rename_i h2
          injection h with h
          subst h
          obtain ⟨rfl, _⟩ := h2
          exact Or.inl ⟨hm, h1⟩
        · exact absurd h (by simp)
      · rw [if_neg h1] at h
        split at h
        · rename_i h2
          injection h with h
          subst h
          obtain ⟨rfl, _⟩ := h2
          exact Or.inr ⟨hm, h1⟩
        · exact absurd h (by simp)
    · rintro (⟨h1, h2⟩ | ⟨h1, h2⟩)
      · exact ⟨(b, a), h1, by unfold lo; rw [if_pos h2, if_pos ⟨rfl, hra⟩]⟩
      · exact ⟨(a, b), h1, by unfold lo; rw [if_neg h2, if_pos ⟨rfl, hra⟩]⟩
  rw [Bool.eq_iff_iff, decide_eq_true_eq, key]
  unfold lesserB
  rcases Int.lt_trichotomy
          a b with h | h | h
  · have h1 : ¬ b < a := by omega
    have h2 : ¬ a = b := by omega
    rw [if_neg h1, if_pos (show b > a from h)]
    have h3 : ¬ (b, a) ∈ mir w := fun hh => h1 (mem_mir.1 hh).1.2.1
    simp [h1, h2, h3, mem_mir]
    intro h4 _
    omega
  · subst h
    have h3 : ¬ (a, a) ∈ mir w := fun hh => absurd (mem_mir.1 hh).1.2.1 (by simp)
    simp [h3]
  · have h1 : ¬ a < b := by omega
    have h2 : ¬ b = a := by omega
    rw [if_pos h, if_neg (show ¬ b > a from h1)]
    have h3 : ¬ (a, b) ∈ mir w := fun hh => h1 (mem_mir.1 hh).1.2.1
    simp [h, h2, h3, mem_mir]
    intro h4 _
    omega
end K85
end

section
set_option Elab.async false
set_option linter.all false
set_option maxRecDepth 100000
set_option
        maxHeartbeats 1000000
namespace K85
open PySem (Str)
open Py
local macro_rules
  | `(tactic| simp! [$ls,*]) => `(tactic| simp only [Rs.bind_ok, Rs.bind_exc, Rs.out_ok, Rs.out_exc, Rs.bind_ite, Rs.out_ite, Ou.andT_nx, Ou.andT_rt, Ou.andT_bk, Ou.andT_ct, Ou.andT_exc, Ou.andT_ite,
    leave_ite, leave_nx, leave_d, leave_exc, fz_eq, frzK_d, frzK_new, frzK_ro, frzK_box, frzK_lams, eVar_eq, varK_some, eC_eq, eLam_eq, eTake_eq, takeK_box, takeK2_lst, eBin_eq, binK_eq, binK2_eq, unbox_d, unbox_box, unboxK_lst, binV_add, binV_sub,
    eNeg_eq, negK_int, eNot_eq, notK_b, eAnd_eq, andK_b, eOr_eq, orK_b, eIf_eq, ifK_b, and_mg, or_mg, ite_mg, ite_bl_t, ite_bl_f, ite_bl_n, ite_bl_o, ite_int, eCmp_eq, cmpK_eq, cmpV_lt, cmpV_le, cmpV_gt, cmpV_ge, cmpV_eqI, cmpV_neI, cmpV_eqB, cmpV_neB, eChain_eq, chK0_eq, chK1_eq, chK_b,
    eIsNone_eq, noneK_d, eIsInst_eq, instK_non, instK_bl, instK_int, instK_str, instK_tup, instK_lst, isTys_nil, isTys_cons, kdIs_int_non, kdIs_int_bl, kdIs_int_int, kdIs_int_str, kdIs_int_tup, kdIs_int_lst, kdIs_int_ins, kdIs_bool_non, kdIs_bool_bl, kdIs_bool_int, kdIs_bool_str, kdIs_bool_tup, kdIs_bool_lst, kdIs_bool_ins, kdIs_str_non, kdIs_str_bl, kdIs_str_int, kdIs_str_str, kdIs_str_tup, kdIs_str_lst, kdIs_str_ins, kdIs_list_non, kdIs_list_bl, kdIs_list_int, kdIs_list_str, kdIs_list_tup, kdIs_list_lst, kdIs_list_ins, kdIs_tuple_non, kdIs_tuple_bl, kdIs_tuple_int, kdIs_tuple_str, kdIs_tuple_tup, kdIs_tuple_lst, kdIs_tuple_ins, kdIs_cls_non, kdIs_cls_bl, kdIs_cls_int, kdIs_cls_str, kdIs_cls_tup, kdIs_cls_lst, kdIs_cls_ins, Bool.or_false, Bool.false_or, Bool.or_true, Bool.true_or, Bool.and_true, Bool.true_and, Bool.and_false, Bool.false_and, evAll_nil, evAll_cons, consK_eq, consK2_eq, eTup_eq, tupK_0, tupK_1, tupK_2, tupK_3, tupK_4, eLst_eq, lstK_0, lstK_1, lstK_2, lstK_3, lstK_4, lstK_5, lstK_6, lstK_7, lstK_8, lstK_9, eLams_eq,
    eIx_eq, ixK_eq, eKey_eq, evPart_none, evPart_some, partK_int, eSlice_eq, slK_eq, slK1_eq, slK2_eq, cutV_lst, cutV_tup, eRev_eq, revK_eq, revV_lst, revV_tup, eFld_eq, eCall_eq, callK_ok, bodyCx_call, eMake_eq, eBi_eq, eRng1_eq, eRng2_eq, rngK2_eq,
    biV_int1, biV_min2, biV_max2, seqOf_lst, seqOf_tup, seqOf_ro, seqOf_new, isLst_lst, isLst_new, mkSeq_t, mkSeq_f, eMt_eq, src_seq, srcK_lst, srcK_tup, srcK_ro, src_r1, src_r2, srcK2_eq, src_en, enK_lst, enK_tup, tgV_name, tgV_names2,
    eComp_eq, cpK_eq, newK_eq, eComp2_eq, cp2K_eq, wipeE_nil, wipeE_cons, sNext_eq, sPass_eq, sBreak_eq, sCont_eq, sSeq_eq, sExpr_eq, exprK_eq, sRet_eq, sRetN_eq, sIf_eq, sifK_b, sSet_eq, setK_eq, sBox_eq, boxK_new, sUnpack_eq, unpK_2,
    parV_t, parV_f, pboxK_new, sPar_eq, parK_eq, parK2_eq, sPutK_eq, eRepr_eq, bodyCx_rp, lamCx_call, noBox_nil, noBox_cons, hideB_none, hideB_d, hideB_ro, hideB_box, sSetIx2_eq, six1_eq, six2_eq, six3_eq, six4_eq, six5_eq, six6_eq, six7_eq, setIx_E, eDict_eq, leave_box, sFld_eq, sfldK1_eq, sfldK2_eq, eEqOwn_eq, eqK1_eq, take_last2, putK1_eq, sRaise_eq, raiseK_1, sFor_eq, forK_eq, biV_lenE, lenK_s, biV_listE, listK_s, biV_tupleE, tupleK_s, biV_allM, biV_anyM, biV_sumM, seqOf_box, seqB_lst, isLst_box, isLB_lst, ixV_E, ixK2_0, ixK2_1, ixK2_2, ixK2_neg1, mtV_appE, mtV_popE, appK_nil, mtK_ok, keyK_box, forGo_nil, forGo_cons, tgK_s, Ou.loopT_nx, Ou.loopT_ct, Ou.loopT_bk, Ou.loopT_rt, Ou.loopT_exc, Ou.loopT_ite, stp_ite, stp_nx, stp_rt, stp_exc, cmpV_inE, cmpV_ninE, inK_I, ninK_I, inK_P, ninK_P, encP_eq, cmpV_eqL, cmpV_neL, cmpV_eqT, cmpV_neT, argOk, List.all_cons, List.all_nil, Bool.and_true, Bool.and_self,
    List.getElem?_cons_zero, List.getElem?_cons_succ, List.set_cons_zero, List.set_cons_succ, List.take_length, get_last, set_last, take_last, if_true, if_false, ite_self, Bool.false_eq_true, Bool.true_eq_false, reduceIte, Bool.not_true, Bool.not_false, beq_self_eq_true, Nat.reduceBEq, $ls,*])
local macro_rules
  | `(tactic| simp!) => `(tactic| simp! [Rs.bind_ok])

theorem nextOf_mem {is : List Int} {k : Nat} (h : 0 < is.length) : nextOf is k ∈ is := by
  unfold nextOf
  split
  · rename_i h1
    rw [List.getD_eq_getElem?_getD, List.getElem?_eq_getElem h1]
    exact List.getElem_mem h1
  · rw [List.getD_eq_getElem?_getD, List.getElem?_eq_getElem h]
    exact List.getElem_mem h
theorem getD_mem {is : List Int} {k : Nat} (h : k < is.length) : is.getD k 0 ∈ is := by
  rw [List.getD_eq_getElem?_getD, List.getElem?_eq_getElem h]
  exact List.getElem_mem h
theorem ix_at {is : List Int} {S : Sto} {k : Nat} (hk : k < is.length) : ixK2 (some (is.map D.int)) (k : Int) S = .ok (.d (.int (is.getD k 0))) S := by
  refine ixK2_nat ?_
  rw [List.getElem?_map, List.getElem?_eq_getElem hk, Option.map_some, List.getD_eq_getElem?_getD, List.getElem?_eq_getElem hk]; rfl
theorem w_around_due_r (k : Nat) (S : Sto) (w : List Int) (ps : List (Int × Int)) (mk : List D → D) (hmk : mk = D.lst ∨ mk = D.tup) (xs : List D) (hn : w.length ≤ 1000) (hi : ∀ y ∈ xs, knd y) (hl : xs.length ≤ 60) :
    callEv prog (k + 3) q__law_around_due [.d (.tup (w.map .int)), .d (.lst (ps.map encP)), .d (mk xs)] S = .ok (.d (aroundL w ps xs)) S := by
  rw [cl__law_around_due]; unfold bd__law_around_due
  have hs : ∀ S, seqOf (.d (mk xs)) S = some xs := fun S => by rcases hmk with rfl | rfl <;> rfl
  have hsr : ∀ S, srcK (.d (mk xs)) S = .ok xs S := fun S => by rcases hmk with rfl | rfl <;> rfl
  have hin : ∀ S, instK ownCs [.list, .tuple] (.d (mk xs)) S = .ok (.d (.bl true)) S := fun S => by rcases hmk with rfl | rfl <;> rfl
  by_cases h3 : xs.length < 3
  · have : ((xs.length : Int) < 3) := by omega
    simp! [hs, hin, this, decide_true]
    unfold aroundL
    rw [if_pos h3]; rfl
  have h3' : ¬ ((xs.length : Int) < 3) := by omega
  simp! [hs, hin, hsr, h3', decide_false]
  rw [compGo_pure (p := fun x => !(isIntB x && inR w.length x)) (g := fun _ => D.int 1) xs []]
  rotate_left
  · intro y hy
    refine ⟨_, rfl, ?_, fun _ => by simp!⟩
    have hk : kdOk ownCs (kdOf y) = true := hi y hy
    cases y <;> simp! [instK_d hk, kdOf, isIntB, inR, List.length_map]
  · show 0 + xs.length ≤ 16777216
    omega
  simp! [List.nil_append, cmpV_neNil (okAt_map_int (g := fun _ => 1))]
  have hem : ((xs.filter fun x => !(isIntB x && inR w.length x)).map fun _ => D.int 1).isEmpty = xs.all fun x => isIntB x && inR w.length x := by
    rw [Bool.eq_iff_iff]
    simp [List.isEmpty_iff, List.filter_eq_nil_iff]
  rw [hem]
  cases e : intsOf xs with
  | none =>
    have h4 : (xs.all fun x => isIntB x && inR w.length x) = false := by
      have := intsOf_none e
      rw [List.all_eq_false] at this ⊢
      obtain ⟨x, h1, h2⟩ := this
      exact ⟨x, h1, by rw [Bool.not_eq_true] at h2 ⊢; rw [h2]; rfl⟩
    simp! [h4]
    unfold aroundL
    rw [if_neg h3, e]; rfl
  | some is =>
    obtain rfl := intsOf_some e
    have h4 : ((is.map D.int).all fun x => isIntB x && inR w.length x) = is.all fun i => decide (0 ≤ i) && decide (i < w.length) := by
      rw [List.all_map]; rfl
    rw [h4]
    rw [List.length_map] at hl h3
    cases h5 : (is.all fun i => decide (0 ≤ i) && decide (i < w.length)) with
    | false =>
      simp!
      unfold aroundL
      rw [List.length_map, if_neg h3, e]
      dsimp only
      rw [if_pos h5]; rfl
    | true =>
    have hlen : (sortInts (firstMet [] is)).length = (firstMet [] is).length := (sortInts_perm _).length_eq
    simp! [biV_sortedSet (hs _) hl, hs, List.length_map, hlen]
    by_cases h6 : (firstMet [] is).length = is.length
    rotate_left
    · have : (((firstMet [] is).length : Int) == (is.length : Int)) = false := by
        rw [beq_eq_false_iff_ne]; omega
      simp! [this]
      unfold aroundL
      rw [List.length_map, if_neg h3, e]
      dsimp only
      rw [if_neg (by rw [h5]; simp), if_pos h6]; rfl
    have h6' : (((firstMet [] is).length : Int) == (is.length : Int)) = true := by
      rw [beq_iff_eq]; omega
    have hr : ∀ i ∈ is, 0 ≤ i ∧ i < w.length := by
      intro i hi
      have := List.all_eq_true.1 h5 i hi
      rw [Bool.and_eq_true, decide_eq_true_eq, decide_eq_true_eq] at this
      exact this
    have hA : aroundL w ps (is.map D.int) = firstIx (fun k => !lesserB w ps (is.getD k 0) (nextOf is k)) 0 is.length := by
      unfold aroundL
      rw [List.length_map, if_neg h3, e]
      dsimp only
      rw [if_neg (by rw [h5]; simp), if_neg (by simp [h6])]
      refine firstIx_congr fun i _ h2 => ?_
      unfold badSt
      rw [lesser_agree (hr _ (getD_mem (by omega))) (hr _ (nextOf_mem (by omega)))]
    generalize hf : (fun k => !lesserB w ps (is.getD k 0) (nextOf is k)) = f at hA
    simp! [h6', rg1K_nat (n := is.length) (by omega)]
    rw [rangeI0]
    generalize hL : forGo _ _ _ _ _ _ = o
    have H := forGo_mp (fun (i : Nat) => D.int i) hL
      (fun done env S' => S' = S ∧ firstIx f done.length (is.length - done.length) = firstIx f 0 is.length ∧ ∃ (e3 e4 : Option Vl), env = [some (.d (.tup (w.map .int))), some (.d (.lst (ps.map encP))), some (.d (mk (is.map .int))), e3, e4, none])
      (fun env S' => S' = S ∧ firstIx f 0 is.length = .non) (fun v S' => S' = S ∧ v = .d (firstIx f 0 is.length)) (fun _ _ => False)
      ⟨rfl, rfl, _, _, rfl⟩
      (by
        rintro done i rest env S' hs' ⟨rfl, hb, e3, e4, rfl⟩
        have hi2 : i = done.length ∧ i < is.length := by
          have h7 : (List.range is.length)[done.length]? = some i := by rw [hs']; simp
          obtain ⟨h8, h9⟩ := List.getElem?_eq_some_iff.1 h7
          rw [List.getElem_range] at h9
          rw [List.length_range] at h8
          exact ⟨h9.symm, by omega⟩
        obtain ⟨rfl, hlt⟩ := hi2
        refine ⟨_, rfl, ?_⟩
        have hs1 : is.length - done.length = (is.length - (done.length + 1)) + 1 := by omega
        rw [hs1, firstIx] at hb
        have hw := fun S => w_law_lesser (k + 1) S w ps (is.getD done.length 0) (nextOf is done.length) (hr _ (getD_mem hlt)) (hr _ (nextOf_mem (by omega)))
        have hbd : (!lesserB w ps (is.getD done.length 0) (nextOf is done.length)) = f done.length := by rw [← hf]
        by_cases h7 : done.length + 1 < is.length
        · have h7' : ((done.length : Int) + 1 < (is.length : Int)) := by omega
          simp! [hs, List.length_map, h7', decide_true, ix_next h7, ix_at hlt, show ∀ S, callEv prog (k + 2) 30 _ S = _ from hw, hbd]
          cases h8 : f done.length with
          | true =>
            rw [if_pos h8] at hb
            simp!
            exact ⟨by trivial, by rw [← hb]⟩
          | false =>
            rw [if_neg (by rw [h8]; simp)] at hb
            simp!
            exact ⟨by trivial, by rw [List.length_append, List.length_singleton]; exact hb, _, _, rfl⟩
        · have h7' : ¬ ((done.length : Int) + 1 < (is.length : Int)) := by omega
          simp! [hs, List.length_map, h7', decide_false, ix_next0 (k := done.length) (by omega) h7, ix_at hlt, show ∀ S, callEv prog (k + 2) 30 _ S = _ from hw, hbd]
          cases h8 : f done.length with
          | true =>
            rw [if_pos h8] at hb
            simp!
            exact ⟨by trivial, by rw [← hb]⟩
          | false =>
            rw [if_neg (by rw [h8]; simp)] at hb
            simp!
            exact ⟨by trivial, by rw [List.length_append, List.length_singleton]; exact hb, _, _, rfl⟩)
      (by
        rintro env S' ⟨rfl, hb, e3, e4, rfl⟩
        refine ⟨rfl, ?_⟩
        rw [← hb, List.length_range, Nat.sub_self]; rfl)
    rcases H with ⟨e, S', rfl, rfl, hb⟩ | ⟨v, S', rfl, rfl, rfl⟩ | ⟨x, S', rfl, hf⟩
    · simp! [hA, hb]
    · simp! [hA]
    · exact hf.elim
theorem w_around_due (k : Nat) (S : Sto) (w : List Int) (ps : List (Int × Int)) (x : D) (hn : w.length ≤ 1000) (hx : knd x) (hi : ∀ y ∈ itemsOf x, knd y) (hl : (itemsOf x).length ≤ 60) :
    callEv prog (k + 3) q__law_around_due [.d (.tup (w.map .int)), .d (.lst (ps.map encP)), .d x] S = .ok (.d (faultV w ps (.ins 6 [("places", kept x)]))) S := by
  cases x with
  | lst xs => exact w_around_due_r k S w ps D.lst (Or.inl rfl) xs hn hi hl
  | tup xs => exact w_around_due_r k S w ps D.tup (Or.inr rfl) xs hn hi hl
  | ins c fs =>
    rw [cl__law_around_due]; unfold bd__law_around_due
    have hk : kdOk ownCs (kdOf (.ins c fs)) = true := hx
    simp! [List.length_map, instK_d hk, kdOf]
    rfl
  | _ =>
    rw [cl__law_around_due]; unfold bd__law_around_due
    simp! [List.length_map]
    rfl
end K85
end

section
set_option Elab.async false
set_option linter.all false
set_option maxRecDepth 100000
set_option
        maxHeartbeats 1000000
namespace K85
open PySem (Str)
open Py
local macro_rules
  | `(tactic| simp! [$ls,*]) => `(tactic| simp only [Rs.bind_ok, Rs.bind_exc, Rs.out_ok, Rs.out_exc, Rs.bind_ite, Rs.out_ite, Ou.andT_nx, Ou.andT_rt, Ou.andT_bk, Ou.andT_ct, Ou.andT_exc, Ou.andT_ite,
    leave_ite, leave_nx, leave_d, leave_exc, fz_eq, frzK_d, frzK_new, frzK_ro, frzK_box, frzK_lams, eVar_eq, varK_some, eC_eq, eLam_eq, eTake_eq, takeK_box, takeK2_lst, eBin_eq, binK_eq, binK2_eq, unbox_d, unbox_box, unboxK_lst, binV_add, binV_sub,
    eNeg_eq, negK_int, eNot_eq, notK_b, eAnd_eq, andK_b, eOr_eq, orK_b, eIf_eq, ifK_b, and_mg, or_mg, ite_mg, ite_bl_t, ite_bl_f, ite_bl_n, ite_bl_o, ite_int, eCmp_eq, cmpK_eq, cmpV_lt, cmpV_le, cmpV_gt, cmpV_ge, cmpV_eqI, cmpV_neI, cmpV_eqB, cmpV_neB, eChain_eq, chK0_eq, chK1_eq, chK_b,
    eIsNone_eq, noneK_d, eIsInst_eq, instK_non, instK_bl, instK_int, instK_str, instK_tup, instK_lst, isTys_nil, isTys_cons, kdIs_int_non, kdIs_int_bl, kdIs_int_int, kdIs_int_str, kdIs_int_tup, kdIs_int_lst, kdIs_int_ins, kdIs_bool_non, kdIs_bool_bl, kdIs_bool_int, kdIs_bool_str, kdIs_bool_tup, kdIs_bool_lst, kdIs_bool_ins, kdIs_str_non, kdIs_str_bl, kdIs_str_int, kdIs_str_str, kdIs_str_tup, kdIs_str_lst, kdIs_str_ins, kdIs_list_non, kdIs_list_bl, kdIs_list_int, kdIs_list_str, kdIs_list_tup, kdIs_list_lst, kdIs_list_ins, kdIs_tuple_non, kdIs_tuple_bl, kdIs_tuple_int, kdIs_tuple_str, kdIs_tuple_tup, kdIs_tuple_lst, kdIs_tuple_ins, kdIs_cls_non, kdIs_cls_bl, kdIs_cls_int, kdIs_cls_str, kdIs_cls_tup, kdIs_cls_lst, kdIs_cls_ins, Bool.or_false, Bool.false_or, Bool.or_true, Bool.true_or, Bool.and_true, Bool.true_and, Bool.and_false, Bool.false_and, evAll_nil, evAll_cons, consK_eq, consK2_eq, eTup_eq, tupK_0, tupK_1, tupK_2, tupK_3, tupK_4, eLst_eq, lstK_0, lstK_1, lstK_2, lstK_3, lstK_4, lstK_5, lstK_6, lstK_7, lstK_8, lstK_9, eLams_eq,
    eIx_eq, ixK_eq, eKey_eq, evPart_none, evPart_some, partK_int, eSlice_eq, slK_eq, slK1_eq, slK2_eq, cutV_lst, cutV_tup, eRev_eq, revK_eq, revV_lst, revV_tup, eFld_eq, eCall_eq, callK_ok, bodyCx_call, eMake_eq, eBi_eq, eRng1_eq, eRng2_eq, rngK2_eq,
    biV_int1, biV_min2, biV_max2, seqOf_lst, seqOf_tup, seqOf_ro, seqOf_new, isLst_lst, isLst_new, mkSeq_t, mkSeq_f, eMt_eq, src_seq, srcK_lst, srcK_tup, srcK_ro, src_r1, src_r2, srcK2_eq, src_en, enK_lst, enK_tup, tgV_name, tgV_names2,
    eComp_eq, cpK_eq, newK_eq, eComp2_eq, cp2K_eq, wipeE_nil, wipeE_cons, sNext_eq, sPass_eq, sBreak_eq, sCont_eq, sSeq_eq, sExpr_eq, exprK_eq, sRet_eq, sRetN_eq, sIf_eq, sifK_b, sSet_eq, setK_eq, sBox_eq, boxK_new, sUnpack_eq, unpK_2,
    parV_t, parV_f, pboxK_new, sPar_eq, parK_eq, parK2_eq, sPutK_eq, eRepr_eq, bodyCx_rp, lamCx_call, noBox_nil, noBox_cons, hideB_none, hideB_d, hideB_ro, hideB_box, sSetIx2_eq, six1_eq, six2_eq, six3_eq, six4_eq, six5_eq, six6_eq, six7_eq, setIx_E, eDict_eq, leave_box, sFld_eq, sfldK1_eq, sfldK2_eq, eEqOwn_eq, eqK1_eq, take_last2, putK1_eq, sRaise_eq, raiseK_1, sFor_eq, forK_eq, biV_lenE, lenK_s, biV_listE, listK_s, biV_tupleE, tupleK_s, biV_allM, biV_anyM, biV_sumM, seqOf_box, seqB_lst, isLst_box, isLB_lst, ixV_E, ixK2_0, ixK2_1, ixK2_2, ixK2_neg1, mtV_appE, mtV_popE, appK_nil, mtK_ok, keyK_box, forGo_nil, forGo_cons, tgK_s, Ou.loopT_nx, Ou.loopT_ct, Ou.loopT_bk, Ou.loopT_rt, Ou.loopT_exc, Ou.loopT_ite, stp_ite, stp_nx, stp_rt, stp_exc, cmpV_inE, cmpV_ninE, inK_I, ninK_I, inK_P, ninK_P, encP_eq, cmpV_eqL, cmpV_neL, cmpV_eqT, cmpV_neT, argOk, List.all_cons, List.all_nil, Bool.and_true, Bool.and_self,
    List.getElem?_cons_zero, List.getElem?_cons_succ, List.set_cons_zero, List.set_cons_succ, List.take_length, get_last, set_last, take_last, if_true, if_false, ite_self, Bool.false_eq_true, Bool.true_eq_false, reduceIte, Bool.not_true, Bool.not_false, beq_self_eq_true, Nat.reduceBEq, $ls,*])
local macro_rules
  | `(tactic| simp!) => `(tactic| simp! [Rs.bind_ok])

/-- a ring of places, each less than the next -/
def RingOk (w : List Int) (ps : List (Int × Int)) (r : List Int) : Prop :=
  3 ≤ r.length ∧ (∀ i ∈ r, 0 ≤ i ∧ i < w.length) ∧ r.Nodup ∧ ∀ k, k < r.length → lesserB w ps (r.getD k 0) (nextOf r k) = true
theorem lesserB_irrefl {w : List Int} {ps : List (Int × Int)} {a : Int} : lesserB w ps a a = false := by
  unfold lesserB; simp
theorem lesserB_asymm {w : List Int} {ps : List (Int × Int)} {a b : Int} (h : lesserB w ps a b = true) : lesserB w ps b a = false := by
  rcases Int.lt_trichotomy a b with hh | hh | hh
  · have h1 : ¬ b < a := by omega
    have h2 : ¬ a = b := by omega
    unfold lesserB at h ⊢
    rw [if_neg h1, if_pos (show b > a from hh)] at h
    rw [if_pos hh, if_neg (show ¬ a > b from h1)]
    simp [h1, h2] at h
    simp [h1, h2, h]
    exact hh
  · subst hh; exact absurd h (by rw [lesserB_irrefl]; simp)
  · have h1 : ¬ a < b := by omega
    have h2 : ¬ b = a := by omega
    unfold lesserB at h ⊢
    rw [if_pos hh, if_neg (show ¬ b > a from h1)] at h
    rw [if_neg h1, if_pos (show a > b from hh)]
    simp [h1, h2, hh] at h
    simp [h1, h2, h]
/-- those with a lesser one -/
def pruned (w : List Int) (ps : List (Int × Int)) (l : List Int) : List Int := l.filter fun b => l.any fun a => lesserB w ps a b
def Stable (w : List Int) (ps : List (Int × Int)) (l : List Int) : Prop := ∀ b ∈ l, ∃ a ∈ l, lesserB w ps a b = true
theorem pruned_stable {w : List Int} {ps : List (Int × Int)} {l : List Int} (h : Stable w ps l) : pruned w ps l = l := by
  unfold pruned
  rw [List.filter_eq_self]
  intro b hb
  obtain ⟨a, ha, e⟩ := h b hb
  exact List.any_eq_true.2 ⟨a, ha, e⟩
theorem pruned_less {w : List Int} {ps : List (Int × Int)} {l : List Int} : Stable w ps l ∨ (pruned w ps l).length < l.length := by
  by_cases h : (pruned w ps l).length < l.length
  · exact Or.inr h
  · left
    have h1 : (pruned w ps l).length = l.length := Nat.le_antisymm (List.length_filter_le ..) (by omega)
    have h2 : pruned w ps l = l := List.Sublist.eq_of_length (List.filter_sublist ..) h1
    intro b hb
    rw [← h2] at hb
    have := (List.mem_filter.1 hb).2
    obtain ⟨a, ha, e⟩ := List.any_eq_true.1 this
    exact ⟨a, ha, e⟩
theorem getD_lt {is : List Int} {k : Nat} (h : k < is.length) : is[k]? = some (is.getD k 0) := by
  rw [List.getD_eq_getElem?_getD,
          List.getElem?_eq_getElem h]; rfl
/-- a way down that comes back to one of its places gives a ring -/
theorem ring_of_way {w : List Int} {ps : List (Int × Int)} {way : List Int} {low : Int} (hr : ∀ i ∈ way, 0 ≤ i ∧ i < w.length) (hn : way.Nodup)
    (hc : ∀ k, k + 1 < way.length → lesserB w ps (way.getD (k + 1) 0) (way.getD k 0) = true) (hm : low ∈ way)
    (hl : lesserB w ps low (way.getD (way.length - 1) 0) = true) : RingOk w ps (way.drop (way.findIdx (· == low))).reverse := by
  have hi : way.findIdx (· == low) < way.length := List.findIdx_lt_length_of_exists ⟨low, hm, by simp⟩
  have hg : way[way.findIdx (· == low)] = low := by
    have := List.findIdx_getElem (p := (· == low)) (xs := way) (w := hi)
    simpa using this
  generalize way.findIdx (· == low) = m at hi hg
  have hgm : way.getD m 0 = low := by rw [List.getD_eq_getElem?_getD, List.getElem?_eq_getElem hi]; exact hg
  have hlen : (way.drop m).reverse.length = way.length - m := by simp
  have hget : ∀ k, k < way.length - m → (way.drop m).reverse.getD k 0 = way.getD (way.length - 1 - k) 0 := by
    intro k hk
    rw [List.getD_eq_getElem?_getD, List.getD_eq_getElem?_getD, List.getElem?_reverse (by simpa using hk), List.getElem?_drop, List.length_drop]
    congr 2
    omega
  have hst : ∀ k, k < way.length - m → lesserB w ps ((way.drop m).reverse.getD k 0) (nextOf (way.drop m).reverse k) = true := by
    intro k hk
    unfold nextOf
    rw [hlen]
    by_cases h1 : k + 1 < way.length - m
    · rw [if_pos h1, hget k hk, hget (k + 1) h1]
      have := hc (way.length - 1 - (k + 1)) (by omega)
      have e : way.length - 1 - (k + 1) + 1 = way.length - 1 - k := by omega
      rw [e] at this
      exact this
    · rw [if_neg h1, hget k hk, hget 0 (by omega)]
      have e : way.length - 1 - k = m := by omega
      rw [e, hgm]
      exact hl
  refine ⟨?_, ?_, ?_, ?_⟩
  · rw [hlen]
    -- one place or two make no ring
    apply Nat.le_of_not_lt
    intro h3
    have h4 : way.length - m = 1 ∨ way.length - m = 2 := by omega
    rcases h4 with h4 | h4
    · have e : way.length - 1 = m := by omega
      rw [e, hgm, lesserB_irrefl] at hl
      exact absurd hl (by simp)
    · have e : way.length - 1 = m + 1 := by omega
      rw [e] at hl
      have := hc m (by omega)
      rw [hgm] at this
      have := lesserB_asymm this
      rw [this] at hl
      exact absurd hl (by simp)
  · intro i hi'
    rw [List.mem_reverse] at hi'
    exact hr i (List.mem_of_mem_drop hi')
  · rw [List.Nodup, List.pairwise_reverse]
    exact List.Pairwise.imp (fun h e => h e.symm) (List.Pairwise.sublist (List.drop_sublist ..) hn)
  · intro k hk
    rw [hlen] at hk
    exact hst k hk
theorem w_own_ring (k : Nat) (S : Sto) (w : List Int) (ps : List (Int × Int)) (hn : w.length ≤ 900) :
    ∃ v, callEv prog (k + 2) q__law_own_ring [.d (.tup (w.map .int)), .d (.lst (ps.map encP))] S = .ok (.d v) S ∧ (v = .non ∨ ∃ r, RingOk w ps r ∧ v = .lst (r.map .int)) := by
  rw [cl__law_own_ring]; unfold bd__law_own_ring
  simp! [List.length_map, rg1V_ok (n := w.length) (by omega), rg1K_nat (n := w.length) (by omega)]
  generalize hL : forGo _ _ _ _ _ _ = o
  have H := forGo_mp D.int hL
    (fun done env S' => S' = S ∧ ∃ (l : List Int) (e3 : Option Vl), (∀ i ∈ l, 0 ≤ i ∧ i < w.length) ∧ (Stable w ps l ∨ l.length + done.length ≤ w.length) ∧ l.length ≤ w.length ∧ env = [some (.d (.tup (w.map .int))), some (.d (.lst (ps.map encP))), some (.d (.lst (l.map .int))), e3, none, none, none, none])
    (fun env S' => S' = S ∧ ∃ (l : List Int) (e3 : Option Vl), (∀ i ∈ l, 0 ≤ i ∧ i < w.length) ∧ Stable w ps l ∧ l.length ≤ w.length ∧ env = [some (.d (.tup (w.map .int))), some (.d (.lst (ps.map encP))), some (.d (.lst (l.map .int))), e3, none, none, none, none]) (fun _ _ => False) (fun _ _ => False)
    ⟨rfl, rangeI 0 w.length, _, fun i hi => by have := mem_rangeI.1 hi; omega, Or.inr (by rw [length_rangeI]; exact Nat.le_refl _), by rw [length_rangeI]; exact Nat.le_refl _, rfl⟩
    (by
      rintro done a rest env S' hs ⟨rfl, l, e3, hr, hst, hll, rfl⟩
      refine ⟨_, rfl, ?_⟩
      have hin : ∀ b ∈ l, compGo (Tg.name 7) (some (eCall 30 [eVar 0, eVar 1, eVar 7, eVar 6])) (eVar 7) (bodyCx prog noRp (callEv prog (k + 1)) noCallA fun x => Rs.bad)
          [some (.d (.tup (w.map .int))), some (.d (.lst (ps.map encP))), some (.d (.lst (l.map .int))), some (.d (.int a)), none, none, some (.d (.int b)), none] (l.map D.int) [] S' = .ok ([] ++ (l.filter fun a => lesserB w ps a b).map D.int) S' := by
        intro b hb
        refine compGo_map D.int (fun a => lesserB w ps a b) D.int l [] ?_ (by show 0 + _ ≤ 16777216; omega)
        intro a ha
        exact ⟨_, rfl, by simp! [show ∀ S, callEv prog (k + 1) 30 _ S = _ from fun S => w_law_lesser k S w ps a b (hr a ha) (hr b hb)], fun _ => by simp!⟩
      simp!
      rw [compGo_map D.int (fun b => l.any fun a => lesserB w ps a b) D.int l []]
      · simp! [List.nil_append]
        have hl2 : (pruned w ps l).length ≤ l.length := List.length_filter_le ..
        refine ⟨by trivial, pruned w ps l, _, fun i hi => hr i (List.mem_filter.1 hi).1, ?_, by omega, rfl⟩
        rcases hst with h | h
        · left; rw [pruned_stable h]; exact h
        · rcases pruned_less (w := w) (ps := ps) (l := l) with h2 | h2
          · left; rw [pruned_stable h2]; exact h2
          · right; rw [List.length_append, List.length_singleton]; omega
      · intro b hb
        refine ⟨_, rfl, ?_, fun _ => by simp!⟩
        simp! [hin b hb, List.nil_append, cmpV_neNil okAt_ints]
        congr 3
        rw [Bool.eq_iff_iff]
        simp [List.isEmpty_iff, List.filter_eq_nil_iff]
      · show 0 + _ ≤ 16777216; omega)
    (by
      rintro env S' ⟨rfl, l, e3, hr, hst, hll, rfl⟩
      refine ⟨rfl, l, e3, hr, ?_, hll, rfl⟩
      rcases hst with h | h
      · exact h
      · rw [length_rangeI] at h
        have : l = [] := List.length_eq_zero_iff.1 (by omega)
        subst this
        intro b hb; exact absurd hb (by simp))
  rcases H with ⟨e, S, rfl, rfl, l, e3, hr, hst, hll, rfl⟩ | ⟨v, S', rfl, hf⟩ | ⟨x, S', rfl, hf⟩
  rotate_left
  · exact hf.elim
  · exact hf.elim
  cases l with
  | nil =>
    simp! [List.map_nil, cmpV_eqNil (xs := []) (by simp), List.isEmpty_nil]
    exact ⟨_, rfl, Or.inl rfl⟩
  | cons b0 l =>
  have hcast : ((w.length : Int) + 1) = ((w.length + 1 : Nat) : Int) := by omega
  simp! [cmpV_eqNil okAt_ints, show (List.map D.int (b0 :: l)).isEmpty = false from rfl, show ∀ S, ixK2 (some (List.map D.int (b0 :: l))) 0 S = .ok (.d (.int b0)) S from fun S => ixK2_0, List.length_map, hcast, rg1K_nat (n := w.length + 1) (by omega)]
  generalize hl' : b0 :: l = left at hr hst hll
  have hb0 : b0 ∈ left := by rw [← hl']; simp
  generalize hL : forGo _ _ _ _ _ _ = o
  have H := forGo_mp D.int hL
    (fun done env S' => ∃ (pre : List Int) (y : Int) (e3 e5 : Option Vl), S' = S ++ [.lst ((pre ++ [y]).map .int)] ∧ (∀ i ∈ pre ++ [y], i ∈ left) ∧ (pre ++ [y]).Nodup ∧ pre.length = done.length ∧
      (∀ k, k + 1 < (pre ++ [y]).length → lesserB w ps ((pre ++ [y]).getD (k + 1) 0) ((pre ++ [y]).getD k 0) = true) ∧
      env = [some (.d (.tup (w.map .int))), some (.d (.lst (ps.map encP))), some (.d (.lst (left.map .int))), e3, some (.box S.length), e5, none, none])
    (fun env S' => ∃ xs, S' = S ++ [.lst xs]) (fun v S' => (∃ xs, S' = S ++ [.lst xs]) ∧ ∃ r, RingOk w ps r ∧ v = .d (.lst (r.map .int))) (fun _ _ => False)
    ⟨[], b0, _, _, rfl, by intro i hi; simp at hi; rw [hi]; exact hb0, by simp, rfl, by intro k hk; simp at hk, rfl⟩
    (by
      rintro done a rest env S' hs ⟨pre, y, e3, e5, rfl, hsub, hnd, hlen, hch, rfl⟩
      refine ⟨_, rfl, ?_⟩
      have hdn : done.length ≤ w.length := by
        have := congrArg List.length hs
        rw [length_rangeI, List.length_append, List.length_cons] at this
        omega
      have hy : y ∈ left := hsub y (by simp)
      obtain ⟨a0, ha0, hl0⟩ := hst y hy
      have hin : compGo (Tg.name 7) (some (eCall 30 [eVar 0, eVar 1, eVar 7, eIx (eVar 4) (eNeg (eC (D.int 1)))])) (eVar 7) (bodyCx prog noRp (callEv prog (k + 1)) noCallA fun x => Rs.bad)
          [some (.d (.tup (w.map .int))), some (.d (.lst (ps.map encP))), some (.d (.lst (left.map .int))), some (.d (.int a)), some (.box S.length), e5, none, none] (left.map D.int) [] (S ++ [.lst ((pre ++ [y]).map .int)]) = .ok ([] ++ (left.filter fun a => lesserB w ps a y).map D.int) (S ++ [.lst ((pre ++ [y]).map .int)]) := by
        refine compGo_map D.int (fun a => lesserB w ps a y) D.int left [] ?_ (by show 0 + _ ≤ 16777216; omega)
        intro a ha
        rw [List.map_append]
        exact ⟨_, rfl, by simp! [List.map_cons, List.map_nil, show ∀ S, callEv prog (k + 1) 30 _ S = _ from fun S => w_law_lesser k S w ps a y (hr a ha) (hr y hy)], fun _ => by simp!⟩
      have hne : ∃ low fr, left.filter (fun a => lesserB w ps a y) = low :: fr := by
        cases hh : left.filter (fun a => lesserB w ps a y) with
        | nil =>
          have := (List.filter_eq_nil_iff.1 hh) a0 ha0
          exact absurd hl0 this
        | cons low fr => exact ⟨low, fr, rfl⟩
      obtain ⟨low, fr, hlow⟩ := hne
      have hlm : low ∈ left.filter fun a => lesserB w ps a y := by rw [hlow]; simp
      have hlm1 := (List.mem_filter.1 hlm).1
      have hlm2 : lesserB w ps low y = true := (List.mem_filter.1 hlm).2
      rw [hlow, List.map_cons, List.nil_append] at hin
      have hlast : (pre ++ [y]).getD ((pre ++ [y]).length - 1) 0 = y := by simp
      simp! [hin]
      by_cases hw : low ∈ pre ++ [y]
      · simp! [hw, decide_true]
        have hfi : (pre ++ [y]).findIdx (· == low) < (pre ++ [y]).length := List.findIdx_lt_length_of_exists ⟨low, hw, by simp⟩
        simp! [mtV_index (v := .box S.length) (S := S ++ [.lst ((pre ++ [y]).map .int)]) (is := pre ++ [y]) (i := low) (by rw [seqOf_box, get_last, seqB_lst]) (by rw [isLst_box, get_last, isLB_lst]) hw,
          cut_drop (xs := (pre ++ [y]).map D.int) (k := (pre ++ [y]).findIdx (· == low)) (by rw [List.length_map]; omega)]
        refine ⟨⟨_, rfl⟩, ((pre ++ [y]).drop ((pre ++ [y]).findIdx (· == low))).reverse, ring_of_way (fun i hi => hr i (hsub i hi)) hnd hch hw (by rw [hlast]; exact hlm2), ?_⟩
        rw [List.map_reverse, List.map_drop]
      · simp! [hw, decide_false, appK_lst (xs := (pre ++ [y]).map .int) (by rw [List.length_map, List.length_append, hlen]; show _ < 16777216; simp; omega)]
        refine ⟨pre ++ [y], low, _, _, by rw [List.map_append (l₁ := pre ++ [y])]; rfl, ?_, ?_, by simp [hlen], ?_, rfl⟩
        · intro i hi
          rcases List.mem_append.1 hi with h | h
          · exact hsub i h
          · rw [List.mem_singleton.1 h]; exact hlm1
        · rw [List.nodup_append]
          refine ⟨hnd, by simp, ?_⟩
          intro a ha b hb e
          rw [List.mem_singleton.1 hb] at e
          exact hw (e ▸ ha)
        · intro j hj
          rw [List.length_append, List.length_singleton] at hj
          by_cases h1 : j + 1 < (pre ++ [y]).length
          · have := hch j h1
            rw [getD_app_l (xs := pre ++ [y]) h1, getD_app_l (xs := pre ++ [y]) (by omega)]
            exact this
          · have e : j = (pre ++ [y]).length - 1 := by omega
            have e2 : j + 1 = (pre ++ [y]).length := by omega
            rw [e2, getD_app_r (xs := pre ++ [y]), getD_app_l (xs := pre ++ [y]) (by omega), e, hlast]
            exact hlm2)
    (by
      rintro env S' ⟨pre, y, e3, e5, rfl, _⟩
      exact ⟨_, rfl⟩)
  rcases H with ⟨e, S', rfl, xs, rfl⟩ | ⟨v, S', rfl, ⟨xs, rfl⟩, r, hrr, rfl⟩ | ⟨x, S', rfl, hf⟩
  · simp!
    exact ⟨_, rfl, Or.inl rfl⟩
  · simp!
    exact ⟨_, rfl, Or.inr ⟨r, hrr, rfl⟩⟩
  · exact hf.elim
end K85
end

section
set_option Elab.async false
set_option linter.all false
set_option maxRecDepth 100000
set_option
        maxHeartbeats 1000000
namespace K85
open PySem (Str)
open Py
local macro_rules
  | `(tactic| simp! [$ls,*]) => `(tactic| simp only [Rs.bind_ok, Rs.bind_exc, Rs.out_ok, Rs.out_exc, Rs.bind_ite, Rs.out_ite, Ou.andT_nx, Ou.andT_rt, Ou.andT_bk, Ou.andT_ct, Ou.andT_exc, Ou.andT_ite,
    leave_ite, leave_nx, leave_d, leave_exc, fz_eq, frzK_d, frzK_new, frzK_ro, frzK_box, frzK_lams, eVar_eq, varK_some, eC_eq, eLam_eq, eTake_eq, takeK_box, takeK2_lst, eBin_eq, binK_eq, binK2_eq, unbox_d, unbox_box, unboxK_lst, binV_add, binV_sub,
    eNeg_eq, negK_int, eNot_eq, notK_b, eAnd_eq, andK_b, eOr_eq, orK_b, eIf_eq, ifK_b, and_mg, or_mg, ite_mg, ite_bl_t, ite_bl_f, ite_bl_n, ite_bl_o, ite_int, eCmp_eq, cmpK_eq, cmpV_lt, cmpV_le, cmpV_gt, cmpV_ge, cmpV_eqI, cmpV_neI, cmpV_eqB, cmpV_neB, eChain_eq, chK0_eq, chK1_eq, chK_b,
    eIsNone_eq, noneK_d, eIsInst_eq, instK_non, instK_bl, instK_int, instK_str, instK_tup, instK_lst, isTys_nil, isTys_cons, kdIs_int_non, kdIs_int_bl, kdIs_int_int, kdIs_int_str, kdIs_int_tup, kdIs_int_lst, kdIs_int_ins, kdIs_bool_non, kdIs_bool_bl, kdIs_bool_int, kdIs_bool_str, kdIs_bool_tup, kdIs_bool_lst, kdIs_bool_ins, kdIs_str_non, kdIs_str_bl, kdIs_str_int, kdIs_str_str, kdIs_str_tup, kdIs_str_lst, kdIs_str_ins, kdIs_list_non, kdIs_list_bl, kdIs_list_int, kdIs_list_str, kdIs_list_tup, kdIs_list_lst, kdIs_list_ins, kdIs_tuple_non, kdIs_tuple_bl, kdIs_tuple_int, kdIs_tuple_str, kdIs_tuple_tup, kdIs_tuple_lst, kdIs_tuple_ins, kdIs_cls_non, kdIs_cls_bl, kdIs_cls_int, kdIs_cls_str, kdIs_cls_tup, kdIs_cls_lst, kdIs_cls_ins, Bool.or_false, Bool.false_or, Bool.or_true, Bool.true_or, Bool.and_true, Bool.true_and, Bool.and_false, Bool.false_and, evAll_nil, evAll_cons, consK_eq, consK2_eq, eTup_eq, tupK_0, tupK_1, tupK_2, tupK_3, tupK_4, eLst_eq, lstK_0, lstK_1, lstK_2, lstK_3, lstK_4, lstK_5, lstK_6, lstK_7, lstK_8, lstK_9, eLams_eq,
    eIx_eq, ixK_eq, eKey_eq, evPart_none, evPart_some, partK_int, eSlice_eq, slK_eq, slK1_eq, slK2_eq, cutV_lst, cutV_tup, eRev_eq, revK_eq, revV_lst, revV_tup, eFld_eq, eCall_eq, callK_ok, bodyCx_call, eMake_eq, eBi_eq, eRng1_eq, eRng2_eq, rngK2_eq,
    biV_int1, biV_min2, biV_max2, seqOf_lst, seqOf_tup, seqOf_ro, seqOf_new, isLst_lst, isLst_new, mkSeq_t, mkSeq_f, eMt_eq, src_seq, srcK_lst, srcK_tup, srcK_ro, src_r1, src_r2, srcK2_eq, src_en, enK_lst, enK_tup, tgV_name, tgV_names2,
    eComp_eq, cpK_eq, newK_eq, eComp2_eq, cp2K_eq, wipeE_nil, wipeE_cons, sNext_eq, sPass_eq, sBreak_eq, sCont_eq, sSeq_eq, sExpr_eq, exprK_eq, sRet_eq, sRetN_eq, sIf_eq, sifK_b, sSet_eq, setK_eq, sBox_eq, boxK_new, sUnpack_eq, unpK_2,
    parV_t, parV_f, pboxK_new, sPar_eq, parK_eq, parK2_eq, sPutK_eq, eRepr_eq, bodyCx_rp, lamCx_call, noBox_nil, noBox_cons, hideB_none, hideB_d, hideB_ro, hideB_box, sSetIx2_eq, six1_eq, six2_eq, six3_eq, six4_eq, six5_eq, six6_eq, six7_eq, setIx_E, eDict_eq, leave_box, sFld_eq, sfldK1_eq, sfldK2_eq, eEqOwn_eq, eqK1_eq, take_last2, putK1_eq, sRaise_eq, raiseK_1, sFor_eq, forK_eq, biV_lenE, lenK_s, biV_listE, listK_s, biV_tupleE, tupleK_s, biV_allM, biV_anyM, biV_sumM, seqOf_box, seqB_lst, isLst_box, isLB_lst, ixV_E, ixK2_0, ixK2_1, ixK2_2, ixK2_neg1, mtV_appE, mtV_popE, appK_nil, mtK_ok, keyK_box, forGo_nil, forGo_cons, tgK_s, Ou.loopT_nx, Ou.loopT_ct, Ou.loopT_bk, Ou.loopT_rt, Ou.loopT_exc, Ou.loopT_ite, stp_ite, stp_nx, stp_rt, stp_exc, cmpV_inE, cmpV_ninE, inK_I, ninK_I, inK_P, ninK_P, encP_eq, cmpV_eqL, cmpV_neL, cmpV_eqT, cmpV_neT, argOk, List.all_cons, List.all_nil, Bool.and_true, Bool.and_self,
    List.getElem?_cons_zero, List.getElem?_cons_succ, List.set_cons_zero, List.set_cons_succ, List.take_length, get_last, set_last, take_last, if_true, if_false, ite_self, Bool.false_eq_true, Bool.true_eq_false, reduceIte, Bool.not_true, Bool.not_false, beq_self_eq_true, Nat.reduceBEq, $ls,*])
local macro_rules
  | `(tactic| simp!) => `(tactic| simp! [Rs.bind_ok])

def GoodV (y : D) : Prop := knd y ∧ (∀ z ∈ itemsOf y, knd z) ∧ (itemsOf y).length ≤ 60
theorem good_lst {xs : List D} (h : ∀ z ∈ xs, knd z) (hl : xs.length ≤ 60) : GoodV (.lst xs) := ⟨rfl, h, hl⟩
theorem good_ints {xs : List Int} (hl : xs.length ≤ 60) : GoodV (.lst (xs.map .int)) := ⟨rfl, knd_ints, by rw [itemsOf, List.length_map]; exact hl⟩
theorem w_bent_order (k c : Nat) (b : Bx) (T : Sto) (x : List Int) (hp : PenB c b) (hc : c + 3 ≤ 1000000000) (h1 : 1 ≤ x.length) (h8 : x.length ≤ 8) :
    ∃ (y : D) (b' : Bx), callEv prog (k + 3) q__law_bent_order [.box 0, .d (.tup (x.map .int))] (b :: T) = .ok (.d y) (b' :: T) ∧ GoodV y ∧ PenB (c + 3) b' := by
  obtain ⟨r, b1, e1, hr0, hr1, hp1⟩ := w_draw (k + 1) c b (T ++ [.lst (x.map .int)]) 4 hp (by omega) (by omega) (by omega)
  rw [cl__law_bent_order]; unfold bd__law_bent_order
  have hcl : ∀ l h, (cut (x.map D.int) l h).length ≤ 8 := fun l h => by have := len_cut (xs := x.map D.int) (l := l) (h := h); rw [List.length_map] at this; omega
  have hck : ∀ l h, ∀ z ∈ cut (x.map D.int) l h, knd z := fun l h z hz => knd_ints z (mem_cut hz)
  have hrep : ∀ S l h, binV .mul (.d (.lst (cut (x.map D.int) l h))) (.d (.int (x.length : Int))) S = .ok (.new (List.replicate x.length (cut (x.map D.int) l h)).flatten) S := fun S l h => binV_rep (by
    have := Nat.mul_le_mul (hcl l h) h8
    omega) (by omega)
  have hA : ∀ S, binV .add (.d (.lst (x.map D.int))) (.d (.lst [.int x.length])) S = .ok (.new (x.map D.int ++ [.int x.length])) S := fun S => binV_cat (by rw [List.length_map]; show _ + 1 ≤ 16777216; omega)
  have hB : ∀ S l h, binV .add (.d (.lst [.bl true])) (.d (.lst (cut (x.map D.int) l h))) S = .ok (.new ([.bl true] ++ cut (x.map D.int) l h)) S := fun S l h => binV_cat (by have := hcl l h; show 1 + _ ≤ 16777216; omega)
  have hC : ∀ S l h, binV .add (.d (.lst (cut (x.map D.int) l h))) (.d (.lst [.str "0"])) S = .ok (.new (cut (x.map D.int) l h ++ [.str "0"])) S := fun S l h => binV_cat (by have := hcl l h; show _ + 1 ≤ 16777216; omega)
  by_cases g : r = 0
  · simp! [b1_a, len1, len3, show callEv prog (k + 2) 20 _ (b :: (T ++ [.lst (x.map .int)])) = _ from e1, show (r == 0) = true from by rw [g]; rfl, b1_g, List.length_map, hA, hB, hC, hrep]
    generalize hsm : [D.non, .int 5, _, _, _, _, _] = some
    have hgood : ∀ y ∈ some, GoodV y := by
      intro y hy
      rw [← hsm] at hy
      simp only [List.mem_cons, List.not_mem_nil, or_false] at hy
      rcases hy with rfl | rfl | rfl | rfl | rfl | rfl | rfl
      · exact ⟨rfl, by simp [itemsOf], by simp [itemsOf]⟩
      · exact ⟨rfl, by simp [itemsOf], by simp [itemsOf]⟩
      · exact good_lst (hck _ _) (Nat.le_trans (hcl _ _) (by omega))
      · refine good_lst ?_ (by rw [List.length_append, List.length_map, List.length_singleton]; omega)
        intro z hz
        rcases List.mem_append.1 hz with h | h
        · exact knd_ints z h
        · rw [List.mem_singleton.1 h]; rfl
      · refine good_lst ?_ (by rw [List.length_append, List.length_singleton]; have := hcl (Option.some 1) none; omega)
        intro z hz
        rcases List.mem_append.1 hz with h | h
        · rw [List.mem_singleton.1 h]; rfl
        · exact hck _ _ z h
      · refine good_lst ?_ (by rw [List.length_append, List.length_singleton]; have := hcl none (Option.some (-1)); omega)
        intro z hz
        rcases List.mem_append.1 hz with h | h
        · exact hck _ _ z h
        · rw [List.mem_singleton.1 h]; rfl
      · refine good_lst ?_ ?_
        · intro z hz
          obtain ⟨u, h1, h2⟩ := List.mem_flatten.1 hz
          rw [(List.mem_replicate.1 h1).2] at h2
          exact hck _ _ z h2
        · rw [List.length_flatten, List.map_replicate, List.sum_replicate_nat]
          have h1 : (cut (x.map D.int) none (Option.some 1)).length ≤ 1 := by unfold cut; rw [List.length_take]; simp [slIx]; omega
          have := Nat.mul_le_mul h8 h1
          omega
    have hlen : some.length = 7 := by rw [← hsm]; rfl
    obtain ⟨y, b2, e2, hy, hp2⟩ := w_pick k (c + 1) b1 (T ++ [.lst (x.map .int)]) some hp1 (by omega) (by intro h; rw [h] at hlen; simp at hlen) (by omega)
    simp! [show callEv prog (k + 2) 21 _ _ = _ from e2, b1_t, len1]
    exact ⟨y, b2, rfl, hgood y hy, hp2.mono (by omega)⟩
  · have g' : (r == 0) = false := by rw [beq_eq_false_iff_ne]; exact g
    obtain ⟨i, b2, e2, hi0, hi1, hp2⟩ := w_draw (k + 1) (c + 1) b1 (T ++ [.lst (x.map .int)]) x.length hp1 (by omega) (by omega) (by omega)
    obtain ⟨j, b3, e3, hj0, hj1, hp3⟩ := w_draw (k + 1) (c + 1 + 1) b2 (T ++ [.lst (x.map .int)]) x.length hp2 (by omega) (by omega) (by omega)
    have hset : ∀ (l : List Int) n v, (l.map D.int).set n (.int v) = (l.set n v).map .int := fun l n v => by rw [List.map_set]
    have hlen1 : ((x.set i.toNat (wAt x j)).map D.int).length = x.length := by simp
    simp! [b1_a, len1, len3, show callEv prog (k + 2) 20 _ (b :: (T ++ [.lst (x.map .int)])) = _ from e1, g', b1_g, b1_s, List.length_map, show callEv prog (k + 2) 20 _ (b1 :: (T ++ [.lst (x.map .int)])) = _ from e2, show callEv prog (k + 2) 20 _ (b2 :: (T ++ [.lst (x.map .int)])) = _ from e3,
      ixK2_w (w := x) hi0 hi1, ixK2_w (w := x) hj0 hj1, setIxK_ok (xs := x.map D.int) (k := i) hi0 (by rw [List.length_map]; exact hi1), hset, setIxK_ok (xs := (x.set i.toNat (wAt x j)).map D.int) (k := j) hj0 (by rw [hlen1]; exact hj1)]
    by_cases g2 : r < 3
    · simp! [g2, decide_true, b1_g, b1_s, b1_t]
      exact ⟨_, _, rfl, good_ints (by simp; omega), hp3.mono (by omega)⟩
    · simp! [g2, decide_false, b1_g, b1_s, b1_t]
      refine ⟨_, _, rfl, ?_, hp3.mono (by omega)⟩
      rw [← List.map_reverse]
      exact good_ints (by simp; omega)
end K85
end

section
set_option Elab.async false
set_option linter.all false
set_option maxRecDepth 100000
set_option
        maxHeartbeats 1000000
namespace K85
open PySem (Str)
open Py
local macro_rules
  | `(tactic| simp! [$ls,*]) => `(tactic| simp only [Rs.bind_ok, Rs.bind_exc, Rs.out_ok, Rs.out_exc, Rs.bind_ite, Rs.out_ite, Ou.andT_nx, Ou.andT_rt, Ou.andT_bk, Ou.andT_ct, Ou.andT_exc, Ou.andT_ite,
    leave_ite, leave_nx, leave_d, leave_exc, fz_eq, frzK_d, frzK_new, frzK_ro, frzK_box, frzK_lams, eVar_eq, varK_some, eC_eq, eLam_eq, eTake_eq, takeK_box, takeK2_lst, eBin_eq, binK_eq, binK2_eq, unbox_d, unbox_box, unboxK_lst, binV_add, binV_sub,
    eNeg_eq, negK_int, eNot_eq, notK_b, eAnd_eq, andK_b, eOr_eq, orK_b, eIf_eq, ifK_b, and_mg, or_mg, ite_mg, ite_bl_t, ite_bl_f, ite_bl_n, ite_bl_o, ite_int, eCmp_eq, cmpK_eq, cmpV_lt, cmpV_le, cmpV_gt, cmpV_ge, cmpV_eqI, cmpV_neI, cmpV_eqB, cmpV_neB, eChain_eq, chK0_eq, chK1_eq, chK_b,
    eIsNone_eq, noneK_d, eIsInst_eq, instK_non, instK_bl, instK_int, instK_str, instK_tup, instK_lst, isTys_nil, isTys_cons, kdIs_int_non, kdIs_int_bl, kdIs_int_int, kdIs_int_str, kdIs_int_tup, kdIs_int_lst, kdIs_int_ins, kdIs_bool_non, kdIs_bool_bl, kdIs_bool_int, kdIs_bool_str, kdIs_bool_tup, kdIs_bool_lst, kdIs_bool_ins, kdIs_str_non, kdIs_str_bl, kdIs_str_int, kdIs_str_str, kdIs_str_tup, kdIs_str_lst, kdIs_str_ins, kdIs_list_non, kdIs_list_bl, kdIs_list_int, kdIs_list_str, kdIs_list_tup, kdIs_list_lst, kdIs_list_ins, kdIs_tuple_non, kdIs_tuple_bl, kdIs_tuple_int, kdIs_tuple_str, kdIs_tuple_tup, kdIs_tuple_lst, kdIs_tuple_ins, kdIs_cls_non, kdIs_cls_bl, kdIs_cls_int, kdIs_cls_str, kdIs_cls_tup, kdIs_cls_lst, kdIs_cls_ins, Bool.or_false, Bool.false_or, Bool.or_true, Bool.true_or, Bool.and_true, Bool.true_and, Bool.and_false, Bool.false_and, evAll_nil, evAll_cons, consK_eq, consK2_eq, eTup_eq, tupK_0, tupK_1, tupK_2, tupK_3, tupK_4, eLst_eq, lstK_0, lstK_1, lstK_2, lstK_3, lstK_4, lstK_5, lstK_6, lstK_7, lstK_8, lstK_9, eLams_eq,
    eIx_eq, ixK_eq, eKey_eq, evPart_none, evPart_some, partK_int, eSlice_eq, slK_eq, slK1_eq, slK2_eq, cutV_lst, cutV_tup, eRev_eq, revK_eq, revV_lst, revV_tup, eFld_eq, eCall_eq, callK_ok, bodyCx_call, eMake_eq, eBi_eq, eRng1_eq, eRng2_eq, rngK2_eq,
    biV_int1, biV_min2, biV_max2, seqOf_lst, seqOf_tup, seqOf_ro, seqOf_new, isLst_lst, isLst_new, mkSeq_t, mkSeq_f, eMt_eq, src_seq, srcK_lst, srcK_tup, srcK_ro, src_r1, src_r2, srcK2_eq, src_en, enK_lst, enK_tup, tgV_name, tgV_names2,
    eComp_eq, cpK_eq, newK_eq, eComp2_eq, cp2K_eq, wipeE_nil, wipeE_cons, sNext_eq, sPass_eq, sBreak_eq, sCont_eq, sSeq_eq, sExpr_eq, exprK_eq, sRet_eq, sRetN_eq, sIf_eq, sifK_b, sSet_eq, setK_eq, sBox_eq, boxK_new, sUnpack_eq, unpK_2,
    parV_t, parV_f, pboxK_new, sPar_eq, parK_eq, parK2_eq, sPutK_eq, eRepr_eq, bodyCx_rp, lamCx_call, noBox_nil, noBox_cons, hideB_none, hideB_d, hideB_ro, hideB_box, sSetIx2_eq, six1_eq, six2_eq, six3_eq, six4_eq, six5_eq, six6_eq, six7_eq, setIx_E, eDict_eq, leave_box, sFld_eq, sfldK1_eq, sfldK2_eq, eEqOwn_eq, eqK1_eq, take_last2, putK1_eq, sRaise_eq, raiseK_1, sFor_eq, forK_eq, biV_lenE, lenK_s, biV_listE, listK_s, biV_tupleE, tupleK_s, biV_allM, biV_anyM, biV_sumM, seqOf_box, seqB_lst, isLst_box, isLB_lst, ixV_E, ixK2_0, ixK2_1, ixK2_2, ixK2_neg1, mtV_appE, mtV_popE, appK_nil, mtK_ok, keyK_box, forGo_nil, forGo_cons, tgK_s, Ou.loopT_nx, Ou.loopT_ct, Ou.loopT_bk, Ou.loopT_rt, Ou.loopT_exc, Ou.loopT_ite, stp_ite, stp_nx, stp_rt, stp_exc, cmpV_inE, cmpV_ninE, inK_I, ninK_I, inK_P, ninK_P, encP_eq, cmpV_eqL, cmpV_neL, cmpV_eqT, cmpV_neT, argOk, List.all_cons, List.all_nil, Bool.and_true, Bool.and_self,
    List.getElem?_cons_zero, List.getElem?_cons_succ, List.set_cons_zero, List.set_cons_succ, List.take_length, get_last, set_last, take_last, if_true, if_false, ite_self, Bool.false_eq_true, Bool.true_eq_false, reduceIte, Bool.not_true, Bool.not_false, beq_self_eq_true, Nat.reduceBEq, $ls,*])
local macro_rules
  | `(tactic| simp!) => `(tactic| simp! [Rs.bind_ok])

theorem w_bent_places (k c : Nat) (b : Bx) (T : Sto) (n : Nat) (x : List Int) (hp : PenB c b) (hc : c + 20 ≤ 1000000000) (hn : 1 ≤ n ∧ n ≤ 8) (h1 : 1 ≤ x.length) (h8 : x.length ≤ 8) :
    ∃ (y : D) (b' : Bx), callEv prog (k + 3) q__law_bent_places [.box 0, .d (.int n), .d (.lst (x.map .int))] (b :: T) = .ok (.d y) (b' :: T) ∧ GoodV y ∧ PenB (c + 20) b' := by
  obtain ⟨r, b1, e1, hr0, hr1, hp1⟩ := w_draw (k + 1) c b T 6 hp (by omega) (by omega) (by omega)
  obtain ⟨a, b2, e2, ha0, ha1, hp2⟩ := w_draw (k + 1) (c + 1) b1 T x.length hp1 (by omega) (by omega) (by omega)
  rw [cl__law_bent_places]; unfold bd__law_bent_places
  have hcl : ∀ l h, (cut (x.map D.int) l h).length ≤ 8 := fun l h => by have := len_cut (xs := x.map D.int) (l := l) (h := h); rw [List.length_map] at this; omega
  have hck : ∀ l h, ∀ z ∈ cut (x.map D.int) l h, knd z := fun l h z hz => knd_ints z (mem_cut hz)
  have hA : ∀ S (y : D), binV .add (.d (.lst (x.map D.int))) (.d (.lst [y])) S = .ok (.new (x.map D.int ++ [y])) S := fun S y => binV_cat (by rw [List.length_map]; show _ + 1 ≤ 16777216; omega)
  have hB : ∀ S l h (y : D), binV .add (.d (.lst [y])) (.d (.lst (cut (x.map D.int) l h))) S = .ok (.new ([y] ++ cut (x.map D.int) l h)) S := fun S l h y => binV_cat (by have := hcl l h; show 1 + _ ≤ 16777216; omega)
  have hB2 : ∀ S (y : D), binV .add (.d (.lst [y])) (.d (.lst (x.map D.int))) S = .ok (.new ([y] ++ x.map D.int)) S := fun S y => binV_cat (by rw [List.length_map]; show 1 + _ ≤ 16777216; omega)
  have hC : ∀ S l h l' h', binV .add (.d (.lst (cut (x.map D.int) l h))) (.d (.lst (cut (x.map D.int) l' h'))) S = .ok (.new (cut (x.map D.int) l h ++ cut (x.map D.int) l' h')) S := fun S l h l' h' => binV_cat (by have := hcl l h; have := hcl l' h'; show _ ≤ 16777216; omega)
  have hD : ∀ S l h (y : D), binV .add (.d (.lst (cut (x.map D.int) l h))) (.d (.lst [y])) S = .ok (.new (cut (x.map D.int) l h ++ [y])) S := fun S l h y => binV_cat (by have := hcl l h; show _ + 1 ≤ 16777216; omega)
  have hE : ∀ S l h l' h' (y : D), binV .add (.d (.lst (cut (x.map D.int) l h ++ [y]))) (.d (.lst (cut (x.map D.int) l' h'))) S = .ok (.new (cut (x.map D.int) l h ++ [y] ++ cut (x.map D.int) l' h')) S := fun S l h l' h' y => binV_cat (by rw [List.length_append]; have := hcl l h; have := hcl l' h'; show _ + 1 + _ ≤ 16777216; omega)
  have hx0 : ∀ S, ixK2 (some (x.map D.int)) 0 S = .ok (.d (.int (wAt x 0))) S := fun S => ixK2_w (w := x) (by omega) (by omega)
  have gA : ∀ y, knd y → GoodV (.lst (x.map D.int ++ [y])) := fun y hy => good_lst (fun z hz => by
    rcases List.mem_append.1 hz with h | h
    · exact knd_ints z h
    · rw [List.mem_singleton.1 h]; exact hy) (by rw [List.length_append, List.length_map, List.length_singleton]; omega)
  have gB : ∀ y l h, knd y → GoodV (.lst ([y] ++ cut (x.map D.int) l h)) := fun y l h hy => good_lst (fun z hz => by
    rcases List.mem_append.1 hz with h | h
    · rw [List.mem_singleton.1 h]; exact hy
    · exact hck _ _ z h) (by rw [List.length_append, List.length_singleton]; have := hcl l h; omega)
  have gC : ∀ l h l' h', GoodV (.lst (cut (x.map D.int) l h ++ cut (x.map D.int) l' h')) := fun l h l' h' => good_lst (fun z hz => by
    rcases List.mem_append.1 hz with h | h
    · exact hck _ _ z h
    · exact hck _ _ z h) (by rw [List.length_append]; have := hcl l h; have := hcl l' h'; omega)
  have gE : ∀ l h l' h' y, knd y → GoodV (.lst (cut (x.map D.int) l h ++ [y] ++ cut (x.map D.int) l' h')) := fun l h l' h' y hy => good_lst (fun z hz => by
    rcases List.mem_append.1 hz with h | h
    · rcases List.mem_append.1 h with h | h
      · exact hck _ _ z h
      · rw [List.mem_singleton.1 h]; exact hy
    · exact hck _ _ z h) (by rw [List.length_append, List.length_append, List.length_singleton]; have := hcl l h; have := hcl l' h'; omega)
  have e1' := show callEv prog (k + 2) 20 [.box 0, .d (.int 6)] (b :: T) = _ from e1
  have e2' := show callEv prog (k + 2) 20 [.box 0, .d (.int x.length)] (b1 :: T) = _ from e2
  by_cases g0 : r = 0
  · subst g0
    simp! [e1', e2', len1, b0_t, List.length_map, hA, hB, hB2, hC, hx0]
    generalize hsm : [D.non, .int 4, _, _, _, _, _, _, _] = some
    have hgood : ∀ y ∈ some, GoodV y := by
      intro y hy
      rw [← hsm] at hy
      simp only [List.mem_cons, List.not_mem_nil, or_false] at hy
      rcases hy with rfl | rfl | rfl | rfl | rfl | rfl | rfl | rfl | rfl
      · exact ⟨rfl, by simp [itemsOf], by simp [itemsOf]⟩
      · exact ⟨rfl, by simp [itemsOf], by simp [itemsOf]⟩
      · exact good_lst (hck _ _) (Nat.le_trans (hcl _ _) (by omega))
      · exact gA _ rfl
      · exact gA _ rfl
      · refine good_lst ?_ (by rw [List.length_append, List.length_map, List.length_singleton]; omega)
        intro z hz
        rcases List.mem_append.1 hz with h | h
        · rw [List.mem_singleton.1 h]; rfl
        · exact knd_ints z h
      · rw [← List.map_reverse]
        exact good_ints (by simp; omega)
      · exact ⟨rfl, by simp [itemsOf], by simp [itemsOf]⟩
      · exact gB _ _ _ rfl
    have hlen : some.length = 9 := by rw [← hsm]; rfl
    obtain ⟨y, b3, e3, hy, hp3⟩ := w_pick k (c + 1 + 1) b2 T some hp2 (by omega) (by intro h; rw [h] at hlen; simp at hlen) (by omega)
    simp! [show callEv prog (k + 2) 21 _ _ = _ from e3, len1, b0_t]
    exact ⟨y, b3, rfl, hgood y hy, hp3.mono (by omega)⟩
  have g0' : (r == 0) = false := by rw [beq_eq_false_iff_ne]; exact g0
  by_cases g1 : r = 1
  · subst g1
    simp! [e1', e2', len1, b0_t, List.length_map, g0', hC]
    exact ⟨_, _, rfl, gC _ _ _ _, hp2.mono (by omega)⟩
  have g1' : (r == 1) = false := by rw [beq_eq_false_iff_ne]; exact g1
  by_cases g2 : r = 2
  · subst g2
    obtain ⟨u, b3, e3, hu0, hu1, hp3⟩ := w_draw (k + 1) (c + 1 + 1) b2 T n hp2 (by omega) (by omega) (by omega)
    simp! [e1', e2', show callEv prog (k + 2) 20 _ (b2 :: T) = _ from e3, len1, b0_t, List.length_map, g0', g1', hD, hE]
    exact ⟨_, _, rfl, gE _ _ _ _ _ rfl, hp3.mono (by omega)⟩
  have g2' : (r == 2) = false := by rw [beq_eq_false_iff_ne]; exact g2
  by_cases g3 : r = 3
  · subst g3
    simp! [e1', e2', len1, b0_t, List.length_map, g0', g1', g2', hC]
    exact ⟨_, _, rfl, gC _ _ _ _, hp2.mono (by omega)⟩
  have g3' : (r == 3) = false := by rw [beq_eq_false_iff_ne]; exact g3
  by_cases g4 : r = 4
  · subst g4
    obtain ⟨ys, b3, e3, hpm, hp3⟩ := w_shuffled k (c + 1 + 1) b2 T (x.map .int) hp2 (by rw [List.length_map]; omega) (by rw [List.length_map]; omega)
    simp! [e1', e2', show callEv prog (k + 2) 22 _ (b2 :: T) = _ from e3, len1, b0_t, List.length_map, g0', g1', g2', g3']
    refine ⟨_, _, rfl, good_lst (fun z hz => knd_ints z (hpm.mem_iff.1 hz)) (by rw [hpm.length_eq, List.length_map]; omega), hp3.mono (by rw [List.length_map]; omega)⟩
  have g4' : (r == 4) = false := by rw [beq_eq_false_iff_ne]; exact g4
  obtain ⟨ys, b3, e3, hpm, hp3⟩ := w_shuffled k (c + 1 + 1) b2 T ((rangeI 0 n).map .int) hp2 (by rw [List.length_map, length_rangeI]; omega) (by rw [List.length_map, length_rangeI]; omega)
  rw [List.length_map, length_rangeI] at hp3
  obtain ⟨u, b4, e4, hu0, hu1, hp4⟩ := w_draw (k + 1) _ b3 T 2 hp3 (by omega) (by omega) (by omega)
  simp! [e1', e2', rg1V_ok (n := n) (by omega), show callEv prog (k + 2) 22 _ (b2 :: T) = _ from e3, show callEv prog (k + 2) 20 _ (b3 :: T) = _ from e4, len1, b0_t, List.length_map, g0', g1', g2', g3', g4']
  refine ⟨_, _, rfl, good_lst (fun z hz => knd_ints z (hpm.mem_iff.1 (mem_cut hz))) ?_, hp4.mono (by omega)⟩
  have := len_cut (xs := ys) (l := none) (h := some (3 + u))
  rw [hpm.length_eq, List.length_map, length_rangeI] at this
  omega
/-- a call that raises, and what is told of it -/
theorem w_complaint (rp : D → Option Str) (act : Sto → Rs Vl) (S : Sto) (c : Nat) (f t : Str) (d : D) (y : Str) (ha : act S = .exc ⟨c, [(f, d)]⟩ S) (hy : rp d = some y)
    (hc : (c = 2 ∧ f = "value" ∧ t = "order") ∨ (c = 4 ∧ f = "item" ∧ t = "pair") ∨ (c = 1 ∧ f = "value" ∧ t = "row")) :
    callAct prog rp 31 act S = .ok (.d (.tup [.str t, .str y])) S := by
  show leave S.length (bd__law_complaint (bodyCx prog rp noCall noCallA act) [some (.lam 0), none] S) = _
  have h0 : fz (eAct 0) (bodyCx prog rp noCall noCallA act) [some (.lam 0), none] S = .exc ⟨c, [(f, d)]⟩ S := by
    show (match act S with | .ok (.d x) S1 => Rs.ok (Vl.d x) S1 | .exc x S1 => .exc x S1 | _ => .bad).bind _ = _
    rw [ha]; rfl
  unfold bd__law_complaint sTryAct
  rw [h0]
  dsimp only
  rcases hc with ⟨rfl, rfl, rfl⟩ | ⟨rfl, rfl, rfl⟩ | ⟨rfl, rfl, rfl⟩
  all_goals
    rw [if_pos (by decide)]
    simp [clauseOf, List.lookup, show (bodyCx prog rp noCall noCallA act).rp d = some y from hy, leave_d]
end K85
end

section
set_option Elab.async false
set_option linter.all false
set_option maxRecDepth 100000
set_option
        maxHeartbeats 1000000
namespace K85
open PySem (Str)
open Py
local macro_rules
  | `(tactic| simp! [$ls,*]) => `(tactic| simp only [Rs.bind_ok, Rs.bind_exc, Rs.out_ok, Rs.out_exc, Rs.bind_ite, Rs.out_ite, Ou.andT_nx, Ou.andT_rt, Ou.andT_bk, Ou.andT_ct, Ou.andT_exc, Ou.andT_ite,
    leave_ite, leave_nx, leave_d, leave_exc, fz_eq, frzK_d, frzK_new, frzK_ro, frzK_box, frzK_lams, eVar_eq, varK_some, eC_eq, eLam_eq, eTake_eq, takeK_box, takeK2_lst, eBin_eq, binK_eq, binK2_eq, unbox_d, unbox_box, unboxK_lst, binV_add, binV_sub,
    eNeg_eq, negK_int, eNot_eq, notK_b, eAnd_eq, andK_b, eOr_eq, orK_b, eIf_eq, ifK_b, and_mg, or_mg, ite_mg, ite_bl_t, ite_bl_f, ite_bl_n, ite_bl_o, ite_int, eCmp_eq, cmpK_eq, cmpV_lt, cmpV_le, cmpV_gt, cmpV_ge, cmpV_eqI, cmpV_neI, cmpV_eqB, cmpV_neB, eChain_eq, chK0_eq, chK1_eq, chK_b,
    eIsNone_eq, noneK_d, eIsInst_eq, instK_non, instK_bl, instK_int, instK_str, instK_tup, instK_lst, isTys_nil, isTys_cons, kdIs_int_non, kdIs_int_bl, kdIs_int_int, kdIs_int_str, kdIs_int_tup, kdIs_int_lst, kdIs_int_ins, kdIs_bool_non, kdIs_bool_bl, kdIs_bool_int, kdIs_bool_str, kdIs_bool_tup, kdIs_bool_lst, kdIs_bool_ins, kdIs_str_non, kdIs_str_bl, kdIs_str_int, kdIs_str_str, kdIs_str_tup, kdIs_str_lst, kdIs_str_ins, kdIs_list_non, kdIs_list_bl, kdIs_list_int, kdIs_list_str, kdIs_list_tup, kdIs_list_lst, kdIs_list_ins, kdIs_tuple_non, kdIs_tuple_bl, kdIs_tuple_int, kdIs_tuple_str, kdIs_tuple_tup, kdIs_tuple_lst, kdIs_tuple_ins, kdIs_cls_non, kdIs_cls_bl, kdIs_cls_int, kdIs_cls_str, kdIs_cls_tup, kdIs_cls_lst, kdIs_cls_ins, Bool.or_false, Bool.false_or, Bool.or_true, Bool.true_or, Bool.and_true, Bool.true_and, Bool.and_false, Bool.false_and, evAll_nil, evAll_cons, consK_eq, consK2_eq, eTup_eq, tupK_0, tupK_1, tupK_2, tupK_3, tupK_4, eLst_eq, lstK_0, lstK_1, lstK_2, lstK_3, lstK_4, lstK_5, lstK_6, lstK_7, lstK_8, lstK_9, eLams_eq,
    eIx_eq, ixK_eq, eKey_eq, evPart_none, evPart_some, partK_int, eSlice_eq, slK_eq, slK1_eq, slK2_eq, cutV_lst, cutV_tup, eRev_eq, revK_eq, revV_lst, revV_tup, eFld_eq, eCall_eq, callK_ok, bodyCx_call, eMake_eq, eBi_eq, eRng1_eq, eRng2_eq, rngK2_eq,
    biV_int1, biV_min2, biV_max2, seqOf_lst, seqOf_tup, seqOf_ro, seqOf_new, isLst_lst, isLst_new, mkSeq_t, mkSeq_f, eMt_eq, src_seq, srcK_lst, srcK_tup, srcK_ro, src_r1, src_r2, srcK2_eq, src_en, enK_lst, enK_tup, tgV_name, tgV_names2,
    eComp_eq, cpK_eq, newK_eq, eComp2_eq, cp2K_eq, wipeE_nil, wipeE_cons, sNext_eq, sPass_eq, sBreak_eq, sCont_eq, sSeq_eq, sExpr_eq, exprK_eq, sRet_eq, sRetN_eq, sIf_eq, sifK_b, sSet_eq, setK_eq, sBox_eq, boxK_new, sUnpack_eq, unpK_2,
    parV_t, parV_f, pboxK_new, sPar_eq, parK_eq, parK2_eq, sPutK_eq, eRepr_eq, bodyCx_rp, lamCx_call, noBox_nil, noBox_cons, hideB_none, hideB_d, hideB_ro, hideB_box, sSetIx2_eq, six1_eq, six2_eq, six3_eq, six4_eq, six5_eq, six6_eq, six7_eq, setIx_E, eDict_eq, leave_box, sFld_eq, sfldK1_eq, sfldK2_eq, eEqOwn_eq, eqK1_eq, take_last2, putK1_eq, sRaise_eq, raiseK_1, sFor_eq, forK_eq, biV_lenE, lenK_s, biV_listE, listK_s, biV_tupleE, tupleK_s, biV_allM, biV_anyM, biV_sumM, seqOf_box, seqB_lst, isLst_box, isLB_lst, ixV_E, ixK2_0, ixK2_1, ixK2_2, ixK2_neg1, mtV_appE, mtV_popE, appK_nil, mtK_ok, keyK_box, forGo_nil, forGo_cons, tgK_s, Ou.loopT_nx, Ou.loopT_ct, Ou.loopT_bk, Ou.loopT_rt, Ou.loopT_exc, Ou.loopT_ite, stp_ite, stp_nx, stp_rt, stp_exc, cmpV_inE, cmpV_ninE, inK_I, ninK_I, inK_P, ninK_P, encP_eq, cmpV_eqL, cmpV_neL, cmpV_eqT, cmpV_neT, argOk, List.all_cons, List.all_nil, Bool.and_true, Bool.and_self,
    List.getElem?_cons_zero, List.getElem?_cons_succ, List.set_cons_zero, List.set_cons_succ, List.take_length, get_last, set_last, take_last, if_true, if_false, ite_self, Bool.false_eq_true, Bool.true_eq_false, reduceIte, Bool.not_true, Bool.not_false, beq_self_eq_true, Nat.reduceBEq, $ls,*])
local macro_rules
  | `(tactic| simp!) => `(tactic| simp! [Rs.bind_ok])

theorem firstBad_none {ms : List (Int × Int)} : ∀ {ps seen : List (Int × Int)}, (∀ p ∈ ps, p ∈ ms) → (seen ++ ps).Nodup → firstBad ms seen ps = none
  | [], _, _, _ => rfl
  | p :: ps, seen, h, hn => by
    have h1 : ¬ p ∈ seen := fun hp => (List.nodup_append.1 hn).2.2 p hp p (List.mem_cons_self ..) rfl
    rw [firstBad, if_pos ⟨h p (List.mem_cons_self ..), h1⟩]
    exact firstBad_none (fun q hq => h q (List.mem_cons_of_mem _ hq)) (by rw [List.append_assoc]; exact hn)
theorem firstBad_some {ms : List (Int × Int)} {q : Int × Int} (hq : ¬ q ∈ ms) : ∀ {ps seen : List (Int × Int)}, (∀ p ∈ ps, p ∈ ms) → (seen ++ ps).Nodup → firstBad ms seen (ps ++ [q]) = some q
  | [], seen, _, _ => by
    rw [List.nil_append, firstBad, if_neg (fun h => hq h.1)]
  | p :: ps, seen, h, hn => by
    have h1 : ¬ p ∈ seen := fun hp => (List.nodup_append.1 hn).2.2 p hp p (List.mem_cons_self ..) rfl
    rw [List.cons_append, firstBad, if_pos ⟨h p (List.mem_cons_self ..), h1⟩]
    exact firstBad_some hq (fun q hq => h q (List.mem_cons_of_mem _ hq)) (by rw [List.append_assoc]; exact hn)
/-- mirrors of w, none twice -/
def Pairs (w : List Int) (ps : List (Int × Int)) : Prop := (∀ p ∈ ps, p ∈ mir w) ∧ ps.Nodup ∧ ps.length ≤ 100
theorem Pairs.bad {w : List Int} {ps : List (Int × Int)} (h : Pairs w ps) : firstBad (mir w) [] ps = none := firstBad_none h.1 h.2.1
theorem Pairs.sub {w : List Int} (hw : w.length ≤ 8) {ps : List (Int × Int)} (h : ps.Sublist (mir w)) : Pairs w ps := by
  refine ⟨fun p hp => h.mem hp, List.Pairwise.sublist h nodup_mir, ?_⟩
  have h1 := h.length_le
  have h3 : (mir w).length ≤ (allP w.length).length := List.length_filter_le ..
  have h4 := length_allP w.length
  have h5 := Nat.mul_le_mul hw hw
  omega
theorem Pairs.perm {w : List Int} {ps qs : List (Int × Int)} (h : Pairs w ps) (hp : qs.Perm ps) : Pairs w qs :=
  ⟨fun p hq => h.1 p (hp.mem_iff.1 hq), hp.nodup_iff.2 h.2.1, by rw [hp.length_eq]; exact h.2.2⟩
theorem firstUn_non {f : Int × Int → Bool} : ∀ {ms : List (Int × Int)}, (∀ p ∈ ms, f p = false) → firstUn f ms = .non
  | [], _ => rfl
  | p :: ms, h => by
    rw [firstUn, if_neg (by rw [h p (List.mem_cons_self ..)]; simp)]
    exact firstUn_non fun q hq => h q (List.mem_cons_of_mem _ hq)
theorem firstIx_non {f : Nat → Bool} : ∀ {n k : Nat}, (∀ i, k ≤ i → i < k + n → f i = false) → firstIx f k n = .non
  | 0, _, _ => rfl
  | n + 1, k, h => by
    rw [firstIx, if_neg (by rw [h k (Nat.le_refl _) (by omega)]; simp)]
    exact firstIx_non fun i h1 h2 => h i (by omega) (by omega)
/-- a right paper of a room -/
theorem inside_right {w x : List Int} {ps : List (Int × Int)} (hx : IsOrd x) (hl : x.length = w.length) (hp : ∀ p, p ∈ ps ↔ p ∈ turnIn (mir w) x) : insideL w ps (x.map .int) = .non := by
  unfold insideL
  rw [isOrdL_ints hx, List.length_map, decide_eq_true hl, if_pos (by rfl), intsOf_map]
  dsimp only
  refine firstUn_non fun p _ => ?_
  have : decide (p ∈ ps) = decide (p ∈ turnIn (mir w) x) := by rw [Bool.eq_iff_iff]; simp [hp]
  rw [this]; simp
theorem firstMet_nodup : ∀ {is seen : List Int}, is.Nodup → (∀ i ∈ is, ¬ i ∈ seen) → (firstMet seen is) = is
  | [], _, _, _ => rfl
  | i :: is, seen, hn, h => by
    rw [List.nodup_cons] at hn
    rw [firstMet, if_neg (by rw [List.contains_iff_mem]; exact h i (List.mem_cons_self ..)), firstMet_nodup hn.2]
    intro j hj hm
    rcases List.mem_cons.1 hm with rfl | hm
    · exact hn.1 hj
    · exact h j (List.mem_cons_of_mem _ hj) hm
/-- a right paper of a ring -/
theorem around_right {w r : List Int} {ps : List (Int × Int)} (h : RingOk w ps r) : aroundL w ps (r.map .int) = .non := by
  obtain ⟨h1, h2, h3, h4⟩ := h
  unfold aroundL
  rw [List.length_map, if_neg (by omega), intsOf_map]
  dsimp only
  rw [if_neg, if_neg (by rw [firstMet_nodup h3 (by simp)]; simp)]
  · refine firstIx_non fun i _ hi => ?_
    unfold badSt
    rw [lesser_agree (h2 _ (getD_mem (by omega))) (h2 _ (nextOf_mem (by omega))), h4 i (by omega)]; rfl
  · rw [Bool.not_eq_false, List.all_eq_true]
    intro i hi
    rw [decide_eq_true (h2 i hi).1, decide_eq_true (h2 i hi).2]; rfl
/-! faults have the form of faults -/
theorem fault_non : IsFault .non := Or.inl rfl
theorem fault_places : IsFault dPlaces := Or.inr ⟨"places", [], ⟨by decide +kernel, by simp⟩, rfl⟩
theorem fault_order : IsFault dOrder := Or.inr ⟨"order", [], ⟨by decide +kernel, by simp⟩, rfl⟩
theorem fault_answer : IsFault dAnswer := Or.inr ⟨"answer", [], ⟨by decide +kernel, by simp⟩, rfl⟩
theorem fault_un {f : Int × Int → Bool} : ∀ {ms : List (Int × Int)}, IsFault (firstUn f ms)
  | [] => fault_non
  | p :: ms => by
    rw [firstUn]
    split
    · exact Or.inr ⟨"pair", [p.1, p.2], ⟨by decide +kernel, by simp⟩, rfl⟩
    · exact fault_un
theorem fault_ix {f : Nat → Bool} : ∀ {n k : Nat}, IsFault (firstIx f k n)
  | 0, _ => fault_non
  | n + 1, k => by
    rw [firstIx]
    split
    · exact Or.inr ⟨"step", [(k : Int)], ⟨by decide +kernel, by simp⟩, rfl⟩
    · exact fault_ix
theorem fault_around {w : List Int} {ps : List (Int × Int)} {xs : List D} : IsFault (aroundL w ps xs) := by
  unfold aroundL
  split
  · exact fault_places
  · split
    · exact fault_places
    · split
      · exact fault_places
      · split
        · exact fault_places
        · exact fault_ix
theorem fault_inside {w : List Int} {ps : List (Int × Int)} {xs : List D} : IsFault (insideL w ps xs) := by
  unfold insideL
  split
  · split
    · exact fault_un
    · exact fault_order
  · exact fault_order
theorem fault_V {w : List Int} {ps : List (Int × Int)} {v : D} : IsFault (faultV w ps v) := by
  unfold faultV
  split
  · split
    · split
      · exact fault_around
      · exact fault_places
    · split
      · exact fault_inside
      · exact fault_order
  · exact fault_answer
/-! orders -/
theorem ord_of {w : List Int} {n : Nat} (h : w.Perm (rangeI 0 n)) (h1 : 1 ≤ n) (h8 : n ≤ 8) : IsOrd w ∧ w.length = n := by
  have e : w.length = n := by rw [h.length_eq, length_rangeI]
  exact ⟨⟨by omega, by rw [e]; exact h⟩, e⟩
theorem rev_ne {x : List Int} (h : x.Nodup) (h2 : 2 ≤ x.length) : ¬ x = x.reverse := by
  intro e
  have h3 : x[0]? = x.reverse[0]? := by rw [← e]
  rw [List.getElem?_reverse (by omega), List.getElem?_eq_getElem (by omega), List.getElem?_eq_getElem (by omega)] at h3
  injection h3 with h3
  have := (List.getElem_inj h).1 h3
  omega
theorem ord_nodup {x : List Int} {n : Nat} (h : x.Perm (rangeI 0 n)) : x.Nodup := h.nodup_iff.2 nodup_rangeI
/-- a comprehension that draws for each pair -/
theorem compGo_draws {C : Cxt} {t : Tg} {c' f : EF} {env : Slots} {T : Sto}
    (h : ∀ (p : Int × Int) (c : Nat) (b : Bx), PenB c b → c ≤ 100000 → ∃ (env1 : Slots) (q : Bool) (b' : Bx), tgV t (encP p) env = some env1 ∧ fz c' C env1 (b :: T) = .ok (.d (.bl q)) (b' :: T) ∧ PenB (c + 1) b' ∧ ∀ S, fz f C env1 S = .ok (.d (encP p)) S) :
    ∀ (ms acc : List (Int × Int)) (c : Nat) (b : Bx), PenB c b → c + ms.length ≤ 100000 → acc.length + ms.length ≤ 100000 →
      ∃ (ps : List (Int × Int)) (b' : Bx), compGo t (some c') f C env (ms.map encP) (acc.map encP) (b :: T) = .ok ((acc ++ ps).map encP) (b' :: T) ∧ ps.Sublist ms ∧ PenB (c + ms.length) b'
  | [], acc, c, b, hb, _, _ => ⟨[], b, by rw [List.append_nil]; rfl, .slnil, hb⟩
  | p :: ms, acc, c, b, hb, hc, hl => by
    rw [List.length_cons] at hc hl
    obtain ⟨env1, q, b1, h1, h2, h3, h4⟩ := h p c b hb (by omega)
    rw [List.map_cons]
    unfold compGo
    rw [h1]
    dsimp only
    rw [h2]
    cases q with
    | true =>
      dsimp only
      rw [h4]
      dsimp only
      rw [if_pos (by rw [List.length_map]; show _ < 16777216; omega)]
      obtain ⟨ps, b', e, hs, hp⟩ := compGo_draws h ms (acc ++ [p]) (c + 1) b1 h3 (by omega) (by rw [List.length_append, List.length_singleton]; omega)
      rw [List.map_append] at e
      exact ⟨p :: ps, b', by rw [show acc.map encP ++ [encP p] = acc.map encP ++ [p].map encP from rfl, e, List.append_assoc]; rfl, hs.cons_cons p, by rw [List.length_cons]; exact hp.mono (by omega)⟩
    | false =>
      dsimp only
      obtain ⟨ps, b', e, hs, hp⟩ := compGo_draws h ms acc (c + 1) b1 h3 (by omega) (by omega)
      exact ⟨ps, b', e, hs.cons p, by rw [List.length_cons]; exact hp.mono (by omega)⟩
end K85
end

section
set_option Elab.async false
set_option linter.all false
set_option maxRecDepth 100000
set_option
        maxHeartbeats 4000000
namespace K85
open PySem (Str)
open Py
local macro_rules
  | `(tactic| simp! [$ls,*]) => `(tactic| simp only [Rs.bind_ok, Rs.bind_exc, Rs.out_ok, Rs.out_exc, Rs.bind_ite, Rs.out_ite, Ou.andT_nx, Ou.andT_rt, Ou.andT_bk, Ou.andT_ct, Ou.andT_exc, Ou.andT_ite,
    leave_ite, leave_nx, leave_d, leave_exc, fz_eq, frzK_d, frzK_new, frzK_ro, frzK_box, frzK_lams, eVar_eq, varK_some, eC_eq, eLam_eq, eTake_eq, takeK_box, takeK2_lst, eBin_eq, binK_eq, binK2_eq, unbox_d, unbox_box, unboxK_lst, binV_add, binV_sub,
    eNeg_eq, negK_int, eNot_eq, notK_b, eAnd_eq, andK_b, eOr_eq, orK_b, eIf_eq, ifK_b, and_mg, or_mg, ite_mg, ite_bl_t, ite_bl_f, ite_bl_n, ite_bl_o, ite_int, eCmp_eq, cmpK_eq, cmpV_lt, cmpV_le, cmpV_gt, cmpV_ge, cmpV_eqI, cmpV_neI, cmpV_eqB, cmpV_neB, eChain_eq, chK0_eq, chK1_eq, chK_b,
    eIsNone_eq, noneK_d, eIsInst_eq, instK_non, instK_bl, instK_int, instK_str, instK_tup, instK_lst, isTys_nil, isTys_cons, kdIs_int_non, kdIs_int_bl, kdIs_int_int, kdIs_int_str, kdIs_int_tup, kdIs_int_lst, kdIs_int_ins, kdIs_bool_non, kdIs_bool_bl, kdIs_bool_int, kdIs_bool_str, kdIs_bool_tup, kdIs_bool_lst, kdIs_bool_ins, kdIs_str_non, kdIs_str_bl, kdIs_str_int, kdIs_str_str, kdIs_str_tup, kdIs_str_lst, kdIs_str_ins, kdIs_list_non, kdIs_list_bl, kdIs_list_int, kdIs_list_str, kdIs_list_tup, kdIs_list_lst, kdIs_list_ins, kdIs_tuple_non, kdIs_tuple_bl, kdIs_tuple_int, kdIs_tuple_str, kdIs_tuple_tup, kdIs_tuple_lst, kdIs_tuple_ins, kdIs_cls_non, kdIs_cls_bl, kdIs_cls_int, kdIs_cls_str, kdIs_cls_tup, kdIs_cls_lst, kdIs_cls_ins, Bool.or_false, Bool.false_or, Bool.or_true, Bool.true_or, Bool.and_true, Bool.true_and, Bool.and_false, Bool.false_and, evAll_nil, evAll_cons, consK_eq, consK2_eq, eTup_eq, tupK_0, tupK_1, tupK_2, tupK_3, tupK_4, eLst_eq, lstK_0, lstK_1, lstK_2, lstK_3, lstK_4, lstK_5, lstK_6, lstK_7, lstK_8, lstK_9, eLams_eq,
    eIx_eq, ixK_eq, eKey_eq, evPart_none, evPart_some, partK_int, eSlice_eq, slK_eq, slK1_eq, slK2_eq, cutV_lst, cutV_tup, eRev_eq, revK_eq, revV_lst, revV_tup, eFld_eq, eCall_eq, callK_ok, bodyCx_call, eMake_eq, eBi_eq, eRng1_eq, eRng2_eq, rngK2_eq,
    biV_int1, biV_min2, biV_max2, seqOf_lst, seqOf_tup, seqOf_ro, seqOf_new, isLst_lst, isLst_new, mkSeq_t, mkSeq_f, eMt_eq, src_seq, srcK_lst, srcK_tup, srcK_ro, src_r1, src_r2, srcK2_eq, src_en, enK_lst, enK_tup, tgV_name, tgV_names2,
    eComp_eq, cpK_eq, newK_eq, eComp2_eq, cp2K_eq, wipeE_nil, wipeE_cons, sNext_eq, sPass_eq, sBreak_eq, sCont_eq, sSeq_eq, sExpr_eq, exprK_eq, sRet_eq, sRetN_eq, sIf_eq, sifK_b, sSet_eq, setK_eq, sBox_eq, boxK_new, sUnpack_eq, unpK_2,
    parV_t, parV_f, pboxK_new, sPar_eq, parK_eq, parK2_eq, sPutK_eq, eRepr_eq, bodyCx_rp, lamCx_call, noBox_nil, noBox_cons, hideB_none, hideB_d, hideB_ro, hideB_box, sSetIx2_eq, six1_eq, six2_eq, six3_eq, six4_eq, six5_eq, six6_eq, six7_eq, setIx_E, eDict_eq, leave_box, sFld_eq, sfldK1_eq, sfldK2_eq, eEqOwn_eq, eqK1_eq, take_last2, putK1_eq, sRaise_eq, raiseK_1, sFor_eq, forK_eq, biV_lenE, lenK_s, biV_listE, listK_s, biV_tupleE, tupleK_s, biV_allM, biV_anyM, biV_sumM, seqOf_box, seqB_lst, isLst_box, isLB_lst, ixV_E, ixK2_0, ixK2_1, ixK2_2, ixK2_neg1, mtV_appE, mtV_popE, appK_nil, mtK_ok, keyK_box, forGo_nil, forGo_cons, tgK_s, Ou.loopT_nx, Ou.loopT_ct, Ou.loopT_bk, Ou.loopT_rt, Ou.loopT_exc, Ou.loopT_ite, stp_ite, stp_nx, stp_rt, stp_exc, cmpV_inE, cmpV_ninE, inK_I, ninK_I, inK_P, ninK_P, encP_eq, cmpV_eqL, cmpV_neL, cmpV_eqT, cmpV_neT, argOk, List.all_cons, List.all_nil, Bool.and_true, Bool.and_self,
    List.getElem?_cons_zero, List.getElem?_cons_succ, List.set_cons_zero, List.set_cons_succ, List.take_length, get_last, set_last, take_last, if_true, if_false, ite_self, Bool.false_eq_true, Bool.true_eq_false, reduceIte, Bool.not_true, Bool.not_false, beq_self_eq_true, Nat.reduceBEq, $ls,*])
local macro_rules
  | `(tactic| simp!) => `(tactic| simp! [Rs.bind_ok])

theorem cl_top (rp : D → Option Str) (k : Nat) (v0 : Vl) (S : Sto) : topEv prog rp k 37 [v0] S = leave S.length (bd_law (bodyCx prog rp (callEv prog k) (callAct prog rp) (fun _ => .bad)) [some v0, none, none, none, none, none, none, none, none, none, none, none, none, none, none, none, none] S) := rfl
theorem nodup_sub_len {α : Type} [DecidableEq α] : ∀ {xs ys : List α}, xs.Nodup → (∀ x ∈ xs, x ∈ ys) → xs.length ≤ ys.length
  | [],
          _, _, _ => Nat.zero_le _
  | x :: xs, ys, hn, h => by
    rw [List.nodup_cons] at hn
    have hx := h x (List.mem_cons_self ..)
    have := nodup_sub_len (xs := xs) (ys := ys.erase x) hn.2 (fun y hy => (List.mem_erase_of_ne (fun (e : y = x) => hn.1 (by rw [← e]; exact hy))).2 (h y (List.mem_cons_of_mem _ hy)))
    rw [List.length_erase_of_mem hx] at this
    have := List.length_pos_of_mem hx
    rw [List.length_cons]
    omega
theorem sOk_order : sOk "order" = true := by decide +kernel
theorem sOk_row : sOk "row" = true := by decide +kernel
theorem sOk_pair : sOk "pair" = true := by decide +kernel
theorem sOk_00 : sOk "(0, 0)" = true := by decide +kernel
def oddL : List D := [.non, .int 4, .str "0"]
def ordL : List D := [.non, .tup [], .tup [.int 0, .int 0], .tup [.int 1], .int 5]
theorem callA_top {rp : D → Option Str} {act : Sto → Rs Vl} {j : Nat} {env : Slots} {S : Sto} : eCallA 31 j (bodyCx prog rp (callEv prog 8) (callAct prog rp) act) env S = callAct prog rp 31 (fun S' => fz (prog.lam j) (lamCx (callEv prog 8)) (noBox env) S') S := (rfl)
theorem reprK_top {P : Prog} {rp : D → Option Str} {call : CallF} {ca : Nat → (Sto → Rs Vl) → Sto → Rs Vl} {act : Sto → Rs Vl} {x : D} {y : Str} {S : Sto} (h : rp x = some y) : reprK (bodyCx P rp call ca act) (.d x) S = .ok (.d (.str y)) S := reprK_ok h
theorem lam_0 : prog.lam 0 = lm_0 := (rfl)
theorem lam_1 : prog.lam 1 = lm_1 := (rfl)
theorem lam_2 : prog.lam 2 = lm_2 := (rfl)
theorem plain (rp : D → Option Str) (hodd : ∀ d ∈ oddL, ∃ y, rp d = some y ∧ sOk y = true) (hord : ∀ d ∈ ordL, ∃ y, rp d = some y ∧ sOk y = true) (h00 : rp (.tup [.int 0, .int 0]) = some ("(0, 0)" : Str)) (cells : List Int) : ∃ S, topEv prog rp 8 37 [.ro (cells.map .int)] [] = .ok (.d (.bl true)) S := by
  rw [cl_top]; unfold bd_law
  obtain ⟨b0, e0, p0⟩ := w_pen 7 cells
  obtain ⟨m0, b1, e1, hm0, p1⟩ := w_pick 6 0 b0 [] [.int 4, .int 6, .int 8, .int 8] p0 (by omega) (by simp) (by simp)
  obtain ⟨m, rfl, hm⟩ : ∃ m : Int, m0 = .int m ∧ (0 < m ∧ m ≤ 8) := by
    simp only [List.mem_cons, List.not_mem_nil, or_false] at hm0
    rcases hm0 with rfl | rfl | rfl | rfl
    all_goals exact ⟨_, rfl, by omega, by omega⟩
  obtain ⟨r2, b2, e2, hr2, hr2', p2⟩ := w_draw 7 1 b1 [] m p1 (by omega) (by omega) (by omega)
  obtain ⟨n, hn, hn1, hn8⟩ : ∃ n : Nat, 1 + r2 = (n : Int) ∧ 1 ≤ n ∧ n ≤ 8 := ⟨(1 + r2).toNat, by omega, by omega, by omega⟩
  obtain ⟨w0, b3, e3, hw0, p3⟩ := w_some_order 5 2 b2 [] n p2 (by omega) (by omega)
  have E0 : callEv prog 8 19 [.ro (cells.map .int)] [] = .ok (.box 0) [b0] := e0
  have E1 : callEv prog 8 21 [.box 0, .d (.lst [.int 4, .int 6, .int 8, .int 8])] [b0] = .ok (.d (.int m)) [b1] := e1
  have E2 : callEv prog 8 20 [.box 0, .d (.int m)] [b1] = .ok (.d (.int r2)) [b2] := e2
  have E3 : callEv prog 8 24 [.box 0, .d (.int n)] [b2] = .ok (.d (.tup (w0.map .int))) [b3] := e3
  simp! [E0, E1, E2, E3, hn, -sIf_eq]
  clear E0 E1 E2 E3 e0 e1 e2 e3 hm0
  generalize hS : sIf _ _ _ _ _ _ = o
  obtain ⟨w, b4, hw, hwl, p4, rfl⟩ : ∃ (w : List Int) (b4 : Bx), IsOrd w ∧ w.length = n ∧ PenB (2 + n + 1) b4 ∧
      o = .nx [some (.ro (cells.map .int)), some (.box 0), some (.d (.int n)), some (.d (.tup (w.map .int))), none, none, none, none, none, none, none, none, none, none, none, none, none] [b4] := by
    obtain ⟨r4, b4, e4, hr4, hr4', p4⟩ := w_draw 7 (2 + n) b3 [] 2 p3 (by omega) (by omega) (by omega)
    have E4 : callEv prog 8 20 [.box 0, .d (.int 2)] [b3] = .ok (.d (.int r4)) [b4] := e4
    rw [← hS]
    simp! [E4]
    by_cases g : r4 = 0
    · subst g
      by_cases g2 : n < 4
      · have g2' : ((n : Int) < 4) := by omega
        simp! [g2', decide_true, rg1V_ok (n := n) (by omega)]
        have := ord_of (w := (rangeI 0 n).reverse) (List.reverse_perm _) hn1 hn8
        exact ⟨_, b4, this.1, this.2, p4, by rw [← List.map_reverse]⟩
      · have g2' : ¬ ((n : Int) < 4) := by omega
        simp! [g2', decide_false]
        have := ord_of (w := w0.reverse) ((List.reverse_perm _).trans hw0) hn1 hn8
        exact ⟨_, b4, this.1, this.2, p4, by rw [← List.map_reverse]⟩
    · have g' : (r4 == 0) = false := by rw [beq_eq_false_iff_ne]; exact g
      simp! [g']
      have := ord_of hw0 hn1 hn8
      exact ⟨_, b4, this.1, this.2, p4, rfl⟩
  clear hS
  have hn1000 : w.length ≤ 1000 := by omega
  obtain ⟨x, b5, e5, hx, p5⟩ := w_some_order 5 (2 + n + 1) b4 [] n p4 (by omega) (by omega)
  obtain ⟨hxo, hxl⟩ := ord_of hx hn1 hn8
  have hmx : ∀ p ∈ mir w, 0 ≤ p.1 ∧ p.1 < x.length ∧ 0 ≤ p.2 ∧ p.2 < x.length := fun p hp => by have := (mem_mir.1 hp).1; omega
  have E5 : callEv prog 8 24 [.box 0, .d (.int n)] [b4] = .ok (.d (.tup (x.map .int))) [b5] := e5
  have E6 : callEv prog 8 28 [.d (.tup (w.map .int))] [b4] = .ok (.d (.lst ((mir w).map encP))) [b4] := w_law_mirrors 6 [b4] w hn1000
  have E7 : callEv prog 8 29 [.d (.lst ((mir w).map encP)), .d (.tup (x.map .int))] [b5] = .ok (.d (.tup ((turnIn (mir w) x).map encP))) [b5] := w_law_room 7 [b5] (mir w) x (mir_len hn1000) hmx
  have hml : (mir w).length ≤ 100 := (Pairs.sub (by omega) (List.Sublist.refl (mir w))).2.2
  simp! [E5, E6, E7]
  obtain ⟨any, b6, e6, hany, p6⟩ := compGo_draws (C := bodyCx prog rp (callEv prog 8) (callAct prog rp) fun x => Rs.bad) (t := .name 16) (c' := eCmp Cmp.eq (eCall 20 [eVar 1, eC (D.int 2)]) (eC (D.int 0))) (f := eVar 16)
    (env := [some (.ro (cells.map .int)), some (.box 0), some (.d (.int n)), some (.d (.tup (w.map .int))), none, none, none, some (.d (.lst ((mir w).map encP))), some (.d (.tup (x.map .int))), none, none, none, none, none, none, none, none]) (T := [])
    (by
      intro p c b hb hc
      obtain ⟨r, b', e, hr, hr', pp⟩ := w_draw 7 c b [] 2 hb (by omega) (by omega) (by omega)
      have E : callEv prog 8 20 [.box 0, .d (.int 2)] [b] = .ok (.d (.int r)) [b'] := e
      refine ⟨_, r == 0, b', rfl, by simp! [E], pp, fun S => by simp!⟩) (mir w) [] (2 + n + 1 + n) b5 p5 (by omega) (by simp; omega)
  rw [List.nil_append, List.map_nil] at e6
  simp! [e6]
  clear e6 E5 E6 E7 e5
  -- the first two papers
  have mkI : ∀ (S : Sto) (y : D), knd y → makeK (bodyCx prog rp (callEv prog 8) (callAct prog rp) fun _ => Rs.bad) 5 8 [.d y] S = .ok (.d (.ins 5 [("order", kept y)])) S := fun S y hy => make_ok rfl (w_Inside_init 5 S y hy)
  have mkA : ∀ (S : Sto) (y : D), knd y → makeK (bodyCx prog rp (callEv prog 8) (callAct prog rp) fun _ => Rs.bad) 6 10 [.d y] S = .ok (.d (.ins 6 [("places", kept y)])) S := fun S y hy => make_ok rfl (w_Around_init 5 S y hy)
  have hroom : Pairs w (turnIn (mir w) x) := Pairs.sub (by omega) (List.filter_sublist ..)
  have hanyp : Pairs w any := Pairs.sub (by omega) hany
  obtain ⟨qs', b7, e7, hq, p7⟩ := w_shuffled 6 _ b6 [] ((turnIn (mir w) x).map encP) p6 (by rw [List.length_map]; have := hroom.2.2; omega) (by rw [List.length_map]; have := hroom.2.2; omega)
  rw [List.length_map] at p7
  obtain ⟨qs, hqs, rfl⟩ := perm_map_inv hq
  have hrl := hroom.2.2
  obtain ⟨mk1, b8, hmk1, e8, p8⟩ := w_listed 6 _ b7 [] D.tup (Or.inr rfl) (x.map .int) p7 (by omega)
  have hk1 : knd (mk1 (x.map .int)) ∧ kept (mk1 (x.map .int)) = .tup (x.map .int) ∧ itemsOf (mk1 (x.map .int)) = x.map .int := by rcases hmk1 with rfl | rfl <;> exact ⟨rfl, rfl, rfl⟩
  have hqp : Pairs w qs := hroom.perm hqs
  have E7 : callEv prog 8 22 [.box 0, .d (.lst ((turnIn (mir w) x).map encP))] [b6] = .ok (.d (.lst (qs.map encP))) [b7] := e7
  have E8 : callEv prog 8 25 [.box 0, .d (.tup (x.map .int))] [b7] = .ok (.d (mk1 (x.map .int))) [b8] := e8
  have E9 : callEv prog 8 18 [.d (.tup (w.map .int)), .d (.lst (qs.map encP)), .d (.ins 5 [("order", kept (mk1 (x.map .int)))])] [b8] = .ok (.d .non) [b8] := by
    have := w_room_inside 3 [b8] (mk := D.lst) hw (Or.inl rfl) (by have := hqp.2.2; omega) hqp.bad (mk1 (x.map .int)) hk1.1 (by rw [hk1.2.2]; exact knd_ints) (by rw [hk1.2.2, List.length_map]; omega)
    rw [hk1.2.1] at this ⊢
    rw [show faultV w qs (.ins 5 [("order", .tup (x.map .int))]) = insideL w qs (x.map .int) from rfl, inside_right hxo (by omega) (fun p => hqs.mem_iff)] at this
    exact this
  obtain ⟨v, e10, hv⟩ := w_own_ring 6 [b8] w any (by omega)
  have E10 : callEv prog 8 34 [.d (.tup (w.map .int)), .d (.lst (any.map encP))] [b8] = .ok (.d v) [b8] := e10
  have hmk1' := mkI [b8] _ hk1.1
  simp! [E7, E8, hmk1', E9, E10, show (D.isNon .non != true) = false from rfl, -sIf_eq]
  clear E7 E8 E9 E10 hmk1' e7 e8 e10 hq
  generalize hS : sIf _ _ _ _ _ _ = o
  -- the ring's paper, if there is a ring
  have hrl9 : ∀ r, RingOk w any r → 1 ≤ r.length ∧ r.length ≤ 8 := fun r hr => by
    have h1 := hr.1
    have h2 := nodup_sub_len hr.2.2.1 (ys := rangeI 0 n) (fun i hi => mem_rangeI.2 (by have := hr.2.1 i hi; omega))
    rw [length_rangeI] at h2
    omega
  obtain ⟨b9, p9, rfl⟩ : ∃ b9 : Bx, PenB (2 + n + 1 + n + (mir w).length + (turnIn (mir w) x).length + 2) b9 ∧
      o = .nx [some (.ro (cells.map .int)), some (.box 0), some (.d (.int n)), some (.d (.tup (w.map .int))), some (.d v), none, none, some (.d (.lst ((mir w).map encP))), some (.d (.tup (x.map .int))), some (.d (.lst ((turnIn (mir w) x).map encP))), some (.d (.lst (any.map encP))), none, none, none, none, none, none] [b9] := by
    rw [← hS]
    rcases hv with rfl | ⟨r, hr, rfl⟩
    · simp! [show (D.isNon .non != true) = false from rfl]
      exact ⟨b8, p8.mono (by omega), rfl⟩
    · obtain ⟨mk2, b9, hmk2, e9, p9⟩ := w_listed 6 _ b8 [] D.lst (Or.inl rfl) (r.map .int) p8 (by omega)
      have hk2 : knd (mk2 (r.map .int)) ∧ kept (mk2 (r.map .int)) = .tup (r.map .int) ∧ itemsOf (mk2 (r.map .int)) = r.map .int := by rcases hmk2 with rfl | rfl <;> exact ⟨rfl, rfl, rfl⟩
      have E8 : callEv prog 8 25 [.box 0, .d (.lst (r.map .int))] [b8] = .ok (.d (mk2 (r.map .int))) [b9] := e9
      have E9 : callEv prog 8 18 [.d (.tup (w.map .int)), .d (.lst (any.map encP)), .d (.ins 6 [("places", kept (mk2 (r.map .int)))])] [b9] = .ok (.d .non) [b9] := by
        have := w_room_around 3 [b9] (mk := D.lst) hw (Or.inl rfl) (by have := hanyp.2.2; omega) hanyp.bad (mk2 (r.map .int)) hk2.1 (by rw [hk2.2.2]; exact knd_ints) (by rw [hk2.2.2, List.length_map]; have := hrl9 r hr; omega)
        rw [hk2.2.1] at this ⊢
        rw [show faultV w any (.ins 6 [("places", .tup (r.map .int))]) = aroundL w any (r.map .int) from rfl, around_right hr] at this
        exact this
      have hmk2' := mkA [b9] _ hk2.1
      simp! [show (D.isNon (.lst (r.map .int)) != true) = true from rfl, E8, hmk2', E9, show (D.isNon .non != true) = false from rfl]
      exact ⟨b9, p9.mono (by omega), rfl⟩
  clear hS p0 p1 p2 p3 p4 p5 p6 p7 p8
  generalize hc9 : 2 + n + 1 + n + (mir w).length + (turnIn (mir w) x).length + 2 = c9 at p9
  have hc9' : c9 ≤ 300 := by omega
  clear hc9
  simp! [-forGo_cons]
  generalize hL : forGo _ _ _ _ _ _ = o
  have H := forGo_mp (as := [turnIn (mir w) x, any]) (fun ps => D.lst (ps.map encP)) hL
    (fun done env S' => ∃ (b' : Bx) (e5 e11 e13 e14 e15 : Option Vl), S' = [b'] ∧ PenB (c9 + 1000 * done.length) b' ∧
      env = [some (.ro (cells.map .int)), some (.box 0), some (.d (.int n)), some (.d (.tup (w.map .int))), some (.d v), e5, none, some (.d (.lst ((mir w).map encP))), some (.d (.tup (x.map .int))), some (.d (.lst ((turnIn (mir w) x).map encP))), some (.d (.lst (any.map encP))), e11, none, e13, e14, e15, none])
    (fun env S' => ∃ (b' : Bx) (e5 e11 e13 e14 e15 : Option Vl), S' = [b'] ∧ PenB (c9 + 2000) b' ∧
      env = [some (.ro (cells.map .int)), some (.box 0), some (.d (.int n)), some (.d (.tup (w.map .int))), some (.d v), e5, none, some (.d (.lst ((mir w).map encP))), some (.d (.tup (x.map .int))), some (.d (.lst ((turnIn (mir w) x).map encP))), some (.d (.lst (any.map encP))), e11, none, e13, e14, e15, none]) (fun _ _ => False) (fun _ _ => False)
    ⟨b9, _, _, _, _, _, rfl, p9, rfl⟩
    (by
      rintro done ps rest env S' hs ⟨b', e5, e11, e13, e14, e15, rfl, hb, rfl⟩
      refine ⟨_, rfl, ?_⟩
      have hdl : done.length < 2 := by
        have := congrArg List.length hs
        simp at this
        omega
      have hps : Pairs w ps := by
        have : ps ∈ [turnIn (mir w) x, any] := by rw [hs]; simp
        simp only [List.mem_cons, List.not_mem_nil, or_false] at this
        rcases this with rfl | rfl
        · exact hroom
        · exact hanyp
      have hps2 := hps.2.2
      simp! [show ∀ S, rg1K (.d (.int 4)) S = .ok ((rangeI 0 4).map .int) S from fun S => rg1K_nat (n := 4) (by omega)]
      generalize hL2 : forGo _ _ _ _ _ _ = o2
      have H2 := forGo_mp D.int hL2
        (fun done2 env S' => ∃ (b' : Bx) (e11 e13 e14 e15 : Option Vl), S' = [b'] ∧ PenB (c9 + 1000 * done.length + 100 * done2.length) b' ∧
          env = [some (.ro (cells.map .int)), some (.box 0), some (.d (.int n)), some (.d (.tup (w.map .int))), some (.d v), some (.d (.lst (ps.map encP))), none, some (.d (.lst ((mir w).map encP))), some (.d (.tup (x.map .int))), some (.d (.lst ((turnIn (mir w) x).map encP))), some (.d (.lst (any.map encP))), e11, none, e13, e14, e15, none])
        (fun env S' => ∃ (b' : Bx) (e11 e13 e14 e15 : Option Vl), S' = [b'] ∧ PenB (c9 + 1000 * done.length + 1000) b' ∧
          env = [some (.ro (cells.map .int)), some (.box 0), some (.d (.int n)), some (.d (.tup (w.map .int))), some (.d v), some (.d (.lst (ps.map encP))), none, some (.d (.lst ((mir w).map encP))), some (.d (.tup (x.map .int))), some (.d (.lst ((turnIn (mir w) x).map encP))), some (.d (.lst (any.map encP))), e11, none, e13, e14, e15, none]) (fun _ _ => False) (fun _ _ => False)
        ⟨b', _, _, _, _, rfl, hb, rfl⟩
        (by
          rintro done2 lap rest2 env S' hs2 ⟨b', e11, e13, e14, e15, rfl, hb, rfl⟩
          refine ⟨_, rfl, ?_⟩
          have hdl2 : done2.length < 4 := by
            have := congrArg List.length hs2
            rw [length_rangeI, List.length_append, List.length_cons] at this
            omega
          obtain ⟨y, b10, e10, gy, p10⟩ := w_bent_order 5 _ b' [] x hb (by omega) (by omega) (by omega)
          obtain ⟨mk3, b11, hmk3, e11', p11⟩ := w_listed 6 _ b10 [] D.lst (Or.inl rfl) (ps.map encP) p10 (by omega)
          have F1 : callEv prog 8 35 [.box 0, .d (.tup (x.map .int))] [b'] = .ok (.d y) [b10] := e10
          have F2 : callEv prog 8 25 [.box 0, .d (.lst (ps.map encP))] [b10] = .ok (.d (mk3 (ps.map encP))) [b11] := e11'
          have F3 := mkI [b11] y gy.1
          have F4 : callEv prog 8 18 [.d (.tup (w.map .int)), .d (mk3 (ps.map encP)), .d (.ins 5 [("order", kept y)])] [b11] = .ok (.d (faultV w ps (.ins 5 [("order", kept y)]))) [b11] :=
            w_room_inside 3 [b11] hw hmk3 (by omega) hps.bad y gy.1 gy.2.1 (Nat.le_trans gy.2.2 (by omega))
          have F5 : callEv prog 8 32 [.d (.tup (w.map .int)), .d (.lst (ps.map encP)), .d y] [b11] = .ok (.d (faultV w ps (.ins 5 [("order", kept y)]))) [b11] :=
            w_inside_due 5 [b11] w ps y hw gy.1 gy.2.1 (Nat.le_trans gy.2.2 (by omega))
          have F6 : callEv prog 8 27 [.d (faultV w ps (.ins 5 [("order", kept y)])), .d (faultV w ps (.ins 5 [("order", kept y)]))] [b11] = .ok (.d (.bl true)) [b11] :=
            w_is_fault 7 [b11] _ fault_V
          -- the row that is bent: the ring, or all places
          obtain ⟨r0, h01, h08, hr0⟩ : ∃ r0 : List Int, 1 ≤ r0.length ∧ r0.length ≤ 8 ∧ ((v = .lst (r0.map .int)) ∨ (v = .non ∧ r0 = rangeI 0 n)) := by
            rcases hv with rfl | ⟨r, hr, rfl⟩
            · exact ⟨rangeI 0 n, by rw [length_rangeI]; exact hn1, by rw [length_rangeI]; exact hn8, Or.inr ⟨rfl, rfl⟩⟩
            · exact ⟨r, (hrl9 r hr).1, (hrl9 r hr).2, Or.inl rfl⟩
          obtain ⟨z, b12, e12, gz, p12⟩ := w_bent_places 5 _ b11 [] n r0 p11 (by omega) ⟨hn1, hn8⟩ h01 h08
          have F7 : callEv prog 8 36 [.box 0, .d (.int n), .d (.lst (r0.map .int))] [b11] = .ok (.d z) [b12] := e12
          have F8 := mkA [b12] z gz.1
          have F9 : callEv prog 8 18 [.d (.tup (w.map .int)), .d (.lst (ps.map encP)), .d (.ins 6 [("places", kept z)])] [b12] = .ok (.d (faultV w ps (.ins 6 [("places", kept z)]))) [b12] :=
            w_room_around 3 [b12] (mk := D.lst) hw (Or.inl rfl) (by omega) hps.bad z gz.1 gz.2.1 (Nat.le_trans gz.2.2 (by omega))
          have F10 : callEv prog 8 33 [.d (.tup (w.map .int)), .d (.lst (ps.map encP)), .d z] [b12] = .ok (.d (faultV w ps (.ins 6 [("places", kept z)]))) [b12] :=
            w_around_due 5 [b12] w ps z (by omega) gz.1 gz.2.1 gz.2.2
          have F11 : callEv prog 8 27 [.d (faultV w ps (.ins 6 [("places", kept z)])), .d (faultV w ps (.ins 6 [("places", kept z)]))] [b12] = .ok (.d (.bl true)) [b12] :=
            w_is_fault 7 [b12] _ fault_V
          rcases hr0 with rfl | ⟨rfl, rfl⟩
          · simp! [F1, F2, F3, F4, F5, F6, show (D.isNon (.lst (r0.map .int)) != true) = true from rfl, F7, F8, F9, F10, F11]
            exact ⟨b12, _, _, _, _, rfl, p12.mono (by rw [List.length_append, List.length_singleton]; omega), rfl⟩
          · simp! [F1, F2, F3, F4, F5, F6, show (D.isNon .non != true) = false from rfl, rg1V_ok (n := n) (by omega), F7, F8, F9, F10, F11]
            exact ⟨b12, _, _, _, _, rfl, p12.mono (by rw [List.length_append, List.length_singleton]; omega), rfl⟩)
        (by
          rintro env S' ⟨b', e11, e13, e14, e15, rfl, hb, rfl⟩
          rw [length_rangeI] at hb
          exact ⟨b', _, _, _, _, rfl, hb.mono (by omega), rfl⟩)
      rcases H2 with ⟨e, S', rfl, b', e11, e13, e14, e15, rfl, hb, rfl⟩ | ⟨v, S', rfl, hf⟩ | ⟨x, S', rfl, hf⟩
      · simp!
        exact ⟨b', _, _, _, _, _, rfl, hb.mono (by rw [List.length_append, List.length_singleton]; omega), rfl⟩
      · exact hf.elim
      · exact hf.elim)
    (by
      rintro env S' ⟨b', e5, e11, e13, e14, e15, rfl, hb, rfl⟩
      exact ⟨b', _, _, _, _, _, rfl, hb.mono (by simp), rfl⟩)
  rcases H with ⟨e, S', rfl, b13, e5, e11, e13, e14, e15, rfl, p13, rfl⟩ | ⟨v, S', rfl, hf⟩ | ⟨x, S', rfl, hf⟩
  rotate_left
  · exact hf.elim
  · exact hf.elim
  clear hL
  have hkx : knd (.tup (x.map .int)) := rfl
  have G1 := mkI [b13] (.tup (x.map .int)) hkx
  have G2 := mkA [b13] (.tup (x.map .int)) hkx
  have G3 := mkI [b13] (.lst (x.map .int)) rfl
  have G4 := mkI [b13] (.tup (x.map .int).reverse) rfl
  have G5 := mkA [b13] (.tup [.int 0, .int 1, .int 2]) rfl
  have G6 := mkA [b13] (.tup [.int 0, .int 2, .int 1]) rfl
  have Q1 : eqK2 ownCs eqOf (bodyCx prog rp (callEv prog 8) (callAct prog rp) fun _ => Rs.bad) (.d (.ins 5 [("order", kept (.tup (x.map .int)))])) (.d (.ins 6 [("places", kept (.tup (x.map .int)))])) [b13] = .ok (.d (.bl false)) [b13] :=
    eqK2_ok rfl rfl (w_Inside_eq_o 7 [b13] [("order", .tup (x.map .int))] (.ins 6 [("places", kept (.tup (x.map .int)))]) rfl rfl)
  have Q2 : eqK2 ownCs eqOf (bodyCx prog rp (callEv prog 8) (callAct prog rp) fun _ => Rs.bad) (.d (.ins 5 [("order", kept (.tup (x.map .int)))])) (.d (.tup (x.map .int))) [b13] = .ok (.d (.bl false)) [b13] :=
    eqK2_ok rfl rfl (w_Inside_eq_o 7 [b13] [("order", .tup (x.map .int))] (.tup (x.map .int)) rfl rfl)
  have Q3 : eqK2 ownCs eqOf (bodyCx prog rp (callEv prog 8) (callAct prog rp) fun _ => Rs.bad) (.d (.ins 5 [("order", kept (.tup (x.map .int)))])) (.d (.ins 5 [("order", kept (.tup (x.map .int).reverse))])) [b13] = .ok (.d (.bl (decide (x = x.reverse)))) [b13] := by
    refine eqK2_ok rfl rfl ?_
    rw [← List.map_reverse]
    exact w_Inside_eq 7 [b13] x x.reverse
  have Q4 : eqK2 ownCs eqOf (bodyCx prog rp (callEv prog 8) (callAct prog rp) fun _ => Rs.bad) (.d (.ins 6 [("places", kept (.tup [.int 0, .int 1, .int 2]))])) (.d (.ins 6 [("places", kept (.tup [.int 0, .int 2, .int 1]))])) [b13] = .ok (.d (.bl false)) [b13] :=
    eqK2_ok rfl rfl (w_Around_eq 7 [b13] [0, 1, 2] [0, 2, 1])
  have Q5 : eqK2 ownCs eqOf (bodyCx prog rp (callEv prog 8) (callAct prog rp) fun _ => Rs.bad) (.d (.ins 5 [("order", kept (.lst (x.map .int)))])) (.d (.ins 5 [("order", kept (.tup (x.map .int)))])) [b13] = .ok (.d (.bl true)) [b13] :=
    eqK2_ok rfl rfl (by have := w_Inside_eq 7 [b13] x x; rw [decide_eq_true rfl] at this; exact this)
  have hx2 : (decide ((1 : Int) < n) && decide (x = x.reverse)) = false := by
    by_cases h : 2 ≤ x.length
    · rw [decide_eq_false (rev_ne (ord_nodup hx) h), Bool.and_false]
    · rw [decide_eq_false (p := (1 : Int) < n) (by omega), Bool.false_and]
  have R0 : ∀ d : D, (∀ c fs, d ≠ .ins c fs) → callEv prog 8 18 [.d (.tup (w.map .int)), .d (.lst ((turnIn (mir w) x).map encP)), .d d] [b13] = .ok (.d (.tup [.str "answer"])) [b13] :=
    fun d hd => w_room_other 3 [b13] (mk := D.lst) hw (Or.inl rfl) (by omega) hroom.bad d hd
  have R1 := R0 .non (by intro c fs h; cases h)
  have R2 := R0 (.tup []) (by intro c fs h; cases h)
  have R3 := R0 (.int 5) (by intro c fs h; cases h)
  have R4 := R0 (.tup (x.map .int)) (by intro c fs h; cases h)
  have R5 : callEv prog 8 27 [.d (.tup [.str "answer"]), .d (.tup [.str "answer"])] [b13] = .ok (.d (.bl true)) [b13] := w_is_fault 7 [b13] _ fault_answer
  obtain ⟨od, b14, e14', hod, p14⟩ := w_pick 6 _ b13 [] [.non, .int 4, .str "0"] p13 (by omega) (by simp) (by simp)
  obtain ⟨ord, b15, e15', hor, p15⟩ := w_pick 6 _ b14 [] [.non, .tup [], .tup [.int 0, .int 0], .tup [.int 1], .int 5] p14 (by omega) (by simp) (by simp)
  have P1 : callEv prog 8 21 [.box 0, .d (.lst [.non, .int 4, .str "0"])] [b13] = .ok (.d od) [b14] := e14'
  have P2 : callEv prog 8 21 [.box 0, .d (.lst [.non, .tup [], .tup [.int 0, .int 0], .tup [.int 1], .int 5])] [b14] = .ok (.d ord) [b15] := e15'
  obtain ⟨y1, hy1, hs1⟩ := hodd od hod
  obtain ⟨y2, hy2, hs2⟩ := hord ord hor
  simp! [G1, G2, G3, G4, G5, G6, Q1, Q2, Q3, Q4, Q5, hx2, R1, R2, R3, R4, R5, P1, P2, callA_top, lam_0, lam_1, lam_2]
  have hod' : knd od ∧ isRowB od = false := by
    simp only [List.mem_cons, List.not_mem_nil, or_false] at hod
    rcases hod with rfl | rfl | rfl <;> exact ⟨rfl, rfl⟩
  have hor' : knd ord ∧ (∀ y ∈ itemsOf ord, knd y) ∧ (itemsOf ord).length ≤ 1000 ∧ isOrdB ord = false := by
    simp only [List.mem_cons, List.not_mem_nil, or_false] at hor
    rcases hor with rfl | rfl | rfl | rfl | rfl
    all_goals
      refine ⟨rfl, ?_, ?_, by decide +kernel⟩
      · simp [itemsOf, knd_int]
      · simp [itemsOf]
  have X0 : callEv prog 8 18 [.d (.tup (w.map .int)), .d od, .d .non] [b15] = .exc ⟨1, [("value", od)]⟩ [b15] := w_room_row 3 [b15] hw od .non hod'.1 hod'.2
  have h00m : ¬ ((0 : Int), (0 : Int)) ∈ mir w := fun h => absurd (mem_mir.1 h).1.2.1 (by simp)
  have X1 : callEv prog 8 18 [.d (.tup (w.map .int)), .d (.lst ((turnIn (mir w) x).map encP ++ [.tup [.int 0, .int 0]])), .d .non] [b15] = .exc ⟨4, [("item", .tup [.int 0, .int 0])]⟩ [b15] := by
    have := w_room_bad 3 [b15] (mk := D.lst) (ps := turnIn (mir w) x ++ [(0, 0)]) hw (Or.inl rfl) (by rw [List.length_append, List.length_singleton]; omega) (0, 0) (firstBad_some h00m hroom.1 hroom.2.1) .non
    rw [List.map_append] at this
    exact this
  have X2 : callEv prog 8 18 [.d ord, .d od, .d .non] [b15] = .exc ⟨2, [("value", ord)]⟩ [b15] := w_room_order 3 [b15] ord od .non hor'.1 hor'.2.1 hor'.2.2.1 hor'.2.2.2
  have C0 : ∀ env : Slots, env[3]? = some (some (.d (.tup (w.map .int)))) → env[12]? = some (some (.d od)) →
      callAct prog rp 31 (fun S' => (lm_0 (lamCx (callEv prog 8)) env S').bind frzK) [b15] = .ok (.d (.tup [.str "row", .str y1])) [b15] := fun env h3 h12 =>
    w_complaint rp _ [b15] 1 "value" "row" od y1 (by unfold lm_0; simp! [h3, h12, X0]) hy1 (Or.inr (Or.inr ⟨rfl, rfl, rfl⟩))
  have C1 : ∀ env : Slots, env[3]? = some (some (.d (.tup (w.map .int)))) → env[9]? = some (some (.d (.lst ((turnIn (mir w) x).map encP)))) →
      callAct prog rp 31 (fun S' => (lm_1 (lamCx (callEv prog 8)) env S').bind frzK) [b15] = .ok (.d (.tup [.str "pair", .str "(0, 0)"])) [b15] := fun env h3 h9 =>
    w_complaint rp _ [b15] 4 "item" "pair" (.tup [.int 0, .int 0]) "(0, 0)" (by
      unfold lm_1
      simp! [h3, h9, binV_cat (xs := (turnIn (mir w) x).map encP) (ys := [.tup [.int 0, .int 0]]) (by rw [List.length_map]; show _ + 1 ≤ 16777216; omega), X1]) h00 (Or.inr (Or.inl ⟨rfl, rfl, rfl⟩))
  have C2 : ∀ env : Slots, env[13]? = some (some (.d ord)) → env[12]? = some (some (.d od)) →
      callAct prog rp 31 (fun S' => (lm_2 (lamCx (callEv prog 8)) env S').bind frzK) [b15] = .ok (.d (.tup [.str "order", .str y2])) [b15] := fun env h3 h12 =>
    w_complaint rp _ [b15] 2 "value" "order" ord y2 (by unfold lm_2; simp! [h3, h12, X2]) hy2 (Or.inl ⟨rfl, rfl, rfl⟩)
  rw [C0 _ rfl rfl]
  simp! [reprK_top hy1, cmp2_ne sOk_row hs1, callA_top, lam_0, lam_1, lam_2]
  rw [C1 _ rfl rfl]
  simp! [cmp2_ne sOk_pair sOk_00, callA_top, lam_0, lam_1, lam_2]
  rw [C2 _ rfl rfl]
  simp! [reprK_top hy2, cmp2_eq sOk_order hs2]
  exact ⟨_, rfl⟩
end K85
end

section
set_option Elab.async false
set_option linter.all false
set_option maxRecDepth 100000
set_option
        maxHeartbeats 400000
namespace K85
open PySem PySem.Spec PyProof.Rows L2 Py PyS
section
def top (i : Nat) : Stmt := PySem.Challenge.pw_swaprise_k85_whole_room_papers_judged.main.body.getD i (.Pass ⟨0, 0, 0, 0⟩)
abbrev st_is_integer : Stmt := top 7
abbrev st_is_row : Stmt := top 8
abbrev st_is_order : Stmt := top 11
abbrev st_need_orders : Stmt := top 12
abbrev st_need_order : Stmt := top 13
abbrev st_all_pairs : Stmt := top 14
abbrev st_turned_pairs : Stmt := top 15
abbrev st_kept_row : Stmt := top 17
abbrev st_Inside_init : Stmt := inClass (top 19) 0
abbrev st_Inside_eq : Stmt := inClass (top 19) 1
abbrev st_Around_init : Stmt := inClass (top 20) 0
abbrev st_Around_eq : Stmt := inClass (top 20) 1
abbrev st_turned_in : Stmt := top 21
abbrev st_checked_pairs : Stmt := top 22
abbrev st_is_mirror : Stmt := top 23
abbrev st_lesser_ones : Stmt := top 24
abbrev st_first_unlike : Stmt := top 25
abbrev st_around_fault : Stmt := top 26
abbrev st_room_fault : Stmt := top 27
abbrev st__law_pen : Stmt := top 29
abbrev st__law_draw : Stmt := top 30
abbrev st__law_pick : Stmt := top 31
abbrev st__law_shuffled : Stmt := top 32
abbrev st__law_pairs : Stmt := top 33
abbrev st__law_some_order : Stmt := top 34
abbrev st__law_listed : Stmt := top 35
abbrev st__law_is_ints : Stmt := top 36
abbrev st__law_is_fault : Stmt := top 37
abbrev st__law_mirrors : Stmt := top 38
abbrev st__law_room : Stmt := top 39
abbrev st__law_lesser : Stmt := top 40
abbrev st__law_complaint : Stmt := top 41
abbrev st__law_inside_due : Stmt := top 42
abbrev st__law_around_due : Stmt := top 43
abbrev st__law_own_ring : Stmt := top 44
abbrev st__law_bent_order : Stmt := top 45
abbrev st__law_bent_places : Stmt := top 46
abbrev st_law : Stmt := top 47
end
/-- what the text gives -/
structure Tx0 (g : Stat) : Prop where
  rp : g.rp = rpD
  no_all : ∀ K mg, g.M K mg → mg "all" = none
  no_bool : ∀ K mg, g.M K mg → mg "bool" = none
  no_enumerate : ∀ K mg, g.M K mg → mg "enumerate" = none
  no_int : ∀ K mg, g.M K mg → mg "int" = none
  no_isinstance : ∀ K mg, g.M K mg → mg "isinstance" = none
  no_len : ∀ K mg, g.M K mg → mg "len" = none
  no_list : ∀ K mg, g.M K mg → mg "list" = none
  no_max : ∀ K mg, g.M K mg → mg "max" = none
  no_min : ∀ K mg, g.M K mg → mg "min" = none
  no_range : ∀ K mg, g.M K mg → mg "range" = none
  no_repr : ∀ K mg, g.M K mg → mg "repr" = none
  no_set : ∀ K mg, g.M K mg → mg "set" = none
  no_sorted : ∀ K mg, g.M K mg → mg "sorted" = none
  no_str : ∀ K mg, g.M K mg → mg "str" = none
  no_tuple : ∀ K mg, g.M K mg → mg "tuple" = none
  k_MOST : ∀ K mg, g.M K mg → ∃ t, mg "MOST" = some (.int 8 t)
  c_Inside : ∀ K mg, g.M K mg → mg "Inside" = some (.ref (g.gc 5))
  mk_Inside : MkK g 5 8 "Inside"
  c_Around : ∀ K mg, g.M K mg → mg "Around" = some (.ref (g.gc 6))
  mk_Around : MkK g 6 10 "Around"
  f_order : ∀ K mg, g.M K mg → ∀ c, c ∈ ([5] : List Nat) → Cls K (g.gc c) ∧ NoAttr K (g.gc c) "order"
  f_places : ∀ K mg, g.M K mg → ∀ c, c ∈ ([6] : List Nat) → Cls K (g.gc c) ∧ NoAttr K (g.gc c) "places"
  eq : EqK g ownCs eqOf
  is_int : IsAns g ownCs [.int]
  is_bool : IsAns g ownCs [.bool]
  is_list_tuple : IsAns g ownCs [.list, .tuple]
  is_Inside : IsAns g ownCs [(.cls 5)]
  is_Around : IsAns g ownCs [(.cls 6)]
  is_tuple : IsAns g ownCs [.tuple]
  is_int_str : IsAns g ownCs [.int, .str]
  ps_is_integer : g.ps 0 = (["value"] : List Str)
  fn_is_integer : FnI g 0 "is_integer"
  ps_is_row : g.ps 1 = (["value"] : List Str)
  fn_is_row : FnI g 1 "is_row"
  ps_is_order : g.ps 2 = (["value"] : List Str)
  fn_is_order : FnI g 2 "is_order"
  ps_need_orders : g.ps 3 = (["orders"] : List Str)
  fn_need_orders : FnI g 3 "need_orders"
  ps_need_order : g.ps 4 = (["order"] : List Str)
  fn_need_order : FnI g 4 "need_order"
  ps_all_pairs : g.ps 5 = (["n"] : List Str)
  fn_all_pairs : FnI g 5 "all_pairs"
  ps_turned_pairs : g.ps 6 = (["w"] : List Str)
  fn_turned_pairs : FnI g 6 "turned_pairs"
  ps_kept_row : g.ps 7 = (["value"] : List Str)
  fn_kept_row : FnI g 7 "kept_row"
  ps_Inside_init : g.ps 8 = (["self", "order"] : List Str)
  ps_Inside_eq : g.ps 9 = (["self", "other"] : List Str)
  ps_Around_init : g.ps 10 = (["self", "places"] : List Str)
  ps_Around_eq : g.ps 11 = (["self", "other"] : List Str)
  ps_turned_in : g.ps 12 = (["mirrors", "x"] : List Str)
  fn_turned_in : FnI g 12 "turned_in"
  ps_checked_pairs : g.ps 13 = (["w", "pairs"] : List Str)
  fn_checked_pairs : FnI g 13 "checked_pairs"
  ps_is_mirror : g.ps 14 = (["mirrors", "value"] : List Str)
  fn_is_mirror : FnI g 14 "is_mirror"
  ps_lesser_ones : g.ps 15 = (["w", "pairs", "place", "left"] : List Str)
  fn_lesser_ones : FnI g 15 "lesser_ones"
  ps_first_unlike : g.ps 16 = (["mirrors", "pairs", "room"] : List Str)
  fn_first_unlike : FnI g 16 "first_unlike"
  ps_around_fault : g.ps 17 = (["w", "pairs", "places"] : List Str)
  fn_around_fault : FnI g 17 "around_fault"
  ps_room_fault : g.ps 18 = (["w", "pairs", "answer"] : List Str)
  fn_room_fault : FnI g 18 "room_fault"
  ps__law_pen : g.ps 19 = (["script"] : List Str)
  fn__law_pen : FnI g 19 "_law_pen"
  ps__law_draw : g.ps 20 = (["pen", "many"] : List Str)
  fn__law_draw : FnI g 20 "_law_draw"
  ps__law_pick : g.ps 21 = (["pen", "some"] : List Str)
  fn__law_pick : FnI g 21 "_law_pick"
  ps__law_shuffled : g.ps 22 = (["pen", "some"] : List Str)
  fn__law_shuffled : FnI g 22 "_law_shuffled"
  ps__law_pairs : g.ps 23 = (["n"] : List Str)
  fn__law_pairs : FnI g 23 "_law_pairs"
  ps__law_some_order : g.ps 24 = (["pen", "n"] : List Str)
  fn__law_some_order : FnI g 24 "_law_some_order"
  ps__law_listed : g.ps 25 = (["pen", "row"] : List Str)
  fn__law_listed : FnI g 25 "_law_listed"
  ps__law_is_ints : g.ps 26 = (["value"] : List Str)
  fn__law_is_ints : FnI g 26 "_law_is_ints"
  ps__law_is_fault : g.ps 27 = (["told", "due"] : List Str)
  fn__law_is_fault : FnI g 27 "_law_is_fault"
  ps__law_mirrors : g.ps 28 = (["w"] : List Str)
  fn__law_mirrors : FnI g 28 "_law_mirrors"
  ps__law_room : g.ps 29 = (["mirrors", "x"] : List Str)
  fn__law_room : FnI g 29 "_law_room"
  ps__law_lesser : g.ps 30 = (["w", "pairs", "a", "b"] : List Str)
  fn__law_lesser : FnI g 30 "_law_lesser"
  ps__law_inside_due : g.ps 32 = (["w", "pairs", "order"] : List Str)
  fn__law_inside_due : FnI g 32 "_law_inside_due"
  ps__law_around_due : g.ps 33 = (["w", "pairs", "places"] : List Str)
  fn__law_around_due : FnI g 33 "_law_around_due"
  ps__law_own_ring : g.ps 34 = (["w", "pairs"] : List Str)
  fn__law_own_ring : FnI g 34 "_law_own_ring"
  ps__law_bent_order : g.ps 35 = (["pen", "order"] : List Str)
  fn__law_bent_order : FnI g 35 "_law_bent_order"
  ps__law_bent_places : g.ps 36 = (["pen", "n", "places"] : List Str)
  fn__law_bent_places : FnI g 36 "_law_bent_places"
  ra_BadRow : RaK g 1 "BadRow" "value"
  hd_BadRow : ∀ K mg, g.M K mg → mg "BadRow" = some (.ref (g.gc 1)) ∧ XfC K (g.gc 1) ∧ PySem.W.findIn K (.ref (g.gc 1)) "value" = some none
  ra_BadOrder : RaK g 2 "BadOrder" "value"
  hd_BadOrder : ∀ K mg, g.M K mg → mg "BadOrder" = some (.ref (g.gc 2)) ∧ XfC K (g.gc 2) ∧ PySem.W.findIn K (.ref (g.gc 2)) "value" = some none
  ra_NotSame : RaK g 3 "NotSame" "order"
  hd_NotSame : ∀ K mg, g.M K mg → mg "NotSame" = some (.ref (g.gc 3)) ∧ XfC K (g.gc 3) ∧ PySem.W.findIn K (.ref (g.gc 3)) "order" = some none
  ra_BadPair : RaK g 4 "BadPair" "item"
  hd_BadPair : ∀ K mg, g.M K mg → mg "BadPair" = some (.ref (g.gc 4)) ∧ XfC K (g.gc 4) ∧ PySem.W.findIn K (.ref (g.gc 4)) "item" = some none
  exm : ∀ K mg, g.M K mg → ∀ c' ∈ errCs, ∀ c ∈ errCs, PySem.W.exmOne K (.ref (g.gc c)) (.ref (g.gc c')) = some (c == c')
  lam0 : g.P.lam 0 = lm_0
  lam1 : g.P.lam 1 = lm_1
  lam2 : g.P.lam 2 = lm_2
structure Tx (g : Stat) : Prop extends Tx0 g where
  ca__law_complaint : CaK g 31 "_law_complaint" "call" nm__law_complaint (defScope st__law_complaint) (defBody st__law_complaint) bd__law_complaint
section
variable {g : Stat}
theorem dv_is_integer (T : Tx g) : FSs g nm_is_integer (defScope st_is_integer) (defBody st_is_integer) bd_is_integer :=
  fss_one (fs_ret (fe_bool (fb_and (fe_isInst1 (fe_var 0 rfl (by first | exact .inl rfl | exact .inr (.inl rfl) | exact .inr (.inr rfl))) (.bi (by rfl) T.no_int (by decide +kernel) rfl (by decide) (by decide) rfl) T.is_int (by rfl) T.no_isinstance) (fb_and1 (fe_not (fe_isInst1 (fe_var 0 rfl (by first | exact .inl rfl | exact .inr (.inl rfl) | exact .inr (.inr rfl))) (.bi (by rfl) T.no_bool (by decide +kernel) rfl (by decide) (by decide) rfl) T.is_bool (by rfl) T.no_isinstance))))))
theorem dv_is_row (T : Tx g) : FSs g nm_is_row (defScope st_is_row) (defBody st_is_row) bd_is_row :=
  fss_one (fs_ret (fe_isInst (fe_var 0 rfl (by first | exact .inl rfl | exact .inr (.inl rfl) | exact .inr (.inr rfl))) (.cons (.bi (by rfl) T.no_list (by decide +kernel) rfl (by decide) (by decide) rfl) (.cons (.bi (by rfl) T.no_tuple (by decide +kernel) rfl (by decide) (by decide) rfl) (.nil))) T.is_list_tuple (by decide) (by rfl) T.no_isinstance))
theorem dv_is_order (T : Tx g) : FSs g nm_is_order (defScope st_is_order) (defBody st_is_order) bd_is_order :=
  fss_cons (fs_if (fe_bool (fb_or (fe_not (fe_call T.fn_is_row (by rfl) (.cons (fe_var 0 rfl (by first | exact .inl rfl | exact .inr (.inl rfl) | exact .inr (.inr rfl))) (.nil)) (by rw [T.ps_is_row]; rfl))) (fb_or (fe_not (fe_chain .le .le (fe_int) (fe_biB bi_len (by rfl) T.no_len (by decide +kernel) (.cons (fe_var 0 rfl (by first | exact .inl rfl | exact .inr (.inl rfl) | exact .inr (.inr rfl))) (.nil)) (by decide) (by decide)) (fe_gint (by rfl) T.k_MOST) rfl)) (fb_or1 (fe_not (fe_biB bi_all (by rfl) T.no_all (by decide +kernel) (.cons (fe_comp (own := [("item", 1)]) (fi_seq (fe_var 0 rfl (by first | exact .inl rfl | exact .inr (.inl rfl) | exact .inr (.inr rfl))) (fun _ _ => rfl)) (by decide +kernel) (fg_name 1 rfl (by first | exact .inl rfl | exact .inr rfl) (by first | exact .inr rfl | exact .inl rfl)) .none (fe_call T.fn_is_integer (by rfl) (.cons (fe_var 1 rfl (by first | exact .inl rfl | exact .inr (.inl rfl) | exact .inr (.inr rfl))) (.nil)) (by rw [T.ps_is_integer]; rfl)) (by decide)) (.nil)) (by decide) (by decide))))))) (fss_one (fs_ret (fe_bl))) (fss_nil))
  (fss_one (fs_ret (fe_cmp .eq (fe_biB bi_sorted (by rfl) T.no_sorted (by decide +kernel) (.cons (fe_var 0 rfl (by first | exact .inl rfl | exact .inr (.inl rfl) | exact .inr (.inr rfl))) (.nil)) (by decide) (by decide)) (fe_rng1 false (by rfl) T.no_list (by rfl) T.no_range (fe_biB bi_len (by rfl) T.no_len (by decide +kernel) (.cons (fe_var 0 rfl (by first | exact .inl rfl | exact .inr (.inl rfl) | exact .inr (.inr rfl))) (.nil)) (by decide) (by decide))) rfl)))
theorem dv_need_orders (T : Tx g) : FSs g nm_need_orders (defScope st_need_orders) (defBody st_need_orders) bd_need_orders :=
  fss_cons (fs_box 1 rfl (by first | exact .inl rfl | exact .inr rfl) (fe_lst (.nil)) (fun _ _ => rfl))
  (fss_cons (fs_for (fi_seq (fe_var 0 rfl (by first | exact .inl rfl | exact .inr (.inl rfl) | exact .inr (.inr rfl))) (fun _ _ => rfl)) (fg_name 2 rfl (by first | exact .inl rfl | exact .inr rfl) (.inl rfl)) (fss_cons (fs_if (fe_not (fe_call T.fn_is_order (by rfl) (.cons (fe_var 2 rfl (by first | exact .inl rfl | exact .inr (.inl rfl) | exact .inr (.inr rfl))) (.nil)) (by rw [T.ps_is_order]; rfl))) (fss_one (fs_raise T.ra_BadOrder (by rfl) (fe_var 2 rfl (by first | exact .inl rfl | exact .inr (.inl rfl) | exact .inr (.inr rfl))))) (fss_nil))
  (fss_cons (fs_expr (fe_mt PySem.F.slot_list_append PySem.F.type_list_append mo_append (fe_var 1 rfl (by first | exact .inl rfl | exact .inr (.inl rfl) | exact .inr (.inr rfl))) (.cons (fe_biT bi_tuple (by rfl) T.no_tuple (by decide +kernel) (.cons (fe_var 2 rfl (by first | exact .inl rfl | exact .inr (.inl rfl) | exact .inr (.inr rfl))) (.nil)) (by decide) (by decide)) (.nil)) (fun _ => rfl) (fun _ => rfl) rfl) (fun _ _ => rfl))
  (fss_one (fs_if (fe_cmp .ne (fe_biB bi_len (by rfl) T.no_len (by decide +kernel) (.cons (fe_var 2 rfl (by first | exact .inl rfl | exact .inr (.inl rfl) | exact .inr (.inr rfl))) (.nil)) (by decide) (by decide)) (fe_biB bi_len (by rfl) T.no_len (by decide +kernel) (.cons (fe_ix (fe_var 1 rfl (by first | exact .inl rfl | exact .inr (.inl rfl) | exact .inr (.inr rfl))) (fe_int) (fun _ _ => rfl)) (.nil)) (by decide) (by decide)) rfl) (fss_one (fs_raise T.ra_NotSame (by rfl) (fe_ix (fe_var 1 rfl (by first | exact .inl rfl | exact .inr (.inl rfl) | exact .inr (.inr rfl))) (fe_neg (fe_int)) (fun _ _ => rfl)))) (fss_nil))))))
  (fss_one (fs_ret (fe_take 1 rfl (by first | exact .inl rfl | exact .inr (.inl rfl) | exact .inr (.inr rfl))))))
theorem dv_need_order (T : Tx g) : FSs g nm_need_order (defScope st_need_order) (defBody st_need_order) bd_need_order :=
  fss_one (fs_ret (fe_ix (fe_call T.fn_need_orders (by rfl) (.cons (fe_lst (.cons (fe_var 0 rfl (by first | exact .inl rfl | exact .inr (.inl rfl) | exact .inr (.inr rfl))) (.nil))) (.nil)) (by rw [T.ps_need_orders]; rfl)) (fe_int) (fun _ _ => rfl)))
theorem dv_all_pairs (T : Tx g) : FSs g nm_all_pairs (defScope st_all_pairs) (defBody st_all_pairs) bd_all_pairs :=
  fss_one (fs_ret (fe_comp2 (own := [("i", 1), ("j", 2)]) (vs1 := [2]) (fi_range1 (fe_var 0 rfl (by first | exact .inl rfl | exact .inr (.inl rfl) | exact .inr (.inr rfl))) (by rfl) T.no_range) (by decide +kernel) (by decide) (fg_name 1 rfl (by first | exact .inl rfl | exact .inr rfl) (by first | exact .inr rfl | exact .inl rfl)) (fi_range2 (fe_bin .add (fe_var 1 rfl (by first | exact .inl rfl | exact .inr (.inl rfl) | exact .inr (.inr rfl))) (fe_int)) (fe_var 0 rfl (by first | exact .inl rfl | exact .inr (.inl rfl) | exact .inr (.inr rfl))) (by rfl) T.no_range) (fg_name 2 rfl (by first | exact .inl rfl | exact .inr rfl) (by first | exact .inr rfl | exact .inl rfl)) .none (fe_tup (.cons (fe_var 1 rfl (by first | exact .inl rfl | exact .inr (.inl rfl) | exact .inr (.inr rfl))) (.cons (fe_var 2 rfl (by first | exact .inl rfl | exact .inr (.inl rfl) | exact .inr (.inr rfl))) (.nil)))) (by decide) (by decide)))
theorem dv_turned_pairs (T : Tx g) : FSs g nm_turned_pairs (defScope st_turned_pairs) (defBody st_turned_pairs) bd_turned_pairs :=
  fss_one (fs_ret (fe_biT bi_tuple (by rfl) T.no_tuple (by decide +kernel) (.cons (fe_comp (own := [("i", 1), ("j", 2)]) (fi_seq (fe_call T.fn_all_pairs (by rfl) (.cons (fe_biB bi_len (by rfl) T.no_len (by decide +kernel) (.cons (fe_var 0 rfl (by first | exact .inl rfl | exact .inr (.inl rfl) | exact .inr (.inr rfl))) (.nil)) (by decide) (by decide)) (.nil)) (by rw [T.ps_all_pairs]; rfl)) (fun _ _ => rfl)) (by decide +kernel) (fg_names (.cons rfl (by first | exact .inl rfl | exact .inr rfl) (by first | exact .inr rfl | exact .inl rfl) (.cons rfl (by first | exact .inl rfl | exact .inr rfl) (by first | exact .inr rfl | exact .inl rfl) (.nil)))) (.some (fe_cmp .gt (fe_ix (fe_var 0 rfl (by first | exact .inl rfl | exact .inr (.inl rfl) | exact .inr (.inr rfl))) (fe_var 1 rfl (by first | exact .inl rfl | exact .inr (.inl rfl) | exact .inr (.inr rfl))) (fun _ _ => rfl)) (fe_ix (fe_var 0 rfl (by first | exact .inl rfl | exact .inr (.inl rfl) | exact .inr (.inr rfl))) (fe_var 2 rfl (by first | exact .inl rfl | exact .inr (.inl rfl) | exact .inr (.inr rfl))) (fun _ _ => rfl)) rfl)) (fe_tup (.cons (fe_var 1 rfl (by first | exact .inl rfl | exact .inr (.inl rfl) | exact .inr (.inr rfl))) (.cons (fe_var 2 rfl (by first | exact .inl rfl | exact .inr (.inl rfl) | exact .inr (.inr rfl))) (.nil)))) (by decide)) (.nil)) (by decide) (by decide)))
theorem dv_kept_row (T : Tx g) : FSs g nm_kept_row (defScope st_kept_row) (defBody st_kept_row) bd_kept_row :=
  fss_one (fs_ret (fe_if (fe_call T.fn_is_row (by rfl) (.cons (fe_var 0 rfl (by first | exact .inl rfl | exact .inr (.inl rfl) | exact .inr (.inr rfl))) (.nil)) (by rw [T.ps_is_row]; rfl)) (fe_biT bi_tuple (by rfl) T.no_tuple (by decide +kernel) (.cons (fe_var 0 rfl (by first | exact .inl rfl | exact .inr (.inl rfl) | exact .inr (.inr rfl))) (.nil)) (by decide) (by decide)) (fe_var 0 rfl (by first | exact .inl rfl | exact .inr (.inl rfl) | exact .inr (.inr rfl)))))
theorem dv_Inside_init (T : Tx g) : FSs g nm_Inside_init (defScope st_Inside_init) (defBody st_Inside_init) bd_Inside_init :=
  fss_one (fs_fld [5] (fe_var 0 rfl (by first | exact .inl rfl | exact .inr (.inl rfl) | exact .inr (.inr rfl))) (fe_call T.fn_kept_row (by rfl) (.cons (fe_var 1 rfl (by first | exact .inl rfl | exact .inr (.inl rfl) | exact .inr (.inr rfl))) (.nil)) (by rw [T.ps_kept_row]; rfl)) T.f_order (fun _ _ => rfl))
theorem dv_Inside_eq (T : Tx g) : FSs g nm_Inside_eq (defScope st_Inside_eq) (defBody st_Inside_eq) bd_Inside_eq :=
  fss_one (fs_ret (fe_bool (fb_and (fe_isInst1 (fe_var 1 rfl (by first | exact .inl rfl | exact .inr (.inl rfl) | exact .inr (.inr rfl))) (.own (by rfl) T.c_Inside rfl) T.is_Inside (by rfl) T.no_isinstance) (fb_and1 (fe_cmp .eq (fe_fld [5] (fe_var 0 rfl (by first | exact .inl rfl | exact .inr (.inl rfl) | exact .inr (.inr rfl))) T.f_order (fun _ => rfl)) (fe_fld [5] (fe_var 1 rfl (by first | exact .inl rfl | exact .inr (.inl rfl) | exact .inr (.inr rfl))) T.f_order (fun _ => rfl)) rfl)))))
theorem dv_Around_init (T : Tx g) : FSs g nm_Around_init (defScope st_Around_init) (defBody st_Around_init) bd_Around_init :=
  fss_one (fs_fld [6] (fe_var 0 rfl (by first | exact .inl rfl | exact .inr (.inl rfl) | exact .inr (.inr rfl))) (fe_call T.fn_kept_row (by rfl) (.cons (fe_var 1 rfl (by first | exact .inl rfl | exact .inr (.inl rfl) | exact .inr (.inr rfl))) (.nil)) (by rw [T.ps_kept_row]; rfl)) T.f_places (fun _ _ => rfl))
theorem dv_Around_eq (T : Tx g) : FSs g nm_Around_eq (defScope st_Around_eq) (defBody st_Around_eq) bd_Around_eq :=
  fss_one (fs_ret (fe_bool (fb_and (fe_isInst1 (fe_var 1 rfl (by first | exact .inl rfl | exact .inr (.inl rfl) | exact .inr (.inr rfl))) (.own (by rfl) T.c_Around rfl) T.is_Around (by rfl) T.no_isinstance) (fb_and1 (fe_cmp .eq (fe_fld [6] (fe_var 0 rfl (by first | exact .inl rfl | exact .inr (.inl rfl) | exact .inr (.inr rfl))) T.f_places (fun _ => rfl)) (fe_fld [6] (fe_var 1 rfl (by first | exact .inl rfl | exact .inr (.inl rfl) | exact .inr (.inr rfl))) T.f_places (fun _ => rfl)) rfl)))))
theorem dv_turned_in (T : Tx g) : FSs g nm_turned_in (defScope st_turned_in) (defBody st_turned_in) bd_turned_in :=
  fss_one (fs_ret (fe_biT bi_tuple (by rfl) T.no_tuple (by decide +kernel) (.cons (fe_comp (own := [("pair", 2)]) (fi_seq (fe_var 0 rfl (by first | exact .inl rfl | exact .inr (.inl rfl) | exact .inr (.inr rfl))) (fun _ _ => rfl)) (by decide +kernel) (fg_name 2 rfl (by first | exact .inl rfl | exact .inr rfl) (by first | exact .inr rfl | exact .inl rfl)) (.some (fe_cmp .gt (fe_ix (fe_var 1 rfl (by first | exact .inl rfl | exact .inr (.inl rfl) | exact .inr (.inr rfl))) (fe_ix (fe_var 2 rfl (by first | exact .inl rfl | exact .inr (.inl rfl) | exact .inr (.inr rfl))) (fe_int) (fun _ _ => rfl)) (fun _ _ => rfl)) (fe_ix (fe_var 1 rfl (by first | exact .inl rfl | exact .inr (.inl rfl) | exact .inr (.inr rfl))) (fe_ix (fe_var 2 rfl (by first | exact .inl rfl | exact .inr (.inl rfl) | exact .inr (.inr rfl))) (fe_int) (fun _ _ => rfl)) (fun _ _ => rfl)) rfl)) (fe_var 2 rfl (by first | exact .inl rfl | exact .inr (.inl rfl) | exact .inr (.inr rfl))) (by decide)) (.nil)) (by decide) (by decide)))
theorem dv_checked_pairs (T : Tx g) : FSs g nm_checked_pairs (defScope st_checked_pairs) (defBody st_checked_pairs) bd_checked_pairs :=
  fss_cons (fs_if (fe_not (fe_call T.fn_is_row (by rfl) (.cons (fe_var 1 rfl (by first | exact .inl rfl | exact .inr (.inl rfl) | exact .inr (.inr rfl))) (.nil)) (by rw [T.ps_is_row]; rfl))) (fss_one (fs_raise T.ra_BadRow (by rfl) (fe_var 1 rfl (by first | exact .inl rfl | exact .inr (.inl rfl) | exact .inr (.inr rfl))))) (fss_nil))
  (fss_cons (fs_set 2 rfl (by first | exact .inl rfl | exact .inr rfl) (fe_call T.fn_turned_pairs (by rfl) (.cons (fe_var 0 rfl (by first | exact .inl rfl | exact .inr (.inl rfl) | exact .inr (.inr rfl))) (.nil)) (by rw [T.ps_turned_pairs]; rfl)) (fun _ _ => rfl))
  (fss_cons (fs_for (fi_enum (fe_var 1 rfl (by first | exact .inl rfl | exact .inr (.inl rfl) | exact .inr (.inr rfl))) (by rfl) T.no_enumerate) (fg_names (.cons rfl (by first | exact .inl rfl | exact .inr rfl) (.inl rfl) (.cons rfl (by first | exact .inl rfl | exact .inr rfl) (.inl rfl) (.nil)))) (fss_one (fs_if (fe_bool (fb_or (fe_not (fe_call T.fn_is_mirror (by rfl) (.cons (fe_var 2 rfl (by first | exact .inl rfl | exact .inr (.inl rfl) | exact .inr (.inr rfl))) (.cons (fe_var 4 rfl (by first | exact .inl rfl | exact .inr (.inl rfl) | exact .inr (.inr rfl))) (.nil))) (by rw [T.ps_is_mirror]; rfl))) (fb_or1 (fe_cmp .isIn (fe_var 4 rfl (by first | exact .inl rfl | exact .inr (.inl rfl) | exact .inr (.inr rfl))) (fe_slice (fe_var 1 rfl (by first | exact .inl rfl | exact .inr (.inl rfl) | exact .inr (.inr rfl))) .none (.some (fe_var 3 rfl (by first | exact .inl rfl | exact .inr (.inl rfl) | exact .inr (.inr rfl))))) rfl)))) (fss_one (fs_raise T.ra_BadPair (by rfl) (fe_var 4 rfl (by first | exact .inl rfl | exact .inr (.inl rfl) | exact .inr (.inr rfl))))) (fss_nil))))
  (fss_one (fs_ret (fe_biT bi_list (by rfl) T.no_list (by decide +kernel) (.cons (fe_var 1 rfl (by first | exact .inl rfl | exact .inr (.inl rfl) | exact .inr (.inr rfl))) (.nil)) (by decide) (by decide))))))
theorem dv_is_mirror (T : Tx g) : FSs g nm_is_mirror (defScope st_is_mirror) (defBody st_is_mirror) bd_is_mirror :=
  fss_cons (fs_if (fe_bool (fb_or (fe_not (fe_isInst1 (fe_var 1 rfl (by first | exact .inl rfl | exact .inr (.inl rfl) | exact .inr (.inr rfl))) (.bi (by rfl) T.no_tuple (by decide +kernel) rfl (by decide) (by decide) rfl) T.is_tuple (by rfl) T.no_isinstance)) (fb_or (fe_cmp .ne (fe_biB bi_len (by rfl) T.no_len (by decide +kernel) (.cons (fe_var 1 rfl (by first | exact .inl rfl | exact .inr (.inl rfl) | exact .inr (.inr rfl))) (.nil)) (by decide) (by decide)) (fe_int) rfl) (fb_or1 (fe_not (fe_biB bi_all (by rfl) T.no_all (by decide +kernel) (.cons (fe_comp (own := [("item", 2)]) (fi_seq (fe_var 1 rfl (by first | exact .inl rfl | exact .inr (.inl rfl) | exact .inr (.inr rfl))) (fun _ _ => rfl)) (by decide +kernel) (fg_name 2 rfl (by first | exact .inl rfl | exact .inr rfl) (by first | exact .inr rfl | exact .inl rfl)) .none (fe_call T.fn_is_integer (by rfl) (.cons (fe_var 2 rfl (by first | exact .inl rfl | exact .inr (.inl rfl) | exact .inr (.inr rfl))) (.nil)) (by rw [T.ps_is_integer]; rfl)) (by decide)) (.nil)) (by decide) (by decide))))))) (fss_one (fs_ret (fe_bl))) (fss_nil))
  (fss_one (fs_ret (fe_cmp .isIn (fe_var 1 rfl (by first | exact .inl rfl | exact .inr (.inl rfl) | exact .inr (.inr rfl))) (fe_var 0 rfl (by first | exact .inl rfl | exact .inr (.inl rfl) | exact .inr (.inr rfl))) rfl)))
theorem dv_lesser_ones (T : Tx g) : FSs g nm_lesser_ones (defScope st_lesser_ones) (defBody st_lesser_ones) bd_lesser_ones :=
  fss_cons (fs_box 4 rfl (by first | exact .inl rfl | exact .inr rfl) (fe_lst (.nil)) (fun _ _ => rfl))
  (fss_cons (fs_for (fi_seq (fe_call T.fn_turned_pairs (by rfl) (.cons (fe_var 0 rfl (by first | exact .inl rfl | exact .inr (.inl rfl) | exact .inr (.inr rfl))) (.nil)) (by rw [T.ps_turned_pairs]; rfl)) (fun _ _ => rfl)) (fg_names (.cons rfl (by first | exact .inl rfl | exact .inr rfl) (.inl rfl) (.cons rfl (by first | exact .inl rfl | exact .inr rfl) (.inl rfl) (.nil)))) (fss_cons (fs_unpack (.cons rfl (by first | exact .inl rfl | exact .inr rfl) (.inl rfl) (.cons rfl (by first | exact .inl rfl | exact .inr rfl) (.inl rfl) (.nil))) (fe_if (fe_cmp .isIn (fe_tup (.cons (fe_var 5 rfl (by first | exact .inl rfl | exact .inr (.inl rfl) | exact .inr (.inr rfl))) (.cons (fe_var 6 rfl (by first | exact .inl rfl | exact .inr (.inl rfl) | exact .inr (.inr rfl))) (.nil)))) (fe_var 1 rfl (by first | exact .inl rfl | exact .inr (.inl rfl) | exact .inr (.inr rfl))) rfl) (fe_tup (.cons (fe_var 6 rfl (by first | exact .inl rfl | exact .inr (.inl rfl) | exact .inr (.inr rfl))) (.cons (fe_var 5 rfl (by first | exact .inl rfl | exact .inr (.inl rfl) | exact .inr (.inr rfl))) (.nil)))) (fe_tup (.cons (fe_var 5 rfl (by first | exact .inl rfl | exact .inr (.inl rfl) | exact .inr (.inr rfl))) (.cons (fe_var 6 rfl (by first | exact .inl rfl | exact .inr (.inl rfl) | exact .inr (.inr rfl))) (.nil))))) (fun _ _ => rfl) (fun env h => by cases env; cases h; rfl) (fun _ => rfl))
  (fss_one (fs_if (fe_bool (fb_and (fe_cmp .eq (fe_var 8 rfl (by first | exact .inl rfl | exact .inr (.inl rfl) | exact .inr (.inr rfl))) (fe_var 2 rfl (by first | exact .inl rfl | exact .inr (.inl rfl) | exact .inr (.inr rfl))) rfl) (fb_and1 (fe_cmp .isIn (fe_var 7 rfl (by first | exact .inl rfl | exact .inr (.inl rfl) | exact .inr (.inr rfl))) (fe_var 3 rfl (by first | exact .inl rfl | exact .inr (.inl rfl) | exact .inr (.inr rfl))) rfl)))) (fss_one (fs_expr (fe_mt PySem.F.slot_list_append PySem.F.type_list_append mo_append (fe_var 4 rfl (by first | exact .inl rfl | exact .inr (.inl rfl) | exact .inr (.inr rfl))) (.cons (fe_var 7 rfl (by first | exact .inl rfl | exact .inr (.inl rfl) | exact .inr (.inr rfl))) (.nil)) (fun _ => rfl) (fun _ => rfl) rfl) (fun _ _ => rfl))) (fss_nil)))))
  (fss_one (fs_ret (fe_take 4 rfl (by first | exact .inl rfl | exact .inr (.inl rfl) | exact .inr (.inr rfl))))))
theorem dv_first_unlike (T : Tx g) : FSs g nm_first_unlike (defScope st_first_unlike) (defBody st_first_unlike) bd_first_unlike :=
  fss_cons (fs_for (fi_seq (fe_var 0 rfl (by first | exact .inl rfl | exact .inr (.inl rfl) | exact .inr (.inr rfl))) (fun _ _ => rfl)) (fg_name 3 rfl (by first | exact .inl rfl | exact .inr rfl) (.inl rfl)) (fss_one (fs_if (fe_cmp .ne (fe_cmp .isIn (fe_var 3 rfl (by first | exact .inl rfl | exact .inr (.inl rfl) | exact .inr (.inr rfl))) (fe_var 1 rfl (by first | exact .inl rfl | exact .inr (.inl rfl) | exact .inr (.inr rfl))) rfl) (fe_cmp .isIn (fe_var 3 rfl (by first | exact .inl rfl | exact .inr (.inl rfl) | exact .inr (.inr rfl))) (fe_var 2 rfl (by first | exact .inl rfl | exact .inr (.inl rfl) | exact .inr (.inr rfl))) rfl) rfl) (fss_one (fs_ret (fe_tup (.cons (fe_str) (.cons (fe_ix (fe_var 3 rfl (by first | exact .inl rfl | exact .inr (.inl rfl) | exact .inr (.inr rfl))) (fe_int) (fun _ _ => rfl)) (.cons (fe_ix (fe_var 3 rfl (by first | exact .inl rfl | exact .inr (.inl rfl) | exact .inr (.inr rfl))) (fe_int) (fun _ _ => rfl)) (.nil))))))) (fss_nil))))
  (fss_one (fs_ret (fe_non)))
theorem dv_around_fault (T : Tx g) : FSs g nm_around_fault (defScope st_around_fault) (defBody st_around_fault) bd_around_fault :=
  fss_cons (fs_if (fe_bool (fb_or (fe_not (fe_call T.fn_is_row (by rfl) (.cons (fe_var 2 rfl (by first | exact .inl rfl | exact .inr (.inl rfl) | exact .inr (.inr rfl))) (.nil)) (by rw [T.ps_is_row]; rfl))) (fb_or (fe_cmp .lt (fe_biB bi_len (by rfl) T.no_len (by decide +kernel) (.cons (fe_var 2 rfl (by first | exact .inl rfl | exact .inr (.inl rfl) | exact .inr (.inr rfl))) (.nil)) (by decide) (by decide)) (fe_int) rfl) (fb_or1 (fe_not (fe_biB bi_all (by rfl) T.no_all (by decide +kernel) (.cons (fe_comp (own := [("item", 6)]) (fi_seq (fe_var 2 rfl (by first | exact .inl rfl | exact .inr (.inl rfl) | exact .inr (.inr rfl))) (fun _ _ => rfl)) (by decide +kernel) (fg_name 6 rfl (by first | exact .inl rfl | exact .inr rfl) (by first | exact .inr rfl | exact .inl rfl)) .none (fe_bool (fb_and (fe_call T.fn_is_integer (by rfl) (.cons (fe_var 6 rfl (by first | exact .inl rfl | exact .inr (.inl rfl) | exact .inr (.inr rfl))) (.nil)) (by rw [T.ps_is_integer]; rfl)) (fb_and1 (fe_chain .le .lt (fe_int) (fe_var 6 rfl (by first | exact .inl rfl | exact .inr (.inl rfl) | exact .inr (.inr rfl))) (fe_biB bi_len (by rfl) T.no_len (by decide +kernel) (.cons (fe_var 0 rfl (by first | exact .inl rfl | exact .inr (.inl rfl) | exact .inr (.inr rfl))) (.nil)) (by decide) (by decide)) rfl)))) (by decide)) (.nil)) (by decide) (by decide))))))) (fss_one (fs_ret (fe_tup (.cons (fe_str) (.nil))))) (fss_nil))
  (fss_cons (fs_if (fe_cmp .ne (fe_lenSet (fe_var 2 rfl (by first | exact .inl rfl | exact .inr (.inl rfl) | exact .inr (.inr rfl))) (by rfl) T.no_len (by rfl) T.no_set) (fe_biB bi_len (by rfl) T.no_len (by decide +kernel) (.cons (fe_var 2 rfl (by first | exact .inl rfl | exact .inr (.inl rfl) | exact .inr (.inr rfl))) (.nil)) (by decide) (by decide)) rfl) (fss_one (fs_ret (fe_tup (.cons (fe_str) (.nil))))) (fss_nil))
  (fss_cons (fs_for (fi_enum (fe_var 2 rfl (by first | exact .inl rfl | exact .inr (.inl rfl) | exact .inr (.inr rfl))) (by rfl) T.no_enumerate) (fg_names (.cons rfl (by first | exact .inl rfl | exact .inr rfl) (.inl rfl) (.cons rfl (by first | exact .inl rfl | exact .inr rfl) (.inl rfl) (.nil)))) (fss_cons (fs_set 5 rfl (by first | exact .inl rfl | exact .inr rfl) (fe_if (fe_cmp .lt (fe_bin .add (fe_var 3 rfl (by first | exact .inl rfl | exact .inr (.inl rfl) | exact .inr (.inr rfl))) (fe_int)) (fe_biB bi_len (by rfl) T.no_len (by decide +kernel) (.cons (fe_var 2 rfl (by first | exact .inl rfl | exact .inr (.inl rfl) | exact .inr (.inr rfl))) (.nil)) (by decide) (by decide)) rfl) (fe_ix (fe_var 2 rfl (by first | exact .inl rfl | exact .inr (.inl rfl) | exact .inr (.inr rfl))) (fe_bin .add (fe_var 3 rfl (by first | exact .inl rfl | exact .inr (.inl rfl) | exact .inr (.inr rfl))) (fe_int)) (fun _ _ => rfl)) (fe_ix (fe_var 2 rfl (by first | exact .inl rfl | exact .inr (.inl rfl) | exact .inr (.inr rfl))) (fe_int) (fun _ _ => rfl))) (fun _ _ => rfl))
  (fss_one (fs_if (fe_cmp .notIn (fe_var 4 rfl (by first | exact .inl rfl | exact .inr (.inl rfl) | exact .inr (.inr rfl))) (fe_call T.fn_lesser_ones (by rfl) (.cons (fe_var 0 rfl (by first | exact .inl rfl | exact .inr (.inl rfl) | exact .inr (.inr rfl))) (.cons (fe_var 1 rfl (by first | exact .inl rfl | exact .inr (.inl rfl) | exact .inr (.inr rfl))) (.cons (fe_var 5 rfl (by first | exact .inl rfl | exact .inr (.inl rfl) | exact .inr (.inr rfl))) (.cons (fe_rng1 false (by rfl) T.no_list (by rfl) T.no_range (fe_biB bi_len (by rfl) T.no_len (by decide +kernel) (.cons (fe_var 0 rfl (by first | exact .inl rfl | exact .inr (.inl rfl) | exact .inr (.inr rfl))) (.nil)) (by decide) (by decide))) (.nil))))) (by rw [T.ps_lesser_ones]; rfl)) rfl) (fss_one (fs_ret (fe_tup (.cons (fe_str) (.cons (fe_var 3 rfl (by first | exact .inl rfl | exact .inr (.inl rfl) | exact .inr (.inr rfl))) (.nil)))))) (fss_nil)))))
  (fss_one (fs_ret (fe_non)))))
theorem dv_room_fault (T : Tx g) : FSs g nm_room_fault (defScope st_room_fault) (defBody st_room_fault) bd_room_fault :=
  fss_cons (fs_set 0 rfl (by first | exact .inl rfl | exact .inr rfl) (fe_call T.fn_need_order (by rfl) (.cons (fe_var 0 rfl (by first | exact .inl rfl | exact .inr (.inl rfl) | exact .inr (.inr rfl))) (.nil)) (by rw [T.ps_need_order]; rfl)) (fun _ _ => rfl))
  (fss_cons (fs_set 1 rfl (by first | exact .inl rfl | exact .inr rfl) (fe_call T.fn_checked_pairs (by rfl) (.cons (fe_var 0 rfl (by first | exact .inl rfl | exact .inr (.inl rfl) | exact .inr (.inr rfl))) (.cons (fe_var 1 rfl (by first | exact .inl rfl | exact .inr (.inl rfl) | exact .inr (.inr rfl))) (.nil))) (by rw [T.ps_checked_pairs]; rfl)) (fun _ _ => rfl))
  (fss_cons (fs_if (fe_isInst1 (fe_var 2 rfl (by first | exact .inl rfl | exact .inr (.inl rfl) | exact .inr (.inr rfl))) (.own (by rfl) T.c_Around rfl) T.is_Around (by rfl) T.no_isinstance) (fss_one (fs_ret (fe_call T.fn_around_fault (by rfl) (.cons (fe_var 0 rfl (by first | exact .inl rfl | exact .inr (.inl rfl) | exact .inr (.inr rfl))) (.cons (fe_var 1 rfl (by first | exact .inl rfl | exact .inr (.inl rfl) | exact .inr (.inr rfl))) (.cons (fe_fld [6] (fe_var 2 rfl (by first | exact .inl rfl | exact .inr (.inl rfl) | exact .inr (.inr rfl))) T.f_places (fun _ => rfl)) (.nil)))) (by rw [T.ps_around_fault]; rfl)))) (fss_nil))
  (fss_cons (fs_if (fe_not (fe_isInst1 (fe_var 2 rfl (by first | exact .inl rfl | exact .inr (.inl rfl) | exact .inr (.inr rfl))) (.own (by rfl) T.c_Inside rfl) T.is_Inside (by rfl) T.no_isinstance)) (fss_one (fs_ret (fe_tup (.cons (fe_str) (.nil))))) (fss_nil))
  (fss_cons (fs_if (fe_bool (fb_or (fe_not (fe_call T.fn_is_order (by rfl) (.cons (fe_fld [5] (fe_var 2 rfl (by first | exact .inl rfl | exact .inr (.inl rfl) | exact .inr (.inr rfl))) T.f_order (fun _ => rfl)) (.nil)) (by rw [T.ps_is_order]; rfl))) (fb_or1 (fe_cmp .ne (fe_biB bi_len (by rfl) T.no_len (by decide +kernel) (.cons (fe_fld [5] (fe_var 2 rfl (by first | exact .inl rfl | exact .inr (.inl rfl) | exact .inr (.inr rfl))) T.f_order (fun _ => rfl)) (.nil)) (by decide) (by decide)) (fe_biB bi_len (by rfl) T.no_len (by decide +kernel) (.cons (fe_var 0 rfl (by first | exact .inl rfl | exact .inr (.inl rfl) | exact .inr (.inr rfl))) (.nil)) (by decide) (by decide)) rfl)))) (fss_one (fs_ret (fe_tup (.cons (fe_str) (.nil))))) (fss_nil))
  (fss_cons (fs_set 3 rfl (by first | exact .inl rfl | exact .inr rfl) (fe_call T.fn_turned_pairs (by rfl) (.cons (fe_var 0 rfl (by first | exact .inl rfl | exact .inr (.inl rfl) | exact .inr (.inr rfl))) (.nil)) (by rw [T.ps_turned_pairs]; rfl)) (fun _ _ => rfl))
  (fss_one (fs_ret (fe_call T.fn_first_unlike (by rfl) (.cons (fe_var 3 rfl (by first | exact .inl rfl | exact .inr (.inl rfl) | exact .inr (.inr rfl))) (.cons (fe_var 1 rfl (by first | exact .inl rfl | exact .inr (.inl rfl) | exact .inr (.inr rfl))) (.cons (fe_call T.fn_turned_in (by rfl) (.cons (fe_var 3 rfl (by first | exact .inl rfl | exact .inr (.inl rfl) | exact .inr (.inr rfl))) (.cons (fe_fld [5] (fe_var 2 rfl (by first | exact .inl rfl | exact .inr (.inl rfl) | exact .inr (.inr rfl))) T.f_order (fun _ => rfl)) (.nil))) (by rw [T.ps_turned_in]; rfl)) (.nil)))) (by rw [T.ps_first_unlike]; rfl)))))))))
theorem dv__law_pen (T : Tx g) : FSs g nm__law_pen (defScope st__law_pen) (defBody st__law_pen) bd__law_pen :=
  fss_cons (fs_set 1 rfl (by first | exact .inl rfl | exact .inr rfl) (fe_int) (fun _ _ => rfl))
  (fss_cons (fs_for (fi_seq (fe_var 0 rfl (by first | exact .inl rfl | exact .inr (.inl rfl) | exact .inr (.inr rfl))) (fun _ _ => rfl)) (fg_name 2 rfl (by first | exact .inl rfl | exact .inr rfl) (.inl rfl)) (fss_one (fs_set 1 rfl (by first | exact .inl rfl | exact .inr rfl) (fe_bin .mod (fe_biT bi_int1 (by rfl) T.no_int (by decide +kernel) (.cons (fe_bin .add (fe_bin .mul (fe_var 1 rfl (by first | exact .inl rfl | exact .inr (.inl rfl) | exact .inr (.inr rfl))) (fe_int)) (fe_var 2 rfl (by first | exact .inl rfl | exact .inr (.inl rfl) | exact .inr (.inr rfl)))) (.nil)) (by decide) (by decide)) (fe_int)) (fun _ _ => rfl))))
  (fss_one (fs_ret (fe_dict (.cons (fe_biT bi_list (by rfl) T.no_list (by decide +kernel) (.cons (fe_var 0 rfl (by first | exact .inl rfl | exact .inr (.inl rfl) | exact .inr (.inr rfl))) (.nil)) (by decide) (by decide)) (.cons (fe_int) (.cons (fe_int) (.cons (fe_int) (.cons (fe_var 1 rfl (by first | exact .inl rfl | exact .inr (.inl rfl) | exact .inr (.inr rfl))) (.nil)))))) (by decide) (by decide)))))
theorem dv__law_draw (T : Tx g) : FSs g nm__law_draw (defScope st__law_draw) (defBody st__law_draw) bd__law_draw :=
  fss_cons (fs_putK (fe_var 0 rfl (by first | exact .inl rfl | exact .inr (.inl rfl) | exact .inr (.inr rfl))) (fe_bin .add (fe_key (fe_var 0 rfl (by first | exact .inl rfl | exact .inr (.inl rfl) | exact .inr (.inr rfl)))) (fe_int)) (fun _ _ => rfl))
  (fss_cons (fs_if (fe_bool (fb_and (fe_cmp .eq (fe_key (fe_var 0 rfl (by first | exact .inl rfl | exact .inr (.inl rfl) | exact .inr (.inr rfl)))) (fe_int) rfl) (fb_and1 (fe_cmp .lt (fe_key (fe_var 0 rfl (by first | exact .inl rfl | exact .inr (.inl rfl) | exact .inr (.inr rfl)))) (fe_biB bi_len (by rfl) T.no_len (by decide +kernel) (.cons (fe_key (fe_var 0 rfl (by first | exact .inl rfl | exact .inr (.inl rfl) | exact .inr (.inr rfl)))) (.nil)) (by decide) (by decide)) rfl)))) (fss_cons (fs_set 3 rfl (by first | exact .inl rfl | exact .inr rfl) (fe_ix (fe_key (fe_var 0 rfl (by first | exact .inl rfl | exact .inr (.inl rfl) | exact .inr (.inr rfl)))) (fe_key (fe_var 0 rfl (by first | exact .inl rfl | exact .inr (.inl rfl) | exact .inr (.inr rfl)))) (fun _ _ => rfl)) (fun _ _ => rfl))
  (fss_cons (fs_putK (fe_var 0 rfl (by first | exact .inl rfl | exact .inr (.inl rfl) | exact .inr (.inr rfl))) (fe_bin .add (fe_key (fe_var 0 rfl (by first | exact .inl rfl | exact .inr (.inl rfl) | exact .inr (.inr rfl)))) (fe_int)) (fun _ _ => rfl))
  (fss_one (fs_if (fe_cmp .ge (fe_var 3 rfl (by first | exact .inl rfl | exact .inr (.inl rfl) | exact .inr (.inr rfl))) (fe_bin .pow (fe_int) (fe_int)) rfl) (fss_one (fs_putK (fe_var 0 rfl (by first | exact .inl rfl | exact .inr (.inl rfl) | exact .inr (.inr rfl))) (fe_bin .sub (fe_var 3 rfl (by first | exact .inl rfl | exact .inr (.inl rfl) | exact .inr (.inr rfl))) (fe_bin .pow (fe_int) (fe_int))) (fun _ _ => rfl))) (fss_one (fs_putK (fe_var 0 rfl (by first | exact .inl rfl | exact .inr (.inl rfl) | exact .inr (.inr rfl))) (fe_bin .mod (fe_biT bi_int1 (by rfl) T.no_int (by decide +kernel) (.cons (fe_bin .add (fe_bin .mul (fe_key (fe_var 0 rfl (by first | exact .inl rfl | exact .inr (.inl rfl) | exact .inr (.inr rfl)))) (fe_int)) (fe_var 3 rfl (by first | exact .inl rfl | exact .inr (.inl rfl) | exact .inr (.inr rfl)))) (.nil)) (by decide) (by decide)) (fe_int)) (fun _ _ => rfl))))))) (fss_nil))
  (fss_cons (fs_if (fe_cmp .gt (fe_key (fe_var 0 rfl (by first | exact .inl rfl | exact .inr (.inl rfl) | exact .inr (.inr rfl)))) (fe_int) rfl) (fss_cons (fs_set 4 rfl (by first | exact .inl rfl | exact .inr rfl) (fe_bin .mod (fe_biT bi_int1 (by rfl) T.no_int (by decide +kernel) (.cons (fe_key (fe_var 0 rfl (by first | exact .inl rfl | exact .inr (.inl rfl) | exact .inr (.inr rfl)))) (.nil)) (by decide) (by decide)) (fe_var 1 rfl (by first | exact .inl rfl | exact .inr (.inl rfl) | exact .inr (.inr rfl)))) (fun _ _ => rfl))
  (fss_cons (fs_putK (fe_var 0 rfl (by first | exact .inl rfl | exact .inr (.inl rfl) | exact .inr (.inr rfl))) (fe_bin .fdiv (fe_key (fe_var 0 rfl (by first | exact .inl rfl | exact .inr (.inl rfl) | exact .inr (.inr rfl)))) (fe_var 1 rfl (by first | exact .inl rfl | exact .inr (.inl rfl) | exact .inr (.inr rfl)))) (fun _ _ => rfl))
  (fss_one (fs_ret (fe_var 4 rfl (by first | exact .inl rfl | exact .inr (.inl rfl) | exact .inr (.inr rfl))))))) (fss_nil))
  (fss_cons (fs_set 2 rfl (by first | exact .inl rfl | exact .inr rfl) (fe_bin .add (fe_bin .add (fe_key (fe_var 0 rfl (by first | exact .inl rfl | exact .inr (.inl rfl) | exact .inr (.inr rfl)))) (fe_bin .mul (fe_key (fe_var 0 rfl (by first | exact .inl rfl | exact .inr (.inl rfl) | exact .inr (.inr rfl)))) (fe_int))) (fe_int)) (fun _ _ => rfl))
  (fss_one (fs_ret (fe_bin .mod (fe_bin .fdiv (fe_biT bi_int1 (by rfl) T.no_int (by decide +kernel) (.cons (fe_bin .mod (fe_bin .pow (fe_var 2 rfl (by first | exact .inl rfl | exact .inr (.inl rfl) | exact .inr (.inr rfl))) (fe_int)) (fe_int)) (.nil)) (by decide) (by decide)) (fe_int)) (fe_var 1 rfl (by first | exact .inl rfl | exact .inr (.inl rfl) | exact .inr (.inr rfl)))))))))
theorem dv__law_pick (T : Tx g) : FSs g nm__law_pick (defScope st__law_pick) (defBody st__law_pick) bd__law_pick :=
  fss_one (fs_ret (fe_ix (fe_var 1 rfl (by first | exact .inl rfl | exact .inr (.inl rfl) | exact .inr (.inr rfl))) (fe_call T.fn__law_draw (by rfl) (.cons (fe_var 0 rfl (by first | exact .inl rfl | exact .inr (.inl rfl) | exact .inr (.inr rfl))) (.cons (fe_biB bi_len (by rfl) T.no_len (by decide +kernel) (.cons (fe_var 1 rfl (by first | exact .inl rfl | exact .inr (.inl rfl) | exact .inr (.inr rfl))) (.nil)) (by decide) (by decide)) (.nil))) (by rw [T.ps__law_draw]; rfl)) (fun _ _ => rfl)))
theorem dv__law_shuffled (T : Tx g) : FSs g nm__law_shuffled (defScope st__law_shuffled) (defBody st__law_shuffled) bd__law_shuffled :=
  fss_cons (fs_par rfl rfl (by decide) rfl rfl (fe_biT bi_list (by rfl) T.no_list (by decide +kernel) (.cons (fe_var 1 rfl (by first | exact .inl rfl | exact .inr (.inl rfl) | exact .inr (.inr rfl))) (.nil)) (by decide) (by decide)) (fe_lst (.nil)) (fun env h => by cases env; cases h; rfl) (fun env h => rfl))
  (fss_cons (fs_for (fi_range1 (fe_biB bi_len (by rfl) T.no_len (by decide +kernel) (.cons (fe_var 1 rfl (by first | exact .inl rfl | exact .inr (.inl rfl) | exact .inr (.inr rfl))) (.nil)) (by decide) (by decide)) (by rfl) T.no_range) (fg_name 2 rfl (by first | exact .inl rfl | exact .inr rfl) (.inl rfl)) (fss_one (fs_expr (fe_mt PySem.F.slot_list_append PySem.F.type_list_append mo_append (fe_var 4 rfl (by first | exact .inl rfl | exact .inr (.inl rfl) | exact .inr (.inr rfl))) (.cons (fe_mt PySem.F.slot_list_pop PySem.F.type_list_pop mo_popAt (fe_var 3 rfl (by first | exact .inl rfl | exact .inr (.inl rfl) | exact .inr (.inr rfl))) (.cons (fe_call T.fn__law_draw (by rfl) (.cons (fe_var 0 rfl (by first | exact .inl rfl | exact .inr (.inl rfl) | exact .inr (.inr rfl))) (.cons (fe_biB bi_len (by rfl) T.no_len (by decide +kernel) (.cons (fe_var 3 rfl (by first | exact .inl rfl | exact .inr (.inl rfl) | exact .inr (.inr rfl))) (.nil)) (by decide) (by decide)) (.nil))) (by rw [T.ps__law_draw]; rfl)) (.nil)) (fun _ => rfl) (fun _ => rfl) rfl) (.nil)) (fun _ => rfl) (fun _ => rfl) rfl) (fun _ _ => rfl))))
  (fss_one (fs_ret (fe_take 4 rfl (by first | exact .inl rfl | exact .inr (.inl rfl) | exact .inr (.inr rfl))))))
theorem dv__law_pairs (T : Tx g) : FSs g nm__law_pairs (defScope st__law_pairs) (defBody st__law_pairs) bd__law_pairs :=
  fss_cons (fs_set 1 rfl (by first | exact .inl rfl | exact .inr rfl) (fe_lst (.nil)) (fun _ _ => rfl))
  (fss_cons (fs_for (fi_range1 (fe_var 0 rfl (by first | exact .inl rfl | exact .inr (.inl rfl) | exact .inr (.inr rfl))) (by rfl) T.no_range) (fg_name 2 rfl (by first | exact .inl rfl | exact .inr rfl) (.inl rfl)) (fss_one (fs_set 1 rfl (by first | exact .inl rfl | exact .inr rfl) (fe_bin .add (fe_var 1 rfl (by first | exact .inl rfl | exact .inr (.inl rfl) | exact .inr (.inr rfl))) (fe_comp (own := [("j", 3)]) (fi_range2 (fe_bin .add (fe_var 2 rfl (by first | exact .inl rfl | exact .inr (.inl rfl) | exact .inr (.inr rfl))) (fe_int)) (fe_var 0 rfl (by first | exact .inl rfl | exact .inr (.inl rfl) | exact .inr (.inr rfl))) (by rfl) T.no_range) (by decide +kernel) (fg_name 3 rfl (by first | exact .inl rfl | exact .inr rfl) (by first | exact .inr rfl | exact .inl rfl)) .none (fe_tup (.cons (fe_var 2 rfl (by first | exact .inl rfl | exact .inr (.inl rfl) | exact .inr (.inr rfl))) (.cons (fe_var 3 rfl (by first | exact .inl rfl | exact .inr (.inl rfl) | exact .inr (.inr rfl))) (.nil)))) (by decide))) (fun _ _ => rfl))))
  (fss_one (fs_ret (fe_var 1 rfl (by first | exact .inl rfl | exact .inr (.inl rfl) | exact .inr (.inr rfl))))))
theorem dv__law_some_order (T : Tx g) : FSs g nm__law_some_order (defScope st__law_some_order) (defBody st__law_some_order) bd__law_some_order :=
  fss_one (fs_ret (fe_biT bi_tuple (by rfl) T.no_tuple (by decide +kernel) (.cons (fe_call T.fn__law_shuffled (by rfl) (.cons (fe_var 0 rfl (by first | exact .inl rfl | exact .inr (.inl rfl) | exact .inr (.inr rfl))) (.cons (fe_rng1 false (by rfl) T.no_list (by rfl) T.no_range (fe_var 1 rfl (by first | exact .inl rfl | exact .inr (.inl rfl) | exact .inr (.inr rfl)))) (.nil))) (by rw [T.ps__law_shuffled]; rfl)) (.nil)) (by decide) (by decide)))
theorem dv__law_listed (T : Tx g) : FSs g nm__law_listed (defScope st__law_listed) (defBody st__law_listed) bd__law_listed :=
  fss_one (fs_ret (fe_if (fe_cmp .eq (fe_call T.fn__law_draw (by rfl) (.cons (fe_var 0 rfl (by first | exact .inl rfl | exact .inr (.inl rfl) | exact .inr (.inr rfl))) (.cons (fe_int) (.nil))) (by rw [T.ps__law_draw]; rfl)) (fe_int) rfl) (fe_biT bi_list (by rfl) T.no_list (by decide +kernel) (.cons (fe_var 1 rfl (by first | exact .inl rfl | exact .inr (.inl rfl) | exact .inr (.inr rfl))) (.nil)) (by decide) (by decide)) (fe_biT bi_tuple (by rfl) T.no_tuple (by decide +kernel) (.cons (fe_var 1 rfl (by first | exact .inl rfl | exact .inr (.inl rfl) | exact .inr (.inr rfl))) (.nil)) (by decide) (by decide))))
theorem dv__law_is_ints (T : Tx g) : FSs g nm__law_is_ints (defScope st__law_is_ints) (defBody st__law_is_ints) bd__law_is_ints :=
  fss_cons (fs_if (fe_not (fe_isInst1 (fe_var 0 rfl (by first | exact .inl rfl | exact .inr (.inl rfl) | exact .inr (.inr rfl))) (.bi (by rfl) T.no_tuple (by decide +kernel) rfl (by decide) (by decide) rfl) T.is_tuple (by rfl) T.no_isinstance)) (fss_one (fs_ret (fe_bl))) (fss_nil))
  (fss_one (fs_ret (fe_cmp .eq (fe_comp (own := [("item", 1)]) (fi_seq (fe_var 0 rfl (by first | exact .inl rfl | exact .inr (.inl rfl) | exact .inr (.inr rfl))) (fun _ _ => rfl)) (by decide +kernel) (fg_name 1 rfl (by first | exact .inl rfl | exact .inr rfl) (by first | exact .inr rfl | exact .inl rfl)) (.some (fe_bool (fb_or (fe_not (fe_isInst1 (fe_var 1 rfl (by first | exact .inl rfl | exact .inr (.inl rfl) | exact .inr (.inr rfl))) (.bi (by rfl) T.no_int (by decide +kernel) rfl (by decide) (by decide) rfl) T.is_int (by rfl) T.no_isinstance)) (fb_or1 (fe_isInst1 (fe_var 1 rfl (by first | exact .inl rfl | exact .inr (.inl rfl) | exact .inr (.inr rfl))) (.bi (by rfl) T.no_bool (by decide +kernel) rfl (by decide) (by decide) rfl) T.is_bool (by rfl) T.no_isinstance))))) (fe_int) (by decide)) (fe_lst (.nil)) rfl)))
theorem dv__law_is_fault (T : Tx g) : FSs g nm__law_is_fault (defScope st__law_is_fault) (defBody st__law_is_fault) bd__law_is_fault :=
  fss_cons (fs_if (fe_isN (fe_var 1 rfl (by first | exact .inl rfl | exact .inr (.inl rfl) | exact .inr (.inr rfl)))) (fss_one (fs_ret (fe_isN (fe_var 0 rfl (by first | exact .inl rfl | exact .inr (.inl rfl) | exact .inr (.inr rfl)))))) (fss_nil))
  (fss_cons (fs_if (fe_not (fe_isInst1 (fe_var 0 rfl (by first | exact .inl rfl | exact .inr (.inl rfl) | exact .inr (.inr rfl))) (.bi (by rfl) T.no_tuple (by decide +kernel) rfl (by decide) (by decide) rfl) T.is_tuple (by rfl) T.no_isinstance)) (fss_one (fs_ret (fe_bl))) (fss_nil))
  (fss_one (fs_ret (fe_bool (fb_and (fe_cmp .eq (fe_var 0 rfl (by first | exact .inl rfl | exact .inr (.inl rfl) | exact .inr (.inr rfl))) (fe_var 1 rfl (by first | exact .inl rfl | exact .inr (.inl rfl) | exact .inr (.inr rfl))) rfl) (fb_and1 (fe_cmp .eq (fe_comp (own := [("item", 2)]) (fi_seq (fe_var 0 rfl (by first | exact .inl rfl | exact .inr (.inl rfl) | exact .inr (.inr rfl))) (fun _ _ => rfl)) (by decide +kernel) (fg_name 2 rfl (by first | exact .inl rfl | exact .inr rfl) (by first | exact .inr rfl | exact .inl rfl)) (.some (fe_bool (fb_or (fe_isInst1 (fe_var 2 rfl (by first | exact .inl rfl | exact .inr (.inl rfl) | exact .inr (.inr rfl))) (.bi (by rfl) T.no_bool (by decide +kernel) rfl (by decide) (by decide) rfl) T.is_bool (by rfl) T.no_isinstance) (fb_or1 (fe_not (fe_isInst (fe_var 2 rfl (by first | exact .inl rfl | exact .inr (.inl rfl) | exact .inr (.inr rfl))) (.cons (.bi (by rfl) T.no_int (by decide +kernel) rfl (by decide) (by decide) rfl) (.cons (.bi (by rfl) T.no_str (by decide +kernel) rfl (by decide) (by decide) rfl) (.nil))) T.is_int_str (by decide) (by rfl) T.no_isinstance)))))) (fe_int) (by decide)) (fe_lst (.nil)) rfl)))))))
theorem dv__law_mirrors (T : Tx g) : FSs g nm__law_mirrors (defScope st__law_mirrors) (defBody st__law_mirrors) bd__law_mirrors :=
  fss_one (fs_ret (fe_comp (own := [("i", 1), ("j", 2)]) (fi_seq (fe_call T.fn__law_pairs (by rfl) (.cons (fe_biB bi_len (by rfl) T.no_len (by decide +kernel) (.cons (fe_var 0 rfl (by first | exact .inl rfl | exact .inr (.inl rfl) | exact .inr (.inr rfl))) (.nil)) (by decide) (by decide)) (.nil)) (by rw [T.ps__law_pairs]; rfl)) (fun _ _ => rfl)) (by decide +kernel) (fg_names (.cons rfl (by first | exact .inl rfl | exact .inr rfl) (by first | exact .inr rfl | exact .inl rfl) (.cons rfl (by first | exact .inl rfl | exact .inr rfl) (by first | exact .inr rfl | exact .inl rfl) (.nil)))) (.some (fe_cmp .gt (fe_ix (fe_var 0 rfl (by first | exact .inl rfl | exact .inr (.inl rfl) | exact .inr (.inr rfl))) (fe_var 1 rfl (by first | exact .inl rfl | exact .inr (.inl rfl) | exact .inr (.inr rfl))) (fun _ _ => rfl)) (fe_ix (fe_var 0 rfl (by first | exact .inl rfl | exact .inr (.inl rfl) | exact .inr (.inr rfl))) (fe_var 2 rfl (by first | exact .inl rfl | exact .inr (.inl rfl) | exact .inr (.inr rfl))) (fun _ _ => rfl)) rfl)) (fe_tup (.cons (fe_var 1 rfl (by first | exact .inl rfl | exact .inr (.inl rfl) | exact .inr (.inr rfl))) (.cons (fe_var 2 rfl (by first | exact .inl rfl | exact .inr (.inl rfl) | exact .inr (.inr rfl))) (.nil)))) (by decide)))
theorem dv__law_room (T : Tx g) : FSs g nm__law_room (defScope st__law_room) (defBody st__law_room) bd__law_room :=
  fss_one (fs_ret (fe_biT bi_tuple (by rfl) T.no_tuple (by decide +kernel) (.cons (fe_comp (own := [("pair", 2)]) (fi_seq (fe_var 0 rfl (by first | exact .inl rfl | exact .inr (.inl rfl) | exact .inr (.inr rfl))) (fun _ _ => rfl)) (by decide +kernel) (fg_name 2 rfl (by first | exact .inl rfl | exact .inr rfl) (by first | exact .inr rfl | exact .inl rfl)) (.some (fe_cmp .gt (fe_ix (fe_var 1 rfl (by first | exact .inl rfl | exact .inr (.inl rfl) | exact .inr (.inr rfl))) (fe_ix (fe_var 2 rfl (by first | exact .inl rfl | exact .inr (.inl rfl) | exact .inr (.inr rfl))) (fe_int) (fun _ _ => rfl)) (fun _ _ => rfl)) (fe_ix (fe_var 1 rfl (by first | exact .inl rfl | exact .inr (.inl rfl) | exact .inr (.inr rfl))) (fe_ix (fe_var 2 rfl (by first | exact .inl rfl | exact .inr (.inl rfl) | exact .inr (.inr rfl))) (fe_int) (fun _ _ => rfl)) (fun _ _ => rfl)) rfl)) (fe_var 2 rfl (by first | exact .inl rfl | exact .inr (.inl rfl) | exact .inr (.inr rfl))) (by decide)) (.nil)) (by decide) (by decide)))
theorem dv__law_lesser (T : Tx g) : FSs g nm__law_lesser (defScope st__law_lesser) (defBody st__law_lesser) bd__law_lesser :=
  fss_cons (fs_par rfl rfl (by decide) rfl rfl (fe_biB bi_min2 (by rfl) T.no_min (by decide +kernel) (.cons (fe_var 2 rfl (by first | exact .inl rfl | exact .inr (.inl rfl) | exact .inr (.inr rfl))) (.cons (fe_var 3 rfl (by first | exact .inl rfl | exact .inr (.inl rfl) | exact .inr (.inr rfl))) (.nil))) (by decide) (by decide)) (fe_biB bi_max2 (by rfl) T.no_max (by decide +kernel) (.cons (fe_var 2 rfl (by first | exact .inl rfl | exact .inr (.inl rfl) | exact .inr (.inr rfl))) (.cons (fe_var 3 rfl (by first | exact .inl rfl | exact .inr (.inl rfl) | exact .inr (.inr rfl))) (.nil))) (by decide) (by decide)) (fun env h => by cases env; cases h; rfl) (fun env h => rfl))
  (fss_cons (fs_if (fe_bool (fb_or (fe_cmp .eq (fe_var 4 rfl (by first | exact .inl rfl | exact .inr (.inl rfl) | exact .inr (.inr rfl))) (fe_var 5 rfl (by first | exact .inl rfl | exact .inr (.inl rfl) | exact .inr (.inr rfl))) rfl) (fb_or1 (fe_not (fe_cmp .gt (fe_ix (fe_var 0 rfl (by first | exact .inl rfl | exact .inr (.inl rfl) | exact .inr (.inr rfl))) (fe_var 4 rfl (by first | exact .inl rfl | exact .inr (.inl rfl) | exact .inr (.inr rfl))) (fun _ _ => rfl)) (fe_ix (fe_var 0 rfl (by first | exact .inl rfl | exact .inr (.inl rfl) | exact .inr (.inr rfl))) (fe_var 5 rfl (by first | exact .inl rfl | exact .inr (.inl rfl) | exact .inr (.inr rfl))) (fun _ _ => rfl)) rfl))))) (fss_one (fs_ret (fe_bl))) (fss_nil))
  (fss_one (fs_ret (fe_cmp .eq (fe_cmp .isIn (fe_tup (.cons (fe_var 4 rfl (by first | exact .inl rfl | exact .inr (.inl rfl) | exact .inr (.inr rfl))) (.cons (fe_var 5 rfl (by first | exact .inl rfl | exact .inr (.inl rfl) | exact .inr (.inr rfl))) (.nil)))) (fe_var 1 rfl (by first | exact .inl rfl | exact .inr (.inl rfl) | exact .inr (.inr rfl))) rfl) (fe_cmp .gt (fe_var 2 rfl (by first | exact .inl rfl | exact .inr (.inl rfl) | exact .inr (.inr rfl))) (fe_var 3 rfl (by first | exact .inl rfl | exact .inr (.inl rfl) | exact .inr (.inr rfl))) rfl) rfl))))
theorem dv__law_complaint (T : Tx0 g) : FSs g nm__law_complaint (defScope st__law_complaint) (defBody st__law_complaint) bd__law_complaint :=
  fss_one (fs_tryAct T.rp rfl (by first | exact .inl rfl | exact .inr (.inl rfl) | exact .inr (.inr rfl)) (by decide) (by decide) rfl rfl (by decide) (by decide) (by rfl) T.no_repr (.cons (by rfl) (by decide) T.hd_BadOrder (fun _ => rfl) (.cons (by rfl) (by decide) T.hd_BadPair (fun _ => rfl) (.cons (by rfl) (by decide) T.hd_BadRow (fun _ => rfl) (.nil)))) (fun K mg h c' hc' c hc => T.exm K mg h c' (by revert hc'; revert c'; decide) c hc))
theorem dv__law_inside_due (T : Tx g) : FSs g nm__law_inside_due (defScope st__law_inside_due) (defBody st__law_inside_due) bd__law_inside_due :=
  fss_cons (fs_set 3 rfl (by first | exact .inl rfl | exact .inr rfl) (fe_biB bi_len (by rfl) T.no_len (by decide +kernel) (.cons (fe_var 0 rfl (by first | exact .inl rfl | exact .inr (.inl rfl) | exact .inr (.inr rfl))) (.nil)) (by decide) (by decide)) (fun _ _ => rfl))
  (fss_cons (fs_if (fe_bool (fb_or (fe_not (fe_isInst (fe_var 2 rfl (by first | exact .inl rfl | exact .inr (.inl rfl) | exact .inr (.inr rfl))) (.cons (.bi (by rfl) T.no_list (by decide +kernel) rfl (by decide) (by decide) rfl) (.cons (.bi (by rfl) T.no_tuple (by decide +kernel) rfl (by decide) (by decide) rfl) (.nil))) T.is_list_tuple (by decide) (by rfl) T.no_isinstance)) (fb_or1 (fe_cmp .ne (fe_biB bi_len (by rfl) T.no_len (by decide +kernel) (.cons (fe_var 2 rfl (by first | exact .inl rfl | exact .inr (.inl rfl) | exact .inr (.inr rfl))) (.nil)) (by decide) (by decide)) (fe_var 3 rfl (by first | exact .inl rfl | exact .inr (.inl rfl) | exact .inr (.inr rfl))) rfl)))) (fss_one (fs_ret (fe_tup (.cons (fe_str) (.nil))))) (fss_nil))
  (fss_cons (fs_if (fe_bool (fb_or (fe_not (fe_call T.fn__law_is_ints (by rfl) (.cons (fe_biT bi_tuple (by rfl) T.no_tuple (by decide +kernel) (.cons (fe_var 2 rfl (by first | exact .inl rfl | exact .inr (.inl rfl) | exact .inr (.inr rfl))) (.nil)) (by decide) (by decide)) (.nil)) (by rw [T.ps__law_is_ints]; rfl))) (fb_or1 (fe_cmp .ne (fe_biB bi_sorted (by rfl) T.no_sorted (by decide +kernel) (.cons (fe_var 2 rfl (by first | exact .inl rfl | exact .inr (.inl rfl) | exact .inr (.inr rfl))) (.nil)) (by decide) (by decide)) (fe_rng1 false (by rfl) T.no_list (by rfl) T.no_range (fe_var 3 rfl (by first | exact .inl rfl | exact .inr (.inl rfl) | exact .inr (.inr rfl)))) rfl)))) (fss_one (fs_ret (fe_tup (.cons (fe_str) (.nil))))) (fss_nil))
  (fss_cons (fs_for (fi_seq (fe_call T.fn__law_mirrors (by rfl) (.cons (fe_var 0 rfl (by first | exact .inl rfl | exact .inr (.inl rfl) | exact .inr (.inr rfl))) (.nil)) (by rw [T.ps__law_mirrors]; rfl)) (fun _ _ => rfl)) (fg_names (.cons rfl (by first | exact .inl rfl | exact .inr rfl) (.inl rfl) (.cons rfl (by first | exact .inl rfl | exact .inr rfl) (.inl rfl) (.nil)))) (fss_one (fs_if (fe_cmp .ne (fe_cmp .gt (fe_ix (fe_var 2 rfl (by first | exact .inl rfl | exact .inr (.inl rfl) | exact .inr (.inr rfl))) (fe_var 4 rfl (by first | exact .inl rfl | exact .inr (.inl rfl) | exact .inr (.inr rfl))) (fun _ _ => rfl)) (fe_ix (fe_var 2 rfl (by first | exact .inl rfl | exact .inr (.inl rfl) | exact .inr (.inr rfl))) (fe_var 5 rfl (by first | exact .inl rfl | exact .inr (.inl rfl) | exact .inr (.inr rfl))) (fun _ _ => rfl)) rfl) (fe_cmp .isIn (fe_tup (.cons (fe_var 4 rfl (by first | exact .inl rfl | exact .inr (.inl rfl) | exact .inr (.inr rfl))) (.cons (fe_var 5 rfl (by first | exact .inl rfl | exact .inr (.inl rfl) | exact .inr (.inr rfl))) (.nil)))) (fe_var 1 rfl (by first | exact .inl rfl | exact .inr (.inl rfl) | exact .inr (.inr rfl))) rfl) rfl) (fss_one (fs_ret (fe_tup (.cons (fe_str) (.cons (fe_var 4 rfl (by first | exact .inl rfl | exact .inr (.inl rfl) | exact .inr (.inr rfl))) (.cons (fe_var 5 rfl (by first | exact .inl rfl | exact .inr (.inl rfl) | exact .inr (.inr rfl))) (.nil))))))) (fss_nil))))
  (fss_one (fs_ret (fe_non))))))
theorem dv__law_around_due (T : Tx g) : FSs g nm__law_around_due (defScope st__law_around_due) (defBody st__law_around_due) bd__law_around_due :=
  fss_cons (fs_if (fe_bool (fb_or (fe_not (fe_isInst (fe_var 2 rfl (by first | exact .inl rfl | exact .inr (.inl rfl) | exact .inr (.inr rfl))) (.cons (.bi (by rfl) T.no_list (by decide +kernel) rfl (by decide) (by decide) rfl) (.cons (.bi (by rfl) T.no_tuple (by decide +kernel) rfl (by decide) (by decide) rfl) (.nil))) T.is_list_tuple (by decide) (by rfl) T.no_isinstance)) (fb_or1 (fe_cmp .lt (fe_biB bi_len (by rfl) T.no_len (by decide +kernel) (.cons (fe_var 2 rfl (by first | exact .inl rfl | exact .inr (.inl rfl) | exact .inr (.inr rfl))) (.nil)) (by decide) (by decide)) (fe_int) rfl)))) (fss_one (fs_ret (fe_tup (.cons (fe_str) (.nil))))) (fss_nil))
  (fss_cons (fs_if (fe_cmp .ne (fe_comp (own := [("item", 5)]) (fi_seq (fe_var 2 rfl (by first | exact .inl rfl | exact .inr (.inl rfl) | exact .inr (.inr rfl))) (fun _ _ => rfl)) (by decide +kernel) (fg_name 5 rfl (by first | exact .inl rfl | exact .inr rfl) (by first | exact .inr rfl | exact .inl rfl)) (.some (fe_bool (fb_or (fe_not (fe_isInst1 (fe_var 5 rfl (by first | exact .inl rfl | exact .inr (.inl rfl) | exact .inr (.inr rfl))) (.bi (by rfl) T.no_int (by decide +kernel) rfl (by decide) (by decide) rfl) T.is_int (by rfl) T.no_isinstance)) (fb_or (fe_isInst1 (fe_var 5 rfl (by first | exact .inl rfl | exact .inr (.inl rfl) | exact .inr (.inr rfl))) (.bi (by rfl) T.no_bool (by decide +kernel) rfl (by decide) (by decide) rfl) T.is_bool (by rfl) T.no_isinstance) (fb_or1 (fe_not (fe_chain .le .lt (fe_int) (fe_var 5 rfl (by first | exact .inl rfl | exact .inr (.inl rfl) | exact .inr (.inr rfl))) (fe_biB bi_len (by rfl) T.no_len (by decide +kernel) (.cons (fe_var 0 rfl (by first | exact .inl rfl | exact .inr (.inl rfl) | exact .inr (.inr rfl))) (.nil)) (by decide) (by decide)) rfl))))))) (fe_int) (by decide)) (fe_lst (.nil)) rfl) (fss_one (fs_ret (fe_tup (.cons (fe_str) (.nil))))) (fss_nil))
  (fss_cons (fs_if (fe_cmp .ne (fe_biB bi_len (by rfl) T.no_len (by decide +kernel) (.cons (fe_sortedSet (fe_var 2 rfl (by first | exact .inl rfl | exact .inr (.inl rfl) | exact .inr (.inr rfl))) (by rfl) T.no_sorted (by rfl) T.no_set) (.nil)) (by decide) (by decide)) (fe_biB bi_len (by rfl) T.no_len (by decide +kernel) (.cons (fe_var 2 rfl (by first | exact .inl rfl | exact .inr (.inl rfl) | exact .inr (.inr rfl))) (.nil)) (by decide) (by decide)) rfl) (fss_one (fs_ret (fe_tup (.cons (fe_str) (.nil))))) (fss_nil))
  (fss_cons (fs_for (fi_range1 (fe_biB bi_len (by rfl) T.no_len (by decide +kernel) (.cons (fe_var 2 rfl (by first | exact .inl rfl | exact .inr (.inl rfl) | exact .inr (.inr rfl))) (.nil)) (by decide) (by decide)) (by rfl) T.no_range) (fg_name 3 rfl (by first | exact .inl rfl | exact .inr rfl) (.inl rfl)) (fss_cons (fs_set 4 rfl (by first | exact .inl rfl | exact .inr rfl) (fe_if (fe_cmp .lt (fe_bin .add (fe_var 3 rfl (by first | exact .inl rfl | exact .inr (.inl rfl) | exact .inr (.inr rfl))) (fe_int)) (fe_biB bi_len (by rfl) T.no_len (by decide +kernel) (.cons (fe_var 2 rfl (by first | exact .inl rfl | exact .inr (.inl rfl) | exact .inr (.inr rfl))) (.nil)) (by decide) (by decide)) rfl) (fe_ix (fe_var 2 rfl (by first | exact .inl rfl | exact .inr (.inl rfl) | exact .inr (.inr rfl))) (fe_bin .add (fe_var 3 rfl (by first | exact .inl rfl | exact .inr (.inl rfl) | exact .inr (.inr rfl))) (fe_int)) (fun _ _ => rfl)) (fe_ix (fe_var 2 rfl (by first | exact .inl rfl | exact .inr (.inl rfl) | exact .inr (.inr rfl))) (fe_int) (fun _ _ => rfl))) (fun _ _ => rfl))
  (fss_one (fs_if (fe_not (fe_call T.fn__law_lesser (by rfl) (.cons (fe_var 0 rfl (by first | exact .inl rfl | exact .inr (.inl rfl) | exact .inr (.inr rfl))) (.cons (fe_var 1 rfl (by first | exact .inl rfl | exact .inr (.inl rfl) | exact .inr (.inr rfl))) (.cons (fe_ix (fe_var 2 rfl (by first | exact .inl rfl | exact .inr (.inl rfl) | exact .inr (.inr rfl))) (fe_var 3 rfl (by first | exact .inl rfl | exact .inr (.inl rfl) | exact .inr (.inr rfl))) (fun _ _ => rfl)) (.cons (fe_var 4 rfl (by first | exact .inl rfl | exact .inr (.inl rfl) | exact .inr (.inr rfl))) (.nil))))) (by rw [T.ps__law_lesser]; rfl))) (fss_one (fs_ret (fe_tup (.cons (fe_str) (.cons (fe_var 3 rfl (by first | exact .inl rfl | exact .inr (.inl rfl) | exact .inr (.inr rfl))) (.nil)))))) (fss_nil)))))
  (fss_one (fs_ret (fe_non))))))
theorem dv__law_own_ring (T : Tx g) : FSs g nm__law_own_ring (defScope st__law_own_ring) (defBody st__law_own_ring) bd__law_own_ring :=
  fss_cons (fs_set 2 rfl (by first | exact .inl rfl | exact .inr rfl) (fe_rng1 false (by rfl) T.no_list (by rfl) T.no_range (fe_biB bi_len (by rfl) T.no_len (by decide +kernel) (.cons (fe_var 0 rfl (by first | exact .inl rfl | exact .inr (.inl rfl) | exact .inr (.inr rfl))) (.nil)) (by decide) (by decide))) (fun _ _ => rfl))
  (fss_cons (fs_for (fi_range1 (fe_biB bi_len (by rfl) T.no_len (by decide +kernel) (.cons (fe_var 0 rfl (by first | exact .inl rfl | exact .inr (.inl rfl) | exact .inr (.inr rfl))) (.nil)) (by decide) (by decide)) (by rfl) T.no_range) (fg_name 3 rfl (by first | exact .inl rfl | exact .inr rfl) (.inl rfl)) (fss_one (fs_setS 2 rfl (by first | exact .inl rfl | exact .inr rfl) (fe_comp (own := [("b", 6)]) (fi_seq (fe_var 2 rfl (by first | exact .inl rfl | exact .inr (.inl rfl) | exact .inr (.inr rfl))) (fun _ _ => rfl)) (by decide +kernel) (fg_name 6 rfl (by first | exact .inl rfl | exact .inr rfl) (by first | exact .inr rfl | exact .inl rfl)) (.some (fe_cmp .ne (fe_comp (own := [("a", 7)]) (fi_seq (fe_var 2 rfl (by first | exact .inl rfl | exact .inr (.inl rfl) | exact .inr (.inr rfl))) (fun _ _ => rfl)) (by decide +kernel) (fg_name 7 rfl (by first | exact .inl rfl | exact .inr rfl) (by first | exact .inr rfl | exact .inl rfl)) (.some (fe_call T.fn__law_lesser (by rfl) (.cons (fe_var 0 rfl (by first | exact .inl rfl | exact .inr (.inl rfl) | exact .inr (.inr rfl))) (.cons (fe_var 1 rfl (by first | exact .inl rfl | exact .inr (.inl rfl) | exact .inr (.inr rfl))) (.cons (fe_var 7 rfl (by first | exact .inl rfl | exact .inr (.inl rfl) | exact .inr (.inr rfl))) (.cons (fe_var 6 rfl (by first | exact .inl rfl | exact .inr (.inl rfl) | exact .inr (.inr rfl))) (.nil))))) (by rw [T.ps__law_lesser]; rfl))) (fe_var 7 rfl (by first | exact .inl rfl | exact .inr (.inl rfl) | exact .inr (.inr rfl))) (by decide)) (fe_lst (.nil)) rfl)) (fe_var 6 rfl (by first | exact .inl rfl | exact .inr (.inl rfl) | exact .inr (.inr rfl))) (by decide)) (fun l env h => by cases env; cases h; rfl))))
  (fss_cons (fs_if (fe_cmp .eq (fe_var 2 rfl (by first | exact .inl rfl | exact .inr (.inl rfl) | exact .inr (.inr rfl))) (fe_lst (.nil)) rfl) (fss_one (fs_ret (fe_non))) (fss_nil))
  (fss_cons (fs_box 4 rfl (by first | exact .inl rfl | exact .inr rfl) (fe_lst (.cons (fe_ix (fe_var 2 rfl (by first | exact .inl rfl | exact .inr (.inl rfl) | exact .inr (.inr rfl))) (fe_int) (fun _ _ => rfl)) (.nil))) (fun _ _ => rfl))
  (fss_cons (fs_for (fi_range1 (fe_bin .add (fe_biB bi_len (by rfl) T.no_len (by decide +kernel) (.cons (fe_var 0 rfl (by first | exact .inl rfl | exact .inr (.inl rfl) | exact .inr (.inr rfl))) (.nil)) (by decide) (by decide)) (fe_int)) (by rfl) T.no_range) (fg_name 3 rfl (by first | exact .inl rfl | exact .inr rfl) (.inl rfl)) (fss_cons (fs_set 5 rfl (by first | exact .inl rfl | exact .inr rfl) (fe_ix (fe_comp (own := [("a", 7)]) (fi_seq (fe_var 2 rfl (by first | exact .inl rfl | exact .inr (.inl rfl) | exact .inr (.inr rfl))) (fun _ _ => rfl)) (by decide +kernel) (fg_name 7 rfl (by first | exact .inl rfl | exact .inr rfl) (by first | exact .inr rfl | exact .inl rfl)) (.some (fe_call T.fn__law_lesser (by rfl) (.cons (fe_var 0 rfl (by first | exact .inl rfl | exact .inr (.inl rfl) | exact .inr (.inr rfl))) (.cons (fe_var 1 rfl (by first | exact .inl rfl | exact .inr (.inl rfl) | exact .inr (.inr rfl))) (.cons (fe_var 7 rfl (by first | exact .inl rfl | exact .inr (.inl rfl) | exact .inr (.inr rfl))) (.cons (fe_ix (fe_var 4 rfl (by first | exact .inl rfl | exact .inr (.inl rfl) | exact .inr (.inr rfl))) (fe_neg (fe_int)) (fun _ _ => rfl)) (.nil))))) (by rw [T.ps__law_lesser]; rfl))) (fe_var 7 rfl (by first | exact .inl rfl | exact .inr (.inl rfl) | exact .inr (.inr rfl))) (by decide)) (fe_int) (fun _ _ => rfl)) (fun _ _ => rfl))
  (fss_cons (fs_if (fe_cmp .isIn (fe_var 5 rfl (by first | exact .inl rfl | exact .inr (.inl rfl) | exact .inr (.inr rfl))) (fe_var 4 rfl (by first | exact .inl rfl | exact .inr (.inl rfl) | exact .inr (.inr rfl))) rfl) (fss_one (fs_ret (fe_rev (fe_slice (fe_var 4 rfl (by first | exact .inl rfl | exact .inr (.inl rfl) | exact .inr (.inr rfl))) (.some (fe_mt PySem.F.slot_list_index PySem.F.type_list_index mo_index (fe_var 4 rfl (by first | exact .inl rfl | exact .inr (.inl rfl) | exact .inr (.inr rfl))) (.cons (fe_var 5 rfl (by first | exact .inl rfl | exact .inr (.inl rfl) | exact .inr (.inr rfl))) (.nil)) (fun _ => rfl) (fun _ => rfl) rfl)) .none)))) (fss_nil))
  (fss_one (fs_expr (fe_mt PySem.F.slot_list_append PySem.F.type_list_append mo_append (fe_var 4 rfl (by first | exact .inl rfl | exact .inr (.inl rfl) | exact .inr (.inr rfl))) (.cons (fe_var 5 rfl (by first | exact .inl rfl | exact .inr (.inl rfl) | exact .inr (.inr rfl))) (.nil)) (fun _ => rfl) (fun _ => rfl) rfl) (fun _ _ => rfl))))))
  (fss_one (fs_ret (fe_non)))))))
theorem dv__law_bent_order (T : Tx g) : FSs g nm__law_bent_order (defScope st__law_bent_order) (defBody st__law_bent_order) bd__law_bent_order :=
  fss_cons (fs_par rfl rfl (by decide) rfl rfl (fe_biT bi_list (by rfl) T.no_list (by decide +kernel) (.cons (fe_var 1 rfl (by first | exact .inl rfl | exact .inr (.inl rfl) | exact .inr (.inr rfl))) (.nil)) (by decide) (by decide)) (fe_call T.fn__law_draw (by rfl) (.cons (fe_var 0 rfl (by first | exact .inl rfl | exact .inr (.inl rfl) | exact .inr (.inr rfl))) (.cons (fe_int) (.nil))) (by rw [T.ps__law_draw]; rfl)) (fun env h => by cases env; cases h; rfl) (fun env h => rfl))
  (fss_cons (fs_if (fe_cmp .eq (fe_var 3 rfl (by first | exact .inl rfl | exact .inr (.inl rfl) | exact .inr (.inr rfl))) (fe_int) rfl) (fss_cons (fs_set 4 rfl (by first | exact .inl rfl | exact .inr rfl) (fe_lst (.cons (fe_non) (.cons (fe_int) (.cons (fe_slice (fe_var 2 rfl (by first | exact .inl rfl | exact .inr (.inl rfl) | exact .inr (.inr rfl))) (.some (fe_int)) .none) (.cons (fe_bin .add (fe_var 2 rfl (by first | exact .inl rfl | exact .inr (.inl rfl) | exact .inr (.inr rfl))) (fe_lst (.cons (fe_biB bi_len (by rfl) T.no_len (by decide +kernel) (.cons (fe_var 2 rfl (by first | exact .inl rfl | exact .inr (.inl rfl) | exact .inr (.inr rfl))) (.nil)) (by decide) (by decide)) (.nil)))) (.cons (fe_bin .add (fe_lst (.cons (fe_bl) (.nil))) (fe_slice (fe_var 2 rfl (by first | exact .inl rfl | exact .inr (.inl rfl) | exact .inr (.inr rfl))) (.some (fe_int)) .none)) (.cons (fe_bin .add (fe_slice (fe_var 2 rfl (by first | exact .inl rfl | exact .inr (.inl rfl) | exact .inr (.inr rfl))) .none (.some (fe_neg (fe_int)))) (fe_lst (.cons (fe_str) (.nil)))) (.cons (fe_bin .mul (fe_slice (fe_var 2 rfl (by first | exact .inl rfl | exact .inr (.inl rfl) | exact .inr (.inr rfl))) .none (.some (fe_int))) (fe_biB bi_len (by rfl) T.no_len (by decide +kernel) (.cons (fe_var 2 rfl (by first | exact .inl rfl | exact .inr (.inl rfl) | exact .inr (.inr rfl))) (.nil)) (by decide) (by decide))) (.nil))))))))) (fun _ _ => rfl))
  (fss_one (fs_ret (fe_call T.fn__law_pick (by rfl) (.cons (fe_var 0 rfl (by first | exact .inl rfl | exact .inr (.inl rfl) | exact .inr (.inr rfl))) (.cons (fe_var 4 rfl (by first | exact .inl rfl | exact .inr (.inl rfl) | exact .inr (.inr rfl))) (.nil))) (by rw [T.ps__law_pick]; rfl))))) (fss_nil))
  (fss_cons (fs_par rfl rfl (by decide) rfl rfl (fe_call T.fn__law_draw (by rfl) (.cons (fe_var 0 rfl (by first | exact .inl rfl | exact .inr (.inl rfl) | exact .inr (.inr rfl))) (.cons (fe_biB bi_len (by rfl) T.no_len (by decide +kernel) (.cons (fe_var 2 rfl (by first | exact .inl rfl | exact .inr (.inl rfl) | exact .inr (.inr rfl))) (.nil)) (by decide) (by decide)) (.nil))) (by rw [T.ps__law_draw]; rfl)) (fe_call T.fn__law_draw (by rfl) (.cons (fe_var 0 rfl (by first | exact .inl rfl | exact .inr (.inl rfl) | exact .inr (.inr rfl))) (.cons (fe_biB bi_len (by rfl) T.no_len (by decide +kernel) (.cons (fe_var 2 rfl (by first | exact .inl rfl | exact .inr (.inl rfl) | exact .inr (.inr rfl))) (.nil)) (by decide) (by decide)) (.nil))) (by rw [T.ps__law_draw]; rfl)) (fun env h => by cases env; cases h; rfl) (fun env h => rfl))
  (fss_cons (fs_setIx2 (fe_var 2 rfl (by first | exact .inl rfl | exact .inr (.inl rfl) | exact .inr (.inr rfl))) (fe_var 5 rfl (by first | exact .inl rfl | exact .inr (.inl rfl) | exact .inr (.inr rfl))) (fe_var 2 rfl (by first | exact .inl rfl | exact .inr (.inl rfl) | exact .inr (.inr rfl))) (fe_var 6 rfl (by first | exact .inl rfl | exact .inr (.inl rfl) | exact .inr (.inr rfl))) (fe_ix (fe_var 2 rfl (by first | exact .inl rfl | exact .inr (.inl rfl) | exact .inr (.inr rfl))) (fe_var 6 rfl (by first | exact .inl rfl | exact .inr (.inl rfl) | exact .inr (.inr rfl))) (fun _ _ => rfl)) (fe_ix (fe_var 2 rfl (by first | exact .inl rfl | exact .inr (.inl rfl) | exact .inr (.inr rfl))) (fe_var 5 rfl (by first | exact .inl rfl | exact .inr (.inl rfl) | exact .inr (.inr rfl))) (fun _ _ => rfl)) (fun _ => rfl) (fun env h => by cases env; cases h; rfl) (fun _ _ => rfl) (fun _ _ => rfl) (fun _ => rfl) (fun _ => rfl) (fun _ => rfl) (fun _ => rfl) (fun _ => rfl))
  (fss_one (fs_ret (fe_if (fe_cmp .lt (fe_var 3 rfl (by first | exact .inl rfl | exact .inr (.inl rfl) | exact .inr (.inr rfl))) (fe_int) rfl) (fe_take 2 rfl (by first | exact .inl rfl | exact .inr (.inl rfl) | exact .inr (.inr rfl))) (fe_rev (fe_var 2 rfl (by first | exact .inl rfl | exact .inr (.inl rfl) | exact .inr (.inr rfl))))))))))
theorem dv__law_bent_places (T : Tx g) : FSs g nm__law_bent_places (defScope st__law_bent_places) (defBody st__law_bent_places) bd__law_bent_places :=
  fss_cons (fs_par rfl rfl (by decide) rfl rfl (fe_biT bi_list (by rfl) T.no_list (by decide +kernel) (.cons (fe_var 2 rfl (by first | exact .inl rfl | exact .inr (.inl rfl) | exact .inr (.inr rfl))) (.nil)) (by decide) (by decide)) (fe_call T.fn__law_draw (by rfl) (.cons (fe_var 0 rfl (by first | exact .inl rfl | exact .inr (.inl rfl) | exact .inr (.inr rfl))) (.cons (fe_int) (.nil))) (by rw [T.ps__law_draw]; rfl)) (fun env h => by cases env; cases h; rfl) (fun env h => rfl))
  (fss_cons (fs_set 3 rfl (by first | exact .inl rfl | exact .inr rfl) (fe_call T.fn__law_draw (by rfl) (.cons (fe_var 0 rfl (by first | exact .inl rfl | exact .inr (.inl rfl) | exact .inr (.inr rfl))) (.cons (fe_biB bi_len (by rfl) T.no_len (by decide +kernel) (.cons (fe_var 4 rfl (by first | exact .inl rfl | exact .inr (.inl rfl) | exact .inr (.inr rfl))) (.nil)) (by decide) (by decide)) (.nil))) (by rw [T.ps__law_draw]; rfl)) (fun _ _ => rfl))
  (fss_cons (fs_if (fe_cmp .eq (fe_var 5 rfl (by first | exact .inl rfl | exact .inr (.inl rfl) | exact .inr (.inr rfl))) (fe_int) rfl) (fss_cons (fs_set 6 rfl (by first | exact .inl rfl | exact .inr rfl) (fe_lst (.cons (fe_non) (.cons (fe_int) (.cons (fe_slice (fe_var 4 rfl (by first | exact .inl rfl | exact .inr (.inl rfl) | exact .inr (.inr rfl))) .none (.some (fe_int))) (.cons (fe_bin .add (fe_var 4 rfl (by first | exact .inl rfl | exact .inr (.inl rfl) | exact .inr (.inr rfl))) (fe_lst (.cons (fe_ix (fe_var 4 rfl (by first | exact .inl rfl | exact .inr (.inl rfl) | exact .inr (.inr rfl))) (fe_int) (fun _ _ => rfl)) (.nil)))) (.cons (fe_bin .add (fe_var 4 rfl (by first | exact .inl rfl | exact .inr (.inl rfl) | exact .inr (.inr rfl))) (fe_lst (.cons (fe_var 1 rfl (by first | exact .inl rfl | exact .inr (.inl rfl) | exact .inr (.inr rfl))) (.nil)))) (.cons (fe_bin .add (fe_lst (.cons (fe_non) (.nil))) (fe_var 4 rfl (by first | exact .inl rfl | exact .inr (.inl rfl) | exact .inr (.inr rfl)))) (.cons (fe_rev (fe_var 4 rfl (by first | exact .inl rfl | exact .inr (.inl rfl) | exact .inr (.inr rfl)))) (.cons (fe_str) (.cons (fe_bin .add (fe_lst (.cons (fe_bl) (.nil))) (fe_slice (fe_var 4 rfl (by first | exact .inl rfl | exact .inr (.inl rfl) | exact .inr (.inr rfl))) (.some (fe_int)) .none)) (.nil))))))))))) (fun _ _ => rfl))
  (fss_one (fs_ret (fe_call T.fn__law_pick (by rfl) (.cons (fe_var 0 rfl (by first | exact .inl rfl | exact .inr (.inl rfl) | exact .inr (.inr rfl))) (.cons (fe_var 6 rfl (by first | exact .inl rfl | exact .inr (.inl rfl) | exact .inr (.inr rfl))) (.nil))) (by rw [T.ps__law_pick]; rfl))))) (fss_nil))
  (fss_cons (fs_if (fe_cmp .eq (fe_var 5 rfl (by first | exact .inl rfl | exact .inr (.inl rfl) | exact .inr (.inr rfl))) (fe_int) rfl) (fss_one (fs_ret (fe_bin .add (fe_slice (fe_var 4 rfl (by first | exact .inl rfl | exact .inr (.inl rfl) | exact .inr (.inr rfl))) .none (.some (fe_var 3 rfl (by first | exact .inl rfl | exact .inr (.inl rfl) | exact .inr (.inr rfl))))) (fe_slice (fe_var 4 rfl (by first | exact .inl rfl | exact .inr (.inl rfl) | exact .inr (.inr rfl))) (.some (fe_bin .add (fe_var 3 rfl (by first | exact .inl rfl | exact .inr (.inl rfl) | exact .inr (.inr rfl))) (fe_int))) .none)))) (fss_nil))
  (fss_cons (fs_if (fe_cmp .eq (fe_var 5 rfl (by first | exact .inl rfl | exact .inr (.inl rfl) | exact .inr (.inr rfl))) (fe_int) rfl) (fss_one (fs_ret (fe_bin .add (fe_bin .add (fe_slice (fe_var 4 rfl (by first | exact .inl rfl | exact .inr (.inl rfl) | exact .inr (.inr rfl))) .none (.some (fe_var 3 rfl (by first | exact .inl rfl | exact .inr (.inl rfl) | exact .inr (.inr rfl))))) (fe_lst (.cons (fe_call T.fn__law_draw (by rfl) (.cons (fe_var 0 rfl (by first | exact .inl rfl | exact .inr (.inl rfl) | exact .inr (.inr rfl))) (.cons (fe_var 1 rfl (by first | exact .inl rfl | exact .inr (.inl rfl) | exact .inr (.inr rfl))) (.nil))) (by rw [T.ps__law_draw]; rfl)) (.nil)))) (fe_slice (fe_var 4 rfl (by first | exact .inl rfl | exact .inr (.inl rfl) | exact .inr (.inr rfl))) (.some (fe_var 3 rfl (by first | exact .inl rfl | exact .inr (.inl rfl) | exact .inr (.inr rfl)))) .none)))) (fss_nil))
  (fss_cons (fs_if (fe_cmp .eq (fe_var 5 rfl (by first | exact .inl rfl | exact .inr (.inl rfl) | exact .inr (.inr rfl))) (fe_int) rfl) (fss_one (fs_ret (fe_bin .add (fe_slice (fe_var 4 rfl (by first | exact .inl rfl | exact .inr (.inl rfl) | exact .inr (.inr rfl))) (.some (fe_var 3 rfl (by first | exact .inl rfl | exact .inr (.inl rfl) | exact .inr (.inr rfl)))) .none) (fe_slice (fe_var 4 rfl (by first | exact .inl rfl | exact .inr (.inl rfl) | exact .inr (.inr rfl))) .none (.some (fe_var 3 rfl (by first | exact .inl rfl | exact .inr (.inl rfl) | exact .inr (.inr rfl)))))))) (fss_nil))
  (fss_cons (fs_if (fe_cmp .eq (fe_var 5 rfl (by first | exact .inl rfl | exact .inr (.inl rfl) | exact .inr (.inr rfl))) (fe_int) rfl) (fss_one (fs_ret (fe_call T.fn__law_shuffled (by rfl) (.cons (fe_var 0 rfl (by first | exact .inl rfl | exact .inr (.inl rfl) | exact .inr (.inr rfl))) (.cons (fe_var 4 rfl (by first | exact .inl rfl | exact .inr (.inl rfl) | exact .inr (.inr rfl))) (.nil))) (by rw [T.ps__law_shuffled]; rfl)))) (fss_nil))
  (fss_one (fs_ret (fe_slice (fe_call T.fn__law_shuffled (by rfl) (.cons (fe_var 0 rfl (by first | exact .inl rfl | exact .inr (.inl rfl) | exact .inr (.inr rfl))) (.cons (fe_rng1 false (by rfl) T.no_list (by rfl) T.no_range (fe_var 1 rfl (by first | exact .inl rfl | exact .inr (.inl rfl) | exact .inr (.inr rfl)))) (.nil))) (by rw [T.ps__law_shuffled]; rfl)) .none (.some (fe_bin .add (fe_int) (fe_call T.fn__law_draw (by rfl) (.cons (fe_var 0 rfl (by first | exact .inl rfl | exact .inr (.inl rfl) | exact .inr (.inr rfl))) (.cons (fe_int) (.nil))) (by rw [T.ps__law_draw]; rfl)))))))))))))
theorem dv_law (T : Tx g) : FSs g nm_law (defScope st_law) (defBody st_law) bd_law :=
  fss_cons (fs_set 1 rfl (by first | exact .inl rfl | exact .inr rfl) (fe_call T.fn__law_pen (by rfl) (.cons (fe_var 0 rfl (by first | exact .inl rfl | exact .inr (.inl rfl) | exact .inr (.inr rfl))) (.nil)) (by rw [T.ps__law_pen]; rfl)) (fun _ _ => rfl))
  (fss_cons (fs_set 2 rfl (by first | exact .inl rfl | exact .inr rfl) (fe_bin .add (fe_int) (fe_call T.fn__law_draw (by rfl) (.cons (fe_var 1 rfl (by first | exact .inl rfl | exact .inr (.inl rfl) | exact .inr (.inr rfl))) (.cons (fe_call T.fn__law_pick (by rfl) (.cons (fe_var 1 rfl (by first | exact .inl rfl | exact .inr (.inl rfl) | exact .inr (.inr rfl))) (.cons (fe_lst (.cons (fe_int) (.cons (fe_int) (.cons (fe_int) (.cons (fe_int) (.nil)))))) (.nil))) (by rw [T.ps__law_pick]; rfl)) (.nil))) (by rw [T.ps__law_draw]; rfl))) (fun _ _ => rfl))
  (fss_cons (fs_set 3 rfl (by first | exact .inl rfl | exact .inr rfl) (fe_call T.fn__law_some_order (by rfl) (.cons (fe_var 1 rfl (by first | exact .inl rfl | exact .inr (.inl rfl) | exact .inr (.inr rfl))) (.cons (fe_var 2 rfl (by first | exact .inl rfl | exact .inr (.inl rfl) | exact .inr (.inr rfl))) (.nil))) (by rw [T.ps__law_some_order]; rfl)) (fun _ _ => rfl))
  (fss_cons (fs_if (fe_cmp .eq (fe_call T.fn__law_draw (by rfl) (.cons (fe_var 1 rfl (by first | exact .inl rfl | exact .inr (.inl rfl) | exact .inr (.inr rfl))) (.cons (fe_int) (.nil))) (by rw [T.ps__law_draw]; rfl)) (fe_int) rfl) (fss_one (fs_set 3 rfl (by first | exact .inl rfl | exact .inr rfl) (fe_if (fe_cmp .lt (fe_var 2 rfl (by first | exact .inl rfl | exact .inr (.inl rfl) | exact .inr (.inr rfl))) (fe_int) rfl) (fe_rev (fe_rng1 true (by rfl) T.no_tuple (by rfl) T.no_range (fe_var 2 rfl (by first | exact .inl rfl | exact .inr (.inl rfl) | exact .inr (.inr rfl))))) (fe_rev (fe_var 3 rfl (by first | exact .inl rfl | exact .inr (.inl rfl) | exact .inr (.inr rfl))))) (fun _ _ => rfl))) (fss_nil))
  (fss_cons (fs_par rfl rfl (by decide) rfl rfl (fe_call T.fn__law_mirrors (by rfl) (.cons (fe_var 3 rfl (by first | exact .inl rfl | exact .inr (.inl rfl) | exact .inr (.inr rfl))) (.nil)) (by rw [T.ps__law_mirrors]; rfl)) (fe_call T.fn__law_some_order (by rfl) (.cons (fe_var 1 rfl (by first | exact .inl rfl | exact .inr (.inl rfl) | exact .inr (.inr rfl))) (.cons (fe_var 2 rfl (by first | exact .inl rfl | exact .inr (.inl rfl) | exact .inr (.inr rfl))) (.nil))) (by rw [T.ps__law_some_order]; rfl)) (fun env h => by cases env; cases h; rfl) (fun env h => rfl))
  (fss_cons (fs_unpack (.cons rfl (by first | exact .inl rfl | exact .inr rfl) (.inl rfl) (.cons rfl (by first | exact .inl rfl | exact .inr rfl) (.inl rfl) (.nil))) (fe_tup (.cons (fe_biT bi_list (by rfl) T.no_list (by decide +kernel) (.cons (fe_call T.fn__law_room (by rfl) (.cons (fe_var 7 rfl (by first | exact .inl rfl | exact .inr (.inl rfl) | exact .inr (.inr rfl))) (.cons (fe_var 8 rfl (by first | exact .inl rfl | exact .inr (.inl rfl) | exact .inr (.inr rfl))) (.nil))) (by rw [T.ps__law_room]; rfl)) (.nil)) (by decide) (by decide)) (.cons (fe_comp (own := [("pair", 16)]) (fi_seq (fe_var 7 rfl (by first | exact .inl rfl | exact .inr (.inl rfl) | exact .inr (.inr rfl))) (fun _ _ => rfl)) (by decide +kernel) (fg_name 16 rfl (by first | exact .inl rfl | exact .inr rfl) (by first | exact .inr rfl | exact .inl rfl)) (.some (fe_cmp .eq (fe_call T.fn__law_draw (by rfl) (.cons (fe_var 1 rfl (by first | exact .inl rfl | exact .inr (.inl rfl) | exact .inr (.inr rfl))) (.cons (fe_int) (.nil))) (by rw [T.ps__law_draw]; rfl)) (fe_int) rfl)) (fe_var 16 rfl (by first | exact .inl rfl | exact .inr (.inl rfl) | exact .inr (.inr rfl))) (by decide)) (.nil)))) (fun _ _ => rfl) (fun env h => by cases env; cases h; rfl) (fun _ => rfl))
  (fss_cons (fs_if (fe_notN (fe_call T.fn_room_fault (by rfl) (.cons (fe_var 3 rfl (by first | exact .inl rfl | exact .inr (.inl rfl) | exact .inr (.inr rfl))) (.cons (fe_call T.fn__law_shuffled (by rfl) (.cons (fe_var 1 rfl (by first | exact .inl rfl | exact .inr (.inl rfl) | exact .inr (.inr rfl))) (.cons (fe_var 9 rfl (by first | exact .inl rfl | exact .inr (.inl rfl) | exact .inr (.inr rfl))) (.nil))) (by rw [T.ps__law_shuffled]; rfl)) (.cons (fe_make T.mk_Inside (by rfl) (.cons (fe_call T.fn__law_listed (by rfl) (.cons (fe_var 1 rfl (by first | exact .inl rfl | exact .inr (.inl rfl) | exact .inr (.inr rfl))) (.cons (fe_var 8 rfl (by first | exact .inl rfl | exact .inr (.inl rfl) | exact .inr (.inr rfl))) (.nil))) (by rw [T.ps__law_listed]; rfl)) (.nil)) (by rw [T.ps_Inside_init]; rfl)) (.nil)))) (by rw [T.ps_room_fault]; rfl))) (fss_one (fs_ret (fe_bl))) (fss_nil))
  (fss_cons (fs_set 4 rfl (by first | exact .inl rfl | exact .inr rfl) (fe_call T.fn__law_own_ring (by rfl) (.cons (fe_var 3 rfl (by first | exact .inl rfl | exact .inr (.inl rfl) | exact .inr (.inr rfl))) (.cons (fe_var 10 rfl (by first | exact .inl rfl | exact .inr (.inl rfl) | exact .inr (.inr rfl))) (.nil))) (by rw [T.ps__law_own_ring]; rfl)) (fun _ _ => rfl))
  (fss_cons (fs_if (fe_bool (fb_and (fe_notN (fe_var 4 rfl (by first | exact .inl rfl | exact .inr (.inl rfl) | exact .inr (.inr rfl)))) (fb_and1 (fe_notN (fe_call T.fn_room_fault (by rfl) (.cons (fe_var 3 rfl (by first | exact .inl rfl | exact .inr (.inl rfl) | exact .inr (.inr rfl))) (.cons (fe_var 10 rfl (by first | exact .inl rfl | exact .inr (.inl rfl) | exact .inr (.inr rfl))) (.cons (fe_make T.mk_Around (by rfl) (.cons (fe_call T.fn__law_listed (by rfl) (.cons (fe_var 1 rfl (by first | exact .inl rfl | exact .inr (.inl rfl) | exact .inr (.inr rfl))) (.cons (fe_var 4 rfl (by first | exact .inl rfl | exact .inr (.inl rfl) | exact .inr (.inr rfl))) (.nil))) (by rw [T.ps__law_listed]; rfl)) (.nil)) (by rw [T.ps_Around_init]; rfl)) (.nil)))) (by rw [T.ps_room_fault]; rfl)))))) (fss_one (fs_ret (fe_bl))) (fss_nil))
  (fss_cons (fs_for (fi_seq (fe_lst (.cons (fe_var 9 rfl (by first | exact .inl rfl | exact .inr (.inl rfl) | exact .inr (.inr rfl))) (.cons (fe_var 10 rfl (by first | exact .inl rfl | exact .inr (.inl rfl) | exact .inr (.inr rfl))) (.nil)))) (fun _ _ => rfl)) (fg_name 5 rfl (by first | exact .inl rfl | exact .inr rfl) (.inl rfl)) (fss_one (fs_for (fi_range1 (fe_int) (by rfl) T.no_range) (fg_name 11 rfl (by first | exact .inl rfl | exact .inr rfl) (.inl rfl)) (fss_cons (fs_set 13 rfl (by first | exact .inl rfl | exact .inr rfl) (fe_call T.fn__law_bent_order (by rfl) (.cons (fe_var 1 rfl (by first | exact .inl rfl | exact .inr (.inl rfl) | exact .inr (.inr rfl))) (.cons (fe_var 8 rfl (by first | exact .inl rfl | exact .inr (.inl rfl) | exact .inr (.inr rfl))) (.nil))) (by rw [T.ps__law_bent_order]; rfl)) (fun _ _ => rfl))
  (fss_cons (fs_set 14 rfl (by first | exact .inl rfl | exact .inr rfl) (fe_call T.fn_room_fault (by rfl) (.cons (fe_var 3 rfl (by first | exact .inl rfl | exact .inr (.inl rfl) | exact .inr (.inr rfl))) (.cons (fe_call T.fn__law_listed (by rfl) (.cons (fe_var 1 rfl (by first | exact .inl rfl | exact .inr (.inl rfl) | exact .inr (.inr rfl))) (.cons (fe_var 5 rfl (by first | exact .inl rfl | exact .inr (.inl rfl) | exact .inr (.inr rfl))) (.nil))) (by rw [T.ps__law_listed]; rfl)) (.cons (fe_make T.mk_Inside (by rfl) (.cons (fe_var 13 rfl (by first | exact .inl rfl | exact .inr (.inl rfl) | exact .inr (.inr rfl))) (.nil)) (by rw [T.ps_Inside_init]; rfl)) (.nil)))) (by rw [T.ps_room_fault]; rfl)) (fun _ _ => rfl))
  (fss_cons (fs_if (fe_not (fe_call T.fn__law_is_fault (by rfl) (.cons (fe_var 14 rfl (by first | exact .inl rfl | exact .inr (.inl rfl) | exact .inr (.inr rfl))) (.cons (fe_call T.fn__law_inside_due (by rfl) (.cons (fe_var 3 rfl (by first | exact .inl rfl | exact .inr (.inl rfl) | exact .inr (.inr rfl))) (.cons (fe_var 5 rfl (by first | exact .inl rfl | exact .inr (.inl rfl) | exact .inr (.inr rfl))) (.cons (fe_var 13 rfl (by first | exact .inl rfl | exact .inr (.inl rfl) | exact .inr (.inr rfl))) (.nil)))) (by rw [T.ps__law_inside_due]; rfl)) (.nil))) (by rw [T.ps__law_is_fault]; rfl))) (fss_one (fs_ret (fe_bl))) (fss_nil))
  (fss_cons (fs_set 15 rfl (by first | exact .inl rfl | exact .inr rfl) (fe_call T.fn__law_bent_places (by rfl) (.cons (fe_var 1 rfl (by first | exact .inl rfl | exact .inr (.inl rfl) | exact .inr (.inr rfl))) (.cons (fe_var 2 rfl (by first | exact .inl rfl | exact .inr (.inl rfl) | exact .inr (.inr rfl))) (.cons (fe_if (fe_notN (fe_var 4 rfl (by first | exact .inl rfl | exact .inr (.inl rfl) | exact .inr (.inr rfl)))) (fe_var 4 rfl (by first | exact .inl rfl | exact .inr (.inl rfl) | exact .inr (.inr rfl))) (fe_rng1 false (by rfl) T.no_list (by rfl) T.no_range (fe_var 2 rfl (by first | exact .inl rfl | exact .inr (.inl rfl) | exact .inr (.inr rfl))))) (.nil)))) (by rw [T.ps__law_bent_places]; rfl)) (fun _ _ => rfl))
  (fss_one (fs_if (fe_not (fe_call T.fn__law_is_fault (by rfl) (.cons (fe_call T.fn_room_fault (by rfl) (.cons (fe_var 3 rfl (by first | exact .inl rfl | exact .inr (.inl rfl) | exact .inr (.inr rfl))) (.cons (fe_var 5 rfl (by first | exact .inl rfl | exact .inr (.inl rfl) | exact .inr (.inr rfl))) (.cons (fe_make T.mk_Around (by rfl) (.cons (fe_var 15 rfl (by first | exact .inl rfl | exact .inr (.inl rfl) | exact .inr (.inr rfl))) (.nil)) (by rw [T.ps_Around_init]; rfl)) (.nil)))) (by rw [T.ps_room_fault]; rfl)) (.cons (fe_call T.fn__law_around_due (by rfl) (.cons (fe_var 3 rfl (by first | exact .inl rfl | exact .inr (.inl rfl) | exact .inr (.inr rfl))) (.cons (fe_var 5 rfl (by first | exact .inl rfl | exact .inr (.inl rfl) | exact .inr (.inr rfl))) (.cons (fe_var 15 rfl (by first | exact .inl rfl | exact .inr (.inl rfl) | exact .inr (.inr rfl))) (.nil)))) (by rw [T.ps__law_around_due]; rfl)) (.nil))) (by rw [T.ps__law_is_fault]; rfl))) (fss_one (fs_ret (fe_bl))) (fss_nil))))))))))
  (fss_cons (fs_if (fe_bool (fb_or (fe_eqOwn T.eq (fe_make T.mk_Inside (by rfl) (.cons (fe_var 8 rfl (by first | exact .inl rfl | exact .inr (.inl rfl) | exact .inr (.inr rfl))) (.nil)) (by rw [T.ps_Inside_init]; rfl)) (fe_make T.mk_Around (by rfl) (.cons (fe_var 8 rfl (by first | exact .inl rfl | exact .inr (.inl rfl) | exact .inr (.inr rfl))) (.nil)) (by rw [T.ps_Around_init]; rfl)) rfl) (fb_or (fe_eqOwn T.eq (fe_make T.mk_Inside (by rfl) (.cons (fe_var 8 rfl (by first | exact .inl rfl | exact .inr (.inl rfl) | exact .inr (.inr rfl))) (.nil)) (by rw [T.ps_Inside_init]; rfl)) (fe_var 8 rfl (by first | exact .inl rfl | exact .inr (.inl rfl) | exact .inr (.inr rfl))) rfl) (fb_or1 (fe_bool (fb_and (fe_cmp .gt (fe_var 2 rfl (by first | exact .inl rfl | exact .inr (.inl rfl) | exact .inr (.inr rfl))) (fe_int) rfl) (fb_and1 (fe_eqOwn T.eq (fe_make T.mk_Inside (by rfl) (.cons (fe_var 8 rfl (by first | exact .inl rfl | exact .inr (.inl rfl) | exact .inr (.inr rfl))) (.nil)) (by rw [T.ps_Inside_init]; rfl)) (fe_make T.mk_Inside (by rfl) (.cons (fe_rev (fe_var 8 rfl (by first | exact .inl rfl | exact .inr (.inl rfl) | exact .inr (.inr rfl)))) (.nil)) (by rw [T.ps_Inside_init]; rfl)) rfl)))))))) (fss_one (fs_ret (fe_bl))) (fss_nil))
  (fss_cons (fs_if (fe_bool (fb_or (fe_eqOwn T.eq (fe_make T.mk_Around (by rfl) (.cons (fe_tup (.cons (fe_int) (.cons (fe_int) (.cons (fe_int) (.nil))))) (.nil)) (by rw [T.ps_Around_init]; rfl)) (fe_make T.mk_Around (by rfl) (.cons (fe_tup (.cons (fe_int) (.cons (fe_int) (.cons (fe_int) (.nil))))) (.nil)) (by rw [T.ps_Around_init]; rfl)) rfl) (fb_or1 (fe_not (fe_eqOwn T.eq (fe_make T.mk_Inside (by rfl) (.cons (fe_biT bi_list (by rfl) T.no_list (by decide +kernel) (.cons (fe_var 8 rfl (by first | exact .inl rfl | exact .inr (.inl rfl) | exact .inr (.inr rfl))) (.nil)) (by decide) (by decide)) (.nil)) (by rw [T.ps_Inside_init]; rfl)) (fe_make T.mk_Inside (by rfl) (.cons (fe_var 8 rfl (by first | exact .inl rfl | exact .inr (.inl rfl) | exact .inr (.inr rfl))) (.nil)) (by rw [T.ps_Inside_init]; rfl)) rfl))))) (fss_one (fs_ret (fe_bl))) (fss_nil))
  (fss_cons (fs_for (fi_seq (fe_lst (.cons (fe_non) (.cons (fe_tup (.nil)) (.cons (fe_int) (.cons (fe_var 8 rfl (by first | exact .inl rfl | exact .inr (.inl rfl) | exact .inr (.inr rfl))) (.nil)))))) (fun _ _ => rfl)) (fg_name 6 rfl (by first | exact .inl rfl | exact .inr rfl) (.inl rfl)) (fss_one (fs_if (fe_not (fe_call T.fn__law_is_fault (by rfl) (.cons (fe_call T.fn_room_fault (by rfl) (.cons (fe_var 3 rfl (by first | exact .inl rfl | exact .inr (.inl rfl) | exact .inr (.inr rfl))) (.cons (fe_var 9 rfl (by first | exact .inl rfl | exact .inr (.inl rfl) | exact .inr (.inr rfl))) (.cons (fe_var 6 rfl (by first | exact .inl rfl | exact .inr (.inl rfl) | exact .inr (.inr rfl))) (.nil)))) (by rw [T.ps_room_fault]; rfl)) (.cons (fe_tup (.cons (fe_str) (.nil))) (.nil))) (by rw [T.ps__law_is_fault]; rfl))) (fss_one (fs_ret (fe_bl))) (fss_nil))))
  (fss_cons (fs_unpack (.cons rfl (by first | exact .inl rfl | exact .inr rfl) (.inl rfl) (.cons rfl (by first | exact .inl rfl | exact .inr rfl) (.inl rfl) (.nil))) (fe_tup (.cons (fe_call T.fn__law_pick (by rfl) (.cons (fe_var 1 rfl (by first | exact .inl rfl | exact .inr (.inl rfl) | exact .inr (.inr rfl))) (.cons (fe_lst (.cons (fe_non) (.cons (fe_int) (.cons (fe_str) (.nil))))) (.nil))) (by rw [T.ps__law_pick]; rfl)) (.cons (fe_call T.fn__law_pick (by rfl) (.cons (fe_var 1 rfl (by first | exact .inl rfl | exact .inr (.inl rfl) | exact .inr (.inr rfl))) (.cons (fe_lst (.cons (fe_non) (.cons (fe_tup (.nil)) (.cons (fe_tup (.cons (fe_int) (.cons (fe_int) (.nil)))) (.cons (fe_tup (.cons (fe_int) (.nil))) (.cons (fe_int) (.nil))))))) (.nil))) (by rw [T.ps__law_pick]; rfl)) (.nil)))) (fun _ _ => rfl) (fun env h => by cases env; cases h; rfl) (fun _ => rfl))
  (fss_cons (fs_if (fe_cmp .ne (fe_callA (T.ca__law_complaint) (by rfl) (by decide) (LamX.lamS_by (by decide +kernel)) (fun _ => rfl) (fun _ _ _ _ _ => rfl) T.lam0 (fe_call T.fn_room_fault (by rfl) (.cons (fe_var 3 rfl (by first | exact .inl rfl | exact .inr (.inl rfl) | exact .inr (.inr rfl))) (.cons (fe_var 12 rfl (by first | exact .inl rfl | exact .inr (.inl rfl) | exact .inr (.inr rfl))) (.cons (fe_non) (.nil)))) (by rw [T.ps_room_fault]; rfl))) (fe_tup (.cons (fe_str) (.cons (fe_repr T.rp (fe_var 12 rfl (by first | exact .inl rfl | exact .inr (.inl rfl) | exact .inr (.inr rfl))) (by rfl) T.no_repr) (.nil)))) rfl) (fss_one (fs_ret (fe_bl))) (fss_nil))
  (fss_cons (fs_if (fe_cmp .ne (fe_callA (T.ca__law_complaint) (by rfl) (by decide) (LamX.lamS_by (by decide +kernel)) (fun _ => rfl) (fun _ _ _ _ _ => rfl) T.lam1 (fe_call T.fn_room_fault (by rfl) (.cons (fe_var 3 rfl (by first | exact .inl rfl | exact .inr (.inl rfl) | exact .inr (.inr rfl))) (.cons (fe_bin .add (fe_var 9 rfl (by first | exact .inl rfl | exact .inr (.inl rfl) | exact .inr (.inr rfl))) (fe_lst (.cons (fe_tup (.cons (fe_int) (.cons (fe_int) (.nil)))) (.nil)))) (.cons (fe_non) (.nil)))) (by rw [T.ps_room_fault]; rfl))) (fe_tup (.cons (fe_str) (.cons (fe_str) (.nil)))) rfl) (fss_one (fs_ret (fe_bl))) (fss_nil))
  (fss_one (fs_ret (fe_cmp .eq (fe_callA (T.ca__law_complaint) (by rfl) (by decide) (LamX.lamS_by (by decide +kernel)) (fun _ => rfl) (fun _ _ _ _ _ => rfl) T.lam2 (fe_call T.fn_room_fault (by rfl) (.cons (fe_var 13 rfl (by first | exact .inl rfl | exact .inr (.inl rfl) | exact .inr (.inr rfl))) (.cons (fe_var 12 rfl (by first | exact .inl rfl | exact .inr (.inl rfl) | exact .inr (.inr rfl))) (.cons (fe_non) (.nil)))) (by rw [T.ps_room_fault]; rfl))) (fe_tup (.cons (fe_str) (.cons (fe_repr T.rp (fe_var 13 rfl (by first | exact .inl rfl | exact .inr (.inl rfl) | exact .inr (.inr rfl))) (by rfl) T.no_repr) (.nil)))) rfl))))))))))))))))))
end
end K85
end

section
set_option Elab.async false
set_option linter.all false
set_option maxRecDepth 100000
set_option
        maxHeartbeats 400000
namespace K85
open PySem PySem.Spec PyProof.Rows L2 Py PyS
theorem sc_is_integer : FnScope nm_is_integer ["value"] (defScope st_is_integer) := ⟨rfl, rfl, rfl, by decide +kernel, rfl, by decide +kernel, by decide +kernel⟩
theorem sc_is_row : FnScope nm_is_row ["value"] (defScope st_is_row) := ⟨rfl, rfl, rfl, by decide +kernel, rfl, by decide +kernel, by decide +kernel⟩
theorem sc_is_order : FnScope nm_is_order ["value"] (defScope st_is_order) := ⟨rfl, rfl, rfl, by decide +kernel, rfl, by decide +kernel, by decide +kernel⟩
theorem sc_need_orders : FnScope nm_need_orders ["orders"] (defScope st_need_orders) := ⟨rfl, rfl, rfl, by decide +kernel, rfl, by decide +kernel, by decide +kernel⟩
theorem sc_need_order : FnScope nm_need_order ["order"] (defScope st_need_order) := ⟨rfl, rfl, rfl, by decide +kernel, rfl, by decide +kernel, by decide +kernel⟩
theorem sc_all_pairs : FnScope nm_all_pairs ["n"] (defScope st_all_pairs) := ⟨rfl, rfl, rfl, by decide +kernel, rfl, by decide +kernel, by decide +kernel⟩
theorem sc_turned_pairs : FnScope nm_turned_pairs ["w"] (defScope st_turned_pairs) := ⟨rfl, rfl, rfl, by decide +kernel, rfl, by decide +kernel, by decide +kernel⟩
theorem sc_kept_row : FnScope nm_kept_row ["value"] (defScope st_kept_row) := ⟨rfl, rfl, rfl, by decide +kernel, rfl, by decide +kernel, by decide +kernel⟩
theorem sc_Inside_init : FnScope nm_Inside_init ["self", "order"] (defScope st_Inside_init) := ⟨rfl, rfl, rfl, by decide +kernel, rfl, by decide +kernel, by decide +kernel⟩
theorem sc_Inside_eq : FnScope nm_Inside_eq ["self", "other"] (defScope st_Inside_eq) := ⟨rfl, rfl, rfl, by decide +kernel, rfl, by decide +kernel, by decide +kernel⟩
theorem sc_Around_init : FnScope nm_Around_init ["self", "places"] (defScope st_Around_init) := ⟨rfl, rfl, rfl, by decide +kernel, rfl, by decide +kernel, by decide +kernel⟩
theorem sc_Around_eq : FnScope nm_Around_eq ["self", "other"] (defScope st_Around_eq) := ⟨rfl, rfl, rfl, by decide +kernel, rfl, by decide +kernel, by decide +kernel⟩
theorem sc_turned_in : FnScope nm_turned_in ["mirrors", "x"] (defScope st_turned_in) := ⟨rfl, rfl, rfl, by decide +kernel, rfl, by decide +kernel, by decide +kernel⟩
theorem sc_checked_pairs : FnScope nm_checked_pairs ["w", "pairs"] (defScope st_checked_pairs) := ⟨rfl, rfl, rfl, by decide +kernel, rfl, by decide +kernel, by decide +kernel⟩
theorem sc_is_mirror : FnScope nm_is_mirror ["mirrors", "value"] (defScope st_is_mirror) := ⟨rfl, rfl, rfl, by decide +kernel, rfl, by decide +kernel, by decide +kernel⟩
theorem sc_lesser_ones : FnScope nm_lesser_ones ["w", "pairs", "place", "left"] (defScope st_lesser_ones) := ⟨rfl, rfl, rfl, by decide +kernel, rfl, by decide +kernel, by decide +kernel⟩
theorem sc_first_unlike : FnScope nm_first_unlike ["mirrors", "pairs", "room"] (defScope st_first_unlike) := ⟨rfl, rfl, rfl, by decide +kernel, rfl, by decide +kernel, by decide +kernel⟩
theorem sc_around_fault : FnScope nm_around_fault ["w", "pairs", "places"] (defScope st_around_fault) := ⟨rfl, rfl, rfl, by decide +kernel, rfl, by decide +kernel, by decide +kernel⟩
theorem sc_room_fault : FnScope nm_room_fault ["w", "pairs", "answer"] (defScope st_room_fault) := ⟨rfl, rfl, rfl, by decide +kernel, rfl, by decide +kernel, by decide +kernel⟩
theorem sc__law_pen : FnScope nm__law_pen ["script"] (defScope st__law_pen) := ⟨rfl, rfl, rfl, by decide +kernel, rfl, by decide +kernel, by decide +kernel⟩
theorem sc__law_draw : FnScope nm__law_draw ["pen", "many"] (defScope st__law_draw) := ⟨rfl, rfl, rfl, by decide +kernel, rfl, by decide +kernel, by decide +kernel⟩
theorem sc__law_pick : FnScope nm__law_pick ["pen", "some"] (defScope st__law_pick) := ⟨rfl, rfl, rfl, by decide +kernel, rfl, by decide +kernel, by decide +kernel⟩
theorem sc__law_shuffled : FnScope nm__law_shuffled ["pen", "some"] (defScope st__law_shuffled) := ⟨rfl, rfl, rfl, by decide +kernel, rfl, by decide +kernel, by decide +kernel⟩
theorem sc__law_pairs : FnScope nm__law_pairs ["n"] (defScope st__law_pairs) := ⟨rfl, rfl, rfl, by decide +kernel, rfl, by decide +kernel, by decide +kernel⟩
theorem sc__law_some_order : FnScope nm__law_some_order ["pen", "n"] (defScope st__law_some_order) := ⟨rfl, rfl, rfl, by decide +kernel, rfl, by decide +kernel, by decide +kernel⟩
theorem sc__law_listed : FnScope nm__law_listed ["pen", "row"] (defScope st__law_listed) := ⟨rfl, rfl, rfl, by decide +kernel, rfl, by decide +kernel, by decide +kernel⟩
theorem sc__law_is_ints : FnScope nm__law_is_ints ["value"] (defScope st__law_is_ints) := ⟨rfl, rfl, rfl, by decide +kernel, rfl, by decide +kernel, by decide +kernel⟩
theorem sc__law_is_fault : FnScope nm__law_is_fault ["told", "due"] (defScope st__law_is_fault) := ⟨rfl, rfl, rfl, by decide +kernel, rfl, by decide +kernel, by decide +kernel⟩
theorem sc__law_mirrors : FnScope nm__law_mirrors ["w"] (defScope st__law_mirrors) := ⟨rfl, rfl, rfl, by decide +kernel, rfl, by decide +kernel, by decide +kernel⟩
theorem sc__law_room : FnScope nm__law_room ["mirrors", "x"] (defScope st__law_room) := ⟨rfl, rfl, rfl, by decide +kernel, rfl, by decide +kernel, by decide +kernel⟩
theorem sc__law_lesser : FnScope nm__law_lesser ["w", "pairs", "a", "b"] (defScope st__law_lesser) := ⟨rfl, rfl, rfl, by decide +kernel, rfl, by decide +kernel, by decide +kernel⟩
theorem sc__law_complaint : FnScope nm__law_complaint ["call"] (defScope st__law_complaint) := ⟨rfl, rfl, rfl, by decide +kernel, rfl, by decide +kernel, by decide +kernel⟩
theorem sc__law_inside_due : FnScope nm__law_inside_due ["w", "pairs", "order"] (defScope st__law_inside_due) := ⟨rfl, rfl, rfl, by decide +kernel, rfl, by decide +kernel, by decide +kernel⟩
theorem sc__law_around_due : FnScope nm__law_around_due ["w", "pairs", "places"] (defScope st__law_around_due) := ⟨rfl, rfl, rfl, by decide +kernel, rfl, by decide +kernel, by decide +kernel⟩
theorem sc__law_own_ring : FnScope nm__law_own_ring ["w", "pairs"] (defScope st__law_own_ring) := ⟨rfl, rfl, rfl, by decide +kernel, rfl, by decide +kernel, by decide +kernel⟩
theorem sc__law_bent_order : FnScope nm__law_bent_order ["pen", "order"] (defScope st__law_bent_order) := ⟨rfl, rfl, rfl, by decide +kernel, rfl, by decide +kernel, by decide +kernel⟩
theorem sc__law_bent_places : FnScope nm__law_bent_places ["pen", "n", "places"] (defScope st__law_bent_places) := ⟨rfl, rfl, rfl, by decide +kernel, rfl, by decide +kernel, by decide +kernel⟩
theorem sc_law : FnScope nm_law ["script"] (defScope st_law) := ⟨rfl, rfl, rfl, by decide +kernel, rfl, by decide +kernel, by decide +kernel⟩
theorem bx_BadRow (q : Str) (b : List Stmt) (sc : Scope) (kV doc pm : Value) (an : Option Addr) (cdv ct : Value) (cc : Addr) (u v : Value) : bindArgs (PySem.W.ksFn "__init__" q (defArgs (inClass (top 2) 0)) b sc .none kV doc pm an cdv ct cc) ⟨[u, v], []⟩ = pure (([("self" : Str), "value"] : List Str).zip [u, v]) := rfl
theorem bx_BadOrder (q : Str) (b : List Stmt) (sc : Scope) (kV doc pm : Value) (an : Option Addr) (cdv ct : Value) (cc : Addr) (u v : Value) : bindArgs (PySem.W.ksFn "__init__" q (defArgs (inClass (top 3) 0)) b sc .none kV doc pm an cdv ct cc) ⟨[u, v], []⟩ = pure (([("self" : Str), "value"] : List Str).zip [u, v]) := rfl
theorem bx_NotSame (q : Str) (b : List Stmt) (sc : Scope) (kV doc pm : Value) (an : Option Addr) (cdv ct : Value) (cc : Addr) (u v : Value) : bindArgs (PySem.W.ksFn "__init__" q (defArgs (inClass (top 4) 0)) b sc .none kV doc pm an cdv ct cc) ⟨[u, v], []⟩ = pure (([("self" : Str), "order"] : List Str).zip [u, v]) := rfl
theorem bx_BadPair (q : Str) (b : List Stmt) (sc : Scope) (kV doc pm : Value) (an : Option Addr) (cdv ct : Value) (cc : Addr) (u v : Value) : bindArgs (PySem.W.ksFn "__init__" q (defArgs (inClass (top 5) 0)) b sc .none kV doc pm an cdv ct cc) ⟨[u, v], []⟩ = pure (([("self" : Str), "item"] : List Str).zip [u, v]) := rfl
set_option
        maxHeartbeats 8000000 in
theorem all_mk {K : PySem.W.Frag} {mg : Str → Option Value} {h : Heap} {fa : Addr} (KX : K.In h) (G : h.Ns mainGlobals mg) (hfa : mg "law" = some (.ref fa))
    (plain : ∀ ns : List Int, ns.length ≤ 63 → (∀ z ∈ ns, Builtin.Int.intBits z ≤ 1048576) → ∃ S', topEv prog rpD 8 37 [.ro (ns.map D.int)] [] = .ok (.d (.bl true)) S')
    {lc lt C5 C6 f0 f1 f2 f3 f4 f5 f6 f7 f8 f9 f10 f11 f12 f13 f14 f15 f16 f17 f18 f19 f20 f21 f22 f23 f24 f25 f26 f27 f28 f29 f30 f31 f32 f33 f34 f35 f36 f37 C1 e1 C2 e2 C3 e3 C4 e4 : Addr}
    {t_MOST : _}
    {oc0 kV0 dc0 pm0 ct0 oc1 kV1 dc1 pm1 ct1 oc2 kV2 dc2 pm2 ct2 oc3 kV3 dc3 pm3 ct3 oc4 kV4 dc4 pm4 ct4 oc5 kV5 dc5 pm5 ct5 oc6 kV6 dc6 pm6 ct6 oc7 kV7 dc7 pm7 ct7 oc8 kV8 dc8 pm8 ct8 oc9 kV9 dc9 pm9 ct9 oc10 kV10 dc10 pm10 ct10 oc11 kV11 dc11 pm11 ct11 oc12 kV12 dc12 pm12 ct12 oc13 kV13 dc13 pm13 ct13 oc14 kV14 dc14 pm14 ct14 oc15 kV15 dc15 pm15 ct15 oc16 kV16 dc16 pm16 ct16 oc17 kV17 dc17 pm17 ct17 oc18 kV18 dc18 pm18 ct18 oc19 kV19 dc19 pm19 ct19 oc20 kV20 dc20 pm20 ct20 oc21 kV21 dc21 pm21 ct21 oc22 kV22 dc22 pm22 ct22 oc23 kV23 dc23 pm23 ct23 oc24 kV24 dc24 pm24 ct24 oc25 kV25 dc25 pm25 ct25 oc26 kV26 dc26 pm26 ct26 oc27 kV27 dc27 pm27 ct27 oc28 kV28 dc28 pm28 ct28 oc29 kV29 dc29 pm29 ct29 oc30 kV30 dc30 pm30 ct30 oc31 kV31 dc31 pm31 ct31 oc32 kV32 dc32 pm32 ct32 oc33 kV33 dc33 pm33 ct33 oc34 kV34 dc34 pm34 ct34 oc35 kV35 dc35 pm35 ct35 oc36 kV36 dc36 pm36 ct36 oc37 kV37 dc37 pm37 ct37 : Value}
    {cd0 cd1 cd2 cd3 cd4 cd5 cd6 cd7 cd8 cd9 cd10 cd11 cd12 cd13 cd14 cd15 cd16 cd17 cd18 cd19 cd20 cd21 cd22 cd23 cd24 cd25 cd26 cd27 cd28 cd29 cd30 cd31 cd32 cd33 cd34 cd35 cd36 : Value}
    {od0 an0 od1 an1 od2 an2 od3 an3 od4 an4 od5 an5 od6 an6 od7 an7 od8 an8 od9 an9 od10 an10 od11 an11 od12 an12 od13 an13 od14 an14 od15 an15 od16 an16 od17 an17 od18 an18 od19 an19 od20 an20 od21 an21 od22 an22 od23 an23 od24 an24 od25 an25 od26 an26 od27 an27 od28 an28 od29 an29 od30 an30 od31 an31 od32 an32 od33 an33 od34 an34 od35 an35 od36 an36 od37 an37 : Option Addr}
    {sl0 sl1 sl2 sl3 sl4 sl5 sl6 sl7 sl8 sl9 sl10 sl11 sl12 sl13 sl14 sl15 sl16 sl17 sl18 sl19 sl20 sl21 sl22 sl23 sl24 sl25 sl26 sl27 sl28 sl29 sl30 sl31 sl32 sl33 sl34 sl35 sl36 sl37 : Array (Option Value)}
    {occ : Value} {odc : Option Addr} {vsc : Array Value} {slc : Array (Option Value)}
    {xn1 xq1 yq1 yf1 xn2 xq2 yq2 yf2 xn3 xq3 yq3 yf3 xn4 xq4 yq4 yf4 : Str}
    {xN1 yc1 ycc1 xN2 yc2 ycc2 xN3 yc3 ycc3 xN4 yc4 ycc4 : Addr}
    {xb1 xm1 xu1 xb2 xm2 xu2 xb3 xm3 xu3 xb4 xm4 xu4 : List Value}
    {xs1 xs2 xs3 xs4 : List Str}
    {xa1 xa2 xa3 xa4 : Bool}
    {xc1 xc2 xc3 xc4 : Option Bool}
    {xd1 yb1 yan1 yo21 yh21 xd2 yb2 yan2 yo22 yh22 xd3 yb3 yan3 yo23 yh23 xd4 yb4 yan4 yo24 yh24 : Option Addr}
    {y01 y11 y21 y31 y51 y02 y12 y22 y32 y52 y03 y13 y23 y33 y53 y04 y14 y24 y34 y54 : Option Value}
    {ya1 ykV1 ydc1 ypm1 yct1 yo11 yh11 ya2 ykV2 ydc2 ypm2 yct2 yo12 yh12 ya3 ykV3 ydc3 ypm3 yct3 yo13 yh13 ya4 ykV4 ydc4 ypm4 yct4 yo14 yh14 : Value}
    {ysl1 yo41 yh31 ysl2 yo42 yh32 ysl3 yo43 yh33 ysl4 yo44 yh34 : Array (Option Value)}
    {yo31 yo32 yo33 yo34 : Array Value}
    {yg1 : _}
    {yg2 : _}
    {yg3 : _}
    {yg4 : _}
    (aC5 : PySem.W.nsIn K mainGlobals "Inside" = some (some (.ref C5)))
    (pg5 : PySem.W.plainGet K C5 Str.empty = true)
    (hd5 : PySem.W.hasDictIn K C5 = true)
    (po5 : PySem.W.plainOver K C5 = true)
    (sa5 : PySem.W.findIn K (.ref C5) "__setattr__" = some (some (.builtin "object.__setattr__")))
    (mk5 : PySem.W.makesIn K C5 = true)
    (kc5 : PySem.W.keepIn K (.ref C5) = true)
    (ha5 : PySem.W.findIn K (.ref C5) "__class__" = some (some (.builtin "object.__class__")))
    (hm5 : PySem.W.mroIn K C5 (.type "object") = some true)
    (aC6 : PySem.W.nsIn K mainGlobals "Around" = some (some (.ref C6)))
    (pg6 : PySem.W.plainGet K C6 Str.empty = true)
    (hd6 : PySem.W.hasDictIn K C6 = true)
    (po6 : PySem.W.plainOver K C6 = true)
    (sa6 : PySem.W.findIn K (.ref C6) "__setattr__" = some (some (.builtin "object.__setattr__")))
    (mk6 : PySem.W.makesIn K C6 = true)
    (kc6 : PySem.W.keepIn K (.ref C6) = true)
    (ha6 : PySem.W.findIn K (.ref C6) "__class__" = some (some (.builtin "object.__class__")))
    (hm6 : PySem.W.mroIn K C6 (.type "object") = some true)
    (nf5_order : PySem.W.findIn K (.ref C5) "order" = some none)
    (nf6_places : PySem.W.findIn K (.ref C6) "places" = some none)
    (oHn : PySem.W.specialIn K (.builtin "object.__class__") "__get__" = some (some (.builtin "getset_descriptor.__get__")))
    (oHt : PySem.W.takesIn K (.builtin "object.__class__") = some true)
    (z_all : PySem.W.nsIn K mainGlobals "all" = some none)
    (z_bool : PySem.W.nsIn K mainGlobals "bool" = some none)
    (z_enumerate : PySem.W.nsIn K mainGlobals "enumerate" = some none)
    (z_int : PySem.W.nsIn K mainGlobals "int" = some none)
    (z_isinstance : PySem.W.nsIn K mainGlobals "isinstance" = some none)
    (z_len : PySem.W.nsIn K mainGlobals "len" = some none)
    (z_list : PySem.W.nsIn K mainGlobals "list" = some none)
    (z_max : PySem.W.nsIn K mainGlobals "max" = some none)
    (z_min : PySem.W.nsIn K mainGlobals "min" = some none)
    (z_range : PySem.W.nsIn K mainGlobals "range" = some none)
    (z_repr : PySem.W.nsIn K mainGlobals "repr" = some none)
    (z_set : PySem.W.nsIn K mainGlobals "set" = some none)
    (z_sorted : PySem.W.nsIn K mainGlobals "sorted" = some none)
    (z_str : PySem.W.nsIn K mainGlobals "str" = some none)
    (z_tuple : PySem.W.nsIn K mainGlobals "tuple" = some none)
    (m_MOST : PySem.W.nsIn K mainGlobals "MOST" = some (some (.int 8 t_MOST)))
    (a0 : PySem.W.nsIn K mainGlobals "is_integer" = some (some (.ref f0)))
    (l0 : K.lookup f0 = some ⟨oc0, od0, .func (PySem.W.fnOf "is_integer" "is_integer" (defArgs st_is_integer) (defBody st_is_integer) (defScope st_is_integer) .none kV0 dc0 pm0 an0 cd0 ct0), sl0⟩)
    (c0 : PySem.W.codeIn K cd0 "is_integer" = true)
    (k0 : PySem.W.keepIn K (.ref f0) = true)
    (a1 : PySem.W.nsIn K mainGlobals "is_row" = some (some (.ref f1)))
    (l1 : K.lookup f1 = some ⟨oc1, od1, .func (PySem.W.fnOf "is_row" "is_row" (defArgs st_is_row) (defBody st_is_row) (defScope st_is_row) .none kV1 dc1 pm1 an1 cd1 ct1), sl1⟩)
    (c1 : PySem.W.codeIn K cd1 "is_row" = true)
    (k1 : PySem.W.keepIn K (.ref f1) = true)
    (a2 : PySem.W.nsIn K mainGlobals "is_order" = some (some (.ref f2)))
    (l2 : K.lookup f2 = some ⟨oc2, od2, .func (PySem.W.fnOf "is_order" "is_order" (defArgs st_is_order) (defBody st_is_order) (defScope st_is_order) .none kV2 dc2 pm2 an2 cd2 ct2), sl2⟩)
    (c2 : PySem.W.codeIn K cd2 "is_order" = true)
    (k2 : PySem.W.keepIn K (.ref f2) = true)
    (a3 : PySem.W.nsIn K mainGlobals "need_orders" = some (some (.ref f3)))
    (l3 : K.lookup f3 = some ⟨oc3, od3, .func (PySem.W.fnOf "need_orders" "need_orders" (defArgs st_need_orders) (defBody st_need_orders) (defScope st_need_orders) .none kV3 dc3 pm3 an3 cd3 ct3), sl3⟩)
    (c3 : PySem.W.codeIn K cd3 "need_orders" = true)
    (k3 : PySem.W.keepIn K (.ref f3) = true)
    (a4 : PySem.W.nsIn K mainGlobals "need_order" = some (some (.ref f4)))
    (l4 : K.lookup f4 = some ⟨oc4, od4, .func (PySem.W.fnOf "need_order" "need_order" (defArgs st_need_order) (defBody st_need_order) (defScope st_need_order) .none kV4 dc4 pm4 an4 cd4 ct4), sl4⟩)
    (c4 : PySem.W.codeIn K cd4 "need_order" = true)
    (k4 : PySem.W.keepIn K (.ref f4) = true)
    (a5 : PySem.W.nsIn K mainGlobals "all_pairs" = some (some (.ref f5)))
    (l5 : K.lookup f5 = some ⟨oc5, od5, .func (PySem.W.fnOf "all_pairs" "all_pairs" (defArgs st_all_pairs) (defBody st_all_pairs) (defScope st_all_pairs) .none kV5 dc5 pm5 an5 cd5 ct5), sl5⟩)
    (c5 : PySem.W.codeIn K cd5 "all_pairs" = true)
    (k5 : PySem.W.keepIn K (.ref f5) = true)
    (a6 : PySem.W.nsIn K mainGlobals "turned_pairs" = some (some (.ref f6)))
    (l6 : K.lookup f6 = some ⟨oc6, od6, .func (PySem.W.fnOf "turned_pairs" "turned_pairs" (defArgs st_turned_pairs) (defBody st_turned_pairs) (defScope st_turned_pairs) .none kV6 dc6 pm6 an6 cd6 ct6), sl6⟩)
    (c6 : PySem.W.codeIn K cd6 "turned_pairs" = true)
    (k6 : PySem.W.keepIn K (.ref f6) = true)
    (a7 : PySem.W.nsIn K mainGlobals "kept_row" = some (some (.ref f7)))
    (l7 : K.lookup f7 = some ⟨oc7, od7, .func (PySem.W.fnOf "kept_row" "kept_row" (defArgs st_kept_row) (defBody st_kept_row) (defScope st_kept_row) .none kV7 dc7 pm7 an7 cd7 ct7), sl7⟩)
    (c7 : PySem.W.codeIn K cd7 "kept_row" = true)
    (k7 : PySem.W.keepIn K (.ref f7) = true)
    (a8 : PySem.W.findIn K (.ref C5) "__init__" = some (some (.ref f8)))
    (i8 : PySem.W.isFn K (.ref f8) = true)
    (l8 : K.lookup f8 = some ⟨oc8, od8, .func (PySem.W.fnOf "__init__" "Inside.__init__" (defArgs st_Inside_init) (defBody st_Inside_init) (defScope st_Inside_init) .none kV8 dc8 pm8 an8 cd8 ct8), sl8⟩)
    (c8 : PySem.W.codeIn K cd8 "Inside.__init__" = true)
    (k8 : PySem.W.keepIn K (.ref f8) = true)
    (a9 : PySem.W.findIn K (.ref C5) "__eq__" = some (some (.ref f9)))
    (i9 : PySem.W.isFn K (.ref f9) = true)
    (l9 : K.lookup f9 = some ⟨oc9, od9, .func (PySem.W.fnOf "__eq__" "Inside.__eq__" (defArgs st_Inside_eq) (defBody st_Inside_eq) (defScope st_Inside_eq) .none kV9 dc9 pm9 an9 cd9 ct9), sl9⟩)
    (c9 : PySem.W.codeIn K cd9 "Inside.__eq__" = true)
    (k9 : PySem.W.keepIn K (.ref f9) = true)
    (a10 : PySem.W.findIn K (.ref C6) "__init__" = some (some (.ref f10)))
    (i10 : PySem.W.isFn K (.ref f10) = true)
    (l10 : K.lookup f10 = some ⟨oc10, od10, .func (PySem.W.fnOf "__init__" "Around.__init__" (defArgs st_Around_init) (defBody st_Around_init) (defScope st_Around_init) .none kV10 dc10 pm10 an10 cd10 ct10), sl10⟩)
    (c10 : PySem.W.codeIn K cd10 "Around.__init__" = true)
    (k10 : PySem.W.keepIn K (.ref f10) = true)
    (a11 : PySem.W.findIn K (.ref C6) "__eq__" = some (some (.ref f11)))
    (i11 : PySem.W.isFn K (.ref f11) = true)
    (l11 : K.lookup f11 = some ⟨oc11, od11, .func (PySem.W.fnOf "__eq__" "Around.__eq__" (defArgs st_Around_eq) (defBody st_Around_eq) (defScope st_Around_eq) .none kV11 dc11 pm11 an11 cd11 ct11), sl11⟩)
    (c11 : PySem.W.codeIn K cd11 "Around.__eq__" = true)
    (k11 : PySem.W.keepIn K (.ref f11) = true)
    (a12 : PySem.W.nsIn K mainGlobals "turned_in" = some (some (.ref f12)))
    (l12 : K.lookup f12 = some ⟨oc12, od12, .func (PySem.W.fnOf "turned_in" "turned_in" (defArgs st_turned_in) (defBody st_turned_in) (defScope st_turned_in) .none kV12 dc12 pm12 an12 cd12 ct12), sl12⟩)
    (c12 : PySem.W.codeIn K cd12 "turned_in" = true)
    (k12 : PySem.W.keepIn K (.ref f12) = true)
    (a13 : PySem.W.nsIn K mainGlobals "checked_pairs" = some (some (.ref f13)))
    (l13 : K.lookup f13 = some ⟨oc13, od13, .func (PySem.W.fnOf "checked_pairs" "checked_pairs" (defArgs st_checked_pairs) (defBody st_checked_pairs) (defScope st_checked_pairs) .none kV13 dc13 pm13 an13 cd13 ct13), sl13⟩)
    (c13 : PySem.W.codeIn K cd13 "checked_pairs" = true)
    (k13 : PySem.W.keepIn K (.ref f13) = true)
    (a14 : PySem.W.nsIn K mainGlobals "is_mirror" = some (some (.ref f14)))
    (l14 : K.lookup f14 = some ⟨oc14, od14, .func (PySem.W.fnOf "is_mirror" "is_mirror" (defArgs st_is_mirror) (defBody st_is_mirror) (defScope st_is_mirror) .none kV14 dc14 pm14 an14 cd14 ct14), sl14⟩)
    (c14 : PySem.W.codeIn K cd14 "is_mirror" = true)
    (k14 : PySem.W.keepIn K (.ref f14) = true)
    (a15 : PySem.W.nsIn K mainGlobals "lesser_ones" = some (some (.ref f15)))
    (l15 : K.lookup f15 = some ⟨oc15, od15, .func (PySem.W.fnOf "lesser_ones" "lesser_ones" (defArgs st_lesser_ones) (defBody st_lesser_ones) (defScope st_lesser_ones) .none kV15 dc15 pm15 an15 cd15 ct15), sl15⟩)
    (c15 : PySem.W.codeIn K cd15 "lesser_ones" = true)
    (k15 : PySem.W.keepIn K (.ref f15) = true)
    (a16 : PySem.W.nsIn K mainGlobals "first_unlike" = some (some (.ref f16)))
    (l16 : K.lookup f16 = some ⟨oc16, od16, .func (PySem.W.fnOf "first_unlike" "first_unlike" (defArgs st_first_unlike) (defBody st_first_unlike) (defScope st_first_unlike) .none kV16 dc16 pm16 an16 cd16 ct16), sl16⟩)
    (c16 : PySem.W.codeIn K cd16 "first_unlike" = true)
    (k16 : PySem.W.keepIn K (.ref f16) = true)
    (a17 : PySem.W.nsIn K mainGlobals "around_fault" = some (some (.ref f17)))
    (l17 : K.lookup f17 = some ⟨oc17, od17, .func (PySem.W.fnOf "around_fault" "around_fault" (defArgs st_around_fault) (defBody st_around_fault) (defScope st_around_fault) .none kV17 dc17 pm17 an17 cd17 ct17), sl17⟩)
    (c17 : PySem.W.codeIn K cd17 "around_fault" = true)
    (k17 : PySem.W.keepIn K (.ref f17) = true)
    (a18 : PySem.W.nsIn K mainGlobals "room_fault" = some (some (.ref f18)))
    (l18 : K.lookup f18 = some ⟨oc18, od18, .func (PySem.W.fnOf "room_fault" "room_fault" (defArgs st_room_fault) (defBody st_room_fault) (defScope st_room_fault) .none kV18 dc18 pm18 an18 cd18 ct18), sl18⟩)
    (c18 : PySem.W.codeIn K cd18 "room_fault" = true)
    (k18 : PySem.W.keepIn K (.ref f18) = true)
    (a19 : PySem.W.nsIn K mainGlobals "_law_pen" = some (some (.ref f19)))
    (l19 : K.lookup f19 = some ⟨oc19, od19, .func (PySem.W.fnOf "_law_pen" "_law_pen" (defArgs st__law_pen) (defBody st__law_pen) (defScope st__law_pen) .none kV19 dc19 pm19 an19 cd19 ct19), sl19⟩)
    (c19 : PySem.W.codeIn K cd19 "_law_pen" = true)
    (k19 : PySem.W.keepIn K (.ref f19) = true)
    (a20 : PySem.W.nsIn K mainGlobals "_law_draw" = some (some (.ref f20)))
    (l20 : K.lookup f20 = some ⟨oc20, od20, .func (PySem.W.fnOf "_law_draw" "_law_draw" (defArgs st__law_draw) (defBody st__law_draw) (defScope st__law_draw) .none kV20 dc20 pm20 an20 cd20 ct20), sl20⟩)
    (c20 : PySem.W.codeIn K cd20 "_law_draw" = true)
    (k20 : PySem.W.keepIn K (.ref f20) = true)
    (a21 : PySem.W.nsIn K mainGlobals "_law_pick" = some (some (.ref f21)))
    (l21 : K.lookup f21 = some ⟨oc21, od21, .func (PySem.W.fnOf "_law_pick" "_law_pick" (defArgs st__law_pick) (defBody st__law_pick) (defScope st__law_pick) .none kV21 dc21 pm21 an21 cd21 ct21), sl21⟩)
    (c21 : PySem.W.codeIn K cd21 "_law_pick" = true)
    (k21 : PySem.W.keepIn K (.ref f21) = true)
    (a22 : PySem.W.nsIn K mainGlobals "_law_shuffled" = some (some (.ref f22)))
    (l22 : K.lookup f22 = some ⟨oc22, od22, .func (PySem.W.fnOf "_law_shuffled" "_law_shuffled" (defArgs st__law_shuffled) (defBody st__law_shuffled) (defScope st__law_shuffled) .none kV22 dc22 pm22 an22 cd22 ct22), sl22⟩)
    (c22 : PySem.W.codeIn K cd22 "_law_shuffled" = true)
    (k22 : PySem.W.keepIn K (.ref f22) = true)
    (a23 : PySem.W.nsIn K mainGlobals "_law_pairs" = some (some (.ref f23)))
    (l23 : K.lookup f23 = some ⟨oc23, od23, .func (PySem.W.fnOf "_law_pairs" "_law_pairs" (defArgs st__law_pairs) (defBody st__law_pairs) (defScope st__law_pairs) .none kV23 dc23 pm23 an23 cd23 ct23), sl23⟩)
    (c23 : PySem.W.codeIn K cd23 "_law_pairs" = true)
    (k23 : PySem.W.keepIn K (.ref f23) = true)
    (a24 : PySem.W.nsIn K mainGlobals "_law_some_order" = some (some (.ref f24)))
    (l24 : K.lookup f24 = some ⟨oc24, od24, .func (PySem.W.fnOf "_law_some_order" "_law_some_order" (defArgs st__law_some_order) (defBody st__law_some_order) (defScope st__law_some_order) .none kV24 dc24 pm24 an24 cd24 ct24), sl24⟩)
    (c24 : PySem.W.codeIn K cd24 "_law_some_order" = true)
    (k24 : PySem.W.keepIn K (.ref f24) = true)
    (a25 : PySem.W.nsIn K mainGlobals "_law_listed" = some (some (.ref f25)))
    (l25 : K.lookup f25 = some ⟨oc25, od25, .func (PySem.W.fnOf "_law_listed" "_law_listed" (defArgs st__law_listed) (defBody st__law_listed) (defScope st__law_listed) .none kV25 dc25 pm25 an25 cd25 ct25), sl25⟩)
    (c25 : PySem.W.codeIn K cd25 "_law_listed" = true)
    (k25 : PySem.W.keepIn K (.ref f25) = true)
    (a26 : PySem.W.nsIn K mainGlobals "_law_is_ints" = some (some (.ref f26)))
    (l26 : K.lookup f26 = some ⟨oc26, od26, .func (PySem.W.fnOf "_law_is_ints" "_law_is_ints" (defArgs st__law_is_ints) (defBody st__law_is_ints) (defScope st__law_is_ints) .none kV26 dc26 pm26 an26 cd26 ct26), sl26⟩)
    (c26 : PySem.W.codeIn K cd26 "_law_is_ints" = true)
    (k26 : PySem.W.keepIn K (.ref f26) = true)
    (a27 : PySem.W.nsIn K mainGlobals "_law_is_fault" = some (some (.ref f27)))
    (l27 : K.lookup f27 = some ⟨oc27, od27, .func (PySem.W.fnOf "_law_is_fault" "_law_is_fault" (defArgs st__law_is_fault) (defBody st__law_is_fault) (defScope st__law_is_fault) .none kV27 dc27 pm27 an27 cd27 ct27), sl27⟩)
    (c27 : PySem.W.codeIn K cd27 "_law_is_fault" = true)
    (k27 : PySem.W.keepIn K (.ref f27) = true)
    (a28 : PySem.W.nsIn K mainGlobals "_law_mirrors" = some (some (.ref f28)))
    (l28 : K.lookup f28 = some ⟨oc28, od28, .func (PySem.W.fnOf "_law_mirrors" "_law_mirrors" (defArgs st__law_mirrors) (defBody st__law_mirrors) (defScope st__law_mirrors) .none kV28 dc28 pm28 an28 cd28 ct28), sl28⟩)
    (c28 : PySem.W.codeIn K cd28 "_law_mirrors" = true)
    (k28 : PySem.W.keepIn K (.ref f28) = true)
    (a29 : PySem.W.nsIn K mainGlobals "_law_room" = some (some (.ref f29)))
    (l29 : K.lookup f29 = some ⟨oc29, od29, .func (PySem.W.fnOf "_law_room" "_law_room" (defArgs st__law_room) (defBody st__law_room) (defScope st__law_room) .none kV29 dc29 pm29 an29 cd29 ct29), sl29⟩)
    (c29 : PySem.W.codeIn K cd29 "_law_room" = true)
    (k29 : PySem.W.keepIn K (.ref f29) = true)
    (a30 : PySem.W.nsIn K mainGlobals "_law_lesser" = some (some (.ref f30)))
    (l30 : K.lookup f30 = some ⟨oc30, od30, .func (PySem.W.fnOf "_law_lesser" "_law_lesser" (defArgs st__law_lesser) (defBody st__law_lesser) (defScope st__law_lesser) .none kV30 dc30 pm30 an30 cd30 ct30), sl30⟩)
    (c30 : PySem.W.codeIn K cd30 "_law_lesser" = true)
    (k30 : PySem.W.keepIn K (.ref f30) = true)
    (a31 : PySem.W.nsIn K mainGlobals "_law_complaint" = some (some (.ref f31)))
    (l31 : K.lookup f31 = some ⟨oc31, od31, .func (PySem.W.fnOf "_law_complaint" "_law_complaint" (defArgs st__law_complaint) (defBody st__law_complaint) (defScope st__law_complaint) .none kV31 dc31 pm31 an31 cd31 ct31), sl31⟩)
    (c31 : PySem.W.codeIn K cd31 "_law_complaint" = true)
    (k31 : PySem.W.keepIn K (.ref f31) = true)
    (a32 : PySem.W.nsIn K mainGlobals "_law_inside_due" = some (some (.ref f32)))
    (l32 : K.lookup f32 = some ⟨oc32, od32, .func (PySem.W.fnOf "_law_inside_due" "_law_inside_due" (defArgs st__law_inside_due) (defBody st__law_inside_due) (defScope st__law_inside_due) .none kV32 dc32 pm32 an32 cd32 ct32), sl32⟩)
    (c32 : PySem.W.codeIn K cd32 "_law_inside_due" = true)
    (k32 : PySem.W.keepIn K (.ref f32) = true)
    (a33 : PySem.W.nsIn K mainGlobals "_law_around_due" = some (some (.ref f33)))
    (l33 : K.lookup f33 = some ⟨oc33, od33, .func (PySem.W.fnOf "_law_around_due" "_law_around_due" (defArgs st__law_around_due) (defBody st__law_around_due) (defScope st__law_around_due) .none kV33 dc33 pm33 an33 cd33 ct33), sl33⟩)
    (c33 : PySem.W.codeIn K cd33 "_law_around_due" = true)
    (k33 : PySem.W.keepIn K (.ref f33) = true)
    (a34 : PySem.W.nsIn K mainGlobals "_law_own_ring" = some (some (.ref f34)))
    (l34 : K.lookup f34 = some ⟨oc34, od34, .func (PySem.W.fnOf "_law_own_ring" "_law_own_ring" (defArgs st__law_own_ring) (defBody st__law_own_ring) (defScope st__law_own_ring) .none kV34 dc34 pm34 an34 cd34 ct34), sl34⟩)
    (c34 : PySem.W.codeIn K cd34 "_law_own_ring" = true)
    (k34 : PySem.W.keepIn K (.ref f34) = true)
    (a35 : PySem.W.nsIn K mainGlobals "_law_bent_order" = some (some (.ref f35)))
    (l35 : K.lookup f35 = some ⟨oc35, od35, .func (PySem.W.fnOf "_law_bent_order" "_law_bent_order" (defArgs st__law_bent_order) (defBody st__law_bent_order) (defScope st__law_bent_order) .none kV35 dc35 pm35 an35 cd35 ct35), sl35⟩)
    (c35 : PySem.W.codeIn K cd35 "_law_bent_order" = true)
    (k35 : PySem.W.keepIn K (.ref f35) = true)
    (a36 : PySem.W.nsIn K mainGlobals "_law_bent_places" = some (some (.ref f36)))
    (l36 : K.lookup f36 = some ⟨oc36, od36, .func (PySem.W.fnOf "_law_bent_places" "_law_bent_places" (defArgs st__law_bent_places) (defBody st__law_bent_places) (defScope st__law_bent_places) .none kV36 dc36 pm36 an36 cd36 ct36), sl36⟩)
    (c36 : PySem.W.codeIn K cd36 "_law_bent_places" = true)
    (k36 : PySem.W.keepIn K (.ref f36) = true)
    (a37 : PySem.W.nsIn K mainGlobals "law" = some (some (.ref f37)))
    (l37 : K.lookup f37 = some ⟨oc37, od37, .func (PySem.W.fnOf "law" "law" (defArgs st_law) (defBody st_law) (defScope st_law) .none kV37 dc37 pm37 an37 (.ref lc) ct37), sl37⟩)
    (c37 : PySem.W.codeIn K (.ref lc) "law" = true)
    (k37 : PySem.W.keepIn K (.ref f37) = true)
    (lC : K.lookup lc = some ⟨occ, odc, .fields vsc, slc⟩)
    (lT : (vsc[11]? : Option Value) = some (.ref lt))
    (lN : K.lookup lt = none)
    (nq5_NoneType : PySem.W.notFirst K C5 (.type "NoneType") = true)
    (nq5_bool : PySem.W.notFirst K C5 (.type "bool") = true)
    (nq5_int : PySem.W.notFirst K C5 (.type "int") = true)
    (nq5_str : PySem.W.notFirst K C5 (.type "str") = true)
    (nq5_tuple : PySem.W.notFirst K C5 (.type "tuple") = true)
    (nq5_list : PySem.W.notFirst K C5 (.type "list") = true)
    (nq5_5 : PySem.W.notFirst K C5 (.ref C5) = true)
    (nq5_6 : PySem.W.notFirst K C5 (.ref C6) = true)
    (nq6_NoneType : PySem.W.notFirst K C6 (.type "NoneType") = true)
    (nq6_bool : PySem.W.notFirst K C6 (.type "bool") = true)
    (nq6_int : PySem.W.notFirst K C6 (.type "int") = true)
    (nq6_str : PySem.W.notFirst K C6 (.type "str") = true)
    (nq6_tuple : PySem.W.notFirst K C6 (.type "tuple") = true)
    (nq6_list : PySem.W.notFirst K C6 (.type "list") = true)
    (nq6_5 : PySem.W.notFirst K C6 (.ref C5) = true)
    (nq6_6 : PySem.W.notFirst K C6 (.ref C6) = true)
    (q0_NoneType : PySem.W.kitAny K (.type "NoneType") [(.type "int")] = some false)
    (q0_bool : PySem.W.kitAny K (.type "bool") [(.type "int")] = some true)
    (q0_int : PySem.W.kitAny K (.type "int") [(.type "int")] = some true)
    (q0_str : PySem.W.kitAny K (.type "str") [(.type "int")] = some false)
    (q0_tuple : PySem.W.kitAny K (.type "tuple") [(.type "int")] = some false)
    (q0_list : PySem.W.kitAny K (.type "list") [(.type "int")] = some false)
    (q0_5 : PySem.W.kitAny K (.ref C5) [(.type "int")] = some false)
    (q0_6 : PySem.W.kitAny K (.ref C6) [(.type "int")] = some false)
    (q1_NoneType : PySem.W.kitAny K (.type "NoneType") [(.type "bool")] = some false)
    (q1_bool : PySem.W.kitAny K (.type "bool") [(.type "bool")] = some true)
    (q1_int : PySem.W.kitAny K (.type "int") [(.type "bool")] = some false)
    (q1_str : PySem.W.kitAny K (.type "str") [(.type "bool")] = some false)
    (q1_tuple : PySem.W.kitAny K (.type "tuple") [(.type "bool")] = some false)
    (q1_list : PySem.W.kitAny K (.type "list") [(.type "bool")] = some false)
    (q1_5 : PySem.W.kitAny K (.ref C5) [(.type "bool")] = some false)
    (q1_6 : PySem.W.kitAny K (.ref C6) [(.type "bool")] = some false)
    (q2_NoneType : PySem.W.kitAny K (.type "NoneType") [(.type "list"), (.type "tuple")] = some false)
    (q2_bool : PySem.W.kitAny K (.type "bool") [(.type "list"), (.type "tuple")] = some false)
    (q2_int : PySem.W.kitAny K (.type "int") [(.type "list"), (.type "tuple")] = some false)
    (q2_str : PySem.W.kitAny K (.type "str") [(.type "list"), (.type "tuple")] = some false)
    (q2_tuple : PySem.W.kitAny K (.type "tuple") [(.type "list"), (.type "tuple")] = some true)
    (q2_list : PySem.W.kitAny K (.type "list") [(.type "list"), (.type "tuple")] = some true)
    (q2_5 : PySem.W.kitAny K (.ref C5) [(.type "list"), (.type "tuple")] = some false)
    (q2_6 : PySem.W.kitAny K (.ref C6) [(.type "list"), (.type "tuple")] = some false)
    (q3_NoneType : PySem.W.kitAny K (.type "NoneType") [(.ref C5)] = some false)
    (q3_bool : PySem.W.kitAny K (.type "bool") [(.ref C5)] = some false)
    (q3_int : PySem.W.kitAny K (.type "int") [(.ref C5)] = some false)
    (q3_str : PySem.W.kitAny K (.type "str") [(.ref C5)] = some false)
    (q3_tuple : PySem.W.kitAny K (.type "tuple") [(.ref C5)] = some false)
    (q3_list : PySem.W.kitAny K (.type "list") [(.ref C5)] = some false)
    (q3_5 : PySem.W.kitAny K (.ref C5) [(.ref C5)] = some true)
    (q3_6 : PySem.W.kitAny K (.ref C6) [(.ref C5)] = some false)
    (q4_NoneType : PySem.W.kitAny K (.type "NoneType") [(.ref C6)] = some false)
    (q4_bool : PySem.W.kitAny K (.type "bool") [(.ref C6)] = some false)
    (q4_int : PySem.W.kitAny K (.type "int") [(.ref C6)] = some false)
    (q4_str : PySem.W.kitAny K (.type "str") [(.ref C6)] = some false)
    (q4_tuple : PySem.W.kitAny K (.type "tuple") [(.ref C6)] = some false)
    (q4_list : PySem.W.kitAny K (.type "list") [(.ref C6)] = some false)
    (q4_5 : PySem.W.kitAny K (.ref C5) [(.ref C6)] = some false)
    (q4_6 : PySem.W.kitAny K (.ref C6) [(.ref C6)] = some true)
    (q5_NoneType : PySem.W.kitAny K (.type "NoneType") [(.type "tuple")] = some false)
    (q5_bool : PySem.W.kitAny K (.type "bool") [(.type "tuple")] = some false)
    (q5_int : PySem.W.kitAny K (.type "int") [(.type "tuple")] = some false)
    (q5_str : PySem.W.kitAny K (.type "str") [(.type "tuple")] = some false)
    (q5_tuple : PySem.W.kitAny K (.type "tuple") [(.type "tuple")] = some true)
    (q5_list : PySem.W.kitAny K (.type "list") [(.type "tuple")] = some false)
    (q5_5 : PySem.W.kitAny K (.ref C5) [(.type "tuple")] = some false)
    (q5_6 : PySem.W.kitAny K (.ref C6) [(.type "tuple")] = some false)
    (q6_NoneType : PySem.W.kitAny K (.type "NoneType") [(.type "int"), (.type "str")] = some false)
    (q6_bool : PySem.W.kitAny K (.type "bool") [(.type "int"), (.type "str")] = some true)
    (q6_int : PySem.W.kitAny K (.type "int") [(.type "int"), (.type "str")] = some true)
    (q6_str : PySem.W.kitAny K (.type "str") [(.type "int"), (.type "str")] = some true)
    (q6_tuple : PySem.W.kitAny K (.type "tuple") [(.type "int"), (.type "str")] = some false)
    (q6_list : PySem.W.kitAny K (.type "list") [(.type "int"), (.type "str")] = some false)
    (q6_5 : PySem.W.kitAny K (.ref C5) [(.type "int"), (.type "str")] = some false)
    (q6_6 : PySem.W.kitAny K (.ref C6) [(.type "int"), (.type "str")] = some false)
    (aE1 : PySem.W.nsIn K mainGlobals "BadRow" = some (some (.ref C1)))
    (xl1 : K.lookup C1 = some (excClassObj xn1 xq1 C1 xN1 xb1 xm1 true xs1 xu1 xa1 xc1 xd1 y01 y11 y21 y31 y51 "ValueError.__new__"))
    (xr1 : PySem.HandSPX.refsVE xm1 = true)
    (xsa1 : PySem.W.findIn K (.ref C1) "__setattr__" = some (some (.builtin "object.__setattr__")))
    (xB1 : PySem.W.subIn K (.ref C1) (.type "BaseException") = some true)
    (xt1 : PySem.W.typeIn K (.ref C1) = some (.type "type"))
    (xk1 : PySem.W.keepIn K (.ref C1) = true)
    (xf1 : PySem.W.findIn K (.ref C1) "value" = some none)
    (xi1 : PySem.W.findIn K (.ref C1) "__init__" = some (some (.ref e1)))
    (xT1 : PySem.W.typeIn K (.ref e1) = some (.type "function"))
    (xF1 : K.lookup e1 = some ⟨ya1, yb1, .func (PySem.W.ksFn "__init__" yq1 (defArgs (inClass (top 2) 0)) (defBody (inClass (top 2) 0)) (defScope (inClass (top 2) 0)) .none ykV1 ydc1 ypm1 yan1 (.ref yc1) yct1 ycc1), ysl1⟩)
    (xc1_ : PySem.W.codeIn K (.ref yc1) yq1 = true)
    (xo1 : K.lookup yc1 = some ⟨yo11, yo21, .fields yo31, yo41⟩)
    (xp1 : yo31[2]? = some (.str yf1 yg1))
    (xe1 : (PySem.Challenge.pw_swaprise_k85_whole_room_papers_judged.main.file == yf1) = true)
    (xz1 : K.lookup ycc1 = some ⟨yh11, yh21, .cell (some (.ref C1)), yh31⟩)
    (xS1 : PySem.W.ks_superIn K C1 C1 "__init__" = some (some (.builtin "ValueError.__init__")))
    (xV1 : PySem.W.subIn K (.ref C1) (.type "ValueError") = some true)
    (xM1 : PySem.W.mroIn K C1 (.ref C1) = some true)
    (xga1 : PySem.W.findIn K (.ref C1) "__getattribute__" = some (some (.builtin "BaseException.__getattribute__")))
    (xgg1 : PySem.W.findIn K (.ref C1) "__getattr__" = some none)
    (xhd1 : PySem.W.hasDictIn K C1 = true)
    (aE2 : PySem.W.nsIn K mainGlobals "BadOrder" = some (some (.ref C2)))
    (xl2 : K.lookup C2 = some (excClassObj xn2 xq2 C2 xN2 xb2 xm2 true xs2 xu2 xa2 xc2 xd2 y02 y12 y22 y32 y52 "ValueError.__new__"))
    (xr2 : PySem.HandSPX.refsVE xm2 = true)
    (xsa2 : PySem.W.findIn K (.ref C2) "__setattr__" = some (some (.builtin "object.__setattr__")))
    (xB2 : PySem.W.subIn K (.ref C2) (.type "BaseException") = some true)
    (xt2 : PySem.W.typeIn K (.ref C2) = some (.type "type"))
    (xk2 : PySem.W.keepIn K (.ref C2) = true)
    (xf2 : PySem.W.findIn K (.ref C2) "value" = some none)
    (xi2 : PySem.W.findIn K (.ref C2) "__init__" = some (some (.ref e2)))
    (xT2 : PySem.W.typeIn K (.ref e2) = some (.type "function"))
    (xF2 : K.lookup e2 = some ⟨ya2, yb2, .func (PySem.W.ksFn "__init__" yq2 (defArgs (inClass (top 3) 0)) (defBody (inClass (top 3) 0)) (defScope (inClass (top 3) 0)) .none ykV2 ydc2 ypm2 yan2 (.ref yc2) yct2 ycc2), ysl2⟩)
    (xc2_ : PySem.W.codeIn K (.ref yc2) yq2 = true)
    (xo2 : K.lookup yc2 = some ⟨yo12, yo22, .fields yo32, yo42⟩)
    (xp2 : yo32[2]? = some (.str yf2 yg2))
    (xe2 : (PySem.Challenge.pw_swaprise_k85_whole_room_papers_judged.main.file == yf2) = true)
    (xz2 : K.lookup ycc2 = some ⟨yh12, yh22, .cell (some (.ref C2)), yh32⟩)
    (xS2 : PySem.W.ks_superIn K C2 C2 "__init__" = some (some (.builtin "ValueError.__init__")))
    (xV2 : PySem.W.subIn K (.ref C2) (.type "ValueError") = some true)
    (xM2 : PySem.W.mroIn K C2 (.ref C2) = some true)
    (xga2 : PySem.W.findIn K (.ref C2) "__getattribute__" = some (some (.builtin "BaseException.__getattribute__")))
    (xgg2 : PySem.W.findIn K (.ref C2) "__getattr__" = some none)
    (xhd2 : PySem.W.hasDictIn K C2 = true)
    (aE3 : PySem.W.nsIn K mainGlobals "NotSame" = some (some (.ref C3)))
    (xl3 : K.lookup C3 = some (excClassObj xn3 xq3 C3 xN3 xb3 xm3 true xs3 xu3 xa3 xc3 xd3 y03 y13 y23 y33 y53 "ValueError.__new__"))
    (xr3 : PySem.HandSPX.refsVE xm3 = true)
    (xsa3 : PySem.W.findIn K (.ref C3) "__setattr__" = some (some (.builtin "object.__setattr__")))
    (xB3 : PySem.W.subIn K (.ref C3) (.type "BaseException") = some true)
    (xt3 : PySem.W.typeIn K (.ref C3) = some (.type "type"))
    (xk3 : PySem.W.keepIn K (.ref C3) = true)
    (xf3 : PySem.W.findIn K (.ref C3) "order" = some none)
    (xi3 : PySem.W.findIn K (.ref C3) "__init__" = some (some (.ref e3)))
    (xT3 : PySem.W.typeIn K (.ref e3) = some (.type "function"))
    (xF3 : K.lookup e3 = some ⟨ya3, yb3, .func (PySem.W.ksFn "__init__" yq3 (defArgs (inClass (top 4) 0)) (defBody (inClass (top 4) 0)) (defScope (inClass (top 4) 0)) .none ykV3 ydc3 ypm3 yan3 (.ref yc3) yct3 ycc3), ysl3⟩)
    (xc3_ : PySem.W.codeIn K (.ref yc3) yq3 = true)
    (xo3 : K.lookup yc3 = some ⟨yo13, yo23, .fields yo33, yo43⟩)
    (xp3 : yo33[2]? = some (.str yf3 yg3))
    (xe3 : (PySem.Challenge.pw_swaprise_k85_whole_room_papers_judged.main.file == yf3) = true)
    (xz3 : K.lookup ycc3 = some ⟨yh13, yh23, .cell (some (.ref C3)), yh33⟩)
    (xS3 : PySem.W.ks_superIn K C3 C3 "__init__" = some (some (.builtin "ValueError.__init__")))
    (xV3 : PySem.W.subIn K (.ref C3) (.type "ValueError") = some true)
    (xM3 : PySem.W.mroIn K C3 (.ref C3) = some true)
    (xga3 : PySem.W.findIn K (.ref C3) "__getattribute__" = some (some (.builtin "BaseException.__getattribute__")))
    (xgg3 : PySem.W.findIn K (.ref C3) "__getattr__" = some none)
    (xhd3 : PySem.W.hasDictIn K C3 = true)
    (aE4 : PySem.W.nsIn K mainGlobals "BadPair" = some (some (.ref C4)))
    (xl4 : K.lookup C4 = some (excClassObj xn4 xq4 C4 xN4 xb4 xm4 true xs4 xu4 xa4 xc4 xd4 y04 y14 y24 y34 y54 "ValueError.__new__"))
    (xr4 : PySem.HandSPX.refsVE xm4 = true)
    (xsa4 : PySem.W.findIn K (.ref C4) "__setattr__" = some (some (.builtin "object.__setattr__")))
    (xB4 : PySem.W.subIn K (.ref C4) (.type "BaseException") = some true)
    (xt4 : PySem.W.typeIn K (.ref C4) = some (.type "type"))
    (xk4 : PySem.W.keepIn K (.ref C4) = true)
    (xf4 : PySem.W.findIn K (.ref C4) "item" = some none)
    (xi4 : PySem.W.findIn K (.ref C4) "__init__" = some (some (.ref e4)))
    (xT4 : PySem.W.typeIn K (.ref e4) = some (.type "function"))
    (xF4 : K.lookup e4 = some ⟨ya4, yb4, .func (PySem.W.ksFn "__init__" yq4 (defArgs (inClass (top 5) 0)) (defBody (inClass (top 5) 0)) (defScope (inClass (top 5) 0)) .none ykV4 ydc4 ypm4 yan4 (.ref yc4) yct4 ycc4), ysl4⟩)
    (xc4_ : PySem.W.codeIn K (.ref yc4) yq4 = true)
    (xo4 : K.lookup yc4 = some ⟨yo14, yo24, .fields yo34, yo44⟩)
    (xp4 : yo34[2]? = some (.str yf4 yg4))
    (xe4 : (PySem.Challenge.pw_swaprise_k85_whole_room_papers_judged.main.file == yf4) = true)
    (xz4 : K.lookup ycc4 = some ⟨yh14, yh24, .cell (some (.ref C4)), yh34⟩)
    (xS4 : PySem.W.ks_superIn K C4 C4 "__init__" = some (some (.builtin "ValueError.__init__")))
    (xV4 : PySem.W.subIn K (.ref C4) (.type "ValueError") = some true)
    (xM4 : PySem.W.mroIn K C4 (.ref C4) = some true)
    (xga4 : PySem.W.findIn K (.ref C4) "__getattribute__" = some (some (.builtin "BaseException.__getattribute__")))
    (xgg4 : PySem.W.findIn K (.ref C4) "__getattr__" = some none)
    (xhd4 : PySem.W.hasDictIn K C4 = true)
    (xOp : PySem.W.nsIn K cStatics "thirdparty.any" = some none)
    (xSu : PySem.W.nsIn K mainGlobals "super" = some none)
    (xx1_1 : PySem.W.exmOne K (.ref C1) (.ref C1) = some true)
    (xx1_2 : PySem.W.exmOne K (.ref C1) (.ref C2) = some false)
    (xx1_3 : PySem.W.exmOne K (.ref C1) (.ref C3) = some false)
    (xx1_4 : PySem.W.exmOne K (.ref C1) (.ref C4) = some false)
    (xx2_1 : PySem.W.exmOne K (.ref C2) (.ref C1) = some false)
    (xx2_2 : PySem.W.exmOne K (.ref C2) (.ref C2) = some true)
    (xx2_3 : PySem.W.exmOne K (.ref C2) (.ref C3) = some false)
    (xx2_4 : PySem.W.exmOne K (.ref C2) (.ref C4) = some false)
    (xx3_1 : PySem.W.exmOne K (.ref C3) (.ref C1) = some false)
    (xx3_2 : PySem.W.exmOne K (.ref C3) (.ref C2) = some false)
    (xx3_3 : PySem.W.exmOne K (.ref C3) (.ref C3) = some true)
    (xx3_4 : PySem.W.exmOne K (.ref C3) (.ref C4) = some false)
    (xx4_1 : PySem.W.exmOne K (.ref C4) (.ref C1) = some false)
    (xx4_2 : PySem.W.exmOne K (.ref C4) (.ref C2) = some false)
    (xx4_3 : PySem.W.exmOne K (.ref C4) (.ref C3) = some false)
    (xx4_4 : PySem.W.exmOne K (.ref C4) (.ref C4) = some true)
    : EndG PySem.Challenge.rw_swaprise_k85_whole_room_papers_judged 63 K mg fa "law" := by
  have e0 : f37 = fa := by have e := hfa.symm.trans (PySem.W.mg_of KX G a37); cases e; rfl
  subst e0
  have F0 := fun_mk (st := st_is_integer) l0 c0 k0
  have B0 := F0.binds (ps := ["value"]) fun _ _ _ _ _ _ us hl => match us, hl with | [_], _ => rfl
  have F1 := fun_mk (st := st_is_row) l1 c1 k1
  have B1 := F1.binds (ps := ["value"]) fun _ _ _ _ _ _ us hl => match us, hl with | [_], _ => rfl
  have F2 := fun_mk (st := st_is_order) l2 c2 k2
  have B2 := F2.binds (ps := ["value"]) fun _ _ _ _ _ _ us hl => match us, hl with | [_], _ => rfl
  have F3 := fun_mk (st := st_need_orders) l3 c3 k3
  have B3 := F3.binds (ps := ["orders"]) fun _ _ _ _ _ _ us hl => match us, hl with | [_], _ => rfl
  have F4 := fun_mk (st := st_need_order) l4 c4 k4
  have B4 := F4.binds (ps := ["order"]) fun _ _ _ _ _ _ us hl => match us, hl with | [_], _ => rfl
  have F5 := fun_mk (st := st_all_pairs) l5 c5 k5
  have B5 := F5.binds (ps := ["n"]) fun _ _ _ _ _ _ us hl => match us, hl with | [_], _ => rfl
  have F6 := fun_mk (st := st_turned_pairs) l6 c6 k6
  have B6 := F6.binds (ps := ["w"]) fun _ _ _ _ _ _ us hl => match us, hl with | [_], _ => rfl
  have F7 := fun_mk (st := st_kept_row) l7 c7 k7
  have B7 := F7.binds (ps := ["value"]) fun _ _ _ _ _ _ us hl => match us, hl with | [_], _ => rfl
  have F8 := fun_mk (st := st_Inside_init) l8 c8 k8
  have B8 := F8.binds (ps := ["self", "order"]) fun _ _ _ _ _ _ us hl => match us, hl with | [_, _], _ => rfl
  have F9 := fun_mk (st := st_Inside_eq) l9 c9 k9
  have B9 := F9.binds (ps := ["self", "other"]) fun _ _ _ _ _ _ us hl => match us, hl with | [_, _], _ => rfl
  have F10 := fun_mk (st := st_Around_init) l10 c10 k10
  have B10 := F10.binds (ps := ["self", "places"]) fun _ _ _ _ _ _ us hl => match us, hl with | [_, _], _ => rfl
  have F11 := fun_mk (st := st_Around_eq) l11 c11 k11
  have B11 := F11.binds (ps := ["self", "other"]) fun _ _ _ _ _ _ us hl => match us, hl with | [_, _], _ => rfl
  have F12 := fun_mk (st := st_turned_in) l12 c12 k12
  have B12 := F12.binds (ps := ["mirrors", "x"]) fun _ _ _ _ _ _ us hl => match us, hl with | [_, _], _ => rfl
  have F13 := fun_mk (st := st_checked_pairs) l13 c13 k13
  have B13 := F13.binds (ps := ["w", "pairs"]) fun _ _ _ _ _ _ us hl => match us, hl with | [_, _], _ => rfl
  have F14 := fun_mk (st := st_is_mirror) l14 c14 k14
  have B14 := F14.binds (ps := ["mirrors", "value"]) fun _ _ _ _ _ _ us hl => match us, hl with | [_, _], _ => rfl
  have F15 := fun_mk (st := st_lesser_ones) l15 c15 k15
  have B15 := F15.binds (ps := ["w", "pairs", "place", "left"]) fun _ _ _ _ _ _ us hl => match us, hl with | [_, _, _, _], _ => rfl
  have F16 := fun_mk (st := st_first_unlike) l16 c16 k16
  have B16 := F16.binds (ps := ["mirrors", "pairs", "room"]) fun _ _ _ _ _ _ us hl => match us, hl with | [_, _, _], _ => rfl
  have F17 := fun_mk (st := st_around_fault) l17 c17 k17
  have B17 := F17.binds (ps := ["w", "pairs", "places"]) fun _ _ _ _ _ _ us hl => match us, hl with | [_, _, _], _ => rfl
  have F18 := fun_mk (st := st_room_fault) l18 c18 k18
  have B18 := F18.binds (ps := ["w", "pairs", "answer"]) fun _ _ _ _ _ _ us hl => match us, hl with | [_, _, _], _ => rfl
  have F19 := fun_mk (st := st__law_pen) l19 c19 k19
  have B19 := F19.binds (ps := ["script"]) fun _ _ _ _ _ _ us hl => match us, hl with | [_], _ => rfl
  have F20 := fun_mk (st := st__law_draw) l20 c20 k20
  have B20 := F20.binds (ps := ["pen", "many"]) fun _ _ _ _ _ _ us hl => match us, hl with | [_, _], _ => rfl
  have F21 := fun_mk (st := st__law_pick) l21 c21 k21
  have B21 := F21.binds (ps := ["pen", "some"]) fun _ _ _ _ _ _ us hl => match us, hl with | [_, _], _ => rfl
  have F22 := fun_mk (st := st__law_shuffled) l22 c22 k22
  have B22 := F22.binds (ps := ["pen", "some"]) fun _ _ _ _ _ _ us hl => match us, hl with | [_, _], _ => rfl
  have F23 := fun_mk (st := st__law_pairs) l23 c23 k23
  have B23 := F23.binds (ps := ["n"]) fun _ _ _ _ _ _ us hl => match us, hl with | [_], _ => rfl
  have F24 := fun_mk (st := st__law_some_order) l24 c24 k24
  have B24 := F24.binds (ps := ["pen", "n"]) fun _ _ _ _ _ _ us hl => match us, hl with | [_, _], _ => rfl
  have F25 := fun_mk (st := st__law_listed) l25 c25 k25
  have B25 := F25.binds (ps := ["pen", "row"]) fun _ _ _ _ _ _ us hl => match us, hl with | [_, _], _ => rfl
  have F26 := fun_mk (st := st__law_is_ints) l26 c26 k26
  have B26 := F26.binds (ps := ["value"]) fun _ _ _ _ _ _ us hl => match us, hl with | [_], _ => rfl
  have F27 := fun_mk (st := st__law_is_fault) l27 c27 k27
  have B27 := F27.binds (ps := ["told", "due"]) fun _ _ _ _ _ _ us hl => match us, hl with | [_, _], _ => rfl
  have F28 := fun_mk (st := st__law_mirrors) l28 c28 k28
  have B28 := F28.binds (ps := ["w"]) fun _ _ _ _ _ _ us hl => match us, hl with | [_], _ => rfl
  have F29 := fun_mk (st := st__law_room) l29 c29 k29
  have B29 := F29.binds (ps := ["mirrors", "x"]) fun _ _ _ _ _ _ us hl => match us, hl with | [_, _], _ => rfl
  have F30 := fun_mk (st := st__law_lesser) l30 c30 k30
  have B30 := F30.binds (ps := ["w", "pairs", "a", "b"]) fun _ _ _ _ _ _ us hl => match us, hl with | [_, _, _, _], _ => rfl
  have F31 := fun_mk (st := st__law_complaint) l31 c31 k31
  have B31 := F31.binds (ps := ["call"]) fun _ _ _ _ _ _ us hl => match us, hl with | [_], _ => rfl
  have F32 := fun_mk (st := st__law_inside_due) l32 c32 k32
  have B32 := F32.binds (ps := ["w", "pairs", "order"]) fun _ _ _ _ _ _ us hl => match us, hl with | [_, _, _], _ => rfl
  have F33 := fun_mk (st := st__law_around_due) l33 c33 k33
  have B33 := F33.binds (ps := ["w", "pairs", "places"]) fun _ _ _ _ _ _ us hl => match us, hl with | [_, _, _], _ => rfl
  have F34 := fun_mk (st := st__law_own_ring) l34 c34 k34
  have B34 := F34.binds (ps := ["w", "pairs"]) fun _ _ _ _ _ _ us hl => match us, hl with | [_, _], _ => rfl
  have F35 := fun_mk (st := st__law_bent_order) l35 c35 k35
  have B35 := F35.binds (ps := ["pen", "order"]) fun _ _ _ _ _ _ us hl => match us, hl with | [_, _], _ => rfl
  have F36 := fun_mk (st := st__law_bent_places) l36 c36 k36
  have B36 := F36.binds (ps := ["pen", "n", "places"]) fun _ _ _ _ _ _ us hl => match us, hl with | [_, _, _], _ => rfl
  have F37 := fun_mk (st := st_law) l37 c37 k37
  have B37 := F37.binds (ps := ["script"]) fun _ _ _ _ _ _ us hl => match us, hl with | [_], _ => rfl
  let g : Stat := { gc := fun c => ([0, C1, C2, C3, C4, C5, C6] : List Addr).getD c 0, T := [(lt, (envOfC "law" (defScope st_law) 0 f37 (.ref lc)).qual ++ "<lambda>")], fa := fun q => ([f0, f1, f2, f3, f4, f5, f6, f7, f8, f9, f10, f11, f12, f13, f14, f15, f16, f17, f18, f19, f20, f21, f22, f23, f24, f25, f26, f27, f28, f29, f30, f31, f32, f33, f34, f35, f36, f37] : List Addr).getD q 0, fd := fun q => ([PySem.W.fnOf "is_integer" "is_integer" (defArgs st_is_integer) (defBody st_is_integer) (defScope st_is_integer) .none kV0 dc0 pm0 an0 cd0 ct0, PySem.W.fnOf "is_row" "is_row" (defArgs st_is_row) (defBody st_is_row) (defScope st_is_row) .none kV1 dc1 pm1 an1 cd1 ct1, PySem.W.fnOf "is_order" "is_order" (defArgs st_is_order) (defBody st_is_order) (defScope st_is_order) .none kV2 dc2 pm2 an2 cd2 ct2, PySem.W.fnOf "need_orders" "need_orders" (defArgs st_need_orders) (defBody st_need_orders) (defScope st_need_orders) .none kV3 dc3 pm3 an3 cd3 ct3, PySem.W.fnOf "need_order" "need_order" (defArgs st_need_order) (defBody st_need_order) (defScope st_need_order) .none kV4 dc4 pm4 an4 cd4 ct4, PySem.W.fnOf "all_pairs" "all_pairs" (defArgs st_all_pairs) (defBody st_all_pairs) (defScope st_all_pairs) .none kV5 dc5 pm5 an5 cd5 ct5, PySem.W.fnOf "turned_pairs" "turned_pairs" (defArgs st_turned_pairs) (defBody st_turned_pairs) (defScope st_turned_pairs) .none kV6 dc6 pm6 an6 cd6 ct6, PySem.W.fnOf "kept_row" "kept_row" (defArgs st_kept_row) (defBody st_kept_row) (defScope st_kept_row) .none kV7 dc7 pm7 an7 cd7 ct7, PySem.W.fnOf "__init__" "Inside.__init__" (defArgs st_Inside_init) (defBody st_Inside_init) (defScope st_Inside_init) .none kV8 dc8 pm8 an8 cd8 ct8, PySem.W.fnOf "__eq__" "Inside.__eq__" (defArgs st_Inside_eq) (defBody st_Inside_eq) (defScope st_Inside_eq) .none kV9 dc9 pm9 an9 cd9 ct9, PySem.W.fnOf "__init__" "Around.__init__" (defArgs st_Around_init) (defBody st_Around_init) (defScope st_Around_init) .none kV10 dc10 pm10 an10 cd10 ct10, PySem.W.fnOf "__eq__" "Around.__eq__" (defArgs st_Around_eq) (defBody st_Around_eq) (defScope st_Around_eq) .none kV11 dc11 pm11 an11 cd11 ct11, PySem.W.fnOf "turned_in" "turned_in" (defArgs st_turned_in) (defBody st_turned_in) (defScope st_turned_in) .none kV12 dc12 pm12 an12 cd12 ct12, PySem.W.fnOf "checked_pairs" "checked_pairs" (defArgs st_checked_pairs) (defBody st_checked_pairs) (defScope st_checked_pairs) .none kV13 dc13 pm13 an13 cd13 ct13, PySem.W.fnOf "is_mirror" "is_mirror" (defArgs st_is_mirror) (defBody st_is_mirror) (defScope st_is_mirror) .none kV14 dc14 pm14 an14 cd14 ct14, PySem.W.fnOf "lesser_ones" "lesser_ones" (defArgs st_lesser_ones) (defBody st_lesser_ones) (defScope st_lesser_ones) .none kV15 dc15 pm15 an15 cd15 ct15, PySem.W.fnOf "first_unlike" "first_unlike" (defArgs st_first_unlike) (defBody st_first_unlike) (defScope st_first_unlike) .none kV16 dc16 pm16 an16 cd16 ct16, PySem.W.fnOf "around_fault" "around_fault" (defArgs st_around_fault) (defBody st_around_fault) (defScope st_around_fault) .none kV17 dc17 pm17 an17 cd17 ct17, PySem.W.fnOf "room_fault" "room_fault" (defArgs st_room_fault) (defBody st_room_fault) (defScope st_room_fault) .none kV18 dc18 pm18 an18 cd18 ct18, PySem.W.fnOf "_law_pen" "_law_pen" (defArgs st__law_pen) (defBody st__law_pen) (defScope st__law_pen) .none kV19 dc19 pm19 an19 cd19 ct19, PySem.W.fnOf "_law_draw" "_law_draw" (defArgs st__law_draw) (defBody st__law_draw) (defScope st__law_draw) .none kV20 dc20 pm20 an20 cd20 ct20, PySem.W.fnOf "_law_pick" "_law_pick" (defArgs st__law_pick) (defBody st__law_pick) (defScope st__law_pick) .none kV21 dc21 pm21 an21 cd21 ct21, PySem.W.fnOf "_law_shuffled" "_law_shuffled" (defArgs st__law_shuffled) (defBody st__law_shuffled) (defScope st__law_shuffled) .none kV22 dc22 pm22 an22 cd22 ct22, PySem.W.fnOf "_law_pairs" "_law_pairs" (defArgs st__law_pairs) (defBody st__law_pairs) (defScope st__law_pairs) .none kV23 dc23 pm23 an23 cd23 ct23, PySem.W.fnOf "_law_some_order" "_law_some_order" (defArgs st__law_some_order) (defBody st__law_some_order) (defScope st__law_some_order) .none kV24 dc24 pm24 an24 cd24 ct24, PySem.W.fnOf "_law_listed" "_law_listed" (defArgs st__law_listed) (defBody st__law_listed) (defScope st__law_listed) .none kV25 dc25 pm25 an25 cd25 ct25, PySem.W.fnOf "_law_is_ints" "_law_is_ints" (defArgs st__law_is_ints) (defBody st__law_is_ints) (defScope st__law_is_ints) .none kV26 dc26 pm26 an26 cd26 ct26, PySem.W.fnOf "_law_is_fault" "_law_is_fault" (defArgs st__law_is_fault) (defBody st__law_is_fault) (defScope st__law_is_fault) .none kV27 dc27 pm27 an27 cd27 ct27, PySem.W.fnOf "_law_mirrors" "_law_mirrors" (defArgs st__law_mirrors) (defBody st__law_mirrors) (defScope st__law_mirrors) .none kV28 dc28 pm28 an28 cd28 ct28, PySem.W.fnOf "_law_room" "_law_room" (defArgs st__law_room) (defBody st__law_room) (defScope st__law_room) .none kV29 dc29 pm29 an29 cd29 ct29, PySem.W.fnOf "_law_lesser" "_law_lesser" (defArgs st__law_lesser) (defBody st__law_lesser) (defScope st__law_lesser) .none kV30 dc30 pm30 an30 cd30 ct30, PySem.W.fnOf "_law_complaint" "_law_complaint" (defArgs st__law_complaint) (defBody st__law_complaint) (defScope st__law_complaint) .none kV31 dc31 pm31 an31 cd31 ct31, PySem.W.fnOf "_law_inside_due" "_law_inside_due" (defArgs st__law_inside_due) (defBody st__law_inside_due) (defScope st__law_inside_due) .none kV32 dc32 pm32 an32 cd32 ct32, PySem.W.fnOf "_law_around_due" "_law_around_due" (defArgs st__law_around_due) (defBody st__law_around_due) (defScope st__law_around_due) .none kV33 dc33 pm33 an33 cd33 ct33, PySem.W.fnOf "_law_own_ring" "_law_own_ring" (defArgs st__law_own_ring) (defBody st__law_own_ring) (defScope st__law_own_ring) .none kV34 dc34 pm34 an34 cd34 ct34, PySem.W.fnOf "_law_bent_order" "_law_bent_order" (defArgs st__law_bent_order) (defBody st__law_bent_order) (defScope st__law_bent_order) .none kV35 dc35 pm35 an35 cd35 ct35, PySem.W.fnOf "_law_bent_places" "_law_bent_places" (defArgs st__law_bent_places) (defBody st__law_bent_places) (defScope st__law_bent_places) .none kV36 dc36 pm36 an36 cd36 ct36, PySem.W.fnOf "law" "law" (defArgs st_law) (defBody st_law) (defScope st_law) .none kV37 dc37 pm37 an37 (.ref lc) ct37] : List FuncData).getD q (PySem.W.fnOf "is_integer" "is_integer" (defArgs st_is_integer) (defBody st_is_integer) (defScope st_is_integer) .none kV0 dc0 pm0 an0 cd0 ct0), ps := fun q => ([(["value"] : List Str), (["value"] : List Str), (["value"] : List Str), (["orders"] : List Str), (["order"] : List Str), (["n"] : List Str), (["w"] : List Str), (["value"] : List Str), (["self", "order"] : List Str), (["self", "other"] : List Str), (["self", "places"] : List Str), (["self", "other"] : List Str), (["mirrors", "x"] : List Str), (["w", "pairs"] : List Str), (["mirrors", "value"] : List Str), (["w", "pairs", "place", "left"] : List Str), (["mirrors", "pairs", "room"] : List Str), (["w", "pairs", "places"] : List Str), (["w", "pairs", "answer"] : List Str), (["script"] : List Str), (["pen", "many"] : List Str), (["pen", "some"] : List Str), (["pen", "some"] : List Str), (["n"] : List Str), (["pen", "n"] : List Str), (["pen", "row"] : List Str), (["value"] : List Str), (["told", "due"] : List Str), (["w"] : List Str), (["mirrors", "x"] : List Str), (["w", "pairs", "a", "b"] : List Str), (["call"] : List Str), (["w", "pairs", "order"] : List Str), (["w", "pairs", "places"] : List Str), (["w", "pairs"] : List Str), (["pen", "order"] : List Str), (["pen", "n", "places"] : List Str), (["script"] : List Str)] : List (List Str)).getD q [], nf := 37, pr := PySem.Challenge.pw_swaprise_k85_whole_room_papers_judged, P := prog, lc := lc, lt := lt, lq := (envOfC "law" (defScope st_law) 0 f37 (.ref lc)).qual ++ "<lambda>", rp := rpD, M := Only K mg }
  have hM : g.M = Only K mg := rfl
  have W5 : Cls K C5 := ⟨pg5, hd5, po5, sa5⟩
  have W6 : Cls K C6 := ⟨pg6, hd6, po6, sa6⟩
  have ins : ∀ c ∈ ownCs, InsK K (g.gc c) := fun c hc => by
    simp only [ownCs, List.mem_cons, List.not_mem_nil, or_false] at hc
    rcases hc with rfl | rfl
    · exact ⟨W5, ha5, oHn, oHt, hm5⟩
    · exact ⟨W6, ha6, oHn, oHt, hm6⟩
  have EQ : EqK g ownCs eqOf := by
    refine ⟨fun c q e => ?_, only_of (P := fun K _ => (∀ c ∈ ownCs, InsK K (g.gc c)) ∧ ∀ c q, eqOf c = some q → PySem.W.findIn K (.ref (g.gc c)) "__eq__" = some (some (.ref (g.fa q))) ∧ PySem.W.isFn K (.ref (g.fa q)) = true ∧ Binds K (g.fd q) (g.ps q) [] ∧ ∀ k, kdOk ownCs k = true → PySem.W.notFirst K (g.gc c) (kdV g.gc k) = true) hM ⟨ins, fun c q e => ?_⟩⟩
    · unfold eqOf at e
      (repeat' split at e) <;> cases e <;> exact ⟨(show (_ : Nat) < 37 from by decide), rfl⟩
    · unfold eqOf at e
      split at e
      · rename_i hc; subst hc; cases e
        refine ⟨a9, i9, B9, fun k hk => ?_⟩
        cases k with
        | non => exact nq5_NoneType
        | bl => exact nq5_bool
        | int => exact nq5_int
        | str => exact nq5_str
        | tup => exact nq5_tuple
        | lst => exact nq5_list
        | ins c =>
          simp only [kdOk, ownCs, List.contains_cons, List.contains_nil, Bool.or_false, Bool.or_eq_true, beq_iff_eq] at hk
          rcases hk with rfl | rfl
          · exact nq5_5
          · exact nq5_6
      · split at e
        · rename_i hc; subst hc; cases e
          refine ⟨a11, i11, B11, fun k hk => ?_⟩
          cases k with
          | non => exact nq6_NoneType
          | bl => exact nq6_bool
          | int => exact nq6_int
          | str => exact nq6_str
          | tup => exact nq6_tuple
          | lst => exact nq6_list
          | ins c =>
            simp only [kdOk, ownCs, List.contains_cons, List.contains_nil, Bool.or_false, Bool.or_eq_true, beq_iff_eq] at hk
            rcases hk with rfl | rfl
            · exact nq6_5
            · exact nq6_6
        · cases e
  have T0 : Tx0 g := {
    rp := rfl
    no_all := no_of hM KX G z_all
    no_bool := no_of hM KX G z_bool
    no_enumerate := no_of hM KX G z_enumerate
    no_int := no_of hM KX G z_int
    no_isinstance := no_of hM KX G z_isinstance
    no_len := no_of hM KX G z_len
    no_list := no_of hM KX G z_list
    no_max := no_of hM KX G z_max
    no_min := no_of hM KX G z_min
    no_range := no_of hM KX G z_range
    no_repr := no_of hM KX G z_repr
    no_set := no_of hM KX G z_set
    no_sorted := no_of hM KX G z_sorted
    no_str := no_of hM KX G z_str
    no_tuple := no_of hM KX G z_tuple
    k_MOST := only_of (P := fun _ mg => ∃ t, mg "MOST" = some (.int 8 t)) hM ⟨_, PySem.W.mg_of KX G m_MOST⟩
    c_Inside := val_of hM KX G aC5
    mk_Inside := mk_of hM KX G F8 aC5 ⟨mk5, a8, i8, kc5⟩ (show 8 < 37 from by decide) rfl rfl rfl rfl B8
    c_Around := val_of hM KX G aC6
    mk_Around := mk_of hM KX G F10 aC6 ⟨mk6, a10, i10, kc6⟩ (show 10 < 37 from by decide) rfl rfl rfl rfl B10
    f_order := only_of (P := fun K _ => ∀ c, c ∈ ([5] : List Nat) → Cls K (g.gc c) ∧ NoAttr K (g.gc c) "order") hM (fun c hc => by
      simp only [List.mem_cons, List.not_mem_nil, or_false] at hc
      rcases hc with rfl
      · exact ⟨W5, nf5_order⟩)
    f_places := only_of (P := fun K _ => ∀ c, c ∈ ([6] : List Nat) → Cls K (g.gc c) ∧ NoAttr K (g.gc c) "places") hM (fun c hc => by
      simp only [List.mem_cons, List.not_mem_nil, or_false] at hc
      rcases hc with rfl
      · exact ⟨W6, nf6_places⟩)
    eq := EQ
    is_int := only_of (P := fun K _ => (∀ c ∈ ownCs, InsK K (g.gc c)) ∧ ∀ k, kdOk ownCs k = true → PySem.W.kitAny K (kdV g.gc k) (([.int] : List Ty).map (tyVal g.gc)) = some (isTys [.int] k)) hM ⟨ins, fun k hk => by
      cases k with
      | non => exact q0_NoneType
      | bl => exact q0_bool
      | int => exact q0_int
      | str => exact q0_str
      | tup => exact q0_tuple
      | lst => exact q0_list
      | ins c =>
        simp only [kdOk, ownCs, List.contains_cons, List.contains_nil, Bool.or_false, Bool.or_eq_true, beq_iff_eq] at hk
        rcases hk with rfl | rfl
        · exact q0_5
        · exact q0_6⟩
    is_bool := only_of (P := fun K _ => (∀ c ∈ ownCs, InsK K (g.gc c)) ∧ ∀ k, kdOk ownCs k = true → PySem.W.kitAny K (kdV g.gc k) (([.bool] : List Ty).map (tyVal g.gc)) = some (isTys [.bool] k)) hM ⟨ins, fun k hk => by
      cases k with
      | non => exact q1_NoneType
      | bl => exact q1_bool
      | int => exact q1_int
      | str => exact q1_str
      | tup => exact q1_tuple
      | lst => exact q1_list
      | ins c =>
        simp only [kdOk, ownCs, List.contains_cons, List.contains_nil, Bool.or_false, Bool.or_eq_true, beq_iff_eq] at hk
        rcases hk with rfl | rfl
        · exact q1_5
        · exact q1_6⟩
    is_list_tuple := only_of (P := fun K _ => (∀ c ∈ ownCs, InsK K (g.gc c)) ∧ ∀ k, kdOk ownCs k = true → PySem.W.kitAny K (kdV g.gc k) (([.list, .tuple] : List Ty).map (tyVal g.gc)) = some (isTys [.list, .tuple] k)) hM ⟨ins, fun k hk => by
      cases k with
      | non => exact q2_NoneType
      | bl => exact q2_bool
      | int => exact q2_int
      | str => exact q2_str
      | tup => exact q2_tuple
      | lst => exact q2_list
      | ins c =>
        simp only [kdOk, ownCs, List.contains_cons, List.contains_nil, Bool.or_false, Bool.or_eq_true, beq_iff_eq] at hk
        rcases hk with rfl | rfl
        · exact q2_5
        · exact q2_6⟩
    is_Inside := only_of (P := fun K _ => (∀ c ∈ ownCs, InsK K (g.gc c)) ∧ ∀ k, kdOk ownCs k = true → PySem.W.kitAny K (kdV g.gc k) (([(.cls 5)] : List Ty).map (tyVal g.gc)) = some (isTys [(.cls 5)] k)) hM ⟨ins, fun k hk => by
      cases k with
      | non => exact q3_NoneType
      | bl => exact q3_bool
      | int => exact q3_int
      | str => exact q3_str
      | tup => exact q3_tuple
      | lst => exact q3_list
      | ins c =>
        simp only [kdOk, ownCs, List.contains_cons, List.contains_nil, Bool.or_false, Bool.or_eq_true, beq_iff_eq] at hk
        rcases hk with rfl | rfl
        · exact q3_5
        · exact q3_6⟩
    is_Around := only_of (P := fun K _ => (∀ c ∈ ownCs, InsK K (g.gc c)) ∧ ∀ k, kdOk ownCs k = true → PySem.W.kitAny K (kdV g.gc k) (([(.cls 6)] : List Ty).map (tyVal g.gc)) = some (isTys [(.cls 6)] k)) hM ⟨ins, fun k hk => by
      cases k with
      | non => exact q4_NoneType
      | bl => exact q4_bool
      | int => exact q4_int
      | str => exact q4_str
      | tup => exact q4_tuple
      | lst => exact q4_list
      | ins c =>
        simp only [kdOk, ownCs, List.contains_cons, List.contains_nil, Bool.or_false, Bool.or_eq_true, beq_iff_eq] at hk
        rcases hk with rfl | rfl
        · exact q4_5
        · exact q4_6⟩
    is_tuple := only_of (P := fun K _ => (∀ c ∈ ownCs, InsK K (g.gc c)) ∧ ∀ k, kdOk ownCs k = true → PySem.W.kitAny K (kdV g.gc k) (([.tuple] : List Ty).map (tyVal g.gc)) = some (isTys [.tuple] k)) hM ⟨ins, fun k hk => by
      cases k with
      | non => exact q5_NoneType
      | bl => exact q5_bool
      | int => exact q5_int
      | str => exact q5_str
      | tup => exact q5_tuple
      | lst => exact q5_list
      | ins c =>
        simp only [kdOk, ownCs, List.contains_cons, List.contains_nil, Bool.or_false, Bool.or_eq_true, beq_iff_eq] at hk
        rcases hk with rfl | rfl
        · exact q5_5
        · exact q5_6⟩
    is_int_str := only_of (P := fun K _ => (∀ c ∈ ownCs, InsK K (g.gc c)) ∧ ∀ k, kdOk ownCs k = true → PySem.W.kitAny K (kdV g.gc k) (([.int, .str] : List Ty).map (tyVal g.gc)) = some (isTys [.int, .str] k)) hM ⟨ins, fun k hk => by
      cases k with
      | non => exact q6_NoneType
      | bl => exact q6_bool
      | int => exact q6_int
      | str => exact q6_str
      | tup => exact q6_tuple
      | lst => exact q6_list
      | ins c =>
        simp only [kdOk, ownCs, List.contains_cons, List.contains_nil, Bool.or_false, Bool.or_eq_true, beq_iff_eq] at hk
        rcases hk with rfl | rfl
        · exact q6_5
        · exact q6_6⟩
    ps_is_integer := rfl
    fn_is_integer := fni_of hM KX G F0 a0 (show 0 < 37 from by decide) rfl rfl rfl B0
    ps_is_row := rfl
    fn_is_row := fni_of hM KX G F1 a1 (show 1 < 37 from by decide) rfl rfl rfl B1
    ps_is_order := rfl
    fn_is_order := fni_of hM KX G F2 a2 (show 2 < 37 from by decide) rfl rfl rfl B2
    ps_need_orders := rfl
    fn_need_orders := fni_of hM KX G F3 a3 (show 3 < 37 from by decide) rfl rfl rfl B3
    ps_need_order := rfl
    fn_need_order := fni_of hM KX G F4 a4 (show 4 < 37 from by decide) rfl rfl rfl B4
    ps_all_pairs := rfl
    fn_all_pairs := fni_of hM KX G F5 a5 (show 5 < 37 from by decide) rfl rfl rfl B5
    ps_turned_pairs := rfl
    fn_turned_pairs := fni_of hM KX G F6 a6 (show 6 < 37 from by decide) rfl rfl rfl B6
    ps_kept_row := rfl
    fn_kept_row := fni_of hM KX G F7 a7 (show 7 < 37 from by decide) rfl rfl rfl B7
    ps_Inside_init := rfl
    ps_Inside_eq := rfl
    ps_Around_init := rfl
    ps_Around_eq := rfl
    ps_turned_in := rfl
    fn_turned_in := fni_of hM KX G F12 a12 (show 12 < 37 from by decide) rfl rfl rfl B12
    ps_checked_pairs := rfl
    fn_checked_pairs := fni_of hM KX G F13 a13 (show 13 < 37 from by decide) rfl rfl rfl B13
    ps_is_mirror := rfl
    fn_is_mirror := fni_of hM KX G F14 a14 (show 14 < 37 from by decide) rfl rfl rfl B14
    ps_lesser_ones := rfl
    fn_lesser_ones := fni_of hM KX G F15 a15 (show 15 < 37 from by decide) rfl rfl rfl B15
    ps_first_unlike := rfl
    fn_first_unlike := fni_of hM KX G F16 a16 (show 16 < 37 from by decide) rfl rfl rfl B16
    ps_around_fault := rfl
    fn_around_fault := fni_of hM KX G F17 a17 (show 17 < 37 from by decide) rfl rfl rfl B17
    ps_room_fault := rfl
    fn_room_fault := fni_of hM KX G F18 a18 (show 18 < 37 from by decide) rfl rfl rfl B18
    ps__law_pen := rfl
    fn__law_pen := fni_of hM KX G F19 a19 (show 19 < 37 from by decide) rfl rfl rfl B19
    ps__law_draw := rfl
    fn__law_draw := fni_of hM KX G F20 a20 (show 20 < 37 from by decide) rfl rfl rfl B20
    ps__law_pick := rfl
    fn__law_pick := fni_of hM KX G F21 a21 (show 21 < 37 from by decide) rfl rfl rfl B21
    ps__law_shuffled := rfl
    fn__law_shuffled := fni_of hM KX G F22 a22 (show 22 < 37 from by decide) rfl rfl rfl B22
    ps__law_pairs := rfl
    fn__law_pairs := fni_of hM KX G F23 a23 (show 23 < 37 from by decide) rfl rfl rfl B23
    ps__law_some_order := rfl
    fn__law_some_order := fni_of hM KX G F24 a24 (show 24 < 37 from by decide) rfl rfl rfl B24
    ps__law_listed := rfl
    fn__law_listed := fni_of hM KX G F25 a25 (show 25 < 37 from by decide) rfl rfl rfl B25
    ps__law_is_ints := rfl
    fn__law_is_ints := fni_of hM KX G F26 a26 (show 26 < 37 from by decide) rfl rfl rfl B26
    ps__law_is_fault := rfl
    fn__law_is_fault := fni_of hM KX G F27 a27 (show 27 < 37 from by decide) rfl rfl rfl B27
    ps__law_mirrors := rfl
    fn__law_mirrors := fni_of hM KX G F28 a28 (show 28 < 37 from by decide) rfl rfl rfl B28
    ps__law_room := rfl
    fn__law_room := fni_of hM KX G F29 a29 (show 29 < 37 from by decide) rfl rfl rfl B29
    ps__law_lesser := rfl
    fn__law_lesser := fni_of hM KX G F30 a30 (show 30 < 37 from by decide) rfl rfl rfl B30
    ps__law_inside_due := rfl
    fn__law_inside_due := fni_of hM KX G F32 a32 (show 32 < 37 from by decide) rfl rfl rfl B32
    ps__law_around_due := rfl
    fn__law_around_due := fni_of hM KX G F33 a33 (show 33 < 37 from by decide) rfl rfl rfl B33
    ps__law_own_ring := rfl
    fn__law_own_ring := fni_of hM KX G F34 a34 (show 34 < 37 from by decide) rfl rfl rfl B34
    ps__law_bent_order := rfl
    fn__law_bent_order := fni_of hM KX G F35 a35 (show 35 < 37 from by decide) rfl rfl rfl B35
    ps__law_bent_places := rfl
    fn__law_bent_places := fni_of hM KX G F36 a36 (show 36 < 37 from by decide) rfl rfl rfl B36
    ra_BadRow := ⟨only_of (P := fun K mg => ∃ fI prm, ExT K g.pr.main.file (g.gc 1) fI prm "value" ∧ (g.pr.main.scope.names.lookup ("super" : Str)).isSome = false ∧ mg "super" = none ∧ mg "BadRow" = some (.ref (g.gc 1))) hM ⟨e1, "value", ⟨⟨⟨_, _, _, _, _, _, _, _, _, _, _, _, _, _, _, xl1, xr1⟩, xsa1, xB1, xt1, xk1⟩, xf1, xi1, xT1, ⟨_, _, _, _, _, _, _, _, _, _, _, _, _, _, _, _, _, _, _, _, _, _, _, _, xF1, xc1_, ⟨_, _, _, _, _, _, xo1, xp1, xe1⟩, ⟨_, _, _, xz1⟩, ⟨_, rfl, rfl⟩, rfl, rfl, rfl, by decide +kernel, rfl, rfl, rfl, rfl, ⟨_, fun env => rfl⟩, fun s us hl => match us, hl with | [u, v], _ => .of_eq (bx_BadRow _ _ _ _ _ _ _ _ _ _ u v)⟩, xS1, xV1, xOp, xM1, by decide, by decide⟩, (show (PySem.Challenge.pw_swaprise_k85_whole_room_papers_judged.main.scope.names.lookup ("super" : Str)).isSome = false from by decide +kernel), PySem.W.mg_none_of KX G xSu, PySem.W.mg_of KX G aE1⟩⟩
    hd_BadRow := only_of (P := fun K mg => mg "BadRow" = some (.ref (g.gc 1)) ∧ XfC K (g.gc 1) ∧ PySem.W.findIn K (.ref (g.gc 1)) "value" = some none) hM ⟨PySem.W.mg_of KX G aE1, ⟨xga1, xgg1, xB1, xhd1⟩, xf1⟩
    ra_BadOrder := ⟨only_of (P := fun K mg => ∃ fI prm, ExT K g.pr.main.file (g.gc 2) fI prm "value" ∧ (g.pr.main.scope.names.lookup ("super" : Str)).isSome = false ∧ mg "super" = none ∧ mg "BadOrder" = some (.ref (g.gc 2))) hM ⟨e2, "value", ⟨⟨⟨_, _, _, _, _, _, _, _, _, _, _, _, _, _, _, xl2, xr2⟩, xsa2, xB2, xt2, xk2⟩, xf2, xi2, xT2, ⟨_, _, _, _, _, _, _, _, _, _, _, _, _, _, _, _, _, _, _, _, _, _, _, _, xF2, xc2_, ⟨_, _, _, _, _, _, xo2, xp2, xe2⟩, ⟨_, _, _, xz2⟩, ⟨_, rfl, rfl⟩, rfl, rfl, rfl, by decide +kernel, rfl, rfl, rfl, rfl, ⟨_, fun env => rfl⟩, fun s us hl => match us, hl with | [u, v], _ => .of_eq (bx_BadOrder _ _ _ _ _ _ _ _ _ _ u v)⟩, xS2, xV2, xOp, xM2, by decide, by decide⟩, (show (PySem.Challenge.pw_swaprise_k85_whole_room_papers_judged.main.scope.names.lookup ("super" : Str)).isSome = false from by decide +kernel), PySem.W.mg_none_of KX G xSu, PySem.W.mg_of KX G aE2⟩⟩
    hd_BadOrder := only_of (P := fun K mg => mg "BadOrder" = some (.ref (g.gc 2)) ∧ XfC K (g.gc 2) ∧ PySem.W.findIn K (.ref (g.gc 2)) "value" = some none) hM ⟨PySem.W.mg_of KX G aE2, ⟨xga2, xgg2, xB2, xhd2⟩, xf2⟩
    ra_NotSame := ⟨only_of (P := fun K mg => ∃ fI prm, ExT K g.pr.main.file (g.gc 3) fI prm "order" ∧ (g.pr.main.scope.names.lookup ("super" : Str)).isSome = false ∧ mg "super" = none ∧ mg "NotSame" = some (.ref (g.gc 3))) hM ⟨e3, "order", ⟨⟨⟨_, _, _, _, _, _, _, _, _, _, _, _, _, _, _, xl3, xr3⟩, xsa3, xB3, xt3, xk3⟩, xf3, xi3, xT3, ⟨_, _, _, _, _, _, _, _, _, _, _, _, _, _, _, _, _, _, _, _, _, _, _, _, xF3, xc3_, ⟨_, _, _, _, _, _, xo3, xp3, xe3⟩, ⟨_, _, _, xz3⟩, ⟨_, rfl, rfl⟩, rfl, rfl, rfl, by decide +kernel, rfl, rfl, rfl, rfl, ⟨_, fun env => rfl⟩, fun s us hl => match us, hl with | [u, v], _ => .of_eq (bx_NotSame _ _ _ _ _ _ _ _ _ _ u v)⟩, xS3, xV3, xOp, xM3, by decide, by decide⟩, (show (PySem.Challenge.pw_swaprise_k85_whole_room_papers_judged.main.scope.names.lookup ("super" : Str)).isSome = false from by decide +kernel), PySem.W.mg_none_of KX G xSu, PySem.W.mg_of KX G aE3⟩⟩
    hd_NotSame := only_of (P := fun K mg => mg "NotSame" = some (.ref (g.gc 3)) ∧ XfC K (g.gc 3) ∧ PySem.W.findIn K (.ref (g.gc 3)) "order" = some none) hM ⟨PySem.W.mg_of KX G aE3, ⟨xga3, xgg3, xB3, xhd3⟩, xf3⟩
    ra_BadPair := ⟨only_of (P := fun K mg => ∃ fI prm, ExT K g.pr.main.file (g.gc 4) fI prm "item" ∧ (g.pr.main.scope.names.lookup ("super" : Str)).isSome = false ∧ mg "super" = none ∧ mg "BadPair" = some (.ref (g.gc 4))) hM ⟨e4, "item", ⟨⟨⟨_, _, _, _, _, _, _, _, _, _, _, _, _, _, _, xl4, xr4⟩, xsa4, xB4, xt4, xk4⟩, xf4, xi4, xT4, ⟨_, _, _, _, _, _, _, _, _, _, _, _, _, _, _, _, _, _, _, _, _, _, _, _, xF4, xc4_, ⟨_, _, _, _, _, _, xo4, xp4, xe4⟩, ⟨_, _, _, xz4⟩, ⟨_, rfl, rfl⟩, rfl, rfl, rfl, by decide +kernel, rfl, rfl, rfl, rfl, ⟨_, fun env => rfl⟩, fun s us hl => match us, hl with | [u, v], _ => .of_eq (bx_BadPair _ _ _ _ _ _ _ _ _ _ u v)⟩, xS4, xV4, xOp, xM4, by decide, by decide⟩, (show (PySem.Challenge.pw_swaprise_k85_whole_room_papers_judged.main.scope.names.lookup ("super" : Str)).isSome = false from by decide +kernel), PySem.W.mg_none_of KX G xSu, PySem.W.mg_of KX G aE4⟩⟩
    hd_BadPair := only_of (P := fun K mg => mg "BadPair" = some (.ref (g.gc 4)) ∧ XfC K (g.gc 4) ∧ PySem.W.findIn K (.ref (g.gc 4)) "item" = some none) hM ⟨PySem.W.mg_of KX G aE4, ⟨xga4, xgg4, xB4, xhd4⟩, xf4⟩
    exm := only_of (P := fun K _ => ∀ c' ∈ errCs, ∀ c ∈ errCs, PySem.W.exmOne K (.ref (g.gc c)) (.ref (g.gc c')) = some (c == c')) hM (fun c' hc' c hc => by
      simp only [errCs, List.mem_cons, List.not_mem_nil, or_false] at hc hc'
      rcases hc with rfl | rfl | rfl | rfl <;> rcases hc' with rfl | rfl | rfl | rfl
      · exact xx1_1
      · exact xx1_2
      · exact xx1_3
      · exact xx1_4
      · exact xx2_1
      · exact xx2_2
      · exact xx2_3
      · exact xx2_4
      · exact xx3_1
      · exact xx3_2
      · exact xx3_3
      · exact xx3_4
      · exact xx4_1
      · exact xx4_2
      · exact xx4_3
      · exact xx4_4)
    lam0 := rfl
    lam1 := rfl
    lam2 := rfl
  }
  have T : Tx g := {
    toTx0 := T0
    ca__law_complaint := ⟨only_of (P := fun K mg => mg "_law_complaint" = some (.ref (g.fa 31)) ∧ PySem.W.keepIn K (.ref (g.fa 31)) = true ∧ ∃ oc od osl pg dV kV doc pm an cdv ct, K.lookup (g.fa 31) = some ⟨oc, od, .func (PySem.W.fnOf "_law_complaint" "_law_complaint" pg (defBody st__law_complaint) (defScope st__law_complaint) dV kV doc pm an cdv ct), osl⟩ ∧ PySem.W.codeIn K cdv "_law_complaint" = true ∧ L2.Binds K (PySem.W.fnOf "_law_complaint" "_law_complaint" pg (defBody st__law_complaint) (defScope st__law_complaint) dV kV doc pm an cdv ct) ["call"] []) hM ⟨PySem.W.mg_of KX G a31, k31, _, _, _, _, _, _, _, _, _, _, _, l31, c31, B31⟩, sc__law_complaint, rfl, by first | exact .inl rfl | exact .inr (.inl rfl) | exact .inr (.inr rfl), by decide, by decide, rfl, dv__law_complaint T0⟩
  }
  have D0 : DefOk g 0 := ⟨nm_is_integer, defScope st_is_integer, defBody st_is_integer, bd_is_integer, defk_of hM F0 rfl rfl rfl sc_is_integer, rfl, dv_is_integer T⟩
  have D1 : DefOk g 1 := ⟨nm_is_row, defScope st_is_row, defBody st_is_row, bd_is_row, defk_of hM F1 rfl rfl rfl sc_is_row, rfl, dv_is_row T⟩
  have D2 : DefOk g 2 := ⟨nm_is_order, defScope st_is_order, defBody st_is_order, bd_is_order, defk_of hM F2 rfl rfl rfl sc_is_order, rfl, dv_is_order T⟩
  have D3 : DefOk g 3 := ⟨nm_need_orders, defScope st_need_orders, defBody st_need_orders, bd_need_orders, defk_of hM F3 rfl rfl rfl sc_need_orders, rfl, dv_need_orders T⟩
  have D4 : DefOk g 4 := ⟨nm_need_order, defScope st_need_order, defBody st_need_order, bd_need_order, defk_of hM F4 rfl rfl rfl sc_need_order, rfl, dv_need_order T⟩
  have D5 : DefOk g 5 := ⟨nm_all_pairs, defScope st_all_pairs, defBody st_all_pairs, bd_all_pairs, defk_of hM F5 rfl rfl rfl sc_all_pairs, rfl, dv_all_pairs T⟩
  have D6 : DefOk g 6 := ⟨nm_turned_pairs, defScope st_turned_pairs, defBody st_turned_pairs, bd_turned_pairs, defk_of hM F6 rfl rfl rfl sc_turned_pairs, rfl, dv_turned_pairs T⟩
  have D7 : DefOk g 7 := ⟨nm_kept_row, defScope st_kept_row, defBody st_kept_row, bd_kept_row, defk_of hM F7 rfl rfl rfl sc_kept_row, rfl, dv_kept_row T⟩
  have D8 : DefOk g 8 := ⟨nm_Inside_init, defScope st_Inside_init, defBody st_Inside_init, bd_Inside_init, defk_of hM F8 rfl rfl rfl sc_Inside_init, rfl, dv_Inside_init T⟩
  have D9 : DefOk g 9 := ⟨nm_Inside_eq, defScope st_Inside_eq, defBody st_Inside_eq, bd_Inside_eq, defk_of hM F9 rfl rfl rfl sc_Inside_eq, rfl, dv_Inside_eq T⟩
  have D10 : DefOk g 10 := ⟨nm_Around_init, defScope st_Around_init, defBody st_Around_init, bd_Around_init, defk_of hM F10 rfl rfl rfl sc_Around_init, rfl, dv_Around_init T⟩
  have D11 : DefOk g 11 := ⟨nm_Around_eq, defScope st_Around_eq, defBody st_Around_eq, bd_Around_eq, defk_of hM F11 rfl rfl rfl sc_Around_eq, rfl, dv_Around_eq T⟩
  have D12 : DefOk g 12 := ⟨nm_turned_in, defScope st_turned_in, defBody st_turned_in, bd_turned_in, defk_of hM F12 rfl rfl rfl sc_turned_in, rfl, dv_turned_in T⟩
  have D13 : DefOk g 13 := ⟨nm_checked_pairs, defScope st_checked_pairs, defBody st_checked_pairs, bd_checked_pairs, defk_of hM F13 rfl rfl rfl sc_checked_pairs, rfl, dv_checked_pairs T⟩
  have D14 : DefOk g 14 := ⟨nm_is_mirror, defScope st_is_mirror, defBody st_is_mirror, bd_is_mirror, defk_of hM F14 rfl rfl rfl sc_is_mirror, rfl, dv_is_mirror T⟩
  have D15 : DefOk g 15 := ⟨nm_lesser_ones, defScope st_lesser_ones, defBody st_lesser_ones, bd_lesser_ones, defk_of hM F15 rfl rfl rfl sc_lesser_ones, rfl, dv_lesser_ones T⟩
  have D16 : DefOk g 16 := ⟨nm_first_unlike, defScope st_first_unlike, defBody st_first_unlike, bd_first_unlike, defk_of hM F16 rfl rfl rfl sc_first_unlike, rfl, dv_first_unlike T⟩
  have D17 : DefOk g 17 := ⟨nm_around_fault, defScope st_around_fault, defBody st_around_fault, bd_around_fault, defk_of hM F17 rfl rfl rfl sc_around_fault, rfl, dv_around_fault T⟩
  have D18 : DefOk g 18 := ⟨nm_room_fault, defScope st_room_fault, defBody st_room_fault, bd_room_fault, defk_of hM F18 rfl rfl rfl sc_room_fault, rfl, dv_room_fault T⟩
  have D19 : DefOk g 19 := ⟨nm__law_pen, defScope st__law_pen, defBody st__law_pen, bd__law_pen, defk_of hM F19 rfl rfl rfl sc__law_pen, rfl, dv__law_pen T⟩
  have D20 : DefOk g 20 := ⟨nm__law_draw, defScope st__law_draw, defBody st__law_draw, bd__law_draw, defk_of hM F20 rfl rfl rfl sc__law_draw, rfl, dv__law_draw T⟩
  have D21 : DefOk g 21 := ⟨nm__law_pick, defScope st__law_pick, defBody st__law_pick, bd__law_pick, defk_of hM F21 rfl rfl rfl sc__law_pick, rfl, dv__law_pick T⟩
  have D22 : DefOk g 22 := ⟨nm__law_shuffled, defScope st__law_shuffled, defBody st__law_shuffled, bd__law_shuffled, defk_of hM F22 rfl rfl rfl sc__law_shuffled, rfl, dv__law_shuffled T⟩
  have D23 : DefOk g 23 := ⟨nm__law_pairs, defScope st__law_pairs, defBody st__law_pairs, bd__law_pairs, defk_of hM F23 rfl rfl rfl sc__law_pairs, rfl, dv__law_pairs T⟩
  have D24 : DefOk g 24 := ⟨nm__law_some_order, defScope st__law_some_order, defBody st__law_some_order, bd__law_some_order, defk_of hM F24 rfl rfl rfl sc__law_some_order, rfl, dv__law_some_order T⟩
  have D25 : DefOk g 25 := ⟨nm__law_listed, defScope st__law_listed, defBody st__law_listed, bd__law_listed, defk_of hM F25 rfl rfl rfl sc__law_listed, rfl, dv__law_listed T⟩
  have D26 : DefOk g 26 := ⟨nm__law_is_ints, defScope st__law_is_ints, defBody st__law_is_ints, bd__law_is_ints, defk_of hM F26 rfl rfl rfl sc__law_is_ints, rfl, dv__law_is_ints T⟩
  have D27 : DefOk g 27 := ⟨nm__law_is_fault, defScope st__law_is_fault, defBody st__law_is_fault, bd__law_is_fault, defk_of hM F27 rfl rfl rfl sc__law_is_fault, rfl, dv__law_is_fault T⟩
  have D28 : DefOk g 28 := ⟨nm__law_mirrors, defScope st__law_mirrors, defBody st__law_mirrors, bd__law_mirrors, defk_of hM F28 rfl rfl rfl sc__law_mirrors, rfl, dv__law_mirrors T⟩
  have D29 : DefOk g 29 := ⟨nm__law_room, defScope st__law_room, defBody st__law_room, bd__law_room, defk_of hM F29 rfl rfl rfl sc__law_room, rfl, dv__law_room T⟩
  have D30 : DefOk g 30 := ⟨nm__law_lesser, defScope st__law_lesser, defBody st__law_lesser, bd__law_lesser, defk_of hM F30 rfl rfl rfl sc__law_lesser, rfl, dv__law_lesser T⟩
  have D31 : DefOk g 31 := ⟨nm__law_complaint, defScope st__law_complaint, defBody st__law_complaint, bd__law_complaint, defk_of hM F31 rfl rfl rfl sc__law_complaint, rfl, dv__law_complaint T0⟩
  have D32 : DefOk g 32 := ⟨nm__law_inside_due, defScope st__law_inside_due, defBody st__law_inside_due, bd__law_inside_due, defk_of hM F32 rfl rfl rfl sc__law_inside_due, rfl, dv__law_inside_due T⟩
  have D33 : DefOk g 33 := ⟨nm__law_around_due, defScope st__law_around_due, defBody st__law_around_due, bd__law_around_due, defk_of hM F33 rfl rfl rfl sc__law_around_due, rfl, dv__law_around_due T⟩
  have D34 : DefOk g 34 := ⟨nm__law_own_ring, defScope st__law_own_ring, defBody st__law_own_ring, bd__law_own_ring, defk_of hM F34 rfl rfl rfl sc__law_own_ring, rfl, dv__law_own_ring T⟩
  have D35 : DefOk g 35 := ⟨nm__law_bent_order, defScope st__law_bent_order, defBody st__law_bent_order, bd__law_bent_order, defk_of hM F35 rfl rfl rfl sc__law_bent_order, rfl, dv__law_bent_order T⟩
  have D36 : DefOk g 36 := ⟨nm__law_bent_places, defScope st__law_bent_places, defBody st__law_bent_places, bd__law_bent_places, defk_of hM F36 rfl rfl rfl sc__law_bent_places, rfl, dv__law_bent_places T⟩
  have D37 : DefOk g 37 := ⟨nm_law, defScope st_law, defBody st_law, bd_law, defk_of hM F37 rfl rfl rfl sc_law, rfl, dv_law T⟩
  refine ⟨g, 37, 8, ⟨rfl, rfl⟩, rfl, rfl, fun q hq => ?_, D37, rfl, fun s us hl => ?_, fun oc od osl name qual params body sc dV kV doc pm an cdv ct lk => ?_, rfl, tab_by a37 l37 rfl lC lT, lN, ?_, plain⟩
  · match q, hq with
    | 0, _ => exact D0
    | 1, _ => exact D1
    | 2, _ => exact D2
    | 3, _ => exact D3
    | 4, _ => exact D4
    | 5, _ => exact D5
    | 6, _ => exact D6
    | 7, _ => exact D7
    | 8, _ => exact D8
    | 9, _ => exact D9
    | 10, _ => exact D10
    | 11, _ => exact D11
    | 12, _ => exact D12
    | 13, _ => exact D13
    | 14, _ => exact D14
    | 15, _ => exact D15
    | 16, _ => exact D16
    | 17, _ => exact D17
    | 18, _ => exact D18
    | 19, _ => exact D19
    | 20, _ => exact D20
    | 21, _ => exact D21
    | 22, _ => exact D22
    | 23, _ => exact D23
    | 24, _ => exact D24
    | 25, _ => exact D25
    | 26, _ => exact D26
    | 27, _ => exact D27
    | 28, _ => exact D28
    | 29, _ => exact D29
    | 30, _ => exact D30
    | 31, _ => exact D31
    | 32, _ => exact D32
    | 33, _ => exact D33
    | 34, _ => exact D34
    | 35, _ => exact D35
    | 36, _ => exact D36
    | n + 37, hq => exact absurd (show n + 37 < 37 from hq) (by omega)
  · exact match us, hl with | [_], _ => .of_eq rfl
  · have e := (show K.lookup f37 = _ from lk).symm.trans l37
    cases e
    exact ⟨rfl, rfl⟩
  · exact ⟨rfl, by decide +kernel, by decide +kernel⟩
end K85
end

section
set_option Elab.async false
set_option linter.all false
set_option maxRecDepth 100000
namespace K85
open PySem Py PyS
def okR (o : Option Str) : Bool := match o with
  | some y => sOk y
  | none => false
theorem okR_ex {o : Option Str} (h : okR o = true) : ∃ y, o = some y ∧ sOk y = true := by
  cases o with
  | none => cases h
  | some y => exact ⟨y, rfl, h⟩
theorem plainF : ∀ ns : List Int, ns.length ≤ 63 → (∀ z ∈ ns, Builtin.Int.intBits z ≤ 1048576) → ∃ S', topEv prog rpD 8 37 [.ro (ns.map D.int)] [] = .ok (.d (.bl true)) S' := fun ns _ _ =>
  plain rpD (fun d hd => okR_ex (by
      have : (oddL.all fun d => okR (rpD d)) = true := by decide +kernel
      exact List.all_eq_true.1 this d hd))
    (fun d hd => okR_ex (by
      have : (ordL.all fun d => okR (rpD d)) = true := by decide +kernel
      exact List.all_eq_true.1 this d hd)) (by decide +kernel) ns
end K85
open
        PySem PySem.W PyProof.Rows in
set_option
        maxRecDepth 100000 in
set_option maxHeartbeats 0 in
theorem PySem.Challenge.cw_swaprise_k85_whole_room_papers_judged_holds : PySem.Challenge.rw_swaprise_k85_whole_room_papers_judged.Holds := by
  w_on; o_law; k_head; (case hw =>
          w_witness2)
  k_fill
  refine PyS.walk_top (l := PySem.Challenge.rw_swaprise_k85_whole_room_papers_judged) rfl (by decide) rfl rfl ?F
  case F =>
    intro w mg fa h Y G hmg
    have KX := by first | exact PySem.W.kIn_of Y | exact PySem.W.km_in_of Y
    refine ⟨_, KX, ?_⟩
    refine' K85.all_mk KX G hmg K85.plainF ?aC5 ?pg5 ?hd5 ?po5 ?sa5 ?mk5 ?kc5 ?ha5 ?hm5 ?aC6 ?pg6 ?hd6 ?po6 ?sa6 ?mk6 ?kc6 ?ha6 ?hm6 ?nf5_order ?nf6_places ?oHn ?oHt ?z_all ?z_bool ?z_enumerate ?z_int ?z_isinstance ?z_len ?z_list ?z_max ?z_min ?z_range ?z_repr ?z_set ?z_sorted ?z_str ?z_tuple ?m_MOST ?a0 ?l0 ?c0 ?k0 ?a1 ?l1 ?c1 ?k1 ?a2 ?l2 ?c2 ?k2 ?a3 ?l3 ?c3 ?k3 ?a4 ?l4 ?c4 ?k4 ?a5 ?l5 ?c5 ?k5 ?a6 ?l6 ?c6 ?k6 ?a7 ?l7 ?c7 ?k7 ?a8 ?i8 ?l8 ?c8 ?k8 ?a9 ?i9 ?l9 ?c9 ?k9 ?a10 ?i10 ?l10 ?c10 ?k10 ?a11 ?i11 ?l11 ?c11 ?k11 ?a12 ?l12 ?c12 ?k12 ?a13 ?l13 ?c13 ?k13 ?a14 ?l14 ?c14 ?k14 ?a15 ?l15 ?c15 ?k15 ?a16 ?l16 ?c16 ?k16 ?a17 ?l17 ?c17 ?k17 ?a18 ?l18 ?c18 ?k18 ?a19 ?l19 ?c19 ?k19 ?a20 ?l20 ?c20 ?k20 ?a21 ?l21 ?c21 ?k21 ?a22 ?l22 ?c22 ?k22 ?a23 ?l23 ?c23 ?k23 ?a24 ?l24 ?c24 ?k24 ?a25 ?l25 ?c25 ?k25 ?a26 ?l26 ?c26 ?k26 ?a27 ?l27 ?c27 ?k27 ?a28 ?l28 ?c28 ?k28 ?a29 ?l29 ?c29 ?k29 ?a30 ?l30 ?c30 ?k30 ?a31 ?l31 ?c31 ?k31 ?a32 ?l32 ?c32 ?k32 ?a33 ?l33 ?c33 ?k33 ?a34 ?l34 ?c34 ?k34 ?a35 ?l35 ?c35 ?k35 ?a36 ?l36 ?c36 ?k36 ?a37 ?l37 ?c37 ?k37 ?lC ?lT ?lN ?nq5_NoneType ?nq5_bool ?nq5_int ?nq5_str ?nq5_tuple ?nq5_list ?nq5_5 ?nq5_6 ?nq6_NoneType ?nq6_bool ?nq6_int ?nq6_str ?nq6_tuple ?nq6_list ?nq6_5 ?nq6_6 ?q0_NoneType ?q0_bool ?q0_int ?q0_str ?q0_tuple ?q0_list ?q0_5 ?q0_6 ?q1_NoneType ?q1_bool ?q1_int ?q1_str ?q1_tuple ?q1_list ?q1_5 ?q1_6 ?q2_NoneType ?q2_bool ?q2_int ?q2_str ?q2_tuple ?q2_list ?q2_5 ?q2_6 ?q3_NoneType ?q3_bool ?q3_int ?q3_str ?q3_tuple ?q3_list ?q3_5 ?q3_6 ?q4_NoneType ?q4_bool ?q4_int ?q4_str ?q4_tuple ?q4_list ?q4_5 ?q4_6 ?q5_NoneType ?q5_bool ?q5_int ?q5_str ?q5_tuple ?q5_list ?q5_5 ?q5_6 ?q6_NoneType ?q6_bool ?q6_int ?q6_str ?q6_tuple ?q6_list ?q6_5 ?q6_6 ?aE1 ?xl1 ?xr1 ?xsa1 ?xB1 ?xt1 ?xk1 ?xf1 ?xi1 ?xT1 ?xF1 ?xc1_ ?xo1 ?xp1 ?xe1 ?xz1 ?xS1 ?xV1 ?xM1 ?xga1 ?xgg1 ?xhd1 ?aE2 ?xl2 ?xr2 ?xsa2 ?xB2 ?xt2 ?xk2 ?xf2 ?xi2 ?xT2 ?xF2 ?xc2_ ?xo2 ?xp2 ?xe2 ?xz2 ?xS2 ?xV2 ?xM2 ?xga2 ?xgg2 ?xhd2 ?aE3 ?xl3 ?xr3 ?xsa3 ?xB3 ?xt3 ?xk3 ?xf3 ?xi3 ?xT3 ?xF3 ?xc3_ ?xo3 ?xp3 ?xe3 ?xz3 ?xS3 ?xV3 ?xM3 ?xga3 ?xgg3 ?xhd3 ?aE4 ?xl4 ?xr4 ?xsa4 ?xB4 ?xt4 ?xk4 ?xf4 ?xi4 ?xT4 ?xF4 ?xc4_ ?xo4 ?xp4 ?xe4 ?xz4 ?xS4 ?xV4 ?xM4 ?xga4 ?xgg4 ?xhd4 ?xOp ?xSu ?xx1_1 ?xx1_2 ?xx1_3 ?xx1_4 ?xx2_1 ?xx2_2 ?xx2_3 ?xx2_4 ?xx3_1 ?xx3_2 ?xx3_3 ?xx3_4 ?xx4_1 ?xx4_2 ?xx4_3 ?xx4_4
    (case aC5 => k_is)
    (case pg5 => k_is)
    (case hd5 => k_is)
    (case po5 => k_is)
    (case sa5 => k_is)
    (case mk5 => k_is)
    (case kc5 => k_is)
    (case ha5 => k_is)
    (case hm5 => k_is)
    (case aC6 => k_is)
    (case pg6 => k_is)
    (case hd6 => k_is)
    (case po6 => k_is)
    (case sa6 => k_is)
    (case mk6 => k_is)
    (case kc6 => k_is)
    (case ha6 => k_is)
    (case hm6 => k_is)
    (case nf5_order => k_is)
    (case nf6_places => k_is)
    (case oHn => k_is)
    (case oHt => k_is)
    (case z_all => k_is)
    (case z_bool => k_is)
    (case z_enumerate => k_is)
    (case z_int => k_is)
    (case z_isinstance => k_is)
    (case z_len => k_is)
    (case z_list => k_is)
    (case z_max => k_is)
    (case z_min => k_is)
    (case z_range => k_is)
    (case z_repr => k_is)
    (case z_set => k_is)
    (case z_sorted => k_is)
    (case z_str => k_is)
    (case z_tuple => k_is)
    (case m_MOST => k_is)
    (case a0 => k_is)
    (case l0 => k_is)
    (case c0 => k_is)
    (case k0 => k_is)
    (case a1 => k_is)
    (case l1 => k_is)
    (case c1 => k_is)
    (case k1 => k_is)
    (case a2 => k_is)
    (case l2 => k_is)
    (case c2 => k_is)
    (case k2 => k_is)
    (case a3 => k_is)
    (case l3 => k_is)
    (case c3 => k_is)
    (case k3 => k_is)
    (case a4 => k_is)
    (case l4 => k_is)
    (case c4 => k_is)
    (case k4 => k_is)
    (case a5 => k_is)
    (case l5 => k_is)
    (case c5 => k_is)
    (case k5 => k_is)
    (case a6 => k_is)
    (case l6 => k_is)
    (case c6 => k_is)
    (case k6 => k_is)
    (case a7 => k_is)
    (case l7 => k_is)
    (case c7 => k_is)
    (case k7 => k_is)
    (case a8 => k_is)
    (case i8 => k_is)
    (case l8 => k_is)
    (case c8 => k_is)
    (case k8 => k_is)
    (case a9 => k_is)
    (case i9 => k_is)
    (case l9 => k_is)
    (case c9 => k_is)
    (case k9 => k_is)
    (case a10 => k_is)
    (case i10 => k_is)
    (case l10 => k_is)
    (case c10 => k_is)
    (case k10 => k_is)
    (case a11 => k_is)
    (case i11 => k_is)
    (case l11 => k_is)
    (case c11 => k_is)
    (case k11 => k_is)
    (case a12 => k_is)
    (case l12 => k_is)
    (case c12 => k_is)
    (case k12 => k_is)
    (case a13 => k_is)
    (case l13 => k_is)
    (case c13 => k_is)
    (case k13 => k_is)
    (case a14 => k_is)
    (case l14 => k_is)
    (case c14 => k_is)
    (case k14 => k_is)
    (case a15 => k_is)
    (case l15 => k_is)
    (case c15 => k_is)
    (case k15 => k_is)
    (case a16 => k_is)
    (case l16 => k_is)
    (case c16 => k_is)
    (case k16 => k_is)
    (case a17 => k_is)
    (case l17 => k_is)
    (case c17 => k_is)
    (case k17 => k_is)
    (case a18 => k_is)
    (case l18 => k_is)
    (case c18 => k_is)
    (case k18 => k_is)
    (case a19 => k_is)
    (case l19 => k_is)
    (case c19 => k_is)
    (case k19 => k_is)
    (case a20 => k_is)
    (case l20 => k_is)
    (case c20 => k_is)
    (case k20 => k_is)
    (case a21 => k_is)
    (case l21 => k_is)
    (case c21 => k_is)
    (case k21 => k_is)
    (case a22 => k_is)
    (case l22 => k_is)
    (case c22 => k_is)
    (case k22 => k_is)
    (case a23 => k_is)
    (case l23 => k_is)
    (case c23 => k_is)
    (case k23 => k_is)
    (case a24 => k_is)
    (case l24 => k_is)
    (case c24 => k_is)
    (case k24 => k_is)
    (case a25 => k_is)
    (case l25 => k_is)
    (case c25 => k_is)
    (case k25 => k_is)
    (case a26 => k_is)
    (case l26 => k_is)
    (case c26 => k_is)
    (case k26 => k_is)
    (case a27 => k_is)
    (case l27 => k_is)
    (case c27 => k_is)
    (case k27 => k_is)
    (case a28 => k_is)
    (case l28 => k_is)
    (case c28 => k_is)
    (case k28 => k_is)
    (case a29 => k_is)
    (case l29 => k_is)
    (case c29 => k_is)
    (case k29 => k_is)
    (case a30 => k_is)
    (case l30 => k_is)
    (case c30 => k_is)
    (case k30 => k_is)
    (case a31 => k_is)
    (case l31 => k_is)
    (case c31 => k_is)
    (case k31 => k_is)
    (case a32 => k_is)
    (case l32 => k_is)
    (case c32 => k_is)
    (case k32 => k_is)
    (case a33 => k_is)
    (case l33 => k_is)
    (case c33 => k_is)
    (case k33 => k_is)
    (case a34 => k_is)
    (case l34 => k_is)
    (case c34 => k_is)
    (case k34 => k_is)
    (case a35 => k_is)
    (case l35 => k_is)
    (case c35 => k_is)
    (case k35 => k_is)
    (case a36 => k_is)
    (case l36 => k_is)
    (case c36 => k_is)
    (case k36 => k_is)
    (case a37 => k_is)
    (case l37 => k_is)
    (case c37 => k_is)
    (case k37 => k_is)
    (case lC => k_is)
    (case lT => rfl)
    (case lN => kernel_rfl)
    (case nq5_NoneType => k_is)
    (case nq5_bool => k_is)
    (case nq5_int => k_is)
    (case nq5_str => k_is)
    (case nq5_tuple => k_is)
    (case nq5_list => k_is)
    (case nq5_5 => k_is)
    (case nq5_6 => k_is)
    (case nq6_NoneType => k_is)
    (case nq6_bool => k_is)
    (case nq6_int => k_is)
    (case nq6_str => k_is)
    (case nq6_tuple => k_is)
    (case nq6_list => k_is)
    (case nq6_5 => k_is)
    (case nq6_6 => k_is)
    (case q0_NoneType => kit_is)
    (case q0_bool => kit_is)
    (case q0_int => kit_is)
    (case q0_str => kit_is)
    (case q0_tuple => kit_is)
    (case q0_list => kit_is)
    (case q0_5 => kit_is)
    (case q0_6 => kit_is)
    (case q1_NoneType => kit_is)
    (case q1_bool => kit_is)
    (case q1_int => kit_is)
    (case q1_str => kit_is)
    (case q1_tuple => kit_is)
    (case q1_list => kit_is)
    (case q1_5 => kit_is)
    (case q1_6 => kit_is)
    (case q2_NoneType => kit_is)
    (case q2_bool => kit_is)
    (case q2_int => kit_is)
    (case q2_str => kit_is)
    (case q2_tuple => kit_is)
    (case q2_list => kit_is)
    (case q2_5 => kit_is)
    (case q2_6 => kit_is)
    (case q3_NoneType => kit_is)
    (case q3_bool => kit_is)
    (case q3_int => kit_is)
    (case q3_str => kit_is)
    (case q3_tuple => kit_is)
    (case q3_list => kit_is)
    (case q3_5 => kit_is)
    (case q3_6 => kit_is)
    (case q4_NoneType => kit_is)
    (case q4_bool => kit_is)
    (case q4_int => kit_is)
    (case q4_str => kit_is)
    (case q4_tuple => kit_is)
    (case q4_list => kit_is)
    (case q4_5 => kit_is)
    (case q4_6 => kit_is)
    (case q5_NoneType => kit_is)
    (case q5_bool => kit_is)
    (case q5_int => kit_is)
    (case q5_str => kit_is)
    (case q5_tuple => kit_is)
    (case q5_list => kit_is)
    (case q5_5 => kit_is)
    (case q5_6 => kit_is)
    (case q6_NoneType => kit_is)
    (case q6_bool => kit_is)
    (case q6_int => kit_is)
    (case q6_str => kit_is)
    (case q6_tuple => kit_is)
    (case q6_list => kit_is)
    (case q6_5 => kit_is)
    (case q6_6 => kit_is)
    (case aE1 => k_is)
    (case xl1 => k_is)
    (case xr1 => rfl)
    (case xsa1 => k_is)
    (case xB1 => k_is)
    (case xt1 => k_is)
    (case xk1 => k_is)
    (case xf1 => k_is)
    (case xi1 => k_is)
    (case xT1 => k_is)
    (case xF1 => k_is)
    (case xc1_ => k_is)
    (case xo1 => k_is)
    (case xp1 => rfl)
    (case xe1 => decide +kernel)
    (case xz1 => k_is)
    (case xS1 => ks_is)
    (case xV1 => k_is)
    (case xM1 => k_is)
    (case xga1 => k_is)
    (case xgg1 => k_is)
    (case xhd1 => k_is)
    (case aE2 => k_is)
    (case xl2 => k_is)
    (case xr2 => rfl)
    (case xsa2 => k_is)
    (case xB2 => k_is)
    (case xt2 => k_is)
    (case xk2 => k_is)
    (case xf2 => k_is)
    (case xi2 => k_is)
    (case xT2 => k_is)
    (case xF2 => k_is)
    (case xc2_ => k_is)
    (case xo2 => k_is)
    (case xp2 => rfl)
    (case xe2 => decide +kernel)
    (case xz2 => k_is)
    (case xS2 => ks_is)
    (case xV2 => k_is)
    (case xM2 => k_is)
    (case xga2 => k_is)
    (case xgg2 => k_is)
    (case xhd2 => k_is)
    (case aE3 => k_is)
    (case xl3 => k_is)
    (case xr3 => rfl)
    (case xsa3 => k_is)
    (case xB3 => k_is)
    (case xt3 => k_is)
    (case xk3 => k_is)
    (case xf3 => k_is)
    (case xi3 => k_is)
    (case xT3 => k_is)
    (case xF3 => k_is)
    (case xc3_ => k_is)
    (case xo3 => k_is)
    (case xp3 => rfl)
    (case xe3 => decide +kernel)
    (case xz3 => k_is)
    (case xS3 => ks_is)
    (case xV3 => k_is)
    (case xM3 => k_is)
    (case xga3 => k_is)
    (case xgg3 => k_is)
    (case xhd3 => k_is)
    (case aE4 => k_is)
    (case xl4 => k_is)
    (case xr4 => rfl)
    (case xsa4 => k_is)
    (case xB4 => k_is)
    (case xt4 => k_is)
    (case xk4 => k_is)
    (case xf4 => k_is)
    (case xi4 => k_is)
    (case xT4 => k_is)
    (case xF4 => k_is)
    (case xc4_ => k_is)
    (case xo4 => k_is)
    (case xp4 => rfl)
    (case xe4 => decide +kernel)
    (case xz4 => k_is)
    (case xS4 => ks_is)
    (case xV4 => k_is)
    (case xM4 => k_is)
    (case xga4 => k_is)
    (case xgg4 => k_is)
    (case xhd4 => k_is)
    (case xOp => k_is)
    (case xSu => k_is)
    (case xx1_1 => kts_exm)
    (case xx1_2 => kts_exm)
    (case xx1_3 => kts_exm)
    (case xx1_4 => kts_exm)
    (case xx2_1 => kts_exm)
    (case xx2_2 => kts_exm)
    (case xx2_3 => kts_exm)
    (case xx2_4 => kts_exm)
    (case xx3_1 => kts_exm)
    (case xx3_2 => kts_exm)
    (case xx3_3 => kts_exm)
    (case xx3_4 => kts_exm)
    (case xx4_1 => kts_exm)
    (case xx4_2 => kts_exm)
    (case xx4_3 => kts_exm)
    (case xx4_4 => kts_exm)
end
