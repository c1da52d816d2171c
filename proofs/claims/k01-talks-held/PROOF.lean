import PyProof.Rows.All
import Wide.All
import OpenK.AllK
import Wide.FinOn
import HandS.ForMost
import HandS.ForExc
import HandS.IsInst
import HandS.Deep
import HandS.Wide
import HandS.TupAny
import HandS.TupMul
import HandS.Zip
import HandS.Rev
import HandS.SortInts
import HandS.Defaults
import HandS.HeadEnd
import HandS.Codes
import HandS.Head0
import HandS.Head1
import HandS.Head2
import HandS.HeadHook1
import HandS.HeadHook2
import PySem.Challenge.RW_jointhands_k01_talks_that_are_held
set_option Elab.async false
set_option linter.all false
set_option maxRecDepth 100000
set_option maxHeartbeats 0
/-! JA: pure data, owned trees, the IR and its evaluator. -/
namespace JH
open PySem

/-- immutable data -/
inductive D where
  | non | bl (b : Bool) | int (i : Int) | str (s : List Nat)
  | tup (xs : List D) | lst (xs : List D)
  | dk (ks : List (Sum Int (List Nat))) (vs : List D)
  | obj (c : Nat) (fs : List Nat) (vs : List D)
  | scr (ns : List Int)
  deriving Inhabited

/-- owned data: a tree whose inner nodes are objects that nothing else knows -/
inductive M where
  | d (x : D)
  | lst (xs : List M)
  | dk (ks : List (Sum Int (List Nat))) (vs : List M)
  | obj (c : Nat) (fs : List Nat) (vs : List M)
  deriving Inhabited

abbrev Env := List (Option M)

mutual
/-- what an owned tree is when nobody may change it any more -/
def M.toD : M → D
  | .d x => x
  | .lst xs => .lst (M.toDs xs)
  | .dk ks vs => .dk ks (M.toDs vs)
  | .obj c fs vs => .obj c fs (M.toDs vs)
def M.toDs : List M → List D
  | [] => []
  | x :: xs => M.toD x :: M.toDs xs
end

/-- an exception: its class (a number of the table), its fields -/
structure EX where
  c : Nat
  vs : List D

inductive ER (α : Type) where
  | ok (a : α) (σ : Env) | exc (e : EX) (σ : Env) | stuck
def ER.bind {α β : Type} : ER α → (α → Env → ER β) → ER β
  | .ok a σ, f => f a σ
  | .exc e σ, _ => .exc e σ
  | .stuck, _ => .stuck
@[simp] theorem ER.bind_ok {α β : Type} (a : α) (σ : Env) (f : α → Env → ER β) : (ER.ok a σ).bind f = f a σ := rfl
@[simp] theorem ER.bind_exc {α β : Type} (e : EX) (σ : Env) (f : α → Env → ER β) : (ER.exc e σ : ER α).bind f = .exc e σ := rfl
@[simp] theorem ER.bind_stuck {α β : Type} (f : α → Env → ER β) : (ER.stuck : ER α).bind f = .stuck := rfl
def ofO {α : Type} (o : Option α) (σ : Env) : ER α := match o with
  | some a => .ok a σ
  | none => .stuck
@[simp] theorem ofO_some {α : Type} (a : α) (σ : Env) : ofO (some a) σ = .ok a σ := rfl
@[simp] theorem ofO_none {α : Type} (σ : Env) : (ofO none σ : ER α) = .stuck := rfl

inductive CR where
  | ret (d : D) (outs : Env) | exc (e : EX) | stuck
abbrev Tab := Nat → List M → CR

inductive BOp where | add | sub | mul | fdiv | mod | pow
  deriving DecidableEq
inductive COp where | eq | ne | lt | le | gt | ge | isin | notin
  deriving DecidableEq
inductive B1 where | len | tuple | list | int | abs | sum | all | any | sorted | min | max | bool
  deriving DecidableEq
inductive B2 where | min | max
  deriving DecidableEq
inductive Ty where | tuple | list | int | bool | str | dict
  deriving DecidableEq
inductive Pl where
  | root (i : Nat) | fld (i f : Nat)
  deriving DecidableEq
inductive Tg where
  | nm (i : Nat) | nil | cons (a r : Tg)
  deriving DecidableEq

inductive IE where
  | cN | cB (b : Bool) | cI (i : Int) | cS (s : List Nat)
  | rd (i : Nat) | rdf (i f : Nat) | fz (p : Pl) | fld (e : IE) (f : Nat)
  | gl (g : Nat)
  | bin (op : BOp) (a b : IE) | neg (a : IE)
  | cmp (op : COp) (a b : IE) | chn (o1 o2 : COp) (a b c : IE)
  | isN (a : IE) | notN (a : IE)
  | and (l : IE) | or (l : IE) | not (a : IE) | ite (c a b : IE)
  | idx (a b : IE) | midx (p : Pl) (b : IE)
  | slc (a lo hi : IE)
  | tup (l : IE) | lst (l : IE)
  | call (f : Nat) (l : IE)
  | b1 (f : B1) (a : IE) | pb1 (f : B1) (p : Pl) | b2 (f : B2) (a b : IE)
  | isi (a : IE) (t : Ty) | isi2 (a : IE) (t u : Ty)
  | comp (elt : IE) (tg : Tg) (it : IE) (c : IE) (own : List Nat)
  | pop (p : Pl) | popi (p : Pl) (a : IE)
  | rng1 (a : IE) | rng2 (a b : IE) | enm (a : IE) | zp (a b : IE) | rv (a : IE)
  | nil | cons (a r : IE) | marg (i : Nat)
  deriving DecidableEq

inductive IS where
  | skip | seq (a b : IS)
  | asg (t : Tg) (e : IE) | asgM (i : Nat) (e : IE)
  | sto (p : Pl) (i e : IE)
  | app (p : Pl) (e : IE) | ext (p : Pl) (e : IE)
  | ex (e : IE)
  | ite (c : IE) (a b : IS) | wh (c : IE) (b : IS) | for (t : Tg) (it : IE) (b : IS)
  | ret (e : IE) | retN | brk | cont
  | rse (c : Nat) (l : IE)
  deriving DecidableEq

/-! ### operations on data -/
mutual
def D.depth : D → Nat
  | .tup xs => D.depths xs + 1
  | .lst xs => D.depths xs + 1
  | _ => 0
def D.depths : List D → Nat
  | [] => 0
  | x :: xs => max (D.depth x) (D.depths xs)
end
mutual
/-- plain data: none, truth values, ints, texts, lists and tuples of them -/
def D.plain : D → Bool
  | .non => true | .bl _ => true | .int _ => true
  | .str s => s.all fun c => decide (c < 0x110000)
  | .tup xs => D.plains xs
  | .lst xs => D.plains xs
  | _ => false
def D.plains : List D → Bool
  | [] => true
  | x :: xs => D.plain x && D.plains xs
end
mutual
def D.eqv : D → D → Bool
  | .non, .non => true
  | .bl a, .bl b => a == b
  | .bl a, .int j => (if a then 1 else 0) == j
  | .int i, .bl b => i == (if b then 1 else 0)
  | .int i, .int j => i == j
  | .str x, .str y => x == y
  | .lst xs, .lst ys => D.eqvs xs ys
  | .tup xs, .tup ys => D.eqvs xs ys
  | _, _ => false
def D.eqvs : List D → List D → Bool
  | [], [] => true
  | x :: xs, y :: ys => D.eqv x y && D.eqvs xs ys
  | _, _ => false
end
/-- data that == takes -/
def D.cmpOk (x : D) : Bool := D.plain x && decide (D.depth x ≤ 64)
/-- scalars that == takes at once -/
def D.scal : D → D → Bool
  | .non, .non => true | .non, .int _ => true | .int _, .non => true | .non, .bl _ => true | .bl _, .non => true | .non, .str _ => true | .str _, .non => true
  | .int _, .int _ => true | .bl _, .bl _ => true | .str _, .str _ => true
  | .int _, .str _ => true | .str _, .int _ => true | .bl _, .str _ => true | .str _, .bl _ => true
  | _, _ => false
def dEq (x y : D) : Option Bool := if D.scal x y || (D.cmpOk x && D.cmpOk y) then some (D.eqv x y) else none
def lexLt : List Int → List Int → Bool
  | [], [] => false
  | [], _ :: _ => true
  | _ :: _, [] => false
  | x :: xs, y :: ys => if x = y then lexLt xs ys else decide (x < y)
def D.ints : List D → Option (List Int)
  | [] => some []
  | .int i :: r => (D.ints r).map (i :: ·)
  | _ => none
def D.bls : List D → Option (List Bool)
  | [] => some []
  | .bl i :: r => (D.bls r).map (i :: ·)
  | _ => none
def D.flat : D → Bool
  | .non => true | .bl _ => true | .int _ => true | .str _ => true | _ => false
def dIn (x : D) (xs : List D) : Option Bool :=
  if D.flat x && xs.all D.flat then some (xs.any fun y => D.eqv y x) else none
def D.items : D → Option (List D)
  | .tup xs => some xs
  | .lst xs => some xs
  | .scr ns => some (ns.map D.int)
  | _ => none
def dCmp : COp → D → D → Option Bool
  | .eq, x, y => dEq x y
  | .ne, x, y => (dEq x y).map not
  | .lt, .int i, .int j => some (decide (i < j))
  | .le, .int i, .int j => some (decide (i ≤ j))
  | .gt, .int i, .int j => some (decide (j < i))
  | .ge, .int i, .int j => some (decide (j ≤ i))
  | .isin, x, y => (D.items y).bind (dIn x)
  | .notin, x, y => ((D.items y).bind (dIn x)).map not
  | _, _, _ => none
def small64 (i : Int) : Bool := decide (-(2 ^ 64) < i) && decide (i < 2 ^ 64)
def dBin : BOp → D → D → Option D
  | .add, .int i, .int j => some (.int (i + j))
  | .add, .tup xs, .tup ys => if xs.length + ys.length ≤ 16777216 then some (.tup (xs ++ ys)) else none
  | .add, .lst xs, .lst ys => if xs.length + ys.length ≤ 16777216 then some (.lst (xs ++ ys)) else none
  | .sub, .int i, .int j => some (.int (i - j))
  | .mul, .int i, .int j => if small64 i || small64 j then some (.int (i * j)) else none
  | .mul, .tup xs, .int k => if 1 ≤ xs.length ∧ xs.length ≤ 1000 ∧ 1 ≤ k ∧ k ≤ 1000 then some (.tup (List.replicate k.toNat xs).flatten) else none
  | .fdiv, .int i, .int j => if 0 < j ∧ j < 1073741824 then some (.int (i / j)) else none
  | .mod, .int i, .int j => if 0 < j then some (.int (i % j)) else none
  | .pow, .int i, .int j => if 0 ≤ j ∧ j ≤ 1000 ∧ small64 i then some (.int (i ^ j.toNat)) else none
  | _, _, _ => none
/-- the place that an index means -/
def ixD (n : Nat) (i : Int) : Option Nat := if 0 ≤ i then (if i < n then some i.toNat else none) else if -(n : Int) ≤ i then some (i + n).toNat else none
def dIdx : D → D → Option D
  | .tup xs, .int i => (ixD xs.length i).bind fun j => xs[j]?
  | .lst xs, .int i => (ixD xs.length i).bind fun j => xs[j]?
  | .scr ns, .int i => (ixD ns.length i).bind fun j => ns[j]?.map D.int
  | _, _ => none
def sIx (n d : Nat) : Option Int → Nat
  | none => d
  | some v => if v < 0 then (v + n).toNat else min v.toNat n
def cutD (xs : List D) (lo hi : Option Int) : List D := (xs.drop (sIx xs.length 0 lo)).take (sIx xs.length xs.length hi - sIx xs.length 0 lo)
def dSlc : D → Option Int → Option Int → Option D
  | .tup xs, lo, hi => some (.tup (cutD xs lo hi))
  | .lst xs, lo, hi => some (.lst (cutD xs lo hi))
  | _, _, _ => none
def isort : List Int → List Int
  | [] => []
  | x :: xs => ins x (isort xs)
where ins (x : Int) : List Int → List Int
  | [] => [x]
  | y :: ys => if x ≤ y then x :: y :: ys else y :: ins x ys
def dB1 : B1 → D → Option D
  | .len, .tup xs => some (.int xs.length)
  | .len, .lst xs => some (.int xs.length)
  | .len, .scr xs => some (.int xs.length)
  | .tuple, .tup xs => some (.tup xs)
  | .tuple, .lst xs => some (.tup xs)
  | .list, .tup xs => some (.lst xs)
  | .list, .lst xs => some (.lst xs)
  | .int, .int i => some (.int i)
  | .int, .bl b => some (.int (if b then 1 else 0))
  | .abs, .int i => some (.int (if i < 0 then -i else i))
  | .sum, .lst xs => (D.ints xs).map fun ns => .int ns.sum
  | .all, .lst xs => (D.bls xs).map fun bs => .bl (bs.all id)
  | .any, .lst xs => (D.bls xs).map fun bs => .bl (bs.any id)
  | .sorted, .lst xs => (D.ints xs).map fun ns => .lst ((isort ns).map D.int)
  | _, _ => none
def dB2 : B2 → D → D → Option D
  | .max, .int i, .int j => some (.int (if j > i then j else i))
  | .min, .int i, .int j => some (.int (if j < i then j else i))
  | _, _, _ => none
def D.isTy : D → Ty → Bool
  | .bl _, .bool => true | .bl _, .int => true
  | .int _, .int => true
  | .str _, .str => true
  | .tup _, .tuple => true
  | .lst _, .list => true
  | .scr _, .list => true
  | .dk _ _, .dict => true
  | _, _ => false
def D.tyOk : D → Bool
  | .obj _ _ _ => false
  | .dk _ _ => false
  | _ => true
/-- an owned list of data -/
def M.leaf : M → Option D
  | .d x => some x
  | _ => none
def M.leaves : List M → Option (List D)
  | [] => some []
  | .d x :: r => (M.leaves r).map (x :: ·)
  | _ => none

def smallR (i : Int) : Bool := decide (-16777216 ≤ i) && decide (i ≤ 16777216)
/-! ### places -/
def fIx (f : Nat) : List Nat → Option Nat
  | [] => none
  | g :: r => if g = f then some 0 else (fIx f r).map (· + 1)
def getPl (σ : Env) : Pl → Option M
  | .root i => (σ[i]?).bind id
  | .fld i f => match (σ[i]?).bind id with
    | some (.obj _ fs vs) => (fIx f fs).bind fun k => vs[k]?
    | _ => none
def setPl (σ : Env) (p : Pl) (m : M) : Env := match p with
  | .root i => σ.set i (some m)
  | .fld i f => match (σ[i]?).bind id with
    | some (.obj c fs vs) => match fIx f fs with
      | some k => σ.set i (some (.obj c fs (vs.set k m)))
      | none => σ
    | _ => σ
def M.isL : M → Option Unit
  | .lst _ => some ()
  | _ => none
def there (p : Pl) (σ : Env) : ER Unit := ofO ((getPl σ p).bind M.isL) σ
/-- what reading a place's list gives, without freezing it -/
def peek (m : M) : Option D := match m with
  | .lst xs => (M.leaves xs).map D.lst
  | _ => none

/-- an item of an owned list -/
def mIdx (m : M) (y : D) : Option D := match m, y with
  | .lst xs, .int i => ((ixD xs.length i).bind fun j => xs[j]?).bind M.leaf
  | _, _ => none
/-- the last item, and the list without it -/
def mPop (m : M) : Option (D × M) := match m with
  | .lst xs => (xs.getLast?.bind M.leaf).map fun x => (x, .lst xs.dropLast)
  | _ => none
def mPopi (m : M) (y : D) : Option (D × M) := match m, y with
  | .lst xs, .int i => if smallR i then (ixD xs.length i).bind fun j => (xs[j]?.bind M.leaf).map fun x => (x, .lst (xs.eraseIdx j)) else none
  | _, _ => none
def mSet (m : M) (k y : D) : Option M := match m, k with
  | .lst xs, .int i => (ixD xs.length i).map fun j => .lst (xs.set j (.d y))
  | _, _ => none
def mApp (m : M) (y : D) : Option M := match m with
  | .lst xs => if xs.length < 16777216 then some (.lst (xs ++ [.d y])) else none
  | _ => none
def mExt (m : M) (y : D) : Option M := match m, y with
  | .lst xs, .lst ys => if xs.length + ys.length ≤ 16777216 then some (.lst (xs ++ ys.map M.d)) else none
  | _, _ => none
/-- an argument: data, or a slot that is handed over -/
inductive AV where
  | d (x : D) | m (i : Nat)
  deriving Inhabited
def avM (σ : Env) : AV → Option M
  | .d x => some (.d x)
  | .m i => (σ[i]?).bind id
def avMs (σ : Env) : List AV → Option (List M)
  | [] => some []
  | a :: r => (avM σ a).bind fun m => (avMs σ r).map (m :: ·)
def avSlots : List AV → List Nat
  | [] => []
  | .m i :: r => i :: avSlots r
  | .d _ :: r => avSlots r
def putOuts (σ : Env) : List AV → Env → Env
  | [], _ => σ
  | .m i :: r, o :: os => putOuts (σ.set i o) r os
  | .d _ :: r, _ :: os => putOuts σ r os
  | .m i :: r, [] => putOuts (σ.set i none) r []
  | .d _ :: r, [] => putOuts σ r []
def dropOuts (σ : Env) : List AV → Env
  | [] => σ
  | .m i :: r => dropOuts (σ.set i none) r
  | .d _ :: r => dropOuts σ r
def nodupB : List Nat → Bool
  | [] => true
  | x :: r => !r.contains x && nodupB r
def callWith (T : Tab) (f : Nat) (avs : List AV) (σ : Env) : ER D :=
  if nodupB (avSlots avs) then
    match avMs σ avs with
    | some ms => match T f ms with
      | .ret d outs => .ok d (putOuts σ avs outs)
      | .exc e => .exc e (dropOuts σ avs)
      | .stuck => .stuck
    | none => .stuck
  else .stuck

/-! ### targets -/
mutual
def asgT : Tg → D → Env → Option Env
  | .nm i, d, σ => some (σ.set i (some (.d d)))
  | .nil, d, σ => match d with
    | .tup [] => some σ
    | _ => none
  | .cons a r, d, σ => match d with
    | .tup (x :: xs) => (asgT a x σ).bind fun σ1 => asgTs r xs σ1
    | _ => none
def asgTs : Tg → List D → Env → Option Env
  | .nm _, _, _ => none
  | .nil, xs, σ => match xs with
    | [] => some σ
    | _ => none
  | .cons a r, xs, σ => match xs with
    | x :: ys => (asgT a x σ).bind fun σ1 => asgTs r ys σ1
    | [] => none
end

/-! ### the loop of a comprehension -/
def compL (f : D → Env → ER (Option D)) : List D → Env → ER (List D)
  | [], σ => .ok [] σ
  | x :: xs, σ => match f x σ with
    | .ok (some y) σ1 => (compL f xs σ1).bind fun r σ2 => .ok (y :: r) σ2
    | .ok none σ1 => compL f xs σ1
    | _ => .stuck
def wipeD (σ : Env) : List Nat → Env
  | [] => σ
  | v :: vs => (wipeD σ vs).set v none
/-- the slots vs as they were in σ0 -/
def backD (σ0 σ : Env) : List Nat → Env
  | [] => σ
  | v :: vs => (backD σ0 σ vs).set v ((σ0[v]?).bind id)
def rangeD (lo : Int) (n : Nat) : List D := (List.range n).map fun (i : Nat) => D.int (lo + i)
def enumD (i : Nat) : List D → List D
  | [] => []
  | x :: xs => .tup [.int i, x] :: enumD (i + 1) xs
def zipD : List D → List D → List D
  | x :: xs, y :: ys => .tup [x, y] :: zipD xs ys
  | _, _ => []
def dRng1 : D → Option (List D)
  | .int n => if smallR n then some (rangeD 0 n.toNat) else none
  | _ => none
def dRng2 : D → D → Option (List D)
  | .int i, .int j => if smallR i && smallR j && smallR (j - i) then some (rangeD i (j - i).toNat) else none
  | _, _ => none
def dEnm : D → Option (List D)
  | .lst xs => some (enumD 0 xs)
  | _ => none
def dZip : D → D → Option (List D)
  | .lst xs, .lst ys => some (zipD xs ys)
  | .tup xs, .tup ys => some (zipD xs ys)
  | _, _ => none
def asI : D → Option Int
  | .int i => some i
  | _ => none
def isNone : D → Bool
  | .non => true
  | _ => false
def asB : D → Option Bool
  | .bl b => some b
  | _ => none

/-! ### the evaluator -/
section
variable (T : Tab) (G : Nat → Option D)
mutual
def evE : IE → Env → ER D
  | .cN, σ => .ok .non σ
  | .cB b, σ => .ok (.bl b) σ
  | .cI i, σ => .ok (.int i) σ
  | .cS s, σ => .ok (.str s) σ
  | .rd i, σ => match (σ[i]?).bind id with
    | some (.d x) => .ok x σ
    | _ => .stuck
  | .rdf i f, σ => match getPl σ (.fld i f) with
    | some (.d x) => .ok x σ
    | _ => .stuck
  | .fz p, σ => match getPl σ p with
    | some m => .ok m.toD (setPl σ p (.d m.toD))
    | none => .stuck
  | .fld e f, σ => (evE e σ).bind fun x σ1 => match x with
    | .obj _ fs vs => ofO ((fIx f fs).bind fun k => vs[k]?) σ1
    | _ => .stuck
  | .gl g, σ => ofO (G g) σ
  | .bin op a b, σ => (evE a σ).bind fun x σ1 => (evE b σ1).bind fun y σ2 => ofO (dBin op x y) σ2
  | .neg a, σ => (evE a σ).bind fun x σ1 => ofO ((asI x).map fun i => .int (-i)) σ1
  | .cmp op a b, σ => (evE a σ).bind fun x σ1 => (evE b σ1).bind fun y σ2 => ofO ((dCmp op x y).map D.bl) σ2
  | .chn o1 o2 a b c, σ => (evE a σ).bind fun x σ1 => (evE b σ1).bind fun y σ2 => (ofO (dCmp o1 x y) σ2).bind fun k σ3 =>
      if k = true then (evE c σ3).bind fun z σ4 => ofO ((dCmp o2 y z).map D.bl) σ4 else .ok (.bl false) σ3
  | .isN a, σ => (evE a σ).bind fun x σ1 => .ok (.bl (isNone x)) σ1
  | .notN a, σ => (evE a σ).bind fun x σ1 => .ok (.bl (!isNone x)) σ1
  | .and l, σ => evAnd l σ
  | .or l, σ => evOr l σ
  | .not a, σ => (evE a σ).bind fun x σ1 => ofO ((asB x).map fun b => .bl (!b)) σ1
  | .ite c a b, σ => (evE c σ).bind fun x σ1 => (ofO (asB x) σ1).bind fun k σ2 => if k = true then evE a σ2 else evE b σ2
  | .idx a b, σ => (evE a σ).bind fun x σ1 => (evE b σ1).bind fun y σ2 => ofO (dIdx x y) σ2
  | .midx p b, σ => (there p σ).bind fun _ σ1 => (evE b σ1).bind fun y σ2 => ofO ((getPl σ2 p).bind fun m => mIdx m y) σ2
  | .slc a lo hi, σ => (evE a σ).bind fun x σ1 => (evO lo σ1).bind fun l σ2 => (evO hi σ2).bind fun h σ3 => ofO (dSlc x l h) σ3
  | .tup l, σ => (evL l σ).bind fun xs σ1 => .ok (.tup xs) σ1
  | .lst l, σ => (evL l σ).bind fun xs σ1 => .ok (.lst xs) σ1
  | .call f l, σ => (evA l σ).bind fun avs σ1 => callWith T f avs σ1
  | .b1 f a, σ => (evE a σ).bind fun x σ1 => ofO (dB1 f x) σ1
  | .pb1 f p, σ => ofO ((getPl σ p).bind fun m => (peek m).bind (dB1 f)) σ
  | .b2 f a b, σ => (evE a σ).bind fun x σ1 => (evE b σ1).bind fun y σ2 => ofO (dB2 f x y) σ2
  | .isi a t, σ => (evE a σ).bind fun x σ1 => if x.tyOk then .ok (.bl (x.isTy t)) σ1 else .stuck
  | .isi2 a t u, σ => (evE a σ).bind fun x σ1 => if x.tyOk then .ok (.bl (x.isTy t || x.isTy u)) σ1 else .stuck
  | .comp e tg it c own, σ => (evI it σ).bind fun xs σ1 =>
      (compL (fun x σ2 => match asgT tg x σ2 with
        | some σ3 => (evT c σ3).bind fun k σ4 => if k = true then (evE e σ4).bind fun y σ5 => .ok (some y) (wipeD σ5 own) else .ok none (wipeD σ4 own)
        | none => .stuck) xs (wipeD σ1 own)).bind fun ys σ2 => .ok (.lst ys) (backD σ1 σ2 own)
  | .pop p, σ => (ofO ((getPl σ p).bind mPop) σ).bind fun r σ1 => .ok r.1 (setPl σ1 p r.2)
  | .popi p a, σ => (there p σ).bind fun _ σ0 => (evE a σ0).bind fun y σ1 => (ofO ((getPl σ1 p).bind fun m => mPopi m y) σ1).bind fun r σ2 => .ok r.1 (setPl σ2 p r.2)
  | _, _ => .stuck
/-- a test (nil: no test) -/
def evT : IE → Env → ER Bool
  | .nil, σ => .ok true σ
  | e, σ => (evE e σ).bind fun x σ1 => ofO (asB x) σ1
/-- a bound of a slice -/
def evO : IE → Env → ER (Option Int)
  | .nil, σ => .ok none σ
  | e, σ => (evE e σ).bind fun x σ1 => ofO ((asI x).map some) σ1
def evL : IE → Env → ER (List D)
  | .nil, σ => .ok [] σ
  | .cons a r, σ => (evE a σ).bind fun x σ1 => (evL r σ1).bind fun xs σ2 => .ok (x :: xs) σ2
  | _, _ => .stuck
def evA : IE → Env → ER (List AV)
  | .nil, σ => .ok [] σ
  | .cons (.marg i) r, σ => (ofO (((σ[i]?).bind id).map fun _ => ()) σ).bind fun _ σ1 => (evA r σ1).bind fun xs σ2 => .ok (.m i :: xs) σ2
  | .cons a r, σ => (evE a σ).bind fun x σ1 => (evA r σ1).bind fun xs σ2 => .ok (.d x :: xs) σ2
  | _, _ => .stuck
def evAnd : IE → Env → ER D
  | .cons a .nil, σ => evE a σ
  | .cons a r, σ => (evE a σ).bind fun x σ1 => (ofO (asB x) σ1).bind fun k σ2 => if k = true then evAnd r σ2 else .ok (.bl false) σ2
  | _, _ => .stuck
def evOr : IE → Env → ER D
  | .cons a .nil, σ => evE a σ
  | .cons a r, σ => (evE a σ).bind fun x σ1 => (ofO (asB x) σ1).bind fun k σ2 => if k = true then .ok (.bl true) σ2 else evOr r σ2
  | _, _ => .stuck
/-- the items that a for or a comprehension walks -/
def evI : IE → Env → ER (List D)
  | .rng1 a, σ => (evE a σ).bind fun x σ1 => ofO (dRng1 x) σ1
  | .rng2 a b, σ => (evE a σ).bind fun x σ1 => (evE b σ1).bind fun y σ2 => ofO (dRng2 x y) σ2
  | .enm a, σ => (evE a σ).bind fun x σ1 => ofO (dEnm x) σ1
  | .zp a b, σ => (evE a σ).bind fun x σ1 => (evE b σ1).bind fun y σ2 => ofO (dZip x y) σ2
  | e, σ => (evE e σ).bind fun x σ1 => ofO (D.items x) σ1
end
end

/-- a fresh list, owned -/
def thaw : D → Option M
  | .lst xs => some (.lst (xs.map M.d))
  | _ => none
/-! ### statements -/
inductive SR where
  | nx (σ : Env) | ret (d : D) (σ : Env) | brk (σ : Env) | cont (σ : Env) | exc (e : EX) (σ : Env) | stuck
/-- an expression's end as a statement's -/
def ER.to {α : Type} : ER α → (α → Env → SR) → SR
  | .ok a σ, f => f a σ
  | .exc e σ, _ => .exc e σ
  | .stuck, _ => .stuck
@[simp] theorem ER.to_ok {α : Type} (a : α) (σ : Env) (f : α → Env → SR) : (ER.ok a σ).to f = f a σ := rfl
@[simp] theorem ER.to_exc {α : Type} (e : EX) (σ : Env) (f : α → Env → SR) : (ER.exc e σ : ER α).to f = .exc e σ := rfl
@[simp] theorem ER.to_stuck {α : Type} (f : α → Env → SR) : (ER.stuck : ER α).to f = .stuck := rfl
def SR.andThen : SR → (Env → SR) → SR
  | .nx σ, f => f σ
  | r, _ => r
def forL (t : Tg) (f : Env → SR) : List D → Env → SR
  | [], σ => .nx σ
  | x :: xs, σ => match asgT t x σ with
    | some σ1 => match f σ1 with
      | .nx σ2 => forL t f xs σ2
      | .cont σ2 => forL t f xs σ2
      | .brk σ2 => .nx σ2
      | r => r
    | none => .stuck
def whL (c : Env → ER Bool) (f : Env → SR) : Nat → Env → SR
  | 0, _ => .stuck
  | n + 1, σ => (c σ).to fun k σ1 => if k = true then match f σ1 with
      | .nx σ2 => whL c f n σ2
      | .cont σ2 => whL c f n σ2
      | .brk σ2 => .nx σ2
      | r => r
    else .nx σ1
section
variable (T : Tab) (G : Nat → Option D) (wf : Nat)
def evS : IS → Env → SR
  | .skip, σ => .nx σ
  | .seq a b, σ => (evS a σ).andThen (evS b)
  | .asg t e, σ => (evE T G e σ).to fun x σ1 => (ofO (asgT t x σ1) σ1).to fun σ2 _ => .nx σ2
  | .asgM i e, σ => (evE T G e σ).to fun x σ1 => (ofO (thaw x) σ1).to fun m σ2 => .nx (σ2.set i (some m))
  | .sto p i e, σ => (evE T G e σ).to fun y σ1 => (there p σ1).to fun _ σ1 => (evE T G i σ1).to fun k σ2 => (ofO ((getPl σ2 p).bind fun m => mSet m k y) σ2).to fun m σ3 => .nx (setPl σ3 p m)
  | .app p e, σ => (there p σ).to fun _ σ0 => (evE T G e σ0).to fun y σ1 => (ofO ((getPl σ1 p).bind fun m => mApp m y) σ1).to fun m σ2 => .nx (setPl σ2 p m)
  | .ext p e, σ => (there p σ).to fun _ σ0 => (evE T G e σ0).to fun y σ1 => (ofO ((getPl σ1 p).bind fun m => mExt m y) σ1).to fun m σ2 => .nx (setPl σ2 p m)
  | .ex e, σ => (evE T G e σ).to fun _ σ1 => .nx σ1
  | .ite c a b, σ => (evT T G c σ).to fun k σ1 => if k = true then evS a σ1 else evS b σ1
  | .wh c b, σ => whL (evT T G c) (evS b) wf σ
  | .for t it b, σ => (evI T G it σ).to fun xs σ1 => forL t (evS b) xs σ1
  | .ret e, σ => (evE T G e σ).to fun x σ1 => .ret x σ1
  | .retN, σ => .ret .non σ
  | .brk, σ => .brk σ
  | .cont, σ => .cont σ
  | .rse c l, σ => (evL T G l σ).to fun xs σ1 => .exc ⟨c, xs⟩ σ1
end

/-- a def: parameters, slots, the parameters that it changes, its body -/
structure FI where
  np : Nat
  ns : Nat
  pin : List Nat
  body : IS
def outs (pin : List Nat) (np : Nat) (σ : Env) : Env := (List.range np).map fun k => if pin.contains k then (σ[k]?).bind id else none
def fnRes (fi : FI) : SR → CR
  | .ret d σ => .ret d (outs fi.pin fi.np σ)
  | .nx σ => .ret .non (outs fi.pin fi.np σ)
  | .exc e _ => .exc e
  | _ => .stuck
def callF (P : List FI) (G : Nat → Option D) (wf : Nat) : Nat → Tab
  | 0, _, _ => .stuck
  | n + 1, f, ms => match P[f]? with
    | some fi => if ms.length = fi.np then fnRes fi (evS (callF P G wf n) G wf fi.body (ms.map some ++ List.replicate (fi.ns - fi.np) none)) else .stuck
    | none => .stuck
end JH

/-! JB1: what stands for what: data and owned trees in the abstract heap; the state's relation; growth. -/
namespace JH
open PySem PySem.Spec PyProof.Rows L2

/-- the fixed tables: the written part, the fields' names, the classes' places -/
structure SG where
  K : PySem.W.Frag
  fnm : Nat → Str
  cad : Nat → Addr

def toKey : Sum Int (List Nat) → Key
  | .inl i => .inl i
  | .inr s => .inr ⟨s.toArray⟩

def LeH (F H : Hp) : Prop := ∀ a o, F a = some o → H a = some o
theorem LeH.refl (F : Hp) : LeH F F := fun _ _ h => h
theorem LeH.trans {F G H : Hp} (a : LeH F G) (b : LeH G H) : LeH F H := fun x o h => b x o (a x o h)

theorem Rd.mono {F F' : Hp} {a : Addr} {u : HO} (h : Rd F a u) (l : LeH F F') : Rd F' a u := by
  rcases h with h | ⟨o, h⟩
  · exact .inl (l _ _ h)
  · exact .inr ⟨o, l _ _ h⟩
theorem SqT.mono {K : PySem.W.Frag} {F F' : Hp} {a : Addr} {xs : List V} (h : SqT K F a xs) (l : LeH F F') : SqT K F' a xs := by
  rcases h with h | h
  · exact .inl (Rd.mono h l)
  · exact .inr h
theorem SqL.mono {K : PySem.W.Frag} {F F' : Hp} {a : Addr} {xs : List V} (h : SqL K F a xs) (l : LeH F F') : SqL K F' a xs := by
  rcases h with h | h
  · exact .inl (Rd.mono h l)
  · exact .inr h

section
variable (g : SG) (F : Hp)
mutual
inductive RD : D → V → Prop
  | non : RD .non .non
  | bl (b : Bool) : RD (.bl b) (.bl b)
  | int (i : Int) : RD (.int i) (.int i)
  | str (s : List Nat) : RD (.str s) (.str ⟨s.toArray⟩)
  | tup {a : Addr} {vs : List V} {ds : List D} : SqT g.K F a vs → vs.length ≤ sizeLine → RDs ds vs → RD (.tup ds) (.ref a)
  | lst {a : Addr} {vs : List V} {ds : List D} : F a = some (.lst vs) → vs.length ≤ sizeLine → RDs ds vs → RD (.lst ds) (.ref a)
  | dk {a : Addr} {kvs : List (Key × V)} {ks : List (Sum Int (List Nat))} {ds : List D} : F a = some (.dK kvs) → kvs.map (·.1) = ks.map toKey → RDs ds (kvs.map (·.2)) → RD (.dk ks ds) (.ref a)
  | obj {a dx : Addr} {c : Nat} {fs : List Nat} {fvs : List (Str × V)} {ds : List D} : F a = some (.ins (g.cad c) dx fvs) → fvs.map (·.1) = fs.map g.fnm → RDs ds (fvs.map (·.2)) → RD (.obj c fs ds) (.ref a)
  | scr {a : Addr} {ns : List Int} : SqL g.K F a (ns.map V.int) → ns.length ≤ sizeLine → RD (.scr ns) (.ref a)
inductive RDs : List D → List V → Prop
  | nil : RDs [] []
  | cons {x : D} {v : V} {xs : List D} {vs : List V} : RD x v → RDs xs vs → RDs (x :: xs) (v :: vs)
end
end
section
variable {g : SG} {F F' : Hp}
mutual
theorem RD.mono (l : LeH F F') : ∀ {d : D} {v : V}, RD g F d v → RD g F' d v
  | _, _, .non => .non
  | _, _, .bl b => .bl b
  | _, _, .int i => .int i
  | _, _, .str s => .str s
  | _, _, .tup h z r => .tup (SqT.mono h l) z (RDs.mono l r)
  | _, _, .lst h z r => .lst (l _ _ h) z (RDs.mono l r)
  | _, _, .dk h z r => .dk (l _ _ h) z (RDs.mono l r)
  | _, _, .obj h z r => .obj (l _ _ h) z (RDs.mono l r)
  | _, _, .scr h z => .scr (SqL.mono h l) z
theorem RDs.mono (l : LeH F F') : ∀ {ds : List D} {vs : List V}, RDs g F ds vs → RDs g F' ds vs
  | _, _, .nil => .nil
  | _, _, .cons h r => .cons (RD.mono l h) (RDs.mono l r)
end
theorem RDs.length : ∀ {ds : List D} {vs : List V}, RDs g F ds vs → ds.length = vs.length
  | _, _, .nil => rfl
  | _, _, .cons _ r => by simp [RDs.length r]
theorem RDs.get : ∀ {ds : List D} {vs : List V} {i : Nat} {x : D}, RDs g F ds vs → ds[i]? = some x → ∃ v, vs[i]? = some v ∧ RD g F x v
  | _, _, _, _, .nil, e => by simp at e
  | _, _, 0, _, .cons r _, e => by
    simp at e
    subst e
    exact ⟨_, rfl, r⟩
  | _, _, i + 1, x, .cons _ t, e => by
    obtain ⟨v, h1, h2⟩ := RDs.get (i := i) (x := x) t (by simpa using e)
    exact ⟨v, by simpa using h1, h2⟩
theorem RDs.append : ∀ {ds es : List D} {vs ws : List V}, RDs g F ds vs → RDs g F es ws → RDs g F (ds ++ es) (vs ++ ws)
  | _, _, _, _, .nil, s => s
  | _, _, _, _, .cons r t, s => .cons r (RDs.append t s)
theorem RDs.take : ∀ {ds : List D} {vs : List V} (n : Nat), RDs g F ds vs → RDs g F (ds.take n) (vs.take n)
  | _, _, 0, _ => .nil
  | _, _, _ + 1, .nil => .nil
  | _, _, n + 1, .cons r t => .cons r (RDs.take n t)
theorem RDs.drop : ∀ {ds : List D} {vs : List V} (n : Nat), RDs g F ds vs → RDs g F (ds.drop n) (vs.drop n)
  | _, _, 0, r => r
  | _, _, _ + 1, .nil => .nil
  | _, _, n + 1, .cons _ t => RDs.drop n t
theorem RDs.rep {ds : List D} {vs : List V} (r : RDs g F ds vs) : ∀ n : Nat, RDs g F (List.replicate n ds).flatten (List.replicate n vs).flatten
  | 0 => .nil
  | n + 1 => by
    rw [List.replicate_succ, List.replicate_succ, List.flatten_cons, List.flatten_cons]
    exact r.append (RDs.rep r n)
theorem RDs.ints : ∀ {ds : List D} {vs : List V} {ns : List Int}, RDs g F ds vs → D.ints ds = some ns → vs = ns.map V.int
  | _, _, ns, .nil, e => by
    cases e
    rfl
  | _, _, ns, @RDs.cons _ _ x v xs vs h r, e => by
    cases h with
    | int i =>
      simp only [D.ints, Option.map_eq_some_iff] at e
      obtain ⟨a, e1, e2⟩ := e
      subst e2
      rw [RDs.ints r e1]
      rfl
    | _ => simp [D.ints] at e
theorem RDs.bls : ∀ {ds : List D} {vs : List V} {ns : List Bool}, RDs g F ds vs → D.bls ds = some ns → vs = ns.map V.bl
  | _, _, ns, .nil, e => by
    cases e
    rfl
  | _, _, ns, @RDs.cons _ _ x v xs vs h r, e => by
    cases h with
    | bl i =>
      simp only [D.bls, Option.map_eq_some_iff] at e
      obtain ⟨a, e1, e2⟩ := e
      subst e2
      rw [RDs.bls r e1]
      rfl
    | _ => simp [D.bls] at e
theorem RDs.ofInts : ∀ (ns : List Int), RDs g F (ns.map D.int) (ns.map V.int)
  | [] => .nil
  | n :: r => .cons (.int n) (RDs.ofInts r)
end

section
variable (g : SG) (H F : Hp)
mutual
inductive RM : M → V → (Addr → Prop) → Prop
  | d {x : D} {v : V} {S : Addr → Prop} : RD g F x v → RM (.d x) v S
  | lst {a : Addr} {vs : List V} {ms : List M} {S : Addr → Prop} : S a → H a = some (.lst vs) → vs.length ≤ sizeLine → RMs ms vs (fun b => S b ∧ b ≠ a) → RM (.lst ms) (.ref a) S
  | dk {a : Addr} {kvs : List (Key × V)} {ks : List (Sum Int (List Nat))} {ms : List M} {S : Addr → Prop} : S a → H a = some (.dK kvs) → kvs.map (·.1) = ks.map toKey → RMs ms (kvs.map (·.2)) (fun b => S b ∧ b ≠ a) → RM (.dk ks ms) (.ref a) S
  | obj {a dx : Addr} {c : Nat} {fs : List Nat} {fvs : List (Str × V)} {ms : List M} {S : Addr → Prop} : S a → H a = some (.ins (g.cad c) dx fvs) → fvs.map (·.1) = fs.map g.fnm → RMs ms (fvs.map (·.2)) (fun b => S b ∧ b ≠ a) → RM (.obj c fs ms) (.ref a) S
inductive RMs : List M → List V → (Addr → Prop) → Prop
  | nil {S : Addr → Prop} : RMs [] [] S
  | cons {x : M} {v : V} {xs : List M} {vs : List V} {S S1 S2 : Addr → Prop} : (∀ b, S1 b → S b) → (∀ b, S2 b → S b) → (∀ b, S1 b → S2 b → False) → RM x v S1 → RMs xs vs S2 → RMs (x :: xs) (v :: vs) S
end
end
section
variable {g : SG} {H F H' F' : Hp}
mutual
/-- what the tree does not own may change -/
theorem RM.frame (lf : LeH F F') : ∀ {m : M} {v : V} {S : Addr → Prop}, RM g H F m v S → (∀ a o, S a → H a = some o → H' a = some o) → RM g H' F' m v S
  | _, _, _, .d h, _ => .d (h.mono lf)
  | _, _, _, .lst s h z r, k => .lst s (k _ _ s h) z (RMs.frame lf r fun a o sa => k a o sa.1)
  | _, _, _, .dk s h z r, k => .dk s (k _ _ s h) z (RMs.frame lf r fun a o sa => k a o sa.1)
  | _, _, _, .obj s h z r, k => .obj s (k _ _ s h) z (RMs.frame lf r fun a o sa => k a o sa.1)
theorem RMs.frame (lf : LeH F F') : ∀ {ms : List M} {vs : List V} {S : Addr → Prop}, RMs g H F ms vs S → (∀ a o, S a → H a = some o → H' a = some o) → RMs g H' F' ms vs S
  | _, _, _, .nil, _ => .nil
  | _, _, _, .cons h1 h2 h3 r t, k => .cons h1 h2 h3 (RM.frame lf r fun a o sa => k a o (h1 a sa)) (RMs.frame lf t fun a o sa => k a o (h2 a sa))
end
mutual
theorem RM.wide : ∀ {m : M} {v : V} {S S' : Addr → Prop}, RM g H F m v S → (∀ a, S a → S' a) → RM g H F m v S'
  | _, _, _, _, .d h, _ => .d h
  | _, _, _, _, .lst s h z r, k => .lst (k _ s) h z (RMs.wide r fun a sa => ⟨k a sa.1, sa.2⟩)
  | _, _, _, _, .dk s h z r, k => .dk (k _ s) h z (RMs.wide r fun a sa => ⟨k a sa.1, sa.2⟩)
  | _, _, _, _, .obj s h z r, k => .obj (k _ s) h z (RMs.wide r fun a sa => ⟨k a sa.1, sa.2⟩)
theorem RMs.wide : ∀ {ms : List M} {vs : List V} {S S' : Addr → Prop}, RMs g H F ms vs S → (∀ a, S a → S' a) → RMs g H F ms vs S'
  | _, _, _, _, .nil, _ => .nil
  | _, _, _, _, .cons h1 h2 h3 r t, k => .cons (fun b s => k b (h1 b s)) (fun b s => k b (h2 b s)) h3 r t
end
mutual
/-- frozen: what the tree owned stands in the frozen part -/
theorem RM.freeze (le : LeH F F') : ∀ {m : M} {v : V} {S : Addr → Prop}, RM g H F m v S → (∀ a o, S a → H a = some o → F' a = some o) → RD g F' m.toD v
  | _, _, _, .d h, _ => by
    show RD g F' _ _
    exact h.mono le
  | _, _, _, .lst s h z r, k => .lst (k _ _ s h) z (RMs.freeze le r fun a o sa => k a o sa.1)
  | _, _, _, .dk s h z r, k => .dk (k _ _ s h) z (RMs.freeze le r fun a o sa => k a o sa.1)
  | _, _, _, .obj s h z r, k => .obj (k _ _ s h) z (RMs.freeze le r fun a o sa => k a o sa.1)
theorem RMs.freeze (le : LeH F F') : ∀ {ms : List M} {vs : List V} {S : Addr → Prop}, RMs g H F ms vs S → (∀ a o, S a → H a = some o → F' a = some o) → RDs g F' (M.toDs ms) vs
  | _, _, _, .nil, _ => .nil
  | _, _, _, .cons h1 h2 h3 r t, k => .cons (RM.freeze le r fun a o sa => k a o (h1 a sa)) (RMs.freeze le t fun a o sa => k a o (h2 a sa))
end
theorem RMs.ofD {S : Addr → Prop} : ∀ {ds : List D} {vs : List V}, RDs g F ds vs → RMs g H F (ds.map M.d) vs S
  | _, _, .nil => .nil
  | _, _, .cons h r => .cons (S1 := fun _ => False) (S2 := S) (fun _ z => z.elim) (fun _ z => z) (fun _ z => z.elim) (.d h) (RMs.ofD r)
theorem RMs.length : ∀ {ms : List M} {vs : List V} {S : Addr → Prop}, RMs g H F ms vs S → ms.length = vs.length
  | _, _, _, .nil => rfl
  | _, _, _, .cons _ _ _ _ r => by simp [RMs.length r]
theorem RMs.getD : ∀ {ms : List M} {vs : List V} {S : Addr → Prop} {i : Nat} {x : D}, RMs g H F ms vs S → ms[i]? = some (.d x) → ∃ v, vs[i]? = some v ∧ RD g F x v
  | _, _, _, _, _, .nil, e => by simp at e
  | _, _, _, 0, _, .cons _ _ _ r _, e => by
    simp at e
    subst e
    cases r with
    | d r => exact ⟨_, rfl, r⟩
  | _, _, _, i + 1, x, .cons _ _ _ _ t, e => by
    obtain ⟨v, h1, h2⟩ := RMs.getD (i := i) (x := x) t (by simpa using e)
    exact ⟨v, by simpa using h1, h2⟩
theorem RMs.leaves : ∀ {ms : List M} {vs : List V} {S : Addr → Prop} {ds : List D}, RMs g H F ms vs S → M.leaves ms = some ds → RDs g F ds vs
  | _, _, _, ds, .nil, e => by
    cases e
    exact .nil
  | _, _, _, ds, @RMs.cons _ _ _ x v xs vs _ _ _ _ _ _ r t, e => by
    cases r with
    | d r =>
      simp only [M.leaves, Option.map_eq_some_iff] at e
      obtain ⟨a, e1, e2⟩ := e
      subst e2
      exact .cons r (RMs.leaves t e1)
    | _ => simp [M.leaves] at e
theorem RMs.append : ∀ {ms ns : List M} {vs ws : List V} {S S1 S2 : Addr → Prop}, RMs g H F ms vs S1 → RMs g H F ns ws S2 → (∀ b, S1 b → S b) → (∀ b, S2 b → S b) → (∀ b, S1 b → S2 b → False) → RMs g H F (ms ++ ns) (vs ++ ws) S
  | _, _, _, _, _, _, _, .nil, s, _, h2, _ => s.wide h2
  | _, _, _, _, _, _, _, @RMs.cons _ _ _ x v xs vs S0 T1 T2 a1 a2 a3 r t, s, h1, h2, h3 =>
    .cons (S2 := fun b => (T2 b ∨ _)) (fun b z => h1 b (a1 b z)) (fun b z => z.elim (fun z => h1 b (a2 b z)) (h2 b)) (fun b z w => w.elim (a3 b z) (h3 b (a1 b z))) r (RMs.append t s (fun b z => .inl z) (fun b z => .inr z) fun b z w => h3 b (a2 b z) w)
theorem RMs.setD : ∀ {ms : List M} {vs : List V} {S : Addr → Prop} {x : D} {v : V}, RMs g H F ms vs S → RD g F x v → ∀ i, RMs g H F (ms.set i (.d x)) (vs.set i v) S
  | _, _, _, _, _, .nil, _, _ => .nil
  | _, _, _, _, _, .cons h1 h2 h3 _ t, q, 0 => .cons h1 h2 h3 (.d q) t
  | _, _, _, _, _, .cons h1 h2 h3 r t, q, i + 1 => .cons h1 h2 h3 r (RMs.setD t q i)
theorem RMs.dropLast : ∀ {ms : List M} {vs : List V} {S : Addr → Prop}, RMs g H F ms vs S → RMs g H F ms.dropLast vs.dropLast S
  | _, _, _, .nil => .nil
  | _, _, _, .cons _ _ _ _ .nil => .nil
  | _, _, _, .cons h1 h2 h3 r (.cons a1 a2 a3 q t) => .cons h1 h2 h3 r (RMs.dropLast (.cons a1 a2 a3 q t))
theorem RMs.eraseIdx : ∀ {ms : List M} {vs : List V} {S : Addr → Prop} (i : Nat), RMs g H F ms vs S → RMs g H F (ms.eraseIdx i) (vs.eraseIdx i) S
  | _, _, _, _, .nil => .nil
  | _, _, _, 0, .cons h1 h2 h3 r t => t.wide h2
  | _, _, _, i + 1, .cons h1 h2 h3 r t => .cons h1 h2 h3 r (RMs.eraseIdx i t)
end

/-! ### the state -/
def Own (Os : Nat → Addr → Prop) : Addr → Prop := fun a => ∃ i, Os i a
structure Rel (g : SG) (H F : Hp) (σd : Env) (σ : L2.St) (Os : Nat → Addr → Prop) : Prop where
  le : LeH F H
  len : σd.length = σ.length
  sl : ∀ i m, σd[i]? = some (some m) → ∃ v, σ[i]? = some (some v) ∧ RM g H F m v (Os i)
  dj : ∀ i j a, Os i a → Os j a → i = j
  nf : ∀ i a, Os i a → F a = none
  al : ∀ i a, Os i a → H a ≠ none
/-- what may change: nothing owned if pu -/
structure Gr (pu : Bool) (H F : Hp) (O : Addr → Prop) (H' F' : Hp) (O' : Addr → Prop) : Prop where
  ff : LeH F F'
  fr : ∀ a o, H a = some o → ¬ (pu = false ∧ O a) → H' a = some o
  al : ∀ a, H a ≠ none → H' a ≠ none
  ow : ∀ a, O' a → O a ∨ H a = none
  fz : ∀ a, F' a ≠ none → F a ≠ none ∨ (pu = false ∧ O a) ∨ H a = none
theorem Gr.refl (pu : Bool) (H F : Hp) (O : Addr → Prop) : Gr pu H F O H F O := ⟨LeH.refl F, fun _ _ h _ => h, fun _ h => h, fun _ h => .inl h, fun _ h => .inl h⟩
theorem Gr.trans {pu : Bool} {H F H1 F1 H2 F2 : Hp} {O O1 O2 : Addr → Prop} (a : Gr pu H F O H1 F1 O1) (b : Gr pu H1 F1 O1 H2 F2 O2) : Gr pu H F O H2 F2 O2 := by
  have back : ∀ x, H1 x = none → H x = none := fun x h => by
    cases e : H x with
    | none => rfl
    | some o => exact absurd h (a.al x (by rw [e]; simp))
  refine ⟨a.ff.trans b.ff, fun x o h n => b.fr x o (a.fr x o h n) fun z => ?_, fun x h => b.al x (a.al x h), fun x h => ?_, fun x h => ?_⟩
  · rcases a.ow x z.2 with q | q
    · exact n ⟨z.1, q⟩
    · rw [h] at q; cases q
  · rcases b.ow x h with q | q
    · exact a.ow x q
    · exact .inr (back x q)
  · rcases b.fz x h with q | q | q
    · exact a.fz x q
    · rcases a.ow x q.2 with w | w
      · exact .inr (.inl ⟨q.1, w⟩)
      · exact .inr (.inr w)
    · exact .inr (.inr (back x q))
theorem Gr.weak {H F H' F' : Hp} {O O' : Addr → Prop} {pu pu' : Bool} (a : Gr pu H F O H' F' O') (h : pu' = true → pu = true) : Gr pu' H F O H' F' O' := by
  have k : pu = false → pu' = false := fun z => by
    cases q : pu' with
    | false => rfl
    | true => rw [h q] at z; cases z
  exact ⟨a.ff, fun x o e n => a.fr x o e fun z => n ⟨k z.1, z.2⟩, a.al, a.ow, fun x e => (a.fz x e).imp id fun z => z.imp (fun z => ⟨k z.1, z.2⟩) id⟩
/-- new objects alone -/
structure Ext (H F H' F' : Hp) : Prop where
  ff : LeH F F'
  le : LeH F' H'
  hh : LeH H H'
  nw : ∀ a, F' a ≠ none → F a ≠ none ∨ H a = none
theorem Ext.refl {H F : Hp} (l : LeH F H) : Ext H F H F := ⟨LeH.refl F, l, LeH.refl H, fun _ h => .inl h⟩
theorem Ext.laid {H F : Hp} (l : LeH F H) {p : Addr} {o : HO} (h : H p = none) : Ext H F (upd H p o) (upd F p o) := by
  have fp : F p = none := by
    cases e : F p with
    | none => rfl
    | some u => rw [l p u e] at h; cases h
  refine ⟨fun a u e => ?_, fun a u e => ?_, fun a u e => ?_, fun a e => ?_⟩
  · rw [upd_ne (ne_of_none e fp)]; exact e
  · by_cases q : a = p
    · subst q; rw [upd_same] at e ⊢; exact e
    · rw [upd_ne q] at e ⊢; exact l a u e
  · rw [upd_ne (ne_of_none e h)]; exact e
  · by_cases q : a = p
    · subst q; exact .inr h
    · rw [upd_ne q] at e; exact .inl e
theorem Ext.gr {H F H' F' : Hp} (x : Ext H F H' F') {O : Addr → Prop} (pu : Bool) : Gr pu H F O H' F' O :=
  ⟨x.ff, fun a o e _ => x.hh a o e, fun a h => by
    cases e : H a with
    | none => exact absurd e h
    | some o => rw [x.hh a o e]; simp, fun _ h => .inl h, fun a h => (x.nw a h).imp id .inr⟩
theorem Rel.ext {g : SG} {H F H' F' : Hp} {σd : Env} {σ : L2.St} {Os : Nat → Addr → Prop} (r : Rel g H F σd σ Os) (x : Ext H F H' F') : Rel g H' F' σd σ Os := by
  refine ⟨x.le, r.len, fun i m e => ?_, r.dj, fun i a h => ?_, fun i a h => ?_⟩
  · obtain ⟨v, e1, q⟩ := r.sl i m e
    exact ⟨v, e1, q.frame x.ff fun a o _ e => x.hh a o e⟩
  · cases e : F' a with
    | none => rfl
    | some o =>
      rcases x.nw a (by rw [e]; simp) with q | q
      · exact absurd (r.nf i a h) q
      · exact absurd q (r.al i a h)
  · have := r.al i a h
    cases e : H a with
    | none => exact absurd e this
    | some o => rw [x.hh a o e]; simp
theorem Rel.get {g : SG} {H F : Hp} {σd : Env} {σ : L2.St} {Os : Nat → Addr → Prop} (r : Rel g H F σd σ Os) {i : Nat} {m : M} (h : (σd[i]?).bind id = some m) : ∃ v, σ[i]? = some (some v) ∧ RM g H F m v (Os i) := by
  refine r.sl i m ?_
  cases e : σd[i]? with
  | none => rw [e] at h; cases h
  | some o =>
    rw [e] at h
    have : o = some m := h
    rw [this]

/-! ### what follows an evaluation -/
/-- an exception, by its class and its own dict -/
def RX (g : SG) (F : Hp) (e : EX) (cls : Value) (dd : Option Addr) : Prop :=
  cls = .ref (g.cad e.c) ∧ match dd with
    | none => e.vs = []
    | some d => ∃ f v x, F d = some (.xd [(f, v)]) ∧ e.vs = [x] ∧ RD g F x v
section
variable {α β : Type} (g : SG) (W : WX) (pu : Bool) (R : Hp → α → β → Prop) (σ : L2.St) (H F : Hp) (O : Addr → Prop) (Q : β → Hp → Prop)
def KE : ER α → Prop
  | .ok a σd => ∀ b H' F' Os', Rel g H' F' σd σ Os' → R F' a b → Gr pu H F O H' F' (Own Os') → Q b H'
  | .exc e σd => ∀ cls dd H' F' Os', Rel g H' F' σd σ Os' → RX g F' e cls dd → Gr pu H F O H' F' (Own Os') → W cls dd σ H'
  | .stuck => False
end
section
variable {α β γ δ : Type} {g : SG} {W : WX} {pu : Bool} {R : Hp → α → β → Prop} {R2 : Hp → γ → δ → Prop} {σ : L2.St} {H F H1 F1 : Hp} {O O1 : Addr → Prop} {Q : β → Hp → Prop} {Q2 : δ → Hp → Prop}
theorem KE.later {r : ER α} (k : KE g W pu R σ H F O Q r) (x : Gr pu H F O H1 F1 O1) : KE g W pu R σ H1 F1 O1 Q r := by
  cases r with
  | ok a σd => exact fun b H' F' Os' rel q y => k b H' F' Os' rel q (x.trans y)
  | exc e σd => exact fun c dd H' F' Os' rel q y => k c dd H' F' Os' rel q (x.trans y)
  | stuck => exact k
theorem KE.bind {r : ER α} {f : α → Env → ER γ} (k : KE g W pu R2 σ H F O Q2 (r.bind f))
    (h : ∀ a σd b H' F' Os', Rel g H' F' σd σ Os' → R F' a b → LeH F F' → Gr pu H F O H' F' (Own Os') → KE g W pu R2 σ H' F' (Own Os') Q2 (f a σd) → Q b H') : KE g W pu R σ H F O Q r := by
  cases r with
  | ok a σd => exact fun b H' F' Os' rel q x => h a σd b H' F' Os' rel q x.ff x (KE.later (r := f a σd) k x)
  | exc e σd => exact k
  | stuck => exact k
theorem KE.bindE {r : ER α} {f : α → Env → ER γ} (k : KE g W pu R2 σ H F O Q2 (r.bind f))
    (h : ∀ a σd b H' F' Os', r = .ok a σd → Rel g H' F' σd σ Os' → R F' a b → LeH F F' → Gr pu H F O H' F' (Own Os') → KE g W pu R2 σ H' F' (Own Os') Q2 (f a σd) → Q b H') : KE g W pu R σ H F O Q r := by
  cases r with
  | ok a σd => exact fun b H' F' Os' rel q x => h a σd b H' F' Os' rfl rel q x.ff x (KE.later (r := f a σd) k x)
  | exc e σd => exact k
  | stuck => exact k
theorem KE.ofO {o : Option γ} {σd : Env} (k : KE g W pu R2 σ H F O Q2 (ofO o σd)) : ∃ a, o = some a ∧ ∀ b H' F' Os', Rel g H' F' σd σ Os' → R2 F' a b → Gr pu H F O H' F' (Own Os') → Q2 b H' := by
  cases o with
  | none => exact False.elim k
  | some a => exact ⟨a, rfl, k⟩
end
theorem ER.bind_assoc {α β γ : Type} (r : ER α) (f : α → Env → ER β) (h : β → Env → ER γ) : (r.bind f).bind h = r.bind fun a σ => (f a σ).bind h := by
  cases r <;> rfl
theorem KE.bind_assoc {α β γ δ : Type} {g : SG} {W : WX} {pu : Bool} {R2 : Hp → γ → δ → Prop} {σ : L2.St} {H F : Hp} {O : Addr → Prop} {Q2 : δ → Hp → Prop} {r : ER α} {f : α → Env → ER β} {h : β → Env → ER γ} (k : KE g W pu R2 σ H F O Q2 ((r.bind f).bind h)) : KE g W pu R2 σ H F O Q2 (r.bind fun a σ => (f a σ).bind h) := by
  rw [← ER.bind_assoc]
  exact k
/-- the evaluator's transformer -/
def tV {α β : Type} (g : SG) (W : WX) (pu : Bool) (R : Hp → α → β → Prop) (ev : Env → ER α) : L2.St → Hp → (β → Hp → Prop) → Prop := fun σ H Q =>
  ∃ σd F Os, Rel g H F σd σ Os ∧ KE g W pu R σ H F (Own Os) Q (ev σd)
abbrev REq {α : Type} : Hp → α → α → Prop := fun _ a b => a = b
end JH

/-! JB2: the operations on data are the model's. -/
namespace JH
open PySem PySem.Spec PyProof.Rows L2

/-! ### data as the library tells it -/
mutual
def D.py : D → PyData
  | .non => .none
  | .bl b => .bool b
  | .int i => .int i
  | .str s => .str ⟨s.toArray⟩
  | .tup xs => .tuple (D.pys xs)
  | .lst xs => .list (D.pys xs)
  | _ => .none
def D.pys : List D → List PyData
  | [] => []
  | x :: xs => D.py x :: D.pys xs
end
section
variable {g : SG} {F : Hp}
mutual
theorem RD.dp : ∀ {d : D} {v : V}, RD g F d v → D.plain d = true → Dp g.K F v d.py
  | _, _, .non, _ => .non
  | _, _, .bl b, _ => .bl b
  | _, _, .int i, _ => .int i
  | _, _, .str s, _ => .str _
  | _, _, .tup h _ r, p => .tup h (RDs.dp r p)
  | _, _, .lst h _ r, p => .lst (SqL.of h) (RDs.dp r p)
  | _, _, .dk _ _ _, p => by simp [D.plain] at p
  | _, _, .obj _ _ _, p => by simp [D.plain] at p
  | _, _, .scr _ _, p => by simp [D.plain] at p
theorem RDs.dp : ∀ {d : List D} {v : List V}, RDs g F d v → D.plains d = true → DpAll g.K F v (D.pys d)
  | _, _, .nil, _ => .nil
  | _, _, .cons h r, p => by
    simp only [D.plains, Bool.and_eq_true] at p
    exact .cons (RD.dp h p.1) (RDs.dp r p.2)
end
end
mutual
theorem D.py_lay : ∀ d : D, D.plain d = true → (D.py d).canLay0 = true
  | .non, _ => rfl
  | .bl _, _ => rfl
  | .int _, _ => rfl
  | .str s, h => by
    simp only [D.py, PyData.canLay0]
    have h' : (s.all fun c => decide (c < 0x110000)) = true := by simpa [D.plain] using h
    show (Array.all (⟨s⟩ : Array Nat) fun c => decide (c < 0x110000)) = true
    simpa using h'
  | .tup xs, h => by
    simp only [D.py, PyData.canLay0]
    exact D.pys_lay xs (by simpa [D.plain] using h)
  | .lst xs, h => by
    simp only [D.py, PyData.canLay0]
    exact D.pys_lay xs (by simpa [D.plain] using h)
  | .dk _ _, h => by simp [D.plain] at h
  | .obj _ _ _, h => by simp [D.plain] at h
  | .scr _, h => by simp [D.plain] at h
theorem D.pys_lay : ∀ ds : List D, D.plains ds = true → PyData.canLayAll0 (D.pys ds) = true
  | [], _ => rfl
  | x :: xs, h => by
    simp only [D.plains, Bool.and_eq_true] at h
    simp only [D.pys, PyData.canLayAll0, Bool.and_eq_true]
    exact ⟨D.py_lay x h.1, D.pys_lay xs h.2⟩
end
mutual
theorem D.py_depth : ∀ d : D, (D.py d).depth = D.depth d
  | .non => by simp [D.py, PyData.depth, D.depth]
  | .bl _ => by simp [D.py, PyData.depth, D.depth]
  | .int _ => by simp [D.py, PyData.depth, D.depth]
  | .str s => by simp [D.py, PyData.depth, D.depth]
  | .tup xs => by
    simp only [D.py, PyData.depth, D.depth]
    rw [D.pys_depth xs]
  | .lst xs => by
    simp only [D.py, PyData.depth, D.depth]
    rw [D.pys_depth xs]
  | .dk _ _ => by simp [D.py, PyData.depth, D.depth]
  | .obj _ _ _ => by simp [D.py, PyData.depth, D.depth]
  | .scr _ => by simp [D.py, PyData.depth, D.depth]
theorem D.pys_depth : ∀ ds : List D, PyData.depthAll (D.pys ds) = D.depths ds
  | [] => by simp [D.pys, PyData.depthAll, D.depths]
  | x :: xs => by
    simp only [D.pys, PyData.depthAll, D.depths]
    rw [D.py_depth x, D.pys_depth xs]
end
theorem str_beq (x y : List Nat) : ((⟨x.toArray⟩ : Str) == ⟨y.toArray⟩) = (x == y) := by
  by_cases h : x = y
  · subst h; simp
  · have h2 : ¬ (⟨x.toArray⟩ : Str) = ⟨y.toArray⟩ := fun e => h (by
      have := congrArg (fun s : Str => s.cps.toList) e
      simpa using this)
    rw [beq_eq_false_iff_ne.mpr h, beq_eq_false_iff_ne.mpr h2]
mutual
theorem D.py_eqv : ∀ d e : D, D.plain d = true → D.plain e = true → PyData.eqv (D.py d) (D.py e) = D.eqv d e
  | .non, e, _, h => by cases e <;> first | rfl | simp [D.plain] at h | simp [D.py, PyData.eqv, D.eqv]
  | .bl _, e, _, h => by cases e <;> first | rfl | simp [D.plain] at h | simp [D.py, PyData.eqv, D.eqv]
  | .int _, e, _, h => by cases e <;> first | rfl | simp [D.plain] at h | simp [D.py, PyData.eqv, D.eqv]
  | .str s, e, _, h => by
    cases e <;> first | rfl | (simp only [D.py, PyData.eqv, D.eqv]; exact str_beq _ _) | simp [D.plain] at h | simp [D.py, PyData.eqv, D.eqv]
  | .tup xs, e, h1, h2 => by
    cases e with
    | tup ys =>
      simp only [D.py, PyData.eqv, D.eqv]
      exact D.pys_eqv xs ys (by simpa [D.plain] using h1) (by simpa [D.plain] using h2)
    | _ => first | simp [D.plain] at h2; done | simp [D.py, PyData.eqv, D.eqv]
  | .lst xs, e, h1, h2 => by
    cases e with
    | lst ys =>
      simp only [D.py, PyData.eqv, D.eqv]
      exact D.pys_eqv xs ys (by simpa [D.plain] using h1) (by simpa [D.plain] using h2)
    | _ => first | simp [D.plain] at h2; done | simp [D.py, PyData.eqv, D.eqv]
  | .dk _ _, _, h, _ => by simp [D.plain] at h
  | .obj _ _ _, _, h, _ => by simp [D.plain] at h
  | .scr _, _, h, _ => by simp [D.plain] at h
theorem D.pys_eqv : ∀ d e : List D, D.plains d = true → D.plains e = true → PyData.eqvAll (D.pys d) (D.pys e) = D.eqvs d e
  | [], [], _, _ => by simp [D.pys, PyData.eqvAll, D.eqvs]
  | [], _ :: _, _, _ => by simp [D.pys, PyData.eqvAll, D.eqvs]
  | _ :: _, [], _, _ => by simp [D.pys, PyData.eqvAll, D.eqvs]
  | x :: xs, y :: ys, h1, h2 => by
    simp only [D.plains, Bool.and_eq_true] at h1 h2
    simp only [D.pys, PyData.eqvAll, D.eqvs]
    rw [D.py_eqv x y h1.1 h2.1, D.pys_eqv xs ys h1.2 h2.2]
end
theorem shaped_of {d : D} (h : D.cmpOk d = true) : SeqAt.shaped d.py = true := by
  unfold D.cmpOk at h
  rw [Bool.and_eq_true] at h
  show ((D.py d).canLay0 && decide ((D.py d).depth ≤ 64)) = true
  rw [D.py_depth, Bool.and_eq_true]
  exact ⟨D.py_lay d h.1, h.2⟩
theorem plain_of {d : D} (h : D.cmpOk d = true) : D.plain d = true := by
  unfold D.cmpOk at h
  rw [Bool.and_eq_true] at h
  exact h.1

/-! ### a tuple by one -/
theorem tuple_mulW1 (l : Addr) (items : Array Value) (n : Nat) (dd : Option Addr) (sl : Array (Option Value)) (u : Tok) (c1 : (items.isEmpty || (1 : Int) == 1) = true) :
    Meets (Builtin.«tuple.__mul__» ⟨[.ref l, .int 1 u], []⟩) (fun _ R s => s.heap.get? l = some { cls := .type "tuple", dict := dd, data := .seq items n, slots := sl } ∧
      R (.ok (.ret (Value.ref l))) { s with heap := s.heap, toks := s.toks }) :=
  .of_wp fun prog w A R s h => by
    obtain ⟨hp, g, d, tk, os⟩ := s
    obtain ⟨hl, h⟩ := h
    have f1 := AutoSeq1.idx_int
    have c0 : (decide ((1 : Int) < -(2 ^ 63)) || decide ((1 : Int) ≥ 2 ^ 63)) = false := by decide
    wp_walk using wpAny_loadPart' hl
    repeat (first
      | (refine wpAny_ite_false (decide_eq_false (by rw [c0]; exact Bool.false_ne_true)) ?_; wp_walk using wpAny_loadPart' hl)
      | (refine wpAny_ite_true (decide_eq_true (by rw [c1])) ?_; wp_walk using wpAny_loadPart' hl))
    exact ⟨_, rfl, h⟩
def rRepT1 (K : PySem.W.Frag) : R2 := fun x y H Q => ∃ l xs, x = .ref l ∧ y = .int 1 ∧ SqT K H l xs ∧ Q (.ref l) H
theorem op_repT1 {X : Cx} : OpR X (binaryOp .Mult) (rRepT1 X.K) := by
  intro pins s σ H x y v u Q I rx ry h
  obtain ⟨l, xs, rfl, rfl, hT, q⟩ := h
  cases rx
  obtain ⟨t, rfl⟩ := ry
  obtain ⟨its, r, ⟨⟨cls, dd, data, sl⟩, ho, hc, n, hd⟩, hs⟩ := I.tuple hT
  simp only at hc hd
  subst hc hd
  have c1 : (its.toArray.isEmpty || (1 : Int) == 1) = true := by simp
  refine wpAny_binaryOp_repeat_ref (T := "tuple") (U := "int") (by decide) ⟨_, ho, rfl⟩ (fun s' => typeIs_int s' 1 t) noFill_tuple_mul F.fills_int_mul F.slot_int_rmul repeat_tuple F.slot_int_index.lookup
    (call_meets F.slot_int_rmul (typeIs_int s 1 t) F.entry_int_rmul (F.args_int_rmul_2 _ _) (int_rmul_tuple 1 t l its.toArray n dd sl)
      ⟨ho, rfl, ⟨_, ho, rfl⟩, call_meets F.slot_tuple_mul ⟨_, ho, rfl⟩ F.entry_tuple_mul (F.args_tuple_mul_2 _ _) (tuple_mulW1 l its.toArray n dd sl t c1) ⟨ho, ?_⟩⟩)
  exact ⟨.ref l, H, I, rfl, q⟩

/-! ### the canonical operations -/
def rB (g : SG) (f : D → D → Option D) : R2 := fun x y H Q => ∃ F d1 d2 d, LeH F H ∧ RD g F d1 x ∧ RD g F d2 y ∧ f d1 d2 = some d ∧ ∀ v H' F', Ext H F H' F' → RD g F' d v → Q v H'
def rU1 (g : SG) (f : D → Option D) : V → Hp → VK → Prop := fun x H Q => ∃ F d1 d, LeH F H ∧ RD g F d1 x ∧ f d1 = some d ∧ ∀ v H' F', Ext H F H' F' → RD g F' d v → Q v H'
section
variable {g : SG} {X : Cx}
theorem six_eq (n d : Nat) (o : Option Int) : sIx n d o = HT.sIx n d o := by
  cases o with
  | none => rfl
  | some v => unfold sIx HT.sIx; rfl
theorem cutD_map {F : Hp} {xs : List D} {vs : List V} (r : RDs g F xs vs) (lo hi : Option Int) : RDs g F (cutD xs lo hi) (cutV vs lo hi) := by
  unfold cutD cutV
  rw [six_eq, six_eq, r.length]
  exact (r.drop _).take _
theorem ix_eq (n : Nat) (i : Int) : ixD n i = ixN n i := rfl
theorem at_of {F : Hp} {xs : List D} {vs : List V} {i : Int} {d : D} (r : RDs g F xs vs) (h : ((ixD xs.length i).bind fun j => xs[j]?) = some d) : ∃ v, atI vs i = some v ∧ RD g F d v := by
  obtain ⟨j, h1, h2⟩ := Option.bind_eq_some_iff.mp h
  obtain ⟨v, h3, h4⟩ := r.get h2
  refine ⟨v, ?_, h4⟩
  unfold atI
  rw [← r.length, ← ix_eq, h1]
  exact h3
theorem line_eq : (sizeLine : Nat) = 16777216 := sizeLine_eq

theorem OpR.imp {f : Value → Value → Sem Value} {r r' : R2} (h : OpR X f r) (k : ∀ x y H Q, r' x y H Q → r x y H Q) : OpR X f r' := fun pins s σ H x y v u Q I rx ry q => h pins s σ H x y v u Q I rx ry (k _ _ _ _ q)

theorem o_add (hK : X.K = g.K) : OpR X (binaryOp .Add) (rB g (dBin .add)) := by
  intro pins s σ H x y v u Q I rx ry h
  obtain ⟨F, d1, d2, d, le, r1, r2, e, q⟩ := h
  unfold dBin at e
  split at e <;> first | (cases ‹BOp.add = _›; done) | skip
  · cases e; cases r1; cases r2
    exact op_add pins s σ H _ _ v u Q I rx ry ⟨_, _, rfl, rfl, q _ _ _ (Ext.refl le) (.int _)⟩
  · split at e
    · rename_i xs ys _ hz
      cases e
      cases r1 with
      | tup h1 z1 q1 =>
        cases r2 with
        | tup h2 z2 q2 =>
          rename_i a xs' b ys'
          refine op_catA pins s σ H _ _ v u Q I rx ry ⟨_, _, _, _, rfl, rfl, by rw [hK]; exact SqT.mono h1 le, by rw [hK]; exact SqT.mono h2 le, by rw [← q1.length, ← q2.length, line_eq]; exact hz, fun e1 => ?_, fun e1 e2 => ?_, fun e1 e2 p np => ?_⟩
          · subst e1
            cases q1
            exact q _ _ _ (Ext.refl le) (.tup h2 z2 q2)
          · subst e2
            cases q2
            rw [List.append_nil] at q
            exact q _ _ _ (Ext.refl le) (.tup h1 z1 q1)
          · have x := Ext.laid (o := .tup (xs' ++ ys')) le np
            refine q _ _ _ x (.tup (SqT.of upd_same) (by rw [List.length_append, ← q1.length, ← q2.length, line_eq]; exact hz) ((q1.append q2).mono x.ff))
    · cases e
  · split at e
    · rename_i xs ys _ hz
      cases e
      cases r1 with
      | lst h1 z1 q1 =>
        cases r2 with
        | lst h2 z2 q2 =>
          rename_i a xs' b ys'
          refine op_cat pins s σ H _ _ v u Q I rx ry ⟨_, _, _, _, rfl, rfl, le _ _ h1, le _ _ h2, by rw [← q1.length, ← q2.length, line_eq]; exact hz, fun p np => ?_⟩
          have x := Ext.laid (o := .lst (xs' ++ ys')) le np
          exact q _ _ _ x (.lst upd_same (by rw [List.length_append, ← q1.length, ← q2.length, line_eq]; exact hz) ((q1.append q2).mono x.ff))
    · cases e
  all_goals first | (cases e; done) | skip
theorem o_sub : OpR X (binaryOp .Sub) (rB g (dBin .sub)) := by
  intro pins s σ H x y v u Q I rx ry h
  obtain ⟨F, d1, d2, d, le, r1, r2, e, q⟩ := h
  unfold dBin at e
  split at e <;> first | (cases ‹BOp.sub = _›; done) | skip
  · cases e; cases r1; cases r2
    exact op_sub pins s σ H _ _ v u Q I rx ry ⟨_, _, rfl, rfl, q _ _ _ (Ext.refl le) (.int _)⟩
  all_goals first | (cases e; done) | skip
theorem o_mul (hK : X.K = g.K) : OpR X (binaryOp .Mult) (rB g (dBin .mul)) := by
  intro pins s σ H x y v u Q I rx ry h
  obtain ⟨F, d1, d2, d, le, r1, r2, e, q⟩ := h
  unfold dBin at e
  split at e <;> first | (cases ‹BOp.mul = _›; done) | skip
  · split at e
    · rename_i hz
      cases e; cases r1; cases r2
      refine op_mul pins s σ H _ _ v u Q I rx ry ⟨_, _, rfl, rfl, ?_, q _ _ _ (Ext.refl le) (.int _)⟩
      rw [Bool.or_eq_true] at hz
      simp only [small64, Bool.and_eq_true, decide_eq_true_eq] at hz
      exact hz
    · cases e
  · split at e
    · rename_i xs k _ hz
      cases e
      cases r2
      cases r1 with
      | tup h1 z1 q1 =>
        rename_i a vs
        have hl := q1.length
        by_cases h1k : k = 1
        · subst h1k
          have e1 : (List.replicate (1 : Int).toNat xs).flatten = xs := by simp
          rw [e1] at q
          exact op_repT1 pins s σ H _ _ v u Q I rx ry ⟨_, vs, rfl, rfl, by rw [hK]; exact SqT.mono h1 le, q _ _ _ (Ext.refl le) (.tup h1 z1 q1)⟩
        · refine op_repT pins s σ H _ _ v u Q I rx ry ⟨_, _, _, rfl, rfl, by rw [hK]; exact SqT.mono h1 le, fun z => ?_, by omega, hz.2.2.2, by rw [← hl]; exact hz.2.1, fun p np => ?_⟩
          · subst z
            simp at hl
            have h0 := hz.1
            rw [hl] at h0
            simp at h0
          · have x := Ext.laid (o := .tup (List.replicate k.toNat vs).flatten) le np
            refine q _ _ _ x (.tup (SqT.of upd_same) ?_ ((q1.rep _).mono x.ff))
            rw [PyProof.Rows.lm_len_rep_flat, ← hl, line_eq]
            have a1 : k.toNat * xs.length ≤ 1000 * 1000 := Nat.mul_le_mul (by omega) hz.2.1
            omega
    · cases e
  all_goals first | (cases e; done) | skip
theorem o_fdiv : OpR X (binaryOp .FloorDiv) (rB g (dBin .fdiv)) := by
  intro pins s σ H x y v u Q I rx ry h
  obtain ⟨F, d1, d2, d, le, r1, r2, e, q⟩ := h
  unfold dBin at e
  split at e <;> first | (cases ‹BOp.fdiv = _›; done) | skip
  · split at e
    · rename_i hz
      cases e; cases r1; cases r2
      exact op_fdiv pins s σ H _ _ v u Q I rx ry ⟨_, _, rfl, rfl, hz, q _ _ _ (Ext.refl le) (.int _)⟩
    · cases e
  all_goals first | (cases e; done) | skip
theorem o_mod : OpR X (binaryOp .Mod) (rB g (dBin .mod)) := by
  intro pins s σ H x y v u Q I rx ry h
  obtain ⟨F, d1, d2, d, le, r1, r2, e, q⟩ := h
  unfold dBin at e
  split at e <;> first | (cases ‹BOp.mod = _›; done) | skip
  · split at e
    · rename_i hz
      cases e; cases r1; cases r2
      exact op_mod pins s σ H _ _ v u Q I rx ry ⟨_, _, rfl, rfl, hz, q _ _ _ (Ext.refl le) (.int _)⟩
    · cases e
  all_goals first | (cases e; done) | skip
theorem o_pow : OpR X (binaryOp .Pow) (rB g (dBin .pow)) := by
  intro pins s σ H x y v u Q I rx ry h
  obtain ⟨F, d1, d2, d, le, r1, r2, e, q⟩ := h
  unfold dBin at e
  split at e <;> first | (cases ‹BOp.pow = _›; done) | skip
  · split at e
    · rename_i hz
      cases e; cases r1; cases r2
      refine op_pow pins s σ H _ _ v u Q I rx ry ⟨_, _, rfl, rfl, ⟨hz.1, by omega, ?_⟩, q _ _ _ (Ext.refl le) (.int _)⟩
      have hs := hz.2.2
      simp only [small64, Bool.and_eq_true, decide_eq_true_eq] at hs
      omega
    · cases e
  all_goals first | (cases e; done) | skip
end
end JH

/-! JB3: comparisons, indices, slices, built-in functions on data. -/
namespace JH
open PySem PySem.Spec PyProof.Rows L2
section
variable {g : SG} {X : Cx}
def rC (g : SG) (f : D → D → Option Bool) : R2 := fun x y H Q => ∃ F d1 d2 b, LeH F H ∧ RD g F d1 x ∧ RD g F d2 y ∧ f d1 d2 = some b ∧ Q (.bl b) H
theorem scal_of {F : Hp} {d e : D} {x y : V} (r1 : RD g F d x) (r2 : RD g F e y) (h : D.scal d e = true) : scal x y = true ∧ decide (x = y) = D.eqv d e := by
  cases r1 <;> cases r2 <;> first
    | (simp [D.scal] at h; done)
    | (refine ⟨rfl, ?_⟩; simp only [D.eqv]; first | rfl | (exact dec_int) | (exact dec_bl) | (rw [dec_str]; exact str_beq _ _) | simp)
theorem dEq_of {d e : D} {b : Bool} (h : dEq d e = some b) : (D.scal d e = true ∨ (D.cmpOk d = true ∧ D.cmpOk e = true)) ∧ b = D.eqv d e := by
  unfold dEq at h
  split at h
  · rename_i hc
    rw [Bool.or_eq_true, Bool.and_eq_true] at hc
    cases h
    exact ⟨hc, rfl⟩
  · cases h
theorem o_eq (hK : X.K = g.K) (hu : X.A.units + 64 < cLine) : OpR X (compareOp .Eq) (rC g dEq) := by
  intro pins s σ H x y v u Q I rx ry h
  obtain ⟨F, d1, d2, b, le, r1, r2, e, q⟩ := h
  obtain ⟨hc, rfl⟩ := dEq_of e
  rcases hc with hc | ⟨h1, h2⟩
  · obtain ⟨hs, hd⟩ := scal_of r1 r2 hc
    exact op_eq pins s σ H _ _ v u Q I rx ry ⟨hs, by rw [hd]; exact q⟩
  · refine op_eqD hu pins s σ H _ _ v u Q I rx ry ⟨d1.py, d2.py, ?_, ?_, shaped_of h1, shaped_of h2, by rw [D.py_eqv _ _ (plain_of h1) (plain_of h2)]; exact q⟩
    · rw [hK]; exact RD.dp (r1.mono le) (plain_of h1)
    · rw [hK]; exact RD.dp (r2.mono le) (plain_of h2)
theorem o_ne (hK : X.K = g.K) (hu : X.A.units + 64 < cLine) : OpR X (compareOp .NotEq) (rC g fun x y => (dEq x y).map not) := by
  intro pins s σ H x y v u Q I rx ry h
  obtain ⟨F, d1, d2, b, le, r1, r2, e, q⟩ := h
  obtain ⟨b', e', rfl⟩ := Option.map_eq_some_iff.mp e
  obtain ⟨hc, rfl⟩ := dEq_of e'
  rcases hc with hc | ⟨h1, h2⟩
  · obtain ⟨hs, hd⟩ := scal_of r1 r2 hc
    exact op_ne pins s σ H _ _ v u Q I rx ry ⟨hs, by rw [hd]; exact q⟩
  · refine op_neD hu pins s σ H _ _ v u Q I rx ry ⟨d1.py, d2.py, ?_, ?_, shaped_of h1, shaped_of h2, by rw [D.py_eqv _ _ (plain_of h1) (plain_of h2)]; exact q⟩
    · rw [hK]; exact RD.dp (r1.mono le) (plain_of h1)
    · rw [hK]; exact RD.dp (r2.mono le) (plain_of h2)
theorem flat_of {F : Hp} {d : D} {x : V} (r : RD g F d x) (h : D.flat d = true) : flatV x = true := by
  cases r <;> first | rfl | (simp [D.flat] at h)
theorem flats_of {F : Hp} : ∀ {ds : List D} {vs : List V}, RDs g F ds vs → ds.all D.flat = true → vs.all flatV = true
  | _, _, .nil, _ => rfl
  | _, _, .cons r t, h => by
    simp only [List.all_cons, Bool.and_eq_true] at h ⊢
    exact ⟨flat_of r h.1, flats_of t h.2⟩
theorem eqv_of {F : Hp} {d e : D} {x y : V} (r1 : RD g F d x) (r2 : RD g F e y) (h : D.flat d = true) (h2 : D.flat e = true) : eqV x y = D.eqv d e := by
  cases r1 <;> cases r2 <;> first
    | (simp [D.flat] at h; done)
    | (simp [D.flat] at h2; done)
    | (simp only [D.eqv, eqV]; first | rfl | exact str_beq _ _)
    | rfl
theorem inv_of {F : Hp} {e : D} {y : V} (r : RD g F e y) (h : D.flat e = true) : ∀ {ds : List D} {vs : List V}, RDs g F ds vs → ds.all D.flat = true → inV y vs = ds.any fun z => D.eqv z e
  | _, _, .nil, _ => rfl
  | _, _, .cons q t, hd => by
    simp only [List.all_cons, Bool.and_eq_true] at hd
    have ih := inv_of r h t hd.2
    simp only [inV, List.any_cons] at ih ⊢
    rw [ih, eqv_of q r hd.1 h]
theorem items_of {F : Hp} {d : D} {v : V} {ds : List D} (r : RD g F d v) (h : D.items d = some ds) : ∃ p vs, v = .ref p ∧ (SqL g.K F p vs ∨ SqT g.K F p vs) ∧ RDs g F ds vs ∧ vs.length ≤ sizeLine := by
  cases r with
  | tup h1 z q => cases h; exact ⟨_, _, rfl, .inr h1, q, z⟩
  | lst h1 z q => cases h; exact ⟨_, _, rfl, .inl (SqL.of h1), q, z⟩
  | scr h1 z => cases h; exact ⟨_, _, rfl, .inl h1, RDs.ofInts _, by simpa using z⟩
  | _ => cases h
theorem o_in (hK : X.K = g.K) : OpR X (compareOp .In) (rC g fun x y => (D.items y).bind (dIn x)) := by
  intro pins s σ H x y v u Q I rx ry h
  obtain ⟨F, d1, d2, b, le, r1, r2, e, q⟩ := h
  obtain ⟨ds, e1, e2⟩ := Option.bind_eq_some_iff.mp e
  obtain ⟨p, vs, rfl, hs, rs, _⟩ := items_of r2 e1
  unfold dIn at e2
  split at e2
  · rename_i hc
    cases e2
    rw [Bool.and_eq_true] at hc
    refine op_in_seq pins s σ H _ _ v u Q I rx ry ⟨p, vs, rfl, ?_, flat_of r1 hc.1, flats_of rs hc.2, ?_⟩
    · rw [hK]; exact hs.imp (fun h => SqL.mono h le) fun h => SqT.mono h le
    · rw [if_neg Bool.false_ne_true, inv_of r1 hc.1 rs hc.2]; exact q
  · cases e2
theorem o_notin (hK : X.K = g.K) : OpR X (compareOp .NotIn) (rC g fun x y => ((D.items y).bind (dIn x)).map not) := by
  intro pins s σ H x y v u Q I rx ry h
  obtain ⟨F, d1, d2, b, le, r1, r2, e, q⟩ := h
  obtain ⟨b', e', rfl⟩ := Option.map_eq_some_iff.mp e
  obtain ⟨ds, e1, e2⟩ := Option.bind_eq_some_iff.mp e'
  obtain ⟨p, vs, rfl, hs, rs, _⟩ := items_of r2 e1
  unfold dIn at e2
  split at e2
  · rename_i hc
    cases e2
    rw [Bool.and_eq_true] at hc
    refine op_notIn_seq pins s σ H _ _ v u Q I rx ry ⟨p, vs, rfl, ?_, flat_of r1 hc.1, flats_of rs hc.2, ?_⟩
    · rw [hK]; exact hs.imp (fun h => SqL.mono h le) fun h => SqT.mono h le
    · rw [if_pos rfl, inv_of r1 hc.1 rs hc.2]; exact q
  · cases e2
/-- comparisons of ints -/
theorem o_int {op : CmpOp} {c : COp} {p : Int → Int → Bool} (ho : OpR X (compareOp op) (rI0 fun i j => .bl (p i j))) (hc : ∀ d1 d2 b, dCmp c d1 d2 = some b → ∃ i j, d1 = .int i ∧ d2 = .int j ∧ b = p i j) : OpR X (compareOp op) (rC g (dCmp c)) := fun pins s σ H x y v u Q I rx ry h => by
  obtain ⟨F, d1, d2, b, le, r1, r2, e, q⟩ := h
  obtain ⟨i, j, rfl, rfl, rfl⟩ := hc _ _ _ e
  cases r1; cases r2
  exact ho pins s σ H _ _ v u Q I rx ry ⟨_, _, rfl, rfl, q⟩
def COp.py : COp → CmpOp
  | .eq => .Eq | .ne => .NotEq | .lt => .Lt | .le => .LtE | .gt => .Gt | .ge => .GtE | .isin => .In | .notin => .NotIn
theorem o_cmp (hK : X.K = g.K) (hu : X.A.units + 64 < cLine) : ∀ op : COp, OpR X (compareOp op.py) (rC g (dCmp op))
  | .eq => o_eq hK hu
  | .ne => o_ne hK hu
  | .isin => o_in hK
  | .notin => o_notin hK
  | .lt => o_int op_lt fun d1 d2 b e => by
    cases d1 <;> cases d2 <;> first | (simp [dCmp] at e; done) | exact ⟨_, _, rfl, rfl, (Option.some.inj e).symm⟩
  | .le => o_int op_le fun d1 d2 b e => by
    cases d1 <;> cases d2 <;> first | (simp [dCmp] at e; done) | exact ⟨_, _, rfl, rfl, (Option.some.inj e).symm⟩
  | .gt => o_int op_gt fun d1 d2 b e => by
    cases d1 <;> cases d2 <;> first | (simp [dCmp] at e; done) | exact ⟨_, _, rfl, rfl, (Option.some.inj e).symm⟩
  | .ge => o_int op_ge fun d1 d2 b e => by
    cases d1 <;> cases d2 <;> first | (simp [dCmp] at e; done) | exact ⟨_, _, rfl, rfl, (Option.some.inj e).symm⟩
def BOp.py : BOp → Operator
  | .add => .Add | .sub => .Sub | .mul => .Mult | .fdiv => .FloorDiv | .mod => .Mod | .pow => .Pow
theorem o_bin (hK : X.K = g.K) : ∀ op : BOp, OpR X (binaryOp op.py) (rB g (dBin op))
  | .add => o_add hK
  | .sub => o_sub
  | .mul => o_mul hK
  | .fdiv => o_fdiv
  | .mod => o_mod
  | .pow => o_pow
/-- an item, by values -/
theorem o_idx (hK : X.K = g.K) : IxR X (rB g dIdx) := by
  intro value slice pins s σ H x y v u Q I rx ry h hsub
  obtain ⟨F, d1, d2, d, le, r1, r2, e, q⟩ := h
  unfold dIdx at e
  split at e
  · cases r2
    cases r1 with
    | tup h1 z1 q1 =>
      obtain ⟨w, e2, rw'⟩ := at_of q1 e
      refine ix_tup value slice pins s σ H _ _ v u Q I rx ry ⟨_, _, _, w, rfl, rfl, by rw [hK]; exact SqT.mono h1 le, e2, q _ _ _ (Ext.refl le) rw'⟩ hsub
  · cases r2
    cases r1 with
    | lst h1 z1 q1 =>
      obtain ⟨w, e2, rw'⟩ := at_of q1 e
      refine ix_list value slice pins s σ H _ _ v u Q I rx ry ⟨_, _, _, w, rfl, rfl, SqL.mono (SqL.of h1) le, e2, q _ _ _ (Ext.refl le) rw'⟩ hsub
  · cases r2
    cases r1 with
    | scr h1 z1 =>
      rename_i ns i a
      have e' : ((ixD (ns.map D.int).length i).bind fun j => (ns.map D.int)[j]?) = some d := by
        rw [List.length_map]
        obtain ⟨j, e1, e2⟩ := Option.bind_eq_some_iff.mp e
        rw [e1]
        simpa using e2
      obtain ⟨w, e2, rw'⟩ := at_of (RDs.ofInts (g := g) (F := F) ns) e'
      refine ix_list value slice pins s σ H _ _ v u Q I rx ry ⟨_, _, _, w, rfl, rfl, by rw [hK]; exact SqL.mono h1 le, e2, q _ _ _ (Ext.refl le) rw'⟩ hsub
  · cases e
/-- a slice -/
def rSl (g : SG) : V → Option Int → Option Int → Hp → VK → Prop := fun x lo hi H Q => ∃ F d1 d, LeH F H ∧ RD g F d1 x ∧ dSlc d1 lo hi = some d ∧ ∀ v H' F', Ext H F H' F' → RD g F' d v → Q v H'
theorem cut_whole {xs : List V} {lo hi : Option Int} (h : HT.sIx xs.length 0 lo = 0 ∧ HT.sIx xs.length xs.length hi = xs.length) : cutV xs lo hi = xs := by
  unfold cutV
  rw [h.1, h.2]
  simp
theorem o_slc (hK : X.K = g.K) : SlR X (rSl g) := by
  intro pins s σ H x v vl vu lo hi sl Q I rx hs pl pu h
  obtain ⟨F, d1, d, le, r1, e, q⟩ := h
  unfold dSlc at e
  split at e
  · cases e
    cases r1 with
    | tup h1 z1 q1 =>
      rename_i a vs
      refine sl_tupA pins s σ H _ v vl vu lo hi sl Q I rx hs pl pu ⟨a, vs, rfl, by rw [hK]; exact SqT.mono h1 le, fun hw => ?_, fun hw p np => ?_⟩
      · have k := cutD_map q1 lo hi
        rw [cut_whole hw] at k
        exact q _ _ _ (Ext.refl le) (.tup h1 z1 k)
      · have x := Ext.laid (o := .tup (cutV vs lo hi)) le np
        exact q _ _ _ x (.tup (SqT.of upd_same) (Nat.le_trans (cutV_length _ _ _) z1) ((cutD_map q1 lo hi).mono x.ff))
  · cases e
    cases r1 with
    | lst h1 z1 q1 =>
      rename_i a vs
      refine sl_list pins s σ H _ v vl vu lo hi sl Q I rx hs pl pu ⟨a, vs, rfl, SqL.mono (SqL.of h1) le, fun p np => ?_⟩
      have x := Ext.laid (o := .lst (cutV vs lo hi)) le np
      exact q _ _ _ x (.lst upd_same (Nat.le_trans (cutV_length _ _ _) z1) ((cutD_map q1 lo hi).mono x.ff))
  · cases e
/-- built-in functions of one argument -/
def rF1 (g : SG) (f : D → Option D) : List V → Hp → VK → Prop := fun xs H Q => ∃ x F d1 d, xs = [x] ∧ LeH F H ∧ RD g F d1 x ∧ f d1 = some d ∧ ∀ v H' F', Ext H F H' F' → RD g F' d v → Q v H'
def rF2 (g : SG) (f : D → D → Option D) : List V → Hp → VK → Prop := fun xs H Q => ∃ x y F d1 d2 d, xs = [x, y] ∧ LeH F H ∧ RD g F d1 x ∧ RD g F d2 y ∧ f d1 d2 = some d ∧ ∀ v H' F', Ext H F H' F' → RD g F' d v → Q v H'
theorem f_len (hK : X.K = g.K) : CallR X (.builtin "len") (rF1 g (dB1 .len)) := by
  intro pins s σ H xs us Q I r h
  obtain ⟨x, F, d1, d, rfl, le, r1, e, q⟩ := h
  cases r1 <;> first | (simp [dB1] at e; done) | skip
  · cases e
    rename_i a vs ds h1 z1 q1
    exact call_len_seq pins s σ H _ us Q I r ⟨a, vs, rfl, .inr (by rw [hK]; exact SqT.mono h1 le), by rw [← q1.length]; exact q _ _ _ (Ext.refl le) (.int _)⟩
  · cases e
    rename_i a vs ds h1 z1 q1
    exact call_len_seq pins s σ H _ us Q I r ⟨a, vs, rfl, .inl (SqL.mono (SqL.of h1) le), by rw [← q1.length]; exact q _ _ _ (Ext.refl le) (.int _)⟩
  · cases e
    rename_i a ns h1 z1
    refine call_len_seq pins s σ H _ us Q I r ⟨a, _, rfl, .inl (by rw [hK]; exact SqL.mono h1 le), ?_⟩
    rw [List.length_map]
    exact q _ _ _ (Ext.refl le) (.int _)
theorem f_tuple (hK : X.K = g.K) : CallR X (.type "tuple") (rF1 g (dB1 .tuple)) := by
  intro pins s σ H xs us Q I r h
  obtain ⟨x, F, d1, d, rfl, le, r1, e, q⟩ := h
  cases r1 <;> first | (simp [dB1] at e; done) | skip
  · cases e
    rename_i a vs ds h1 z1 q1
    exact call_tuple_of pins s σ H _ us Q I r ⟨a, vs, rfl, .inr ⟨by rw [hK]; exact SqT.mono h1 le, q _ _ _ (Ext.refl le) (.tup h1 z1 q1)⟩⟩
  · cases e
    rename_i a vs ds h1 z1 q1
    refine call_tuple_of pins s σ H _ us Q I r ⟨a, vs, rfl, .inl ⟨SqL.mono (SqL.of h1) le, fun p np => ?_⟩⟩
    have x := Ext.laid (o := .tup vs) le np
    exact q _ _ _ x (.tup (SqT.of upd_same) z1 (q1.mono x.ff))
theorem f_list (hK : X.K = g.K) : CallR X (.type "list") (rF1 g (dB1 .list)) := by
  intro pins s σ H xs us Q I r h
  obtain ⟨x, F, d1, d, rfl, le, r1, e, q⟩ := h
  cases r1 <;> first | (simp [dB1] at e; done) | skip
  · cases e
    rename_i a vs ds h1 z1 q1
    refine call_list_of pins s σ H _ us Q I r ⟨a, vs, rfl, .inr (by rw [hK]; exact SqT.mono h1 le), fun p np => ?_⟩
    have x := Ext.laid (o := .lst vs) le np
    exact q _ _ _ x (.lst upd_same z1 (q1.mono x.ff))
  · cases e
    rename_i a vs ds h1 z1 q1
    refine call_list_of pins s σ H _ us Q I r ⟨a, vs, rfl, .inl (SqL.mono (SqL.of h1) le), fun p np => ?_⟩
    have x := Ext.laid (o := .lst vs) le np
    exact q _ _ _ x (.lst upd_same z1 (q1.mono x.ff))
theorem f_int : CallR X (.type "int") (rF1 g (dB1 .int)) := by
  intro pins s σ H xs us Q I r h
  obtain ⟨x, F, d1, d, rfl, le, r1, e, q⟩ := h
  cases r1 <;> first | (simp [dB1] at e; done) | skip
  · cases e
    exact call_int1 pins s σ H _ us Q I r (.inr ⟨_, rfl, q _ _ _ (Ext.refl le) (.int _)⟩)
  · cases e
    exact call_int1 pins s σ H _ us Q I r (.inl ⟨_, rfl, q _ _ _ (Ext.refl le) (.int _)⟩)
theorem f_abs : CallR X (.builtin "abs") (rF1 g (dB1 .abs)) := by
  intro pins s σ H xs us Q I r h
  obtain ⟨x, F, d1, d, rfl, le, r1, e, q⟩ := h
  cases r1 <;> first | (simp [dB1] at e; done) | skip
  cases e
  exact call_abs pins s σ H _ us Q I r ⟨_, rfl, q _ _ _ (Ext.refl le) (.int _)⟩
theorem f_sum (hc : X.calm = true) : CallR X (.builtin "sum") (rF1 g (dB1 .sum)) := by
  intro pins s σ H xs us Q I r h
  obtain ⟨x, F, d1, d, rfl, le, r1, e, q⟩ := h
  cases r1 <;> first | (simp [dB1] at e; done) | skip
  rename_i a vs ds h1 z1 q1
  obtain ⟨ns, e1, rfl⟩ := Option.map_eq_some_iff.mp e
  have ev := q1.ints e1
  subst ev
  exact cr_sum hc pins s σ H _ us Q I r ⟨a, ns, rfl, SqL.mono (SqL.of h1) le, q _ _ _ (Ext.refl le) (.int _)⟩
theorem f_all (hc : X.calm = true) : CallR X (.builtin "all") (rF1 g (dB1 .all)) := by
  intro pins s σ H xs us Q I r h
  obtain ⟨x, F, d1, d, rfl, le, r1, e, q⟩ := h
  cases r1 <;> first | (simp [dB1] at e; done) | skip
  rename_i a vs ds h1 z1 q1
  obtain ⟨ns, e1, rfl⟩ := Option.map_eq_some_iff.mp e
  have ev := q1.bls e1
  subst ev
  exact cr_all hc pins s σ H _ us Q I r ⟨a, ns, rfl, SqL.mono (SqL.of h1) le, q _ _ _ (Ext.refl le) (.bl _)⟩
theorem f_any (hc : X.calm = true) : CallR X (.builtin "any") (rF1 g (dB1 .any)) := by
  intro pins s σ H xs us Q I r h
  obtain ⟨x, F, d1, d, rfl, le, r1, e, q⟩ := h
  cases r1 <;> first | (simp [dB1] at e; done) | skip
  rename_i a vs ds h1 z1 q1
  obtain ⟨ns, e1, rfl⟩ := Option.map_eq_some_iff.mp e
  have ev := q1.bls e1
  subst ev
  exact cr_any hc pins s σ H _ us Q I r ⟨a, ns, rfl, SqL.mono (SqL.of h1) le, q _ _ _ (Ext.refl le) (.bl _)⟩
theorem ins_perm (x : Int) : ∀ xs : List Int, (isort.ins x xs).Perm (x :: xs)
  | [] => List.Perm.refl _
  | y :: ys => by
    unfold isort.ins
    split
    · exact List.Perm.refl _
    · exact ((ins_perm x ys).cons y).trans (List.Perm.swap x y ys)
theorem isort_perm : ∀ xs : List Int, (isort xs).Perm xs
  | [] => List.Perm.refl _
  | x :: xs => (ins_perm x (isort xs)).trans ((isort_perm xs).cons x)
theorem ins_sorted (x : Int) : ∀ xs : List Int, xs.Pairwise (· ≤ ·) → (isort.ins x xs).Pairwise (· ≤ ·)
  | [], _ => by simp [isort.ins]
  | y :: ys, h => by
    have hc := List.pairwise_cons.mp h
    unfold isort.ins
    split
    · rename_i hx
      refine List.pairwise_cons.mpr ⟨fun z hz => ?_, h⟩
      rcases List.mem_cons.mp hz with e | hz
      · subst e; exact hx
      · have := hc.1 z hz; omega
    · refine List.pairwise_cons.mpr ⟨fun z hz => ?_, ins_sorted x ys hc.2⟩
      rcases List.mem_cons.mp ((ins_perm x ys).mem_iff.mp hz) with e | hz
      · subst e; omega
      · exact hc.1 z hz
theorem isort_sorted : ∀ xs : List Int, (isort xs).Pairwise (· ≤ ·)
  | [] => List.Pairwise.nil
  | x :: xs => ins_sorted x _ (isort_sorted xs)
theorem sorted_unique : ∀ {xs ys : List Int}, xs.Perm ys → xs.Pairwise (· ≤ ·) → ys.Pairwise (· ≤ ·) → xs = ys := by
  intro xs
  induction xs with
  | nil => intro ys p _ _; exact p.symm.eq_nil.symm
  | cons x xs ih =>
    intro ys p h1 h2
    cases ys with
    | nil => exact absurd p.eq_nil (by simp)
    | cons y ys =>
      have c1 := List.pairwise_cons.mp h1
      have c2 := List.pairwise_cons.mp h2
      have e : x = y := by
        rcases List.mem_cons.mp (p.mem_iff.mp List.mem_cons_self) with e | hx
        · exact e
        · rcases List.mem_cons.mp (p.mem_iff.mpr (List.mem_cons_self (a := y) (l := ys))) with e | hy
          · exact e.symm
          · have := c1.1 y hy
            have := c2.1 x hx
            omega
      subst e
      rw [ih ((List.perm_cons x).mp p) c1.2 c2.2]
theorem f_sorted : CallR X (.builtin "sorted") (rF1 g (dB1 .sorted)) := by
  intro pins s σ H xs us Q I r h
  obtain ⟨x, F, d1, d, rfl, le, r1, e, q⟩ := h
  cases r1 <;> first | (simp [dB1] at e; done) | skip
  rename_i a vs ds h1 z1 q1
  obtain ⟨ns, e1, rfl⟩ := Option.map_eq_some_iff.mp e
  have ev := q1.ints e1
  subst ev
  refine cr_sortedI pins s σ H _ us Q I r ⟨a, ns, rfl, SqL.mono (SqL.of h1) le, fun ns' p hp hs np => ?_⟩
  have en : ns' = isort ns := sorted_unique (hp.trans (isort_perm ns).symm) hs (isort_sorted ns)
  subst en
  have x := Ext.laid (o := .lst ((isort ns).map V.int)) le np
  exact q _ _ _ x (.lst upd_same (by rw [List.length_map, (isort_perm ns).length_eq]; simpa using z1) (RDs.ofInts _))
theorem f_max2 (hc : X.calm = true) : CallR X (.builtin "max") (rF2 g (dB2 .max)) := by
  intro pins s σ H xs us Q I r h
  obtain ⟨x, y, F, d1, d2, d, rfl, le, r1, r2, e, q⟩ := h
  cases r1 <;> cases r2 <;> first | (simp [dB2] at e; done) | skip
  cases e
  exact call_max2 hc pins s σ H _ us Q I r ⟨_, _, rfl, q _ _ _ (Ext.refl le) (.int _)⟩
theorem f_min2 (hc : X.calm = true) : CallR X (.builtin "min") (rF2 g (dB2 .min)) := by
  intro pins s σ H xs us Q I r h
  obtain ⟨x, y, F, d1, d2, d, rfl, le, r1, r2, e, q⟩ := h
  cases r1 <;> cases r2 <;> first | (simp [dB2] at e; done) | skip
  cases e
  exact call_min2 hc pins s σ H _ us Q I r ⟨_, _, rfl, q _ _ _ (Ext.refl le) (.int _)⟩
/-! ### isinstance -/
def Ty.py : Ty → String
  | .tuple => "tuple" | .list => "list" | .int => "int" | .bool => "bool" | .str => "str" | .dict => "dict"
def D.tyName : D → String
  | .non => "NoneType" | .bl _ => "bool" | .int _ => "int" | .str _ => "str" | .tup _ => "tuple" | .lst _ => "list" | .scr _ => "list" | .dk _ _ => "dict" | .obj _ _ _ => ""
theorem tyx_of {F H : Hp} {d : D} {v : V} (r : RD g F d v) (le : LeH F H) (h : d.tyOk = true) : TyX g.K H v (.type d.tyName) := by
  cases r with
  | non => exact .base .non
  | bl b => exact .base (.bl b)
  | int i => exact .base (.int i)
  | str s => exact .base (.str _)
  | tup h1 _ _ =>
    rcases SqT.mono h1 le with (h1 | ⟨o, h1⟩) | ⟨o, its, n, h1, h2, _⟩
    · exact .base (.tup h1)
    · exact .fTuple h1
    · exact .kTuple h1 h2
  | lst h1 _ _ => exact .base (.lst (le _ _ h1))
  | scr h1 _ =>
    rcases SqL.mono h1 le with (h1 | ⟨o, h1⟩) | ⟨o, its, n, h1, h2, _⟩
    · exact .base (.lst h1)
    · exact .base (.frz h1)
    · exact .kList h1 h2
  | dk _ _ _ => simp [D.tyOk] at h
  | obj _ _ _ => simp [D.tyOk] at h
theorem kit_of_d (d : D) (t : Ty) (h : d.tyOk = true) : kitB d.tyName t.py = some (d.isTy t) := by
  cases d <;> cases t <;> first | (simp [D.tyOk] at h; done) | (simp only [D.tyName, Ty.py, D.isTy]; decide +kernel)
theorem f_isi (hK : X.K = g.K) (t : Ty) : CallR X (.builtin "isinstance") (fun xs H Q => ∃ x F d, xs = [x, .ty t.py] ∧ LeH F H ∧ RD g F d x ∧ d.tyOk = true ∧ Q (.bl (d.isTy t)) H) := by
  intro pins s σ H xs us Q I r h
  obtain ⟨x, F, d, rfl, le, r1, ok, q⟩ := h
  exact call_isi pins s σ H _ us Q I r ⟨x, _, _, _, _, rfl, .ty _, by rw [hK]; exact tyx_of r1 le ok, kit_ty (kit_of_d d t ok), q⟩
theorem f_isi2 (hK : X.K = g.K) (t t' : Ty) : CallR X (.builtin "isinstance") (fun xs H Q => ∃ x F d tp, xs = [x, .ref tp] ∧ LeH F H ∧ RD g F d x ∧ d.tyOk = true ∧ H tp = some (.tup [.ty t.py, .ty t'.py]) ∧ Q (.bl (d.isTy t || d.isTy t')) H) := by
  intro pins s σ H xs us Q I r h
  obtain ⟨x, F, d, tp, rfl, le, r1, ok, ht, q⟩ := h
  refine call_isiT pins s σ H _ us Q I r ⟨x, tp, _, _, _, d.isTy t || d.isTy t', rfl, ht, .cons (.ty _) (.cons (.ty _) .nil), by rw [hK]; exact tyx_of r1 le ok, ?_, q⟩
  refine kitAny_cons (kit_ty (kit_of_d d t ok)) (fun e => ?_) (fun e => by rw [e]; rfl)
  rw [e, Bool.false_or]
  refine kitAny_cons (kit_ty (kit_of_d d t' ok)) (fun e => ?_) (fun e => e)
  rw [e]
  exact kitAny_nil
end
end JH

/-! JB4: each kind of expression: the evaluator's transformer is the model's. -/
namespace L2
open PySem PySem.Spec PyProof.Rows
theorem PE.imp {X : Cx} {e : Expr} {t t' : TE} (h : PE X e t) (k : ∀ σ H Q, t' σ H Q → t σ H Q) : PE X e t' := ⟨fun pins s σ H Q I q => h.run pins s σ H Q I (k _ _ _ q)⟩
theorem PT.imp {X : Cx} {e : Expr} {t t' : TT} (h : PT X e t) (k : ∀ σ H Q, t' σ H Q → t σ H Q) : PT X e t' := ⟨fun pins s σ H Q I q => h.run pins s σ H Q I (k _ _ _ q)⟩
theorem PW.imp {X : Cx} {e : Expr} {t t' : TT} (h : PW X e t) (k : ∀ σ H Q, t' σ H Q → t σ H Q) : PW X e t' := ⟨fun w pins s σ H Q I q => h.run w pins s σ H Q I (k _ _ _ q)⟩
theorem PA.imp {X : Cx} {e : List Expr} {t t' : TA} (h : PA X e t) (k : ∀ σ H Q, t' σ H Q → t σ H Q) : PA X e t' := ⟨fun p pins s σ H Q I q => h.run p pins s σ H Q I (k _ _ _ q)⟩
theorem PO.imp {X : Cx} {e : Option Expr} {t t' : TO} (h : PO X e t) (k : ∀ σ H Q, t' σ H Q → t σ H Q) : PO X e t' := ⟨fun pins s σ H Q I q => h.run pins s σ H Q I (k _ _ _ q)⟩
theorem PS.imp {X : Cx} {e : Stmt} {t t' : TS} (h : PS X e t) (k : ∀ D σ H, t' D σ H → t D σ H) : PS X e t' := ⟨fun pins s σ H D I q => h.run pins s σ H D I (k _ _ _ q)⟩
theorem PSs.imp {X : Cx} {e : List Stmt} {t t' : TS} (h : PSs X e t) (k : ∀ D σ H, t' D σ H → t D σ H) : PSs X e t' := ⟨fun pins s σ H D I q => h.run pins s σ H D I (k _ _ _ q)⟩
theorem PG.imp {X : Cx} {e : Expr} {t t' : TG} (h : PG X e t) (k : ∀ v σ H Q, t' v σ H Q → t v σ H Q) : PG X e t' := ⟨fun pins s σ H v u Q I r q => h.run pins s σ H v u Q I r (k _ _ _ _ q)⟩
theorem PI.imp {X : Cx} {tg e : Expr} {t t' : TI} (h : PI X tg e t) (k : ∀ σ H Q, t' σ H Q → t σ H Q) : PI X tg e t' := ⟨fun pins s σ H Q I q => h.run pins s σ H Q I (k _ _ _ q)⟩

end L2
namespace JH
open PySem PySem.Spec PyProof.Rows L2
/-! ### what the written form must be -/
def nStar : Expr → Bool
  | .Starred .. => false
  | _ => true
theorem starEach_of {e : Expr} (h : nStar e = true) (es : List Expr) (env : PySem.Env) : starEach (e :: es) env = (false, eval e env) :: starEach es env := by
  cases e <;> first | rfl | (simp [nStar] at h)
theorem assignEach_of {e : Expr} (h : nStar e = true) (es : List Expr) (env : PySem.Env) : (assignEach (e :: es) env) = (false, assign e env) :: assignEach es env := by
  cases e <;> first | rfl | (simp [nStar] at h)
theorem noStars (env : PySem.Env) (pos : Pos) : ∀ es : List Expr, es.all nStar = true → (backTo pos (starEach es env)).any (·.1) = false
  | [], _ => rfl
  | e :: es, h => by
    simp only [List.all_cons, Bool.and_eq_true] at h
    rw [starEach_of h.1]
    show (false || (backTo pos (starEach es env)).any (·.1)) = false
    rw [noStars env pos es h.2]
    rfl
theorem noStars' (env : PySem.Env) (pos : Pos) : ∀ es : List Expr, es.all nStar = true → (backTo pos (starEach es env)).all (fun x => !x.1) = true
  | [], _ => rfl
  | e :: es, h => by
    simp only [List.all_cons, Bool.and_eq_true] at h
    rw [starEach_of h.1]
    show (true && (backTo pos (starEach es env)).all (fun x => !x.1)) = true
    rw [noStars' env pos es h.2]
    rfl
def pIx : Expr → Bool
  | .Slice .. => false
  | _ => true
theorem plainIx_of {b : Expr} (h : pIx b = true) : PlainIx b := by
  cases b <;> first | (intro o i; rfl) | (simp [pIx] at h)
def pBase : Expr → Bool
  | .Call .. => false
  | _ => true
theorem base_of {o : Expr} (h : pBase o = true) (name : Str) (env : PySem.Env) (w : Sem Value) : attributeBase o name env w = w := by
  cases o <;> first | rfl | (simp [pBase] at h)
def pTest : Expr → Bool
  | .UnaryOp .Not _ _ => false
  | .BoolOp .. => false
  | .IfExp .. => false
  | .Compare .. => false
  | _ => true
theorem test_of {e : Expr} (h : pTest e = true) (env : PySem.Env) : ∀ whole, isTrue e env whole = (do let v ← whole; standAt e.pos; holding [v] (truthy v)) := by
  cases e <;> first | (intro _; rfl) | (simp [pTest] at h; done) | skip
  rename_i op a pos
  cases op <;> first | (intro _; rfl) | (simp [pTest] at h; done)
def pSwap : Expr → Bool
  | .ListComp .. => false | .SetComp .. => false | .DictComp .. => false
  | _ => true
theorem swap_of {e : Expr} (h : pSwap e = true) (t : Option Expr) (l : Nat) (env : PySem.Env) : swapsWith e t l env = pure false := by
  cases e <;> first | rfl | (simp [pSwap] at h)

section
variable (T : Tab) (G : Nat → Option D) (g : SG) (W : WX) (pu : Bool)
abbrev tE (ie : IE) : TE := tV g W pu (RD g) (evE T G ie)
abbrev tT (ie : IE) : TT := tV g W pu (fun _ => @Eq Bool) (evT T G ie)
abbrev tL (ie : IE) : TA := tV g W pu (RDs g) (evL T G ie)
abbrev tOf (ie : IE) : TO := tV g W pu (fun _ => @Eq (Option Int)) (evO T G ie)
def RA (g : SG) (σ : L2.St) (F : Hp) : AV → V → Prop
  | .d x, v => RD g F x v
  | .m i, v => σ[i]? = some (some v)
inductive RAs (g : SG) (σ : L2.St) (F : Hp) : List AV → List V → Prop
  | nil : RAs g σ F [] []
  | cons {a : AV} {v : V} {as : List AV} {vs : List V} : RA g σ F a v → RAs g σ F as vs → RAs g σ F (a :: as) (v :: vs)
def tAr (ie : IE) : TA := fun σ H Q => tV g W pu (RAs g σ) (evA T G ie) σ H Q
end
theorem evT_of (T : Tab) (G : Nat → Option D) {ie : IE} (h : ie ≠ .nil) (σ : Env) : evT T G ie σ = (evE T G ie σ).bind fun x σ1 => ofO (asB x) σ1 := by
  cases ie <;> first | (exact absurd rfl h) | (simp only [evT])
theorem evO_of (T : Tab) (G : Nat → Option D) {ie : IE} (h : ie ≠ .nil) (σ : Env) : evO T G ie σ = (evE T G ie σ).bind fun x σ1 => ofO ((asI x).map some) σ1 := by
  cases ie <;> first | (exact absurd rfl h) | (simp only [evO])

section
variable {T : Tab} {G : Nat → Option D} {g : SG} {W : WX} {pu : Bool} {X : Cx} {a b c : Expr} {ia ib ic : IE} {pos p2 : Pos}
theorem e_const {e : Expr} {ie : IE} {d : D} {v : V} (h : PE X e (tC v)) (r : ∀ F, RD g F d v) (he : ∀ σ, evE T G ie σ = .ok d σ) : PE X e (tE T G g W pu ie) :=
  h.imp fun σ H Q ⟨σd, F, Os, rel, k⟩ => by
    rw [he] at k
    exact k v H F Os rel (r F) (Gr.refl pu H F _)
theorem e_cN {j} : PE X (.Constant .none j pos) (tE T G g W pu .cN) := e_const pe_non (fun _ => .non) fun σ => by simp only [evE]
theorem e_cB {k j} : PE X (.Constant (.bool k) j pos) (tE T G g W pu (.cB k)) := e_const pe_bl (fun _ => .bl k) fun σ => by simp only [evE]
theorem e_cI {i j} : PE X (.Constant (.int i) j pos) (tE T G g W pu (.cI i)) := e_const pe_int (fun _ => .int i) fun σ => by simp only [evE]
theorem e_cS {s : Str} {cs : List Nat} {j} (h : s.cps.toList = cs) : PE X (.Constant (.str s) j pos) (tE T G g W pu (.cS cs)) := by
  subst h
  refine e_const (d := .str s.cps.toList) pe_str (fun _ => ?_) fun σ => by simp only [evE]
  exact .str _
theorem e_rd {i : Nat} {x : Str} (hN : X.N[i]? = some x) (hv : Vis X.env.scope x) (hd : (x == ("__debug__" : Str)) = false) (hcd : (x == ("__classdict__" : Str)) = false) : PE X (.Name x pos) (tE T G g W pu (.rd i)) :=
  (pe_var hN hv hd hcd).imp fun σ H Q ⟨σd, F, Os, rel, k⟩ => by
    simp only [evE] at k
    split at k
    · rename_i x' e
      obtain ⟨v, h1, h2⟩ := rel.get e
      cases h2 with
      | d r => exact ⟨v, h1, k v H F Os rel r (Gr.refl pu H F _)⟩
    · exact k.elim
open Classical in
/-- a slot's tree is frozen -/
theorem Rel.freeze {H F : Hp} {σd : Env} {σ : L2.St} {Os : Nat → Addr → Prop} (rel : Rel g H F σd σ Os) {i : Nat} {m : M} (h : (σd[i]?).bind id = some m) :
    ∃ v F', σ[i]? = some (some v) ∧ Rel g H F' (σd.set i (some (.d m.toD))) σ (fun j a => j ≠ i ∧ Os j a) ∧ RD g F' m.toD v ∧ Gr false H F (Own Os) H F' (Own fun j a => j ≠ i ∧ Os j a) := by
  obtain ⟨v, h1, h2⟩ := rel.get h
  have ff : LeH F (fun a => if Os i a then H a else F a) := fun a o e => by
    show (if Os i a then H a else F a) = some o
    rw [if_neg]
    · exact e
    · intro z
      rw [rel.nf i a z] at e
      cases e
  have le : LeH (fun a => if Os i a then H a else F a) H := fun a o e => by
    have e : (if Os i a then H a else F a) = some o := e
    split at e
    · exact e
    · exact rel.le a o e
  have rd : RD g (fun a => if Os i a then H a else F a) m.toD v := h2.freeze ff fun a o sa e => by
    show (if Os i a then H a else F a) = some o
    rw [if_pos sa]
    exact e
  refine ⟨v, _, h1, ⟨le, by simpa using rel.len, fun j m' e => ?_, fun j k a z w => rel.dj j k a z.2 w.2, fun j a z => ?_, fun j a z => rel.al j a z.2⟩, rd, ⟨ff, fun a o e _ => e, fun a e => e, fun a ⟨j, z⟩ => .inl ⟨j, z.2⟩, fun a e => ?_⟩⟩
  · by_cases hj : j = i
    · subst hj
      have hlt : j < σd.length := by
        cases q : σd[j]? with
        | none => rw [q] at h; cases h
        | some o => exact (List.getElem?_eq_some_iff.mp q).1
      rw [List.getElem?_set_self hlt] at e
      cases e
      exact ⟨v, h1, .d rd⟩
    · rw [List.getElem?_set_ne (Ne.symm hj)] at e
      obtain ⟨v', e1, q⟩ := rel.sl j m' e
      exact ⟨v', e1, (q.frame ff fun _ _ _ e => e).wide fun a z => ⟨hj, z⟩⟩
  · show (if Os i a then H a else F a) = none
    rw [if_neg]
    · exact rel.nf j a z.2
    · exact fun w => z.1 (rel.dj j i a z.2 w)
  · have e : (if Os i a then H a else F a) ≠ none := e
    split at e
    · rename_i z
      exact .inr (.inl ⟨rfl, i, z⟩)
    · exact .inl e
theorem e_fz {i : Nat} {x : Str} (hN : X.N[i]? = some x) (hv : Vis X.env.scope x) (hd : (x == ("__debug__" : Str)) = false) (hcd : (x == ("__classdict__" : Str)) = false) : PE X (.Name x pos) (tE T G g W false (.fz (.root i))) :=
  (pe_var hN hv hd hcd).imp fun σ H Q ⟨σd, F, Os, rel, k⟩ => by
    simp only [evE, getPl, setPl] at k
    split at k
    · rename_i m e
      obtain ⟨v, F', h1, h2, h3, h4⟩ := rel.freeze e
      exact ⟨v, h1, k v H F' _ h2 h3 h4⟩
    · exact k.elim
theorem e_bin (hK : X.K = g.K) {op : BOp} (ha : PE X a (tE T G g W pu ia)) (hb : PE X b (tE T G g W pu ib)) : PE X (.BinOp a op.py b pos) (tE T G g W pu (.bin op ia ib)) :=
  (pe_op (o_bin hK op) ha hb).imp fun σ H Q ⟨σd, F, Os, rel, k⟩ => by
    simp only [evE] at k
    refine ⟨σd, F, Os, rel, KE.bind k fun x σ1 v H1 F1 Os1 rel1 rx l1 gr1 k1 => ⟨σ1, F1, Os1, rel1, KE.bind k1 fun y σ2 u H2 F2 Os2 rel2 ry l2 gr2 k2 => ?_⟩⟩
    obtain ⟨d, ed, q⟩ := KE.ofO k2
    exact ⟨F2, x, y, d, rel2.le, rx.mono l2, ry, ed, fun w H' F' xt rw => q w H' F' Os2 (rel2.ext xt) rw (xt.gr pu)⟩
theorem e_neg (ha : PE X a (tE T G g W pu ia)) : PE X (.UnaryOp .USub a pos) (tE T G g W pu (.neg ia)) :=
  (pe_un un_neg ha).imp fun σ H Q ⟨σd, F, Os, rel, k⟩ => by
    simp only [evE] at k
    refine ⟨σd, F, Os, rel, KE.bind k fun x σ1 v H1 F1 Os1 rel1 rx l1 gr1 k1 => ?_⟩
    obtain ⟨d, ed, q⟩ := KE.ofO k1
    cases rx <;> first | (simp [asI] at ed; done) | skip
    cases ed
    exact ⟨_, rfl, q _ _ _ _ rel1 (.int _) (Gr.refl pu _ _ _)⟩
theorem e_cmp (hK : X.K = g.K) (hu : X.A.units + 64 < cLine) {op : COp} (ha : PE X a (tE T G g W pu ia)) (hb : PE X b (tE T G g W pu ib)) (hm : behindInMarks op.py b = false) : PE X (.Compare a [op.py] [b] pos) (tE T G g W pu (.cmp op ia ib)) :=
  (pe_cmpR (o_cmp hK hu op) ha hb hm).imp fun σ H Q ⟨σd, F, Os, rel, k⟩ => by
    simp only [evE] at k
    refine ⟨σd, F, Os, rel, KE.bind k fun x σ1 v H1 F1 Os1 rel1 rx l1 gr1 k1 => ⟨σ1, F1, Os1, rel1, KE.bind k1 fun y σ2 u H2 F2 Os2 rel2 ry l2 gr2 k2 => ?_⟩⟩
    obtain ⟨d, ed, q⟩ := KE.ofO k2
    obtain ⟨r, e1, rfl⟩ := Option.map_eq_some_iff.mp ed
    exact ⟨F2, x, y, r, rel2.le, rx.mono l2, ry, e1, q _ _ _ _ rel2 (.bl r) (Gr.refl pu _ _ _)⟩
theorem t_cmp (hK : X.K = g.K) (hu : X.A.units + 64 < cLine) {op : COp} (ha : PE X a (tE T G g W pu ia)) (hb : PE X b (tE T G g W pu ib)) (hm : behindInMarks op.py b = false) : PT X (.Compare a [op.py] [b] pos) (tT T G g W pu (.cmp op ia ib)) :=
  (pt_cmpR (o_cmp hK hu op) ha hb hm).imp fun σ H Q ⟨σd, F, Os, rel, k⟩ => by
    rw [evT_of T G (by simp)] at k
    simp only [evE] at k
    refine ⟨σd, F, Os, rel, KE.bind (KE.bind_assoc k) fun x σ1 v H1 F1 Os1 rel1 rx l1 gr1 k1 => ⟨σ1, F1, Os1, rel1, KE.bind (KE.bind_assoc k1) fun y σ2 u H2 F2 Os2 rel2 ry l2 gr2 k2 => ?_⟩⟩
    cases ed : dCmp op x y with
    | none => rw [ed] at k2; exact k2.elim
    | some r =>
      rw [ed] at k2
      exact ⟨F2, x, y, r, rel2.le, rx.mono l2, ry, ed, r, rfl, k2 _ _ _ _ rel2 rfl (Gr.refl pu _ _ _)⟩
theorem e_chn (hK : X.K = g.K) (hu : X.A.units + 64 < cLine) {o1 o2 : COp} (ha : PE X a (tE T G g W pu ia)) (hb : PE X b (tE T G g W pu ib)) (hc : PE X c (tE T G g W pu ic)) (hm : behindInMarks o2.py c = false) :
    PE X (.Compare a [o1.py, o2.py] [b, c] pos) (tE T G g W pu (.chn o1 o2 ia ib ic)) :=
  (pe_chain (o_cmp hK hu o1) (o_cmp hK hu o2) ha hb hc hm).imp fun σ H Q ⟨σd, F, Os, rel, k⟩ => by
    simp only [evE] at k
    refine ⟨σd, F, Os, rel, KE.bind k fun x σ1 v H1 F1 Os1 rel1 rx l1 gr1 k1 => ⟨σ1, F1, Os1, rel1, KE.bind k1 fun y σ2 u H2 F2 Os2 rel2 ry l2 gr2 k2 => ?_⟩⟩
    cases ed : dCmp o1 x y with
    | none => rw [ed] at k2; exact k2.elim
    | some r =>
      rw [ed] at k2
      refine ⟨F2, x, y, r, rel2.le, rx.mono l2, ry, ed, r, rfl, ?_⟩
      cases r with
      | false => exact k2 _ _ _ _ rel2 (.bl false) (Gr.refl pu _ _ _)
      | true =>
        refine ⟨σ2, F2, Os2, rel2, KE.bind k2 fun z σ3 w H3 F3 Os3 rel3 rz l3 gr3 k3 => ?_⟩
        obtain ⟨d, ed, q⟩ := KE.ofO k3
        obtain ⟨r, e1, rfl⟩ := Option.map_eq_some_iff.mp ed
        exact ⟨F3, y, z, r, rel3.le, ry.mono l3, rz, e1, q _ _ _ _ rel3 (.bl r) (Gr.refl pu _ _ _)⟩
theorem t_chn (hK : X.K = g.K) (hu : X.A.units + 64 < cLine) {o1 o2 : COp} (ha : PE X a (tE T G g W pu ia)) (hb : PE X b (tE T G g W pu ib)) (hc : PE X c (tE T G g W pu ic)) (hm : behindInMarks o2.py c = false) :
    PT X (.Compare a [o1.py, o2.py] [b, c] pos) (tT T G g W pu (.chn o1 o2 ia ib ic)) :=
  (pt_chain (o_cmp hK hu o1) (o_cmp hK hu o2) ha hb hc hm).imp fun σ H Q ⟨σd, F, Os, rel, k⟩ => by
    rw [evT_of T G (by simp)] at k
    simp only [evE] at k
    refine ⟨σd, F, Os, rel, KE.bind (KE.bind_assoc k) fun x σ1 v H1 F1 Os1 rel1 rx l1 gr1 k1 => ⟨σ1, F1, Os1, rel1, KE.bind (KE.bind_assoc k1) fun y σ2 u H2 F2 Os2 rel2 ry l2 gr2 k2 => ?_⟩⟩
    cases ed : dCmp o1 x y with
    | none => rw [ed] at k2; exact k2.elim
    | some r =>
      rw [ed] at k2
      refine ⟨F2, x, y, r, rel2.le, rx.mono l2, ry, ed, r, rfl, ?_⟩
      cases r with
      | false => exact ⟨false, rfl, k2 _ _ _ _ rel2 rfl (Gr.refl pu _ _ _)⟩
      | true =>
        refine ⟨σ2, F2, Os2, rel2, KE.bind (KE.bind_assoc k2) fun z σ3 w H3 F3 Os3 rel3 rz l3 gr3 k3 => ?_⟩
        cases ed2 : dCmp o2 y z with
        | none => rw [ed2] at k3; exact k3.elim
        | some r =>
          rw [ed2] at k3
          exact ⟨F3, y, z, r, rel3.le, ry.mono l3, rz, ed2, r, rfl, k3 _ _ _ _ rel3 rfl (Gr.refl pu _ _ _)⟩
theorem none_of {F : Hp} {d : D} {v : V} (r : RD g F d v) : decide (v = .non) = isNone d := by
  cases r <;> rfl
theorem e_isN {j pos'} (ha : PE X a (tE T G g W pu ia)) : PE X (.Compare a [.Is] [.Constant .none j pos'] pos) (tE T G g W pu (.isN ia)) :=
  (pe_cmp (pc_isN ha)).imp fun σ H Q ⟨σd, F, Os, rel, k⟩ => by
    simp only [evE] at k
    refine ⟨σd, F, Os, rel, KE.bind k fun x σ1 v H1 F1 Os1 rel1 rx l1 gr1 k1 => ?_⟩
    rw [none_of rx]
    exact k1 _ _ _ _ rel1 (.bl _) (Gr.refl pu _ _ _)
theorem t_isN {j pos'} (ha : PE X a (tE T G g W pu ia)) : PT X (.Compare a [.Is] [.Constant .none j pos'] pos) (tT T G g W pu (.isN ia)) :=
  (pt_cmp (pc_isN ha)).imp fun σ H Q ⟨σd, F, Os, rel, k⟩ => by
    rw [evT_of T G (by simp)] at k
    simp only [evE] at k
    refine ⟨σd, F, Os, rel, KE.bind (KE.bind_assoc k) fun x σ1 v H1 F1 Os1 rel1 rx l1 gr1 k1 => ?_⟩
    rw [none_of rx]
    exact ⟨_, rfl, k1 _ _ _ _ rel1 rfl (Gr.refl pu _ _ _)⟩
theorem e_notN {j pos'} (ha : PE X a (tE T G g W pu ia)) : PE X (.Compare a [.IsNot] [.Constant .none j pos'] pos) (tE T G g W pu (.notN ia)) :=
  (pe_cmp (pc_notN ha)).imp fun σ H Q ⟨σd, F, Os, rel, k⟩ => by
    simp only [evE] at k
    refine ⟨σd, F, Os, rel, KE.bind k fun x σ1 v H1 F1 Os1 rel1 rx l1 gr1 k1 => ?_⟩
    rw [none_of rx]
    exact k1 _ _ _ _ rel1 (.bl _) (Gr.refl pu _ _ _)
theorem t_notN {j pos'} (ha : PE X a (tE T G g W pu ia)) : PT X (.Compare a [.IsNot] [.Constant .none j pos'] pos) (tT T G g W pu (.notN ia)) :=
  (pt_cmp (pc_notN ha)).imp fun σ H Q ⟨σd, F, Os, rel, k⟩ => by
    rw [evT_of T G (by simp)] at k
    simp only [evE] at k
    refine ⟨σd, F, Os, rel, KE.bind (KE.bind_assoc k) fun x σ1 v H1 F1 Os1 rel1 rx l1 gr1 k1 => ?_⟩
    rw [none_of rx]
    exact ⟨_, rfl, k1 _ _ _ _ rel1 rfl (Gr.refl pu _ _ _)⟩
theorem asB_of {F : Hp} {d : D} {v : V} {k : Bool} (r : RD g F d v) (h : asB d = some k) : v = .bl k := by
  cases r <;> first | (simp [asB] at h; done) | (cases h; rfl)
/-- an expression that gives a truth value, as a test -/
theorem t_val (hi : ia ≠ .nil) (ha : PE X a (tE T G g W pu ia)) (hp : pTest a = true) : PT X a (tT T G g W pu ia) :=
  (pt_val ha (test_of hp X.env)).imp fun σ H Q ⟨σd, F, Os, rel, k⟩ => by
    rw [evT_of T G hi] at k
    refine ⟨σd, F, Os, rel, KE.bind k fun x σ1 v H1 F1 Os1 rel1 rx l1 gr1 k1 => ?_⟩
    obtain ⟨r, e, q⟩ := KE.ofO k1
    exact ⟨r, asB_of rx e, q _ _ _ _ rel1 rfl (Gr.refl pu _ _ _)⟩
theorem e_not (ha : PE X a (tE T G g W pu ia)) : PE X (.UnaryOp .Not a pos) (tE T G g W pu (.not ia)) :=
  (pe_not ha).imp fun σ H Q ⟨σd, F, Os, rel, k⟩ => by
    simp only [evE] at k
    refine ⟨σd, F, Os, rel, KE.bind k fun x σ1 v H1 F1 Os1 rel1 rx l1 gr1 k1 => ?_⟩
    obtain ⟨d, ed, q⟩ := KE.ofO k1
    obtain ⟨r, e1, rfl⟩ := Option.map_eq_some_iff.mp ed
    exact ⟨r, asB_of rx e1, q _ _ _ _ rel1 (.bl _) (Gr.refl pu _ _ _)⟩
theorem t_not (hi : ia ≠ .nil) (ha : PT X a (tT T G g W pu ia)) : PT X (.UnaryOp .Not a pos) (tT T G g W pu (.not ia)) :=
  (pt_not ha).imp fun σ H Q ⟨σd, F, Os, rel, k⟩ => by
    rw [evT_of T G (by simp)] at k
    simp only [evE] at k
    have e : ((evE T G ia σd).bind fun x σ1 => (ofO ((asB x).map fun b => D.bl (!b)) σ1).bind fun x σ1 => ofO (asB x) σ1) = (evT T G ia σd).bind fun b σ1 => ER.ok (!b) σ1 := by
      rw [evT_of T G hi, ER.bind_assoc]
      congr 1
      funext x σ1
      cases asB x <;> rfl
    rw [ER.bind_assoc, e] at k
    refine ⟨σd, F, Os, rel, KE.bind k fun x σ1 v H1 F1 Os1 rel1 rx l1 gr1 k1 => ?_⟩
    subst rx
    exact k1 _ _ _ _ rel1 rfl (Gr.refl pu _ _ _)
theorem e_ite (hi : ic ≠ .nil) (hc : PT X c (tT T G g W pu ic)) (ha : PE X a (tE T G g W pu ia)) (hb : PE X b (tE T G g W pu ib)) : PE X (.IfExp c a b pos) (tE T G g W pu (.ite ic ia ib)) :=
  (pe_ifExp hc ha hb).imp fun σ H Q ⟨σd, F, Os, rel, k⟩ => by
    simp only [evE] at k
    have e : ((evE T G ic σd).bind fun x σ1 => (ofO (asB x) σ1).bind fun k σ2 => if k = true then evE T G ia σ2 else evE T G ib σ2) = (evT T G ic σd).bind fun k σ2 => if k = true then evE T G ia σ2 else evE T G ib σ2 := by
      rw [evT_of T G hi, ER.bind_assoc]
    rw [e] at k
    refine ⟨σd, F, Os, rel, KE.bind k fun x σ1 v H1 F1 Os1 rel1 rx l1 gr1 k1 => ?_⟩
    subst rx
    cases x with
    | true => exact ⟨σ1, F1, Os1, rel1, k1⟩
    | false => exact ⟨σ1, F1, Os1, rel1, k1⟩
theorem e_idx (hK : X.K = g.K) (ha : PE X a (tE T G g W pu ia)) (hb : PE X b (tE T G g W pu ib)) (hp : pIx b = true) : PE X (.Subscript a b pos) (tE T G g W pu (.idx ia ib)) :=
  (pe_ix (o_idx hK) ha hb (plainIx_of hp)).imp fun σ H Q ⟨σd, F, Os, rel, k⟩ => by
    simp only [evE] at k
    refine ⟨σd, F, Os, rel, KE.bind k fun x σ1 v H1 F1 Os1 rel1 rx l1 gr1 k1 => ⟨σ1, F1, Os1, rel1, KE.bind k1 fun y σ2 u H2 F2 Os2 rel2 ry l2 gr2 k2 => ?_⟩⟩
    obtain ⟨d, ed, q⟩ := KE.ofO k2
    exact ⟨F2, x, y, d, rel2.le, rx.mono l2, ry, ed, fun w H' F' xt rw => q w H' F' Os2 (rel2.ext xt) rw (xt.gr pu)⟩
theorem leaf_of {m : M} {x : D} (h : M.leaf m = some x) : m = .d x := by
  cases m <;> first | (simp [M.leaf] at h; done) | (cases h; rfl)
/-- an item of a list that a slot owns -/
theorem e_midx {i : Nat} {x : Str} (hN : X.N[i]? = some x) (hv : Vis X.env.scope x) (hd : (x == ("__debug__" : Str)) = false) (hcd : (x == ("__classdict__" : Str)) = false) (hb : PE X b (tE T G g W pu ib)) (hp : pIx b = true) :
    PE X (.Subscript (.Name x p2) b pos) (tE T G g W pu (.midx (.root i) ib)) :=
  (pe_ix ix_list (pe_var hN hv hd hcd) hb (plainIx_of hp)).imp fun σ H Q ⟨σd, F, Os, rel, k⟩ => by
    simp only [evE, getPl] at k
    cases h0 : (getPl σd (.root i)).bind M.isL with
    | none => simp only [there, h0] at k; exact k.elim
    | some m0 =>
    obtain ⟨m1, h1, _⟩ := Option.bind_eq_some_iff.mp h0
    obtain ⟨v, hv, _⟩ := rel.get (m := m1) h1
    simp only [there, h0, ofO_some, ER.bind_ok] at k
    refine ⟨v, hv, σd, F, Os, rel, KE.bind k fun y σ2 u H2 F2 Os2 rel2 ry l2 gr2 k2 => ?_⟩
    obtain ⟨d, ed, q⟩ := KE.ofO k2
    obtain ⟨m, e1, e2⟩ := Option.bind_eq_some_iff.mp ed
    obtain ⟨v', hv', rm⟩ := rel2.get e1
    rw [hv] at hv'
    cases hv'
    unfold mIdx at e2
    split at e2
    · cases ry
      obtain ⟨m', e3, e4⟩ := Option.bind_eq_some_iff.mp e2
      obtain ⟨j, e5, e6⟩ := Option.bind_eq_some_iff.mp e3
      rw [leaf_of e4] at e6
      cases rm with
      | lst sa ha hz hr =>
        obtain ⟨w, hw, rw'⟩ := hr.getD e6
        refine ⟨_, _, _, w, rfl, rfl, SqL.of ha, ?_, q w H2 F2 Os2 rel2 rw' (Gr.refl pu _ _ _)⟩
        unfold atI
        rw [← hr.length, ← ix_eq, e5]
        exact hw
    · cases e2
end
end JH

/-! JB5: and, or, slices, displays, built-in functions, isinstance. -/
namespace JH
open PySem PySem.Spec PyProof.Rows L2
section
variable {T : Tab} {G : Nat → Option D} {g : SG} {W : WX} {pu : Bool} {X : Cx} {a b c : Expr} {ia ib ic r : IE} {rest : List Expr} {pos p2 p : Pos}
abbrev tAnd (T : Tab) (G : Nat → Option D) (g : SG) (W : WX) (pu : Bool) (l : IE) : TE := tV g W pu (RD g) (evAnd T G l)
abbrev tOr (T : Tab) (G : Nat → Option D) (g : SG) (W : WX) (pu : Bool) (l : IE) : TE := tV g W pu (RD g) (evOr T G l)
abbrev tAndT (T : Tab) (G : Nat → Option D) (g : SG) (W : WX) (pu : Bool) (l : IE) : TT := tV g W pu (fun _ => @Eq Bool) fun σ => (evAnd T G l σ).bind fun x σ1 => ofO (asB x) σ1
abbrev tOrT (T : Tab) (G : Nat → Option D) (g : SG) (W : WX) (pu : Bool) (l : IE) : TT := tV g W pu (fun _ => @Eq Bool) fun σ => (evOr T G l σ).bind fun x σ1 => ofO (asB x) σ1
theorem evAnd_cons (h : r ≠ .nil) (σ : Env) : evAnd T G (.cons ia r) σ = (evE T G ia σ).bind fun x σ1 => (ofO (asB x) σ1).bind fun k σ2 => if k = true then evAnd T G r σ2 else .ok (.bl false) σ2 := by
  cases r <;> first | (exact absurd rfl h) | (simp only [evAnd])
theorem evOr_cons (h : r ≠ .nil) (σ : Env) : evOr T G (.cons ia r) σ = (evE T G ia σ).bind fun x σ1 => (ofO (asB x) σ1).bind fun k σ2 => if k = true then .ok (.bl true) σ2 else evOr T G r σ2 := by
  cases r <;> first | (exact absurd rfl h) | (simp only [evOr])
theorem e_and1 (ha : PE X a (tE T G g W pu ia)) : PE X (.BoolOp .And [a] pos) (tAnd T G g W pu (.cons ia .nil)) :=
  (pe_one ha).imp fun σ H Q ⟨σd, F, Os, rel, k⟩ => ⟨σd, F, Os, rel, by simpa only [evAnd] using k⟩
theorem e_or1 (ha : PE X a (tE T G g W pu ia)) : PE X (.BoolOp .Or [a] pos) (tOr T G g W pu (.cons ia .nil)) :=
  (pe_one ha).imp fun σ H Q ⟨σd, F, Os, rel, k⟩ => ⟨σd, F, Os, rel, by simpa only [evOr] using k⟩
theorem e_andc (hr : r ≠ .nil) (ha : PE X a (tE T G g W pu ia)) (hb : PE X (.BoolOp .And (b :: rest) pos) (tAnd T G g W pu r)) : PE X (.BoolOp .And (a :: b :: rest) pos) (tAnd T G g W pu (.cons ia r)) :=
  (pe_and ha hb).imp fun σ H Q ⟨σd, F, Os, rel, k⟩ => by
    rw [evAnd_cons hr] at k
    refine ⟨σd, F, Os, rel, KE.bind k fun x σ1 v H1 F1 Os1 rel1 rx l1 gr1 k1 => ?_⟩
    cases ed : asB x with
    | none => rw [ed] at k1; exact k1.elim
    | some q =>
      rw [ed] at k1
      refine ⟨q, asB_of rx ed, ?_⟩
      cases q with
      | true => exact ⟨σ1, F1, Os1, rel1, k1⟩
      | false => exact k1 _ _ _ _ rel1 (.bl false) (Gr.refl pu _ _ _)
theorem e_orc (hr : r ≠ .nil) (ha : PE X a (tE T G g W pu ia)) (hb : PE X (.BoolOp .Or (b :: rest) pos) (tOr T G g W pu r)) : PE X (.BoolOp .Or (a :: b :: rest) pos) (tOr T G g W pu (.cons ia r)) :=
  (pe_or ha hb).imp fun σ H Q ⟨σd, F, Os, rel, k⟩ => by
    rw [evOr_cons hr] at k
    refine ⟨σd, F, Os, rel, KE.bind k fun x σ1 v H1 F1 Os1 rel1 rx l1 gr1 k1 => ?_⟩
    cases ed : asB x with
    | none => rw [ed] at k1; exact k1.elim
    | some q =>
      rw [ed] at k1
      refine ⟨q, asB_of rx ed, ?_⟩
      cases q with
      | false => exact ⟨σ1, F1, Os1, rel1, k1⟩
      | true => exact k1 _ _ _ _ rel1 (.bl true) (Gr.refl pu _ _ _)
theorem e_and (h : PE X a (tAnd T G g W pu ia)) : PE X a (tE T G g W pu (.and ia)) := h.imp fun σ H Q ⟨σd, F, Os, rel, k⟩ => ⟨σd, F, Os, rel, by simpa only [evE] using k⟩
theorem e_or (h : PE X a (tOr T G g W pu ia)) : PE X a (tE T G g W pu (.or ia)) := h.imp fun σ H Q ⟨σd, F, Os, rel, k⟩ => ⟨σd, F, Os, rel, by simpa only [evE] using k⟩
theorem t_and (h : PW X a (tAndT T G g W pu ia)) : PT X a (tT T G g W pu (.and ia)) := h.pt.imp fun σ H Q ⟨σd, F, Os, rel, k⟩ => ⟨σd, F, Os, rel, by
  rw [evT_of T G (by simp)] at k
  simpa only [evE] using k⟩
theorem t_or (h : PW X a (tOrT T G g W pu ia)) : PT X a (tT T G g W pu (.or ia)) := h.pt.imp fun σ H Q ⟨σd, F, Os, rel, k⟩ => ⟨σd, F, Os, rel, by
  rw [evT_of T G (by simp)] at k
  simpa only [evE] using k⟩
theorem w_and1 (hi : ia ≠ .nil) (ha : PT X a (tT T G g W pu ia)) : PW X (.BoolOp .And [a] pos) (tAndT T G g W pu (.cons ia .nil)) :=
  (pw_and1 ha).imp fun σ H Q ⟨σd, F, Os, rel, k⟩ => ⟨σd, F, Os, rel, by
    rw [evT_of T G hi]
    simpa only [evAnd] using k⟩
theorem w_or1 (hi : ia ≠ .nil) (ha : PT X a (tT T G g W pu ia)) : PW X (.BoolOp .Or [a] pos) (tOrT T G g W pu (.cons ia .nil)) :=
  (pw_or1 ha).imp fun σ H Q ⟨σd, F, Os, rel, k⟩ => ⟨σd, F, Os, rel, by
    rw [evT_of T G hi]
    simpa only [evOr] using k⟩
theorem w_andc (hi : ia ≠ .nil) (hr : r ≠ .nil) (ha : PT X a (tT T G g W pu ia)) (hb : PW X (.BoolOp .And (b :: rest) pos) (tAndT T G g W pu r)) : PW X (.BoolOp .And (a :: b :: rest) pos) (tAndT T G g W pu (.cons ia r)) :=
  (pw_and ha hb).imp fun σ H Q ⟨σd, F, Os, rel, k⟩ => by
    have e : ((evAnd T G (.cons ia r) σd).bind fun x σ1 => ofO (asB x) σ1) = (evT T G ia σd).bind fun k σ2 => if k = true then (evAnd T G r σ2).bind fun x σ1 => ofO (asB x) σ1 else .ok false σ2 := by
      rw [evAnd_cons hr, evT_of T G hi, ER.bind_assoc, ER.bind_assoc]
      congr 1
      funext x σ1
      cases asB x with
      | none => rfl
      | some q => cases q <;> rfl
    have k := k
    dsimp only at k
    rw [e] at k
    refine ⟨σd, F, Os, rel, KE.bind k fun x σ1 v H1 F1 Os1 rel1 rx l1 gr1 k1 => ?_⟩
    subst rx
    cases x with
    | true => exact ⟨σ1, F1, Os1, rel1, k1⟩
    | false => exact k1 _ _ _ _ rel1 rfl (Gr.refl pu _ _ _)
theorem w_orc (hi : ia ≠ .nil) (hr : r ≠ .nil) (ha : PT X a (tT T G g W pu ia)) (hb : PW X (.BoolOp .Or (b :: rest) pos) (tOrT T G g W pu r)) : PW X (.BoolOp .Or (a :: b :: rest) pos) (tOrT T G g W pu (.cons ia r)) :=
  (pw_or ha hb).imp fun σ H Q ⟨σd, F, Os, rel, k⟩ => by
    have e : ((evOr T G (.cons ia r) σd).bind fun x σ1 => ofO (asB x) σ1) = (evT T G ia σd).bind fun k σ2 => if k = true then .ok true σ2 else (evOr T G r σ2).bind fun x σ1 => ofO (asB x) σ1 := by
      rw [evOr_cons hr, evT_of T G hi, ER.bind_assoc, ER.bind_assoc]
      congr 1
      funext x σ1
      cases asB x with
      | none => rfl
      | some q => cases q <;> rfl
    have k := k
    dsimp only at k
    rw [e] at k
    refine ⟨σd, F, Os, rel, KE.bind k fun x σ1 v H1 F1 Os1 rel1 rx l1 gr1 k1 => ?_⟩
    subst rx
    cases x with
    | false => exact ⟨σ1, F1, Os1, rel1, k1⟩
    | true => exact k1 _ _ _ _ rel1 rfl (Gr.refl pu _ _ _)
/-! ### slices -/
theorem o_nil : PO X none (tOf T G g W pu .nil) := po_none.imp fun σ H Q ⟨σd, F, Os, rel, k⟩ => by
  simp only [evO] at k
  exact k none H F Os rel rfl (Gr.refl pu _ _ _)
theorem o_some (hi : ia ≠ .nil) (ha : PE X a (tE T G g W pu ia)) : PO X (some a) (tOf T G g W pu ia) := (po_some ha).imp fun σ H Q ⟨σd, F, Os, rel, k⟩ => by
  rw [evO_of T G hi] at k
  refine ⟨σd, F, Os, rel, KE.bind k fun x σ1 v H1 F1 Os1 rel1 rx l1 gr1 k1 => ?_⟩
  obtain ⟨d, ed, q⟩ := KE.ofO k1
  cases rx <;> first | (simp [asI] at ed; done) | skip
  cases ed
  exact ⟨_, rfl, q _ _ _ _ rel1 rfl (Gr.refl pu _ _ _)⟩
theorem e_slc (hK : X.K = g.K) {lo hi : Option Expr} (ha : PE X a (tE T G g W pu ia)) (hl : PO X lo (tOf T G g W pu ib)) (hh : PO X hi (tOf T G g W pu ic)) : PE X (.Subscript a (.Slice lo hi none p2) pos) (tE T G g W pu (.slc ia ib ic)) :=
  (pe_slice (o_slc hK) ha hl hh).imp fun σ H Q ⟨σd, F, Os, rel, k⟩ => by
    simp only [evE] at k
    refine ⟨σd, F, Os, rel, KE.bind k fun x σ1 v H1 F1 Os1 rel1 rx l1 gr1 k1 => ⟨σ1, F1, Os1, rel1, KE.bind k1 fun y σ2 u H2 F2 Os2 rel2 ry l2 gr2 k2 => ⟨σ2, F2, Os2, rel2, KE.bind k2 fun z σ3 w H3 F3 Os3 rel3 rz l3 gr3 k3 => ?_⟩⟩⟩
    subst ry
    subst rz
    obtain ⟨d, ed, q⟩ := KE.ofO k3
    exact ⟨F3, x, d, rel3.le, (rx.mono l2).mono l3, ed, fun w H' F' xt rw => q w H' F' Os3 (rel3.ext xt) rw (xt.gr pu)⟩
/-! ### lists of expressions -/
theorem l_nil : PA X [] (tL T G g W pu .nil) := pa_nil.imp fun σ H Q ⟨σd, F, Os, rel, k⟩ => by
  simp only [evL] at k
  exact k [] H F Os rel .nil (Gr.refl pu _ _ _)
theorem l_cons {es : List Expr} (hs : nStar a = true) (ha : PE X a (tE T G g W pu ia)) (hr : PA X es (tL T G g W pu r)) : PA X (a :: es) (tL T G g W pu (.cons ia r)) :=
  (pa_cons ha hr (starEach_of hs es X.env)).imp fun σ H Q ⟨σd, F, Os, rel, k⟩ => by
    simp only [evL] at k
    refine ⟨σd, F, Os, rel, KE.bind k fun x σ1 v H1 F1 Os1 rel1 rx l1 gr1 k1 => ⟨σ1, F1, Os1, rel1, KE.bind k1 fun xs σ2 vs H2 F2 Os2 rel2 rxs l2 gr2 k2 => ?_⟩⟩
    exact k2 _ _ _ _ rel2 (.cons (rx.mono l2) rxs) (Gr.refl pu _ _ _)
def IE.len : IE → Nat
  | .cons _ r => r.len + 1
  | _ => 0
theorem evL_len : ∀ (l : IE) (σ σ' : Env) (ds : List D), evL T G l σ = .ok ds σ' → ds.length = l.len := by
  intro l
  induction l with
  | nil => intro σ σ' ds h; simp only [evL] at h; cases h; rfl
  | cons a r _ ih =>
    intro σ σ' ds h
    simp only [evL] at h
    cases e : evE T G a σ with
    | ok x σ1 =>
      rw [e] at h
      cases e2 : evL T G r σ1 with
      | ok xs σ2 =>
        simp only [ER.bind_ok, e2] at h
        cases h
        simp [IE.len, ih _ _ _ e2]
      | exc _ _ => simp only [ER.bind_ok, e2, ER.bind_exc] at h; cases h
      | stuck => simp only [ER.bind_ok, e2, ER.bind_stuck] at h; cases h
    | exc _ _ => rw [e] at h; cases h
    | stuck => rw [e] at h; cases h
  | _ => intro σ σ' ds h; simp only [evL] at h; cases h
theorem e_tup {es : List Expr} {x1} (hz : r.len ≤ 1000) (h : PA X es (tL T G g W pu r)) : PE X (.Tuple es x1 pos) (tE T G g W pu (.tup r)) :=
  (pe_tup h).imp fun σ H Q ⟨σd, F, Os, rel, k⟩ => by
    simp only [evE] at k
    refine ⟨σd, F, Os, rel, KE.bindE k fun xs σ1 vs H1 F1 Os1 e rel1 rx l1 gr1 k1 => ?_⟩
    have hl := evL_len _ _ _ _ e
    have hv : vs.length ≤ sizeLine := by rw [← rx.length, hl, line_eq]; omega
    refine ⟨hv, fun p np => ?_⟩
    have xt := Ext.laid (o := .tup vs) rel1.le np
    exact k1 _ _ _ _ (rel1.ext xt) (.tup (SqT.of upd_same) hv (rx.mono xt.ff)) (xt.gr pu)
theorem e_lst {es : List Expr} (hz : r.len ≤ 1000) (h : PA X es (tL T G g W pu r)) : PE X (.List es pos) (tE T G g W pu (.lst r)) :=
  (pe_lst h).imp fun σ H Q ⟨σd, F, Os, rel, k⟩ => by
    simp only [evE] at k
    refine ⟨σd, F, Os, rel, KE.bindE k fun xs σ1 vs H1 F1 Os1 e rel1 rx l1 gr1 k1 => ?_⟩
    have hl := evL_len _ _ _ _ e
    have hv : vs.length ≤ sizeLine := by rw [← rx.length, hl, line_eq]; omega
    refine ⟨hv, fun p np => ?_⟩
    have xt := Ext.laid (o := .lst vs) rel1.le np
    exact k1 _ _ _ _ (rel1.ext xt) (.lst upd_same hv (rx.mono xt.ff)) (xt.gr pu)
/-! ### built-in functions -/
def B1.nm : B1 → Str
  | .len => "len" | .tuple => "tuple" | .list => "list" | .int => "int" | .abs => "abs" | .sum => "sum" | .all => "all" | .any => "any" | .sorted => "sorted" | .min => "min" | .max => "max" | .bool => "bool"
theorem rF1_none {f : Value} {h : D → Option D} (hn : ∀ d, h d = none) : CallR X f (rF1 g h) := by
  intro pins s σ H xs us Q I r q
  obtain ⟨x, F, d1, d, _, _, _, e, _⟩ := q
  rw [hn] at e
  cases e
theorem one_pl {a : Expr} (hs : nStar a = true) (env : PySem.Env) (pos : Pos) : (backTo pos (starEach [] env)).any (·.1) = false := rfl
theorem e_b1raw {f : B1} {x : Str} {ta : TE} (hx : x = f.nm) (hK : X.K = g.K) (hc : X.calm = true) (hs : nStar a = true) (hg : Gl X x) (hm : X.mg x = none) (ha : PE X a ta) : PE X (.Call (.Name x p) [a] [] pos) (tCB (rF1 g (dB1 f)) (tCons ta tNil)) := by
  subst hx
  have hs' := starEach_of hs [] X.env
  have pa : PA X [a] (tCons ta tNil) := pa_cons ha pa_nil hs'
  cases f
  · exact pe_callB (f_len hK) hg hm PySem.boot_len pa (by decide) (by decide) hs' rfl
  · exact pe_callTy (f_tuple hK) hg hm (by decide +kernel) pa (by decide) (by decide) hs' rfl
  · exact pe_callTy (f_list hK) hg hm (by decide +kernel) pa (by decide) (by decide) hs' rfl
  · exact pe_callTy f_int hg hm (by decide +kernel) pa (by decide) (by decide) hs' rfl
  · exact pe_callB f_abs hg hm (by decide +kernel) pa (by decide) (by decide) hs' rfl
  · exact pe_callB (f_sum hc) hg hm (by decide +kernel) pa (by decide) (by decide) hs' rfl
  · exact pe_callB (f_all hc) hg hm (by decide +kernel) pa (by decide) (by decide) hs' rfl
  · exact pe_callB (f_any hc) hg hm (by decide +kernel) pa (by decide) (by decide) hs' rfl
  · exact pe_callB f_sorted hg hm (by decide +kernel) pa (by decide) (by decide) hs' rfl
  · exact pe_callB (id := "min") (rF1_none fun d => by cases d <;> rfl) hg hm (by decide +kernel) pa (by decide) (by decide) hs' rfl
  · exact pe_callB (id := "max") (rF1_none fun d => by cases d <;> rfl) hg hm (by decide +kernel) pa (by decide) (by decide) hs' rfl
  · exact pe_callTy (T := "bool") (rF1_none fun d => by cases d <;> rfl) hg hm (by decide +kernel) pa (by decide) (by decide) hs' rfl
theorem e_b1 {f : B1} {x : Str} (hx : x = f.nm) (hK : X.K = g.K) (hc : X.calm = true) (hs : nStar a = true) (hg : Gl X x) (hm : X.mg x = none) (ha : PE X a (tE T G g W pu ia)) : PE X (.Call (.Name x p) [a] [] pos) (tE T G g W pu (.b1 f ia)) :=
  (e_b1raw hx hK hc hs hg hm ha).imp fun σ H Q ⟨σd, F, Os, rel, k⟩ => by
    simp only [evE] at k
    refine ⟨σd, F, Os, rel, KE.bind k fun x σ1 v H1 F1 Os1 rel1 rx l1 gr1 k1 => ?_⟩
    obtain ⟨d, ed, q⟩ := KE.ofO k1
    exact ⟨v, F1, x, d, rfl, rel1.le, rx, ed, fun w H' F' xt rw => q w H' F' Os1 (rel1.ext xt) rw (xt.gr pu)⟩
def B2.nm : B2 → Str
  | .min => "min" | .max => "max"
theorem e_b2 {f : B2} {x : Str} (hx : x = f.nm) (hc : X.calm = true) (hs : nStar a = true) (hs2 : nStar b = true) (hg : Gl X x) (hm : X.mg x = none) (ha : PE X a (tE T G g W pu ia)) (hb : PE X b (tE T G g W pu ib)) : PE X (.Call (.Name x p) [a, b] [] pos) (tE T G g W pu (.b2 f ia ib)) := by
  subst hx
  have hs' := starEach_of hs [b] X.env
  have hp : (backTo pos (starEach [b] X.env)).any (·.1) = false := noStars _ _ _ (by simp [hs2])
  have pa : PA X [a, b] (tCons _ (tCons _ tNil)) := pa_cons ha (pa_cons hb pa_nil (starEach_of hs2 [] X.env)) hs'
  have raw : PE X (.Call (.Name f.nm p) [a, b] [] pos) (tCB (rF2 g (dB2 f)) (tCons (tE T G g W pu ia) (tCons (tE T G g W pu ib) tNil))) := by
    cases f
    · exact pe_callB (f_min2 hc) hg hm (by decide +kernel) pa (by decide) (by decide) hs' hp
    · exact pe_callB (f_max2 hc) hg hm (by decide +kernel) pa (by decide) (by decide) hs' hp
  refine raw.imp fun σ H Q ⟨σd, F, Os, rel, k⟩ => ?_
  simp only [evE] at k
  refine ⟨σd, F, Os, rel, KE.bind k fun x σ1 v H1 F1 Os1 rel1 rx l1 gr1 k1 => ⟨σ1, F1, Os1, rel1, KE.bind k1 fun y σ2 u H2 F2 Os2 rel2 ry l2 gr2 k2 => ?_⟩⟩
  obtain ⟨d, ed, q⟩ := KE.ofO k2
  exact ⟨v, u, F2, x, y, d, rfl, rel2.le, rx.mono l2, ry, ed, fun w H' F' xt rw => q w H' F' Os2 (rel2.ext xt) rw (xt.gr pu)⟩
/-! ### isinstance -/
theorem ty_boot (t : Ty) : bootBuiltins (Str.ofString t.py) = some (.type t.py) := by cases t <;> decide +kernel
theorem ty_dbg (t : Ty) : ((Str.ofString t.py) == ("__debug__" : Str)) = false := by cases t <;> decide
theorem ty_nn (t : Ty) : (Str.ofString t.py) ≠ ("__name__" : Str) := by cases t <;> decide
theorem e_tyName {t : Ty} (hg : Gl X (Str.ofString t.py)) (hm : X.mg (Str.ofString t.py) = none) : PE X (.Name (Str.ofString t.py) pos) (tC (.ty t.py)) := pe_bltn hg hm (ty_boot t) rfl (ty_nn t) (ty_dbg t)
theorem e_isi {t : Ty} {y : Str} (hy : y = Str.ofString t.py) (hK : X.K = g.K) (hs : nStar a = true) (hg : Gl X "isinstance") (hm : X.mg "isinstance" = none) (hg2 : Gl X y) (hm2 : X.mg y = none) (ha : PE X a (tE T G g W pu ia)) :
    PE X (.Call (.Name "isinstance" p) [a, .Name y p2] [] pos) (tE T G g W pu (.isi ia t)) := by
  subst hy
  have hs' := starEach_of hs [.Name (Str.ofString t.py) p2] X.env
  refine (pe_callB (f_isi (g := g) hK t) hg hm (by decide +kernel) (pa_cons ha (pa_cons (e_tyName hg2 hm2) pa_nil) hs') (by decide) (by decide) hs' rfl).imp fun σ H Q ⟨σd, F, Os, rel, k⟩ => ?_
  simp only [evE] at k
  refine ⟨σd, F, Os, rel, KE.bind k fun x σ1 v H1 F1 Os1 rel1 rx l1 gr1 k1 => ?_⟩
  split at k1
  · rename_i ok
    exact ⟨v, F1, x, rfl, rel1.le, rx, ok, k1 _ _ _ _ rel1 (.bl _) (Gr.refl pu _ _ _)⟩
  · exact k1.elim
theorem e_isi2 {t t' : Ty} {y z : Str} {x1} {p3 p4 : Pos} (hy : y = Str.ofString t.py) (hz : z = Str.ofString t'.py) (hK : X.K = g.K) (hs : nStar a = true) (hg : Gl X "isinstance") (hm : X.mg "isinstance" = none) (hg2 : Gl X y) (hm2 : X.mg y = none) (hg3 : Gl X z) (hm3 : X.mg z = none)
    (ha : PE X a (tE T G g W pu ia)) : PE X (.Call (.Name "isinstance" p) [a, .Tuple [.Name y p2, .Name z p3] x1 p4] [] pos) (tE T G g W pu (.isi2 ia t t')) := by
  subst hy hz
  have hs' := starEach_of hs [.Tuple [.Name (Str.ofString t.py) p2, .Name (Str.ofString t'.py) p3] x1 p4] X.env
  refine (pe_callB (f_isi2 (g := g) hK t t') hg hm (by decide +kernel) (pa_cons ha (pa_cons (pe_tup (pa_cons (e_tyName hg2 hm2) (pa_cons (e_tyName hg3 hm3) pa_nil))) pa_nil) hs') (by decide) (by decide) hs' rfl).imp fun σ H Q ⟨σd, F, Os, rel, k⟩ => ?_
  simp only [evE] at k
  refine ⟨σd, F, Os, rel, KE.bind k fun x σ1 v H1 F1 Os1 rel1 rx l1 gr1 k1 => ⟨by show 2 ≤ sizeLine; decide, fun q nq => ?_⟩⟩
  split at k1
  · rename_i ok
    have xt := Ext.laid (o := .tup [.ty t.py, .ty t'.py]) rel1.le nq
    exact ⟨v, upd F1 q _, x, q, rfl, xt.le, rx.mono xt.ff, ok, upd_same, k1 _ _ _ _ (rel1.ext xt) (.bl _) (xt.gr pu)⟩
  · exact k1.elim
end
end JH

/-! JB6: owned lists that are read (peek), popped; arguments and calls. -/
namespace JH
open PySem PySem.Spec PyProof.Rows L2
section
variable {T : Tab} {G : Nat → Option D} {g : SG} {W : WX} {pu : Bool} {X : Cx} {a b c : Expr} {ia ib ic r : IE} {rest : List Expr} {pos p2 p : Pos}
/-! ### a list that is not frozen, read by a built-in function -/
def rFM (g : SG) (f : B1) : List V → Hp → VK → Prop := fun xs H Q => ∃ a vs F ds d, xs = [.ref a] ∧ LeH F H ∧ H a = some (.lst vs) ∧ vs.length ≤ sizeLine ∧ RDs g F ds vs ∧ dB1 f (.lst ds) = some d ∧ ∀ v H' F', Ext H F H' F' → RD g F' d v → Q v H'
theorem m_len : CallR X (.builtin "len") (rFM g .len) := by
  intro pins s σ H xs us Q I r h
  obtain ⟨a, vs, F, ds, d, rfl, le, ha, z, rs, e, q⟩ := h
  cases e
  exact call_len_seq pins s σ H _ us Q I r ⟨a, vs, rfl, .inl (SqL.of ha), by rw [← rs.length]; exact q _ _ _ (Ext.refl le) (.int _)⟩
theorem m_tuple : CallR X (.type "tuple") (rFM g .tuple) := by
  intro pins s σ H xs us Q I r h
  obtain ⟨a, vs, F, ds, d, rfl, le, ha, z, rs, e, q⟩ := h
  cases e
  refine call_tuple_of pins s σ H _ us Q I r ⟨a, vs, rfl, .inl ⟨SqL.of ha, fun p np => ?_⟩⟩
  have x := Ext.laid (o := .tup vs) le np
  exact q _ _ _ x (.tup (SqT.of upd_same) z (rs.mono x.ff))
theorem m_list : CallR X (.type "list") (rFM g .list) := by
  intro pins s σ H xs us Q I r h
  obtain ⟨a, vs, F, ds, d, rfl, le, ha, z, rs, e, q⟩ := h
  cases e
  refine call_list_of pins s σ H _ us Q I r ⟨a, vs, rfl, .inl (SqL.of ha), fun p np => ?_⟩
  have x := Ext.laid (o := .lst vs) le np
  exact q _ _ _ x (.lst upd_same z (rs.mono x.ff))
theorem m_sum (hc : X.calm = true) : CallR X (.builtin "sum") (rFM g .sum) := by
  intro pins s σ H xs us Q I r h
  obtain ⟨a, vs, F, ds, d, rfl, le, ha, z, rs, e, q⟩ := h
  obtain ⟨ns, e1, rfl⟩ := Option.map_eq_some_iff.mp e
  have ev := rs.ints e1
  subst ev
  exact cr_sum hc pins s σ H _ us Q I r ⟨a, ns, rfl, SqL.of ha, q _ _ _ (Ext.refl le) (.int _)⟩
theorem m_sorted : CallR X (.builtin "sorted") (rFM g .sorted) := by
  intro pins s σ H xs us Q I r h
  obtain ⟨a, vs, F, ds, d, rfl, le, ha, z, rs, e, q⟩ := h
  obtain ⟨ns, e1, rfl⟩ := Option.map_eq_some_iff.mp e
  have ev := rs.ints e1
  subst ev
  refine cr_sortedI pins s σ H _ us Q I r ⟨a, ns, rfl, SqL.of ha, fun ns' p hp hs np => ?_⟩
  have en : ns' = isort ns := sorted_unique (hp.trans (isort_perm ns).symm) hs (isort_sorted ns)
  subst en
  have x := Ext.laid (o := .lst ((isort ns).map V.int)) le np
  exact q _ _ _ x (.lst upd_same (by rw [List.length_map, (isort_perm ns).length_eq]; simpa using z) (RDs.ofInts _))
def B1.pk : B1 → Bool
  | .len => true | .tuple => true | .list => true | .sum => true | .sorted => true | _ => false
theorem e_pb1raw {f : B1} {x : Str} {ta : TE} (hf : f.pk = true) (hx : x = f.nm) (hc : X.calm = true) (hs : nStar a = true) (hg : Gl X x) (hm : X.mg x = none) (ha : PE X a ta) : PE X (.Call (.Name x p) [a] [] pos) (tCB (rFM g f) (tCons ta tNil)) := by
  subst hx
  have hs' := starEach_of hs [] X.env
  have pa : PA X [a] (tCons ta tNil) := pa_cons ha pa_nil hs'
  cases f <;> first | (simp [B1.pk] at hf; done) | skip
  · exact pe_callB m_len hg hm PySem.boot_len pa (by decide) (by decide) hs' rfl
  · exact pe_callTy m_tuple hg hm (by decide +kernel) pa (by decide) (by decide) hs' rfl
  · exact pe_callTy m_list hg hm (by decide +kernel) pa (by decide) (by decide) hs' rfl
  · exact pe_callB (m_sum hc) hg hm (by decide +kernel) pa (by decide) (by decide) hs' rfl
  · exact pe_callB m_sorted hg hm (by decide +kernel) pa (by decide) (by decide) hs' rfl
theorem peek_of {H F : Hp} {m : M} {v : V} {S : Addr → Prop} {d : D} (rm : RM g H F m v S) (h : peek m = some d) : ∃ a vs ds, v = .ref a ∧ d = .lst ds ∧ S a ∧ H a = some (.lst vs) ∧ vs.length ≤ sizeLine ∧ RDs g F ds vs := by
  cases rm with
  | lst sa ha hz hr =>
    obtain ⟨ds, e, rfl⟩ := Option.map_eq_some_iff.mp h
    exact ⟨_, _, ds, rfl, rfl, sa, ha, hz, hr.leaves e⟩
  | _ => simp [peek] at h
theorem e_pb1 {f : B1} {x y : Str} {i : Nat} (hf : f.pk = true) (hx : x = f.nm) (hc : X.calm = true) (hg : Gl X x) (hm : X.mg x = none)
    (hN : X.N[i]? = some y) (hv : Vis X.env.scope y) (hd : (y == ("__debug__" : Str)) = false) (hcd : (y == ("__classdict__" : Str)) = false) : PE X (.Call (.Name x p) [.Name y p2] [] pos) (tE T G g W pu (.pb1 f (.root i))) :=
  (e_pb1raw (g := g) hf hx hc rfl hg hm (pe_var hN hv hd hcd)).imp fun σ H Q ⟨σd, F, Os, rel, k⟩ => by
    simp only [evE, getPl] at k
    obtain ⟨d, ed, q⟩ := KE.ofO k
    obtain ⟨m, e1, e2⟩ := Option.bind_eq_some_iff.mp ed
    obtain ⟨d1, e3, e4⟩ := Option.bind_eq_some_iff.mp e2
    obtain ⟨v, hv, rm⟩ := rel.get e1
    obtain ⟨a, vs, ds, rfl, rfl, sa, ha, hz, rs⟩ := peek_of rm e3
    exact ⟨_, hv, a, vs, F, ds, d, rfl, rel.le, ha, hz, rs, e4, fun w H' F' xt rw => q w H' F' Os (rel.ext xt) rw (xt.gr pu)⟩

/-! ### a slot's tree is changed in place -/
theorem Rel.write {H F : Hp} {σd : Env} {σ : L2.St} {Os : Nat → Addr → Prop} (rel : Rel g H F σd σ Os) {i : Nat} {m m' : M} {v : V} {a : Addr} {o : HO} (h : (σd[i]?).bind id = some m) (hv : σ[i]? = some (some v)) (sa : Os i a) (ha : H a ≠ none)
    (hm : RM g (upd H a o) F m' v (Os i)) : Rel g (upd H a o) F (σd.set i (some m')) σ Os ∧ Gr false H F (Own Os) (upd H a o) F (Own Os) := by
  have fa : F a = none := rel.nf i a sa
  have al : ∀ b, H b ≠ none → upd H a o b ≠ none := fun b hb => by
    by_cases e : b = a
    · subst e; rw [upd_same]; simp
    · rw [upd_ne e]; exact hb
  refine ⟨⟨fun b u e => ?_, by simpa using rel.len, fun j m2 e => ?_, rel.dj, rel.nf, fun j b z => al b (rel.al j b z)⟩, ⟨LeH.refl F, fun b u e n => ?_, al, fun _ z => .inl z, fun _ z => .inl z⟩⟩
  · have : b ≠ a := fun z => by subst z; rw [fa] at e; cases e
    rw [upd_ne this]
    exact rel.le b u e
  · by_cases hj : j = i
    · subst hj
      have hlt : j < σd.length := by
        cases q : σd[j]? with
        | none => rw [q] at h; cases h
        | some o => exact (List.getElem?_eq_some_iff.mp q).1
      rw [List.getElem?_set_self hlt] at e
      cases e
      exact ⟨v, hv, hm⟩
    · rw [List.getElem?_set_ne (Ne.symm hj)] at e
      obtain ⟨v', e1, q⟩ := rel.sl j m2 e
      refine ⟨v', e1, q.frame (LeH.refl F) fun b u z e => ?_⟩
      have : b ≠ a := fun w => by subst w; exact hj (rel.dj j i b z sa)
      rw [upd_ne this]
      exact e
  · have : b ≠ a := fun z => by subst z; exact n ⟨rfl, i, sa⟩
    rw [upd_ne this]
    exact e
theorem upd_out {H : Hp} {a : Addr} {o : HO} {S : Addr → Prop} : ∀ b u, (S b ∧ b ≠ a) → H b = some u → upd H a o b = some u := fun b u z e => by
  rw [upd_ne z.2]
  exact e
theorem ix_seq' {n : Nat} {i : Int} {j : Nat} (h : ixD n i = some j) : seqIndex? i n = some j ∧ j < n := by
  have := ixN_seq (n := n) (i := i) (j := j) h
  exact ⟨this.1, this.2.1⟩
theorem KE_there {α β : Type} {R : Hp → α → β → Prop} {H F : Hp} {σd : Env} {σ : L2.St} {Os : Nat → Addr → Prop} {O : Addr → Prop} {Q : β → Hp → Prop} {i : Nat} {f : Unit → Env → ER α} (rel : Rel g H F σd σ Os) (k : KE g W pu R σ H F O Q ((there (.root i) σd).bind f)) :
    ∃ ms v, (σd[i]?).bind id = some (.lst ms) ∧ σ[i]? = some (some v) ∧ KE g W pu R σ H F O Q (f () σd) := by
  cases h0 : (getPl σd (.root i)).bind M.isL with
  | none => simp only [there, h0] at k; exact k.elim
  | some m0 =>
    obtain ⟨m1, h1, h2⟩ := Option.bind_eq_some_iff.mp h0
    obtain ⟨v, hv, _⟩ := rel.get (m := m1) h1
    simp only [there, h0, ofO_some, ER.bind_ok] at k
    cases m1 <;> first | (simp [M.isL] at h2; done) | exact ⟨_, v, h1, hv, k⟩
/-- xs.pop() -/
theorem e_pop {i : Nat} {y : Str} {apos : Pos} (hl : (apos.endLine == pos.line) = true) (hN : X.N[i]? = some y) (hv : Vis X.env.scope y) (hd : (y == ("__debug__" : Str)) = false) (hcd : (y == ("__classdict__" : Str)) = false) :
    PE X (.Call (.Attribute (.Name y p2) "pop" apos) [] [] pos) (tE T G g W false (.pop (.root i))) :=
  (pe_bm0 PySem.F.plainAttrs_list PySem.F.slot_list_pop PySem.F.type_list_pop mt_pop (pe_var hN hv hd hcd) rfl hl).imp fun σ H Q ⟨σd, F, Os, rel, k⟩ => by
    simp only [evE, getPl, setPl] at k
    cases e0 : ((σd[i]?).bind id).bind mPop with
    | none => rw [e0] at k; exact k.elim
    | some r =>
      rw [e0] at k
      obtain ⟨m, e1, e2⟩ := Option.bind_eq_some_iff.mp e0
      obtain ⟨v, hv, rm⟩ := rel.get e1
      unfold mPop at e2
      split at e2
      · rename_i ms
        obtain ⟨x, e3, rfl⟩ := Option.map_eq_some_iff.mp e2
        obtain ⟨m', e4, e5⟩ := Option.bind_eq_some_iff.mp e3
        rw [leaf_of e5, List.getLast?_eq_getElem?] at e4
        cases rm with
        | lst sa ha hz hr =>
          rename_i a vs
          obtain ⟨w, hw, rw'⟩ := hr.getD e4
          rw [hr.length] at hw
          refine ⟨_, hv, .inl ⟨rfl, _, SqL.of ha⟩, a, vs, w, rfl, rfl, ha, hw, ?_⟩
          obtain ⟨rel2, gr2⟩ := rel.write (o := .lst vs.dropLast) (m' := .lst ms.dropLast) e1 hv sa (by rw [ha]; simp)
            (.lst sa upd_same (Nat.le_trans (by simp) hz) (hr.dropLast.frame (LeH.refl F) upd_out))
          exact k _ _ _ _ rel2 rw' gr2
      · cases e2
/-- xs.pop(i) -/
theorem e_popi {i : Nat} {y : Str} {apos : Pos} (hl : (apos.endLine == pos.line) = true) (hs : nStar a = true) (hN : X.N[i]? = some y) (hv : Vis X.env.scope y) (hd : (y == ("__debug__" : Str)) = false) (hcd : (y == ("__classdict__" : Str)) = false) (ha : PE X a (tE T G g W false ia)) :
    PE X (.Call (.Attribute (.Name y p2) "pop" apos) [a] [] pos) (tE T G g W false (.popi (.root i) ia)) :=
  (pe_bm PySem.F.plainAttrs_list PySem.F.slot_list_pop PySem.F.type_list_pop mt_popAt (pe_var hN hv hd hcd) (pa_cons ha pa_nil (starEach_of hs [] X.env)) rfl (by rw [starEach_of hs] <;> rfl) hl (starEach_of hs [] X.env) rfl).imp fun σ H Q ⟨σd, F, Os, rel, k⟩ => by
    simp only [evE, getPl, setPl] at k
    obtain ⟨ms, v, h1, hv, hk⟩ := KE_there rel k
    obtain ⟨v2, hv2, rm0⟩ := rel.get h1
    rw [hv] at hv2
    cases hv2
    refine ⟨v, hv, ?_, ?_⟩
    · cases rm0 with
      | lst sa ha hz hr => exact .inl ⟨rfl, _, SqL.of ha⟩
    · refine ⟨σd, F, Os, rel, KE.bind hk fun z σ1 u H1 F1 Os1 rel1 rz l1 gr1 k1 => ?_⟩
      cases e0 : ((σ1[i]?).bind id).bind (fun m => mPopi m z) with
      | none => rw [e0] at k1; exact k1.elim
      | some r =>
        rw [e0] at k1
        obtain ⟨m, e1, e2⟩ := Option.bind_eq_some_iff.mp e0
        obtain ⟨v2, hv2, rm⟩ := rel1.get e1
        rw [hv] at hv2
        cases hv2
        unfold mPopi at e2
        split at e2
        · rename_i ms2 n
          split at e2
          · rename_i hsm
            obtain ⟨j, e3, e4⟩ := Option.bind_eq_some_iff.mp e2
            obtain ⟨x, e5, rfl⟩ := Option.map_eq_some_iff.mp e4
            obtain ⟨m', e6, e7⟩ := Option.bind_eq_some_iff.mp e5
            rw [leaf_of e7] at e6
            cases rz
            simp only [smallR, Bool.and_eq_true, decide_eq_true_eq] at hsm
            cases rm with
            | lst sa ha hz hr =>
              rename_i a vs
              obtain ⟨w, hw, rw'⟩ := hr.getD e6
              have hl := hr.length
              rw [hl] at e3
              obtain ⟨s1, s2⟩ := ix_seq' e3
              refine ⟨a, vs, n, j, w, rfl, rfl, ha, by omega, by omega, s1, hw, ?_⟩
              obtain ⟨rel2, gr2⟩ := rel1.write (o := .lst (vs.eraseIdx j)) (m' := .lst (ms2.eraseIdx j)) e1 hv sa (by rw [ha]; simp)
                (.lst sa upd_same (Nat.le_trans (L2.len_erase _ _) hz) ((hr.eraseIdx j).frame (LeH.refl F1) upd_out))
              exact k1 _ _ _ _ rel2 rw' gr2
          · cases e2
        · cases e2
end
end JH

/-! JB7: arguments, calls of the program's defs. -/
namespace JH
open PySem PySem.Spec PyProof.Rows L2
section
variable {T : Tab} {G : Nat → Option D} {g : SG} {W : WX} {pu : Bool} {X : Cx} {a b c : Expr} {ia ib ic r : IE} {rest es : List Expr} {pos p2 p : Pos}
theorem RA.mono {σ : L2.St} {F F' : Hp} (l : LeH F F') {x : AV} {v : V} (h : RA g σ F x v) : RA g σ F' x v := by
  cases x with
  | d x => exact RD.mono l h
  | m i => exact h
theorem RAs.mono {σ : L2.St} {F F' : Hp} (l : LeH F F') : ∀ {x : List AV} {v : List V}, RAs g σ F x v → RAs g σ F' x v
  | _, _, .nil => .nil
  | _, _, .cons h t => .cons (h.mono l) (RAs.mono l t)
theorem a_nil : PA X [] (tAr T G g W pu .nil) := pa_nil.imp fun σ H Q ⟨σd, F, Os, rel, k⟩ => by
  simp only [evA] at k
  exact k [] H F Os rel .nil (Gr.refl pu _ _ _)
def IE.isMarg : IE → Bool
  | .marg _ => true
  | _ => false
theorem evA_cons (h : ia.isMarg = false) (σ : Env) : evA T G (.cons ia r) σ = (evE T G ia σ).bind fun x σ1 => (evA T G r σ1).bind fun xs σ2 => .ok (.d x :: xs) σ2 := by
  cases ia <;> first | (simp [IE.isMarg] at h; done) | (simp only [evA])
theorem a_cons (h : ia.isMarg = false) (hs : nStar a = true) (ha : PE X a (tE T G g W pu ia)) (hr : PA X es (tAr T G g W pu r)) : PA X (a :: es) (tAr T G g W pu (.cons ia r)) :=
  (pa_cons ha hr (starEach_of hs es X.env)).imp fun σ H Q ⟨σd, F, Os, rel, k⟩ => by
    rw [evA_cons h] at k
    refine ⟨σd, F, Os, rel, KE.bind k fun x σ1 v H1 F1 Os1 rel1 rx l1 gr1 k1 => ⟨σ1, F1, Os1, rel1, KE.bind k1 fun xs σ2 vs H2 F2 Os2 rel2 rxs l2 gr2 k2 => ?_⟩⟩
    exact k2 _ _ _ _ rel2 (.cons (RA.mono (x := .d x) l2 rx) rxs) (Gr.refl pu _ _ _)
theorem a_marg {i : Nat} {y : Str} (hN : X.N[i]? = some y) (hv : Vis X.env.scope y) (hd : (y == ("__debug__" : Str)) = false) (hcd : (y == ("__classdict__" : Str)) = false) (hr : PA X es (tAr T G g W pu r)) : PA X (.Name y p :: es) (tAr T G g W pu (.cons (.marg i) r)) :=
  (pa_cons (pe_var hN hv hd hcd) hr (starEach_of rfl es X.env)).imp fun σ H Q ⟨σd, F, Os, rel, k⟩ => by
    simp only [evA] at k
    cases e : (σd[i]?).bind id with
    | none => rw [e] at k; exact k.elim
    | some m =>
      rw [e] at k
      obtain ⟨v, hv, rm⟩ := rel.get e
      refine ⟨v, hv, σd, F, Os, rel, KE.bind k fun xs σ2 vs H2 F2 Os2 rel2 rxs l2 gr2 k2 => ?_⟩
      exact k2 _ _ _ _ rel2 (.cons (show RA g σ F2 (.m i) v from hv) rxs) (Gr.refl pu _ _ _)

/-! ### the promise of a def -/
def KC (g : SG) (vs : List V) (H F : Hp) (O : Addr → Prop) (Q : VK) (E : XK) : CR → Prop
  | .ret d outs => ∀ v H' F' Os', Rel g H' F' outs (vs.map some) Os' → RD g F' d v → Gr false H F O H' F' (Own Os') → Q v H'
  | .exc e => ∀ cls dd H' F', LeH F' H' → RX g F' e cls dd → Gr false H F O H' F' (fun _ => False) → E cls dd H'
  | .stuck => False
def spF (g : SG) (T : Tab) (f : Nat) : Sp := fun vs H Q E => ∃ ms F Os, Rel g H F (ms.map some) (vs.map some) Os ∧ KC g vs H F (Own Os) Q E (T f ms)

/-- where a slot is handed over -/
def slotIx : List AV → Nat → Option Nat
  | [], _ => none
  | .m j :: r, i => if j = i then some 0 else (slotIx r i).map (· + 1)
  | .d _ :: r, i => (slotIx r i).map (· + 1)
theorem slotIx_mem : ∀ {avs : List AV} {i k : Nat}, slotIx avs i = some k → avs[k]? = some (.m i) ∧ i ∈ avSlots avs
  | .m j :: r, i, k, h => by
    unfold slotIx at h
    split at h
    · rename_i e
      subst e
      cases h
      exact ⟨rfl, by simp [avSlots]⟩
    · obtain ⟨k', e1, rfl⟩ := Option.map_eq_some_iff.mp h
      obtain ⟨a1, a2⟩ := slotIx_mem e1
      exact ⟨by simpa using a1, by simp [avSlots, a2]⟩
  | .d _ :: r, i, k, h => by
    unfold slotIx at h
    obtain ⟨k', e1, rfl⟩ := Option.map_eq_some_iff.mp h
    obtain ⟨a1, a2⟩ := slotIx_mem e1
    exact ⟨by simpa using a1, by simpa [avSlots] using a2⟩
theorem slotIx_none : ∀ {avs : List AV} {i : Nat}, slotIx avs i = none → i ∉ avSlots avs
  | [], _, _ => by simp [avSlots]
  | .m j :: r, i, h => by
    unfold slotIx at h
    split at h
    · cases h
    · rename_i e
      have := slotIx_none (Option.map_eq_none_iff.mp h)
      simp only [avSlots, List.mem_cons, not_or]
      exact ⟨fun z => e z.symm, this⟩
  | .d _ :: r, i, h => by
    unfold slotIx at h
    have := slotIx_none (Option.map_eq_none_iff.mp h)
    simpa [avSlots] using this
theorem slotIx_of : ∀ {avs : List AV} {i k : Nat}, nodupB (avSlots avs) = true → avs[k]? = some (.m i) → slotIx avs i = some k
  | .m j :: r, i, 0, nd, h => by
    simp at h
    subst h
    simp [slotIx]
  | .m j :: r, i, k + 1, nd, h => by
    simp only [avSlots, nodupB, Bool.and_eq_true, Bool.not_eq_true', List.contains_eq_mem, decide_eq_false_iff_not] at nd
    have h' : r[k]? = some (.m i) := by simpa using h
    have ih := slotIx_of nd.2 h'
    have hm := (slotIx_mem ih).2
    have : j ≠ i := fun e => nd.1 (e ▸ hm)
    simp [slotIx, this, ih]
  | .d _ :: r, i, k, nd, h => by
    cases k with
    | zero => simp at h
    | succ k =>
      have h' : r[k]? = some (.m i) := by simpa using h
      have ih := slotIx_of (avs := r) (by simpa [avSlots] using nd) h'
      simp [slotIx, ih]
theorem putOuts_len : ∀ (avs : List AV) (os σ : Env), (putOuts σ avs os).length = σ.length
  | [], _, _ => rfl
  | .m i :: r, o :: os, σ => by unfold putOuts; rw [putOuts_len r os]; simp
  | .m i :: r, [], σ => by unfold putOuts; rw [putOuts_len r []]; simp
  | .d _ :: r, o :: os, σ => by unfold putOuts; rw [putOuts_len r os]
  | .d _ :: r, [], σ => by unfold putOuts; rw [putOuts_len r []]
theorem putOuts_out : ∀ (avs : List AV) (os σ : Env) (i : Nat), i ∉ avSlots avs → (putOuts σ avs os)[i]? = σ[i]?
  | [], _, _, _, _ => rfl
  | .m j :: r, o :: os, σ, i, h => by
    simp only [avSlots, List.mem_cons, not_or] at h
    unfold putOuts
    rw [putOuts_out r os _ i h.2, List.getElem?_set_ne (Ne.symm h.1)]
  | .m j :: r, [], σ, i, h => by
    simp only [avSlots, List.mem_cons, not_or] at h
    unfold putOuts
    rw [putOuts_out r [] _ i h.2, List.getElem?_set_ne (Ne.symm h.1)]
  | .d _ :: r, o :: os, σ, i, h => by
    unfold putOuts
    exact putOuts_out r os _ i (by simpa [avSlots] using h)
  | .d _ :: r, [], σ, i, h => by
    unfold putOuts
    exact putOuts_out r [] _ i (by simpa [avSlots] using h)
theorem putOuts_in : ∀ (avs : List AV) (os σ : Env) (i k : Nat), nodupB (avSlots avs) = true → slotIx avs i = some k → i < σ.length → (putOuts σ avs os)[i]? = some ((os[k]?).bind id)
  | .m j :: r, o :: os, σ, i, k, nd, h, hl => by
    simp only [avSlots, nodupB, Bool.and_eq_true, Bool.not_eq_true', List.contains_eq_mem, decide_eq_false_iff_not] at nd
    unfold slotIx at h
    unfold putOuts
    split at h
    · rename_i e
      subst e
      cases h
      rw [putOuts_out r os _ j nd.1, List.getElem?_set_self hl]
      cases o <;> rfl
    · obtain ⟨k', e1, rfl⟩ := Option.map_eq_some_iff.mp h
      rw [putOuts_in r os _ i k' nd.2 e1 (by simpa using hl)]
      simp
  | .m j :: r, [], σ, i, k, nd, h, hl => by
    simp only [avSlots, nodupB, Bool.and_eq_true, Bool.not_eq_true', List.contains_eq_mem, decide_eq_false_iff_not] at nd
    unfold slotIx at h
    unfold putOuts
    split at h
    · rename_i e
      subst e
      cases h
      rw [putOuts_out r [] _ j nd.1, List.getElem?_set_self hl]
      rfl
    · obtain ⟨k', e1, rfl⟩ := Option.map_eq_some_iff.mp h
      rw [putOuts_in r [] _ i k' nd.2 e1 (by simpa using hl)]
      simp
  | .d _ :: r, o :: os, σ, i, k, nd, h, hl => by
    unfold slotIx at h
    unfold putOuts
    obtain ⟨k', e1, rfl⟩ := Option.map_eq_some_iff.mp h
    rw [putOuts_in r os _ i k' (by simpa [avSlots] using nd) e1 hl]
    simp
  | .d _ :: r, [], σ, i, k, nd, h, hl => by
    unfold slotIx at h
    unfold putOuts
    obtain ⟨k', e1, rfl⟩ := Option.map_eq_some_iff.mp h
    rw [putOuts_in r [] _ i k' (by simpa [avSlots] using nd) e1 hl]
    simp
theorem dropOuts_eq : ∀ (avs : List AV) (σ : Env), dropOuts σ avs = putOuts σ avs []
  | [], _ => rfl
  | .m i :: r, σ => by unfold dropOuts putOuts; exact dropOuts_eq r _
  | .d _ :: r, σ => by unfold dropOuts putOuts; exact dropOuts_eq r _
theorem avMs_get : ∀ {avs : List AV} {σ : Env} {ms : List M}, avMs σ avs = some ms → ms.length = avs.length ∧ ∀ (k : Nat) (m : M), ms[k]? = some m → ∃ av, avs[k]? = some av ∧ avM σ av = some m
  | [], σ, ms, h => by
    cases h
    exact ⟨rfl, fun k m e => by simp at e⟩
  | av :: r, σ, ms, h => by
    unfold avMs at h
    obtain ⟨m0, e1, e2⟩ := Option.bind_eq_some_iff.mp h
    obtain ⟨ms', e3, rfl⟩ := Option.map_eq_some_iff.mp e2
    obtain ⟨h1, h2⟩ := avMs_get e3
    refine ⟨by simp [h1], fun k m e => ?_⟩
    cases k with
    | zero =>
      simp at e
      subst e
      exact ⟨av, rfl, e1⟩
    | succ k =>
      obtain ⟨av', q1, q2⟩ := h2 k m (by simpa using e)
      exact ⟨av', by simpa using q1, q2⟩
theorem RAs.len {σ : L2.St} {F : Hp} : ∀ {avs : List AV} {vs : List V}, RAs g σ F avs vs → avs.length = vs.length
  | _, _, .nil => rfl
  | _, _, .cons _ t => by simp [RAs.len t]
theorem RAs.get {σ : L2.St} {F : Hp} : ∀ {avs : List AV} {vs : List V} {k : Nat} {av : AV}, RAs g σ F avs vs → avs[k]? = some av → ∃ v, vs[k]? = some v ∧ RA g σ F av v
  | _, _, _, _, .nil, e => by simp at e
  | _, _, 0, _, .cons h t, e => by
    simp at e
    subst e
    exact ⟨_, rfl, h⟩
  | _, _, k + 1, _, .cons h t, e => by
    obtain ⟨v, q1, q2⟩ := RAs.get t (by simpa using e)
    exact ⟨v, by simpa using q1, q2⟩

/-- the slots that are handed over, by the argument's number -/
def handed (Os : Nat → Addr → Prop) (avs : List AV) : Nat → Addr → Prop := fun k a => ∃ i, avs[k]? = some (.m i) ∧ Os i a
theorem call_in {H F : Hp} {σd : Env} {σ : L2.St} {Os : Nat → Addr → Prop} {avs : List AV} {vs : List V} {ms : List M} (rel : Rel g H F σd σ Os) (ra : RAs g σ F avs vs) (hm : avMs σd avs = some ms) (nd : nodupB (avSlots avs) = true) :
    Rel g H F (ms.map some) (vs.map some) (handed Os avs) := by
  obtain ⟨h1, h2⟩ := avMs_get hm
  refine ⟨rel.le, by simp [h1, ra.len], fun k m e => ?_, fun k k' a ⟨i, e1, e2⟩ ⟨i', e3, e4⟩ => ?_, fun k a ⟨i, _, e⟩ => rel.nf i a e, fun k a ⟨i, _, e⟩ => rel.al i a e⟩
  · have e' : ms[k]? = some m := by simpa using e
    obtain ⟨av, q1, q2⟩ := h2 k m e'
    obtain ⟨v, q3, q4⟩ := ra.get q1
    refine ⟨v, by simp [q3], ?_⟩
    cases av with
    | d x =>
      cases q2
      exact .d q4
    | m i =>
      obtain ⟨v', q5, q6⟩ := rel.get (show (σd[i]?).bind id = some m from q2)
      have q4' : σ[i]? = some (some v) := q4
      rw [q5] at q4'
      cases q4'
      exact q6.wide fun a z => ⟨i, q1, z⟩
  · have e5 := rel.dj i i' a e2 e4
    subst e5
    have s1 := slotIx_of nd e1
    have s2 := slotIx_of nd e3
    rw [s1] at s2
    exact Option.some.inj s2
theorem call_out {H F H' F' : Hp} {σd outs : Env} {σ : L2.St} {Os Os' : Nat → Addr → Prop} {avs : List AV} {vs : List V} (rel : Rel g H F σd σ Os) (ra : RAs g σ F avs vs) (nd : nodupB (avSlots avs) = true)
    (rel2 : Rel g H' F' outs (vs.map some) Os') (gr : Gr false H F (Own (handed Os avs)) H' F' (Own Os')) (hp : pu = true → avSlots avs = []) :
    ∃ Os2, Rel g H' F' (putOuts σd avs outs) σ Os2 ∧ Gr pu H F (Own Os) H' F' (Own Os2) := by
  refine ⟨fun i a => (∃ k, slotIx avs i = some k ∧ Os' k a) ∨ (slotIx avs i = none ∧ Os i a), ?_, ?_⟩
  · have hO : ∀ i a, slotIx avs i = none → Os i a → ¬ Own (handed Os avs) a := fun i a h1 h2 ⟨k, j, e1, e2⟩ => by
      have := rel.dj i j a h2 e2
      subst this
      rw [slotIx_of nd e1] at h1
      cases h1
    refine ⟨rel2.le, by rw [putOuts_len]; exact rel.len, fun i m e => ?_, fun i j a x y => ?_, fun i a x => ?_, fun i a x => ?_⟩
    · cases h : slotIx avs i with
      | none =>
        rw [putOuts_out _ _ _ _ (slotIx_none h)] at e
        obtain ⟨v, e1, q⟩ := rel.sl i m e
        refine ⟨v, e1, (q.frame gr.ff fun b o z e => gr.fr b o e fun w => hO i b h z w.2).wide fun b z => .inr ⟨by first | exact h | rfl, z⟩⟩
      | some k =>
        have hl : i < σd.length := by
          by_cases hl : i < σd.length
          · exact hl
          · rw [List.getElem?_eq_none (by rw [putOuts_len]; omega)] at e
            cases e
        rw [putOuts_in _ _ _ _ _ nd h hl] at e
        have e' : (outs[k]?).bind id = some m := Option.some.inj e
        obtain ⟨v, e1, q⟩ := rel2.get e'
        obtain ⟨v', e2, ra'⟩ := ra.get (slotIx_mem h).1
        have e3 : (vs.map some)[k]? = some (some v') := by simp [e2]
        have ev : v' = v := by
          rw [e3] at e1
          exact Option.some.inj (Option.some.inj e1)
        subst ev
        exact ⟨v', ra', q.wide fun b z => .inl ⟨k, by first | exact h | rfl, z⟩⟩
    · rcases x with ⟨k, h1, z1⟩ | ⟨h1, z1⟩ <;> rcases y with ⟨k', h2, z2⟩ | ⟨h2, z2⟩
      · have := rel2.dj k k' a z1 z2
        subst this
        have m1 := (slotIx_mem h1).1
        have m2 := (slotIx_mem h2).1
        rw [m1] at m2
        cases m2
        rfl
      · exfalso
        rcases gr.ow a ⟨k, z1⟩ with w | w
        · exact hO j a h2 z2 w
        · exact rel.al j a z2 w
      · exfalso
        rcases gr.ow a ⟨k', z2⟩ with w | w
        · exact hO i a h1 z1 w
        · exact rel.al i a z1 w
      · exact rel.dj i j a z1 z2
    · rcases x with ⟨k, h1, z1⟩ | ⟨h1, z1⟩
      · exact rel2.nf k a z1
      · cases e : F' a with
        | none => rfl
        | some o =>
          exfalso
          rcases gr.fz a (by rw [e]; simp) with w | w | w
          · exact w (rel.nf i a z1)
          · exact hO i a h1 z1 w.2
          · exact rel.al i a z1 w
    · rcases x with ⟨k, h1, z1⟩ | ⟨h1, z1⟩
      · exact rel2.al k a z1
      · exact gr.al a (rel.al i a z1)
  · have hh : ∀ a, Own (handed Os avs) a → (pu = false ∧ Own Os a) := fun a ⟨k, j, e1, e2⟩ => by
      refine ⟨?_, j, e2⟩
      cases hpu : pu with
      | false => rfl
      | true =>
        have := (slotIx_mem (slotIx_of nd e1)).2
        rw [hp hpu] at this
        cases this
    refine ⟨gr.ff, fun a o e n => gr.fr a o e fun w => n (hh a w.2), gr.al, fun a ⟨i, x⟩ => ?_, fun a e => ?_⟩
    · rcases x with ⟨k, h1, z1⟩ | ⟨h1, z1⟩
      · exact (gr.ow a ⟨k, z1⟩).imp (fun w => (hh a w).2) id
      · exact .inl ⟨i, z1⟩
    · rcases gr.fz a e with w | w | w
      · exact .inl w
      · exact .inr (.inl (hh a w.2))
      · exact .inr (.inr w)
theorem putOuts_nones : ∀ (avs : List AV) (σ : Env) (n : Nat), putOuts σ avs (List.replicate n none) = putOuts σ avs []
  | [], _, _ => rfl
  | .m i :: r, σ, 0 => rfl
  | .m i :: r, σ, n + 1 => by
    rw [List.replicate_succ]
    unfold putOuts
    exact putOuts_nones r _ n
  | .d _ :: r, σ, 0 => rfl
  | .d _ :: r, σ, n + 1 => by
    rw [List.replicate_succ]
    unfold putOuts
    exact putOuts_nones r _ n
theorem call_exc {H F H' F' : Hp} {σd : Env} {σ : L2.St} {Os : Nat → Addr → Prop} {avs : List AV} {vs : List V} (rel : Rel g H F σd σ Os) (ra : RAs g σ F avs vs) (nd : nodupB (avSlots avs) = true)
    (le : LeH F' H') (gr : Gr false H F (Own (handed Os avs)) H' F' (fun _ => False)) (hp : pu = true → avSlots avs = []) :
    ∃ Os2, Rel g H' F' (dropOuts σd avs) σ Os2 ∧ Gr pu H F (Own Os) H' F' (Own Os2) := by
  rw [dropOuts_eq, ← putOuts_nones avs σd vs.length]
  refine call_out (Os' := fun _ _ => False) (vs := vs) rel ra nd ⟨le, by simp, fun i m e => ?_, fun _ _ _ z => z.elim, fun _ _ z => z.elim, fun _ _ z => z.elim⟩ ⟨gr.ff, gr.fr, gr.al, fun a ⟨_, z⟩ => z.elim, gr.fz⟩ hp
  rw [List.getElem?_replicate] at e
  split at e <;> cases e
def IE.noM : IE → Bool
  | .cons a r => !a.isMarg && r.noM
  | _ => true
theorem evA_noM : ∀ (l : IE) (σ σ' : Env) (avs : List AV), l.noM = true → evA T G l σ = .ok avs σ' → avSlots avs = [] := by
  intro l
  induction l with
  | nil => intro σ σ' avs _ h; simp only [evA] at h; cases h; rfl
  | cons a r _ ih =>
    intro σ σ' avs hn h
    simp only [IE.noM, Bool.and_eq_true, Bool.not_eq_true'] at hn
    rw [evA_cons hn.1] at h
    cases e : evE T G a σ with
    | ok x σ1 =>
      rw [e] at h
      cases e2 : evA T G r σ1 with
      | ok xs σ2 =>
        simp only [ER.bind_ok, e2] at h
        cases h
        show avSlots xs = []
        exact ih _ _ _ hn.2 e2
      | exc _ _ => simp only [ER.bind_ok, e2, ER.bind_exc] at h; cases h
      | stuck => simp only [ER.bind_ok, e2, ER.bind_stuck] at h; cases h
    | exc _ _ => rw [e] at h; cases h
    | stuck => rw [e] at h; cases h
  | _ => intro σ σ' ds _ h; simp only [evA] at h; cases h
/-- a call's end, from the arguments -/
theorem call_fin {H F : Hp} {σd : Env} {σ : L2.St} {Os : Nat → Addr → Prop} {avs : List AV} {vs : List V} {f : Nat} {Q : VK} (rel : Rel g H F σd σ Os) (ra : RAs g σ F avs vs) (hp : pu = true → avSlots avs = [])
    (k : KE g W pu (RD g) σ H F (Own Os) Q (callWith T f avs σd)) : spF g T f vs H Q (fun cls dd H' => W cls dd σ H') := by
  unfold callWith at k
  split at k
  · rename_i nd
    split at k
    · rename_i ms hm
      refine ⟨ms, F, _, call_in rel ra hm nd, ?_⟩
      cases e : T f ms with
      | ret d outs =>
        rw [e] at k
        intro v H' F' Os' rel2 rd gr
        obtain ⟨Os2, r2, g2⟩ := call_out rel ra nd rel2 gr hp
        exact k v H' F' Os2 r2 rd g2
      | exc x =>
        rw [e] at k
        intro cls dd H' F' le rx gr
        obtain ⟨Os2, r2, g2⟩ := call_exc rel ra nd le gr hp
        exact k cls dd H' F' Os2 r2 rx g2
      | stuck =>
        rw [e] at k
        exact k
    · exact k.elim
  · exact k.elim
theorem e_call {k f : Nat} {ad : Addr} {fd : FuncData} {ps : List Str} {x : Str} (F : FnOk X.prog X.w X.K X.mg X.base (L2.CX X.prog X.w) k ad fd ps (spF g T f)) (hr : Room k X.A) (hg : Gl X x) (hm : X.mg x = some (.ref ad)) (hk : PySem.W.keepIn X.K (.ref ad) = true)
    (hb : L2.Binds X.K fd ps []) (tk : Takes X W) (hs : nStar a = true) (hss : es.all nStar = true) (hdb : (x == ("__debug__" : Str)) = false) (hp : pu = true → r.noM = true) (ha : PA X (a :: es) (tAr T G g W pu r)) :
    PE X (.Call (.Name x p) (a :: es) [] pos) (tE T G g W pu (.call f r)) :=
  (pe_callS F hr hg hm hk hb (fun σ => passAt tk σ) ha hdb (starEach_of hs es X.env) (noStars _ _ _ hss)).imp fun σ H Q ⟨σd, F, Os, rel, k⟩ => by
    simp only [evE] at k
    refine ⟨σd, F, Os, rel, KE.bindE k fun avs σ1 vs H1 F1 Os1 e rel1 ra l1 gr1 k1 => ?_⟩
    exact call_fin rel1 ra (fun h => evA_noM _ _ _ _ (hp h) e) k1
end
end JH

/-! JB8: targets, what is walked, comprehensions. -/
namespace JH
open PySem PySem.Spec PyProof.Rows L2
def tgS : Tg → List Nat
  | .nm i => [i]
  | .nil => []
  | .cons a r => tgS a ++ tgS r
def tgLen : Tg → Nat
  | .cons _ r => tgLen r + 1
  | _ => 0
section
variable (g : SG)
def tG (tg : Tg) : TG := fun v σ H Q => ∃ σd F Os d σd', Rel g H F σd σ Os ∧ RD g F d v ∧ asgT tg d σd = some σd' ∧
  ∀ σ' Os', Rel g H F σd' σ' Os' → σ'.length = σ.length → (∀ j, j ∉ tgS tg → σ'[j]? = σ[j]?) → (∀ a, Own Os' a → Own Os a) → Q σ' H
def tGs (tg : Tg) : TGs := fun vs σ H Q => ∃ σd F Os ds σd', Rel g H F σd σ Os ∧ RDs g F ds vs ∧ asgTs tg ds σd = some σd' ∧
  ∀ σ' Os', Rel g H F σd' σ' Os' → σ'.length = σ.length → (∀ j, j ∉ tgS tg → σ'[j]? = σ[j]?) → (∀ a, Own Os' a → Own Os a) → Q σ' H
end
section
variable {T : Tab} {G : Nat → Option D} {g : SG} {W : WX} {pu : Bool} {X : Cx} {a b c : Expr} {ia ib ic r : IE} {rest es : List Expr} {pos p2 p : Pos}
theorem Rel.asgn {H F : Hp} {σd : Env} {σ : L2.St} {Os : Nat → Addr → Prop} (rel : Rel g H F σd σ Os) {i : Nat} {d : D} {v : V} (rd : RD g F d v) : Rel g H F (σd.set i (some (.d d))) (σ.set i (some v)) (fun j a => j ≠ i ∧ Os j a) := by
  refine ⟨rel.le, by simpa using rel.len, fun j m e => ?_, fun j k a x y => rel.dj j k a x.2 y.2, fun j a x => rel.nf j a x.2, fun j a x => rel.al j a x.2⟩
  by_cases hj : j = i
  · subst hj
    have hlt : j < σd.length := by
      by_cases hlt : j < σd.length
      · exact hlt
      · rw [List.getElem?_eq_none (by simpa using hlt)] at e; cases e
    rw [List.getElem?_set_self hlt] at e
    cases e
    exact ⟨v, by rw [List.getElem?_set_self (by rw [← rel.len]; exact hlt)], .d rd⟩
  · rw [List.getElem?_set_ne (Ne.symm hj)] at e ⊢
    obtain ⟨v', e1, q⟩ := rel.sl j m e
    exact ⟨v', e1, q.wide fun a z => ⟨hj, z⟩⟩
theorem g_nm {i : Nat} {x : Str} (hN : X.N.Nodup) (hi : X.N[i]? = some x) (hx : Loc X.env.scope x) (hf : X.fn x = true ∨ X.env.scope.names.lookup x = some .local) : PG X (.Name x pos) (tG g (.nm i)) :=
  (pg_name hN hi hx hf).imp fun v σ H Q ⟨σd, F, Os, d, σd', rel, rd, e, k⟩ => by
    simp only [asgT] at e
    cases e
    refine k _ _ (rel.asgn rd) (by simp) (fun j hj => ?_) fun a ⟨i, z⟩ => ⟨i, z.2⟩
    have : i ≠ j := fun e => hj (by simp [tgS, e])
    rw [List.getElem?_set_ne this]
theorem gs_nil : PGs X [] (tGs g .nil) := ⟨fun pins s σ H vs us Q I r ⟨σd, F, Os, ds, σd', rel, rd, e, k⟩ => by
  refine pgs_nil.run pins s σ H vs us Q I r ?_
  simp only [asgTs] at e
  split at e
  · cases e
    cases rd
    exact ⟨rfl, k _ _ rel rfl (fun _ _ => rfl) fun _ z => z⟩
  · cases e⟩
theorem gs_cons {t u : Tg} (hs : nStar a = true) (h1 : PG X a (tG g t)) (h2 : PGs X es (tGs g u)) : PGs X (a :: es) (tGs g (.cons t u)) := ⟨fun pins s σ H vs us Q I r ⟨σd, F, Os, ds, σd', rel, rd, e, k⟩ => by
  refine (pgs_cons h1 h2 (by rw [assignEach_of hs]; rfl)).run pins s σ H vs us Q I r ?_
  cases rd with
  | nil => simp [asgTs] at e
  | cons r1 r2 =>
    simp only [asgTs] at e
    obtain ⟨σ1, e1, e2⟩ := Option.bind_eq_some_iff.mp e
    refine ⟨_, _, rfl, σd, F, Os, _, σ1, rel, r1, e1, fun σ' Os' rel' hl hj ho => ⟨σ1, F, Os', _, σd', rel', r2, e2, fun σ2 Os2 rel2 hl2 hj2 ho2 => ?_⟩⟩
    refine k σ2 Os2 rel2 (hl2.trans hl) (fun j hjj => ?_) fun a z => ho a (ho2 a z)
    simp only [tgS, List.mem_append, not_or] at hjj
    rw [hj2 j hjj.2, hj j hjj.1]⟩
theorem asgTs_len : ∀ (t : Tg) (ds : List D) (σ σ' : Env), asgTs t ds σ = some σ' → ds.length = tgLen t := by
  intro t
  induction t with
  | nm i => intro ds σ σ' h; simp [asgTs] at h
  | nil =>
    intro ds σ σ' h
    cases ds with
    | nil => rfl
    | cons _ _ => simp [asgTs] at h
  | cons a r _ ih =>
    intro ds σ σ' h
    cases ds with
    | nil => simp [asgTs] at h
    | cons x xs =>
      simp only [asgTs] at h
      obtain ⟨σ1, _, e2⟩ := Option.bind_eq_some_iff.mp h
      simp [tgLen, ih _ _ _ e2]
theorem asgT_tup {t u : Tg} {d : D} {σ σ' : Env} (h : asgT (.cons t u) d σ = some σ') : ∃ ds, d = .tup ds ∧ asgTs (.cons t u) ds σ = some σ' := by
  cases d with
  | tup xs =>
    cases xs with
    | nil => simp [asgT] at h
    | cons x xs => exact ⟨_, rfl, by simpa only [asgT, asgTs] using h⟩
  | _ => simp [asgT] at h
theorem g_tup {t u : Tg} {k : Nat} (hK : X.K = g.K) (hc : X.calm = true) (hn : (assignEach es X.env).length = tgLen (.cons t u)) (hst : (assignEach es X.env).findIdx? (·.1) = none) (h : PGs X es (tGs g (.cons t u))) : PG X (.Tuple es k pos) (tG g (.cons t u)) :=
  (pg_tup hc h hn hst).imp fun v σ H Q ⟨σd, F, Os, d, σd', rel, rd, e, q⟩ => by
    obtain ⟨ds, rfl, e2⟩ := asgT_tup e
    cases rd with
    | tup h1 z r =>
      refine ⟨_, _, rfl, by rw [hK]; exact SqT.mono h1 rel.le, ?_, σd, F, Os, ds, σd', rel, r, e2, q⟩
      rw [← r.length, asgTs_len _ _ _ _ e2]

/-! ### what is walked -/
structure Wk (g : SG) (J : It) (items : List D) (F0 : Hp) : Prop where
  go : ∀ i H, LeH F0 H → i < items.length → J.go i H
  yl : ∀ i H F x H' d, LeH F0 F → LeH F H → items[i]? = some d → J.yld i H x H' → ∃ F', Ext H F H' F' ∧ RD g F' d x
  st : ∀ i H, LeH F0 H → items.length ≤ i → J.stop i H
  sz : items.length ≤ 16777216
def tI (T : Tab) (G : Nat → Option D) (g : SG) (W : WX) (pu : Bool) (ie : IE) : TI := tV g W pu (fun F items J => Wk g J items F) (evI T G ie)
theorem rangeD_get {lo : Int} {n i : Nat} {d : D} (h : (rangeD lo n)[i]? = some d) : i < n ∧ d = .int (lo + i) := by
  unfold rangeD at h
  rw [List.getElem?_map] at h
  obtain ⟨j, h1, h2⟩ := Option.map_eq_some_iff.mp h
  obtain ⟨h3, h4⟩ := List.getElem?_eq_some_iff.mp h1
  simp only [List.length_range] at h3
  simp only [List.getElem_range] at h4
  subst h4
  exact ⟨h3, h2.symm⟩
theorem rangeD_len (lo : Int) (n : Nat) : (rangeD lo n).length = n := by simp [rangeD]
theorem wk_range {lo : Int} {n : Nat} (hn : n ≤ 16777216) (F : Hp) : Wk g (Itr lo n) (rangeD lo n) F := by
  refine ⟨fun i H _ h => by rw [rangeD_len] at h; exact h, fun i H F1 x H' d _ le h y => ?_, fun i H _ h => by rw [rangeD_len] at h; exact h, by rw [rangeD_len]; exact hn⟩
  obtain ⟨e1, rfl⟩ := y
  subst e1
  obtain ⟨_, rfl⟩ := rangeD_get h
  exact ⟨F1, Ext.refl le, .int _⟩
theorem wk_list {K : PySem.W.Frag} {p : Addr} {vs : List V} {ds : List D} {F : Hp} (h : SqL K F p vs) (r : RDs g F ds vs) (hz : vs.length ≤ sizeLine) : Wk g (Itl K p) ds F := by
  refine ⟨fun i H le hi => ⟨vs, vs[i]'(by rw [← r.length]; exact hi), SqL.mono h le, by simp⟩, fun i H F1 x H' d l0 le e y => ?_, fun i H le hi => ⟨vs, SqL.mono h le, by rw [← r.length]; exact hi⟩, by rw [r.length, ← line_eq]; exact hz⟩
  obtain ⟨e1, y⟩ := y
  subst e1
  obtain ⟨v, e2, rv⟩ := r.get e
  have := y vs (SqL.mono h (l0.trans le))
  rw [e2] at this
  cases this
  exact ⟨F1, Ext.refl le, rv.mono l0⟩
theorem wk_tup {K : PySem.W.Frag} {p : Addr} {vs : List V} {ds : List D} {F : Hp} (h : SqT K F p vs) (r : RDs g F ds vs) (hz : vs.length ≤ sizeLine) : Wk g (Itt K p) ds F := by
  refine ⟨fun i H le hi => ⟨vs, vs[i]'(by rw [← r.length]; exact hi), SqT.mono h le, by simp⟩, fun i H F1 x H' d l0 le e y => ?_, fun i H le hi => ⟨vs, SqT.mono h le, by rw [← r.length]; exact hi⟩, by rw [r.length, ← line_eq]; exact hz⟩
  obtain ⟨e1, y⟩ := y
  subst e1
  obtain ⟨v, e2, rv⟩ := r.get e
  have := y vs (SqT.mono h (l0.trans le))
  rw [e2] at this
  cases this
  exact ⟨F1, Ext.refl le, rv.mono l0⟩
theorem enumD_len : ∀ (k : Nat) (ds : List D), (enumD k ds).length = ds.length
  | _, [] => rfl
  | k, _ :: ds => by simp [enumD, enumD_len (k + 1) ds]
theorem enumD_get : ∀ {k i : Nat} {ds : List D} {d : D}, (enumD k ds)[i]? = some d → ∃ x, ds[i]? = some x ∧ d = .tup [.int ((k + i : Nat) : Int), x]
  | _, _, [], _, h => by simp [enumD] at h
  | k, 0, x :: ds, d, h => by
    simp [enumD] at h
    exact ⟨x, rfl, by rw [← h]; rfl⟩
  | k, i + 1, x :: ds, d, h => by
    simp only [enumD, List.getElem?_cons_succ] at h
    obtain ⟨y, h1, h2⟩ := enumD_get h
    refine ⟨y, by simpa using h1, ?_⟩
    rw [h2]
    have : k + 1 + i = k + (i + 1) := by omega
    rw [this]
theorem two_line : 2 ≤ (sizeLine : Nat) := by rw [line_eq]; omega
theorem wk_enum {K : PySem.W.Frag} {p : Addr} {vs : List V} {ds : List D} {F : Hp} (h : SqL K F p vs) (r : RDs g F ds vs) (hz : vs.length ≤ sizeLine) : Wk g (Ite K p) (enumD 0 ds) F := by
  refine ⟨fun i H le hi => ?_, fun i H F1 x H' d l0 le e y => ?_, fun i H le hi => ⟨vs, SqL.mono h le, ?_⟩, by rw [enumD_len, r.length, ← line_eq]; exact hz⟩
  · rw [enumD_len, r.length] at hi
    exact ⟨vs, vs[i], SqL.mono h le, by simp⟩
  · obtain ⟨q, w, rfl, nq, rfl, y⟩ := y
    obtain ⟨x, e1, rfl⟩ := enumD_get e
    obtain ⟨v, e2, rv⟩ := r.get e1
    have := y vs (SqL.mono h (l0.trans le))
    rw [e2] at this
    cases this
    have xt := Ext.laid (o := .tup [.int ((i : Nat) : Int), w]) le nq
    refine ⟨_, xt, .tup (SqT.of upd_same) two_line (.cons ?_ (.cons ((rv.mono l0).mono xt.ff) .nil))⟩
    rw [Nat.zero_add]
    exact .int _
  · rw [enumD_len, r.length] at hi
    exact hi
theorem zipD_get : ∀ {i : Nat} {ds es : List D} {d : D}, (zipD ds es)[i]? = some d → ∃ x y, ds[i]? = some x ∧ es[i]? = some y ∧ d = .tup [x, y]
  | _, [], _, _, h => by simp [zipD] at h
  | _, _ :: _, [], _, h => by simp [zipD] at h
  | 0, x :: ds, y :: es, d, h => by
    simp [zipD] at h
    exact ⟨x, y, rfl, rfl, h.symm⟩
  | i + 1, x :: ds, y :: es, d, h => by
    simp only [zipD, List.getElem?_cons_succ] at h
    obtain ⟨a, b, h1, h2, h3⟩ := zipD_get h
    exact ⟨a, b, by simpa using h1, by simpa using h2, h3⟩
theorem zipD_len : ∀ (ds es : List D), (zipD ds es).length = min ds.length es.length
  | [], _ => by simp [zipD]
  | _ :: _, [] => by simp [zipD]
  | _ :: ds, _ :: es => by simp [zipD, zipD_len ds es]
theorem wk_zip {K : PySem.W.Frag} {p q : Addr} {vs ws : List V} {ds es : List D} {F : Hp} (h : SqL K F p vs) (h' : SqL K F q ws) (r : RDs g F ds vs) (r' : RDs g F es ws) (hz : vs.length ≤ sizeLine) : Wk g (Itz K p q) (zipD ds es) F := by
  refine ⟨fun i H le hi => ?_, fun i H F1 x H' d l0 le e y => ?_, fun i H le hi => ⟨vs, ws, SqL.mono h le, SqL.mono h' le, ?_⟩, by rw [zipD_len, r.length]; rw [line_eq] at hz; omega⟩
  · rw [zipD_len, r.length, r'.length] at hi
    exact ⟨vs, ws, vs[i]'(by omega), ws[i]'(by omega), SqL.mono h le, SqL.mono h' le, by simp, by simp⟩
  · obtain ⟨q', w, w', rfl, nq, rfl, y1, y2⟩ := y
    obtain ⟨x, x', e1, e1', rfl⟩ := zipD_get e
    obtain ⟨v, e2, rv⟩ := r.get e1
    obtain ⟨v', e2', rv'⟩ := r'.get e1'
    have z1 := y1 vs (SqL.mono h (l0.trans le))
    rw [e2] at z1
    cases z1
    have z2 := y2 ws (SqL.mono h' (l0.trans le))
    rw [e2'] at z2
    cases z2
    have xt := Ext.laid (o := .tup [w, w']) le nq
    exact ⟨_, xt, .tup (SqT.of upd_same) two_line (.cons ((rv.mono l0).mono xt.ff) (.cons ((rv'.mono l0).mono xt.ff) .nil))⟩
  · rw [zipD_len, r.length, r'.length] at hi
    omega
theorem wk_zipT {K : PySem.W.Frag} {p q : Addr} {vs ws : List V} {ds es : List D} {F : Hp} (h : SqT K F p vs) (h' : SqT K F q ws) (r : RDs g F ds vs) (r' : RDs g F es ws) (hz : vs.length ≤ sizeLine) : Wk g (RZ.ItzT K p q) (zipD ds es) F := by
  refine ⟨fun i H le hi => ?_, fun i H F1 x H' d l0 le e y => ?_, fun i H le hi => ⟨vs, ws, SqT.mono h le, SqT.mono h' le, ?_⟩, by rw [zipD_len, r.length]; rw [line_eq] at hz; omega⟩
  · rw [zipD_len, r.length, r'.length] at hi
    exact ⟨vs, ws, vs[i]'(by omega), ws[i]'(by omega), SqT.mono h le, SqT.mono h' le, by simp, by simp⟩
  · obtain ⟨q', w, w', rfl, nq, rfl, y1, y2⟩ := y
    obtain ⟨x, x', e1, e1', rfl⟩ := zipD_get e
    obtain ⟨v, e2, rv⟩ := r.get e1
    obtain ⟨v', e2', rv'⟩ := r'.get e1'
    have z1 := y1 vs (SqT.mono h (l0.trans le))
    rw [e2] at z1
    cases z1
    have z2 := y2 ws (SqT.mono h' (l0.trans le))
    rw [e2'] at z2
    cases z2
    have xt := Ext.laid (o := .tup [w, w']) le nq
    exact ⟨_, xt, .tup (SqT.of upd_same) two_line (.cons ((rv.mono l0).mono xt.ff) (.cons ((rv'.mono l0).mono xt.ff) .nil))⟩
  · rw [zipD_len, r.length, r'.length] at hi
    omega
/-- a list or a tuple -/
def iSeq (K : PySem.W.Frag) (tl : TE) : TI := fun σ H R => tl σ H fun x H1 => ∃ a, x = .ref a ∧ (((∃ xs, SqL K H1 a xs) ∧ R (Itl K a) H1) ∨ ((∃ xs, SqT K H1 a xs) ∧ R (Itt K a) H1))
theorem pi_seq {tg l : Expr} {tl : TE} (hl : PE X l tl) : PI X tg l (iSeq X.K tl) := by
  refine ⟨fun pins s σ H R I h => ?_⟩
  refine thn (hl.run pins s σ H _ I h) fun v s1 ⟨x, H1, I1, r1, q1⟩ => ?_
  obtain ⟨a, e, q⟩ := q1
  subst e
  cases r1
  rcases q with ⟨⟨xs, hq⟩, q⟩ | ⟨⟨xs, hq⟩, q⟩
  · obtain ⟨its, rv, p, hz⟩ := I1.list hq
    refine wpAny_pyIter_list p.isList ?_
    refine ⟨s1.heap.objs.size, [s1.heap.objs.size], _, _, H1, rfl, I1.kept (t' := s1.toks) fun b o e => Heap.get?_push_of_some _ e, turn_list a _, ⟨_, Heap.get?_push_size _ rfl, rfl, rfl⟩, fun b hb => ?_, q⟩
    have e : b = s1.heap.objs.size := by simpa using hb
    subst e
    exact I1.fpOk (Nat.le_refl _) (I1.hok.fresh (Nat.le_refl _))
  · obtain ⟨its, rv, p, hz⟩ := I1.tuple hq
    refine wpAny_pyIter_tuple (show s1.heap.IsTuple a its.toArray from p) ?_
    refine ⟨s1.heap.objs.size, [s1.heap.objs.size], _, _, H1, rfl, I1.kept (t' := s1.toks) fun b o e => Heap.get?_push_of_some _ e, turn_tuple a _, ⟨_, Heap.get?_push_size _ rfl, rfl, rfl⟩, fun b hb => ?_, q⟩
    have e : b = s1.heap.objs.size := by simpa using hb
    subst e
    exact I1.fpOk (Nat.le_refl _) (I1.hok.fresh (Nat.le_refl _))
def IE.isIt : IE → Bool
  | .rng1 _ => true | .rng2 _ _ => true | .enm _ => true | .zp _ _ => true
  | _ => false
theorem evI_of (h : ia.isIt = false) (σ : Env) : evI T G ia σ = (evE T G ia σ).bind fun x σ1 => ofO (D.items x) σ1 := by
  cases ia <;> first | (simp [IE.isIt] at h; done) | (simp only [evI])
theorem i_seq {tg : Expr} (hi : ia.isIt = false) (hK : X.K = g.K) (ha : PE X a (tE T G g W pu ia)) : PI X tg a (tI T G g W pu ia) :=
  (pi_seq ha).imp fun σ H R ⟨σd, F, Os, rel, k⟩ => by
    rw [evI_of hi] at k
    refine ⟨σd, F, Os, rel, KE.bind k fun x σ1 v H1 F1 Os1 rel1 rx l1 gr1 k1 => ?_⟩
    obtain ⟨ds, ed, q⟩ := KE.ofO k1
    obtain ⟨p, vs, rfl, hs, rs, hz⟩ := items_of rx ed
    refine ⟨p, rfl, ?_⟩
    rw [hK]
    rcases hs with hs | hs
    · exact .inl ⟨⟨vs, SqL.mono hs rel1.le⟩, q _ _ _ _ rel1 (wk_list hs rs hz) (Gr.refl pu _ _ _)⟩
    · exact .inr ⟨⟨vs, SqT.mono hs rel1.le⟩, q _ _ _ _ rel1 (wk_tup hs rs hz) (Gr.refl pu _ _ _)⟩
theorem i_rng1 {tg : Expr} (hs : nStar a = true) (hg : Gl X "range") (hm : X.mg "range" = none) (ha : PE X a (tE T G g W pu ia)) : PI X tg (.Call (.Name "range" p) [a] [] pos) (tI T G g W pu (.rng1 ia)) :=
  (pi_range1 hg hm (pa_cons ha pa_nil (starEach_of hs [] X.env)) (starEach_of hs [] X.env)).imp fun σ H R ⟨σd, F, Os, rel, k⟩ => by
    simp only [evI] at k
    refine ⟨σd, F, Os, rel, KE.bind k fun x σ1 v H1 F1 Os1 rel1 rx l1 gr1 k1 => ?_⟩
    obtain ⟨ds, ed, q⟩ := KE.ofO k1
    unfold dRng1 at ed
    split at ed
    · cases rx
      split at ed
      · rename_i hsm
        simp only [smallR, Bool.and_eq_true, decide_eq_true_eq] at hsm
        cases ed
        exact ⟨_, rfl, by omega, by omega, q _ _ _ _ rel1 (wk_range (by omega) _) (Gr.refl pu _ _ _)⟩
      · cases ed
    · cases ed
theorem i_rng2 {tg : Expr} (hs : nStar a = true) (hs2 : nStar b = true) (hg : Gl X "range") (hm : X.mg "range" = none) (ha : PE X a (tE T G g W pu ia)) (hb : PE X b (tE T G g W pu ib)) : PI X tg (.Call (.Name "range" p) [a, b] [] pos) (tI T G g W pu (.rng2 ia ib)) :=
  (pi_range2 hg hm (pa_cons ha (pa_cons hb pa_nil (starEach_of hs2 [] X.env)) (starEach_of hs [b] X.env)) (by rw [starEach_of hs, starEach_of hs2] <;> rfl) (starEach_of hs2 [] X.env)).imp fun σ H R ⟨σd, F, Os, rel, k⟩ => by
    simp only [evI] at k
    refine ⟨σd, F, Os, rel, KE.bind k fun x σ1 v H1 F1 Os1 rel1 rx l1 gr1 k1 => ⟨σ1, F1, Os1, rel1, KE.bind k1 fun y σ2 u H2 F2 Os2 rel2 ry l2 gr2 k2 => ?_⟩⟩
    obtain ⟨ds, ed, q⟩ := KE.ofO k2
    unfold dRng2 at ed
    split at ed
    · cases rx
      cases ry
      split at ed
      · rename_i hsm
        simp only [smallR, Bool.and_eq_true, decide_eq_true_eq] at hsm
        cases ed
        exact ⟨_, _, rfl, ⟨by omega, by omega, by omega, by omega⟩, q _ _ _ _ rel2 (wk_range (by omega) _) (Gr.refl pu _ _ _)⟩
      · cases ed
    · cases ed
theorem i_enm {k : Nat} {tpos : Pos} (hK : X.K = g.K) (hs : nStar a = true) (hg : Gl X "enumerate") (hm : X.mg "enumerate" = none) (ha : PE X a (tE T G g W pu ia)) : PI X (.Tuple es k tpos) (.Call (.Name "enumerate" p) [a] [] pos) (tI T G g W pu (.enm ia)) :=
  (pi_enum hg hm (pa_cons ha pa_nil (starEach_of hs [] X.env)) (starEach_of hs [] X.env)).imp fun σ H R ⟨σd, F, Os, rel, k⟩ => by
    simp only [evI] at k
    refine ⟨σd, F, Os, rel, KE.bind k fun x σ1 v H1 F1 Os1 rel1 rx l1 gr1 k1 => ?_⟩
    obtain ⟨ds, ed, q⟩ := KE.ofO k1
    cases rx <;> first | (simp [dEnm] at ed; done) | skip
    rename_i p vs ds1 h1 hz rs
    cases ed
    rw [hK]
    exact ⟨p, vs, rfl, SqL.mono (SqL.of h1) rel1.le, q _ _ _ _ rel1 (wk_enum (SqL.of h1) rs hz) (Gr.refl pu _ _ _)⟩
theorem i_zp {k : Nat} {tpos : Pos} (hK : X.K = g.K) (hs : nStar a = true) (hs2 : nStar b = true) (hg : Gl X "zip") (hm : X.mg "zip" = none) (ha : PE X a (tE T G g W pu ia)) (hb : PE X b (tE T G g W pu ib)) : PI X (.Tuple es k tpos) (.Call (.Name "zip" p) [a, b] [] pos) (tI T G g W pu (.zp ia ib)) :=
  (RZ.pi_zipA hg hm (pa_cons ha (pa_cons hb pa_nil (starEach_of hs2 [] X.env)) (starEach_of hs [b] X.env)) (starEach_of hs [b] X.env) (noStars _ _ _ (by simp [hs2]))).imp fun σ H R ⟨σd, F, Os, rel, k⟩ => by
    simp only [evI] at k
    refine ⟨σd, F, Os, rel, KE.bind k fun x σ1 v H1 F1 Os1 rel1 rx l1 gr1 k1 => ⟨σ1, F1, Os1, rel1, KE.bind k1 fun y σ2 u H2 F2 Os2 rel2 ry l2 gr2 k2 => ?_⟩⟩
    obtain ⟨ds, ed, q⟩ := KE.ofO k2
    rw [hK]
    have rx := rx.mono l2
    unfold dZip at ed
    split at ed
    · cases ed
      cases rx with
      | lst h1 z1 r1 =>
        cases ry with
        | lst h2 z2 r2 =>
          exact ⟨_, _, _, _, rfl, .inl ⟨SqL.of (rel2.le _ _ h1), SqL.of (rel2.le _ _ h2), q _ _ _ _ rel2 (wk_zip (SqL.of h1) (SqL.of h2) r1 r2 z1) (Gr.refl pu _ _ _)⟩⟩
    · cases ed
      cases rx with
      | tup h1 z1 r1 =>
        cases ry with
        | tup h2 z2 r2 =>
          exact ⟨_, _, _, _, rfl, .inr ⟨SqT.mono h1 rel2.le, SqT.mono h2 rel2.le, q _ _ _ _ rel2 (wk_zipT h1 h2 r1 r2 z1) (Gr.refl pu _ _ _)⟩⟩
    · cases ed
end
end JH

/-! JB9: comprehensions. -/
namespace JH
open PySem PySem.Spec PyProof.Rows L2
abbrev W0 : WX := fun _ _ _ _ => False
section
variable {T : Tab} {G : Nat → Option D} {g : SG} {W : WX} {pu : Bool}
/-! ### a new list that a slot comes to own -/
def KN (g : SG) (W : WX) (pu : Bool) (σ : L2.St) (H F : Hp) (O : Addr → Prop) (Q : VK) : ER (List D) → Prop
  | .ok ds σd => ∀ p vs H' F' Os', Rel g H' F' σd σ Os' → H' p = some (.lst vs) → F' p = none → ¬ Own Os' p → H p = none → RDs g F' ds vs → vs.length ≤ sizeLine → Gr pu H F O H' F' (Own Os') → Q (.ref p) H'
  | .exc e σd => ∀ cls dd H' F' Os', Rel g H' F' σd σ Os' → RX g F' e cls dd → Gr pu H F O H' F' (Own Os') → W cls dd σ H'
  | .stuck => False
def asL : D → Option (List D)
  | .lst xs => some xs
  | _ => none
def tN (T : Tab) (G : Nat → Option D) (g : SG) (W : WX) (pu : Bool) (ie : IE) : TE := fun σ H Q => ∃ σd F Os, Rel g H F σd σ Os ∧ KN g W pu σ H F (Own Os) Q ((evE T G ie σd).bind fun d σ1 => ofO (asL d) σ1)
theorem KN.later {σ : L2.St} {H F H1 F1 : Hp} {O O1 : Addr → Prop} {Q : VK} {r : ER (List D)} (k : KN g W pu σ H F O Q r) (x : Gr pu H F O H1 F1 O1) : KN g W pu σ H1 F1 O1 Q r := by
  cases r with
  | ok ds σd => exact fun p vs H' F' Os' a b c d e f h y => k p vs H' F' Os' a b c d (by
      cases q : H p with
      | none => rfl
      | some o => exact absurd e (x.al p (by rw [q]; simp))) f h (x.trans y)
  | exc e σd => exact fun c dd H' F' Os' a b y => k c dd H' F' Os' a b (x.trans y)
  | stuck => exact k
theorem KN.bind {α β : Type} {R : Hp → α → β → Prop} {σ : L2.St} {H F : Hp} {O : Addr → Prop} {Q : β → Hp → Prop} {Q2 : VK} {r : ER α} {f : α → Env → ER (List D)} (k : KN g W pu σ H F O Q2 (r.bind f))
    (h : ∀ a σd b H' F' Os', r = .ok a σd → Rel g H' F' σd σ Os' → R F' a b → LeH F F' → Gr pu H F O H' F' (Own Os') → KN g W pu σ H' F' (Own Os') Q2 (f a σd) → Q b H') : KE g W pu R σ H F O Q r := by
  cases r with
  | ok a σd => exact fun b H' F' Os' rel q x => h a σd b H' F' Os' rfl rel q x.ff x (KN.later (r := f a σd) k x)
  | exc e σd => exact k
  | stuck => exact k
/-- a list laid at a free place -/
theorem KN.laid {σ : L2.St} {H F : Hp} {Os : Nat → Addr → Prop} {Q : VK} {ds : List D} {σd : Env} {vs : List V} (k : KN g W pu σ H F (Own Os) Q (.ok ds σd)) (rel : Rel g H F σd σ Os) (rs : RDs g F ds vs) (hz : vs.length ≤ sizeLine) : ∀ p, H p = none → Q (.ref p) (upd H p (.lst vs)) := fun p np => by
  have fp : F p = none := by
    cases e : F p with
    | none => rfl
    | some o => rw [rel.le p o e] at np; cases np
  have le : LeH F (upd H p (.lst vs)) := fun a o e => by
    rw [upd_ne (fun z => by subst z; rw [fp] at e; cases e)]
    exact rel.le a o e
  have xt : Ext H F (upd H p (.lst vs)) F := ⟨LeH.refl F, le, fun a o e => by rw [upd_ne (ne_of_none e np)]; exact e, fun _ h => .inl h⟩
  exact k p vs _ F Os (rel.ext xt) upd_same fp (fun ⟨i, z⟩ => rel.al i p z np) np rs hz (xt.gr pu)
/-- a list that is told frozen may be told new -/
theorem tN_of {ie : IE} (h : ∀ σ d σ', evE T G ie σ = .ok d σ' → ∃ ds, d = .lst ds) {σ : L2.St} {H : Hp} {Q : VK} (q : tE T G g W pu ie σ H Q) : tN T G g W pu ie σ H Q := by
  obtain ⟨σd, F, Os, rel, k⟩ := q
  refine ⟨σd, F, Os, rel, ?_⟩
  cases e : evE T G ie σd with
  | stuck => rw [e] at k; exact k.elim
  | exc x σe => rw [e] at k; exact k
  | ok d σ1 =>
    rw [e] at k
    obtain ⟨ds, rfl⟩ := h _ _ _ e
    intro p vs H' F' Os' rel' hp fp nO np rs hz gr
    have le : LeH F' (upd F' p (.lst vs)) := fun a o e => by
      rw [upd_ne (fun z => by subst z; rw [fp] at e; cases e)]
      exact e
    refine k (.ref p) H' (upd F' p (.lst vs)) Os' ⟨fun a o e => ?_, rel'.len, fun i m e => ?_, rel'.dj, fun i a z => ?_, rel'.al⟩ (.lst upd_same hz (rs.mono le)) ⟨gr.ff.trans le, gr.fr, gr.al, gr.ow, fun a e => ?_⟩
    · by_cases z : a = p
      · subst z; rw [upd_same] at e; cases e; exact hp
      · rw [upd_ne z] at e; exact rel'.le a o e
    · obtain ⟨v, e1, qq⟩ := rel'.sl i m e
      exact ⟨v, e1, qq.frame le fun _ _ _ e => e⟩
    · rw [upd_ne (fun w => by subst w; exact nO ⟨i, z⟩)]
      exact rel'.nf i a z
    · by_cases z : a = p
      · subst z; exact .inr (.inr np)
      · rw [upd_ne z] at e; exact gr.fz a e
end
section
variable {T : Tab} {G : Nat → Option D} {g : SG} {W : WX} {pu : Bool} {X : Cx} {a b c : Expr} {ia ib ic ie : IE} {rest es : List Expr} {pos p2 p : Pos}
theorem wipeD_len (σ : Env) : ∀ vs : List Nat, (wipeD σ vs).length = σ.length
  | [] => rfl
  | v :: vs => by unfold wipeD; rw [List.length_set, wipeD_len σ vs]
theorem wipeD_some {σ : Env} {i : Nat} {x : M} : ∀ {vs : List Nat}, (wipeD σ vs)[i]? = some (some x) → σ[i]? = some (some x) ∧ i ∉ vs
  | [], h => ⟨h, by simp⟩
  | v :: vs, h => by
    unfold wipeD at h
    by_cases hi : v = i
    · subst hi
      by_cases hv : v < (wipeD σ vs).length
      · rw [List.getElem?_set_self hv] at h; cases h
      · rw [List.getElem?_eq_none (by simpa using hv)] at h; cases h
    · rw [List.getElem?_set_ne hi] at h
      obtain ⟨h1, h2⟩ := wipeD_some h
      exact ⟨h1, by simp only [List.mem_cons, not_or]; exact ⟨fun e => hi e.symm, h2⟩⟩
theorem backD_len (σ0 σ : Env) : ∀ vs : List Nat, (backD σ0 σ vs).length = σ.length
  | [] => rfl
  | v :: vs => by unfold backD; rw [List.length_set, backD_len σ0 σ vs]
theorem backD_in {σ0 σ : Env} {i : Nat} : ∀ {vs : List Nat}, i ∈ vs → i < σ.length → (backD σ0 σ vs)[i]? = some ((σ0[i]?).bind id)
  | [], h, _ => by cases h
  | v :: vs, h, hl => by
    unfold backD
    by_cases hi : v = i
    · subst hi
      rw [List.getElem?_set_self (by rw [backD_len]; exact hl)]
    · rw [List.getElem?_set_ne hi]
      rcases List.mem_cons.mp h with e | h
      · exact absurd e.symm hi
      · exact backD_in h hl
theorem backD_out {σ0 σ : Env} {i : Nat} : ∀ {vs : List Nat}, i ∉ vs → (backD σ0 σ vs)[i]? = σ[i]?
  | [], _ => rfl
  | v :: vs, h => by
    simp only [List.mem_cons, not_or] at h
    unfold backD
    rw [List.getElem?_set_ne (Ne.symm h.1), backD_out h.2]
theorem wipe_in {σ : L2.St} {i : Nat} : ∀ {vs : List Nat}, i ∈ vs → i < σ.length → (wipe σ vs)[i]? = some none
  | [], h, _ => by cases h
  | v :: vs, h, hl => by
    unfold wipe
    by_cases hi : v = i
    · subst hi
      rw [List.getElem?_set_self (by rw [wipe_length]; exact hl)]
    · rw [List.getElem?_set_ne hi]
      rcases List.mem_cons.mp h with e | h
      · exact absurd e.symm hi
      · exact wipe_in h hl
theorem wipe_eq {σ σ' : L2.St} {vs : List Nat} (hl : σ'.length = σ.length) (h : ∀ j, j ∉ vs → σ'[j]? = σ[j]?) : wipe σ' vs = wipe σ vs := by
  apply List.ext_getElem?
  intro i
  by_cases hi : i ∈ vs
  · by_cases hlt : i < σ.length
    · rw [wipe_in hi hlt, wipe_in hi (by rw [hl]; exact hlt)]
    · rw [List.getElem?_eq_none (by rw [wipe_length]; omega), List.getElem?_eq_none (by rw [wipe_length]; omega)]
  · rw [L2.wipe_out hi, L2.wipe_out hi]
    exact h i hi
theorem Rel.wiped {H F : Hp} {σd : Env} {σ : L2.St} {Os : Nat → Addr → Prop} (rel : Rel g H F σd σ Os) (vs : List Nat) : Rel g H F (wipeD σd vs) (wipe σ vs) (fun i a => i ∉ vs ∧ Os i a) := by
  refine ⟨rel.le, by rw [wipeD_len, wipe_length]; exact rel.len, fun i m e => ?_, fun i j a x y => rel.dj i j a x.2 y.2, fun i a x => rel.nf i a x.2, fun i a x => rel.al i a x.2⟩
  obtain ⟨h1, h2⟩ := wipeD_some e
  obtain ⟨v, e1, q⟩ := rel.sl i m h1
  exact ⟨v, by rw [L2.wipe_out h2]; exact e1, q.wide fun a z => ⟨h2, z⟩⟩
/-- one turn of a comprehension -/
def compF (T : Tab) (G : Nat → Option D) (ie : IE) (tg : Tg) (ic : IE) (own : List Nat) : D → Env → ER (Option D) := fun x σ2 => match asgT tg x σ2 with
  | some σ3 => (evT T G ic σ3).bind fun k σ4 => if k = true then (evE T G ie σ4).bind fun y σ5 => .ok (some y) (wipeD σ5 own) else .ok none (wipeD σ4 own)
  | none => .stuck
theorem compL_some {f : D → Env → ER (Option D)} {x : D} {xs : List D} {σ σ1 : Env} {y : D} (h : f x σ = .ok (some y) σ1) : compL f (x :: xs) σ = (compL f xs σ1).bind fun r σ2 => .ok (y :: r) σ2 := by
  simp only [compL, h]
theorem compL_none {f : D → Env → ER (Option D)} {x : D} {xs : List D} {σ σ1 : Env} (h : f x σ = .ok none σ1) : compL f (x :: xs) σ = compL f xs σ1 := by
  simp only [compL, h]
theorem drop_get {xs : List D} {i : Nat} {x : D} (h : xs[i]? = some x) : xs.drop i = x :: xs.drop (i + 1) := by
  obtain ⟨h1, h2⟩ := List.getElem?_eq_some_iff.mp h
  rw [← h2, List.drop_eq_getElem_cons h1]
abbrev blkEnv (X : Cx) (scope : Scope) (C : Addr) (cl : List (Str × Addr)) : PySem.Env := compEnvC scope cl C X.env
theorem e_comp_tr {tg : Tg} {own : List Nat} {σ : L2.St} {H : Hp} {Q : VK} (hto : ∀ j ∈ tgS tg, j ∈ own) (h : tN T G g W pu (.comp ie tg ia ic own) σ H Q) :
    tLc (tI T G g W pu ia) (tG g tg) (tT T G g W0 pu ic) (tE T G g W0 pu ie) own σ H Q := by
  obtain ⟨σd, F, Os, rel, k⟩ := h
  simp only [evE] at k
  rw [ER.bind_assoc] at k
  refine ⟨σd, F, Os, rel, KN.bind k fun items σ1 J H1 F1 Os1 _ rel1 wk l1 gr1 k1 => fun D nD => ?_⟩
  have k1 : KN g W pu σ H1 F1 (Own Os1) Q (((compL (compF T G ie tg ic own) items (wipeD σ1 own)).bind fun ys σ2 => .ok (.lst ys) (backD σ1 σ2 own)).bind fun d σ1 => ofO (asL d) σ1) := k1
  rw [ER.bind_assoc] at k1
  have k1 : KN g W pu σ H1 F1 (Own Os1) Q ((compL (compF T G ie tg ic own) items (wipeD σ1 own)).bind fun ys σ2 => .ok ys (backD σ1 σ2 own)) := k1
  let Ow : Nat → Addr → Prop := fun i a => i ∉ own ∧ Os1 i a
  have relw : Rel g H1 F1 (wipeD σ1 own) (wipe σ own) Ow := rel1.wiped own
  -- the invariant
  let Inv : Nat → Hp → Prop := fun i H2 => ∃ σd2 F2 Os2 acc ds, Rel g H2 F2 σd2 (wipe σ own) Os2 ∧ H2 D = some (.lst acc) ∧ F2 D = none ∧ ¬ Own Os2 D ∧ RDs g F2 ds acc ∧ ds.length ≤ i ∧ Gr pu H1 F1 (Own Ow) H2 F2 (Own Os2) ∧
    (∀ j ∈ own, (σd2[j]?).bind id = none) ∧
    KN g W pu σ H1 F1 (Own Os1) Q ((compL (compF T G ie tg ic own) (items.drop i) σd2).bind fun ys σ2 => .ok (ds ++ ys) (backD σ1 σ2 own))
  have fD : ∀ {F' : Hp} {H' : Hp}, H' D = none → LeH F' H' → F' D = none := fun {F' H'} h l => by
    cases e : F' D with
    | none => rfl
    | some o => rw [l D o e] at h; cases h
  have start : Inv 0 (upd H1 D (.lst [])) := by
    have f1 := fD nD relw.le
    have le : LeH F1 (upd H1 D (.lst [])) := fun a o e => by
      rw [upd_ne (fun z => by subst z; rw [f1] at e; cases e)]
      exact relw.le a o e
    have hh : LeH H1 (upd H1 D (.lst [])) := fun a o e => by
      rw [upd_ne (ne_of_none e nD)]
      exact e
    have xt : Ext H1 F1 (upd H1 D (.lst [])) F1 := ⟨LeH.refl F1, le, hh, fun _ h => .inl h⟩
    refine ⟨wipeD σ1 own, F1, Ow, [], [], relw.ext xt, upd_same, f1, fun ⟨i, z⟩ => relw.al i D z nD, .nil, Nat.le_refl _, xt.gr pu, fun j hj => ?_, by rw [List.drop_zero]; exact k1⟩
    cases e : (wipeD σ1 own)[j]? with
    | none => rfl
    | some o =>
      cases o with
      | none => rfl
      | some m => exact absurd hj (wipeD_some e).2
  refine ⟨fun i m H2 => m = items.length - i ∧ i ≤ items.length ∧ Inv i H2, ⟨_, rfl, Nat.zero_le _, start⟩, ?_⟩
  rintro i m H2 ⟨rfl, hi, σd2, F2, Os2, acc, ds, rel2, hD, fd, nO, rds, hds, gr2, hw, k2⟩
  by_cases hlt : i < items.length
  · -- a turn
    have hx : items[i]? = some items[i] := List.getElem?_eq_getElem hlt
    refine .inr ⟨wk.go i H2 (gr2.ff.trans rel2.le) hlt, fun H3 => i + 1 ≤ items.length ∧ Inv (i + 1) H3, fun H3 q => ⟨items.length - (i + 1), by omega, rfl, q.1, q.2⟩, fun x H3 y => ?_⟩
    obtain ⟨F3, xt, rx⟩ := wk.yl i H2 F2 x H3 _ gr2.ff rel2.le hx y
    have rel3 := rel2.ext xt
    have gr3 : Gr pu H1 F1 (Own Ow) H3 F3 (Own Os2) := gr2.trans (xt.gr pu)
    have hD3 : H3 D = some (.lst acc) := xt.hh D _ hD
    have fd3 : F3 D = none := by
      cases e : F3 D with
      | none => rfl
      | some o =>
        rcases xt.nw D (by rw [e]; simp) with w | w
        · exact absurd fd w
        · rw [hD] at w; cases w
    rw [drop_get hx] at k2
    cases ea : asgT tg items[i] σd2 with
    | none =>
      have : compF T G ie tg ic own items[i] σd2 = .stuck := by simp only [compF, ea]
      simp only [compL, this] at k2
      exact k2.elim
    | some σd3 =>
      refine ⟨σd2, F3, Os2, items[i], σd3, rel3, rx, ea, fun σ4 Os4 rel4 hl hj ho => ⟨?_, ?_⟩⟩
      · have := wipe_eq (vs := own) (σ := wipe σ own) (σ' := σ4) hl fun j hjj => hj j fun z => hjj (hto j z)
        rw [this]
        exact wipe_eq (by rw [wipe_length]) fun j hjj => L2.wipe_out hjj
      · have wp : wipe σ4 own = wipe σ own := by
          have := wipe_eq (vs := own) (σ := wipe σ own) (σ' := σ4) hl fun j hjj => hj j fun z => hjj (hto j z)
          rw [this]
          exact wipe_eq (by rw [wipe_length]) fun j hjj => L2.wipe_out hjj
        have gr4 : Gr pu H1 F1 (Own Ow) H3 F3 (Own Os4) := ⟨gr3.ff, gr3.fr, gr3.al, fun a z => gr3.ow a (ho a z), gr3.fz⟩
        have nO4 : ¬ Own Os4 D := fun z => nO (ho D z)
        refine ⟨σd3, F3, Os4, rel4, ?_⟩
        have ef : compF T G ie tg ic own items[i] σd2 = (evT T G ic σd3).bind fun k σ4 => if k = true then (evE T G ie σ4).bind fun y σ5 => .ok (some y) (wipeD σ5 own) else .ok none (wipeD σ4 own) := by simp only [compF, ea]
        cases et : evT T G ic σd3 with
        | stuck =>
          rw [et] at ef
          simp only [compL, ef, ER.bind_stuck] at k2
          exact k2
        | exc e σe =>
          rw [et] at ef
          simp only [compL, ef, ER.bind_exc, ER.bind_stuck] at k2
          exact k2.elim
        | ok kb σd5 =>
          rw [et, ER.bind_ok] at ef
          intro b H5 F5 Os5 rel5 eb gr5
          subst eb
          have gr5' := gr4.trans gr5
          have hD5 : H5 D = some (.lst acc) := gr5.fr D _ hD3 fun z => nO4 z.2
          have fd5 : F5 D = none := by
            cases e : F5 D with
            | none => rfl
            | some o =>
              rcases gr5.fz D (by rw [e]; simp) with w | w | w
              · exact absurd fd3 w
              · exact absurd w.2 nO4
              · rw [hD3] at w; cases w
          have nO5 : ¬ Own Os5 D := fun z => by
            rcases gr5.ow D z with w | w
            · exact nO4 w
            · rw [hD3] at w; cases w
          cases kb with
          | false =>
            rw [if_neg Bool.false_ne_true] at ef ⊢
            have rw6 := rel5.wiped own
            rw [wp] at rw6
            refine ⟨hlt, wipeD σd5 own, F5, _, acc, ds, rw6, hD5, fd5, fun ⟨j, z⟩ => nO5 ⟨j, z.2⟩, rds.mono (xt.ff.trans gr5.ff), by omega, ⟨gr5'.ff, gr5'.fr, gr5'.al, fun a ⟨j, z⟩ => gr5'.ow a ⟨j, z.2⟩, gr5'.fz⟩, fun j hjo => ?_, ?_⟩
            · cases e : (wipeD σd5 own)[j]? with
              | none => rfl
              | some o =>
                cases o with
                | none => rfl
                | some m => exact absurd hjo (wipeD_some e).2
            · rw [compL_none ef] at k2
              exact k2
          | true =>
            rw [if_pos rfl] at ef ⊢
            refine ⟨σd5, F5, Os5, rel5, ?_⟩
            cases ee : evE T G ie σd5 with
            | stuck =>
              rw [ee] at ef
              simp only [compL, ef, ER.bind_stuck] at k2
              exact k2
            | exc e σe =>
              rw [ee] at ef
              simp only [compL, ef, ER.bind_exc, ER.bind_stuck] at k2
              exact k2.elim
            | ok yd σd6 =>
              rw [ee, ER.bind_ok] at ef
              intro yv H6 F6 Os6 rel6 ry gr6
              have gr6' := gr5'.trans gr6
              have hD6 : H6 D = some (.lst acc) := gr6.fr D _ hD5 fun z => nO5 z.2
              have fd6 : F6 D = none := by
                cases e : F6 D with
                | none => rfl
                | some o =>
                  rcases gr6.fz D (by rw [e]; simp) with w | w | w
                  · exact absurd fd5 w
                  · exact absurd w.2 nO5
                  · rw [hD5] at w; cases w
              have nO6 : ¬ Own Os6 D := fun z => by
                rcases gr6.ow D z with w | w
                · exact nO5 w
                · rw [hD5] at w; cases w
              have hacc : acc.length < 16777216 := by
                have := rds.length
                have := wk.sz
                omega
              refine ⟨acc, hD6, by rw [line_eq]; exact hacc, hlt, ?_⟩
              -- the new item stands in the list
              have rw7 := rel6.wiped own
              rw [wp] at rw7
              have le7 : LeH F6 (upd H6 D (.lst (acc ++ [yv]))) := fun a o e => by
                rw [upd_ne (fun z => by subst z; rw [fd6] at e; cases e)]
                exact rel6.le a o e
              have al7 : ∀ a, H6 a ≠ none → upd H6 D (.lst (acc ++ [yv])) a ≠ none := fun a h => by
                by_cases z : a = D
                · subst z; rw [upd_same]; simp
                · rw [upd_ne z]; exact h
              have rel7 : Rel g (upd H6 D (.lst (acc ++ [yv]))) F6 (wipeD σd6 own) (wipe σ own) (fun j a => j ∉ own ∧ Os6 j a) := by
                refine ⟨le7, rw7.len, fun j m e => ?_, rw7.dj, rw7.nf, fun j a z => al7 a (rw7.al j a z)⟩
                obtain ⟨v, e1, q⟩ := rw7.sl j m e
                refine ⟨v, e1, q.frame (LeH.refl F6) fun a o z e => ?_⟩
                rw [upd_ne (fun w => by subst w; exact nO6 ⟨j, z.2⟩)]
                exact e
              have nD1 : ∀ a o, H1 a = some o → a ≠ D := fun a o e z => by subst z; rw [nD] at e; cases e
              refine ⟨wipeD σd6 own, F6, _, acc ++ [yv], ds ++ [yd], rel7, upd_same, fd6, fun ⟨j, z⟩ => nO6 ⟨j, z.2⟩, (rds.mono ((xt.ff.trans gr5.ff).trans gr6.ff)).append (.cons ry .nil), by simp; omega, ⟨gr6'.ff, fun a o e n => ?_, fun a h => al7 a (gr6'.al a h), fun a ⟨j, z⟩ => gr6'.ow a ⟨j, z.2⟩, gr6'.fz⟩, fun j hjo => ?_, ?_⟩
              · rw [upd_ne (nD1 a o e)]
                exact gr6'.fr a o e n
              · cases e : (wipeD σd6 own)[j]? with
                | none => rfl
                | some o =>
                  cases o with
                  | none => rfl
                  | some m => exact absurd hjo (wipeD_some e).2
              · rw [compL_some ef, ER.bind_assoc] at k2
                simp only [ER.bind_ok] at k2
                have : (fun (ys : List JH.D) (σ2 : Env) => (ER.ok (ds ++ yd :: ys) (backD σ1 σ2 own) : ER (List JH.D))) = fun ys σ2 => .ok (ds ++ [yd] ++ ys) (backD σ1 σ2 own) := by
                  funext ys σ2
                  rw [List.append_assoc]
                  rfl
                rw [← this]
                exact k2
  · -- the end
    have e : i = items.length := by omega
    subst e
    refine .inl ⟨wk.st _ H2 (gr2.ff.trans rel2.le) (Nat.le_refl _), ?_⟩
    rw [List.drop_length] at k2
    simp only [compL, ER.bind_ok, List.append_nil] at k2
    have hacc : acc.length ≤ sizeLine := by
      have := rds.length
      have := wk.sz
      rw [line_eq]
      omega
    refine k2 D acc H2 F2 (fun j a => (j ∈ own ∧ Os1 j a) ∨ (j ∉ own ∧ Os2 j a)) ⟨rel2.le, ?_, fun j m e => ?_, fun j l a x y => ?_, fun j a x => ?_, fun j a x => ?_⟩ hD fd (fun ⟨j, x⟩ => ?_) nD rds hacc ⟨gr2.ff, fun a o e n => ?_, gr2.al, fun a ⟨j, x⟩ => ?_, fun a e => ?_⟩
    · rw [backD_len, rel2.len, wipe_length]
    · by_cases hjo : j ∈ own
      · have hl : j < σd2.length := by
          by_cases hl : j < σd2.length
          · exact hl
          · rw [List.getElem?_eq_none (by rw [backD_len]; omega)] at e; cases e
        rw [backD_in hjo hl] at e
        have e' : (σ1[j]?).bind id = some m := Option.some.inj e
        obtain ⟨v, e1, q⟩ := rel1.get e'
        refine ⟨v, e1, (q.frame gr2.ff fun a o z e => gr2.fr a o e fun w => ?_).wide fun a z => .inl ⟨hjo, z⟩⟩
        obtain ⟨_, l, w1, w2⟩ := w
        have := rel1.dj j l a z w2
        subst this
        exact w1 hjo
      · rw [backD_out hjo] at e
        obtain ⟨v, e1, q⟩ := rel2.sl j m e
        rw [L2.wipe_out hjo] at e1
        exact ⟨v, e1, q.wide fun a z => .inr ⟨hjo, z⟩⟩
    · rcases x with ⟨x1, x2⟩ | ⟨x1, x2⟩ <;> rcases y with ⟨y1, y2⟩ | ⟨y1, y2⟩
      · exact rel1.dj j l a x2 y2
      · exfalso
        rcases gr2.ow a ⟨l, y2⟩ with ⟨q, w1, w2⟩ | w
        · have := rel1.dj j q a x2 w2
          subst this
          exact w1 x1
        · exact rel1.al j a x2 w
      · exfalso
        rcases gr2.ow a ⟨j, x2⟩ with ⟨q, w1, w2⟩ | w
        · have := rel1.dj l q a y2 w2
          subst this
          exact w1 y1
        · exact rel1.al l a y2 w
      · exact rel2.dj j l a x2 y2
    · rcases x with ⟨x1, x2⟩ | ⟨x1, x2⟩
      · cases e : F2 a with
        | none => rfl
        | some o =>
          exfalso
          rcases gr2.fz a (by rw [e]; simp) with w | w | w
          · exact w (rel1.nf j a x2)
          · obtain ⟨_, q, w1, w2⟩ := w
            have := rel1.dj j q a x2 w2
            subst this
            exact w1 x1
          · exact rel1.al j a x2 w
      · exact rel2.nf j a x2
    · rcases x with ⟨x1, x2⟩ | ⟨x1, x2⟩
      · exact gr2.al a (rel1.al j a x2)
      · exact rel2.al j a x2
    · rcases x with ⟨x1, x2⟩ | ⟨x1, x2⟩
      · exact rel1.al j D x2 nD
      · exact nO ⟨j, x2⟩
    · exact gr2.fr a o e fun ⟨w1, l, w2⟩ => n ⟨w1, l, w2.2⟩
    · rcases x with ⟨x1, x2⟩ | ⟨x1, x2⟩
      · exact .inl ⟨j, x2⟩
      · exact (gr2.ow a ⟨j, x2⟩).imp (fun ⟨l, w⟩ => ⟨l, w.2⟩) id
    · exact (gr2.fz a e).imp id fun w => w.imp (fun ⟨w1, l, w2⟩ => ⟨w1, l, w2.2⟩) id
theorem comp_lst {tg : Tg} {own : List Nat} (σ : Env) (d : JH.D) (σ' : Env) (h : evE T G (.comp ie tg ia ic own) σ = .ok d σ') : ∃ ds, d = .lst ds := by
  simp only [evE] at h
  cases e : evI T G ia σ with
  | stuck => rw [e] at h; cases h
  | exc _ _ => rw [e] at h; cases h
  | ok xs σ1 =>
    rw [e, ER.bind_ok] at h
    generalize compL _ _ _ = q at h
    cases q with
    | stuck => cases h
    | exc _ _ => cases h
    | ok ys σ2 => cases h; exact ⟨ys, rfl⟩
theorem ts_nil : PTs X [] (tT T G g W pu .nil) := ⟨fun pins s σ H Q I ⟨σd, F, Os, rel, k⟩ => by
  refine pts_nil.run pins s σ H Q I ?_
  simp only [evT] at k
  exact k _ _ _ _ rel rfl (Gr.refl pu _ _ _)⟩
theorem e_comp {elt tgt iter : Expr} {ifs : List Expr} {scope : Scope} {own : List (Str × Nat)} {tg : Tg} (hc : X.calm = true) (hN : X.N.Nodup) (hi : PI X tgt iter (tI T G g W pu ia)) (ok : BlkOk X.N X.env.scope scope own) (hto : ∀ j ∈ tgS tg, j ∈ own.map (·.2))
    (hg : ∀ (s : Shared) (H : Hp) (C : Addr) (cl : List (Str × Addr)) (fp : List Addr), PG (X.blk s H scope (compEnvC scope cl C X.env) fp) tgt (tG g tg)) (ht : ∀ (s : Shared) (H : Hp) (C : Addr) (cl : List (Str × Addr)) (fp : List Addr), PTs (X.blk s H scope (compEnvC scope cl C X.env) fp) ifs (tT T G g W0 pu ic))
    (he : ∀ (s : Shared) (H : Hp) (C : Addr) (cl : List (Str × Addr)) (fp : List Addr), PE (X.blk s H scope (compEnvC scope cl C X.env) fp) elt (tE T G g W0 pu ie)) (hs : ∀ x, foldedSetIterable iter X.env x = pure x) :
    PE X (.ListComp elt [⟨tgt, iter, ifs, 0⟩] scope pos) (tE T G g W pu (.comp ie tg ia ic (own.map (·.2)))) :=
  (pe_lc hc hN hi ok hg ht he hs).imp fun σ H Q h => e_comp_tr hto (tN_of comp_lst h)
theorem n_comp {elt tgt iter : Expr} {ifs : List Expr} {scope : Scope} {own : List (Str × Nat)} {tg : Tg} (hc : X.calm = true) (hN : X.N.Nodup) (hi : PI X tgt iter (tI T G g W pu ia)) (ok : BlkOk X.N X.env.scope scope own) (hto : ∀ j ∈ tgS tg, j ∈ own.map (·.2))
    (hg : ∀ (s : Shared) (H : Hp) (C : Addr) (cl : List (Str × Addr)) (fp : List Addr), PG (X.blk s H scope (compEnvC scope cl C X.env) fp) tgt (tG g tg)) (ht : ∀ (s : Shared) (H : Hp) (C : Addr) (cl : List (Str × Addr)) (fp : List Addr), PTs (X.blk s H scope (compEnvC scope cl C X.env) fp) ifs (tT T G g W0 pu ic))
    (he : ∀ (s : Shared) (H : Hp) (C : Addr) (cl : List (Str × Addr)) (fp : List Addr), PE (X.blk s H scope (compEnvC scope cl C X.env) fp) elt (tE T G g W0 pu ie)) (hs : ∀ x, foldedSetIterable iter X.env x = pure x) :
    PE X (.ListComp elt [⟨tgt, iter, ifs, 0⟩] scope pos) (tN T G g W pu (.comp ie tg ia ic (own.map (·.2)))) :=
  (pe_lc hc hN hi ok hg ht he hs).imp fun σ H Q h => e_comp_tr hto h
end
end JH

/-! JB10: statements. -/
namespace JH
open PySem PySem.Spec PyProof.Rows L2
def PinEq (pin : List Nat) (σ σ' : L2.St) : Prop := σ'.length = σ.length ∧ ∀ i ∈ pin, σ'[i]? = σ[i]?
theorem PinEq.refl (pin : List Nat) (σ : L2.St) : PinEq pin σ σ := ⟨rfl, fun _ _ => rfl⟩
theorem PinEq.trans {pin : List Nat} {σ σ1 σ2 : L2.St} (a : PinEq pin σ σ1) (b : PinEq pin σ1 σ2) : PinEq pin σ σ2 := ⟨b.1.trans a.1, fun i h => (b.2 i h).trans (a.2 i h)⟩
section
variable (g : SG) (W : WX) (pin : List Nat) (σ : L2.St) (H F : Hp) (O : Addr → Prop) (E : Ends)
def KS : SR → Prop
  | .nx σd => ∀ σ' H' F' Os', Rel g H' F' σd σ' Os' → PinEq pin σ σ' → Gr false H F O H' F' (Own Os') → E.nx σ' H'
  | .brk σd => ∀ σ' H' F' Os', Rel g H' F' σd σ' Os' → PinEq pin σ σ' → Gr false H F O H' F' (Own Os') → E.bk σ' H'
  | .cont σd => ∀ σ' H' F' Os', Rel g H' F' σd σ' Os' → PinEq pin σ σ' → Gr false H F O H' F' (Own Os') → E.ct σ' H'
  | .ret d σd => ∀ σ' v H' F' Os', Rel g H' F' σd σ' Os' → PinEq pin σ σ' → RD g F' d v → Gr false H F O H' F' (Own Os') → E.rt v H'
  | .exc e σd => ∀ σ' cls dd H' F' Os', Rel g H' F' σd σ' Os' → PinEq pin σ σ' → RX g F' e cls dd → Gr false H F O H' F' (Own Os') → W cls dd σ' H'
  | .stuck => False
end
def tS (g : SG) (W : WX) (pin : List Nat) (ev : Env → SR) : TS := fun E σ H => ∃ σd F Os, Rel g H F σd σ Os ∧ KS g W pin σ H F (Own Os) E (ev σd)
section
variable {α β : Type} {g : SG} {W : WX} {pin : List Nat} {σ σ1 : L2.St} {H F H1 F1 : Hp} {O O1 : Addr → Prop} {E : Ends} {R : Hp → α → β → Prop} {Q : β → Hp → Prop}
theorem KS.later {r : SR} (k : KS g W pin σ H F O E r) (p : PinEq pin σ σ1) (x : Gr false H F O H1 F1 O1) : KS g W pin σ1 H1 F1 O1 E r := by
  cases r with
  | nx σd => exact fun σ' H' F' Os' a b c => k σ' H' F' Os' a (p.trans b) (x.trans c)
  | brk σd => exact fun σ' H' F' Os' a b c => k σ' H' F' Os' a (p.trans b) (x.trans c)
  | cont σd => exact fun σ' H' F' Os' a b c => k σ' H' F' Os' a (p.trans b) (x.trans c)
  | ret d σd => exact fun σ' v H' F' Os' a b q c => k σ' v H' F' Os' a (p.trans b) q (x.trans c)
  | exc e σd => exact fun σ' cls dd H' F' Os' a b q c => k σ' cls dd H' F' Os' a (p.trans b) q (x.trans c)
  | stuck => exact k
/-- an expression ahead of the rest of a statement -/
theorem KS.to {r : ER α} {f : α → Env → SR} (k : KS g W pin σ H F O E (r.to f))
    (h : ∀ a σd b H' F' Os', Rel g H' F' σd σ Os' → R F' a b → LeH F F' → Gr false H F O H' F' (Own Os') → KS g W pin σ H' F' (Own Os') E (f a σd) → Q b H') : KE g W false R σ H F O Q r := by
  cases r with
  | ok a σd => exact fun b H' F' Os' rel q x => h a σd b H' F' Os' rel q x.ff x (KS.later (r := f a σd) k (PinEq.refl _ _) x)
  | exc e σd => exact fun cls dd H' F' Os' rel rx x => k σ cls dd H' F' Os' rel (PinEq.refl _ _) rx x
  | stuck => exact k
theorem KS.ofO {o : Option α} {σd : Env} {f : α → Env → SR} (k : KS g W pin σ H F O E ((ofO o σd).to f)) : ∃ a, o = some a ∧ KS g W pin σ H F O E (f a σd) := by
  cases o with
  | none => exact False.elim k
  | some a => exact ⟨a, rfl, k⟩
end
section
variable {T : Tab} {G : Nat → Option D} {g : SG} {W : WX} {pin : List Nat} {X : Cx} {a b c e : Expr} {ia ib ic ie : IE} {st : Stmt} {sts : List Stmt} {es : List Expr} {pos p2 p : Pos} {f h : Env → SR}
theorem s_nil : PSs X [] (tS g W pin .nx) := pss_nil.imp fun E σ H ⟨σd, F, Os, rel, k⟩ => k σ H F Os rel (PinEq.refl _ _) (Gr.refl _ _ _ _)
theorem s_cons (h1 : PS X st (tS g W pin f)) (h2 : PSs X sts (tS g W pin h)) : PSs X (st :: sts) (tS g W pin fun σ => (f σ).andThen h) :=
  (pss_cons h1 h2).imp fun E σ H ⟨σd, F, Os, rel, k⟩ => by
    refine ⟨σd, F, Os, rel, ?_⟩
    have k : KS g W pin σ H F (Own Os) E ((f σd).andThen h) := k
    show KS g W pin σ H F (Own Os) { E with nx := tS g W pin h E } (f σd)
    cases e : f σd with
    | nx σ1 =>
      rw [e] at k
      exact fun σ' H' F' Os' rel' pq gr => ⟨σ1, F', Os', rel', KS.later (r := h σ1) k pq gr⟩
    | brk σ1 => rw [e] at k; exact k
    | cont σ1 => rw [e] at k; exact k
    | ret d σ1 => rw [e] at k; exact k
    | exc x σ1 => rw [e] at k; exact k
    | stuck => rw [e] at k; exact k
theorem s_one (h1 : PS X st (tS g W pin f)) : PSs X [st] (tS g W pin f) := (pss_one h1).imp fun _ _ _ h => h
theorem s_pass : PS X (.Pass pos) (tS g W pin .nx) := ps_pass.imp fun E σ H ⟨σd, F, Os, rel, k⟩ => k σ H F Os rel (PinEq.refl _ _) (Gr.refl _ _ _ _)
theorem s_doc {x j} {pos' : Pos} : PS X (.Expr (.Constant (.str x) j pos) pos') (tS g W pin .nx) := ps_doc.imp fun E σ H ⟨σd, F, Os, rel, k⟩ => k σ H F Os rel (PinEq.refl _ _) (Gr.refl _ _ _ _)
theorem s_brk : PS X (.Break pos) (tS g W pin .brk) := ps_break.imp fun E σ H ⟨σd, F, Os, rel, k⟩ => k σ H F Os rel (PinEq.refl _ _) (Gr.refl _ _ _ _)
theorem s_cont : PS X (.Continue pos) (tS g W pin .cont) := ps_continue.imp fun E σ H ⟨σd, F, Os, rel, k⟩ => k σ H F Os rel (PinEq.refl _ _) (Gr.refl _ _ _ _)
theorem s_retN : PS X (.Return none pos) (tS g W pin (.ret .non)) := ps_retN.imp fun E σ H ⟨σd, F, Os, rel, k⟩ => k σ .non H F Os rel (PinEq.refl _ _) .non (Gr.refl _ _ _ _)
theorem s_ret (he : PE X e (tE T G g W false ie)) : PS X (.Return (some e) pos) (tS g W pin fun σ => (evE T G ie σ).to fun x σ1 => .ret x σ1) :=
  (ps_ret he).imp fun E σ H ⟨σd, F, Os, rel, k⟩ => ⟨σd, F, Os, rel, KS.to k fun x σ1 v H1 F1 Os1 rel1 rx l1 gr1 k1 => k1 σ v H1 F1 Os1 rel1 (PinEq.refl _ _) rx (Gr.refl _ _ _ _)⟩
theorem s_ex (he : PE X e (tE T G g W false ie)) (hs : pSwap e = true) : PS X (.Expr e pos) (tS g W pin fun σ => (evE T G ie σ).to fun _ σ1 => .nx σ1) :=
  (ps_expr he (swap_of hs _ _ _)).imp fun E σ H ⟨σd, F, Os, rel, k⟩ => ⟨σd, F, Os, rel, KS.to k fun x σ1 v H1 F1 Os1 rel1 rx l1 gr1 k1 => k1 σ H1 F1 Os1 rel1 (PinEq.refl _ _) (Gr.refl _ _ _ _)⟩
theorem s_ite {u w : List Stmt} (hc : PT X c (tT T G g W false ic)) (ha : PSs X u (tS g W pin f)) (hb : PSs X w (tS g W pin h)) : PS X (.If c u w pos) (tS g W pin fun σ => (evT T G ic σ).to fun k σ1 => if k = true then f σ1 else h σ1) :=
  (ps_if hc ha hb).imp fun E σ H ⟨σd, F, Os, rel, k⟩ => ⟨σd, F, Os, rel, KS.to k fun x σ1 v H1 F1 Os1 rel1 rx l1 gr1 k1 => by
    subst rx
    cases x with
    | true => exact ⟨σ1, F1, Os1, rel1, k1⟩
    | false => exact ⟨σ1, F1, Os1, rel1, k1⟩⟩
/-! ### stores -/
def pStore (t v : Expr) : Bool := match t, v with
  | .Tuple .., .Tuple .. => false
  | .List .., .Tuple .. => false
  | _, _ => true
theorem stores_of {t v : Expr} (h : pStore t v = true) (env : PySem.Env) : swappedStores [t] v env = pure none := by
  cases t <;> cases v <;> first | rfl | (simp [pStore] at h)
theorem target_of {t : Expr} (h : nStar t = true) (env : PySem.Env) : (assignEach [t] env).map (·.2) = [assign t env] := by
  rw [assignEach_of h]
  rfl
theorem pin_of {tg : Tg} {σ σ' : L2.St} (hp : ∀ i ∈ pin, i ∉ tgS tg) (hl : σ'.length = σ.length) (hj : ∀ j, j ∉ tgS tg → σ'[j]? = σ[j]?) : PinEq pin σ σ' := ⟨hl, fun i h => hj i (hp i h)⟩
theorem asg_tr {te : TE} {tg : Tg} {E : Ends} {σ : L2.St} {H : Hp} (hp : ∀ i ∈ pin, i ∉ tgS tg) (hte : ∀ Q, tE T G g W false ie σ H Q → te σ H Q) (hh : tS g W pin (fun σ => (evE T G ie σ).to fun x σ1 => (ofO (asgT tg x σ1) σ1).to fun σ2 _ => .nx σ2) E σ H) : tAsg te (tG g tg) E σ H := by
  obtain ⟨σd, F, Os, rel, k⟩ := hh
  refine hte _ ⟨σd, F, Os, rel, KS.to k fun x σ1 v H1 F1 Os1 rel1 rx l1 gr1 k1 => ?_⟩
  obtain ⟨σ2, e, k2⟩ := KS.ofO k1
  exact ⟨σ1, F1, Os1, x, σ2, rel1, rx, e, fun σ' Os' rel' hl hj ho => k2 σ' H1 F1 Os' rel' (pin_of hp hl hj) ⟨LeH.refl _, fun _ _ e _ => e, fun _ h => h, fun a z => .inl (ho a z), fun _ h => .inl h⟩⟩
theorem s_asg {t : Expr} {tg : Tg} (hp : ∀ i ∈ pin, i ∉ tgS tg) (he : PE X e (tE T G g W false ie)) (hg : PG X t (tG g tg)) (hs : swapsWith e (some t) pos.line X.env = pure false) (hw : pStore t e = true) (hn : nStar t = true) :
    PS X (.Assign [t] e pos) (tS g W pin fun σ => (evE T G ie σ).to fun x σ1 => (ofO (asgT tg x σ1) σ1).to fun σ2 _ => .nx σ2) :=
  (ps_asg he hg hs (stores_of hw _) (target_of hn _)).imp fun E σ H hh => asg_tr hp (fun _ h => h) hh
theorem asg_nm {te : TE} {i : Nat} {E : Ends} {σ : L2.St} {H : Hp} (hp : i ∉ pin) (hte : ∀ Q, tE T G g W false ie σ H Q → te σ H Q) (hh : tS g W pin (fun σ => (evE T G ie σ).to fun x σ1 => (ofO (asgT (.nm i) x σ1) σ1).to fun σ2 _ => .nx σ2) E σ H) : tAsg te (gName i) E σ H := by
  obtain ⟨σd, F, Os, rel, k⟩ := hh
  refine hte _ ⟨σd, F, Os, rel, KS.to k fun x σ1 v H1 F1 Os1 rel1 rx l1 gr1 k1 => ?_⟩
  obtain ⟨σ2, e, k2⟩ := KS.ofO k1
  simp only [asgT] at e
  cases e
  refine k2 _ H1 F1 _ (rel1.asgn (i := i) rx) ⟨by simp, fun j hj => ?_⟩ ⟨LeH.refl _, fun _ _ e _ => e, fun _ h => h, fun a ⟨j, z⟩ => .inl ⟨j, z.2⟩, fun _ h => .inl h⟩
  have hne : i ≠ j := fun e => hp (e ▸ hj)
  rw [List.getElem?_set_ne hne]
/-- name = [..] on one line -/
theorem s_asgLc {i : Nat} {y : Str} {py : Pos} {elt tgt iter : Expr} {ifs : List Expr} {scope : Scope} {own : List (Str × Nat)} {spos : Pos} {tg : Tg} (hp : i ∉ pin) (hc : X.calm = true) (hN : X.N.Nodup) (hy : X.N[i]? = some y) (hyl : X.env.scope.names.lookup y = some .local)
    (hsw : swapsWith (.ListComp elt [⟨tgt, iter, ifs, 0⟩] scope pos) (some (.Name y py)) spos.line X.env = pure true) (hi : PI X tgt iter (tI T G g W false ia)) (ok : BlkOk X.N X.env.scope scope own) (hto : ∀ j ∈ tgS tg, j ∈ own.map (·.2))
    (hg : ∀ (s : Shared) (H : Hp) (C : Addr) (cl : List (Str × Addr)) (fp : List Addr), PG (X.blk s H scope (compEnvC scope cl C X.env) fp) tgt (tG g tg)) (ht : ∀ (s : Shared) (H : Hp) (C : Addr) (cl : List (Str × Addr)) (fp : List Addr), PTs (X.blk s H scope (compEnvC scope cl C X.env) fp) ifs (tT T G g W0 false ic))
    (he : ∀ (s : Shared) (H : Hp) (C : Addr) (cl : List (Str × Addr)) (fp : List Addr), PE (X.blk s H scope (compEnvC scope cl C X.env) fp) elt (tE T G g W0 false ie)) (hs : ∀ x, foldedSetIterable iter X.env x = pure x) :
    PS X (.Assign [.Name y py] (.ListComp elt [⟨tgt, iter, ifs, 0⟩] scope pos) spos) (tS g W pin fun σ => (evE T G (.comp ie tg ia ic (own.map (·.2))) σ).to fun x σ1 => (ofO (asgT (.nm i) x σ1) σ1).to fun σ2 _ => .nx σ2) :=
  (ps_setLc hc hN hy hyl hsw hi ok hg ht he hs).imp fun E σ H hh => by
    exact asg_nm hp (fun Q h => e_comp_tr hto (tN_of comp_lst h)) hh
/-! ### loops -/
theorem s_wh {u : List Stmt} {wf : Nat} (hp : PassesOwn (model X.prog X.w) X.A X.env X.xe) (hc : PT X c (tT T G g W false ic)) (hb : PSs X u (tS g W pin f)) : PS X (.While c u [] pos) (tS g W pin fun σ => whL (evT T G ic) f wf σ) :=
  (ps_while hp hc hb).imp fun E σ H ⟨σd, F, Os, rel, k⟩ => by
    have k : KS g W pin σ H F (Own Os) E (whL (evT T G ic) f wf σd) := k
    refine ⟨fun m σ1 H1 => ∃ σd1 F1 Os1, Rel g H1 F1 σd1 σ1 Os1 ∧ KS g W pin σ1 H1 F1 (Own Os1) E (whL (evT T G ic) f m σd1), ⟨wf, σd, F, Os, rel, k⟩, ?_⟩
    rintro m σ1 H1 ⟨σd1, F1, Os1, rel1, k1⟩
    cases m with
    | zero => exact k1.elim
    | succ m =>
      simp only [whL] at k1
      refine ⟨σd1, F1, Os1, rel1, KS.to k1 fun b σd2 v H2 F2 Os2 rel2 eb l2 gr2 k2 => ?_⟩
      subst eb
      cases b with
      | false => exact k2 σ1 H2 F2 Os2 rel2 (PinEq.refl _ _) (Gr.refl _ _ _ _)
      | true =>
        refine ⟨fun σ3 H3 => ∃ σd3 F3 Os3, Rel g H3 F3 σd3 σ3 Os3 ∧ KS g W pin σ3 H3 F3 (Own Os3) E (whL (evT T G ic) f m σd3), fun σ3 H3 h3 => ⟨m, Nat.lt_succ_self m, h3⟩, σd2, F2, Os2, rel2, ?_⟩
        have k2 : KS g W pin σ1 H2 F2 (Own Os2) E (match f σd2 with
          | .nx σ2 => whL (evT T G ic) f m σ2
          | .cont σ2 => whL (evT T G ic) f m σ2
          | .brk σ2 => .nx σ2
          | r => r) := k2
        cases e : f σd2 with
        | nx σ3 => rw [e] at k2; exact fun σ' H' F' Os' r' p' g' => ⟨σ3, F', Os', r', KS.later k2 p' g'⟩
        | cont σ3 => rw [e] at k2; exact fun σ' H' F' Os' r' p' g' => ⟨σ3, F', Os', r', KS.later k2 p' g'⟩
        | brk σ3 => rw [e] at k2; exact k2
        | ret d σ3 => rw [e] at k2; exact k2
        | exc x σ3 => rw [e] at k2; exact k2
        | stuck => rw [e] at k2; exact k2
theorem s_for {t iter : Expr} {u : List Stmt} {tg : Tg} (hpi : ∀ i ∈ pin, i ∉ tgS tg) (hp : PassesOwn (model X.prog X.w) X.A X.env X.xe) (hc : X.calm = true) (hi : PI X t iter (tI T G g W false ia)) (hg : PG X t (tG g tg)) (hb : PSs X u (tS g W pin f))
    (hs : ∀ x, foldedSetIterable iter X.env x = pure x) : PS X (.For t iter u [] pos) (tS g W pin fun σ => (evI T G ia σ).to fun xs σ1 => forL tg f xs σ1) :=
  (ps_for hp hc hi hg hb hs).imp fun E σ H ⟨σd, F, Os, rel, k⟩ => by
    refine ⟨σd, F, Os, rel, KS.to k fun items σd1 J H1 F1 Os1 rel1 wk l1 gr1 k1 => ?_⟩
    refine ⟨fun i m σ2 H2 => m = items.length - i ∧ i ≤ items.length ∧ ∃ σd2 F2 Os2, Rel g H2 F2 σd2 σ2 Os2 ∧ LeH F1 F2 ∧ KS g W pin σ2 H2 F2 (Own Os2) E (forL tg f (items.drop i) σd2), ⟨_, rfl, Nat.zero_le _, σd1, F1, Os1, rel1, LeH.refl _, by rw [List.drop_zero]; exact k1⟩, ?_⟩
    rintro i m σ2 H2 ⟨rfl, hi, σd2, F2, Os2, rel2, l2, k2⟩
    by_cases hlt : i < items.length
    · have hx : items[i]? = some items[i] := List.getElem?_eq_getElem hlt
      rw [drop_get hx] at k2
      refine .inr ⟨wk.go i H2 (l2.trans rel2.le) hlt, fun σ3 H3 => i + 1 ≤ items.length ∧ ∃ σd3 F3 Os3, Rel g H3 F3 σd3 σ3 Os3 ∧ LeH F1 F3 ∧ KS g W pin σ3 H3 F3 (Own Os3) E (forL tg f (items.drop (i + 1)) σd3), fun σ3 H3 q => ⟨items.length - (i + 1), by omega, rfl, q.1, q.2⟩, fun x H3 y => ?_⟩
      obtain ⟨F3, xt, rx⟩ := wk.yl i H2 F2 x H3 _ l2 rel2.le hx y
      have rel3 := rel2.ext xt
      have k3 := KS.later k2 (PinEq.refl _ _) (xt.gr false)
      simp only [forL] at k3
      cases ea : asgT tg items[i] σd2 with
      | none => rw [ea] at k3; exact k3.elim
      | some σd3 =>
        rw [ea] at k3
        dsimp only at k3
        refine ⟨σd2, F3, Os2, items[i], σd3, rel3, rx, ea, fun σ4 Os4 rel4 hl hj ho => ⟨σd3, F3, Os4, rel4, ?_⟩⟩
        have k4 := KS.later k3 (pin_of hpi hl hj) (show Gr false H3 F3 (Own Os2) H3 F3 (Own Os4) from ⟨LeH.refl _, fun _ _ e _ => e, fun _ h => h, fun a z => .inl (ho a z), fun _ h => .inl h⟩)
        cases e : f σd3 with
        | nx σ5 => rw [e] at k4; exact fun σ' H' F' Os' r' p' g' => ⟨hlt, σ5, F', Os', r', (l2.trans xt.ff).trans g'.ff, KS.later k4 p' g'⟩
        | cont σ5 => rw [e] at k4; exact fun σ' H' F' Os' r' p' g' => ⟨hlt, σ5, F', Os', r', (l2.trans xt.ff).trans g'.ff, KS.later k4 p' g'⟩
        | brk σ5 => rw [e] at k4; exact k4
        | ret d σ5 => rw [e] at k4; exact k4
        | exc x σ5 => rw [e] at k4; exact k4
        | stuck => rw [e] at k4; exact k4
    · have e : i = items.length := by omega
      subst e
      rw [List.drop_length] at k2
      simp only [forL] at k2
      exact .inl ⟨wk.st _ H2 (l2.trans rel2.le) (Nat.le_refl _), k2 σ2 H2 F2 Os2 rel2 (PinEq.refl _ _) (Gr.refl _ _ _ _)⟩
theorem n_lst {es : List Expr} {r : IE} (hz : r.len ≤ 1000) (h : PA X es (tL T G g W false r)) : PE X (.List es pos) (tN T G g W false (.lst r)) :=
  (pe_lst h).imp fun σ H Q ⟨σd, F, Os, rel, k⟩ => by
    simp only [evE] at k
    rw [ER.bind_assoc] at k
    refine ⟨σd, F, Os, rel, KN.bind k fun xs σ1 vs H1 F1 Os1 e rel1 rx l1 gr1 k1 => ?_⟩
    have hl := evL_len _ _ _ _ e
    have hv : vs.length ≤ sizeLine := by rw [← rx.length, hl, line_eq]; omega
    exact ⟨hv, KN.laid k1 rel1 rx hv⟩
theorem n_list {x : Str} (hx : x = B1.nm .list) (hK : X.K = g.K) (hc : X.calm = true) (hs : nStar a = true) (hg : Gl X x) (hm : X.mg x = none) (ha : PE X a (tE T G g W false ia)) : PE X (.Call (.Name x p) [a] [] pos) (tN T G g W false (.b1 .list ia)) := by
  subst hx
  refine (pe_callTy call_list_of hg hm (by decide +kernel) (pa_cons ha pa_nil (starEach_of hs [] X.env)) (by decide) (by decide) (starEach_of hs [] X.env) rfl).imp fun σ H Q ⟨σd, F, Os, rel, k⟩ => ?_
  simp only [evE] at k
  rw [ER.bind_assoc] at k
  refine ⟨σd, F, Os, rel, KN.bind k fun d σ1 v H1 F1 Os1 e rel1 rx l1 gr1 k1 => ?_⟩
  cases d with
  | tup ds =>
    cases rx with
    | tup h1 z r => exact ⟨_, _, rfl, .inr (by rw [hK]; exact SqT.mono h1 rel1.le), KN.laid k1 rel1 r z⟩
  | lst ds =>
    cases rx with
    | lst h1 z r => exact ⟨_, _, rfl, .inl (SqL.of (rel1.le _ _ h1)), KN.laid k1 rel1 r z⟩
  | _ => exact False.elim k1
theorem n_sorted {x : Str} (hx : x = B1.nm .sorted) (hs : nStar a = true) (hg : Gl X x) (hm : X.mg x = none) (ha : PE X a (tE T G g W false ia)) : PE X (.Call (.Name x p) [a] [] pos) (tN T G g W false (.b1 .sorted ia)) := by
  subst hx
  refine (pe_callB cr_sortedI hg hm (by decide +kernel) (pa_cons ha pa_nil (starEach_of hs [] X.env)) (by decide) (by decide) (starEach_of hs [] X.env) rfl).imp fun σ H Q ⟨σd, F, Os, rel, k⟩ => ?_
  simp only [evE] at k
  rw [ER.bind_assoc] at k
  refine ⟨σd, F, Os, rel, KN.bind k fun d σ1 v H1 F1 Os1 e rel1 rx l1 gr1 k1 => ?_⟩
  cases d with
  | lst ds =>
    cases rx with
    | lst h1 z r =>
      cases en : D.ints ds with
      | none => simp only [dB1, en, Option.map_none] at k1; exact k1.elim
      | some ns =>
        simp only [dB1, en, Option.map_some] at k1
        have ev := r.ints en
        subst ev
        refine ⟨_, ns, rfl, SqL.of (rel1.le _ _ h1), fun ns' p hp hs np => ?_⟩
        have e2 : ns' = isort ns := sorted_unique (hp.trans (isort_perm ns).symm) hs (isort_sorted ns)
        subst e2
        exact KN.laid (vs := (isort ns).map V.int) k1 rel1 (RDs.ofInts _) (by rw [List.length_map, (isort_perm ns).length_eq]; simpa using z) p np
  | _ => exact False.elim k1
theorem n_pb1 {f : B1} {x y : Str} {i : Nat} (hf : f = .list ∨ f = .sorted) (hx : x = f.nm) (hg : Gl X x) (hm : X.mg x = none)
    (hN : X.N[i]? = some y) (hv : Vis X.env.scope y) (hd : (y == ("__debug__" : Str)) = false) (hcd : (y == ("__classdict__" : Str)) = false) : PE X (.Call (.Name x p) [.Name y p2] [] pos) (tN T G g W false (.pb1 f (.root i))) := by
  subst hx
  have hs' := starEach_of (e := .Name y p2) rfl [] X.env
  have pv := pe_var (pos := p2) hN hv hd hcd
  rcases hf with rfl | rfl
  · refine (pe_callTy call_list_of hg hm (by decide +kernel) (pa_cons pv pa_nil hs') (by decide) (by decide) hs' rfl).imp fun σ H Q ⟨σd, F, Os, rel, k⟩ => ?_
    simp only [evE, getPl] at k
    cases e0 : ((σd[i]?).bind id).bind (fun m => (peek m).bind (dB1 .list)) with
    | none => rw [e0] at k; exact False.elim k
    | some d =>
      rw [e0, ofO_some, ER.bind_ok] at k
      obtain ⟨m, e1, e2⟩ := Option.bind_eq_some_iff.mp e0
      obtain ⟨d1, e3, e4⟩ := Option.bind_eq_some_iff.mp e2
      obtain ⟨v, hv, rm⟩ := rel.get e1
      obtain ⟨a, vs, ds, rfl, rfl, sa, ha, hz, rs⟩ := peek_of rm e3
      cases e4
      exact ⟨_, hv, a, vs, rfl, .inl (SqL.of ha), KN.laid k rel rs hz⟩
  · refine (pe_callB cr_sortedI hg hm (by decide +kernel) (pa_cons pv pa_nil hs') (by decide) (by decide) hs' rfl).imp fun σ H Q ⟨σd, F, Os, rel, k⟩ => ?_
    simp only [evE, getPl] at k
    cases e0 : ((σd[i]?).bind id).bind (fun m => (peek m).bind (dB1 .sorted)) with
    | none => rw [e0] at k; exact False.elim k
    | some d =>
      rw [e0, ofO_some, ER.bind_ok] at k
      obtain ⟨m, e1, e2⟩ := Option.bind_eq_some_iff.mp e0
      obtain ⟨d1, e3, e4⟩ := Option.bind_eq_some_iff.mp e2
      obtain ⟨v, hv, rm⟩ := rel.get e1
      obtain ⟨a, vs, ds, rfl, rfl, sa, ha, hz, rs⟩ := peek_of rm e3
      obtain ⟨ns, e5, rfl⟩ := Option.map_eq_some_iff.mp e4
      have ev := rs.ints e5
      subst ev
      refine ⟨_, hv, a, ns, rfl, SqL.of ha, fun ns' p hp hs np => ?_⟩
      have e6 : ns' = isort ns := sorted_unique (hp.trans (isort_perm ns).symm) hs (isort_sorted ns)
      subst e6
      exact KN.laid (vs := (isort ns).map V.int) k rel (RDs.ofInts _) (by rw [List.length_map, (isort_perm ns).length_eq]; simpa using hz) p np
theorem n_slc {lo hi : Option Expr} (hK : X.K = g.K) (ha : PE X a (tE T G g W false ia)) (hl : PO X lo (tOf T G g W false ib)) (hh : PO X hi (tOf T G g W false ic)) : PE X (.Subscript a (.Slice lo hi none p2) pos) (tN T G g W false (.slc ia ib ic)) :=
  (pe_slice sl_list ha hl hh).imp fun σ H Q ⟨σd, F, Os, rel, k⟩ => by
    simp only [evE] at k
    rw [ER.bind_assoc] at k
    refine ⟨σd, F, Os, rel, KN.bind k fun x σ1 v H1 F1 Os1 e rel1 rx l1 gr1 k1 => ?_⟩
    rw [ER.bind_assoc] at k1
    refine ⟨σ1, F1, Os1, rel1, KN.bind k1 fun y σ2 u H2 F2 Os2 e2 rel2 ry l2 gr2 k2 => ?_⟩
    rw [ER.bind_assoc] at k2
    refine ⟨σ2, F2, Os2, rel2, KN.bind k2 fun z σ3 w H3 F3 Os3 e3 rel3 rz l3 gr3 k3 => ?_⟩
    subst ry
    subst rz
    have rx := (rx.mono l2).mono l3
    cases x with
    | lst ds =>
      cases rx with
      | lst h1 zz r => exact ⟨_, _, rfl, SqL.of (rel3.le _ _ h1), KN.laid k3 rel3 (cutD_map r _ _) (Nat.le_trans (cutV_length _ _ _) zz)⟩
    | _ => exact False.elim k3
theorem n_add (ha : PE X a (tE T G g W false ia)) (hb : PE X b (tE T G g W false ib)) : PE X (.BinOp a .Add b pos) (tN T G g W false (.bin .add ia ib)) :=
  (pe_op op_cat ha hb).imp fun σ H Q ⟨σd, F, Os, rel, k⟩ => by
    simp only [evE] at k
    rw [ER.bind_assoc] at k
    refine ⟨σd, F, Os, rel, KN.bind k fun x σ1 v H1 F1 Os1 e rel1 rx l1 gr1 k1 => ?_⟩
    rw [ER.bind_assoc] at k1
    refine ⟨σ1, F1, Os1, rel1, KN.bind k1 fun y σ2 u H2 F2 Os2 e2 rel2 ry l2 gr2 k2 => ?_⟩
    have rx := rx.mono l2
    cases hd : dBin .add x y with
    | none => rw [hd] at k2; exact False.elim k2
    | some d =>
      rw [hd, ofO_some, ER.bind_ok] at k2
      cases hl : asL d with
      | none => rw [hl] at k2; exact False.elim k2
      | some ds =>
        rw [hl, ofO_some] at k2
        cases d with
        | lst ds' =>
          cases hl
          unfold dBin at hd
          split at hd <;> first | (cases ‹BOp.add = _›; done) | skip
          · cases hd
          · split at hd <;> cases hd
          · split at hd
            · rename_i hz
              cases hd
              cases rx with
              | lst h1 z1 r1 =>
                cases ry with
                | lst h2 z2 r2 =>
                  have hz' := hz
                  rw [r1.length, r2.length, ← line_eq] at hz'
                  exact ⟨_, _, _, _, rfl, rfl, rel2.le _ _ h1, rel2.le _ _ h2, hz', KN.laid k2 rel2 (r1.append r2) (by rw [List.length_append]; exact hz')⟩
            · cases hd
          all_goals cases hd
        | _ => cases hl
theorem asgM_tr {te : TE} {i : Nat} {E : Ends} {σ : L2.St} {H : Hp} (hp : i ∉ pin) (hte : ∀ Q, tN T G g W false ie σ H Q → te σ H Q) (hh : tS g W pin (fun σ => (evE T G ie σ).to fun x σ1 => (ofO (thaw x) σ1).to fun m σ2 => .nx (σ2.set i (some m))) E σ H) : tAsg te (gName i) E σ H := by
  obtain ⟨σd, F, Os, rel, k⟩ := hh
  dsimp only at k
  refine hte _ ⟨σd, F, Os, rel, ?_⟩
  cases e : evE T G ie σd with
  | stuck => rw [e] at k; exact k.elim
  | exc x σe => rw [e] at k; exact fun c dd H' F' Os' a b y => k σ c dd H' F' Os' a (PinEq.refl _ _) b y
  | ok d σ1 =>
    rw [e, ER.to_ok] at k
    rw [ER.bind_ok]
    cases d with
    | lst ds =>
      intro q vs H' F' Os' rel' hp' fp nO np rs hz gr
      have fi : (fun j a => (j = i ∧ a = q) ∨ (j ≠ i ∧ Os' j a)) i q := .inl ⟨rfl, rfl⟩
      have il : Rel g H' F' (σ1.set i (some (.lst (ds.map M.d)))) (σ.set i (some (.ref q))) (fun j a => (j = i ∧ a = q) ∨ (j ≠ i ∧ Os' j a)) := by
        refine ⟨rel'.le, by simpa using rel'.len, fun j m e => ?_, fun j l a x y => ?_, fun j a x => ?_, fun j a x => ?_⟩
        · by_cases hj : j = i
          · subst hj
            have hlt : j < σ1.length := by
              by_cases hlt : j < σ1.length
              · exact hlt
              · rw [List.getElem?_eq_none (by simpa using hlt)] at e; cases e
            rw [List.getElem?_set_self hlt] at e
            cases e
            refine ⟨.ref q, by rw [List.getElem?_set_self (by rw [← rel'.len]; exact hlt)], .lst (.inl ⟨rfl, rfl⟩) hp' hz (RMs.ofD rs)⟩
          · rw [List.getElem?_set_ne (Ne.symm hj)] at e ⊢
            obtain ⟨v', e1, qq⟩ := rel'.sl j m e
            exact ⟨v', e1, qq.wide fun a z => .inr ⟨hj, z⟩⟩
        · rcases x with ⟨x1, x2⟩ | ⟨x1, x2⟩ <;> rcases y with ⟨y1, y2⟩ | ⟨y1, y2⟩
          · rw [x1, y1]
          · subst x2; exact absurd ⟨l, y2⟩ nO
          · subst y2; exact absurd ⟨j, x2⟩ nO
          · exact rel'.dj j l a x2 y2
        · rcases x with ⟨x1, x2⟩ | ⟨x1, x2⟩
          · subst x2; exact fp
          · exact rel'.nf j a x2
        · rcases x with ⟨x1, x2⟩ | ⟨x1, x2⟩
          · subst x2; rw [hp']; simp
          · exact rel'.al j a x2
      refine k _ H' F' _ il ⟨by simp, fun j hj => ?_⟩ ⟨gr.ff, gr.fr, gr.al, fun a ⟨j, z⟩ => ?_, gr.fz⟩
      · have hne : i ≠ j := fun e => hp (e ▸ hj)
        rw [List.getElem?_set_ne hne]
      · rcases z with ⟨_, z⟩ | ⟨_, z⟩
        · subst z; exact .inr np
        · exact gr.ow a ⟨j, z⟩
    | _ => exact False.elim k
theorem s_asgM {i : Nat} {y : Str} {py : Pos} (hp : i ∉ pin) (hN : X.N.Nodup) (hi : X.N[i]? = some y) (hx : Loc X.env.scope y) (hf : X.fn y = true ∨ X.env.scope.names.lookup y = some .local) (he : PE X e (tN T G g W false ie)) (hs : swapsWith e (some (.Name y py)) pos.line X.env = pure false) (hw : pStore (.Name y py) e = true) :
    PS X (.Assign [.Name y py] e pos) (tS g W pin fun σ => (evE T G ie σ).to fun x σ1 => (ofO (thaw x) σ1).to fun m σ2 => .nx (σ2.set i (some m))) :=
  (ps_asg he (pg_name hN hi hx hf) hs (stores_of hw _) rfl).imp fun E σ H hh => asgM_tr hp (fun _ h => h) hh
theorem s_asgMLc {i : Nat} {y : Str} {py : Pos} {elt tgt iter : Expr} {ifs : List Expr} {scope : Scope} {own : List (Str × Nat)} {spos : Pos} {tg : Tg} (hp : i ∉ pin) (hc : X.calm = true) (hN : X.N.Nodup) (hy : X.N[i]? = some y) (hyl : X.env.scope.names.lookup y = some .local)
    (hsw : swapsWith (.ListComp elt [⟨tgt, iter, ifs, 0⟩] scope pos) (some (.Name y py)) spos.line X.env = pure true) (hi : PI X tgt iter (tI T G g W false ia)) (ok : BlkOk X.N X.env.scope scope own) (hto : ∀ j ∈ tgS tg, j ∈ own.map (·.2))
    (hg : ∀ (s : Shared) (H : Hp) (C : Addr) (cl : List (Str × Addr)) (fp : List Addr), PG (X.blk s H scope (compEnvC scope cl C X.env) fp) tgt (tG g tg)) (ht : ∀ (s : Shared) (H : Hp) (C : Addr) (cl : List (Str × Addr)) (fp : List Addr), PTs (X.blk s H scope (compEnvC scope cl C X.env) fp) ifs (tT T G g W0 false ic))
    (he : ∀ (s : Shared) (H : Hp) (C : Addr) (cl : List (Str × Addr)) (fp : List Addr), PE (X.blk s H scope (compEnvC scope cl C X.env) fp) elt (tE T G g W0 false ie)) (hs : ∀ x, foldedSetIterable iter X.env x = pure x) :
    PS X (.Assign [.Name y py] (.ListComp elt [⟨tgt, iter, ifs, 0⟩] scope pos) spos) (tS g W pin fun σ => (evE T G (.comp ie tg ia ic (own.map (·.2))) σ).to fun x σ1 => (ofO (thaw x) σ1).to fun m σ2 => .nx (σ2.set i (some m))) :=
  (ps_setLc hc hN hy hyl hsw hi ok hg ht he hs).imp fun E σ H hh => asgM_tr hp (fun Q h => e_comp_tr hto h) hh
theorem swap_sub {o i : Expr} {q : Pos} (e : Expr) (l : Nat) (env : PySem.Env) : swapsWithSole [.Subscript o i q] e l env = pure false := by
  cases e <;> rfl
/-! ### changes in place -/
theorem KS_there {σ : L2.St} {H F : Hp} {σd : Env} {Os : Nat → Addr → Prop} {O : Addr → Prop} {E : Ends} {i : Nat} {f : Unit → Env → SR} (rel : Rel g H F σd σ Os) (k : KS g W pin σ H F O E ((there (.root i) σd).to f)) :
    ∃ ms v, (σd[i]?).bind id = some (.lst ms) ∧ σ[i]? = some (some v) ∧ KS g W pin σ H F O E (f () σd) := by
  cases h0 : (getPl σd (.root i)).bind M.isL with
  | none => simp only [there, h0] at k; exact k.elim
  | some m0 =>
    obtain ⟨m1, h1, h2⟩ := Option.bind_eq_some_iff.mp h0
    obtain ⟨v, hv, _⟩ := rel.get (m := m1) h1
    simp only [there, h0, ofO_some, ER.to_ok] at k
    cases m1 <;> first | (simp [M.isL] at h2; done) | exact ⟨_, v, h1, hv, k⟩
/-- o[i] = e, o a list that a slot owns -/
theorem s_sto {o : Expr} {i : Nat} {y : Str} (hN : X.N[i]? = some y) (hv : Vis X.env.scope y) (hd : (y == ("__debug__" : Str)) = false) (hcd : (y == ("__classdict__" : Str)) = false) (hb : PE X b (tE T G g W false ib)) (he : PE X e (tE T G g W false ie)) (hpx : pIx b = true) :
    PS X (.Assign [.Subscript (.Name y p2) b p] e pos) (tS g W pin fun σ => (evE T G ie σ).to fun y σ1 => (there (.root i) σ1).to fun _ σ1 => (evE T G ib σ1).to fun k σ2 => (ofO ((getPl σ2 (.root i)).bind fun m => mSet m k y) σ2).to fun m σ3 => .nx (setPl σ3 (.root i) m)) :=
  (ps_asg he (pg_sub (pe_var hN hv hd hcd) hb set_list (by cases b <;> first | (intro _; rfl) | (simp [pIx] at hpx))) (swap_sub _ _ _) (stores_of (by cases e <;> rfl) _) rfl).imp fun E σ H ⟨σd, F, Os, rel, k⟩ => by
    refine ⟨σd, F, Os, rel, KS.to k fun yd σ1 yv H1 F1 Os1 rel1 ry l1 gr1 k1 => ?_⟩
    obtain ⟨ms, v, h1, hv, k2⟩ := KS_there rel1 k1
    refine ⟨v, hv, σ1, F1, Os1, rel1, KS.to k2 fun kd σ2 kv H2 F2 Os2 rel2 rk l2 gr2 k3 => ?_⟩
    obtain ⟨m', e0, k4⟩ := KS.ofO k3
    obtain ⟨m, e1, e2⟩ := Option.bind_eq_some_iff.mp e0
    obtain ⟨v2, hv2, rm⟩ := rel2.get (show (σ2[i]?).bind id = some m from e1)
    rw [hv] at hv2
    cases hv2
    unfold mSet at e2
    split at e2
    · rename_i ms2 n
      obtain ⟨j, e3, rfl⟩ := Option.map_eq_some_iff.mp e2
      cases rk
      cases rm with
      | lst sa ha hz hr =>
        rename_i a vs
        have e3' := e3
        rw [hr.length] at e3'
        obtain ⟨rel3, gr3⟩ := rel2.write (o := .lst (vs.set j yv)) (m' := .lst (ms2.set j (.d yd))) e1 hv sa (by rw [ha]; simp)
          (.lst sa upd_same (by rw [List.length_set]; exact hz) ((hr.setD (ry.mono l2) j).frame (LeH.refl F2) upd_out))
        exact ⟨a, vs, n, j, rfl, rfl, ha, e3', k4 σ _ _ _ rel3 (PinEq.refl _ _) gr3⟩
    · cases e2
/-- xs.append(e) -/
theorem s_app {i : Nat} {y : Str} {apos cpos : Pos} (hl : (apos.endLine == cpos.line) = true) (hs : nStar e = true) (hN : X.N[i]? = some y) (hv : Vis X.env.scope y) (hd : (y == ("__debug__" : Str)) = false) (hcd : (y == ("__classdict__" : Str)) = false) (he : PE X e (tE T G g W false ie)) :
    PS X (.Expr (.Call (.Attribute (.Name y p2) "append" apos) [e] [] cpos) pos) (tS g W pin fun σ => (there (.root i) σ).to fun _ σ0 => (evE T G ie σ0).to fun y σ1 => (ofO ((getPl σ1 (.root i)).bind fun m => mApp m y) σ1).to fun m σ2 => .nx (setPl σ2 (.root i) m)) :=
  (ps_expr (pe_bm PySem.F.plainAttrs_list PySem.F.slot_list_append PySem.F.type_list_append mt_append (pe_var hN hv hd hcd) (pa_cons he pa_nil (starEach_of hs [] X.env)) rfl (by rw [starEach_of hs] <;> rfl) hl (starEach_of hs [] X.env) rfl) rfl).imp fun E σ H ⟨σd, F, Os, rel, k⟩ => by
    obtain ⟨ms, v, h1, hv, k2⟩ := KS_there rel k
    obtain ⟨v2, hv2, rm0⟩ := rel.get h1
    rw [hv] at hv2
    cases hv2
    refine ⟨v, hv, ?_, ?_⟩
    · cases rm0 with
      | lst sa ha hz hr => exact .inl ⟨rfl, _, SqL.of ha⟩
    · refine ⟨σd, F, Os, rel, KS.to k2 fun yd σ2 yv H2 F2 Os2 rel2 ry l2 gr2 k3 => ?_⟩
      obtain ⟨m', e0, k4⟩ := KS.ofO k3
      obtain ⟨m, e1, e2⟩ := Option.bind_eq_some_iff.mp e0
      obtain ⟨v2, hv2, rm⟩ := rel2.get (show (σ2[i]?).bind id = some m from e1)
      rw [hv] at hv2
      cases hv2
      unfold mApp at e2
      split at e2
      · rename_i ms2
        split at e2
        · rename_i hsz
          cases e2
          cases rm with
          | lst sa ha hz hr =>
            rename_i a vs
            have hlt : vs.length < sizeLine := by rw [line_eq, ← hr.length]; exact hsz
            obtain ⟨rel3, gr3⟩ := rel2.write (o := .lst (vs ++ [yv])) (m' := .lst (ms2 ++ [.d yd])) e1 hv sa (by rw [ha]; simp)
              (.lst sa upd_same (by rw [List.length_append]; exact hlt) (((hr.append (S2 := fun _ => False) (.cons (S1 := fun _ => False) (S2 := fun _ => False) (fun _ z => z) (fun _ z => z) (fun _ z => z.elim) (.d ry) .nil) (fun _ z => z) (fun _ z => z.elim) (fun _ _ z => z)).frame (LeH.refl F2) upd_out)))
            exact ⟨a, vs, yv, rfl, rfl, ha, hlt, k4 σ _ _ _ rel3 (PinEq.refl _ _) gr3⟩
        · cases e2
      · cases e2
/-- xs.extend(e) -/
theorem s_ext {i : Nat} {y : Str} {apos cpos : Pos} (hl : (apos.endLine == cpos.line) = true) (hs : nStar e = true) (hN : X.N[i]? = some y) (hv : Vis X.env.scope y) (hd : (y == ("__debug__" : Str)) = false) (hcd : (y == ("__classdict__" : Str)) = false) (he : PE X e (tE T G g W false ie)) :
    PS X (.Expr (.Call (.Attribute (.Name y p2) "extend" apos) [e] [] cpos) pos) (tS g W pin fun σ => (there (.root i) σ).to fun _ σ0 => (evE T G ie σ0).to fun y σ1 => (ofO ((getPl σ1 (.root i)).bind fun m => mExt m y) σ1).to fun m σ2 => .nx (setPl σ2 (.root i) m)) :=
  (ps_expr (pe_bm PySem.F.plainAttrs_list PySem.F.slot_list_extend PySem.F.type_list_extend mt_extend (pe_var hN hv hd hcd) (pa_cons he pa_nil (starEach_of hs [] X.env)) rfl (by rw [starEach_of hs] <;> rfl) hl (starEach_of hs [] X.env) rfl) rfl).imp fun E σ H ⟨σd, F, Os, rel, k⟩ => by
    obtain ⟨ms, v, h1, hv, k2⟩ := KS_there rel k
    obtain ⟨v2, hv2, rm0⟩ := rel.get h1
    rw [hv] at hv2
    cases hv2
    refine ⟨v, hv, ?_, ?_⟩
    · cases rm0 with
      | lst sa ha hz hr => exact .inl ⟨rfl, _, SqL.of ha⟩
    · refine ⟨σd, F, Os, rel, KS.to k2 fun yd σ2 yv H2 F2 Os2 rel2 ry l2 gr2 k3 => ?_⟩
      obtain ⟨m', e0, k4⟩ := KS.ofO k3
      obtain ⟨m, e1, e2⟩ := Option.bind_eq_some_iff.mp e0
      obtain ⟨v2, hv2, rm⟩ := rel2.get (show (σ2[i]?).bind id = some m from e1)
      rw [hv] at hv2
      cases hv2
      unfold mExt at e2
      split at e2
      · rename_i ms2 ys
        split at e2
        · rename_i hsz
          cases e2
          cases ry with
          | lst h2 z2 r2 =>
            cases rm with
            | lst sa ha hz hr =>
              rename_i b ws a vs
              have hle : vs.length + ws.length ≤ sizeLine := by rw [line_eq, ← hr.length, ← r2.length]; exact hsz
              obtain ⟨rel3, gr3⟩ := rel2.write (o := .lst (vs ++ ws)) (m' := .lst (ms2 ++ ys.map M.d)) e1 hv sa (by rw [ha]; simp)
                (.lst sa upd_same (by rw [List.length_append]; exact hle) (((hr.append (S2 := fun _ => False) (RMs.ofD r2) (fun _ z => z) (fun _ z => z.elim) (fun _ _ z => z)).frame (LeH.refl F2) upd_out)))
              exact ⟨a, b, vs, ws, rfl, rfl, ha, rel2.le _ _ h2, hle, k4 σ _ _ _ rel3 (PinEq.refl _ _) gr3⟩
        · cases e2
      · cases e2
end
end JH

/-! JC1: the checker of expressions, and what it warrants. -/
namespace JH
open PySem PySem.Spec PyProof.Rows L2
/-- names, scope, the names whose cells are the block's own -/
structure CK where
  N : List Str
  sc : Scope
  fn : Str → Bool
/-- the text's defs by number; the built-ins that stand free -/
structure Pg where
  fname : List Str
  blts : List Str
def visB (sc : Scope) (x : Str) : Bool := match sc.names.lookup x with
  | some .local => true
  | some .cell => true
  | some .free => true
  | _ => false
theorem visB_ok {sc : Scope} {x : Str} (h : visB sc x = true) : Vis sc x := by
  unfold visB at h
  split at h
  · exact .inl ‹_›
  · exact .inr (.inl ‹_›)
  · exact .inr (.inr ‹_›)
  · cases h
def dbg (x : Str) : Bool := x == ("__debug__" : Str)
def cdb (x : Str) : Bool := x == ("__classdict__" : Str)
def nmB (c : CK) (i : Nat) (x : Str) : Bool := decide (c.N[i]? = some x) && visB c.sc x && !dbg x && !cdb x
def glB (c : CK) (x : Str) : Bool := decide (c.sc.names.lookup x = some .globalImplicit)
def blB (P : Pg) (c : CK) (x : Str) : Bool := glB c x && decide (x ∈ P.blts)
def locB (c : CK) (x : Str) : Bool := decide (c.sc.names.lookup x = some .local) || (decide (c.sc.names.lookup x = some .cell) && c.fn x)
def IE.isNil : IE → Bool
  | .nil => true
  | _ => false
/-- what a test may be -/
def tOk : IE → Expr → Bool
  | .cmp .., _ => true | .chn .., _ => true | .isN _, _ => true | .notN _, _ => true
  | .and _, _ => true | .or _, _ => true | .not _, _ => true
  | .nil, _ => false
  | _, e => pTest e
def chkG (c : CK) : Tg → Expr ⊕ List Expr → Bool
  | .nm i, m => match m with
    | .inl (.Name x _) => decide (c.N[i]? = some x) && locB c x
    | _ => false
  | .nil, m => match m with
    | .inr [] => true
    | _ => false
  | .cons a r, m => match m with
    | .inl (.Tuple (e :: es) _ _) => nStar e && chkG c a (.inl e) && chkG c r (.inr es)
    | .inr (e :: es) => nStar e && chkG c a (.inl e) && chkG c r (.inr es)
    | _ => false
def isTup : Expr → Bool
  | .Tuple .. => true
  | _ => false
def nSet : Expr → Bool
  | .Set .. => false
  | _ => true
theorem nSet_ok {e : Expr} (h : nSet e = true) (env : PySem.Env) : ∀ x, foldedSetIterable e env x = pure x := by
  intro x
  cases e <;> first | rfl | (cases h)
def itOk (ie : IE) (tg : Expr) : Bool := match ie with
  | .enm _ => isTup tg
  | .zp _ _ => isTup tg
  | _ => true
def ownOf (N : List Str) (scope : Scope) : List (Str × Nat) := scope.names.filterMap fun y => if decide (y.2 = .local) || decide (y.2 = .cell) then (N.findIdx? fun z => decide (z = y.1)).map fun i => (y.1, i) else none
def blkB (N : List Str) (sc scope : Scope) (own : List (Str × Nat)) : Bool :=
  decide (scope.kind = .function) && scope.names.all (fun y => decide (scope.names.lookup y.1 = some y.2)) && own.all (fun p => decide (N[p.2]? = some p.1))
    && scope.names.all (fun y => !decide (y.2 = .free) || (decide (sc.names.lookup y.1 = some .cell) || decide (sc.names.lookup y.1 = some .free)))
    && scope.names.all (fun y => !(decide (y.2 = .local) || decide (y.2 = .cell)) || (decide (y.1 ∈ own.map (·.1)) || !decide (y.1 ∈ N)))
theorem blkB_ok {N : List Str} {sc scope : Scope} {own : List (Str × Nat)} (h : blkB N sc scope own = true) : BlkOk N sc scope own := by
  unfold blkB at h
  simp only [Bool.and_eq_true, decide_eq_true_eq, List.all_eq_true, Bool.or_eq_true, Bool.not_eq_true', decide_eq_false_iff_not] at h
  obtain ⟨⟨⟨⟨h1, h2⟩, h3⟩, h4⟩, h5⟩ := h
  refine ⟨h1, h2, h3, fun y hy e => ?_, fun y hy e => ?_⟩
  · rcases h4 y hy with z | z
    · exact absurd e z
    · exact z
  · rcases h5 y hy with z | z
    · rcases e with e | e <;> simp [e] at z
    · exact z
def CK.blk (c : CK) (scope : Scope) : CK := ⟨c.N, relS scope c.sc, fun x => scope.names.lookup x == some .cell⟩
def opB (op : BOp) (o : Operator) : Bool := match op, o with
  | .add, .Add => true | .sub, .Sub => true | .mul, .Mult => true | .fdiv, .FloorDiv => true | .mod, .Mod => true | .pow, .Pow => true
  | _, _ => false
theorem opB_ok {op : BOp} {o : Operator} (h : opB op o = true) : o = op.py := by
  cases op <;> cases o <;> first | rfl | (cases h)
def coB (op : COp) (o : CmpOp) : Bool := match op, o with
  | .eq, .Eq => true | .ne, .NotEq => true | .lt, .Lt => true | .le, .LtE => true | .gt, .Gt => true | .ge, .GtE => true | .isin, .In => true | .notin, .NotIn => true
  | _, _ => false
theorem coB_ok {op : COp} {o : CmpOp} (h : coB op o = true) : o = op.py := by
  cases op <;> cases o <;> first | rfl | (cases h)
section
variable (P : Pg)
mutual
def chkE (c : CK) : IE → Expr → Bool
  | .cN, e => match e with
    | .Constant .none _ _ => true
    | _ => false
  | .cB b, e => match e with
    | .Constant (.bool k) _ _ => b == k
    | _ => false
  | .cI i, e => match e with
    | .Constant (.int k) _ _ => decide (i = k)
    | _ => false
  | .cS s, e => match e with
    | .Constant (.str x) _ _ => decide (x.cps.toList = s)
    | _ => false
  | .rd i, e => match e with
    | .Name x _ => nmB c i x
    | _ => false
  | .fz (.root i), e => match e with
    | .Name x _ => nmB c i x
    | _ => false
  | .bin op a b, e => match e with
    | .BinOp x o y _ => opB op o && chkE c a x && chkE c b y && !a.isIt && !b.isIt
    | _ => false
  | .neg a, e => match e with
    | .UnaryOp .USub x _ => chkE c a x && !a.isIt
    | _ => false
  | .cmp op a b, e => match e with
    | .Compare x [o] [y] _ => coB op o && chkE c a x && chkE c b y && !behindInMarks o y && !a.isIt && !b.isIt
    | _ => false
  | .chn o1 o2 a b d, e => match e with
    | .Compare x [p, q] [y, z] _ => coB o1 p && coB o2 q && chkE c a x && chkE c b y && chkE c d z && !behindInMarks q z && !a.isIt && !b.isIt && !d.isIt
    | _ => false
  | .isN a, e => match e with
    | .Compare x [.Is] [.Constant .none _ _] _ => chkE c a x && !a.isIt
    | _ => false
  | .notN a, e => match e with
    | .Compare x [.IsNot] [.Constant .none _ _] _ => chkE c a x && !a.isIt
    | _ => false
  | .and l, e => match e with
    | .BoolOp .And es _ => chkB c l es
    | _ => false
  | .or l, e => match e with
    | .BoolOp .Or es _ => chkB c l es
    | _ => false
  | .not a, e => match e with
    | .UnaryOp .Not x _ => chkE c a x && !a.isIt && tOk a x
    | _ => false
  | .ite k a b, e => match e with
    | .IfExp x y z _ => chkE c k x && chkE c a y && chkE c b z && !k.isIt && !a.isIt && !b.isIt && tOk k x
    | _ => false
  | .idx a b, e => match e with
    | .Subscript x y _ => chkE c a x && chkE c b y && pIx y && !a.isIt && !b.isIt
    | _ => false
  | .midx (.root i) b, e => match e with
    | .Subscript (.Name x _) y _ => nmB c i x && chkE c b y && pIx y && !b.isIt
    | _ => false
  | .slc a lo hi, e => match e with
    | .Subscript x (.Slice l h none _) _ => chkE c a x && !a.isIt && !lo.isIt && !hi.isIt && (match l with
        | none => lo.isNil
        | some y => chkE c lo y) && (match h with
        | none => hi.isNil
        | some y => chkE c hi y)
    | _ => false
  | .tup l, e => match e with
    | .Tuple es _ _ => chkL c l es && decide (l.len ≤ 1000)
    | _ => false
  | .lst l, e => match e with
    | .List es _ => chkL c l es && decide (l.len ≤ 1000)
    | _ => false
  | .call f l, e => match e with
    | .Call (.Name x _) (a :: es) [] _ => chkA c l (a :: es) && decide (P.fname[f]? = some x) && glB c x && nStar a && es.all nStar && !dbg x
    | _ => false
  | .b1 f a, e => match e with
    | .Call (.Name x _) [y] [] _ => decide (x = f.nm) && blB P c x && nStar y && chkE c a y && !a.isIt
    | _ => false
  | .pb1 f (.root i), e => match e with
    | .Call (.Name x _) [.Name y _] [] _ => f.pk && decide (x = f.nm) && blB P c x && nmB c i y
    | _ => false
  | .b2 f a b, e => match e with
    | .Call (.Name x _) [y, z] [] _ => decide (x = f.nm) && blB P c x && nStar y && nStar z && chkE c a y && chkE c b z && !a.isIt && !b.isIt
    | _ => false
  | .isi a t, e => match e with
    | .Call (.Name x _) [y, .Name z _] [] _ => decide (x = ("isinstance" : Str)) && decide (z = Str.ofString t.py) && blB P c x && blB P c z && nStar y && chkE c a y && !a.isIt
    | _ => false
  | .isi2 a t u, e => match e with
    | .Call (.Name x _) [y, .Tuple [.Name z _, .Name v _] _ _] [] _ => decide (x = ("isinstance" : Str)) && decide (z = Str.ofString t.py) && decide (v = Str.ofString u.py) && blB P c x && blB P c z && blB P c v && nStar y && chkE c a y && !a.isIt
    | _ => false
  | .comp a tg it k own, e => match e with
    | .ListComp elt [⟨tgt, iter, ifs, 0⟩] scope _ =>
      decide ((ownOf c.N scope).map (·.2) = own) && blkB c.N c.sc scope (ownOf c.N scope) && (tgS tg).all (fun j => decide (j ∈ own)) && chkG (c.blk scope) tg (.inl tgt)
        && chkE (c.blk scope) a elt && !a.isIt && chkE c it iter && nSet iter && itOk it tgt && !k.isIt && (match ifs with
        | [] => k.isNil
        | [q] => chkE (c.blk scope) k q && tOk k q
        | _ => false)
    | _ => false
  | .pop (.root i), e => match e with
    | .Call (.Attribute (.Name y _) m apos) [] [] pos => decide (m = ("pop" : Str)) && (apos.endLine == pos.line) && nmB c i y
    | _ => false
  | .popi (.root i) a, e => match e with
    | .Call (.Attribute (.Name y _) m apos) [z] [] pos => decide (m = ("pop" : Str)) && (apos.endLine == pos.line) && nmB c i y && nStar z && chkE c a z && !a.isIt
    | _ => false
  | .rng1 a, e => match e with
    | .Call (.Name x _) [y] [] _ => decide (x = ("range" : Str)) && blB P c x && nStar y && chkE c a y && !a.isIt
    | _ => false
  | .rng2 a b, e => match e with
    | .Call (.Name x _) [y, z] [] _ => decide (x = ("range" : Str)) && blB P c x && nStar y && nStar z && chkE c a y && chkE c b z && !a.isIt && !b.isIt
    | _ => false
  | .enm a, e => match e with
    | .Call (.Name x _) [y] [] _ => decide (x = ("enumerate" : Str)) && blB P c x && nStar y && chkE c a y && !a.isIt
    | _ => false
  | .zp a b, e => match e with
    | .Call (.Name x _) [y, z] [] _ => decide (x = ("zip" : Str)) && blB P c x && nStar y && nStar z && chkE c a y && chkE c b z && !a.isIt && !b.isIt
    | _ => false
  | _, _ => false
/-- a list of values -/
def chkL (c : CK) : IE → List Expr → Bool
  | .nil, es => match es with
    | [] => true
    | _ => false
  | .cons a r, es => match es with
    | x :: xs => nStar x && chkE c a x && !a.isIt && chkL c r xs
    | [] => false
  | _, _ => false
/-- arguments -/
def chkA (c : CK) : IE → List Expr → Bool
  | .nil, es => match es with
    | [] => true
    | _ => false
  | .cons a r, es => (match a with
    | .marg i => (match es with
      | .Name x _ :: xs => nmB c i x
      | _ => false)
    | _ => false) && (match es with
      | _ :: xs => chkA c r xs
      | [] => false) || (match es with
    | x :: xs => nStar x && chkE c a x && !a.isIt && chkA c r xs
    | [] => false)
  | _, _ => false
/-- tests, one behind another -/
def chkB (c : CK) : IE → List Expr → Bool
  | .cons a r, es => match es with
    | [x] => chkE c a x && !a.isIt && tOk a x && r.isNil
    | x :: y :: xs => chkE c a x && !a.isIt && tOk a x && chkB c r (y :: xs)
    | [] => false
  | _, _ => false
end
end
end JH

/-! JC2: what the checker of expressions warrants. -/
namespace JH
open PySem PySem.Spec PyProof.Rows L2
/-- the context of a piece of a def: T, the table of what the defs do -/
structure Good (T : Tab) (g : SG) (P : Pg) (n : Nat) (c : CK) (W : WX) (X : Cx) : Prop where
  hK : X.K = g.K
  hN : X.N = c.N
  nd : c.N.Nodup
  sc : X.env.scope = c.sc
  fk : X.fn = c.fn
  calm : X.calm = true
  room : Room (2 * n + 1) X.A
  tk : Takes X W
  po : PassesOwn (model X.prog X.w) X.A X.env X.xe
  blt : ∀ x ∈ P.blts, X.mg x = none
  fns : ∀ (f : Nat) (x : Str), P.fname[f]? = some x → ∃ (ad : Addr) (fd : FuncData) (ps : List Str), X.mg x = some (.ref ad) ∧ PySem.W.keepIn X.K (.ref ad) = true ∧ Binds X.K fd ps [] ∧ FnOk X.prog X.w X.K X.mg X.base (L2.CX X.prog X.w) (2 * n) ad fd ps (spF g T f)
section
variable {T : Tab} {G : Nat → Option D} {g : SG} {P : Pg} {n : Nat} {c : CK} {W : WX} {X : Cx}
theorem Good.blk (h : Good T g P n c W X) (s : Shared) (H : Hp) (scope : Scope) (C : Addr) (cl : List (Str × Addr)) (fp : List Addr) : Good T g P n (c.blk scope) W0 (X.blk s H scope (compEnvC scope cl C X.env) fp) where
  hK := h.hK
  hN := h.hN
  nd := h.nd
  sc := by
    show relS scope X.env.scope = relS scope c.sc
    rw [h.sc]
  fk := rfl
  calm := h.calm
  room := h.room
  tk := takes0
  po := .never
  blt := h.blt
  fns := h.fns
theorem Good.nm (h : Good T g P n c W X) {i : Nat} {x : Str} (k : nmB c i x = true) : X.N[i]? = some x ∧ Vis X.env.scope x ∧ (x == ("__debug__" : Str)) = false ∧ (x == ("__classdict__" : Str)) = false := by
  unfold nmB at k
  simp only [Bool.and_eq_true, decide_eq_true_eq, Bool.not_eq_true'] at k
  obtain ⟨⟨⟨h1, h2⟩, h3⟩, h4⟩ := k
  rw [h.hN, h.sc]
  exact ⟨h1, visB_ok h2, h3, h4⟩
theorem Good.gl (h : Good T g P n c W X) {x : Str} (k : glB c x = true) : Gl X x := by
  show X.env.scope.names.lookup x = _
  rw [h.sc]
  exact of_decide_eq_true k
theorem Good.bl (h : Good T g P n c W X) {x : Str} (k : blB P c x = true) : Gl X x ∧ X.mg x = none := by
  unfold blB at k
  simp only [Bool.and_eq_true, decide_eq_true_eq] at k
  exact ⟨h.gl k.1, h.blt x k.2⟩
theorem Good.loc (h : Good T g P n c W X) {x : Str} (k : locB c x = true) : Loc X.env.scope x ∧ (X.fn x = true ∨ X.env.scope.names.lookup x = some .local) := by
  unfold locB at k
  simp only [Bool.or_eq_true, Bool.and_eq_true, decide_eq_true_eq] at k
  rw [h.sc, h.fk]
  rcases k with k | k
  · exact ⟨.inl k, .inr k⟩
  · exact ⟨.inr k.1, .inl k.2⟩
theorem Good.un (h : Good T g P n c W X) : X.A.units + 64 < cLine := h.room.units
theorem Good.nd' (h : Good T g P n c W X) : X.N.Nodup := by rw [h.hN]; exact h.nd
/-! ### targets -/
theorem assign_len : ∀ (es : List Expr) (env : PySem.Env), es.all nStar = true → (assignEach es env).length = es.length ∧ (assignEach es env).findIdx? (·.1) = none
  | [], _, _ => ⟨rfl, rfl⟩
  | e :: es, env, h => by
    simp only [List.all_cons, Bool.and_eq_true] at h
    obtain ⟨i1, i2⟩ := assign_len es env h.2
    rw [assignEach_of h.1]
    refine ⟨by simp [i1], ?_⟩
    rw [List.findIdx?_cons]
    simp [i2]
theorem g_sound (h : Good T g P n c W X) : ∀ tg : Tg, (∀ e, chkG c tg (.inl e) = true → PG X e (tG g tg)) ∧ (∀ es, chkG c tg (.inr es) = true → PGs X es (tGs g tg) ∧ es.all nStar = true ∧ es.length = tgLen tg) := fun tg => by
  induction tg with
  | nm i =>
    refine ⟨fun e k => ?_, fun es k => by simp [chkG] at k⟩
    unfold chkG at k
    split at k
    · rename_i heq
      cases heq
      simp only [Bool.and_eq_true, decide_eq_true_eq] at k
      have := h.loc k.2
      exact g_nm h.nd' (by rw [h.hN]; exact k.1) this.1 this.2
    · cases k
  | nil =>
    refine ⟨fun e k => by simp [chkG] at k, fun es k => ?_⟩
    unfold chkG at k
    split at k
    · rename_i heq
      cases heq
      exact ⟨gs_nil, rfl, rfl⟩
    · cases k
  | cons a r ha hr =>
    refine ⟨fun e k => ?_, fun es k => ?_⟩
    · unfold chkG at k
      split at k
      · rename_i heq
        cases heq
        simp only [Bool.and_eq_true] at k
        obtain ⟨⟨k1, k2⟩, k3⟩ := k
        obtain ⟨r1, r2, r3⟩ := hr.2 _ k3
        rename_i e es _ _
        have ha' : (e :: es).all nStar = true := by simp only [List.all_cons, k1, r2, Bool.and_self]
        obtain ⟨l1, l2⟩ := assign_len (e :: es) X.env ha'
        refine g_tup h.hK h.calm (by rw [l1]; simp [tgLen, r3]) l2 (gs_cons k1 (ha.1 _ k2) r1)
      · rename_i heq; cases heq
      · cases k
    · unfold chkG at k
      split at k
      · rename_i heq; cases heq
      · rename_i heq
        cases heq
        simp only [Bool.and_eq_true] at k
        obtain ⟨⟨k1, k2⟩, k3⟩ := k
        obtain ⟨r1, r2, r3⟩ := hr.2 _ k3
        exact ⟨gs_cons k1 (ha.1 _ k2) r1, by simp only [List.all_cons, k1, r2, Bool.and_self], by simp [tgLen, r3]⟩
      · cases k
end
end JH

/-! JC3: expressions: the checker warrants. -/
namespace JH
open PySem PySem.Spec PyProof.Rows L2
section
variable (T : Tab) (G : Nat → Option D) (g : SG) (P : Pg) (n : Nat)
def SE (ie : IE) : Prop := ∀ (c : CK) (W : WX) (X : Cx), Good T g P n c W X → ∀ e, chkE P c ie e = true →
  (ie.isIt = false → PE X e (tE T G g W false ie) ∧ (tOk ie e = true → PT X e (tT T G g W false ie))) ∧ (∀ tg, itOk ie tg = true → PI X tg e (tI T G g W false ie))
def SL (ie : IE) : Prop := ∀ (c : CK) (W : WX) (X : Cx), Good T g P n c W X → ∀ es, chkL P c ie es = true → PA X es (tL T G g W false ie)
def SA (ie : IE) : Prop := ∀ (c : CK) (W : WX) (X : Cx), Good T g P n c W X → ∀ es, chkA P c ie es = true → PA X es (tAr T G g W false ie)
def SB (ie : IE) : Prop := ∀ (c : CK) (W : WX) (X : Cx), Good T g P n c W X → ∀ es, chkB P c ie es = true → ∀ pos,
  PE X (.BoolOp .And es pos) (tAnd T G g W false ie) ∧ PE X (.BoolOp .Or es pos) (tOr T G g W false ie) ∧ PW X (.BoolOp .And es pos) (tAndT T G g W false ie) ∧ PW X (.BoolOp .Or es pos) (tOrT T G g W false ie)
def SAll (ie : IE) : Prop := SE T G g P n ie ∧ SL T G g P n ie ∧ SA T G g P n ie ∧ SB T G g P n ie
end
section
variable {T : Tab} {G : Nat → Option D} {g : SG} {P : Pg} {n : Nat} {c : CK} {W : WX} {X : Cx}
/-- a value that is tested by its truth -/
theorem mkV (h : Good T g P n c W X) {ie : IE} {e : Expr} (hi : ie ≠ .nil) (hit : ie.isIt = false) (he : PE X e (tE T G g W false ie)) (ht : tOk ie e = true → pTest e = true) :
    (ie.isIt = false → PE X e (tE T G g W false ie) ∧ (tOk ie e = true → PT X e (tT T G g W false ie))) ∧ (∀ tg, itOk ie tg = true → PI X tg e (tI T G g W false ie)) :=
  ⟨fun _ => ⟨he, fun q => t_val hi he (ht q)⟩, fun tg _ => i_seq hit h.hK he⟩
theorem mkT (h : Good T g P n c W X) {ie : IE} {e : Expr} (hit : ie.isIt = false) (he : PE X e (tE T G g W false ie)) (ht : PT X e (tT T G g W false ie)) :
    (ie.isIt = false → PE X e (tE T G g W false ie) ∧ (tOk ie e = true → PT X e (tT T G g W false ie))) ∧ (∀ tg, itOk ie tg = true → PI X tg e (tI T G g W false ie)) :=
  ⟨fun _ => ⟨he, fun _ => ht⟩, fun tg _ => i_seq hit h.hK he⟩
theorem mkI {ie : IE} {e : Expr} (hit : ie.isIt = true) (he : ∀ tg, itOk ie tg = true → PI X tg e (tI T G g W false ie)) :
    (ie.isIt = false → PE X e (tE T G g W false ie) ∧ (tOk ie e = true → PT X e (tT T G g W false ie))) ∧ (∀ tg, itOk ie tg = true → PI X tg e (tI T G g W false ie)) :=
  ⟨fun q => absurd (hit.symm.trans q) (by decide), he⟩
theorem SE.pe {ie : IE} (h : SE T G g P n ie) (k : Good T g P n c W X) {e : Expr} (q : chkE P c ie e = true) (hi : ie.isIt = false) : PE X e (tE T G g W false ie) := ((h c W X k e q).1 hi).1
theorem SE.pt {ie : IE} (h : SE T G g P n ie) (k : Good T g P n c W X) {e : Expr} (q : chkE P c ie e = true) (hi : ie.isIt = false) (ht : tOk ie e = true) : PT X e (tT T G g W false ie) := ((h c W X k e q).1 hi).2 ht
theorem SE.pi {ie : IE} (h : SE T G g P n ie) (k : Good T g P n c W X) {e : Expr} (q : chkE P c ie e = true) {tg : Expr} (ht : itOk ie tg = true) : PI X tg e (tI T G g W false ie) := (h c W X k e q).2 tg ht
theorem chk_ne {ie : IE} {e : Expr} (q : chkE P c ie e = true) : ie ≠ .nil := by
  rintro rfl
  simp [chkE] at q
theorem isNil_ok {ie : IE} (h : ie.isNil = true) : ie = .nil := by
  cases ie <;> first | rfl | (cases h)
theorem chk_marg {i : Nat} {e : Expr} (q : chkE P c (.marg i) e = true) : False := by simp [chkE] at q
end
end JH

/-! JC4: expressions: the induction. -/
namespace JH
open PySem PySem.Spec PyProof.Rows L2
section
variable {T : Tab} {G : Nat → Option D} {g : SG} {P : Pg} {n : Nat}
theorem no_L {ie : IE} (h : ∀ c es, chkL P c ie es = true → False) : SL T G g P n ie := fun c W X _ es q => (h c es q).elim
theorem no_A {ie : IE} (h : ∀ c es, chkA P c ie es = true → False) : SA T G g P n ie := fun c W X _ es q => (h c es q).elim
theorem no_B {ie : IE} (h : ∀ c es, chkB P c ie es = true → False) : SB T G g P n ie := fun c W X _ es q => (h c es q).elim
theorem no_E {ie : IE} (h : ∀ c e, chkE P c ie e = true → False) : SE T G g P n ie := fun c W X _ e q => (h c e q).elim
theorem one_E {ie : IE} (h : SE T G g P n ie) (h1 : ∀ c es, chkL P c ie es = true → False) (h2 : ∀ c es, chkA P c ie es = true → False) (h3 : ∀ c es, chkB P c ie es = true → False) : SAll T G g P n ie := ⟨h, no_L h1, no_A h2, no_B h3⟩
/-! ### leaves -/
theorem SE_cN : SE T G g P n .cN := fun c W X h e q => by
  simp only [chkE] at q
  split at q
  · exact mkV h (by simp) rfl e_cN fun _ => rfl
  · cases q
theorem SE_cB {b : Bool} : SE T G g P n (.cB b) := fun c W X h e q => by
  simp only [chkE] at q
  split at q
  · obtain rfl := eq_of_beq q
    exact mkV h (by simp) rfl e_cB fun _ => rfl
  · cases q
theorem SE_cI {b : Int} : SE T G g P n (.cI b) := fun c W X h e q => by
  simp only [chkE] at q
  split at q
  · obtain rfl := of_decide_eq_true q
    exact mkV h (by simp) rfl e_cI fun _ => rfl
  · cases q
theorem SE_cS {b : List Nat} : SE T G g P n (.cS b) := fun c W X h e q => by
  simp only [chkE] at q
  split at q
  · exact mkV h (by simp) rfl (e_cS (of_decide_eq_true q)) fun _ => rfl
  · cases q
theorem SE_rd {i : Nat} : SE T G g P n (.rd i) := fun c W X h e q => by
  simp only [chkE] at q
  split at q
  · obtain ⟨h1, h2, h3, h4⟩ := h.nm q
    exact mkV h (by simp) rfl (e_rd h1 h2 h3 h4) fun _ => rfl
  · cases q
theorem SE_fz {p : Pl} : SE T G g P n (.fz p) := fun c W X h e q => by
  cases p with
  | fld _ _ => simp only [chkE] at q; cases q
  | root i =>
  simp only [chkE] at q
  split at q
  · obtain ⟨h1, h2, h3, h4⟩ := h.nm q
    exact mkV h (by simp) rfl (e_fz h1 h2 h3 h4) fun _ => rfl
  · cases q
/-! ### one or two operands -/
theorem SE_bin {op : BOp} {a b : IE} (ha : SE T G g P n a) (hb : SE T G g P n b) : SE T G g P n (.bin op a b) := fun c W X h e q => by
  simp only [chkE] at q
  split at q
  · simp only [Bool.and_eq_true, Bool.not_eq_true'] at q
    obtain ⟨⟨⟨⟨q1, q2⟩, q3⟩, q4⟩, q5⟩ := q
    cases opB_ok q1
    exact mkV h (by simp) rfl (e_bin h.hK (ha.pe h q2 q4) (hb.pe h q3 q5)) fun _ => rfl
  · cases q
theorem SE_neg {a : IE} (ha : SE T G g P n a) : SE T G g P n (.neg a) := fun c W X h e q => by
  simp only [chkE] at q
  split at q
  · simp only [Bool.and_eq_true, Bool.not_eq_true'] at q
    exact mkV h (by simp) rfl (e_neg (ha.pe h q.1 q.2)) fun _ => rfl
  · cases q
theorem SE_cmp {op : COp} {a b : IE} (ha : SE T G g P n a) (hb : SE T G g P n b) : SE T G g P n (.cmp op a b) := fun c W X h e q => by
  simp only [chkE] at q
  split at q
  · simp only [Bool.and_eq_true, Bool.not_eq_true'] at q
    obtain ⟨⟨⟨⟨⟨q1, q2⟩, q3⟩, q6⟩, q4⟩, q5⟩ := q
    cases coB_ok q1
    exact mkT h rfl (e_cmp h.hK h.un (ha.pe h q2 q4) (hb.pe h q3 q5) q6) (t_cmp h.hK h.un (ha.pe h q2 q4) (hb.pe h q3 q5) q6)
  · cases q
theorem SE_chn {o1 o2 : COp} {a b d : IE} (ha : SE T G g P n a) (hb : SE T G g P n b) (hd : SE T G g P n d) : SE T G g P n (.chn o1 o2 a b d) := fun c W X h e q => by
  simp only [chkE] at q
  split at q
  · simp only [Bool.and_eq_true, Bool.not_eq_true'] at q
    obtain ⟨⟨⟨⟨⟨⟨⟨⟨q1, q2⟩, q3⟩, q4⟩, q5⟩, q6⟩, q7⟩, q8⟩, q9⟩ := q
    cases coB_ok q1
    cases coB_ok q2
    exact mkT h rfl (e_chn h.hK h.un (ha.pe h q3 q7) (hb.pe h q4 q8) (hd.pe h q5 q9) q6) (t_chn h.hK h.un (ha.pe h q3 q7) (hb.pe h q4 q8) (hd.pe h q5 q9) q6)
  · cases q
theorem SE_isN {a : IE} (ha : SE T G g P n a) : SE T G g P n (.isN a) := fun c W X h e q => by
  simp only [chkE] at q
  split at q
  · simp only [Bool.and_eq_true, Bool.not_eq_true'] at q
    exact mkT h rfl (e_isN (ha.pe h q.1 q.2)) (t_isN (ha.pe h q.1 q.2))
  · cases q
theorem SE_notN {a : IE} (ha : SE T G g P n a) : SE T G g P n (.notN a) := fun c W X h e q => by
  simp only [chkE] at q
  split at q
  · simp only [Bool.and_eq_true, Bool.not_eq_true'] at q
    exact mkT h rfl (e_notN (ha.pe h q.1 q.2)) (t_notN (ha.pe h q.1 q.2))
  · cases q
theorem SE_not {a : IE} (ha : SE T G g P n a) : SE T G g P n (.not a) := fun c W X h e q => by
  simp only [chkE] at q
  split at q
  · simp only [Bool.and_eq_true, Bool.not_eq_true'] at q
    obtain ⟨⟨q1, q2⟩, q3⟩ := q
    exact mkT h rfl (e_not (ha.pe h q1 q2)) (t_not (chk_ne q1) (ha.pt h q1 q2 q3))
  · cases q
theorem SE_and {a : IE} (ha : SB T G g P n a) : SE T G g P n (.and a) := fun c W X h e q => by
  simp only [chkE] at q
  split at q
  · exact mkT h rfl (e_and (ha c W X h _ q _).1) (t_and (ha c W X h _ q _).2.2.1)
  · cases q
theorem SE_or {a : IE} (ha : SB T G g P n a) : SE T G g P n (.or a) := fun c W X h e q => by
  simp only [chkE] at q
  split at q
  · exact mkT h rfl (e_or (ha c W X h _ q _).2.1) (t_or (ha c W X h _ q _).2.2.2)
  · cases q
theorem SE_ite {k a b : IE} (hk : SE T G g P n k) (ha : SE T G g P n a) (hb : SE T G g P n b) : SE T G g P n (.ite k a b) := fun c W X h e q => by
  simp only [chkE] at q
  split at q
  · simp only [Bool.and_eq_true, Bool.not_eq_true'] at q
    obtain ⟨⟨⟨⟨⟨⟨q1, q2⟩, q3⟩, q4⟩, q5⟩, q6⟩, q7⟩ := q
    exact mkV h (by simp) rfl (e_ite (chk_ne q1) (hk.pt h q1 q4 q7) (ha.pe h q2 q5) (hb.pe h q3 q6)) fun z => z
  · cases q
theorem SE_idx {a b : IE} (ha : SE T G g P n a) (hb : SE T G g P n b) : SE T G g P n (.idx a b) := fun c W X h e q => by
  simp only [chkE] at q
  split at q
  · simp only [Bool.and_eq_true, Bool.not_eq_true'] at q
    obtain ⟨⟨⟨⟨q1, q2⟩, q3⟩, q4⟩, q5⟩ := q
    exact mkV h (by simp) rfl (e_idx h.hK (ha.pe h q1 q4) (hb.pe h q2 q5) q3) fun _ => rfl
  · cases q
theorem SE_midx {p : Pl} {b : IE} (hb : SE T G g P n b) : SE T G g P n (.midx p b) := fun c W X h e q => by
  cases p with
  | fld _ _ => simp only [chkE] at q; cases q
  | root i =>
  simp only [chkE] at q
  split at q
  · simp only [Bool.and_eq_true, Bool.not_eq_true'] at q
    obtain ⟨⟨⟨q1, q2⟩, q3⟩, q4⟩ := q
    obtain ⟨h1, h2, h3, h4⟩ := h.nm q1
    exact mkV h (by simp) rfl (e_midx h1 h2 h3 h4 (hb.pe h q2 q4) q3) fun _ => rfl
  · cases q
theorem SE_slc {a lo hi : IE} (ha : SE T G g P n a) (hl : SE T G g P n lo) (hh : SE T G g P n hi) : SE T G g P n (.slc a lo hi) := fun c W X h e q => by
  simp only [chkE] at q
  split at q
  · simp only [Bool.and_eq_true, Bool.not_eq_true'] at q
    obtain ⟨⟨⟨⟨⟨q1, q2⟩, q3⟩, q4⟩, q5⟩, q6⟩ := q
    rename_i l r _ _
    have ol : PO X l (tOf T G g W false lo) := by
      cases l with
      | none => rw [isNil_ok q5]; exact o_nil
      | some y => exact o_some (chk_ne q5) (hl.pe h q5 q3)
    have oh : PO X r (tOf T G g W false hi) := by
      cases r with
      | none => rw [isNil_ok q6]; exact o_nil
      | some y => exact o_some (chk_ne q6) (hh.pe h q6 q4)
    exact mkV h (by simp) rfl (e_slc h.hK (ha.pe h q1 q2) ol oh) fun _ => rfl
  · cases q
theorem SE_tup {l : IE} (hl : SL T G g P n l) : SE T G g P n (.tup l) := fun c W X h e q => by
  simp only [chkE] at q
  split at q
  · simp only [Bool.and_eq_true, decide_eq_true_eq] at q
    exact mkV h (by simp) rfl (e_tup q.2 (hl c W X h _ q.1)) fun _ => rfl
  · cases q
theorem SE_lst {l : IE} (hl : SL T G g P n l) : SE T G g P n (.lst l) := fun c W X h e q => by
  simp only [chkE] at q
  split at q
  · simp only [Bool.and_eq_true, decide_eq_true_eq] at q
    exact mkV h (by simp) rfl (e_lst q.2 (hl c W X h _ q.1)) fun _ => rfl
  · cases q
theorem SE_call {f : Nat} {l : IE} (hl : SA T G g P n l) : SE T G g P n (.call f l) := fun c W X h e q => by
  simp only [chkE] at q
  split at q
  · simp only [Bool.and_eq_true, decide_eq_true_eq, Bool.not_eq_true'] at q
    obtain ⟨⟨⟨⟨⟨q1, q2⟩, q3⟩, q4⟩, q5⟩, q6⟩ := q
    obtain ⟨ad, fd, ps, hm, hk, hb, F⟩ := h.fns f _ q2
    exact mkV h (by simp) rfl (e_call F (h.room.mono (by omega)) (h.gl q3) hm hk hb h.tk q4 q5 q6 (fun z => nomatch z) (hl c W X h _ q1)) fun _ => rfl
  · cases q
theorem SE_b1 {f : B1} {a : IE} (ha : SE T G g P n a) : SE T G g P n (.b1 f a) := fun c W X h e q => by
  simp only [chkE] at q
  split at q
  · simp only [Bool.and_eq_true, decide_eq_true_eq, Bool.not_eq_true'] at q
    obtain ⟨⟨⟨⟨q1, q2⟩, q3⟩, q4⟩, q5⟩ := q
    exact mkV h (by simp) rfl (e_b1 q1 h.hK h.calm q3 (h.bl q2).1 (h.bl q2).2 (ha.pe h q4 q5)) fun _ => rfl
  · cases q
theorem SE_pb1 {f : B1} {p : Pl} : SE T G g P n (.pb1 f p) := fun c W X h e q => by
  cases p with
  | fld _ _ => simp only [chkE] at q; cases q
  | root i =>
  simp only [chkE] at q
  split at q
  · simp only [Bool.and_eq_true, decide_eq_true_eq, Bool.not_eq_true'] at q
    obtain ⟨⟨⟨q1, q2⟩, q3⟩, q4⟩ := q
    obtain ⟨h1, h2, h3, h4⟩ := h.nm q4
    exact mkV h (by simp) rfl (e_pb1 q1 q2 h.calm (h.bl q3).1 (h.bl q3).2 h1 h2 h3 h4) fun _ => rfl
  · cases q
theorem SE_b2 {f : B2} {a b : IE} (ha : SE T G g P n a) (hb : SE T G g P n b) : SE T G g P n (.b2 f a b) := fun c W X h e q => by
  simp only [chkE] at q
  split at q
  · simp only [Bool.and_eq_true, decide_eq_true_eq, Bool.not_eq_true'] at q
    obtain ⟨⟨⟨⟨⟨⟨⟨q1, q2⟩, q3⟩, q4⟩, q5⟩, q6⟩, q7⟩, q8⟩ := q
    exact mkV h (by simp) rfl (e_b2 q1 h.calm q3 q4 (h.bl q2).1 (h.bl q2).2 (ha.pe h q5 q7) (hb.pe h q6 q8)) fun _ => rfl
  · cases q
theorem SE_isi {a : IE} {t : Ty} (ha : SE T G g P n a) : SE T G g P n (.isi a t) := fun c W X h e q => by
  simp only [chkE] at q
  split at q
  · simp only [Bool.and_eq_true, decide_eq_true_eq, Bool.not_eq_true'] at q
    obtain ⟨⟨⟨⟨⟨⟨q1, q2⟩, q3⟩, q4⟩, q5⟩, q6⟩, q7⟩ := q
    subst q1
    exact mkV h (by simp) rfl (e_isi q2 h.hK q5 (h.bl q3).1 (h.bl q3).2 (h.bl q4).1 (h.bl q4).2 (ha.pe h q6 q7)) fun _ => rfl
  · cases q
theorem SE_isi2 {a : IE} {t u : Ty} (ha : SE T G g P n a) : SE T G g P n (.isi2 a t u) := fun c W X h e q => by
  simp only [chkE] at q
  split at q
  · simp only [Bool.and_eq_true, decide_eq_true_eq, Bool.not_eq_true'] at q
    obtain ⟨⟨⟨⟨⟨⟨⟨⟨q1, q2⟩, q2'⟩, q3⟩, q4⟩, q4'⟩, q5⟩, q6⟩, q7⟩ := q
    subst q1
    exact mkV h (by simp) rfl (e_isi2 q2 q2' h.hK q5 (h.bl q3).1 (h.bl q3).2 (h.bl q4).1 (h.bl q4).2 (h.bl q4').1 (h.bl q4').2 (ha.pe h q6 q7)) fun _ => rfl
  · cases q
theorem SE_pop {p : Pl} : SE T G g P n (.pop p) := fun c W X h e q => by
  cases p with
  | fld _ _ => simp only [chkE] at q; cases q
  | root i =>
  simp only [chkE] at q
  split at q
  · simp only [Bool.and_eq_true, decide_eq_true_eq, Bool.not_eq_true'] at q
    obtain ⟨⟨q1, q2⟩, q3⟩ := q
    obtain ⟨h1, h2, h3, h4⟩ := h.nm q3
    subst q1
    exact mkV h (by simp) rfl (e_pop q2 h1 h2 h3 h4) fun _ => rfl
  · cases q
theorem SE_popi {p : Pl} {a : IE} (ha : SE T G g P n a) : SE T G g P n (.popi p a) := fun c W X h e q => by
  cases p with
  | fld _ _ => simp only [chkE] at q; cases q
  | root i =>
  simp only [chkE] at q
  split at q
  · simp only [Bool.and_eq_true, decide_eq_true_eq, Bool.not_eq_true'] at q
    obtain ⟨⟨⟨⟨⟨q1, q2⟩, q3⟩, q4⟩, q5⟩, q6⟩ := q
    obtain ⟨h1, h2, h3, h4⟩ := h.nm q3
    subst q1
    exact mkV h (by simp) rfl (e_popi q2 q4 h1 h2 h3 h4 (ha.pe h q5 q6)) fun _ => rfl
  · cases q
/-! ### what loops walk -/
theorem SE_rng1 {a : IE} (ha : SE T G g P n a) : SE T G g P n (.rng1 a) := fun c W X h e q => by
  simp only [chkE] at q
  split at q
  · simp only [Bool.and_eq_true, decide_eq_true_eq, Bool.not_eq_true'] at q
    obtain ⟨⟨⟨⟨q1, q2⟩, q3⟩, q4⟩, q5⟩ := q
    subst q1
    exact mkI rfl fun tg _ => i_rng1 q3 (h.bl q2).1 (h.bl q2).2 (ha.pe h q4 q5)
  · cases q
theorem SE_rng2 {a b : IE} (ha : SE T G g P n a) (hb : SE T G g P n b) : SE T G g P n (.rng2 a b) := fun c W X h e q => by
  simp only [chkE] at q
  split at q
  · simp only [Bool.and_eq_true, decide_eq_true_eq, Bool.not_eq_true'] at q
    obtain ⟨⟨⟨⟨⟨⟨⟨q1, q2⟩, q3⟩, q4⟩, q5⟩, q6⟩, q7⟩, q8⟩ := q
    subst q1
    exact mkI rfl fun tg _ => i_rng2 q3 q4 (h.bl q2).1 (h.bl q2).2 (ha.pe h q5 q7) (hb.pe h q6 q8)
  · cases q
theorem isTup_ok {e : Expr} (h : isTup e = true) : ∃ es k p, e = .Tuple es k p := by
  cases e <;> first | exact ⟨_, _, _, rfl⟩ | (cases h)
theorem SE_enm {a : IE} (ha : SE T G g P n a) : SE T G g P n (.enm a) := fun c W X h e q => by
  simp only [chkE] at q
  split at q
  · simp only [Bool.and_eq_true, decide_eq_true_eq, Bool.not_eq_true'] at q
    obtain ⟨⟨⟨⟨q1, q2⟩, q3⟩, q4⟩, q5⟩ := q
    subst q1
    refine mkI rfl fun tg ht => ?_
    obtain ⟨es, k, p, rfl⟩ := isTup_ok ht
    exact i_enm h.hK q3 (h.bl q2).1 (h.bl q2).2 (ha.pe h q4 q5)
  · cases q
theorem SE_zp {a b : IE} (ha : SE T G g P n a) (hb : SE T G g P n b) : SE T G g P n (.zp a b) := fun c W X h e q => by
  simp only [chkE] at q
  split at q
  · simp only [Bool.and_eq_true, decide_eq_true_eq, Bool.not_eq_true'] at q
    obtain ⟨⟨⟨⟨⟨⟨⟨q1, q2⟩, q3⟩, q4⟩, q5⟩, q6⟩, q7⟩, q8⟩ := q
    subst q1
    refine mkI rfl fun tg ht => ?_
    obtain ⟨es, k, p, rfl⟩ := isTup_ok ht
    exact i_zp h.hK q3 q4 (h.bl q2).1 (h.bl q2).2 (ha.pe h q5 q7) (hb.pe h q6 q8)
  · cases q
/-! ### comprehensions -/
/-- the parts of a comprehension, as its rules want them -/
theorem comp_parts {a it k : IE} {tg : Tg} {own : List Nat} {c : CK} {W : WX} {X : Cx} {elt tgt iter : Expr} {ifs : List Expr} {scope : Scope} {pos : Pos} (ha : SE T G g P n a) (hi : SE T G g P n it) (hk : SE T G g P n k) (h : Good T g P n c W X)
    (q : chkE P c (.comp a tg it k own) (.ListComp elt [⟨tgt, iter, ifs, 0⟩] scope pos) = true) :
    (ownOf c.N scope).map (·.2) = own ∧ PI X tgt iter (tI T G g W false it) ∧ BlkOk X.N X.env.scope scope (ownOf c.N scope) ∧ (∀ j ∈ tgS tg, j ∈ (ownOf c.N scope).map (·.2)) ∧
      (∀ (s : Shared) (H : Hp) (C : Addr) (cl : List (Str × Addr)) (fp : List Addr), PG (X.blk s H scope (compEnvC scope cl C X.env) fp) tgt (tG g tg)) ∧
      (∀ (s : Shared) (H : Hp) (C : Addr) (cl : List (Str × Addr)) (fp : List Addr), PTs (X.blk s H scope (compEnvC scope cl C X.env) fp) ifs (tT T G g W0 false k)) ∧
      (∀ (s : Shared) (H : Hp) (C : Addr) (cl : List (Str × Addr)) (fp : List Addr), PE (X.blk s H scope (compEnvC scope cl C X.env) fp) elt (tE T G g W0 false a)) ∧ (∀ x, foldedSetIterable iter X.env x = pure x) := by
  simp only [chkE] at q
  simp only [Bool.and_eq_true, decide_eq_true_eq, Bool.not_eq_true', List.all_eq_true] at q
  obtain ⟨⟨⟨⟨⟨⟨⟨⟨⟨⟨q1, q2⟩, q3⟩, q4⟩, q5⟩, q6⟩, q7⟩, q7'⟩, q8⟩, q9⟩, q10⟩ := q
  refine ⟨q1, hi.pi h q7 q8, by rw [h.hN, h.sc]; exact blkB_ok q2, by rw [q1]; exact q3, fun s H C cl fp => (g_sound (h.blk s H scope C cl fp) tg).1 _ q4, fun s H C cl fp => ?_, fun s H C cl fp => ha.pe (h.blk s H scope C cl fp) q5 q6, nSet_ok q7' _⟩
  split at q10
  · rw [isNil_ok q10]
    exact ts_nil
  · simp only [Bool.and_eq_true] at q10
    exact pts_one (hk.pt (h.blk s H scope C cl fp) q10.1 q9 q10.2)
  · cases q10
theorem SE_comp {a it k : IE} {tg : Tg} {own : List Nat} (ha : SE T G g P n a) (hi : SE T G g P n it) (hk : SE T G g P n k) : SE T G g P n (.comp a tg it k own) := fun c W X h e q => by
  have q0 := q
  simp only [chkE] at q
  split at q
  · obtain ⟨h1, h2, h3, h4, h5, h6, h7, h8⟩ := comp_parts ha hi hk h q0
    subst h1
    exact mkV h (by simp) rfl (e_comp h.calm h.nd' h2 h3 h4 h5 h6 h7 h8) fun _ => rfl
  · cases q
/-! ### lists -/
theorem SL_nil : SL T G g P n .nil := fun c W X h es q => by
  simp only [chkL] at q
  split at q
  · exact l_nil
  · cases q
theorem SA_nil : SA T G g P n .nil := fun c W X h es q => by
  simp only [chkA] at q
  split at q
  · exact a_nil
  · cases q
theorem SL_cons {a r : IE} (ha : SE T G g P n a) (hr : SL T G g P n r) : SL T G g P n (.cons a r) := fun c W X h es q => by
  simp only [chkL] at q
  split at q
  · simp only [Bool.and_eq_true, Bool.not_eq_true'] at q
    obtain ⟨⟨⟨q1, q2⟩, q3⟩, q4⟩ := q
    exact l_cons q1 (ha.pe h q2 q3) (hr c W X h _ q4)
  · cases q
theorem SA_cons {a r : IE} (ha : SE T G g P n a) (hr : SA T G g P n r) : SA T G g P n (.cons a r) := fun c W X h es q => by
  simp only [chkA] at q
  simp only [Bool.or_eq_true, Bool.and_eq_true] at q
  rcases q with ⟨q1, q2⟩ | q
  · split at q1
    · split at q1
      · obtain ⟨h1, h2, h3, h4⟩ := h.nm q1
        exact a_marg h1 h2 h3 h4 (hr c W X h _ q2)
      · cases q1
    · cases q1
  · split at q
    · simp only [Bool.and_eq_true, Bool.not_eq_true'] at q
      obtain ⟨⟨⟨q1, q2⟩, q3⟩, q4⟩ := q
      have hm : a.isMarg = false := by
        cases e : a.isMarg with
        | false => rfl
        | true => cases a <;> first | (cases e; done) | exact (chk_marg q2).elim
      exact a_cons hm q1 (ha.pe h q2 q3) (hr c W X h _ q4)
    · cases q
theorem SB_cons {a r : IE} (ha : SE T G g P n a) (hr : SB T G g P n r) : SB T G g P n (.cons a r) := fun c W X h es q pos => by
  simp only [chkB] at q
  split at q
  · simp only [Bool.and_eq_true, Bool.not_eq_true'] at q
    obtain ⟨⟨⟨q1, q2⟩, q3⟩, q4⟩ := q
    rw [isNil_ok q4]
    have pe := ha.pe h q1 q2
    have pt := ha.pt h q1 q2 q3
    exact ⟨e_and1 pe, e_or1 pe, w_and1 (chk_ne q1) pt, w_or1 (chk_ne q1) pt⟩
  · simp only [Bool.and_eq_true, Bool.not_eq_true'] at q
    obtain ⟨⟨⟨q1, q2⟩, q3⟩, q4⟩ := q
    have pe := ha.pe h q1 q2
    have pt := ha.pt h q1 q2 q3
    have hn : r ≠ .nil := by
      rintro rfl
      simp only [chkB] at q4
      cases q4
    obtain ⟨r1, r2, r3, r4⟩ := hr c W X h _ q4 pos
    exact ⟨e_andc hn pe r1, e_orc hn pe r2, w_andc (chk_ne q1) hn pt r3, w_orc (chk_ne q1) hn pt r4⟩
  · cases q
theorem e_sound : ∀ ie : IE, SAll T G g P n ie := fun ie => by
  induction ie with
  | nil => exact ⟨no_E (fun c e q => by simp only [chkE] at q; cases q), SL_nil, SA_nil, no_B (fun c es q => by simp only [chkB] at q; cases q)⟩
  | cons a r ha hr => exact ⟨no_E (fun c e q => by simp only [chkE] at q; cases q), SL_cons ha.1 hr.2.1, SA_cons ha.1 hr.2.2.1, SB_cons ha.1 hr.2.2.2⟩
  | cN => exact one_E SE_cN (fun c e q => by simp only [chkL] at q; cases q) (fun c e q => by simp only [chkA] at q; cases q) (fun c e q => by simp only [chkB] at q; cases q)
  | cB b => exact one_E SE_cB (fun c e q => by simp only [chkL] at q; cases q) (fun c e q => by simp only [chkA] at q; cases q) (fun c e q => by simp only [chkB] at q; cases q)
  | cI i => exact one_E SE_cI (fun c e q => by simp only [chkL] at q; cases q) (fun c e q => by simp only [chkA] at q; cases q) (fun c e q => by simp only [chkB] at q; cases q)
  | cS s => exact one_E SE_cS (fun c e q => by simp only [chkL] at q; cases q) (fun c e q => by simp only [chkA] at q; cases q) (fun c e q => by simp only [chkB] at q; cases q)
  | rd i => exact one_E SE_rd (fun c e q => by simp only [chkL] at q; cases q) (fun c e q => by simp only [chkA] at q; cases q) (fun c e q => by simp only [chkB] at q; cases q)
  | fz p => exact one_E SE_fz (fun c e q => by simp only [chkL] at q; cases q) (fun c e q => by simp only [chkA] at q; cases q) (fun c e q => by simp only [chkB] at q; cases q)
  | bin op a b ha hb => exact one_E (SE_bin ha.1 hb.1) (fun c e q => by simp only [chkL] at q; cases q) (fun c e q => by simp only [chkA] at q; cases q) (fun c e q => by simp only [chkB] at q; cases q)
  | neg a ha => exact one_E (SE_neg ha.1) (fun c e q => by simp only [chkL] at q; cases q) (fun c e q => by simp only [chkA] at q; cases q) (fun c e q => by simp only [chkB] at q; cases q)
  | cmp op a b ha hb => exact one_E (SE_cmp ha.1 hb.1) (fun c e q => by simp only [chkL] at q; cases q) (fun c e q => by simp only [chkA] at q; cases q) (fun c e q => by simp only [chkB] at q; cases q)
  | chn o1 o2 a b d ha hb hd => exact one_E (SE_chn ha.1 hb.1 hd.1) (fun c e q => by simp only [chkL] at q; cases q) (fun c e q => by simp only [chkA] at q; cases q) (fun c e q => by simp only [chkB] at q; cases q)
  | isN a ha => exact one_E (SE_isN ha.1) (fun c e q => by simp only [chkL] at q; cases q) (fun c e q => by simp only [chkA] at q; cases q) (fun c e q => by simp only [chkB] at q; cases q)
  | notN a ha => exact one_E (SE_notN ha.1) (fun c e q => by simp only [chkL] at q; cases q) (fun c e q => by simp only [chkA] at q; cases q) (fun c e q => by simp only [chkB] at q; cases q)
  | and a ha => exact one_E (SE_and ha.2.2.2) (fun c e q => by simp only [chkL] at q; cases q) (fun c e q => by simp only [chkA] at q; cases q) (fun c e q => by simp only [chkB] at q; cases q)
  | or a ha => exact one_E (SE_or ha.2.2.2) (fun c e q => by simp only [chkL] at q; cases q) (fun c e q => by simp only [chkA] at q; cases q) (fun c e q => by simp only [chkB] at q; cases q)
  | not a ha => exact one_E (SE_not ha.1) (fun c e q => by simp only [chkL] at q; cases q) (fun c e q => by simp only [chkA] at q; cases q) (fun c e q => by simp only [chkB] at q; cases q)
  | ite k a b hk ha hb => exact one_E (SE_ite hk.1 ha.1 hb.1) (fun c e q => by simp only [chkL] at q; cases q) (fun c e q => by simp only [chkA] at q; cases q) (fun c e q => by simp only [chkB] at q; cases q)
  | idx a b ha hb => exact one_E (SE_idx ha.1 hb.1) (fun c e q => by simp only [chkL] at q; cases q) (fun c e q => by simp only [chkA] at q; cases q) (fun c e q => by simp only [chkB] at q; cases q)
  | midx p b hb => exact one_E (SE_midx hb.1) (fun c e q => by simp only [chkL] at q; cases q) (fun c e q => by simp only [chkA] at q; cases q) (fun c e q => by simp only [chkB] at q; cases q)
  | slc a lo hi ha hl hh => exact one_E (SE_slc ha.1 hl.1 hh.1) (fun c e q => by simp only [chkL] at q; cases q) (fun c e q => by simp only [chkA] at q; cases q) (fun c e q => by simp only [chkB] at q; cases q)
  | tup l hl => exact one_E (SE_tup hl.2.1) (fun c e q => by simp only [chkL] at q; cases q) (fun c e q => by simp only [chkA] at q; cases q) (fun c e q => by simp only [chkB] at q; cases q)
  | lst l hl => exact one_E (SE_lst hl.2.1) (fun c e q => by simp only [chkL] at q; cases q) (fun c e q => by simp only [chkA] at q; cases q) (fun c e q => by simp only [chkB] at q; cases q)
  | call f l hl => exact one_E (SE_call hl.2.2.1) (fun c e q => by simp only [chkL] at q; cases q) (fun c e q => by simp only [chkA] at q; cases q) (fun c e q => by simp only [chkB] at q; cases q)
  | b1 f a ha => exact one_E (SE_b1 ha.1) (fun c e q => by simp only [chkL] at q; cases q) (fun c e q => by simp only [chkA] at q; cases q) (fun c e q => by simp only [chkB] at q; cases q)
  | pb1 f p => exact one_E SE_pb1 (fun c e q => by simp only [chkL] at q; cases q) (fun c e q => by simp only [chkA] at q; cases q) (fun c e q => by simp only [chkB] at q; cases q)
  | b2 f a b ha hb => exact one_E (SE_b2 ha.1 hb.1) (fun c e q => by simp only [chkL] at q; cases q) (fun c e q => by simp only [chkA] at q; cases q) (fun c e q => by simp only [chkB] at q; cases q)
  | isi a t ha => exact one_E (SE_isi ha.1) (fun c e q => by simp only [chkL] at q; cases q) (fun c e q => by simp only [chkA] at q; cases q) (fun c e q => by simp only [chkB] at q; cases q)
  | isi2 a t u ha => exact one_E (SE_isi2 ha.1) (fun c e q => by simp only [chkL] at q; cases q) (fun c e q => by simp only [chkA] at q; cases q) (fun c e q => by simp only [chkB] at q; cases q)
  | comp a tg it k own ha hi hk => exact one_E (SE_comp ha.1 hi.1 hk.1) (fun c e q => by simp only [chkL] at q; cases q) (fun c e q => by simp only [chkA] at q; cases q) (fun c e q => by simp only [chkB] at q; cases q)
  | pop p => exact one_E SE_pop (fun c e q => by simp only [chkL] at q; cases q) (fun c e q => by simp only [chkA] at q; cases q) (fun c e q => by simp only [chkB] at q; cases q)
  | popi p a ha => exact one_E (SE_popi ha.1) (fun c e q => by simp only [chkL] at q; cases q) (fun c e q => by simp only [chkA] at q; cases q) (fun c e q => by simp only [chkB] at q; cases q)
  | rng1 a ha => exact one_E (SE_rng1 ha.1) (fun c e q => by simp only [chkL] at q; cases q) (fun c e q => by simp only [chkA] at q; cases q) (fun c e q => by simp only [chkB] at q; cases q)
  | rng2 a b ha hb => exact one_E (SE_rng2 ha.1 hb.1) (fun c e q => by simp only [chkL] at q; cases q) (fun c e q => by simp only [chkA] at q; cases q) (fun c e q => by simp only [chkB] at q; cases q)
  | enm a ha => exact one_E (SE_enm ha.1) (fun c e q => by simp only [chkL] at q; cases q) (fun c e q => by simp only [chkA] at q; cases q) (fun c e q => by simp only [chkB] at q; cases q)
  | zp a b ha hb => exact one_E (SE_zp ha.1 hb.1) (fun c e q => by simp only [chkL] at q; cases q) (fun c e q => by simp only [chkA] at q; cases q) (fun c e q => by simp only [chkB] at q; cases q)
  | _ => exact one_E (no_E fun c e q => by simp only [chkE] at q; cases q) (fun c e q => by simp only [chkL] at q; cases q) (fun c e q => by simp only [chkA] at q; cases q) (fun c e q => by simp only [chkB] at q; cases q)
end
end JH

/-! JC5: statements: the checker, the induction. -/
namespace JH
open PySem PySem.Spec PyProof.Rows L2
def isFresh : IE → Bool
  | .lst _ => true
  | .b1 .list _ => true | .b1 .sorted _ => true
  | .pb1 .list (.root _) => true | .pb1 .sorted (.root _) => true
  | .slc .. => true | .bin .add _ _ => true | .comp .. => true
  | _ => false
def nSD : Expr → Bool
  | .SetComp .. => false | .DictComp .. => false
  | _ => true
def swF (c : CK) (y v : Expr) : Bool := match y, v with
  | .Name x xp, .ListComp _ _ scope vp => decide (c.sc.names.lookup x = some .local) && (xp.line == vp.line) && !(scope.names.any fun (n, k) => n == x && (k == .local || k == .cell))
  | _, _ => false
def pinB (pin : List Nat) (t : Tg) : Bool := pin.all fun i => !decide (i ∈ tgS t)
def IS.isSeq : IS → Bool
  | .seq _ _ => true
  | _ => false
def isName : Expr → Bool
  | .Name .. => true
  | _ => false
def chkS (P : Pg) (c : CK) (pin : List Nat) : IS → List Stmt → Bool
  | .skip, sts => match sts with
    | [] => true
    | [.Pass _] => true
    | [.Expr (.Constant (.str _) _ _) _] => true
    | _ => false
  | .seq a b, sts => match sts with
    | s1 :: s2 :: r => chkS P c pin a [s1] && chkS P c pin b (s2 :: r)
    | _ => false
  | .asg t e, sts => match sts with
    | [.Assign [y] v _] => chkG c t (.inl y) && chkE P c e v && !e.isIt && nStar y && pStore y v && pinB pin t && nSD v
    | _ => false
  | .asgM i e, sts => match sts with
    | [.Assign [.Name y yp] v _] => decide (c.N[i]? = some y) && locB c y && isFresh e && chkE P c e v && !e.isIt && pStore (.Name y yp) v && !decide (i ∈ pin) && nSD v
    | _ => false
  | .sto (.root i) k e, sts => match sts with
    | [.Assign [.Subscript (.Name y _) b _] v _] => nmB c i y && chkE P c k b && !k.isIt && pIx b && chkE P c e v && !e.isIt
    | _ => false
  | .app (.root i) e, sts => match sts with
    | [.Expr (.Call (.Attribute (.Name y _) m apos) [v] [] cpos) _] => decide (m = ("append" : Str)) && (apos.endLine == cpos.line) && nStar v && nmB c i y && chkE P c e v && !e.isIt
    | _ => false
  | .ext (.root i) e, sts => match sts with
    | [.Expr (.Call (.Attribute (.Name y _) m apos) [v] [] cpos) _] => decide (m = ("extend" : Str)) && (apos.endLine == cpos.line) && nStar v && nmB c i y && chkE P c e v && !e.isIt
    | _ => false
  | .ex e, sts => match sts with
    | [.Expr v _] => chkE P c e v && !e.isIt && pSwap v
    | _ => false
  | .ite k a b, sts => match sts with
    | [.If t u w _] => chkE P c k t && !k.isIt && tOk k t && chkS P c pin a u && chkS P c pin b w
    | _ => false
  | .wh k b, sts => match sts with
    | [.While t u [] _] => chkE P c k t && !k.isIt && tOk k t && chkS P c pin b u
    | _ => false
  | .for t it b, sts => match sts with
    | [.For y iter u [] _] => chkE P c it iter && itOk it y && nSet iter && chkG c t (.inl y) && pinB pin t && chkS P c pin b u
    | _ => false
  | .ret e, sts => match sts with
    | [.Return (some v) _] => chkE P c e v && !e.isIt
    | _ => false
  | .retN, sts => match sts with
    | [.Return none _] => true
    | _ => false
  | .brk, sts => match sts with
    | [.Break _] => true
    | _ => false
  | .cont, sts => match sts with
    | [.Continue _] => true
    | _ => false
  | _, _ => false
section
variable {T : Tab} {G : Nat → Option D} {g : SG} {P : Pg} {n : Nat} {c : CK} {W : WX} {X : Cx} {pin : List Nat} {wf : Nat}
theorem pinB_ok {t : Tg} (h : pinB pin t = true) : ∀ i ∈ pin, i ∉ tgS t := by
  intro i hi
  have := List.all_eq_true.mp h i hi
  simpa using this
theorem sw_false {c : CK} {X : Cx} (hs : X.env.scope = c.sc) (hk : c.sc.kind = .function) {y v : Expr} (hd : nSD v = true) (h : swF c y v = false) (l : Nat) : swapsWith v (some y) l X.env = pure false := by
  cases v <;> first | rfl | (cases hd; done) | skip
  cases y <;> first | rfl | skip
  rename_i elt gs scope vp x xp
  have hb : X.env.blockKind = .function := by unfold Env.blockKind; rw [hs, hk]; rfl
  have hkk : X.env.kindOf x = c.sc.names.lookup x := by rw [← hs]; rfl
  unfold swF at h
  unfold swapsWith
  simp only [hb, hkk, Expr.pos]
  have e : (c.sc.names.lookup x == some .local) = decide (c.sc.names.lookup x = some .local) := by
    cases h1 : c.sc.names.lookup x with
    | none => rfl
    | some k => cases k <;> rfl
  rw [e]
  show pure ((true && decide (c.sc.names.lookup x = some .local)) && xp.line == vp.line && _) = _
  rw [Bool.true_and]
  exact congrArg pure h
theorem sw_tr {c : CK} {X : Cx} (hs : X.env.scope = c.sc) (hk : c.sc.kind = .function) {y v : Expr} (h : swF c y v = true) : ∃ x xp elt gs scope vp, y = .Name x xp ∧ v = .ListComp elt gs scope vp ∧ X.env.scope.names.lookup x = some .local ∧ ∀ l, swapsWith v (some y) l X.env = pure true := by
  unfold swF at h
  split at h
  · simp only [Bool.and_eq_true, decide_eq_true_eq, Bool.not_eq_true'] at h
    obtain ⟨⟨h1, h2⟩, h3⟩ := h
    refine ⟨_, _, _, _, _, _, rfl, rfl, by rw [hs]; exact h1, fun l => sw_true (by rw [hs]; exact hk) (by rw [hs]; exact h1) h2 h3⟩
  · cases h
theorem chk_comp {ie : IE} {elt : Expr} {gs : List Comprehension} {scope : Scope} {p : Pos} (q : chkE P c ie (.ListComp elt gs scope p) = true) : ∃ a tg it k own tgt iter ifs, ie = .comp a tg it k own ∧ gs = [⟨tgt, iter, ifs, 0⟩] := by
  cases ie with
  | comp a tg it k own =>
    simp only [chkE] at q
    split at q
    · rename_i heq
      cases heq
      exact ⟨_, _, _, _, _, _, _, _, rfl, rfl⟩
    · cases q
  | fz pl => cases pl <;> (simp only [chkE] at q; cases q)
  | midx pl _ => cases pl <;> (simp only [chkE] at q; cases q)
  | pb1 _ pl => cases pl <;> (simp only [chkE] at q; cases q)
  | pop pl => cases pl <;> (simp only [chkE] at q; cases q)
  | popi pl _ => cases pl <;> (simp only [chkE] at q; cases q)
  | _ => simp only [chkE] at q; cases q
/-- a fresh list -/
theorem n_sound (h : Good T g P n c W X) {ie : IE} {e : Expr} (hf : isFresh ie = true) (q : chkE P c ie e = true) : PE X e (tN T G g W false ie) := by
  have S := fun ie => e_sound (T := T) (G := G) (g := g) (P := P) (n := n) ie
  cases ie with
  | lst l =>
    simp only [chkE] at q
    split at q
    · simp only [Bool.and_eq_true, decide_eq_true_eq] at q
      exact n_lst q.2 ((S l).2.1 c W X h _ q.1)
    · cases q
  | b1 f a =>
    simp only [chkE] at q
    split at q
    · simp only [Bool.and_eq_true, decide_eq_true_eq, Bool.not_eq_true'] at q
      obtain ⟨⟨⟨⟨q1, q2⟩, q3⟩, q4⟩, q5⟩ := q
      cases f <;> first | (cases hf; done) | skip
      · exact n_list q1 h.hK h.calm q3 (h.bl q2).1 (h.bl q2).2 ((S a).1.pe h q4 q5)
      · exact n_sorted q1 q3 (h.bl q2).1 (h.bl q2).2 ((S a).1.pe h q4 q5)
    · cases q
  | pb1 f p =>
    cases p with
    | fld _ _ => cases f <;> cases hf
    | root i =>
    simp only [chkE] at q
    split at q
    · simp only [Bool.and_eq_true, decide_eq_true_eq, Bool.not_eq_true'] at q
      obtain ⟨⟨⟨q1, q2⟩, q3⟩, q4⟩ := q
      obtain ⟨h1, h2, h3, h4⟩ := h.nm q4
      refine n_pb1 ?_ q2 (h.bl q3).1 (h.bl q3).2 h1 h2 h3 h4
      cases f <;> first | exact .inl rfl | exact .inr rfl | cases hf
    · cases q
  | slc a lo hi =>
    simp only [chkE] at q
    split at q
    · simp only [Bool.and_eq_true, Bool.not_eq_true'] at q
      obtain ⟨⟨⟨⟨⟨q1, q2⟩, q3⟩, q4⟩, q5⟩, q6⟩ := q
      rename_i l r _ _
      have ol : PO X l (tOf T G g W false lo) := by
        cases l with
        | none => rw [isNil_ok q5]; exact o_nil
        | some y => exact o_some (chk_ne q5) ((S lo).1.pe h q5 q3)
      have oh : PO X r (tOf T G g W false hi) := by
        cases r with
        | none => rw [isNil_ok q6]; exact o_nil
        | some y => exact o_some (chk_ne q6) ((S hi).1.pe h q6 q4)
      exact n_slc h.hK ((S a).1.pe h q1 q2) ol oh
    · cases q
  | bin op a b =>
    simp only [chkE] at q
    split at q
    · simp only [Bool.and_eq_true, Bool.not_eq_true'] at q
      obtain ⟨⟨⟨⟨q1, q2⟩, q3⟩, q4⟩, q5⟩ := q
      cases op <;> first | (cases hf; done) | skip
      cases opB_ok q1
      exact n_add ((S a).1.pe h q2 q4) ((S b).1.pe h q3 q5)
    · cases q
  | comp a tg it k own =>
    have q0 := q
    simp only [chkE] at q
    split at q
    · obtain ⟨h1, h2, h3, h4, h5, h6, h7, h8⟩ := comp_parts (S a).1 (S it).1 (S k).1 h q0
      subst h1
      exact n_comp h.calm h.nd' h2 h3 h4 h5 h6 h7 h8
    · cases q
  | _ => cases hf
def SSt (T : Tab) (G : Nat → Option D) (g : SG) (P : Pg) (n wf : Nat) (c : CK) (W : WX) (X : Cx) (pin : List Nat) (s : IS) : Prop :=
  ∀ sts, chkS P c pin s sts = true → (∀ st, sts = [st] → PS X st (tS g W pin (evS T G wf s))) ∧ PSs X sts (tS g W pin (evS T G wf s))
theorem one_S {s : IS} {st : Stmt} (h : PS X st (tS g W pin (evS T G wf s))) : (∀ st', [st] = [st'] → PS X st' (tS g W pin (evS T G wf s))) ∧ PSs X [st] (tS g W pin (evS T G wf s)) :=
  ⟨fun st' e => by cases e; exact h, s_one h⟩
theorem tS_eq {f f' : Env → SR} {st : Stmt} (h : PS X st (tS g W pin f)) (e : ∀ σ, f' σ = f σ) : PS X st (tS g W pin f') := by
  have : f' = f := funext e
  rw [this]
  exact h
theorem s_sound (hk : c.sc.kind = .function) (h : Good T g P n c W X) : ∀ s : IS, SSt T G g P n wf c W X pin s := fun s => by
  have S := fun ie => e_sound (T := T) (G := G) (g := g) (P := P) (n := n) ie
  induction s with
  | skip =>
    intro sts q
    simp only [chkS] at q
    have e : evS T G wf .skip = SR.nx := by funext σ; simp only [evS]
    split at q
    · exact ⟨fun st z => (nomatch z), by rw [e]; exact s_nil⟩
    · exact one_S (by rw [e]; exact s_pass)
    · exact one_S (by rw [e]; exact s_doc)
    · cases q
  | seq a b ha hb =>
    intro sts q
    simp only [chkS] at q
    split at q
    · simp only [Bool.and_eq_true] at q
      refine ⟨fun st z => (nomatch z), ?_⟩
      have := s_cons ((ha _ q.1).1 _ rfl) (hb _ q.2).2
      have e : evS T G wf (.seq a b) = fun σ => (evS T G wf a σ).andThen (evS T G wf b) := by funext σ; simp only [evS]
      rw [e]
      exact this
    · cases q
  | asg t e =>
    intro sts q
    simp only [chkS] at q
    split at q
    · simp only [Bool.and_eq_true, Bool.not_eq_true'] at q
      obtain ⟨⟨⟨⟨⟨⟨q1, q2⟩, q3⟩, q4⟩, q5⟩, q6⟩, q7⟩ := q
      rename_i y v p
      refine one_S (tS_eq (f := fun σ => (evE T G e σ).to fun x σ1 => (ofO (asgT t x σ1) σ1).to fun σ2 _ => .nx σ2) ?_ fun σ => by simp only [evS])
      cases hsw : swF c y v with
      | false => exact s_asg (pinB_ok q6) ((S e).1.pe h q2 q3) ((g_sound h t).1 _ q1) (sw_false h.sc hk q7 hsw _) q5 q4
      | true =>
        obtain ⟨x, xp, elt, gs, scope, vp, rfl, rfl, hl, hs⟩ := sw_tr h.sc hk hsw
        obtain ⟨a, tg, it, k, own, tgt, iter, ifs, rfl, rfl⟩ := chk_comp q2
        obtain ⟨h1, h2, h3, h4, h5, h6, h7, h8⟩ := comp_parts (S a).1 (S it).1 (S k).1 h q2
        subst h1
        cases t with
        | nm i =>
          simp only [chkG] at q1
          simp only [Bool.and_eq_true, decide_eq_true_eq] at q1
          have hp : i ∉ pin := fun z => pinB_ok q6 i z (by simp [tgS])
          exact s_asgLc hp h.calm h.nd' (by rw [h.hN]; exact q1.1) hl (hs _) h2 h3 h4 h5 h6 h7 h8
        | nil => simp [chkG] at q1
        | cons _ _ => simp [chkG] at q1
    · cases q
  | asgM i e =>
    intro sts q
    simp only [chkS] at q
    split at q
    · simp only [Bool.and_eq_true, decide_eq_true_eq, Bool.not_eq_true', decide_eq_false_iff_not] at q
      obtain ⟨⟨⟨⟨⟨⟨⟨q1, q2⟩, q3⟩, q4⟩, q5⟩, q6⟩, q7⟩, q8⟩ := q
      rename_i y yp v p
      refine one_S (tS_eq (f := fun σ => (evE T G e σ).to fun x σ1 => (ofO (thaw x) σ1).to fun m σ2 => .nx (σ2.set i (some m))) ?_ fun σ => by simp only [evS])
      have hi : X.N[i]? = some y := by rw [h.hN]; exact q1
      cases hsw : swF c (.Name y yp) v with
      | false => exact s_asgM q7 h.nd' hi (h.loc q2).1 (h.loc q2).2 (n_sound h q3 q4) (sw_false h.sc hk q8 hsw _) q6
      | true =>
        obtain ⟨x, xp, elt, gs, scope, vp, e1, rfl, hl, hs⟩ := sw_tr h.sc hk hsw
        cases e1
        obtain ⟨a, tg, it, k, own, tgt, iter, ifs, rfl, rfl⟩ := chk_comp q4
        obtain ⟨h1, h2, h3, h4, h5, h6, h7, h8⟩ := comp_parts (S a).1 (S it).1 (S k).1 h q4
        subst h1
        exact s_asgMLc q7 h.calm h.nd' hi hl (hs _) h2 h3 h4 h5 h6 h7 h8
    · cases q
  | sto pl k e =>
    intro sts q
    cases pl with
    | fld _ _ => simp only [chkS] at q; cases q
    | root i =>
    simp only [chkS] at q
    split at q
    · simp only [Bool.and_eq_true, Bool.not_eq_true'] at q
      obtain ⟨⟨⟨⟨⟨q1, q2⟩, q3⟩, q4⟩, q5⟩, q6⟩ := q
      obtain ⟨h1, h2, h3, h4⟩ := h.nm q1
      exact one_S (tS_eq (s_sto (o := .Constant .none 0 ⟨0, 0, 0, 0⟩) h1 h2 h3 h4 ((S k).1.pe h q2 q3) ((S e).1.pe h q5 q6) q4) fun σ => by simp only [evS])
    · cases q
  | app pl e =>
    intro sts q
    cases pl with
    | fld _ _ => simp only [chkS] at q; cases q
    | root i =>
    simp only [chkS] at q
    split at q
    · simp only [Bool.and_eq_true, Bool.not_eq_true', decide_eq_true_eq] at q
      obtain ⟨⟨⟨⟨⟨q1, q2⟩, q3⟩, q4⟩, q5⟩, q6⟩ := q
      obtain ⟨h1, h2, h3, h4⟩ := h.nm q4
      subst q1
      exact one_S (tS_eq (s_app q2 q3 h1 h2 h3 h4 ((S e).1.pe h q5 q6)) fun σ => by simp only [evS])
    · cases q
  | ext pl e =>
    intro sts q
    cases pl with
    | fld _ _ => simp only [chkS] at q; cases q
    | root i =>
    simp only [chkS] at q
    split at q
    · simp only [Bool.and_eq_true, Bool.not_eq_true', decide_eq_true_eq] at q
      obtain ⟨⟨⟨⟨⟨q1, q2⟩, q3⟩, q4⟩, q5⟩, q6⟩ := q
      obtain ⟨h1, h2, h3, h4⟩ := h.nm q4
      subst q1
      exact one_S (tS_eq (s_ext q2 q3 h1 h2 h3 h4 ((S e).1.pe h q5 q6)) fun σ => by simp only [evS])
    · cases q
  | ex e =>
    intro sts q
    simp only [chkS] at q
    split at q
    · simp only [Bool.and_eq_true, Bool.not_eq_true'] at q
      exact one_S (tS_eq (s_ex ((S e).1.pe h q.1.1 q.1.2) q.2) fun σ => by simp only [evS])
    · cases q
  | ite k a b ha hb =>
    intro sts q
    simp only [chkS] at q
    split at q
    · simp only [Bool.and_eq_true, Bool.not_eq_true'] at q
      obtain ⟨⟨⟨⟨q1, q2⟩, q3⟩, q4⟩, q5⟩ := q
      exact one_S (tS_eq (s_ite ((S k).1.pt h q1 q2 q3) (ha _ q4).2 (hb _ q5).2) fun σ => by simp only [evS])
    · cases q
  | wh k b hb =>
    intro sts q
    simp only [chkS] at q
    split at q
    · simp only [Bool.and_eq_true, Bool.not_eq_true'] at q
      obtain ⟨⟨⟨q1, q2⟩, q3⟩, q4⟩ := q
      exact one_S (tS_eq (s_wh (wf := wf) h.po ((S k).1.pt h q1 q2 q3) (hb _ q4).2) fun σ => by simp only [evS])
    · cases q
  | «for» t it b hb =>
    intro sts q
    simp only [chkS] at q
    split at q
    · simp only [Bool.and_eq_true, Bool.not_eq_true'] at q
      obtain ⟨⟨⟨⟨⟨q1, q2⟩, q3⟩, q4⟩, q5⟩, q6⟩ := q
      exact one_S (tS_eq (s_for (pinB_ok q5) h.po h.calm ((S it).1.pi h q1 q2) ((g_sound h t).1 _ q4) (hb _ q6).2 (nSet_ok q3 _)) fun σ => by simp only [evS])
    · cases q
  | ret e =>
    intro sts q
    simp only [chkS] at q
    split at q
    · simp only [Bool.and_eq_true, Bool.not_eq_true'] at q
      exact one_S (tS_eq (s_ret ((S e).1.pe h q.1 q.2)) fun σ => by simp only [evS])
    · cases q
  | retN =>
    intro sts q
    simp only [chkS] at q
    split at q
    · exact one_S (tS_eq s_retN fun σ => by simp only [evS])
    · cases q
  | brk =>
    intro sts q
    simp only [chkS] at q
    split at q
    · exact one_S (tS_eq s_brk fun σ => by simp only [evS])
    · cases q
  | cont =>
    intro sts q
    simp only [chkS] at q
    split at q
    · exact one_S (tS_eq s_cont fun σ => by simp only [evS])
    · cases q
  | rse _ _ => intro sts q; simp only [chkS] at q; cases q
end
end JH

/-! JC6: defs: the promise of each, by fuel; the law's. -/
namespace JH
open PySem PySem.Spec PyProof.Rows L2
/-- a def's text -/
structure FD where
  name : Str
  params : Arguments
  ps : List Str
  N : List Str
  body : List Stmt
  scope : Scope
def FD.ck (d : FD) : CK := ⟨d.N, d.scope, fun _ => true⟩
def chkF (P : Pg) (fi : FI) (d : FD) : Bool := decide (fi.np = d.ps.length) && decide (fi.ns = d.N.length) && C8.scC d.N d.ps d.scope && fi.pin.all (fun i => decide (i < fi.np)) && chkS P d.ck fi.pin fi.body d.body
section
variable {g : SG} {P : Pg} {W : WX}
theorem start_eq {N : List Str} {vs : List V} {i : Nat} (h : i < vs.length) : (L2.start N vs)[i]? = (vs.map some)[i]? := by
  unfold L2.start
  rw [List.getElem?_append_left (by simpa using h)]
theorem Rel.starts {H F : Hp} {ms : List M} {vs : List V} {Os : Nat → Addr → Prop} {N : List Str} (rel : Rel g H F (ms.map some) (vs.map some) Os) : Rel g H F (ms.map some ++ List.replicate (N.length - ms.length) none) (L2.start N vs) Os := by
  have hl : ms.length = vs.length := by have := rel.len; simpa using this
  refine ⟨rel.le, by unfold L2.start; simp [hl], fun i m e => ?_, rel.dj, rel.nf, rel.al⟩
  by_cases hi : i < ms.length
  · rw [List.getElem?_append_left (by simpa using hi)] at e
    obtain ⟨v, hv, r⟩ := rel.sl i m e
    exact ⟨v, by rw [start_eq (by omega)]; exact hv, r⟩
  · rw [List.getElem?_append_right (by simpa using hi), List.getElem?_replicate] at e
    split at e <;> cases e
theorem outs_get {pin : List Nat} {np i : Nat} {σ : Env} {m : M} (h : (outs pin np σ)[i]? = some (some m)) : i < np ∧ i ∈ pin ∧ σ[i]? = some (some m) := by
  unfold outs at h
  rw [List.getElem?_map] at h
  obtain ⟨k, e, h⟩ := Option.map_eq_some_iff.mp h
  have hi : i < np := by
    have := (List.getElem?_eq_some_iff.mp e).1
    simpa using this
  rw [List.getElem?_range hi] at e
  cases e
  split at h
  · rename_i hc
    refine ⟨hi, by simpa using hc, ?_⟩
    cases e : σ[i]? with
    | none => rw [e] at h; cases h
    | some o => rw [e] at h; exact congrArg some h
  · cases h
/-- what comes out: the parameters that the def changes -/
theorem Rel.out {H F : Hp} {σd : Env} {σ : L2.St} {Os : Nat → Addr → Prop} {pin : List Nat} {np : Nat} {N : List Str} {vs : List V} (rel : Rel g H F σd σ Os) (hp : PinEq pin (L2.start N vs) σ) (hn : np = vs.length) :
    Rel g H F (outs pin np σd) (vs.map some) (fun i a => (i < np ∧ i ∈ pin) ∧ Os i a) := by
  refine ⟨rel.le, by simp [outs, hn], fun i m e => ?_, fun i j a h1 h2 => rel.dj i j a h1.2 h2.2, fun i a h => rel.nf i a h.2, fun i a h => rel.al i a h.2⟩
  obtain ⟨h1, h2, h3⟩ := outs_get e
  obtain ⟨v, hv, r⟩ := rel.sl i m h3
  refine ⟨v, ?_, r.wide fun a z => ⟨⟨h1, h2⟩, z⟩⟩
  rw [hp.2 i h2, start_eq (by omega)] at hv
  exact hv
theorem Gr.cut {pu : Bool} {H F H' F' : Hp} {O O' O'' : Addr → Prop} (x : Gr pu H F O H' F' O') (h : ∀ a, O'' a → O' a) : Gr pu H F O H' F' O'' := ⟨x.ff, x.fr, x.al, fun a z => x.ow a (h a z), x.fz⟩
/-- the body's end is the def's -/
theorem KC_KS {N : List Str} {vs : List V} {H F : Hp} {O : Addr → Prop} {Q : VK} {E : XK} {fi : FI} {r : SR} (hn : fi.np = vs.length) (k : KC g vs H F O Q E (fnRes fi r)) :
    KS g (fun cls d _ H => E cls d H) fi.pin (L2.start N vs) H F O { nx := fun _ H' => Q .non H', rt := Q } r := by
  cases r with
  | nx σd => exact fun σ' H' F' Os' rel hp gr => k .non H' F' _ (rel.out hp hn) .non (gr.cut fun a ⟨i, z⟩ => ⟨i, z.2⟩)
  | ret d σd => exact fun σ' v H' F' Os' rel hp rd gr => k v H' F' _ (rel.out hp hn) rd (gr.cut fun a ⟨i, z⟩ => ⟨i, z.2⟩)
  | exc e σd => exact fun σ' cls dd H' F' Os' rel hp rx gr => k cls dd H' F' rel.le rx (gr.cut fun a z => z.elim)
  | brk _ => exact k.elim
  | cont _ => exact k.elim
  | stuck => exact k.elim
end
section
variable {p : Program} {w : World} {K : PySem.W.Frag} {mg : Str → Option Value} {base : Heap} {g : SG} {P : Pg} {G : Nat → Option D} {wf : Nat} {L : List FI}
/-- a def as it stands -/
structure FnAt (K : PySem.W.Frag) (mg : Str → Option Value) (d : FD) : Prop where
  ex : ∃ (ad : Addr) (fd : FuncData), FunD K d.name d.name d.params d.body d.scope [] [] ad fd ∧ mg d.name = some (.ref ad) ∧ Binds K fd d.ps []
/-- each def keeps its promise -/
theorem fn_sound (hK : g.K = K) (hb : ∀ x ∈ P.blts, mg x = none) (ds : List FD) (hd : ∀ (f : Nat) (x : Str), P.fname[f]? = some x → ∃ d fi, ds[f]? = some d ∧ L[f]? = some fi ∧ d.name = x ∧ chkF P fi d = true ∧ FnAt K mg d) :
    ∀ (n f : Nat) (d : FD) (fi : FI) (ad : Addr) (fd : FuncData), ds[f]? = some d → L[f]? = some fi → chkF P fi d = true → FunD K d.name d.name d.params d.body d.scope [] [] ad fd →
      FnOk p w K mg base (L2.CX p w) (2 * n) ad fd d.ps (spF g (callF L G wf n) f) := fun n => by
  induction n with
  | zero => exact fun f d fi ad fd h1 h2 h4 F => ⟨fun vs H Q E ⟨ms, F', Os, rel, k⟩ => k.elim, fun A outer s H args us vs Q E hr he hbi hv ⟨ms, F', Os, rel, k⟩ => k.elim⟩
  | succ n ih =>
    intro f d fi ad fd h1 h2 h4 F
    unfold chkF at h4
    simp only [Bool.and_eq_true, decide_eq_true_eq, List.all_eq_true] at h4
    obtain ⟨⟨⟨⟨c1, c2⟩, c3⟩, c4⟩, c5⟩ := h4
    have S := C8.fnScope_by c3
    have len : ∀ vs H Q E, spF g (callF L G wf (n + 1)) f vs H Q E → ∃ (ms : List M) (F' : Hp) (Os : Nat → Addr → Prop), ms.length = vs.length ∧ vs.length = d.ps.length ∧ Rel g H F' (ms.map some) (vs.map some) Os ∧ KC g vs H F' (Own Os) Q E (fnRes fi (evS (callF L G wf n) G wf fi.body (ms.map some ++ List.replicate (fi.ns - fi.np) none))) := by
      rintro vs H Q E ⟨ms, F', Os, rel, k⟩
      simp only [callF, h2] at k
      split at k
      · rename_i hl
        have e : ms.length = vs.length := by have := rel.len; simpa using this
        exact ⟨ms, F', Os, e, by omega, rel, k⟩
      · exact k.elim
    refine F.ok (k := 2 * n + 1) S (fun vs H Q E q => by obtain ⟨ms, F', Os, _, e, _⟩ := len vs H Q E q; exact e) fun cdv A outer s H vs Q E hr q => ?_
    obtain ⟨ms, F', Os, e1, e2, rel, k⟩ := len vs H Q E q
    refine ⟨tS g (fun cls d _ H => E cls d H) fi.pin (evS (callF L G wf n) G wf fi.body), (s_sound (T := callF L G wf n) (P := P) (n := n) (c := d.ck) S.kind ?_ fi.body d.body c5).2, ?_⟩
    · exact {
        hK := hK.symm
        hN := rfl
        nd := S.nd
        sc := rfl
        fk := rfl
        calm := rfl
        room := hr
        tk := takes_of rfl rfl rfl rfl
        po := passes_of rfl
        blt := hb
        fns := fun f x hx => by
          obtain ⟨d, fi, a1, a2, a3, a4, ⟨ad, fd, a5, a6, a7⟩⟩ := hd f x hx
          exact ⟨ad, fd, d.ps, by rw [← a3]; exact a6, a5.kp, a7, ih f d fi ad fd a1 a2 a4 a5⟩ }
    · have hnp : fi.np = vs.length := by omega
      refine ⟨_, F', Os, ?_, KC_KS hnp k⟩
      have e3 : fi.ns - fi.np = d.N.length - ms.length := by omega
      rw [e3]
      exact rel.starts
/-- the law's promise at the script -/
theorem law_spec {f : Nat} {n : Nat} {ns : List Int} {H : Hp} {a : Addr} {os : Env} (hO : Only H) (hS : SqL g.K H a (ns.map V.int)) (hl : ns.length ≤ 63) (h : callF L G wf n f [.d (.scr ns)] = .ret (.bl true) os) :
    spF g (callF L G wf n) f [.ref a] H (fun v _ => v = .bl true) fun _ _ _ => False := by
  refine ⟨[.d (.scr ns)], H, fun _ _ => False, ⟨LeH.refl H, rfl, fun i m e => ?_, fun _ _ _ z => z.elim, fun _ _ z => z.elim, fun _ _ z => z.elim⟩, ?_⟩
  · cases i with
    | zero => cases e; exact ⟨_, rfl, .d (.scr hS (Nat.le_trans hl (by rw [line_eq]; decide)))⟩
    | succ i => simp at e
  · rw [h]
    exact fun v H' F' Os' rel rd gr => by cases rd; rfl
end
end JH

/-! JC7: from the head's facts to the law. -/
namespace JH
open PySem PySem.Spec PyProof.Rows L2
/-- the i-th top statement's def -/
def fdOf (p : Program) (i : Nat) (N : List Str) : FD := match p.main.body[i]? with
  | some (.FunctionDef n a b _ _ _ sc _ _ _) => ⟨n, a, a.args.map (·.arg), N, b, sc⟩
  | _ => ⟨"", ⟨[], [], none, [], [], none, []⟩, [], N, [], ⟨.function, [], false, false, []⟩⟩
def FD.he (d : FD) : He.DefD := ⟨(d.name, none), d.name, d.name, d.params, d.body, d.scope, [], []⟩
def pgOf (ds : List FD) (bs : List Str) : Pg := ⟨ds.map (·.name), bs⟩
def faOf (ds : List FD) (bs : List Str) : List He.Fa := ds.map (fun d => .glo d.name) ++ bs.map .free
def chkAll (P : Pg) : List FI → List FD → Bool
  | [], [] => true
  | fi :: L, d :: ds => chkF P fi d && chkAll P L ds
  | _, _ => false
theorem chkAll_get {P : Pg} : ∀ {L : List FI} {ds : List FD} {i : Nat} {d : FD}, chkAll P L ds = true → ds[i]? = some d → ∃ fi, L[i]? = some fi ∧ chkF P fi d = true
  | fi :: L, d :: ds, 0, d', h, e => by
    simp only [chkAll, Bool.and_eq_true] at h
    cases e
    exact ⟨fi, rfl, h.1⟩
  | fi :: L, d :: ds, i + 1, d', h, e => by
    simp only [chkAll, Bool.and_eq_true] at h
    exact chkAll_get (L := L) (ds := ds) (i := i) h.2 e
  | [], d :: ds, _, _, h, _ => by simp [chkAll] at h
  | [], [], i, _, _, e => by simp at e
  | _ :: _, [], i, _, _, e => by simp at e
def Bnd (d : FD) : Prop := ∀ (kV doc pm : Value) (an : Option Addr) (cdv ct : Value) (us : List Value), us.length = d.ps.length → bindArgs (PySem.W.fnOf d.name d.name d.params d.body d.scope .none kV doc pm an cdv ct) ⟨us, []⟩ = pure (d.ps.zip us)
inductive AllB : List FD → Prop
  | nil : AllB []
  | cons {d : FD} {ds : List FD} : Bnd d → AllB ds → AllB (d :: ds)
theorem AllB.get : ∀ {ds : List FD} {i : Nat} {d : FD}, AllB ds → ds[i]? = some d → Bnd d
  | _ :: _, 0, _, .cons h _, e => by cases e; exact h
  | _ :: _, i + 1, _, .cons _ t, e => AllB.get t (i := i) e
section
variable {ds : List FD} {bs : List Str} {L : List FI} {G : Nat → Option D} {wf n f : Nat} {d : FD}
/-- the law's walk: every script, from the table of what the defs do -/
theorem law_walk {l : PySem.W.OpenLaw} {q : Program} {loose : List Str} {XP : (Str → Option Value) → Heap → Prop} {dr : DefRec} {fnm : Nat → Str} {x : Str}
    (hn : l.most = some 63) (hdf : dr.params.defaults = []) (hr : Room (2 * n) callerA) (hd : ds[f]? = some d) (hname : dr.name = d.name) (hps : d.ps = [x]) (hc : chkAll (pgOf ds bs) L ds = true) (hb : AllB ds)
    (h : ∀ ns : List Int, ns.length ≤ 63 → ∃ os, callF L G wf n f [.d (.scr ns)] = .ret (.bl true) os) :
    PySem.W.WalkO q loose XP (He.hookD 4 (faOf ds bs) (ds.map FD.he)).says l.row.toRowW dr [] (fun f vs => PySem.call f vs) := by
  refine Att.attach_call hn hdf fun w s₀ s₁ mg mb fa o pm cd doc a vs ns Gr Y ho hd' hcd hmg hobj hints hlen hg => ?_
  obtain ⟨K, KX, c⟩ := Y
  have GN := Gr.T.g
  have glo : ∀ {i : Nat} {d : FD}, ds[i]? = some d → mg d.name = some (.ref (He.ga K d.name)) := fun {i d} e =>
    He.glo_ok KX GN (c.fact i (f := .glo d.name) (by
      unfold faOf
      rw [List.getElem?_append_left (by rw [List.length_map]; exact (List.getElem?_eq_some_iff.mp e).1), List.getElem?_map, e]
      rfl))
  have fun' : ∀ {i : Nat} {d : FD}, ds[i]? = some d → ∃ fd, FunD K d.name d.name d.params d.body d.scope [] [] (He.ga K d.name) fd := fun {i d} e =>
    c.def_ i (d := d.he) (by rw [List.getElem?_map, e]; rfl)
  obtain ⟨fd, F⟩ := fun' hd
  have efa : fa = He.ga K d.name := by
    have e := hmg
    rw [hname, glo hd] at e
    cases e
    rfl
  subst efa
  obtain ⟨fi, h1, h2⟩ := chkAll_get hc hd
  have bnd : ∀ (s : Shared) (u : Value), BindsTo s fd ⟨[u], []⟩ [(x, u)] := fun s u => by
    have := FunD.bindsA (ps := d.ps) F (hb.get hd) s [u] (by rw [hps]; rfl)
    rw [hps] at this
    exact this
  have FO : ∀ base : Heap, K.In base → base.Ns mainGlobals mg → FnOk l.prog w K mg base (L2.CX l.prog w) (2 * n) (He.ga K d.name) fd [x] (spF ⟨K, fnm, fun i => He.ga K (fnm i)⟩ (callF L G wf n) f) := fun base _ _ => by
    rw [← hps]
    refine fn_sound (g := ⟨K, fnm, fun i => He.ga K (fnm i)⟩) (P := pgOf ds bs) (L := L) (G := G) (wf := wf) rfl (fun y hy => ?_) ds (fun i y hy => ?_) n f d fi _ fd hd h1 h2 F
    · obtain ⟨j, hj⟩ := List.getElem?_of_mem hy
      refine He.free_ok KX GN (c.fact (ds.length + j) (f := .free y) ?_)
      unfold faOf
      have hj : bs[j]? = some y := hj
      rw [List.getElem?_append_right (by rw [List.length_map]; omega), List.length_map, Nat.add_sub_cancel_left, List.getElem?_map, hj]
      rfl
    · have hy : (ds.map (·.name))[i]? = some y := hy
      rw [List.getElem?_map] at hy
      obtain ⟨d1, e1, rfl⟩ := Option.map_eq_some_iff.mp hy
      obtain ⟨fi1, e2, e3⟩ := chkAll_get hc e1
      obtain ⟨fd1, F1⟩ := fun' e1
      exact ⟨d1, fi1, e1, e2, rfl, e3, ⟨_, fd1, F1, glo e1, F1.bindsN (hb.get e1)⟩⟩
  refine law_call KX GN Gr.T.b Gr.T.builtins Gr.T.nolimit hg hobj hints (Nat.le_trans hlen (by rw [line_eq]; decide)) hr FO bnd (fun H hO hS => ?_) fun H e s' hC => ?_
  · obtain ⟨os, e⟩ := h ns hlen
    exact law_spec (g := ⟨K, fnm, fun i => He.ga K (fnm i)⟩) hO hS hlen e
  · obtain ⟨_, _, _, _, _, _, _, _, _, _, _, _, z⟩ := hC
    exact z
end
end JH

/-! JD1: plain laws: running the evaluator. -/
namespace JH
theorem compL_seq {f : D → Env → ER (Option D)} (S : Nat → Env) (v : Nat → D) : ∀ (xs : List D) (k : Nat), (∀ i x, xs[i]? = some x → f x (S (k + i)) = .ok (some (v (k + i))) (S (k + i + 1))) → compL f xs (S k) = .ok ((List.range' k xs.length).map v) (S (k + xs.length))
  | [], k, _ => rfl
  | x :: xs, k, h => by
    have h0 := h 0 x rfl
    rw [Nat.add_zero] at h0
    have ih := compL_seq S v xs (k + 1) fun i y e => by
      have := h (i + 1) y (by simpa using e)
      rw [show k + 1 + i = k + (i + 1) from by omega]
      exact this
    rw [compL_some h0, ih]
    simp only [ER.bind_ok, List.range'_succ, List.map_cons, List.length_cons]
    rw [show k + 1 + xs.length = k + (xs.length + 1) from by omega]
theorem compL_run {f : D → Env → ER (Option D)} {xs : List D} (S : Nat → Env) (v : Nat → D) {σ : Env} (h0 : σ = S 0) (h : ∀ i x, xs[i]? = some x → f x (S i) = .ok (some (v i)) (S (i + 1))) : compL f xs σ = .ok ((List.range xs.length).map v) (S xs.length) := by
  have := compL_seq S v xs 0 (by simpa using h)
  rw [h0, this, List.range_eq_range', Nat.zero_add]
theorem forL_seq {t : Tg} {f : Env → SR} (S : Nat → Env) : ∀ (xs : List D) (k : Nat), (∀ i x, xs[i]? = some x → ∃ σ1, asgT t x (S (k + i)) = some σ1 ∧ (f σ1 = .nx (S (k + i + 1)) ∨ f σ1 = .cont (S (k + i + 1)))) → forL t f xs (S k) = .nx (S (k + xs.length))
  | [], k, _ => rfl
  | x :: xs, k, h => by
    obtain ⟨σ1, e1, e2⟩ := h 0 x rfl
    rw [Nat.add_zero] at e1 e2
    have ih := forL_seq S xs (k + 1) fun i y e => by
      have := h (i + 1) y (by simpa using e)
      rw [show k + 1 + i = k + (i + 1) from by omega]
      exact this
    unfold forL
    simp only [e1]
    have e3 : k + 1 + xs.length = k + (x :: xs).length := by simp only [List.length_cons]; omega
    rcases e2 with e2 | e2
    · rw [e2]; dsimp only; rw [ih, e3]
    · rw [e2]; dsimp only; rw [ih, e3]
theorem forL_run {t : Tg} {f : Env → SR} {xs : List D} (S : Nat → Env) {σ : Env} (h0 : σ = S 0) (h : ∀ i x, xs[i]? = some x → ∃ σ1, asgT t x (S i) = some σ1 ∧ (f σ1 = .nx (S (i + 1)) ∨ f σ1 = .cont (S (i + 1)))) : forL t f xs σ = .nx (S xs.length) := by
  have := forL_seq S xs 0 (by simpa using h)
  rw [h0, this, Nat.zero_add]
/-- a loop by its invariant: it may return -/
def SR.sat (r : SR) (N : Env → Prop) (R : D → Env → Prop) : Prop := match r with
  | .nx σ => N σ
  | .ret d σ => R d σ
  | _ => False
def SR.bsat (r : SR) (N : Env → Prop) (B : Env → Prop) (R : D → Env → Prop) : Prop := match r with
  | .nx σ => N σ
  | .cont σ => N σ
  | .brk σ => B σ
  | .ret d σ => R d σ
  | _ => False
theorem forL_seqI {t : Tg} {f : Env → SR} {N : Env → Prop} {R : D → Env → Prop} (I : Nat → Env → Prop) : ∀ (xs : List D) (k : Nat) (σ : Env), I k σ → (∀ i x σ, xs[i]? = some x → I (k + i) σ → ∃ σ1, asgT t x σ = some σ1 ∧ (f σ1).bsat (I (k + i + 1)) N R) → (∀ σ, I (k + xs.length) σ → N σ) → (forL t f xs σ).sat N R
  | [], k, σ, h0, _, h2 => h2 σ h0
  | x :: xs, k, σ, h0, h, h2 => by
    obtain ⟨σ1, e1, e2⟩ := h 0 x σ rfl h0
    have ih : ∀ σ, I (k + 1) σ → (forL t f xs σ).sat N R := fun σ hI => forL_seqI I xs (k + 1) σ hI (fun i y σ e hI => by
      have := h (i + 1) y σ (by simpa using e) (by rw [show k + (i + 1) = k + 1 + i from by omega]; exact hI)
      rw [show k + 1 + i = k + (i + 1) from by omega]
      exact this) fun σ hI => h2 σ (by rw [show k + (x :: xs).length = k + 1 + xs.length from by simp only [List.length_cons]; omega]; exact hI)
    unfold forL
    simp only [e1]
    rw [Nat.add_zero] at e2
    cases e : f σ1 with
    | nx σ2 => rw [e] at e2; exact ih σ2 e2
    | cont σ2 => rw [e] at e2; exact ih σ2 e2
    | brk σ2 => rw [e] at e2; exact e2
    | ret d σ2 => rw [e] at e2; exact e2
    | exc _ _ => rw [e] at e2; exact e2
    | stuck => rw [e] at e2; exact e2
theorem forL_inv {t : Tg} {f : Env → SR} {xs : List D} {σ : Env} {N : Env → Prop} {R : D → Env → Prop} (I : Nat → Env → Prop) (h0 : I 0 σ) (h : ∀ i x σ, xs[i]? = some x → I i σ → ∃ σ1, asgT t x σ = some σ1 ∧ (f σ1).bsat (I (i + 1)) N R) (h2 : ∀ σ, I xs.length σ → N σ) : (forL t f xs σ).sat N R :=
  forL_seqI I xs 0 σ h0 (by simpa using h) (by simpa using h2)
theorem SR.sat_to {r : SR} {N : Env → Prop} {R : D → Env → Prop} (h : r.sat N R) : (∃ σ, r = .nx σ ∧ N σ) ∨ (∃ d σ, r = .ret d σ ∧ R d σ) := by
  cases r <;> first | exact h.elim | exact .inl ⟨_, rfl, h⟩ | exact .inr ⟨_, _, rfl, h⟩
/-- enter a def -/
theorem call_eq {L : List FI} {G : Nat → Option D} {wf n f : Nat} {fi : FI} {ms : List M} (h : L[f]? = some fi) (hl : ms.length = fi.np) : callF L G wf (n + 1) f ms = fnRes fi (evS (callF L G wf n) G wf fi.body (ms.map some ++ List.replicate (fi.ns - fi.np) none)) := by
  simp only [callF, h, hl, if_true]
/-! ### draws -/
def take (ds : List Int) (a : Nat) (m : Int) : Int := if a < ds.length then ds.getD a 0 / 7 % m else 0
/-- the hand: draws, the place -/
def hand (ds : List Int) (a : Nat) : M := .lst [.d (.lst (ds.map .int)), .d (.int a)]
end JH

/-! JD2: what a run of the evaluator must show: rules backwards. -/
namespace JH
def ER.sat {α : Type} (r : ER α) (Q : α → Env → Prop) (X : EX → Env → Prop) : Prop := match r with
  | .ok a σ => Q a σ
  | .exc e σ => X e σ
  | .stuck => False
def CR.sat (r : CR) (Q : D → Env → Prop) (X : EX → Prop) : Prop := match r with
  | .ret d os => Q d os
  | .exc e => X e
  | .stuck => False
/-- the ends that a statement may come to -/
structure KQ where
  nx : Env → Prop
  ret : D → Env → Prop
  brk : Env → Prop
  cont : Env → Prop
  exc : EX → Env → Prop
def SR.satK (r : SR) (k : KQ) : Prop := match r with
  | .nx σ => k.nx σ
  | .ret d σ => k.ret d σ
  | .brk σ => k.brk σ
  | .cont σ => k.cont σ
  | .exc e σ => k.exc e σ
  | .stuck => False
section
variable {α β : Type} {T : Tab} {G : Nat → Option D} {wf : Nat} {σ : Env} {a b c e l it k : IE} {Q : D → Env → Prop} {X : EX → Env → Prop} {i f : Nat} {K : KQ}
theorem ER.sat_bind {r : ER α} {f : α → Env → ER β} {Q : β → Env → Prop} (h : r.sat (fun x σ1 => (f x σ1).sat Q X) X) : (r.bind f).sat Q X := by
  cases r with
  | ok a σ => exact h
  | exc e σ => exact h
  | stuck => exact h.elim
theorem ER.sat_to {r : ER α} {f : α → Env → SR} (h : r.sat (fun x σ1 => (f x σ1).satK K) K.exc) : (r.to f).satK K := by
  cases r with
  | ok a σ => exact h
  | exc e σ => exact h
  | stuck => exact h.elim
theorem ER.sat_imp {r : ER α} {Q Q' : α → Env → Prop} (h : r.sat Q X) (hq : ∀ a σ, Q a σ → Q' a σ) : r.sat Q' X := by
  cases r with
  | ok a σ => exact hq _ _ h
  | exc e σ => exact h
  | stuck => exact h.elim
theorem sat_ofO {o : Option α} {Q : α → Env → Prop} {x : α} (e : o = some x) (h : Q x σ) : (ofO o σ).sat Q X := by rw [e]; exact h
abbrev wE (T : Tab) (G : Nat → Option D) (e : IE) (σ : Env) (Q : D → Env → Prop) (X : EX → Env → Prop) : Prop := (evE T G e σ).sat Q X
theorem wE_def {Q : D → Env → Prop} : wE T G e σ Q X = (evE T G e σ).sat Q X := rfl
theorem r_cN (h : Q .non σ) : (evE T G .cN σ).sat Q X := by simp only [evE]; exact h
theorem r_cB {v : Bool} (h : Q (.bl v) σ) : (evE T G (.cB v) σ).sat Q X := by simp only [evE]; exact h
theorem r_cI {v : Int} (h : Q (.int v) σ) : (evE T G (.cI v) σ).sat Q X := by simp only [evE]; exact h
theorem r_cS {v : List Nat} (h : Q (.str v) σ) : (evE T G (.cS v) σ).sat Q X := by simp only [evE]; exact h
theorem r_rd {x : D} (e : (σ[i]?).bind id = some (.d x)) (h : Q x σ) : (evE T G (.rd i) σ).sat Q X := by simp only [evE, e]; exact h
theorem r_fz {m : M} {p : Pl} (e : getPl σ p = some m) (h : Q m.toD (setPl σ p (.d m.toD))) : (evE T G (.fz p) σ).sat Q X := by simp only [evE, e]; exact h
/-- dBin, so that no unifier looks into it -/
@[irreducible] def xB (op : BOp) (x y : D) : Option D := dBin op x y
theorem xB_eq {op : BOp} {x y : D} : xB op x y = dBin op x y := by unfold xB; rfl
theorem xB_add {u v : Int} : xB .add (.int u) (.int v) = some (.int (u + v)) := by rw [xB_eq]; simp only [dBin]
theorem xB_sub {u v : Int} : xB .sub (.int u) (.int v) = some (.int (u - v)) := by rw [xB_eq]; simp only [dBin]
theorem xB_mul {u v : Int} (h : (small64 u || small64 v) = true) : xB .mul (.int u) (.int v) = some (.int (u * v)) := by rw [xB_eq]; simp only [dBin]; rw [if_pos h]
theorem xB_mod {u v : Int} (h : 0 < v) : xB .mod (.int u) (.int v) = some (.int (u % v)) := by rw [xB_eq]; simp only [dBin]; rw [if_pos h]
theorem xB_fdiv {u v : Int} (h : 0 < v ∧ v < 1073741824) : xB .fdiv (.int u) (.int v) = some (.int (u / v)) := by rw [xB_eq]; simp only [dBin]; rw [if_pos h]
theorem xB_pow {u v : Int} (h : 0 ≤ v ∧ v ≤ 1000 ∧ small64 u = true) : xB .pow (.int u) (.int v) = some (.int (u ^ v.toNat)) := by rw [xB_eq]; simp only [dBin]; rw [if_pos h]
theorem xB_addT {xs ys : List D} (h : xs.length + ys.length ≤ 16777216) : xB .add (.tup xs) (.tup ys) = some (.tup (xs ++ ys)) := by rw [xB_eq]; simp only [dBin]; rw [if_pos h]
theorem xB_addL {xs ys : List D} (h : xs.length + ys.length ≤ 16777216) : xB .add (.lst xs) (.lst ys) = some (.lst (xs ++ ys)) := by rw [xB_eq]; simp only [dBin]; rw [if_pos h]
theorem r_bin {op : BOp} (h : (evE T G a σ).sat (fun x σ1 => (evE T G b σ1).sat (fun y σ2 => ∃ z, xB op x y = some z ∧ Q z σ2) X) X) : (evE T G (.bin op a b) σ).sat Q X := by
  simp only [xB_eq] at h
  simp only [evE]
  exact ER.sat_bind (ER.sat_imp h fun x σ1 h => ER.sat_bind (ER.sat_imp h fun y σ2 ⟨z, e, q⟩ => sat_ofO e q))
theorem r_neg (h : (evE T G a σ).sat (fun x σ1 => ∃ v, x = .int v ∧ Q (.int (-v)) σ1) X) : (evE T G (.neg a) σ).sat Q X := by
  simp only [evE]
  exact ER.sat_bind (ER.sat_imp h fun x σ1 ⟨v, e, q⟩ => sat_ofO (by rw [e]; rfl) q)
theorem r_cmp {op : COp} (h : (evE T G a σ).sat (fun x σ1 => (evE T G b σ1).sat (fun y σ2 => ∃ z, dCmp op x y = some z ∧ Q (.bl z) σ2) X) X) : (evE T G (.cmp op a b) σ).sat Q X := by
  simp only [evE]
  exact ER.sat_bind (ER.sat_imp h fun x σ1 h => ER.sat_bind (ER.sat_imp h fun y σ2 ⟨z, e, q⟩ => sat_ofO (by rw [e]; rfl) q))
theorem r_isN (h : (evE T G a σ).sat (fun x σ1 => Q (.bl (isNone x)) σ1) X) : (evE T G (.isN a) σ).sat Q X := by
  simp only [evE]
  exact ER.sat_bind (ER.sat_imp h fun x σ1 q => q)
theorem r_notN (h : (evE T G a σ).sat (fun x σ1 => Q (.bl (!isNone x)) σ1) X) : (evE T G (.notN a) σ).sat Q X := by
  simp only [evE]
  exact ER.sat_bind (ER.sat_imp h fun x σ1 q => q)
theorem r_not (h : (evE T G a σ).sat (fun x σ1 => ∃ v, x = .bl v ∧ Q (.bl (!v)) σ1) X) : (evE T G (.not a) σ).sat Q X := by
  simp only [evE]
  exact ER.sat_bind (ER.sat_imp h fun x σ1 ⟨v, e, q⟩ => sat_ofO (by rw [e]; rfl) q)
theorem r_and (h : (evAnd T G l σ).sat Q X) : (evE T G (.and l) σ).sat Q X := by simp only [evE]; exact h
theorem r_or (h : (evOr T G l σ).sat Q X) : (evE T G (.or l) σ).sat Q X := by simp only [evE]; exact h
theorem r_and1 (h : (evE T G a σ).sat Q X) : (evAnd T G (.cons a .nil) σ).sat Q X := by simp only [evAnd]; exact h
theorem r_or1 (h : (evE T G a σ).sat Q X) : (evOr T G (.cons a .nil) σ).sat Q X := by simp only [evOr]; exact h
theorem r_andc {r : IE} (h : (evE T G a σ).sat (fun x σ1 => ∃ v, x = .bl v ∧ (if v = true then (evAnd T G (.cons b r) σ1).sat Q X else Q (.bl false) σ1)) X) : (evAnd T G (.cons a (.cons b r)) σ).sat Q X := by
  rw [evAnd_cons (by simp)]
  refine ER.sat_bind (ER.sat_imp h fun x σ1 ⟨v, e, q⟩ => ?_)
  rw [e]
  show (if v = true then _ else _ : ER D).sat Q X
  split <;> rename_i hv
  · rw [if_pos hv] at q; exact q
  · rw [if_neg hv] at q; exact q
theorem r_orc {r : IE} (h : (evE T G a σ).sat (fun x σ1 => ∃ v, x = .bl v ∧ (if v = true then Q (.bl true) σ1 else (evOr T G (.cons b r) σ1).sat Q X)) X) : (evOr T G (.cons a (.cons b r)) σ).sat Q X := by
  rw [evOr_cons (by simp)]
  refine ER.sat_bind (ER.sat_imp h fun x σ1 ⟨v, e, q⟩ => ?_)
  rw [e]
  show (if v = true then _ else _ : ER D).sat Q X
  split <;> rename_i hv
  · rw [if_pos hv] at q; exact q
  · rw [if_neg hv] at q; exact q
theorem r_ite (h : (evE T G c σ).sat (fun x σ1 => ∃ v, x = .bl v ∧ (if v = true then (evE T G a σ1).sat Q X else (evE T G b σ1).sat Q X)) X) : (evE T G (.ite c a b) σ).sat Q X := by
  simp only [evE]
  refine ER.sat_bind (ER.sat_imp h fun x σ1 ⟨v, e, q⟩ => ?_)
  rw [e]
  show (if v = true then _ else _ : ER D).sat Q X
  split <;> rename_i hv
  · rw [if_pos hv] at q; exact q
  · rw [if_neg hv] at q; exact q
theorem r_chn {o1 o2 : COp} (h : (evE T G a σ).sat (fun x σ1 => (evE T G b σ1).sat (fun y σ2 => ∃ v, dCmp o1 x y = some v ∧ (if v = true then (evE T G c σ2).sat (fun z σ3 => ∃ u, dCmp o2 y z = some u ∧ Q (.bl u) σ3) X else Q (.bl false) σ2)) X) X) : (evE T G (.chn o1 o2 a b c) σ).sat Q X := by
  simp only [evE]
  refine ER.sat_bind (ER.sat_imp h fun x σ1 h => ER.sat_bind (ER.sat_imp h fun y σ2 ⟨v, e, q⟩ => ?_))
  rw [e]
  show (if v = true then _ else _ : ER D).sat Q X
  split <;> rename_i hv
  · rw [if_pos hv] at q; exact ER.sat_bind (ER.sat_imp q fun z σ3 ⟨u, e, q⟩ => sat_ofO (by rw [e]; rfl) q)
  · rw [if_neg hv] at q; exact q
theorem r_idx (h : (evE T G a σ).sat (fun x σ1 => (evE T G b σ1).sat (fun y σ2 => ∃ z, dIdx x y = some z ∧ Q z σ2) X) X) : (evE T G (.idx a b) σ).sat Q X := by
  simp only [evE]
  exact ER.sat_bind (ER.sat_imp h fun x σ1 h => ER.sat_bind (ER.sat_imp h fun y σ2 ⟨z, e, q⟩ => sat_ofO e q))
theorem sat_there {p : Pl} {m : M} {Q : Unit → Env → Prop} (e : getPl σ p = some m) (e2 : m.isL = some ()) (h : Q () σ) : (there p σ).sat Q X := by
  unfold there
  rw [e]
  exact sat_ofO (x := ()) e2 h
theorem r_midx {p : Pl} {m : M} (e : getPl σ p = some m) (e2 : m.isL = some ()) (h : (evE T G b σ).sat (fun y σ2 => ∃ m z, getPl σ2 p = some m ∧ mIdx m y = some z ∧ Q z σ2) X) : (evE T G (.midx p b) σ).sat Q X := by
  simp only [evE]
  exact ER.sat_bind (sat_there e e2 (ER.sat_bind (ER.sat_imp h fun y σ2 ⟨m, z, e3, e4, q⟩ => sat_ofO (by rw [e3]; exact e4) q)))
theorem r_slc {lo hi : IE} (h : (evE T G a σ).sat (fun x σ1 => (evO T G lo σ1).sat (fun u σ2 => (evO T G hi σ2).sat (fun v σ3 => ∃ z, dSlc x u v = some z ∧ Q z σ3) X) X) X) : (evE T G (.slc a lo hi) σ).sat Q X := by
  simp only [evE]
  exact ER.sat_bind (ER.sat_imp h fun x σ1 h => ER.sat_bind (ER.sat_imp h fun y σ2 h => ER.sat_bind (ER.sat_imp h fun v σ3 ⟨z, e, q⟩ => sat_ofO e q)))
theorem r_oN {Q : Option Int → Env → Prop} (h : Q none σ) : (evO T G .nil σ).sat Q X := by simp only [evO]; exact h
theorem r_oS {Q : Option Int → Env → Prop} (hn : a.isNil = false) (h : (evE T G a σ).sat (fun x σ1 => ∃ v, x = .int v ∧ Q (some v) σ1) X) : (evO T G a σ).sat Q X := by
  rw [evO_of _ _ (by rintro rfl; cases hn)]
  exact ER.sat_bind (ER.sat_imp h fun x σ1 ⟨v, e, q⟩ => sat_ofO (by rw [e]; rfl) q)
theorem r_tup (h : (evL T G l σ).sat (fun xs σ1 => Q (.tup xs) σ1) X) : (evE T G (.tup l) σ).sat Q X := by
  simp only [evE]
  exact ER.sat_bind (ER.sat_imp h fun x σ1 q => q)
theorem r_lst (h : (evL T G l σ).sat (fun xs σ1 => Q (.lst xs) σ1) X) : (evE T G (.lst l) σ).sat Q X := by
  simp only [evE]
  exact ER.sat_bind (ER.sat_imp h fun x σ1 q => q)
theorem r_nil {Q : List D → Env → Prop} (h : Q [] σ) : (evL T G .nil σ).sat Q X := by simp only [evL]; exact h
theorem r_cons {r : IE} {Q : List D → Env → Prop} (h : (evE T G a σ).sat (fun x σ1 => (evL T G r σ1).sat (fun xs σ2 => Q (x :: xs) σ2) X) X) : (evL T G (.cons a r) σ).sat Q X := by
  simp only [evL]
  exact ER.sat_bind (ER.sat_imp h fun x σ1 h => ER.sat_bind (ER.sat_imp h fun xs σ2 q => q))
theorem r_anil {Q : List AV → Env → Prop} (h : Q [] σ) : (evA T G .nil σ).sat Q X := by simp only [evA]; exact h
theorem r_amarg {r : IE} {Q : List AV → Env → Prop} {m : M} (e : (σ[i]?).bind id = some m) (h : (evA T G r σ).sat (fun xs σ2 => Q (.m i :: xs) σ2) X) : (evA T G (.cons (.marg i) r) σ).sat Q X := by
  simp only [evA, e]
  exact ER.sat_bind (sat_ofO (x := ()) rfl (ER.sat_bind (ER.sat_imp h fun xs σ2 q => q)))
theorem r_acons {r : IE} {Q : List AV → Env → Prop} (hm : a.isMarg = false) (h : (evE T G a σ).sat (fun x σ1 => (evA T G r σ1).sat (fun xs σ2 => Q (.d x :: xs) σ2) X) X) : (evA T G (.cons a r) σ).sat Q X := by
  rw [evA_cons hm]
  exact ER.sat_bind (ER.sat_imp h fun x σ1 h => ER.sat_bind (ER.sat_imp h fun xs σ2 q => q))
theorem r_call (h : (evA T G l σ).sat (fun avs σ1 => (callWith T f avs σ1).sat Q X) X) : (evE T G (.call f l) σ).sat Q X := by
  simp only [evE]
  exact ER.sat_bind h
theorem r_cw {avs : List AV} {ms : List M} (hn : nodupB (avSlots avs) = true) (hm : avMs σ avs = some ms) (h : (T f ms).sat (fun d os => Q d (putOuts σ avs os)) (fun e => X e (dropOuts σ avs))) : (callWith T f avs σ).sat Q X := by
  unfold callWith
  rw [if_pos hn, hm]
  dsimp only
  cases e : T f ms with
  | ret d os => rw [e] at h; exact h
  | exc x => rw [e] at h; exact h
  | stuck => rw [e] at h; exact h.elim
/-- the values that are handed over, one by one -/
inductive AVs (σ : Env) : List AV → List M → Prop
  | nil : AVs σ [] []
  | d {x : D} {r : List AV} {ms : List M} : AVs σ r ms → AVs σ (.d x :: r) (.d x :: ms)
  | m {i : Nat} {m : M} {r : List AV} {ms : List M} : (σ[i]?).bind id = some m → AVs σ r ms → AVs σ (.m i :: r) (m :: ms)
theorem AVs.eq {avs : List AV} {ms : List M} (h : AVs σ avs ms) : avMs σ avs = some ms := by
  induction h with
  | nil => rfl
  | d _ ih => simp only [avMs, avM, ih]; rfl
  | m e _ ih => simp only [avMs, avM, e, ih]; rfl
theorem r_cv {avs : List AV} {ms : List M} (hn : nodupB (avSlots avs) = true) (hm : AVs σ avs ms) (h : (T f ms).sat (fun d os => Q d (putOuts σ avs os)) (fun e => X e (dropOuts σ avs))) : (callWith T f avs σ).sat Q X := r_cw hn hm.eq h
theorem CR.sat_imp {r : CR} {Q Q' : D → Env → Prop} {X X' : EX → Prop} (h : r.sat Q X) (hq : ∀ a σ, Q a σ → Q' a σ) (hx : ∀ e, X e → X' e) : r.sat Q' X' := by
  cases r with
  | ret a σ => exact hq _ _ h
  | exc e => exact hx _ h
  | stuck => exact h.elim
theorem CR.sat_eq {r : CR} {Q : D → Env → Prop} {X : EX → Prop} {d : D} {os : Env} (e : r = .ret d os) (h : Q d os) : r.sat Q X := by rw [e]; exact h
theorem r_b1 {g : B1} (h : (evE T G a σ).sat (fun x σ1 => ∃ z, dB1 g x = some z ∧ Q z σ1) X) : (evE T G (.b1 g a) σ).sat Q X := by
  simp only [evE]
  exact ER.sat_bind (ER.sat_imp h fun x σ1 ⟨z, e, q⟩ => sat_ofO e q)
theorem r_pb1 {g : B1} {p : Pl} {m : M} {x z : D} (e : getPl σ p = some m) (e2 : peek m = some x) (e3 : dB1 g x = some z) (h : Q z σ) : (evE T G (.pb1 g p) σ).sat Q X := by
  simp only [evE]
  exact sat_ofO (by rw [e]; show (peek m).bind _ = _; rw [e2]; exact e3) h
theorem r_b2 {g : B2} (h : (evE T G a σ).sat (fun x σ1 => (evE T G b σ1).sat (fun y σ2 => ∃ z, dB2 g x y = some z ∧ Q z σ2) X) X) : (evE T G (.b2 g a b) σ).sat Q X := by
  simp only [evE]
  exact ER.sat_bind (ER.sat_imp h fun x σ1 h => ER.sat_bind (ER.sat_imp h fun y σ2 ⟨z, e, q⟩ => sat_ofO e q))
theorem r_isi {t : Ty} (h : (evE T G a σ).sat (fun x σ1 => x.tyOk = true ∧ Q (.bl (x.isTy t)) σ1) X) : (evE T G (.isi a t) σ).sat Q X := by
  simp only [evE]
  exact ER.sat_bind (ER.sat_imp h fun x σ1 ⟨e, q⟩ => by rw [if_pos e]; exact q)
theorem r_isi2 {t u : Ty} (h : (evE T G a σ).sat (fun x σ1 => x.tyOk = true ∧ Q (.bl (x.isTy t || x.isTy u)) σ1) X) : (evE T G (.isi2 a t u) σ).sat Q X := by
  simp only [evE]
  exact ER.sat_bind (ER.sat_imp h fun x σ1 ⟨e, q⟩ => by rw [if_pos e]; exact q)
theorem r_pop {p : Pl} {m m' : M} {x : D} (e : getPl σ p = some m) (e2 : mPop m = some (x, m')) (h : Q x (setPl σ p m')) : (evE T G (.pop p) σ).sat Q X := by
  simp only [evE]
  exact ER.sat_bind (sat_ofO (x := (x, m')) (by rw [e]; exact e2) h)
/-! ### tests, what loops walk -/
theorem r_tN {Q : Bool → Env → Prop} (h : Q true σ) : (evT T G .nil σ).sat Q X := by simp only [evT]; exact h
theorem r_t {Q : Bool → Env → Prop} (hn : a.isNil = false) (h : (evE T G a σ).sat (fun x σ1 => ∃ v, x = .bl v ∧ Q v σ1) X) : (evT T G a σ).sat Q X := by
  rw [evT_of _ _ (by rintro rfl; cases hn)]
  exact ER.sat_bind (ER.sat_imp h fun x σ1 ⟨v, e, q⟩ => sat_ofO (by rw [e]; rfl) q)
theorem r_rng1 {Q : List D → Env → Prop} (h : (evE T G a σ).sat (fun x σ1 => ∃ n : Nat, x = .int (n : Int) ∧ n ≤ 16777216 ∧ Q (rangeD 0 n) σ1) X) : (evI T G (.rng1 a) σ).sat Q X := by
  simp only [evI]
  refine ER.sat_bind (ER.sat_imp h fun x σ1 ⟨n, e, hn, q⟩ => sat_ofO (x := rangeD 0 n) ?_ q)
  rw [e]
  have hs : smallR (n : Int) = true := by unfold smallR; simp only [Bool.and_eq_true, decide_eq_true_eq]; omega
  show (if smallR (n : Int) = true then some (rangeD 0 (n : Int).toNat) else none) = _
  rw [if_pos hs]
  rfl
theorem r_rng2 {Q : List D → Env → Prop} (h : (evE T G a σ).sat (fun x σ1 => (evE T G b σ1).sat (fun y σ2 => ∃ xs, dRng2 x y = some xs ∧ Q xs σ2) X) X) : (evI T G (.rng2 a b) σ).sat Q X := by
  simp only [evI]
  exact ER.sat_bind (ER.sat_imp h fun x σ1 h => ER.sat_bind (ER.sat_imp h fun y σ2 ⟨z, e, q⟩ => sat_ofO e q))
theorem r_enm {Q : List D → Env → Prop} (h : (evE T G a σ).sat (fun x σ1 => ∃ xs, dEnm x = some xs ∧ Q xs σ1) X) : (evI T G (.enm a) σ).sat Q X := by
  simp only [evI]
  exact ER.sat_bind (ER.sat_imp h fun x σ1 ⟨z, e, q⟩ => sat_ofO e q)
theorem r_zp {Q : List D → Env → Prop} (h : (evE T G a σ).sat (fun x σ1 => (evE T G b σ1).sat (fun y σ2 => ∃ xs, dZip x y = some xs ∧ Q xs σ2) X) X) : (evI T G (.zp a b) σ).sat Q X := by
  simp only [evI]
  exact ER.sat_bind (ER.sat_imp h fun x σ1 h => ER.sat_bind (ER.sat_imp h fun y σ2 ⟨z, e, q⟩ => sat_ofO e q))
theorem r_it {Q : List D → Env → Prop} (hn : a.isIt = false) (h : (evE T G a σ).sat (fun x σ1 => ∃ xs, D.items x = some xs ∧ Q xs σ1) X) : (evI T G a σ).sat Q X := by
  rw [evI_of hn]
  exact ER.sat_bind (ER.sat_imp h fun x σ1 ⟨z, e, q⟩ => sat_ofO e q)
/-- a comprehension: its loop, over compF -/
theorem r_comp {tg : Tg} {own : List Nat} (h : (evI T G it σ).sat (fun xs σ1 => (compL (compF T G e tg c own) xs (wipeD σ1 own)).sat (fun ys σ2 => Q (.lst ys) (backD σ1 σ2 own)) X) X) : (evE T G (.comp e tg it c own) σ).sat Q X := by
  simp only [evE]
  exact ER.sat_bind (ER.sat_imp h fun x σ1 h => ER.sat_bind (ER.sat_imp h fun ys σ2 q => q))
theorem compF_sat {tg : Tg} {own : List Nat} {x : D} {σ1 : Env} {Q : Option D → Env → Prop} (ha : asgT tg x σ = some σ1) (h : (evT T G c σ1).sat (fun k σ2 => if k = true then (evE T G e σ2).sat (fun y σ3 => Q (some y) (wipeD σ3 own)) X else Q none (wipeD σ2 own)) X) : (compF T G e tg c own x σ).sat Q X := by
  unfold compF
  rw [ha]
  refine ER.sat_bind (ER.sat_imp h fun k σ2 h => ?_)
  cases k with
  | true => exact ER.sat_bind h
  | false => exact h
theorem sat_ok {α : Type} {r : ER α} {Q : α → Env → Prop} (h : r.sat Q fun _ _ => False) : ∃ a σ, r = .ok a σ ∧ Q a σ := by
  cases r with
  | ok a σ => exact ⟨a, σ, rfl, h⟩
  | exc _ _ => exact h.elim
  | stuck => exact h.elim
theorem ok_sat {α : Type} {r : ER α} {Q : α → Env → Prop} {x : α} {σ : Env} (e : r = .ok x σ) (h : Q x σ) : r.sat Q X := by rw [e]; exact h
/-! ### statements: over irreducible names, so that no unifier looks into them -/
@[irreducible] def xS (T : Tab) (G : Nat → Option D) (wf : Nat) (s : IS) (σ : Env) : SR := evS T G wf s σ
theorem xS_eq {s : IS} : xS T G wf s σ = evS T G wf s σ := by unfold xS; rfl
@[irreducible] def xF (P : List FI) (G : Nat → Option D) (wf n : Nat) : Tab := callF P G wf n
theorem xF_eq {P : List FI} {n : Nat} : xF P G wf n = callF P G wf n := by unfold xF; rfl
theorem xS_fn {s : IS} : xS T G wf s = evS T G wf s := by funext σ; exact xS_eq
theorem r_skip (h : K.nx σ) : (xS T G wf .skip σ).satK K := by
  simp only [xS_fn] at *
  simp only [evS]
  exact h
theorem satK_imp {r : SR} {K K' : KQ} (h : r.satK K) (h1 : ∀ σ, K.nx σ → K'.nx σ) (h2 : ∀ d σ, K.ret d σ → K'.ret d σ) (h3 : ∀ σ, K.brk σ → K'.brk σ) (h4 : ∀ σ, K.cont σ → K'.cont σ) (h5 : ∀ d σ, K.exc d σ → K'.exc d σ) : r.satK K' := by
  cases r with
  | nx σ => exact h1 _ h
  | ret d σ => exact h2 _ _ h
  | brk σ => exact h3 _ h
  | cont σ => exact h4 _ h
  | exc d σ => exact h5 _ _ h
  | stuck => exact h.elim
theorem r_seq {s t : IS} (h : (xS T G wf s σ).satK { K with nx := fun σ1 => (xS T G wf t σ1).satK K }) : (xS T G wf (.seq s t) σ).satK K := by
  simp only [xS_fn] at *
  simp only [evS]
  cases e : evS T G wf s σ with
  | nx σ1 => rw [e] at h; exact h
  | ret d σ1 => rw [e] at h; exact h
  | brk σ1 => rw [e] at h; exact h
  | cont σ1 => rw [e] at h; exact h
  | exc d σ1 => rw [e] at h; exact h
  | stuck => rw [e] at h; exact h.elim
theorem r_asg {t : Tg} (h : (evE T G e σ).sat (fun x σ1 => ∃ σ2, asgT t x σ1 = some σ2 ∧ K.nx σ2) K.exc) : (xS T G wf (.asg t e) σ).satK K := by
  simp only [xS_fn] at *
  simp only [evS]
  exact ER.sat_to (ER.sat_imp h fun x σ1 ⟨σ2, e, q⟩ => ER.sat_to (sat_ofO e q))
theorem r_asgM (h : (evE T G e σ).sat (fun x σ1 => ∃ m, thaw x = some m ∧ K.nx (σ1.set i (some m))) K.exc) : (xS T G wf (.asgM i e) σ).satK K := by
  simp only [xS_fn] at *
  simp only [evS]
  exact ER.sat_to (ER.sat_imp h fun x σ1 ⟨σ2, e, q⟩ => ER.sat_to (sat_ofO e q))
theorem r_sto {p : Pl} (h : (evE T G e σ).sat (fun y σ1 => ∃ m, getPl σ1 p = some m ∧ m.isL = some () ∧ (evE T G k σ1).sat (fun z σ2 => ∃ m m', getPl σ2 p = some m ∧ mSet m z y = some m' ∧ K.nx (setPl σ2 p m')) K.exc) K.exc) : (xS T G wf (.sto p k e) σ).satK K := by
  simp only [xS_fn] at *
  simp only [evS]
  exact ER.sat_to (ER.sat_imp h fun y σ1 ⟨m, e1, e2, h⟩ => ER.sat_to (sat_there e1 e2 (ER.sat_to (ER.sat_imp h fun z σ2 ⟨m, m', e3, e4, q⟩ => ER.sat_to (sat_ofO (by rw [e3]; exact e4) q)))))
theorem r_app {p : Pl} {m : M} (e1 : getPl σ p = some m) (e2 : m.isL = some ()) (h : (evE T G e σ).sat (fun y σ1 => ∃ m m', getPl σ1 p = some m ∧ mApp m y = some m' ∧ K.nx (setPl σ1 p m')) K.exc) : (xS T G wf (.app p e) σ).satK K := by
  simp only [xS_fn] at *
  simp only [evS]
  exact ER.sat_to (sat_there e1 e2 (ER.sat_to (ER.sat_imp h fun z σ2 ⟨m, m', e3, e4, q⟩ => ER.sat_to (sat_ofO (by rw [e3]; exact e4) q))))
theorem r_ext {p : Pl} {m : M} (e1 : getPl σ p = some m) (e2 : m.isL = some ()) (h : (evE T G e σ).sat (fun y σ1 => ∃ m m', getPl σ1 p = some m ∧ mExt m y = some m' ∧ K.nx (setPl σ1 p m')) K.exc) : (xS T G wf (.ext p e) σ).satK K := by
  simp only [xS_fn] at *
  simp only [evS]
  exact ER.sat_to (sat_there e1 e2 (ER.sat_to (ER.sat_imp h fun z σ2 ⟨m, m', e3, e4, q⟩ => ER.sat_to (sat_ofO (by rw [e3]; exact e4) q))))
theorem r_ex (h : (evE T G e σ).sat (fun _ σ1 => K.nx σ1) K.exc) : (xS T G wf (.ex e) σ).satK K := by
  simp only [xS_fn] at *
  simp only [evS]
  exact ER.sat_to h
theorem r_if {s t : IS} (h : (evT T G c σ).sat (fun v σ1 => if v = true then (xS T G wf s σ1).satK K else (xS T G wf t σ1).satK K) K.exc) : (xS T G wf (.ite c s t) σ).satK K := by
  simp only [xS_fn] at *
  simp only [evS]
  refine ER.sat_to (ER.sat_imp h fun v σ1 h => ?_)
  cases v with
  | true => exact h
  | false => exact h
theorem r_ret (h : (evE T G e σ).sat (fun x σ1 => K.ret x σ1) K.exc) : (xS T G wf (.ret e) σ).satK K := by
  simp only [xS_fn] at *
  simp only [evS]
  exact ER.sat_to h
theorem r_retN (h : K.ret .non σ) : (xS T G wf .retN σ).satK K := by
  simp only [xS_fn] at *
  simp only [evS]
  exact h
theorem r_brk (h : K.brk σ) : (xS T G wf .brk σ).satK K := by
  simp only [xS_fn] at *
  simp only [evS]
  exact h
theorem r_cont (h : K.cont σ) : (xS T G wf .cont σ).satK K := by
  simp only [xS_fn] at *
  simp only [evS]
  exact h
theorem r_for {t : Tg} {s : IS} (h : (evI T G it σ).sat (fun xs σ1 => (forL t (xS T G wf s) xs σ1).satK K) K.exc) : (xS T G wf (.for t it s) σ).satK K := by
  simp only [xS_fn] at *
  simp only [evS]
  exact ER.sat_to h
theorem r_wh {s : IS} (h : (whL (evT T G c) (xS T G wf s) wf σ).satK K) : (xS T G wf (.wh c s) σ).satK K := by
  simp only [xS_fn] at *
  simp only [evS]
  exact h
/-- a for loop, by an invariant over the number of turns that are done -/
theorem forL_K0 {t : Tg} {g : Env → SR} (I : Nat → Env → Prop) : ∀ (xs : List D) (k : Nat) (σ : Env), I k σ → (∀ i x σ, xs[i]? = some x → I (k + i) σ → ∃ σ1, asgT t x σ = some σ1 ∧ (g σ1).satK { K with nx := I (k + i + 1), cont := I (k + i + 1), brk := K.nx }) → (∀ σ, I (k + xs.length) σ → K.nx σ) → (forL t g xs σ).satK K
  | [], k, σ, h0, _, h2 => h2 σ h0
  | x :: xs, k, σ, h0, h, h2 => by
    obtain ⟨σ1, e1, e2⟩ := h 0 x σ rfl h0
    have ih : ∀ σ, I (k + 1) σ → (forL t g xs σ).satK K := fun σ hI => forL_K0 I xs (k + 1) σ hI (fun i y σ e hI => by
      have := h (i + 1) y σ (by simpa using e) (by rw [show k + (i + 1) = k + 1 + i from by omega]; exact hI)
      rw [show k + 1 + i = k + (i + 1) from by omega]
      exact this) fun σ hI => h2 σ (by rw [show k + (x :: xs).length = k + 1 + xs.length from by simp only [List.length_cons]; omega]; exact hI)
    unfold forL
    simp only [e1]
    rw [Nat.add_zero] at e2
    cases e : g σ1 with
    | nx σ2 => rw [e] at e2; exact ih σ2 e2
    | cont σ2 => rw [e] at e2; exact ih σ2 e2
    | brk σ2 => rw [e] at e2; exact e2
    | ret d σ2 => rw [e] at e2; exact e2
    | exc _ _ => rw [e] at e2; exact e2
    | stuck => rw [e] at e2; exact e2
theorem forL_K {t : Tg} {g : Env → SR} {xs : List D} (I : Nat → Env → Prop) (h0 : I 0 σ) (h : ∀ i x σ, xs[i]? = some x → I i σ → ∃ σ1, asgT t x σ = some σ1 ∧ (g σ1).satK { K with nx := I (i + 1), cont := I (i + 1), brk := K.nx }) (h2 : ∀ σ, I xs.length σ → K.nx σ) : (forL t g xs σ).satK K :=
  forL_K0 I xs 0 σ h0 (by simpa using h) (by simpa using h2)
/-- .. over a range -/
theorem forL_rng {i0 : Nat} {g : Env → SR} {n : Nat} (I : Nat → Env → Prop) (h0 : I 0 σ) (h : ∀ i σ, i < n → I i σ → (g (σ.set i0 (some (.d (.int (i : Int)))))).satK { K with nx := I (i + 1), cont := I (i + 1), brk := K.nx }) (h2 : ∀ σ, I n σ → K.nx σ) : (forL (.nm i0) g (rangeD 0 n) σ).satK K := by
  refine forL_K I h0 (fun i x σ e hI => ?_) (by rw [rangeD_len]; exact h2)
  obtain ⟨hi, rfl⟩ := rangeD_get e
  refine ⟨_, rfl, ?_⟩
  rw [Int.zero_add]
  exact h i σ hi hI
/-- a while loop, by a measure -/
theorem whL_K {tc : Env → ER Bool} {g : Env → SR} (I : Nat → Env → Prop) (h : ∀ m σ, I m σ → (tc σ).sat (fun v σ1 => if v = true then ∃ m', m = m' + 1 ∧ (g σ1).satK { K with nx := I m', cont := I m', brk := K.nx } else K.nx σ1) K.exc) : ∀ (m n : Nat) (σ : Env), I m σ → m < n → (whL tc g n σ).satK K
  | m, 0, σ, _, hn => by omega
  | m, n + 1, σ, hI, hn => by
    unfold whL
    refine ER.sat_to (ER.sat_imp (h m σ hI) fun v σ1 hv => ?_)
    cases v with
    | false => exact hv
    | true =>
      obtain ⟨m', rfl, e2⟩ := hv
      show SR.satK (match g σ1 with
        | .nx σ2 => whL tc g n σ2
        | .cont σ2 => whL tc g n σ2
        | .brk σ2 => .nx σ2
        | r => r) K
      cases e : g σ1 with
      | nx σ2 => rw [e] at e2; exact whL_K I h m' n σ2 e2 (by omega)
      | cont σ2 => rw [e] at e2; exact whL_K I h m' n σ2 e2 (by omega)
      | brk σ2 => rw [e] at e2; exact e2
      | ret d σ2 => rw [e] at e2; exact e2
      | exc _ _ => rw [e] at e2; exact e2
      | stuck => rw [e] at e2; exact e2
/-- a def, by its body -/
theorem call_sat {L : List FI} {n f : Nat} {fi : FI} {ms : List M} {Q : D → Env → Prop} {X : EX → Prop} (h : L[f]? = some fi) (hl : ms.length = fi.np)
    (hb : (xS (xF L G wf n) G wf fi.body (ms.map some ++ List.replicate (fi.ns - fi.np) none)).satK { nx := fun σ => Q .non (outs fi.pin fi.np σ), ret := fun d σ => Q d (outs fi.pin fi.np σ), brk := fun _ => False, cont := fun _ => False, exc := fun e _ => X e }) : (xF L G wf (n + 1) f ms).sat Q X := by
  simp only [xS_fn, xF_eq] at *
  rw [call_eq h hl]
  cases e : evS (callF L G wf n) G wf fi.body (ms.map some ++ List.replicate (fi.ns - fi.np) none) with
  | nx σ => rw [e] at hb; exact hb
  | ret d σ => rw [e] at hb; exact hb
  | brk σ => rw [e] at hb; exact hb
  | cont σ => rw [e] at hb; exact hb
  | exc x σ => rw [e] at hb; exact hb
  | stuck => rw [e] at hb; exact hb
/-- .. its parts by name -/
theorem call_satB {L : List FI} {n f np ns : Nat} {pin : List Nat} {body : IS} {ms : List M} {Q : D → Env → Prop} {X : EX → Prop} (h : L[f]? = some ⟨np, ns, pin, body⟩) (hl : ms.length = np) (σ0 : Env) (h0 : ms.map some ++ List.replicate (ns - np) none = σ0)
    (hb : (xS (xF L G wf n) G wf body σ0).satK { nx := fun σ => Q .non (outs pin np σ), ret := fun d σ => Q d (outs pin np σ), brk := fun _ => False, cont := fun _ => False, exc := fun e _ => X e }) : (xF L G wf (n + 1) f ms).sat Q X :=
  call_sat h hl (by rw [h0]; exact hb)
/-- a comprehension's loop, by an invariant over what is made -/
theorem compL_K0 {g : D → Env → ER (Option D)} {Q : List D → Env → Prop} (I : Nat → List D → Env → Prop) : ∀ (xs : List D) (k : Nat) (ys : List D) (σ : Env), I k ys σ → (∀ i x ys σ, xs[i]? = some x → I (k + i) ys σ → (g x σ).sat (fun o σ' => match o with | some y => I (k + i + 1) (ys ++ [y]) σ' | none => I (k + i + 1) ys σ') fun _ _ => False) →
    (∀ zs σ, I (k + xs.length) (ys ++ zs) σ → Q zs σ) → (compL g xs σ).sat Q X
  | [], k, ys, σ, h0, _, h2 => h2 [] σ (by simpa using h0)
  | x :: xs, k, ys, σ, h0, h, h2 => by
    have e1 := h 0 x ys σ rfl h0
    have step : ∀ (ys : List D) (σ : Env), I (k + 1) ys σ → ∀ Q' : List D → Env → Prop, (∀ zs σ, I (k + (x :: xs).length) (ys ++ zs) σ → Q' zs σ) → (compL g xs σ).sat Q' X := fun ys σ hI Q' h2 => compL_K0 I xs (k + 1) ys σ hI (fun i y ys σ e hI => by
      have := h (i + 1) y ys σ (by simpa using e) (by rw [show k + (i + 1) = k + 1 + i from by omega]; exact hI)
      rw [show k + 1 + i = k + (i + 1) from by omega]
      exact this) fun zs σ hI => h2 zs σ (by rw [show k + (x :: xs).length = k + 1 + xs.length from by simp only [List.length_cons]; omega]; exact hI)
    cases e : g x σ with
    | ok o σ1 =>
      rw [e] at e1
      cases o with
      | none =>
        rw [compL_none e]
        exact step ys σ1 e1 Q h2
      | some y =>
        rw [compL_some e]
        exact ER.sat_bind (step (ys ++ [y]) σ1 e1 _ fun zs σ hI => h2 (y :: zs) σ (by simpa using hI))
    | exc _ _ => rw [e] at e1; exact e1.elim
    | stuck => rw [e] at e1; exact e1.elim
theorem compL_K {g : D → Env → ER (Option D)} {xs : List D} {Q : List D → Env → Prop} (I : Nat → List D → Env → Prop) (h0 : I 0 [] σ) (h : ∀ i x ys σ, xs[i]? = some x → I i ys σ → (g x σ).sat (fun o σ' => match o with | some y => I (i + 1) (ys ++ [y]) σ' | none => I (i + 1) ys σ') fun _ _ => False)
    (h2 : ∀ ys σ, I xs.length ys σ → Q ys σ) : (compL g xs σ).sat Q X := compL_K0 I xs 0 [] σ h0 (by simpa using h) (by simpa using h2)
theorem compL_rng {g : D → Env → ER (Option D)} {n : Nat} {Q : List D → Env → Prop} (I : Nat → List D → Env → Prop) (h0 : I 0 [] σ) (h : ∀ i ys σ, i < n → I i ys σ → (g (.int (i : Int)) σ).sat (fun o σ' => match o with | some y => I (i + 1) (ys ++ [y]) σ' | none => I (i + 1) ys σ') fun _ _ => False)
    (h2 : ∀ ys σ, I n ys σ → Q ys σ) : (compL g (rangeD 0 n) σ).sat Q X := compL_K I h0 (fun i x ys σ e hI => by
  obtain ⟨hi, rfl⟩ := rangeD_get e
  rw [Int.zero_add]
  exact h i ys σ hi hI) (by rw [rangeD_len]; exact h2)
theorem r_dec {p : Prop} [Decidable p] {A B : Prop} (h1 : p → A) (h2 : ¬ p → B) : if decide p = true then A else B := by
  by_cases h : p
  · rw [if_pos (decide_eq_true h)]; exact h1 h
  · rw [if_neg (by simpa using h)]; exact h2 h
theorem r_bool {v : Bool} {A B : Prop} (h1 : v = true → A) (h2 : v = false → B) : if v = true then A else B := by
  cases v
  · exact h2 rfl
  · exact h1 rfl
theorem r_true {A B : Prop} (h : A) : if true = true then A else B := h
theorem r_false {A B : Prop} (h : B) : if false = true then A else B := h
/-! ### operations on concrete data -/
theorem ixD_nat {n i : Nat} (h : i < n) : ixD n (i : Int) = some i := by
  unfold ixD
  rw [if_pos (by omega), if_pos (by omega)]
  rfl
theorem dIdx_tup {xs : List D} {i : Nat} {d : D} (h : xs[i]? = some d) : dIdx (.tup xs) (.int (i : Int)) = some d := by
  have hi := (List.getElem?_eq_some_iff.mp h).1
  simp only [dIdx]
  rw [ixD_nat hi]
  exact h
theorem dIdx_lst {xs : List D} {i : Nat} {d : D} (h : xs[i]? = some d) : dIdx (.lst xs) (.int (i : Int)) = some d := by
  have hi := (List.getElem?_eq_some_iff.mp h).1
  simp only [dIdx]
  rw [ixD_nat hi]
  exact h
theorem dIdx_scr {ns : List Int} {i : Nat} (h : i < ns.length) : dIdx (.scr ns) (.int (i : Int)) = some (.int ns[i]) := by
  simp only [dIdx]
  rw [ixD_nat h]
  show ns[i]?.map D.int = _
  rw [List.getElem?_eq_getElem h]
  rfl
theorem mIdx_nat {xs : List M} {i : Nat} {d : D} (h : xs[i]? = some (.d d)) : mIdx (.lst xs) (.int (i : Int)) = some d := by
  have hi := (List.getElem?_eq_some_iff.mp h).1
  simp only [mIdx]
  rw [ixD_nat hi]
  show (xs[i]?).bind M.leaf = _
  rw [h]
  rfl
theorem mSet_nat {xs : List M} {i : Nat} {y : D} (hi : i < xs.length) : mSet (.lst xs) (.int (i : Int)) y = some (.lst (xs.set i (.d y))) := by
  simp only [mSet]
  rw [ixD_nat hi]
  rfl
theorem mApp_ok {xs : List M} {y : D} (h : xs.length < 16777216) : mApp (.lst xs) y = some (.lst (xs ++ [.d y])) := by
  simp only [mApp]
  rw [if_pos h]
/-- a comprehension that changes nothing -/
theorem compL_map {g : D → Env → ER (Option D)} {xs : List D} {Q : List D → Env → Prop} (v : D → D) (h : ∀ x ∈ xs, (g x σ).sat (fun o σ' => o = some (v x) ∧ σ' = σ) fun _ _ => False) (h2 : Q (xs.map v) σ) : (compL g xs σ).sat Q X := by
  refine compL_K (fun i ys σ' => ys = (xs.take i).map v ∧ σ' = σ) ⟨rfl, rfl⟩ ?_ ?_
  · rintro i x ys _ e ⟨rfl, rfl⟩
    refine ER.sat_imp (h x (List.mem_of_getElem? e)) ?_
    rintro o _ ⟨rfl, rfl⟩
    refine ⟨?_, rfl⟩
    have hi := (List.getElem?_eq_some_iff.mp e).1
    rw [List.take_succ, e]
    simp
  · rintro ys _ ⟨rfl, rfl⟩
    rw [List.take_length]
    exact h2
theorem small_lit {i j : Int} (h : small64 j = true) : (small64 i || small64 j) = true := by rw [h, Bool.or_true]
theorem small_lit1 {i j : Int} (h : small64 i = true) : (small64 i || small64 j) = true := by rw [h, Bool.true_or]
theorem small_of {i : Int} (h0 : -18446744073709551616 < i) (h : i < 18446744073709551616) : small64 i = true := by
  unfold small64
  simp only [Bool.and_eq_true, decide_eq_true_eq]
  exact ⟨h0, h⟩
theorem small_mod {y k : Int} (h : 0 < k) (h2 : k < 18446744073709551616) : small64 (y % k) = true := by
  have h3 := Int.emod_nonneg y (show k ≠ 0 by omega)
  have h4 := Int.emod_lt_of_pos y h
  exact small_of (by omega) (by omega)
theorem sat_ret {r : CR} {d : D} {os : Env} (h : r.sat (fun x o => x = d ∧ o = os) fun _ => False) : r = .ret d os := by
  cases r with
  | ret a σ => obtain ⟨rfl, rfl⟩ := h; rfl
  | exc e => exact h.elim
  | stuck => exact h.elim
end
end JH

namespace K01
open PySem JH
/-- hold_talk: 0 talk, 1 inputs, 2 coins, 3 tree, 4 bits, 5 side, 6 bit -/
def B0 : IS := (.seq (.asg (.nm 3) (.idx (.rd 0) (.cI 3))) (.seq (.asgM 4 (.lst .nil)) (.seq (.wh (.cmp .eq (.idx (.rd 3) (.cI 0)) (.cS [115, 97, 121])) (.seq (.asg (.nm 5) (.idx (.rd 3) (.cI 1))) (.seq (.asg (.nm 6) (.idx (.idx (.idx (.rd 3) (.cI 2)) (.idx (.rd 1) (.rd 5))) (.idx (.rd 2) (.rd 5)))) (.seq (.app (.root 4) (.rd 6)) (.asg (.nm 3) (.idx (.rd 3) (.bin .add (.cI 3) (.rd 6)))))))) (.ret (.tup (.cons (.b1 .tuple (.fz (.root 4))) (.cons (.tup (.cons (.idx (.idx (.idx (.rd 3) (.cI 1)) (.idx (.rd 1) (.cI 0))) (.idx (.rd 2) (.cI 0))) (.cons (.idx (.idx (.idx (.rd 3) (.cI 2)) (.idx (.rd 1) (.cI 1))) (.idx (.rd 2) (.cI 1))) .nil))) .nil)))))))
def f0 : FI := ⟨3, 7, [], B0⟩
/-- _law_draws: 0 _law_script, 1 _law_many, 2 _law_rests, 3 _law_cell, 4 _law_draws_here, 5 _law_k, 6 _law_at, 7 _law_mixed -/
def B1 : IS := (.seq (.asgM 2 (.comp (.b1 .abs (.b1 .int (.rd 3))) (.nm 3) (.rd 0) .nil [3])) (.seq (.asgM 4 (.lst .nil)) (.seq (.for (.nm 5) (.rng1 (.rd 1)) (.seq (.asg (.nm 3) (.rd 5)) (.seq (.ite (.cmp .gt (.b1 .len (.rd 0)) (.cI 0)) (.seq (.asg (.nm 6) (.bin .mod (.rd 5) (.b1 .len (.rd 0)))) (.seq (.asg (.nm 3) (.b1 .int (.idx (.rd 0) (.rd 6)))) (.ite (.and (.cons (.cmp .ge (.rd 3) (.bin .pow (.cI 10) (.cI 18))) (.cons (.cmp .gt (.midx (.root 2) (.rd 6)) (.cI 0)) .nil))) (.seq (.app (.root 4) (.bin .mod (.b1 .int (.midx (.root 2) (.rd 6))) (.cI 1000003))) (.seq (.sto (.root 2) (.rd 6) (.bin .fdiv (.b1 .int (.midx (.root 2) (.rd 6))) (.cI 1000003))) .cont)) .skip))) .skip) (.seq (.asg (.nm 7) (.bin .mod (.b1 .int (.bin .add (.bin .add (.bin .mul (.rd 3) (.cI 48271)) (.bin .mul (.rd 5) (.cI 69621))) (.cI 11))) (.cI 2147483647))) (.seq (.asg (.nm 7) (.bin .mod (.b1 .int (.bin .add (.bin .fdiv (.bin .mul (.rd 7) (.rd 7)) (.cI 4096)) (.rd 7))) (.cI 2147483629))) (.app (.root 4) (.bin .mod (.b1 .int (.bin .add (.bin .fdiv (.bin .mul (.rd 7) (.rd 7)) (.cI 4096)) (.bin .mul (.rd 5) (.cI 7919)))) (.cI 2147483629)))))))) (.ret (.fz (.root 4))))))
def f1 : FI := ⟨2, 8, [], B1⟩
/-- _law_take: 0 _law_hand, 1 _law_many, 2 _law_at, 3 _law_draws_here -/
def B2 : IS := (.seq (.asg (.nm 2) (.midx (.root 0) (.cI 1))) (.seq (.sto (.root 0) (.cI 1) (.bin .add (.rd 2) (.cI 1))) (.seq (.asg (.nm 3) (.midx (.root 0) (.cI 0))) (.seq (.ite (.cmp .ge (.rd 2) (.b1 .len (.rd 3))) (.ret (.cI 0)) .skip) (.ret (.bin .mod (.bin .fdiv (.b1 .int (.idx (.rd 3) (.rd 2))) (.cI 7)) (.rd 1)))))))
def f2 : FI := ⟨2, 4, [0], B2⟩
/-- _law_bits: 0 _law_hand, 1 _law_inputs, 2 _law_coins, 3 _law_most, 4 _law_r, 5 _law_x -/
def B3 : IS := (.ret (.b1 .tuple (.comp (.b1 .tuple (.comp (.call 2 (.cons (.marg 0) (.cons (.rd 3) .nil))) (.nm 4) (.rng1 (.rd 2)) .nil [4])) (.nm 5) (.rng1 (.rd 1)) .nil [5])))
def f3 : FI := ⟨4, 6, [0], B3⟩
/-- _law_tree: 0 _law_hand, 1 _law_sizes, 2 _law_coins, 3 _law_depth, 4 _law_answers, 5 _law_ends, 6 _law_side, 7 _law_bits_here, 8 _law_first -/
def B4 : IS := (.seq (.ite (.or (.cons (.cmp .eq (.rd 3) (.cI 0)) (.cons (.cmp .eq (.call 2 (.cons (.marg 0) (.cons (.cI 5) .nil))) (.cI 0)) .nil))) (.seq (.asg (.nm 5) (.comp (.call 3 (.cons (.marg 0) (.cons (.idx (.rd 1) (.rd 6)) (.cons (.idx (.rd 2) (.rd 6)) (.cons (.rd 4) .nil))))) (.nm 6) (.rng1 (.cI 2)) .nil [6])) (.ret (.tup (.cons (.cS [101, 110, 100]) (.cons (.idx (.rd 5) (.cI 0)) (.cons (.idx (.rd 5) (.cI 1)) .nil)))))) .skip) (.seq (.asg (.nm 6) (.call 2 (.cons (.marg 0) (.cons (.cI 2) .nil)))) (.seq (.asg (.nm 7) (.call 3 (.cons (.marg 0) (.cons (.idx (.rd 1) (.rd 6)) (.cons (.idx (.rd 2) (.rd 6)) (.cons (.cI 2) .nil)))))) (.seq (.asg (.nm 8) (.call 4 (.cons (.marg 0) (.cons (.rd 1) (.cons (.rd 2) (.cons (.bin .sub (.rd 3) (.cI 1)) (.cons (.rd 4) .nil))))))) (.ret (.tup (.cons (.cS [115, 97, 121]) (.cons (.rd 6) (.cons (.rd 7) (.cons (.rd 8) (.cons (.call 4 (.cons (.marg 0) (.cons (.rd 1) (.cons (.rd 2) (.cons (.bin .sub (.rd 3) (.cI 1)) (.cons (.rd 4) .nil)))))) .nil)))))))))))
def f4 : FI := ⟨5, 9, [0], B4⟩
/-- _law_talk: 0 _law_hand, 1 _law_sizes, 2 _law_answers, 3 _law_coins -/
def B5 : IS := (.seq (.asg (.nm 3) (.tup (.cons (.bin .add (.cI 1) (.call 2 (.cons (.marg 0) (.cons (.cI 3) .nil)))) (.cons (.bin .add (.cI 1) (.call 2 (.cons (.marg 0) (.cons (.cI 3) .nil)))) .nil)))) (.ret (.tup (.cons (.cS [116, 97, 108, 107]) (.cons (.idx (.rd 3) (.cI 0)) (.cons (.idx (.rd 3) (.cI 1)) (.cons (.call 4 (.cons (.marg 0) (.cons (.rd 1) (.cons (.rd 3) (.cons (.bin .add (.cI 1) (.call 2 (.cons (.marg 0) (.cons (.cI 3) .nil)))) (.cons (.rd 2) .nil)))))) .nil)))))))
def f5 : FI := ⟨3, 4, [0], B5⟩
/-- _law_held: 0 _law_talk_here, 1 _law_inputs, 2 _law_coins, 3 _law_tree_here, 4 _law_bits_here, 5 _law_turn, 6 _law_bit -/
def B6 : IS := (.seq (.asg (.nm 3) (.idx (.rd 0) (.cI 3))) (.seq (.asg (.nm 4) (.tup .nil)) (.seq (.for (.nm 5) (.rng1 (.cI 300)) (.seq (.ite (.cmp .eq (.idx (.rd 3) (.cI 0)) (.cS [101, 110, 100])) (.ret (.tup (.cons (.rd 4) (.cons (.tup (.cons (.idx (.idx (.idx (.rd 3) (.cI 1)) (.idx (.rd 1) (.cI 0))) (.idx (.rd 2) (.cI 0))) (.cons (.idx (.idx (.idx (.rd 3) (.cI 2)) (.idx (.rd 1) (.cI 1))) (.idx (.rd 2) (.cI 1))) .nil))) .nil)))) .skip) (.seq (.asg (.nm 6) (.idx (.idx (.idx (.rd 3) (.cI 2)) (.idx (.rd 1) (.idx (.rd 3) (.cI 1)))) (.idx (.rd 2) (.idx (.rd 3) (.cI 1))))) (.seq (.asg (.nm 4) (.bin .add (.rd 4) (.tup (.cons (.rd 6) .nil)))) (.asg (.nm 3) (.idx (.rd 3) (.bin .add (.cI 3) (.rd 6)))))))) (.ret .cN))))
def f6 : FI := ⟨3, 7, [], B6⟩
/-- _law_same: 0 _law_found, 1 _law_due, 2 _law_at -/
def B7 : IS := (.seq (.ite (.isi (.rd 1) .tuple) (.seq (.ite (.or (.cons (.not (.isi (.rd 0) .tuple)) (.cons (.cmp .ne (.b1 .len (.rd 0)) (.b1 .len (.rd 1))) .nil))) (.ret (.cB false)) .skip) (.seq (.for (.nm 2) (.rng1 (.b1 .len (.rd 1))) (.ite (.not (.call 7 (.cons (.idx (.rd 0) (.rd 2)) (.cons (.idx (.rd 1) (.rd 2)) .nil)))) (.ret (.cB false)) .skip)) (.ret (.cB true)))) .skip) (.seq (.ite (.isi (.rd 1) .str) (.ret (.and (.cons (.isi (.rd 0) .str) (.cons (.cmp .eq (.rd 0) (.rd 1)) .nil)))) .skip) (.ret (.and (.cons (.isi (.rd 0) .int) (.cons (.not (.isi (.rd 0) .bool)) (.cons (.cmp .eq (.rd 0) (.rd 1)) .nil)))))))
def f7 : FI := ⟨2, 3, [], B7⟩
/-- _law_great: 0 _law_hand, 1 _law_tree_here, 2 _law_more, 3 _law_told, 4 _law_one, 5 _law_row, 6 _law_side -/
def B8 : IS := (.seq (.ite (.cmp .eq (.idx (.rd 1) (.cI 0)) (.cS [101, 110, 100])) (.seq (.asg (.nm 2) (.idx (.lst (.cons (.cI 0) (.cons (.neg (.cI 7)) (.cons (.bin .pow (.cI 10) (.cI 40)) (.cons (.neg (.bin .pow (.cI 10) (.cI 40))) .nil))))) (.call 2 (.cons (.marg 0) (.cons (.cI 4) .nil))))) (.seq (.asg (.nm 3) (.comp (.b1 .tuple (.comp (.b1 .tuple (.comp (.bin .add (.bin .mul (.rd 4) (.cI 3)) (.rd 2)) (.nm 4) (.rd 5) .nil [4])) (.nm 5) (.idx (.rd 1) (.rd 6)) .nil [5])) (.nm 6) (.lst (.cons (.cI 1) (.cons (.cI 2) .nil))) .nil [6])) (.ret (.tup (.cons (.cS [101, 110, 100]) (.cons (.idx (.rd 3) (.cI 0)) (.cons (.idx (.rd 3) (.cI 1)) .nil))))))) .skip) (.ret (.bin .add (.slc (.rd 1) .nil (.cI 3)) (.tup (.cons (.call 8 (.cons (.marg 0) (.cons (.idx (.rd 1) (.cI 3)) .nil))) (.cons (.call 8 (.cons (.marg 0) (.cons (.idx (.rd 1) (.cI 4)) .nil))) .nil))))))
def f8 : FI := ⟨2, 7, [0], B8⟩
/-- _law_deep: 0 _law_hand, 1 _law_sizes, 2 _law_coins, 3 _law_tree_here, 4 _law_ends, 5 _law_k, 6 _law_side, 7 _law_way, 8 _law_bits_here, 9 _law_other -/
def B9 : IS := (.seq (.asg (.nm 3) (.tup (.cons (.cS [101, 110, 100]) (.cons (.call 3 (.cons (.marg 0) (.cons (.idx (.rd 1) (.cI 0)) (.cons (.idx (.rd 2) (.cI 0)) (.cons (.cI 9) .nil))))) (.cons (.call 3 (.cons (.marg 0) (.cons (.idx (.rd 1) (.cI 1)) (.cons (.idx (.rd 2) (.cI 1)) (.cons (.cI 9) .nil))))) .nil))))) (.seq (.asg (.nm 4) (.comp (.tup (.cons (.cS [101, 110, 100]) (.cons (.call 3 (.cons (.marg 0) (.cons (.idx (.rd 1) (.cI 0)) (.cons (.idx (.rd 2) (.cI 0)) (.cons (.cI 9) .nil))))) (.cons (.call 3 (.cons (.marg 0) (.cons (.idx (.rd 1) (.cI 1)) (.cons (.idx (.rd 2) (.cI 1)) (.cons (.cI 9) .nil))))) .nil)))) (.nm 5) (.rng1 (.cI 3)) .nil [5])) (.seq (.for (.nm 5) (.rng1 (.bin .add (.cI 199) (.call 2 (.cons (.marg 0) (.cons (.cI 51) .nil))))) (.seq (.asg (.nm 6) (.bin .mod (.b1 .int (.rd 5)) (.cI 2))) (.seq (.asg (.nm 7) (.bin .mod (.b1 .int (.bin .add (.bin .fdiv (.rd 5) (.cI 2)) (.bin .fdiv (.rd 5) (.cI 7)))) (.cI 2))) (.seq (.asg (.nm 8) (.bin .mul (.tup (.cons (.bin .mul (.tup (.cons (.rd 7) .nil)) (.idx (.rd 2) (.rd 6))) .nil)) (.idx (.rd 1) (.rd 6)))) (.seq (.ite (.cmp .eq (.bin .mod (.b1 .int (.rd 5)) (.cI 61)) (.cI 7)) (.asg (.nm 8) (.call 3 (.cons (.marg 0) (.cons (.idx (.rd 1) (.rd 6)) (.cons (.idx (.rd 2) (.rd 6)) (.cons (.cI 2) .nil)))))) .skip) (.seq (.asg (.nm 9) (.idx (.rd 4) (.bin .mod (.b1 .int (.rd 5)) (.cI 3)))) (.asg (.nm 3) (.bin .add (.tup (.cons (.cS [115, 97, 121]) (.cons (.rd 6) (.cons (.rd 8) .nil)))) (.idx (.lst (.cons (.tup (.cons (.rd 3) (.cons (.rd 9) .nil))) (.cons (.tup (.cons (.rd 9) (.cons (.rd 3) .nil))) .nil))) (.rd 7)))))))))) (.ret (.tup (.cons (.cS [116, 97, 108, 107]) (.cons (.idx (.rd 2) (.cI 0)) (.cons (.idx (.rd 2) (.cI 1)) (.cons (.rd 3) .nil)))))))))
def f9 : FI := ⟨3, 10, [0], B9⟩
/-- _law_all_right: 0 _law_talk_here, 1 _law_sizes, 2 _law_x, 3 _law_y, 4 _law_r, 5 _law_s -/
def B10 : IS := (.seq (.for (.nm 2) (.rng1 (.idx (.rd 1) (.cI 0))) (.for (.nm 3) (.rng1 (.idx (.rd 1) (.cI 1))) (.for (.nm 4) (.rng1 (.idx (.rd 0) (.cI 1))) (.for (.nm 5) (.rng1 (.idx (.rd 0) (.cI 2))) (.ite (.not (.call 7 (.cons (.call 0 (.cons (.rd 0) (.cons (.tup (.cons (.rd 2) (.cons (.rd 3) .nil))) (.cons (.tup (.cons (.rd 4) (.cons (.rd 5) .nil))) .nil)))) (.cons (.call 6 (.cons (.rd 0) (.cons (.tup (.cons (.rd 2) (.cons (.rd 3) .nil))) (.cons (.tup (.cons (.rd 4) (.cons (.rd 5) .nil))) .nil)))) .nil)))) (.ret (.cB false)) .skip))))) (.ret (.cB true)))
def f10 : FI := ⟨2, 6, [], B10⟩
/-- law: 0 _law_script, 1 _law_hand, 2 _law_sizes, 3 _law_talk_here, 4 _law_great_here, 5 _law_deep_here -/
def B11 : IS := (.seq (.asgM 1 (.lst (.cons (.call 1 (.cons (.rd 0) (.cons (.cI 700) .nil))) (.cons (.cI 0) .nil)))) (.seq (.asg (.nm 2) (.tup (.cons (.bin .add (.cI 1) (.call 2 (.cons (.marg 1) (.cons (.cI 4) .nil)))) (.cons (.bin .add (.cI 1) (.call 2 (.cons (.marg 1) (.cons (.cI 4) .nil)))) .nil)))) (.seq (.asg (.nm 3) (.call 5 (.cons (.marg 1) (.cons (.rd 2) (.cons (.cI 5) .nil))))) (.seq (.ite (.not (.call 10 (.cons (.rd 3) (.cons (.rd 2) .nil)))) (.ret (.cB false)) .skip) (.seq (.asg (.nm 4) (.bin .add (.slc (.rd 3) .nil (.cI 3)) (.tup (.cons (.call 8 (.cons (.marg 1) (.cons (.idx (.rd 3) (.cI 3)) .nil))) .nil)))) (.seq (.ite (.or (.cons (.not (.call 10 (.cons (.rd 4) (.cons (.rd 2) .nil)))) (.cons (.not (.call 10 (.cons (.rd 3) (.cons (.rd 2) .nil)))) .nil))) (.ret (.cB false)) .skip) (.seq (.ite (.cmp .gt (.call 2 (.cons (.marg 1) (.cons (.cI 4) .nil))) (.cI 0)) (.ret (.cB true)) .skip) (.seq (.asg (.nm 5) (.call 9 (.cons (.marg 1) (.cons (.tup (.cons (.cI 2) (.cons (.cI 1) .nil))) (.cons (.tup (.cons (.cI 1) (.cons (.cI 2) .nil))) .nil))))) (.ret (.call 10 (.cons (.rd 5) (.cons (.tup (.cons (.cI 2) (.cons (.cI 1) .nil))) .nil))))))))))))
def f11 : FI := ⟨1, 6, [], B11⟩
def L : List FI := [f0, f1, f2, f3, f4, f5, f6, f7, f8, f9, f10, f11]
def d0 : FD := fdOf PySem.Challenge.pw_jointhands_k01_talks_that_are_held 1 ["talk", "inputs", "coins", "tree", "bits", "side", "bit"]
def d1 : FD := fdOf PySem.Challenge.pw_jointhands_k01_talks_that_are_held 3 ["_law_script", "_law_many", "_law_rests", "_law_cell", "_law_draws_here", "_law_k", "_law_at", "_law_mixed"]
def d2 : FD := fdOf PySem.Challenge.pw_jointhands_k01_talks_that_are_held 4 ["_law_hand", "_law_many", "_law_at", "_law_draws_here"]
def d3 : FD := fdOf PySem.Challenge.pw_jointhands_k01_talks_that_are_held 5 ["_law_hand", "_law_inputs", "_law_coins", "_law_most", "_law_r", "_law_x"]
def d4 : FD := fdOf PySem.Challenge.pw_jointhands_k01_talks_that_are_held 6 ["_law_hand", "_law_sizes", "_law_coins", "_law_depth", "_law_answers", "_law_ends", "_law_side", "_law_bits_here", "_law_first"]
def d5 : FD := fdOf PySem.Challenge.pw_jointhands_k01_talks_that_are_held 7 ["_law_hand", "_law_sizes", "_law_answers", "_law_coins"]
def d6 : FD := fdOf PySem.Challenge.pw_jointhands_k01_talks_that_are_held 8 ["_law_talk_here", "_law_inputs", "_law_coins", "_law_tree_here", "_law_bits_here", "_law_turn", "_law_bit"]
def d7 : FD := fdOf PySem.Challenge.pw_jointhands_k01_talks_that_are_held 9 ["_law_found", "_law_due", "_law_at"]
def d8 : FD := fdOf PySem.Challenge.pw_jointhands_k01_talks_that_are_held 10 ["_law_hand", "_law_tree_here", "_law_more", "_law_told", "_law_one", "_law_row", "_law_side"]
def d9 : FD := fdOf PySem.Challenge.pw_jointhands_k01_talks_that_are_held 11 ["_law_hand", "_law_sizes", "_law_coins", "_law_tree_here", "_law_ends", "_law_k", "_law_side", "_law_way", "_law_bits_here", "_law_other"]
def d10 : FD := fdOf PySem.Challenge.pw_jointhands_k01_talks_that_are_held 12 ["_law_talk_here", "_law_sizes", "_law_x", "_law_y", "_law_r", "_law_s"]
def d11 : FD := fdOf PySem.Challenge.pw_jointhands_k01_talks_that_are_held 13 ["_law_script", "_law_hand", "_law_sizes", "_law_talk_here", "_law_great_here", "_law_deep_here"]
def ds : List FD := [d0, d1, d2, d3, d4, d5, d6, d7, d8, d9, d10, d11]
def bs : List Str := ["abs", "bool", "int", "isinstance", "len", "range", "str", "tuple"]
theorem c0 : chkF (pgOf ds bs) f0 d0 = true := by decide +kernel
theorem c1 : chkF (pgOf ds bs) f1 d1 = true := by decide +kernel
theorem c2 : chkF (pgOf ds bs) f2 d2 = true := by decide +kernel
theorem c3 : chkF (pgOf ds bs) f3 d3 = true := by decide +kernel
theorem c4 : chkF (pgOf ds bs) f4 d4 = true := by decide +kernel
theorem c5 : chkF (pgOf ds bs) f5 d5 = true := by decide +kernel
theorem c6 : chkF (pgOf ds bs) f6 d6 = true := by decide +kernel
theorem c7 : chkF (pgOf ds bs) f7 d7 = true := by decide +kernel
theorem c8 : chkF (pgOf ds bs) f8 d8 = true := by decide +kernel
theorem c9 : chkF (pgOf ds bs) f9 d9 = true := by decide +kernel
theorem c10 : chkF (pgOf ds bs) f10 d10 = true := by decide +kernel
theorem c11 : chkF (pgOf ds bs) f11 d11 = true := by decide +kernel
theorem call : chkAll (pgOf ds bs) L ds = true := by
  show (chkF (pgOf ds bs) f0 d0 && (chkF (pgOf ds bs) f1 d1 && (chkF (pgOf ds bs) f2 d2 && (chkF (pgOf ds bs) f3 d3 && (chkF (pgOf ds bs) f4 d4 && (chkF (pgOf ds bs) f5 d5 && (chkF (pgOf ds bs) f6 d6 && (chkF (pgOf ds bs) f7 d7 && (chkF (pgOf ds bs) f8 d8 && (chkF (pgOf ds bs) f9 d9 && (chkF (pgOf ds bs) f10 d10 && (chkF (pgOf ds bs) f11 d11 && true)))))))))))) = true
  rw [c0, c1, c2, c3, c4, c5, c6, c7, c8, c9, c10, c11]; rfl
theorem b0 : Bnd d0 := fun _ _ _ _ _ _ us hl => match us, hl with | [_, _, _], _ => rfl
theorem b1 : Bnd d1 := fun _ _ _ _ _ _ us hl => match us, hl with | [_, _], _ => rfl
theorem b2 : Bnd d2 := fun _ _ _ _ _ _ us hl => match us, hl with | [_, _], _ => rfl
theorem b3 : Bnd d3 := fun _ _ _ _ _ _ us hl => match us, hl with | [_, _, _, _], _ => rfl
theorem b4 : Bnd d4 := fun _ _ _ _ _ _ us hl => match us, hl with | [_, _, _, _, _], _ => rfl
theorem b5 : Bnd d5 := fun _ _ _ _ _ _ us hl => match us, hl with | [_, _, _], _ => rfl
theorem b6 : Bnd d6 := fun _ _ _ _ _ _ us hl => match us, hl with | [_, _, _], _ => rfl
theorem b7 : Bnd d7 := fun _ _ _ _ _ _ us hl => match us, hl with | [_, _], _ => rfl
theorem b8 : Bnd d8 := fun _ _ _ _ _ _ us hl => match us, hl with | [_, _], _ => rfl
theorem b9 : Bnd d9 := fun _ _ _ _ _ _ us hl => match us, hl with | [_, _, _], _ => rfl
theorem b10 : Bnd d10 := fun _ _ _ _ _ _ us hl => match us, hl with | [_, _], _ => rfl
theorem b11 : Bnd d11 := fun _ _ _ _ _ _ us hl => match us, hl with | [_], _ => rfl
theorem allB : AllB ds := .cons b0 (.cons b1 (.cons b2 (.cons b3 (.cons b4 (.cons b5 (.cons b6 (.cons b7 (.cons b8 (.cons b9 (.cons b10 (.cons b11 (.nil))))))))))))
end K01

namespace K01
open PySem JH
abbrev R : PySem.W.OpenRow := PySem.W.OpenLaw.row PySem.Challenge.rw_jointhands_k01_talks_that_are_held
abbrev fa : List He.Fa := faOf ds bs
abbrev fn : List He.DefD := ds.map FD.he
abbrev hk : PySem.W.Hook := He.hookD 4 fa fn
def ob (s : PySem.W.SharedT) : He.AlD := He.obsDG 4 fa fn (HandSHeadRun.getT s)
theorem ob_eq (s : PySem.W.SharedT) : ob s = hk.obs s.abs := He.obsDG_eq (HandSHeadRun.getT_eq s)
def loose : List Str := ["hold_talk", "_law_draws", "_law_take", "_law_bits", "_law_tree", "_law_talk", "_law_held", "_law_same", "_law_great", "_law_deep", "_law_all_right"]
theorem run (w : World) : HandSHeadRun.RunEq R (PySem.W.view R.prog [13]) hk ob 1000 loose w := by
  intro os
  kernel_rfl
end K01

namespace K01
open PySem JH
local macro_rules | `(tactic| trivial) => `(tactic| first
  | refine r_seq ?_ | refine r_asg ?_ | refine r_asgM ?_ | refine r_rd rfl ?_ | refine r_cI ?_ | refine r_cS ?_ | refine r_cB ?_ | refine r_cN ?_ | refine r_bin ?_ | refine r_cmp ?_ | refine r_idx ?_ | refine r_midx rfl rfl ?_
  | refine r_sto ?_ | refine r_app rfl rfl ?_ | refine r_fz rfl ?_ | refine r_b1 ?_ | refine r_if ?_ | refine r_t rfl ?_ | refine r_ret ?_ | refine r_skip ?_ | refine r_tup ?_ | refine r_lst ?_ | refine r_cons ?_ | refine r_nil ?_
  | refine r_for ?_ | refine r_rng1 ?_ | refine r_call ?_ | refine r_amarg rfl ?_ | refine r_acons rfl ?_ | refine r_anil ?_ | refine r_not ?_ | refine r_and ?_ | refine r_or ?_ | refine r_andc ?_ | refine r_orc ?_ | refine r_and1 ?_ | refine r_or1 ?_ | refine r_neg ?_
  | refine r_isi ?_ | refine r_slc ?_ | refine r_oN ?_ | refine r_oS rfl ?_ | (apply r_cv rfl; focus (repeat (first | exact AVs.nil | apply AVs.d | (apply AVs.m; rfl)))) | refine r_brk ?_ | refine r_cont ?_ | refine r_ex ?_ | refine r_wh ?_ | refine r_tN ?_ | refine r_comp ?_ | refine r_true ?_ | refine r_false ?_
  | refine ⟨_, xB_add, ?_⟩ | refine ⟨_, xB_sub, ?_⟩ | refine ⟨_, xB_mul (by first | exact small_lit (by decide +kernel) | exact small_lit1 (by decide +kernel) | exact small_lit (small_mod (by omega) (by omega)) | exact small_lit (by assumption)), ?_⟩ | refine ⟨_, xB_mod (by first | assumption | omega), ?_⟩ | refine ⟨_, xB_fdiv (by omega), ?_⟩ | refine ⟨_, xB_pow (by decide +kernel), ?_⟩ | refine ⟨_, xB_addT (by first | decide | (simp; done) | (simp; omega) | exact Nat.le_of_ble_eq_true rfl), ?_⟩ | refine ⟨_, xB_addL (by first | decide | (simp; done) | (simp; omega)), ?_⟩
  | refine ⟨_, rfl, ?_⟩ | refine ⟨_, rfl, rfl, ?_⟩ | refine ⟨_, _, rfl, rfl, ?_⟩ | refine ⟨_, if_pos (by first | decide | assumption | omega), ?_⟩ | refine And.intro (by first | assumption | decide) ?_)
variable {n wf : Nat} {G : Nat → Option D}
theorem s2 {ds : List Int} {a : Nat} {m : Int} (hm : 0 < m) : xF L G wf (n + 1) 2 [hand ds a, .d (.int m)] = .ret (.int (take ds a m)) [some (hand ds (a + 1)), none] := by
  refine sat_ret (call_satB rfl rfl [some (hand ds a), some (.d (.int m)), none, none] rfl ?_)
  unfold B2 hand
  repeat trivial
  refine r_dec (fun h => ?_) (fun h => ?_)
  · repeat trivial
    rw [List.length_map] at h
    refine ⟨?_, rfl⟩
    unfold take
    rw [if_neg (by omega)]
  · repeat trivial
    rw [List.length_map] at h
    have h : a < ds.length := by omega
    refine ⟨_, dIdx_lst (d := .int (ds[a])) (by rw [List.getElem?_map, List.getElem?_eq_getElem h]; rfl), ?_⟩
    repeat trivial
    refine ⟨?_, rfl⟩
    unfold take
    rw [if_pos h, List.getD_eq_getElem?_getD, List.getElem?_eq_getElem h]
    rfl
theorem take_lt {ds : List Int} {a : Nat} {m : Int} (hm : 0 < m) : 0 ≤ take ds a m ∧ take ds a m < m := by
  unfold take
  split
  · exact ⟨Int.emod_nonneg _ (by omega), Int.emod_lt_of_pos _ hm⟩
  · exact ⟨Int.le_refl _, hm⟩
/-- a draw below m: a number of some place -/
theorem take_nat {ds : List Int} {a m : Nat} (hm : 0 < m) : ∃ v : Nat, take ds a m = v ∧ v < m := by
  have := take_lt (ds := ds) (a := a) (m := m) (by omega)
  exact ⟨(take ds a m).toNat, by omega, by omega⟩
/-! ### bits -/
def dRow (r : List Int) : D := .tup (r.map .int)
def dBits (b : List (List Int)) : D := .tup (b.map dRow)
/-- k rows of c numbers below m -/
structure Bits (k c : Nat) (m : Int) (b : List (List Int)) : Prop where
  len : b.length = k
  row : ∀ r ∈ b, r.length = c ∧ ∀ v ∈ r, 0 ≤ v ∧ v < m
theorem s3 {ds : List Int} {a k c : Nat} {m : Int} (hm : 0 < m) (hk : k ≤ 16777216) (hc : c ≤ 16777216) : (xF L G wf (n + 2) 3 [hand ds a, .d (.int (k : Int)), .d (.int (c : Int)), .d (.int m)]).sat (fun x os => ∃ b a', Bits k c m b ∧ x = dBits b ∧ os = [some (hand ds a'), none, none, none]) fun _ => False := by
  refine call_satB rfl rfl [some (hand ds a), some (.d (.int (k : Int))), some (.d (.int (c : Int))), some (.d (.int m)), none, none] rfl ?_
  unfold B3
  repeat trivial
  refine compL_rng (fun i ys σ => ∃ b a', ys = b.map dRow ∧ Bits i c m b ∧ σ = [some (hand ds a'), some (.d (.int (k : Int))), some (.d (.int (c : Int))), some (.d (.int m)), none, none]) ⟨[], a, rfl, ⟨rfl, by simp⟩, rfl⟩ ?_ ?_
  · rintro i ys σ hi ⟨b, a1, rfl, hb, rfl⟩
    refine compF_sat rfl ?_
    repeat trivial
    refine compL_rng (fun j ys σ => ∃ r a', ys = r.map D.int ∧ (r.length = j ∧ ∀ v ∈ r, 0 ≤ v ∧ v < m) ∧ σ = [some (hand ds a'), some (.d (.int (k : Int))), some (.d (.int (c : Int))), some (.d (.int m)), none, some (.d (.int (i : Int)))]) ⟨[], a1, rfl, ⟨rfl, by simp⟩, rfl⟩ ?_ ?_
    · rintro j ys σ hj ⟨r, a2, rfl, hr, rfl⟩
      refine compF_sat rfl ?_
      repeat trivial
      refine CR.sat_eq (s2 hm) ?_
      refine ⟨r ++ [take ds a2 m], a2 + 1, by simp, ⟨by simp [hr.1], fun v hv => ?_⟩, rfl⟩
      rcases List.mem_append.mp hv with hv | hv
      · exact hr.2 v hv
      · cases List.mem_singleton.mp hv
        exact take_lt hm
    · rintro ys σ ⟨r, a2, rfl, hr, rfl⟩
      repeat trivial
      refine ⟨b ++ [r], a2, by simp [dRow], ⟨by simp [hb.len], fun v hv => ?_⟩, rfl⟩
      rcases List.mem_append.mp hv with hv | hv
      · exact hb.row v hv
      · cases List.mem_singleton.mp hv
        exact hr
  · rintro ys σ ⟨b, a1, rfl, hb, rfl⟩
    exact ⟨_, rfl, b, a1, hb, rfl, rfl⟩
end K01

namespace K01
open PySem JH
local macro_rules | `(tactic| trivial) => `(tactic| first
  | refine r_seq ?_ | refine r_asg ?_ | refine r_asgM ?_ | refine r_rd rfl ?_ | refine r_cI ?_ | refine r_cS ?_ | refine r_cB ?_ | refine r_cN ?_ | refine r_bin ?_ | refine r_cmp ?_ | refine r_idx ?_ | refine r_midx rfl rfl ?_
  | refine r_sto ?_ | refine r_app rfl rfl ?_ | refine r_fz rfl ?_ | refine r_b1 ?_ | refine r_if ?_ | refine r_t rfl ?_ | refine r_ret ?_ | refine r_skip ?_ | refine r_tup ?_ | refine r_lst ?_ | refine r_cons ?_ | refine r_nil ?_
  | refine r_for ?_ | refine r_rng1 ?_ | refine r_call ?_ | refine r_amarg rfl ?_ | refine r_acons rfl ?_ | refine r_anil ?_ | refine r_not ?_ | refine r_and ?_ | refine r_or ?_ | refine r_andc ?_ | refine r_orc ?_ | refine r_and1 ?_ | refine r_or1 ?_ | refine r_neg ?_
  | refine r_isi ?_ | refine r_slc ?_ | refine r_oN ?_ | refine r_oS rfl ?_ | (apply r_cv rfl; focus (repeat (first | exact AVs.nil | apply AVs.d | (apply AVs.m; rfl)))) | refine r_brk ?_ | refine r_cont ?_ | refine r_ex ?_ | refine r_wh ?_ | refine r_tN ?_ | refine r_comp ?_ | refine r_true ?_ | refine r_false ?_
  | refine ⟨_, xB_add, ?_⟩ | refine ⟨_, xB_sub, ?_⟩ | refine ⟨_, xB_mul (by first | exact small_lit (by decide +kernel) | exact small_lit1 (by decide +kernel) | exact small_lit (small_mod (by omega) (by omega)) | exact small_lit (by assumption)), ?_⟩ | refine ⟨_, xB_mod (by first | assumption | omega), ?_⟩ | refine ⟨_, xB_fdiv (by omega), ?_⟩ | refine ⟨_, xB_pow (by decide +kernel), ?_⟩ | refine ⟨_, xB_addT (by first | decide | (simp; done) | (simp; omega) | exact Nat.le_of_ble_eq_true rfl), ?_⟩ | refine ⟨_, xB_addL (by first | decide | (simp; done) | (simp; omega)), ?_⟩
  | refine ⟨_, rfl, ?_⟩ | refine ⟨_, rfl, rfl, ?_⟩ | refine ⟨_, _, rfl, rfl, ?_⟩ | refine ⟨_, if_pos (by first | decide | assumption | omega), ?_⟩ | refine And.intro (by first | assumption | decide) ?_)
variable {n wf : Nat} {G : Nat → Option D}
/-! ### trees -/
def pair (K : Nat → Nat) : D := .tup [.int (K 0 : Nat), .int (K 1 : Nat)]
theorem pair_ix {K : Nat → Nat} {s : Nat} (h : s < 2) : dIdx (pair K) (.int (s : Int)) = some (.int (K s : Nat)) := by
  match s, h with
  | 0, _ => rfl
  | 1, _ => rfl
inductive Tr where
  | fin (e f : List (List Int))
  | say (s : Nat) (b : List (List Int)) (t u : Tr)
def Tr.toD : Tr → D
  | .fin e f => .tup [.str [101, 110, 100], dBits e, dBits f]
  | .say s b t u => .tup [.str [115, 97, 121], .int (s : Int), dBits b, t.toD, u.toD]
def Tr.dep : Tr → Nat
  | .fin _ _ => 0
  | .say _ _ t u => max t.dep u.dep + 1
structure Shape (k c : Nat) (b : List (List Int)) : Prop where
  len : b.length = k
  row : ∀ r ∈ b, r.length = c
theorem Bits.shape {k c : Nat} {m : Int} {b : List (List Int)} (h : Bits k c m b) : Shape k c b := ⟨h.len, fun r hr => (h.row r hr).1⟩
inductive Good (K C : Nat → Nat) : Tr → Prop
  | fin {e f : List (List Int)} : Shape (K 0) (C 0) e → Shape (K 1) (C 1) f → Good K C (.fin e f)
  | say {s : Nat} {b : List (List Int)} {t u : Tr} : s < 2 → Bits (K s) (C s) 2 b → Good K C t → Good K C u → Good K C (.say s b t u)
theorem eqv_int {i j : Int} : D.eqv (.int i) (.int j) = true → i = j := fun h => eq_of_beq h
theorem eqv_ne {i j : Int} : D.eqv (.int i) (.int j) = false → i ≠ j := fun h e => by
  subst e
  have : (i == i) = false := h
  simp at this
section
variable {K C : Nat → Nat} {ds : List Int} {m : Int}
def E4 : IS := match B4 with
  | .seq (.ite _ e _) _ => e
  | _ => .skip
theorem ends (hK : ∀ i, i < 2 → K i ≤ 16777216) (hC : ∀ i, i < 2 → C i ≤ 16777216) (hm : 0 < m) {dd : D} {k : KQ} {a : Nat} (h : ∀ e f a' s5, Shape (K 0) (C 0) e → Shape (K 1) (C 1) f → k.ret (Tr.fin e f).toD [some (hand ds a'), some (.d (pair K)), some (.d (pair C)), some (.d dd), some (.d (.int m)), s5, none, none, none]) :
    (xS (xF L G wf (n + 2)) G wf E4 [some (hand ds a), some (.d (pair K)), some (.d (pair C)), some (.d dd), some (.d (.int m)), none, none, none, none]).satK k := by
  unfold E4 B4
  repeat trivial
  refine compL_rng (fun i ys σ => ∃ bs a', ys = bs.map dBits ∧ bs.length = i ∧ (∀ j b, bs[j]? = some b → Bits (K j) (C j) m b) ∧ σ = [some (hand ds a'), some (.d (pair K)), some (.d (pair C)), some (.d dd), some (.d (.int m)), none, none, none, none]) ⟨[], a, rfl, rfl, by simp, rfl⟩ ?_ ?_
  · rintro i ys σ hi ⟨bs, a1, rfl, hl, hb, rfl⟩
    refine compF_sat rfl ?_
    repeat trivial
    refine ⟨_, pair_ix hi, ?_⟩
    repeat trivial
    refine ⟨_, pair_ix hi, ?_⟩
    repeat trivial
    refine CR.sat_imp (s3 hm (hK i hi) (hC i hi)) (fun x os ⟨b, a', h1, h2, h3⟩ => ?_) fun _ z => z
    subst h2 h3
    refine ⟨bs ++ [b], a', by simp, by simp [hl], fun j b' e => ?_, rfl⟩
    rcases Nat.lt_or_ge j bs.length with hj | hj
    · rw [List.getElem?_append_left hj] at e
      exact hb j b' e
    · rw [List.getElem?_append_right hj] at e
      have : j - bs.length = 0 := by
        have := (List.getElem?_eq_some_iff.mp e).1
        simpa using this
      rw [this] at e
      cases e
      have : j = i := by omega
      subst this
      exact h1
  · rintro ys σ ⟨bs, a1, rfl, hl, hb, rfl⟩
    match bs, hl with
    | [e, f], _ =>
      repeat trivial
      exact h e f a1 _ (hb 0 e rfl).shape (hb 1 f rfl).shape
theorem s4 (hK : ∀ i, i < 2 → K i ≤ 16777216) (hC : ∀ i, i < 2 → C i ≤ 16777216) (hm : 0 < m) : ∀ d n a : Nat, (xF L G wf (n + d + 3) 4 [hand ds a, .d (pair K), .d (pair C), .d (.int (d : Int)), .d (.int m)]).sat (fun x os => ∃ t a', Good K C t ∧ t.dep ≤ d ∧ x = t.toD ∧ os = [some (hand ds a'), none, none, none, none]) fun _ => False := fun d => by
  induction d with
  | zero =>
    intro n a
    refine call_satB rfl rfl [some (hand ds a), some (.d (pair K)), some (.d (pair C)), some (.d (.int ((0 : Nat) : Int))), some (.d (.int m)), none, none, none, none] rfl ?_
    unfold B4
    refine r_seq (r_if (r_t rfl (r_or (r_orc (r_cmp (r_rd rfl (r_cI ⟨_, rfl, _, rfl, r_true ⟨_, rfl, r_true ?_⟩⟩)))))))
    refine ends hK hC hm fun e f a' s5 h1 h2 => ?_
    exact ⟨.fin e f, a', .fin h1 h2, Nat.le_refl _, rfl, rfl⟩
  | succ d ih =>
    intro n a
    refine call_satB rfl rfl [some (hand ds a), some (.d (pair K)), some (.d (pair C)), some (.d (.int ((d + 1 : Nat) : Int))), some (.d (.int m)), none, none, none, none] rfl ?_
    rw [show n + (d + 1) + 2 = n + d + 3 from by omega]
    unfold B4
    repeat trivial
    refine CR.sat_eq (s2 (by decide)) ?_
    repeat trivial
    refine r_bool (fun h => ?_) (fun h => ?_)
    · refine ends (n := n + d + 1) hK hC hm fun e f a' s5 h1 h2 => ?_
      exact ⟨.fin e f, a', .fin h1 h2, Nat.zero_le _, rfl, rfl⟩
    · repeat trivial
      refine CR.sat_eq (s2 (by decide)) ?_
      obtain ⟨s, es, hs⟩ := take_nat (ds := ds) (a := a + 1) (m := 2) (by decide)
      rw [show (2 : Int) = ((2 : Nat) : Int) from rfl, es]
      repeat trivial
      refine ⟨_, pair_ix hs, ?_⟩
      repeat trivial
      refine ⟨_, pair_ix hs, ?_⟩
      repeat trivial
      refine CR.sat_imp (s3 (n := n + d + 1) (by decide) (hK s hs) (hC s hs)) (fun x os ⟨b, a', h1, h2, h3⟩ => ?_) fun _ z => z
      subst h2 h3
      repeat trivial
      have e1 : ((d + 1 : Nat) : Int) - 1 = (d : Int) := by omega
      rw [e1]
      dsimp only [putOuts, List.set]
      refine CR.sat_imp (ih n a') (fun x os ⟨t, a2, h4, h5, h6, h7⟩ => ?_) fun _ z => z
      subst h6 h7
      repeat trivial
      rw [e1]
      refine CR.sat_imp (ih n a2) (fun x os ⟨u, a3, h8, h9, h10, h11⟩ => ?_) fun _ z => z
      subst h10 h11
      repeat trivial
      exact ⟨.say s b t u, a3, .say hs h1 h4 h8, by simp only [Tr.dep]; omega, rfl, rfl⟩
end
end K01

namespace K01
open PySem JH
local macro_rules | `(tactic| trivial) => `(tactic| first
  | refine r_seq ?_ | refine r_asg ?_ | refine r_asgM ?_ | refine r_rd rfl ?_ | refine r_cI ?_ | refine r_cS ?_ | refine r_cB ?_ | refine r_cN ?_ | refine r_bin ?_ | refine r_cmp ?_ | refine r_idx ?_ | refine r_midx rfl rfl ?_
  | refine r_sto ?_ | refine r_app rfl rfl ?_ | refine r_fz rfl ?_ | refine r_b1 ?_ | refine r_if ?_ | refine r_t rfl ?_ | refine r_ret ?_ | refine r_skip ?_ | refine r_tup ?_ | refine r_lst ?_ | refine r_cons ?_ | refine r_nil ?_
  | refine r_for ?_ | refine r_rng1 ?_ | refine r_call ?_ | refine r_amarg rfl ?_ | refine r_acons rfl ?_ | refine r_anil ?_ | refine r_not ?_ | refine r_and ?_ | refine r_or ?_ | refine r_andc ?_ | refine r_orc ?_ | refine r_and1 ?_ | refine r_or1 ?_ | refine r_neg ?_
  | refine r_isi ?_ | refine r_slc ?_ | refine r_oN ?_ | refine r_oS rfl ?_ | (apply r_cv rfl; focus (repeat (first | exact AVs.nil | apply AVs.d | (apply AVs.m; rfl)))) | refine r_brk ?_ | refine r_cont ?_ | refine r_ex ?_ | refine r_wh ?_ | refine r_tN ?_ | refine r_comp ?_ | refine r_true ?_ | refine r_false ?_
  | refine ⟨_, xB_add, ?_⟩ | refine ⟨_, xB_sub, ?_⟩ | refine ⟨_, xB_mul (by first | exact small_lit (by decide +kernel) | exact small_lit1 (by decide +kernel) | exact small_lit (small_mod (by omega) (by omega)) | exact small_lit (by assumption)), ?_⟩ | refine ⟨_, xB_mod (by first | assumption | omega), ?_⟩ | refine ⟨_, xB_fdiv (by omega), ?_⟩ | refine ⟨_, xB_pow (by decide +kernel), ?_⟩ | refine ⟨_, xB_addT (by first | decide | (simp; done) | (simp; omega) | exact Nat.le_of_ble_eq_true rfl), ?_⟩ | refine ⟨_, xB_addL (by first | decide | (simp; done) | (simp; omega)), ?_⟩
  | refine ⟨_, rfl, ?_⟩ | refine ⟨_, rfl, rfl, ?_⟩ | refine ⟨_, _, rfl, rfl, ?_⟩ | refine ⟨_, if_pos (by first | decide | assumption | omega), ?_⟩ | refine And.intro (by first | assumption | decide) ?_)
variable {n wf : Nat} {G : Nat → Option D}
/-! ### the same -/
theorem s7i {v : Int} : xF L G wf (n + 1) 7 [.d (.int v), .d (.int v)] = .ret (.bl true) [none, none] := by
  refine sat_ret (call_satB rfl rfl [some (.d (.int v)), some (.d (.int v)), none] rfl ?_)
  unfold B7
  repeat trivial
  have e : D.eqv (.int v) (.int v) = true := beq_self_eq_true v
  rw [e]
  exact ⟨rfl, rfl⟩
theorem s7t {xs : List D} (hz : xs.length ≤ 16777216) (h : ∀ x ∈ xs, xF L G wf n 7 [.d x, .d x] = .ret (.bl true) [none, none]) : xF L G wf (n + 1) 7 [.d (.tup xs), .d (.tup xs)] = .ret (.bl true) [none, none] := by
  refine sat_ret (call_satB rfl rfl [some (.d (.tup xs)), some (.d (.tup xs)), none] rfl ?_)
  unfold B7
  repeat trivial
  refine r_bool (fun h => ?_) (fun _ => ?_)
  · have : (!(D.eqv (.int (xs.length : Int)) (.int (xs.length : Int)))) = true := h
    have e : D.eqv (.int (xs.length : Int)) (.int (xs.length : Int)) = true := beq_self_eq_true _
    rw [e] at this
    cases this
  repeat trivial
  refine forL_rng (fun i σ => ∃ s, σ = [some (.d (.tup xs)), some (.d (.tup xs)), s]) ⟨_, rfl⟩ ?_ ?_
  · rintro i σ hi ⟨s, rfl⟩
    have hx : xs[i]? = some xs[i] := List.getElem?_eq_getElem hi
    repeat trivial
    refine ⟨_, dIdx_tup hx, ?_⟩
    repeat trivial
    refine ⟨_, dIdx_tup hx, ?_⟩
    repeat trivial
    refine CR.sat_eq (h _ (List.getElem_mem hi)) ?_
    repeat trivial
    exact ⟨_, rfl⟩
  · rintro σ ⟨s, rfl⟩
    repeat trivial
/-! ### what a talk comes to -/
def cell (b : List (List Int)) (x r : Nat) : Int := (b.getD x []).getD r 0
theorem Shape.ix {k c x : Nat} {b : List (List Int)} (h : Shape k c b) (hx : x < k) : dIdx (dBits b) (.int (x : Int)) = some (dRow (b.getD x [])) := by
  have hx : x < b.length := by rw [h.len]; exact hx
  refine dIdx_tup ?_
  rw [List.getElem?_map, List.getD_eq_getElem?_getD, List.getElem?_eq_getElem hx]
  rfl
theorem Shape.ix2 {k c x r : Nat} {b : List (List Int)} (h : Shape k c b) (hx : x < k) (hr : r < c) : dIdx (dRow (b.getD x [])) (.int (r : Int)) = some (.int (cell b x r)) := by
  have hx : x < b.length := by rw [h.len]; exact hx
  have hr : r < (b.getD x []).length := by
    rw [List.getD_eq_getElem?_getD, List.getElem?_eq_getElem hx]
    show r < (b[x]).length
    rw [h.row _ (List.getElem_mem hx)]
    exact hr
  refine dIdx_tup ?_
  unfold cell
  rw [List.getElem?_map, List.getD_eq_getElem?_getD (l := b.getD x []), List.getElem?_eq_getElem hr]
  rfl
theorem Bits.cell {k c x r : Nat} {b : List (List Int)} (h : Bits k c 2 b) (hx : x < k) (hr : r < c) : K01.cell b x r = 0 ∨ K01.cell b x r = 1 := by
  have hx : x < b.length := by rw [h.len]; exact hx
  have h1 := h.row _ (List.getElem_mem hx)
  have hr : r < (b[x]).length := by rw [h1.1]; exact hr
  have h2 := h1.2 _ (List.getElem_mem hr)
  have e : K01.cell b x r = b[x][r] := by
    unfold K01.cell
    rw [List.getD_eq_getElem?_getD (l := b), List.getElem?_eq_getElem hx]
    show (b[x]).getD r 0 = _
    rw [List.getD_eq_getElem?_getD, List.getElem?_eq_getElem hr]
    rfl
  rw [e]
  omega
def Tr.run (X R : Nat → Nat) : Tr → List Int × Int × Int
  | .fin e f => ([], cell e (X 0) (R 0), cell f (X 1) (R 1))
  | .say s b t u => (cell b (X s) (R s) :: (if cell b (X s) (R s) = 0 then t.run X R else u.run X R).1, (if cell b (X s) (R s) = 0 then t.run X R else u.run X R).2)
def talkD (C : Nat → Nat) (t : Tr) : D := .tup [.str [116, 97, 108, 107], .int (C 0 : Nat), .int (C 1 : Nat), t.toD]
def res (q : List Int × Int × Int) : D := .tup [.tup (q.1.map .int), .tup [.int q.2.1, .int q.2.2]]
theorem Tr.run_len {X R : Nat → Nat} : ∀ t : Tr, (t.run X R).1.length ≤ t.dep
  | .fin _ _ => Nat.le_refl _
  | .say s b t u => by
    have h1 := run_len (X := X) (R := R) t
    have h2 := run_len (X := X) (R := R) u
    simp only [Tr.run, Tr.dep, List.length_cons]
    split <;> omega
theorem s7r {q : List Int × Int × Int} (hz : q.1.length ≤ 16777216) : xF L G wf (n + 3) 7 [.d (res q), .d (res q)] = .ret (.bl true) [none, none] := by
  refine s7t (by simp) fun x hx => ?_
  rcases List.mem_cons.mp hx with rfl | hx
  · refine s7t (by simpa using hz) fun y hy => ?_
    obtain ⟨v, _, rfl⟩ := List.mem_map.mp hy
    exact s7i
  · cases List.mem_singleton.mp hx
    refine s7t (by simp) fun y hy => ?_
    rcases List.mem_cons.mp hy with rfl | hy
    · exact s7i
    · cases List.mem_singleton.mp hy
      exact s7i
theorem toDs_ints : ∀ l : List Int, M.toDs (l.map fun v => M.d (.int v)) = l.map D.int
  | [] => rfl
  | v :: l => by
    show D.int v :: M.toDs (l.map fun v => M.d (.int v)) = _
    rw [toDs_ints l]
    rfl
end K01

namespace K01
open PySem JH
local macro_rules | `(tactic| trivial) => `(tactic| first
  | refine r_seq ?_ | refine r_asg ?_ | refine r_asgM ?_ | refine r_rd rfl ?_ | refine r_cI ?_ | refine r_cS ?_ | refine r_cB ?_ | refine r_cN ?_ | refine r_bin ?_ | refine r_cmp ?_ | refine r_idx ?_ | refine r_midx rfl rfl ?_
  | refine r_sto ?_ | refine r_app rfl rfl ?_ | refine r_fz rfl ?_ | refine r_b1 ?_ | refine r_if ?_ | refine r_t rfl ?_ | refine r_ret ?_ | refine r_skip ?_ | refine r_tup ?_ | refine r_lst ?_ | refine r_cons ?_ | refine r_nil ?_
  | refine r_for ?_ | refine r_rng1 ?_ | refine r_call ?_ | refine r_amarg rfl ?_ | refine r_acons rfl ?_ | refine r_anil ?_ | refine r_not ?_ | refine r_and ?_ | refine r_or ?_ | refine r_andc ?_ | refine r_orc ?_ | refine r_and1 ?_ | refine r_or1 ?_ | refine r_neg ?_
  | refine r_isi ?_ | refine r_slc ?_ | refine r_oN ?_ | refine r_oS rfl ?_ | (apply r_cv rfl; focus (repeat (first | exact AVs.nil | apply AVs.d | (apply AVs.m; rfl)))) | refine r_brk ?_ | refine r_cont ?_ | refine r_ex ?_ | refine r_wh ?_ | refine r_tN ?_ | refine r_comp ?_ | refine r_true ?_ | refine r_false ?_
  | refine ⟨_, xB_add, ?_⟩ | refine ⟨_, xB_sub, ?_⟩ | refine ⟨_, xB_mul (by first | exact small_lit (by decide +kernel) | exact small_lit1 (by decide +kernel) | exact small_lit (small_mod (by omega) (by omega)) | exact small_lit (by assumption)), ?_⟩ | refine ⟨_, xB_mod (by first | assumption | omega), ?_⟩ | refine ⟨_, xB_fdiv (by omega), ?_⟩ | refine ⟨_, xB_pow (by decide +kernel), ?_⟩ | refine ⟨_, xB_addT (by first | decide | (simp; done) | (simp; omega) | exact Nat.le_of_ble_eq_true rfl), ?_⟩ | refine ⟨_, xB_addL (by first | decide | (simp; done) | (simp; omega)), ?_⟩
  | refine ⟨_, rfl, ?_⟩ | refine ⟨_, rfl, rfl, ?_⟩ | refine ⟨_, _, rfl, rfl, ?_⟩ | refine ⟨_, if_pos (by first | decide | assumption | omega), ?_⟩ | refine And.intro (by first | assumption | decide) ?_)
variable {n wf : Nat} {G : Nat → Option D} {K C X R : Nat → Nat} {t : Tr}
/-- hold_talk: what the talk comes to -/
theorem s0 (hg : Good K C t) (hX : ∀ i, i < 2 → X i < K i) (hR : ∀ i, i < 2 → R i < C i) (hd : t.dep ≤ 260) (hwf : 261 ≤ wf) : xF L G wf (n + 1) 0 [.d (talkD C t), .d (pair X), .d (pair R)] = .ret (res (t.run X R)) [none, none, none] := by
  refine sat_ret (call_satB rfl rfl [some (.d (talkD C t)), some (.d (pair X)), some (.d (pair R)), none, none, none, none] rfl ?_)
  unfold B0
  repeat trivial
  refine whL_K (fun m σ => ∃ u acc s5 s6, σ = [some (.d (talkD C t)), some (.d (pair X)), some (.d (pair R)), some (.d (Tr.toD u)), some (.lst (acc.map fun v => M.d (.int v))), s5, s6] ∧ Good K C u ∧ u.dep ≤ m ∧ acc.length + u.dep ≤ 260 ∧ t.run X R = (acc ++ (u.run X R).1, (u.run X R).2)) ?_ t.dep wf _ ⟨t, [], _, _, rfl, hg, Nat.le_refl _, by simpa using hd, rfl⟩ (by omega)
  rintro m σ ⟨u, acc, s5, s6, rfl, hu, hm, hl, hr⟩
  cases hu with
  | @fin e f h1 h2 =>
    repeat trivial
    refine ⟨_, h1.ix (hX 0 (by decide)), ?_⟩
    repeat trivial
    refine ⟨_, h1.ix2 (hX 0 (by decide)) (hR 0 (by decide)), ?_⟩
    repeat trivial
    refine ⟨_, h2.ix (hX 1 (by decide)), ?_⟩
    repeat trivial
    refine ⟨_, h2.ix2 (hX 1 (by decide)) (hR 1 (by decide)), ?_⟩
    repeat trivial
    refine ⟨?_, rfl⟩
    rw [hr]
    show D.tup [.tup (M.toDs (acc.map fun v => M.d (.int v))), _] = _
    rw [toDs_ints]
    simp [Tr.run, res]
  | @say s b u1 u2 hs hb g1 g2 =>
    simp only [Tr.dep] at hm hl
    obtain ⟨m, rfl⟩ : ∃ m', m = m' + 1 := ⟨m - 1, by omega⟩
    repeat trivial
    refine ⟨_, pair_ix hs, ?_⟩
    repeat trivial
    refine ⟨_, hb.shape.ix (hX s hs), ?_⟩
    repeat trivial
    refine ⟨_, pair_ix hs, ?_⟩
    repeat trivial
    refine ⟨_, hb.shape.ix2 (hX s hs) (hR s hs), ?_⟩
    repeat trivial
    refine ⟨_, _, rfl, mApp_ok (by simp; omega), ?_⟩
    rcases hb.cell (hX s hs) (hR s hs) with hv | hv
    · rw [hv]
      repeat trivial
      refine ⟨u1, acc ++ [0], some (.d (.int (s : Int))), some (.d (.int 0)), by simp [setPl], g1, by omega, by simp; omega, ?_⟩
      rw [hr]
      simp [Tr.run, hv]
    · rw [hv]
      repeat trivial
      refine ⟨u2, acc ++ [1], some (.d (.int (s : Int))), some (.d (.int 1)), by simp [setPl], g2, by omega, by simp; omega, ?_⟩
      rw [hr]
      simp [Tr.run, hv]
/-- the law's own holding: the same -/
theorem s6 (hg : Good K C t) (hX : ∀ i, i < 2 → X i < K i) (hR : ∀ i, i < 2 → R i < C i) (hd : t.dep ≤ 260) : xF L G wf (n + 1) 6 [.d (talkD C t), .d (pair X), .d (pair R)] = .ret (res (t.run X R)) [none, none, none] := by
  refine sat_ret (call_satB rfl rfl [some (.d (talkD C t)), some (.d (pair X)), some (.d (pair R)), none, none, none, none] rfl ?_)
  unfold B6
  repeat trivial
  refine forL_rng (fun m σ => ∃ u acc s5 s6, σ = [some (.d (talkD C t)), some (.d (pair X)), some (.d (pair R)), some (.d (Tr.toD u)), some (.d (.tup (acc.map D.int))), s5, s6] ∧ Good K C u ∧ m + u.dep ≤ 260 ∧ acc.length = m ∧ t.run X R = (acc ++ (u.run X R).1, (u.run X R).2)) ⟨t, [], _, _, rfl, hg, by omega, rfl, rfl⟩ ?_ ?_
  · rintro m σ hm300 ⟨u, acc, s5, s6, rfl, hu, hl, ha, hr⟩
    cases hu with
    | @fin e f h1 h2 =>
      repeat trivial
      refine ⟨_, h1.ix (hX 0 (by decide)), ?_⟩
      repeat trivial
      refine ⟨_, h1.ix2 (hX 0 (by decide)) (hR 0 (by decide)), ?_⟩
      repeat trivial
      refine ⟨_, h2.ix (hX 1 (by decide)), ?_⟩
      repeat trivial
      refine ⟨_, h2.ix2 (hX 1 (by decide)) (hR 1 (by decide)), ?_⟩
      repeat trivial
      refine ⟨?_, rfl⟩
      rw [hr]
      simp [Tr.run, res]
    | @say s b u1 u2 hs hb g1 g2 =>
      simp only [Tr.dep] at hl
      repeat trivial
      refine ⟨_, pair_ix hs, ?_⟩
      repeat trivial
      refine ⟨_, hb.shape.ix (hX s hs), ?_⟩
      repeat trivial
      refine ⟨_, pair_ix hs, ?_⟩
      repeat trivial
      refine ⟨_, hb.shape.ix2 (hX s hs) (hR s hs), ?_⟩
      repeat trivial
      rcases hb.cell (hX s hs) (hR s hs) with hv | hv
      · rw [hv]
        repeat trivial
        refine ⟨u1, acc ++ [0], some (.d (.int (m : Int))), some (.d (.int 0)), by simp, g1, by omega, by simp; omega, ?_⟩
        rw [hr]
        simp [Tr.run, hv]
      · rw [hv]
        repeat trivial
        refine ⟨u2, acc ++ [1], some (.d (.int (m : Int))), some (.d (.int 1)), by simp, g2, by omega, by simp; omega, ?_⟩
        rw [hr]
        simp [Tr.run, hv]
  · rintro σ ⟨u, acc, s5, s6, rfl, hu, hl, ha, hr⟩
    have hl : 300 + u.dep ≤ 260 := hl
    omega
end K01

namespace K01
open PySem JH
local macro_rules | `(tactic| trivial) => `(tactic| first
  | refine r_seq ?_ | refine r_asg ?_ | refine r_asgM ?_ | refine r_rd rfl ?_ | refine r_cI ?_ | refine r_cS ?_ | refine r_cB ?_ | refine r_cN ?_ | refine r_bin ?_ | refine r_cmp ?_ | refine r_idx ?_ | refine r_midx rfl rfl ?_
  | refine r_sto ?_ | refine r_app rfl rfl ?_ | refine r_fz rfl ?_ | refine r_b1 ?_ | refine r_if ?_ | refine r_t rfl ?_ | refine r_ret ?_ | refine r_skip ?_ | refine r_tup ?_ | refine r_lst ?_ | refine r_cons ?_ | refine r_nil ?_
  | refine r_for ?_ | refine r_rng1 ?_ | refine r_call ?_ | refine r_amarg rfl ?_ | refine r_acons rfl ?_ | refine r_anil ?_ | refine r_not ?_ | refine r_and ?_ | refine r_or ?_ | refine r_andc ?_ | refine r_orc ?_ | refine r_and1 ?_ | refine r_or1 ?_ | refine r_neg ?_
  | refine r_isi ?_ | refine r_slc ?_ | refine r_oN ?_ | refine r_oS rfl ?_ | (apply r_cv rfl; focus (repeat (first | exact AVs.nil | apply AVs.d | (apply AVs.m; rfl)))) | refine r_brk ?_ | refine r_cont ?_ | refine r_ex ?_ | refine r_wh ?_ | refine r_tN ?_ | refine r_comp ?_ | refine r_true ?_ | refine r_false ?_
  | refine ⟨_, xB_add, ?_⟩ | refine ⟨_, xB_sub, ?_⟩ | refine ⟨_, xB_mul (by first | exact small_lit (by decide +kernel) | exact small_lit1 (by decide +kernel) | exact small_lit (small_mod (by omega) (by omega)) | exact small_lit (by assumption)), ?_⟩ | refine ⟨_, xB_mod (by first | assumption | omega), ?_⟩ | refine ⟨_, xB_fdiv (by omega), ?_⟩ | refine ⟨_, xB_pow (by decide +kernel), ?_⟩ | refine ⟨_, xB_addT (by first | decide | (simp; done) | (simp; omega) | exact Nat.le_of_ble_eq_true rfl), ?_⟩ | refine ⟨_, xB_addL (by first | decide | (simp; done) | (simp; omega)), ?_⟩
  | refine ⟨_, rfl, ?_⟩ | refine ⟨_, rfl, rfl, ?_⟩ | refine ⟨_, _, rfl, rfl, ?_⟩ | refine ⟨_, if_pos (by first | decide | assumption | omega), ?_⟩ | refine And.intro (by first | assumption | decide) ?_)
variable {n wf : Nat} {G : Nat → Option D} {K C X R : Nat → Nat} {t : Tr} {ds : List Int}
theorem s5 {a : Nat} {m : Int} (hK : ∀ i, i < 2 → K i ≤ 16777216) (hm : 0 < m) : (xF L G wf (n + 7) 5 [hand ds a, .d (pair K), .d (.int m)]).sat (fun x os => ∃ C t a', (∀ i, i < 2 → 1 ≤ C i ∧ C i ≤ 3) ∧ Good K C t ∧ t.dep ≤ 3 ∧ x = talkD C t ∧ os = [some (hand ds a'), none, none]) fun _ => False := by
  refine call_satB rfl rfl [some (hand ds a), some (.d (pair K)), some (.d (.int m)), none] rfl ?_
  unfold B5
  obtain ⟨c0, e0, h0⟩ := take_nat (ds := ds) (a := a) (m := 3) (by decide)
  obtain ⟨c1, e1, h1⟩ := take_nat (ds := ds) (a := a + 1) (m := 3) (by decide)
  obtain ⟨d, e2, h2⟩ := take_nat (ds := ds) (a := a + 1 + 1) (m := 3) (by decide)
  repeat trivial
  refine CR.sat_eq (s2 (n := n + 5) (m := ((3 : Nat) : Int)) (by decide)) ?_
  rw [e0]
  repeat trivial
  refine CR.sat_eq (s2 (n := n + 5) (m := ((3 : Nat) : Int)) (by decide)) ?_
  rw [e1]
  repeat trivial
  refine CR.sat_eq (s2 (n := n + 5) (m := ((3 : Nat) : Int)) (by decide)) ?_
  rw [e2]
  repeat trivial
  have ec : D.tup [.int (1 + (c0 : Int)), .int (1 + (c1 : Int))] = pair fun i => if i = 0 then 1 + c0 else 1 + c1 := by
    unfold pair
    simp
  have ed : (1 : Int) + (d : Int) = ((1 + d : Nat) : Int) := by omega
  rw [ec, ed]
  have hC : ∀ i, i < 2 → 1 ≤ (if i = 0 then 1 + c0 else 1 + c1) ∧ (if i = 0 then 1 + c0 else 1 + c1) ≤ 3 := fun i _ => by split <;> omega
  have hs := s4 (G := G) (wf := wf) (ds := ds) (C := fun i => if i = 0 then 1 + c0 else 1 + c1) hK (fun i hi => Nat.le_trans (hC i hi).2 (by decide)) hm (1 + d) (n + 6 - (1 + d) - 3) (a + 1 + 1 + 1)
  rw [show n + 6 - (1 + d) - 3 + (1 + d) + 3 = n + 6 from by omega] at hs
  refine CR.sat_imp hs (fun x os ⟨t, a', g1, g2, g3, g4⟩ => ?_) fun _ z => z
  subst g3 g4
  repeat trivial
  exact ⟨_, t, a', hC, g1, by omega, by simp [talkD], rfl⟩
theorem ix4 {a b c d : Int} {v : Nat} (h : v < 4) : ∃ w, dIdx (.lst [.int a, .int b, .int c, .int d]) (.int (v : Int)) = some (.int w) := by
  match v, h with
  | 0, _ => exact ⟨a, rfl⟩
  | 1, _ => exact ⟨b, rfl⟩
  | 2, _ => exact ⟨c, rfl⟩
  | 3, _ => exact ⟨d, rfl⟩
def up (w : Int) (r : List Int) : List Int := r.map fun v => v * 3 + w
def gI (w : Int) : D → D
  | .int v => .int (v * 3 + w)
  | x => x
def gR (w : Int) : D → D
  | .tup xs => .tup (xs.map (gI w))
  | x => x
theorem gI_row (w : Int) (r : List Int) : (r.map D.int).map (gI w) = (up w r).map D.int := by
  unfold up
  rw [List.map_map, List.map_map]
  rfl
theorem gR_bits (w : Int) (b : List (List Int)) : (b.map dRow).map (gR w) = (b.map (up w)).map dRow := by
  rw [List.map_map, List.map_map]
  refine List.map_congr_left fun r _ => ?_
  show D.tup ((r.map D.int).map (gI w)) = D.tup _
  rw [gI_row]
theorem Shape.up {k c : Nat} {b : List (List Int)} (h : Shape k c b) (w : Int) : Shape k c (b.map (K01.up w)) := by
  refine ⟨by rw [List.length_map]; exact h.len, fun r hr => ?_⟩
  obtain ⟨q, hq, rfl⟩ := List.mem_map.mp hr
  unfold K01.up
  rw [List.length_map]
  exact h.row q hq
theorem s8 (hg : Good K C t) : ∀ n a : Nat, t.dep ≤ n → (xF L G wf (n + 3) 8 [hand ds a, .d t.toD]).sat (fun x os => ∃ u a', Good K C u ∧ u.dep = t.dep ∧ x = u.toD ∧ os = [some (hand ds a'), none]) fun _ => False := by
  induction hg with
  | @fin e f h1 h2 =>
    intro n a _
    refine call_satB rfl rfl [some (hand ds a), some (.d (Tr.fin e f).toD), none, none, none, none, none] rfl ?_
    unfold B8
    repeat trivial
    obtain ⟨v, e0, h0⟩ := take_nat (ds := ds) (a := a) (m := 4) (by decide)
    refine CR.sat_eq (s2 (n := n + 1) (m := ((4 : Nat) : Int)) (by decide)) ?_
    rw [e0]
    obtain ⟨w, ew⟩ := ix4 (a := 0) (b := -7) (c := 10 ^ (40 : Int).toNat) (d := -10 ^ (40 : Int).toNat) h0
    refine ⟨_, ew, ?_⟩
    repeat trivial
    refine r_it rfl ?_
    repeat trivial
    refine compL_K (fun i ys σ => (ys = [] ∧ i = 0 ∨ ys = [dBits (e.map (up w))] ∧ i = 1 ∨ ys = [dBits (e.map (up w)), dBits (f.map (up w))] ∧ i = 2) ∧ σ = [some (hand ds (a + 1)), some (.d (Tr.fin e f).toD), some (.d (.int w)), none, none, none, none]) ⟨.inl ⟨rfl, rfl⟩, rfl⟩ ?_ ?_
    · rintro i x ys σ hx ⟨hc, rfl⟩
      have hb : ∃ b z, x = .int z ∧ dIdx (Tr.fin e f).toD (.int z) = some (dBits b) ∧ (ys = [] ∧ i = 0 ∧ b = e ∨ ys = [dBits (e.map (up w))] ∧ i = 1 ∧ b = f) := by
        rcases hc with ⟨rfl, rfl⟩ | ⟨rfl, rfl⟩ | ⟨rfl, rfl⟩
        · cases hx; exact ⟨e, 1, rfl, rfl, .inl ⟨rfl, rfl, rfl⟩⟩
        · cases hx; exact ⟨f, 2, rfl, rfl, .inr ⟨rfl, rfl, rfl⟩⟩
        · cases hx
      obtain ⟨b, z, rfl, hz, hc⟩ := hb
      refine compF_sat rfl ?_
      repeat trivial
      refine r_it rfl ?_
      repeat trivial
      refine ⟨_, hz, ?_⟩
      repeat trivial
      refine compL_map (gR w) (fun y hy => ?_) ?_
      · obtain ⟨r, _, rfl⟩ := List.mem_map.mp hy
        refine compF_sat rfl ?_
        repeat trivial
        refine r_it rfl ?_
        repeat trivial
        refine compL_map (gI w) (fun y hy => ?_) ?_
        · obtain ⟨v, _, rfl⟩ := List.mem_map.mp hy
          refine compF_sat rfl ?_
          repeat trivial
        · repeat trivial
      · repeat trivial
        show _ ∧ _
        rw [gR_bits]
        rcases hc with ⟨rfl, rfl, rfl⟩ | ⟨rfl, rfl, rfl⟩
        · exact ⟨.inr (.inl ⟨rfl, rfl⟩), rfl⟩
        · exact ⟨.inr (.inr ⟨rfl, rfl⟩), rfl⟩
    · rintro ys σ ⟨hc, rfl⟩
      rcases hc with ⟨_, hc⟩ | ⟨_, hc⟩ | ⟨rfl, _⟩
      · cases hc
      · cases hc
      · repeat trivial
        exact ⟨.fin (e.map (up w)) (f.map (up w)), a + 1, .fin (h1.up w) (h2.up w), rfl, rfl, rfl⟩
  | @say s b u1 u2 hs hb g1 g2 ih1 ih2 =>
    intro n a hn
    simp only [Tr.dep] at hn
    obtain ⟨n, rfl⟩ : ∃ m, n = m + 1 := ⟨n - 1, by omega⟩
    refine call_satB rfl rfl [some (hand ds a), some (.d (Tr.say s b u1 u2).toD), none, none, none, none, none] rfl ?_
    unfold B8
    repeat trivial
    refine CR.sat_imp (ih1 n a (by omega)) (fun x os ⟨t1, a1, p1, p2, p3, p4⟩ => ?_) fun _ z => z
    subst p3 p4
    repeat trivial
    refine CR.sat_imp (ih2 n a1 (by omega)) (fun x os ⟨t2, a2, q1, q2, q3, q4⟩ => ?_) fun _ z => z
    subst q3 q4
    repeat trivial
    exact ⟨.say s b t1 t2, a2, .say hs hb p1 q1, by simp only [Tr.dep, p2, q2], rfl, rfl⟩
end K01

namespace K01
open PySem JH
local macro_rules | `(tactic| trivial) => `(tactic| first
  | refine r_seq ?_ | refine r_asg ?_ | refine r_asgM ?_ | refine r_rd rfl ?_ | refine r_cI ?_ | refine r_cS ?_ | refine r_cB ?_ | refine r_cN ?_ | refine r_bin ?_ | refine r_cmp ?_ | refine r_idx ?_ | refine r_midx rfl rfl ?_
  | refine r_sto ?_ | refine r_app rfl rfl ?_ | refine r_fz rfl ?_ | refine r_b1 ?_ | refine r_if ?_ | refine r_t rfl ?_ | refine r_ret ?_ | refine r_skip ?_ | refine r_tup ?_ | refine r_lst ?_ | refine r_cons ?_ | refine r_nil ?_
  | refine r_for ?_ | refine r_rng1 ?_ | refine r_call ?_ | refine r_amarg rfl ?_ | refine r_acons rfl ?_ | refine r_anil ?_ | refine r_not ?_ | refine r_and ?_ | refine r_or ?_ | refine r_andc ?_ | refine r_orc ?_ | refine r_and1 ?_ | refine r_or1 ?_ | refine r_neg ?_
  | refine r_isi ?_ | refine r_slc ?_ | refine r_oN ?_ | refine r_oS rfl ?_ | (apply r_cv rfl; focus (repeat (first | exact AVs.nil | apply AVs.d | (apply AVs.m; rfl)))) | refine r_brk ?_ | refine r_cont ?_ | refine r_ex ?_ | refine r_wh ?_ | refine r_tN ?_ | refine r_comp ?_ | refine r_true ?_ | refine r_false ?_
  | refine ⟨_, xB_add, ?_⟩ | refine ⟨_, xB_sub, ?_⟩ | refine ⟨_, xB_mul (by first | exact small_lit (by decide +kernel) | exact small_lit1 (by decide +kernel) | exact small_lit (small_mod (by omega) (by omega)) | exact small_lit (by assumption)), ?_⟩ | refine ⟨_, xB_mod (by first | assumption | omega), ?_⟩ | refine ⟨_, xB_fdiv (by omega), ?_⟩ | refine ⟨_, xB_pow (by decide +kernel), ?_⟩ | refine ⟨_, xB_addT (by first | decide | (simp; done) | (simp; omega) | exact Nat.le_of_ble_eq_true rfl), ?_⟩ | refine ⟨_, xB_addL (by first | decide | (simp; done) | (simp; omega)), ?_⟩
  | refine ⟨_, rfl, ?_⟩ | refine ⟨_, rfl, rfl, ?_⟩ | refine ⟨_, _, rfl, rfl, ?_⟩ | refine ⟨_, if_pos (by first | decide | assumption | omega), ?_⟩ | refine And.intro (by first | assumption | decide) ?_)
variable {n wf : Nat} {G : Nat → Option D} {K C X R : Nat → Nat} {t : Tr} {ds : List Int}
/-! ### all talks are held right -/
def two (a b : Nat) : Nat → Nat := fun i => if i = 0 then a else b
theorem two_lt {a b : Nat} {K : Nat → Nat} (ha : a < K 0) (hb : b < K 1) : ∀ i, i < 2 → two a b i < K i := fun i hi => by
  match i, hi with
  | 0, _ => exact ha
  | 1, _ => exact hb
theorem s10 (hg : Good K C t) (hK : ∀ i, i < 2 → K i ≤ 16777216) (hC : ∀ i, i < 2 → C i ≤ 16777216) (hd : t.dep ≤ 260) (hwf : 261 ≤ wf) : xF L G wf (n + 4) 10 [.d (talkD C t), .d (pair K)] = .ret (.bl true) [none, none] := by
  refine sat_ret (call_satB rfl rfl [some (.d (talkD C t)), some (.d (pair K)), none, none, none, none] rfl ?_)
  unfold B10
  refine r_seq (r_for (r_rng1 (r_idx (r_rd rfl (r_cI ⟨_, rfl, K 0, rfl, hK 0 (by decide), ?_⟩)))))
  refine forL_rng (fun i σ => ∃ a b c d, σ = [some (.d (talkD C t)), some (.d (pair K)), a, b, c, d]) ⟨_, _, _, _, rfl⟩ ?_ ?_
  · rintro x σ hx ⟨a, b, c, d, rfl⟩
    refine r_for (r_rng1 (r_idx (r_rd rfl (r_cI ⟨_, rfl, K 1, rfl, hK 1 (by decide), ?_⟩))))
    refine forL_rng (fun i σ => ∃ b c d, σ = [some (.d (talkD C t)), some (.d (pair K)), some (.d (.int (x : Int))), b, c, d]) ⟨_, _, _, rfl⟩ ?_ ?_
    · rintro y σ hy ⟨b, c, d, rfl⟩
      refine r_for (r_rng1 (r_idx (r_rd rfl (r_cI ⟨_, rfl, C 0, rfl, hC 0 (by decide), ?_⟩))))
      refine forL_rng (fun i σ => ∃ c d, σ = [some (.d (talkD C t)), some (.d (pair K)), some (.d (.int (x : Int))), some (.d (.int (y : Int))), c, d]) ⟨_, _, rfl⟩ ?_ ?_
      · rintro r σ hr ⟨c, d, rfl⟩
        refine r_for (r_rng1 (r_idx (r_rd rfl (r_cI ⟨_, rfl, C 1, rfl, hC 1 (by decide), ?_⟩))))
        refine forL_rng (fun i σ => ∃ d, σ = [some (.d (talkD C t)), some (.d (pair K)), some (.d (.int (x : Int))), some (.d (.int (y : Int))), some (.d (.int (r : Int))), d]) ⟨_, rfl⟩ ?_ ?_
        · rintro s σ hs ⟨d, rfl⟩
          repeat trivial
          refine CR.sat_eq (s0 (n := n + 2) (X := two x y) (R := two r s) hg (two_lt hx hy) (two_lt hr hs) hd hwf) ?_
          repeat trivial
          refine CR.sat_eq (s6 (n := n + 2) (X := two x y) (R := two r s) hg (two_lt hx hy) (two_lt hr hs) hd) ?_
          repeat trivial
          refine CR.sat_eq (s7r (n := n) (Nat.le_trans (Tr.run_len t) (Nat.le_trans hd (by decide)))) ?_
          repeat trivial
          exact ⟨_, rfl⟩
        · rintro σ ⟨d, rfl⟩
          exact ⟨_, _, rfl⟩
      · rintro σ ⟨c, d, rfl⟩
        exact ⟨_, _, _, rfl⟩
    · rintro σ ⟨b, c, d, rfl⟩
      exact ⟨_, _, _, _, rfl⟩
  · rintro σ ⟨a, b, c, d, rfl⟩
    repeat trivial
end K01

namespace K01
open PySem JH
local macro_rules | `(tactic| trivial) => `(tactic| first
  | refine r_seq ?_ | refine r_asg ?_ | refine r_asgM ?_ | refine r_rd rfl ?_ | refine r_cI ?_ | refine r_cS ?_ | refine r_cB ?_ | refine r_cN ?_ | refine r_bin ?_ | refine r_cmp ?_ | refine r_idx ?_ | refine r_midx rfl rfl ?_
  | refine r_sto ?_ | refine r_app rfl rfl ?_ | refine r_fz rfl ?_ | refine r_b1 ?_ | refine r_if ?_ | refine r_t rfl ?_ | refine r_ret ?_ | refine r_skip ?_ | refine r_tup ?_ | refine r_lst ?_ | refine r_cons ?_ | refine r_nil ?_
  | refine r_for ?_ | refine r_rng1 ?_ | refine r_call ?_ | refine r_amarg rfl ?_ | refine r_acons rfl ?_ | refine r_anil ?_ | refine r_not ?_ | refine r_and ?_ | refine r_or ?_ | refine r_andc ?_ | refine r_orc ?_ | refine r_and1 ?_ | refine r_or1 ?_ | refine r_neg ?_
  | refine r_isi ?_ | refine r_slc ?_ | refine r_oN ?_ | refine r_oS rfl ?_ | (apply r_cv rfl; focus (repeat (first | exact AVs.nil | apply AVs.d | (apply AVs.m; rfl)))) | refine r_brk ?_ | refine r_cont ?_ | refine r_ex ?_ | refine r_wh ?_ | refine r_tN ?_ | refine r_comp ?_ | refine r_true ?_ | refine r_false ?_
  | refine ⟨_, xB_add, ?_⟩ | refine ⟨_, xB_sub, ?_⟩ | refine ⟨_, xB_mul (by first | exact small_lit (by decide +kernel) | exact small_lit1 (by decide +kernel) | exact small_lit (small_mod (by omega) (by omega)) | exact small_lit (by assumption)), ?_⟩ | refine ⟨_, xB_mod (by first | assumption | omega), ?_⟩ | refine ⟨_, xB_fdiv (by omega), ?_⟩ | refine ⟨_, xB_pow (by decide +kernel), ?_⟩ | refine ⟨_, xB_addT (by first | decide | (simp; done) | (simp; omega) | exact Nat.le_of_ble_eq_true rfl), ?_⟩ | refine ⟨_, xB_addL (by first | decide | (simp; done) | (simp; omega)), ?_⟩
  | refine ⟨_, rfl, ?_⟩ | refine ⟨_, rfl, rfl, ?_⟩ | refine ⟨_, _, rfl, rfl, ?_⟩ | refine ⟨_, if_pos (by first | decide | assumption | omega), ?_⟩ | refine And.intro (by first | assumption | decide) ?_)
variable {n wf : Nat} {G : Nat → Option D} {K C X R : Nat → Nat} {t : Tr} {ds : List Int}
/-! ### draws -/
def ab (v : D) : D := match v with
  | .int i => .int (if i < 0 then -i else i)
  | x => x
def mI (l : List Int) : M := .lst (l.map fun v => M.d (.int v))
theorem thaw_ints : ∀ l : List Int, thaw (.lst (l.map D.int)) = some (mI l) := fun l => by
  simp only [thaw, mI, List.map_map]
  rfl
theorem mI_get {l : List Int} {i : Nat} (h : i < l.length) : mIdx (mI l) (.int (i : Int)) = some (.int l[i]) := by
  refine mIdx_nat ?_
  rw [List.getElem?_map, List.getElem?_eq_getElem h]
  rfl
theorem mI_set {l : List Int} {i : Nat} {v : Int} (h : i < l.length) : mSet (mI l) (.int (i : Int)) (.int v) = some (mI (l.set i v)) := by
  unfold mI
  rw [mSet_nat (by simpa using h), List.map_set]
theorem mI_app {l : List Int} {v : Int} (h : l.length < 16777216) : mApp (mI l) (.int v) = some (mI (l ++ [v])) := by
  unfold mI
  rw [mApp_ok (by simpa using h), List.map_append]
  rfl
theorem mod_nat {i k : Nat} (h : 0 < k) : dBin .mod (.int (i : Int)) (.int (k : Int)) = some (.int ((i % k : Nat) : Int)) := by
  simp only [dBin]
  rw [if_pos (by omega), Int.natCast_emod]
def M1 : IS := match B1 with | .seq _ (.seq _ (.seq (.for _ _ (.seq _ (.seq _ s))) _)) => s | _ => .skip
theorem s1 {ns : List Int} (hz : ns.length ≤ 16777216) {many : Nat} (hm : many ≤ 16777216) : (xF L G wf (n + 1) 1 [.d (.scr ns), .d (.int (many : Int))]).sat (fun x os => ∃ ds : List Int, x = .lst (ds.map D.int) ∧ os = [none, none]) fun _ => False := by
  refine call_satB rfl rfl [some (.d (.scr ns)), some (.d (.int (many : Int))), none, none, none, none, none, none] rfl ?_
  unfold B1
  repeat trivial
  refine r_it rfl ?_
  repeat trivial
  refine compL_map ab (fun x hx => ?_) ?_
  · obtain ⟨v, _, rfl⟩ := List.mem_map.mp hx
    refine compF_sat rfl ?_
    repeat trivial
  have er : (ns.map D.int).map ab = (ns.map fun i => if i < 0 then -i else i).map D.int := by
    rw [List.map_map, List.map_map]
    rfl
  rw [er]
  refine ⟨_, thaw_ints _, ?_⟩
  repeat trivial
  refine forL_rng (fun i σ => ∃ rs dr c a m k, σ = [some (.d (.scr ns)), some (.d (.int (many : Int))), some (mI rs), c, some (mI dr), k, a, m] ∧ rs.length = ns.length ∧ dr.length = i) ⟨ns.map fun i => if i < 0 then -i else i, [], _, _, _, _, rfl, by simp, rfl⟩ ?_ ?_
  · rintro i σ hi ⟨rs, dr, c, a, m, k, rfl, hr, hd⟩
    have mix : ∀ (cell : Int) (a : Option M), (xS (xF L G wf n) G wf M1 [some (.d (.scr ns)), some (.d (.int (many : Int))), some (mI rs), some (.d (.int cell)), some (mI dr), some (.d (.int (i : Int))), a, m]).satK { nx := fun σ => ∃ rs dr c a m k, σ = [some (.d (.scr ns)), some (.d (.int (many : Int))), some (mI rs), c, some (mI dr), k, a, m] ∧ rs.length = ns.length ∧ dr.length = i + 1, cont := fun _ => False, brk := fun _ => False, ret := fun _ _ => False, exc := fun _ _ => False } := by
      intro cell a
      unfold M1 B1
      dsimp only
      repeat trivial
      refine ⟨_, _, rfl, mI_app (by omega), ?_⟩
      exact ⟨rs, _, _, _, _, _, rfl, hr, by simp [hd]⟩
    repeat trivial
    refine r_dec (fun hp => ?_) (fun hp => ?_)
    · have hp : 0 < ns.length := by omega
      repeat trivial
      have hlt := Nat.mod_lt i hp
      rw [← Int.natCast_emod]
      refine ⟨_, dIdx_scr hlt, ?_⟩
      repeat trivial
      refine r_dec (fun h1 => ?_) (fun h1 => ?_)
      · repeat trivial
        refine ⟨_, _, rfl, mI_get (l := rs) (by omega), ?_⟩
        repeat trivial
        refine r_dec (fun h2 => ?_) (fun h2 => ?_)
        · repeat trivial
          refine ⟨_, _, rfl, mI_get (l := rs) (by omega), ?_⟩
          repeat trivial
          refine ⟨_, _, rfl, mI_app (by omega), ?_⟩
          repeat trivial
          refine ⟨_, _, rfl, mI_get (l := rs) (by omega), ?_⟩
          repeat trivial
          refine ⟨_, _, rfl, mI_set (l := rs) (by omega), ?_⟩
          repeat trivial
          exact ⟨_, _, _, _, _, _, rfl, by simp [hr], by simp [hd]⟩
        · first | refine r_skip ?_ | refine ⟨_, rfl, r_false (r_skip ?_)⟩
          exact satK_imp (mix _ _) (fun _ z => z) (fun _ _ z => z.elim) (fun _ z => z.elim) (fun _ z => z.elim) (fun _ _ z => z.elim)
      · first | refine r_skip ?_ | refine ⟨_, rfl, r_false (r_skip ?_)⟩
        exact satK_imp (mix _ _) (fun _ z => z) (fun _ _ z => z.elim) (fun _ z => z.elim) (fun _ z => z.elim) (fun _ _ z => z.elim)
    · refine r_skip ?_
      exact satK_imp (mix _ _) (fun _ z => z) (fun _ _ z => z.elim) (fun _ z => z.elim) (fun _ z => z.elim) (fun _ _ z => z.elim)
  · rintro σ ⟨rs, dr, c, a, m, k, rfl, hr, hd⟩
    repeat trivial
    exact ⟨dr, congrArg D.lst (toDs_ints dr), rfl⟩
end K01

namespace K01
open PySem JH
local macro_rules | `(tactic| trivial) => `(tactic| first
  | refine r_seq ?_ | refine r_asg ?_ | refine r_asgM ?_ | refine r_rd rfl ?_ | refine r_cI ?_ | refine r_cS ?_ | refine r_cB ?_ | refine r_cN ?_ | refine r_bin ?_ | refine r_cmp ?_ | refine r_idx ?_ | refine r_midx rfl rfl ?_
  | refine r_sto ?_ | refine r_app rfl rfl ?_ | refine r_fz rfl ?_ | refine r_b1 ?_ | refine r_if ?_ | refine r_t rfl ?_ | refine r_ret ?_ | refine r_skip ?_ | refine r_tup ?_ | refine r_lst ?_ | refine r_cons ?_ | refine r_nil ?_
  | refine r_for ?_ | refine r_rng1 ?_ | refine r_call ?_ | refine r_amarg rfl ?_ | refine r_acons rfl ?_ | refine r_anil ?_ | refine r_not ?_ | refine r_and ?_ | refine r_or ?_ | refine r_andc ?_ | refine r_orc ?_ | refine r_and1 ?_ | refine r_or1 ?_ | refine r_neg ?_
  | refine r_isi ?_ | refine r_slc ?_ | refine r_oN ?_ | refine r_oS rfl ?_ | (apply r_cv rfl; focus (repeat (first | exact AVs.nil | apply AVs.d | (apply AVs.m; rfl)))) | refine r_brk ?_ | refine r_cont ?_ | refine r_ex ?_ | refine r_wh ?_ | refine r_tN ?_ | refine r_comp ?_ | refine r_true ?_ | refine r_false ?_
  | refine ⟨_, xB_add, ?_⟩ | refine ⟨_, xB_sub, ?_⟩ | refine ⟨_, xB_mul (by first | exact small_lit (by decide +kernel) | exact small_lit1 (by decide +kernel) | exact small_lit (small_mod (by omega) (by omega)) | exact small_lit (by assumption)), ?_⟩ | refine ⟨_, xB_mod (by first | assumption | omega), ?_⟩ | refine ⟨_, xB_fdiv (by omega), ?_⟩ | refine ⟨_, xB_pow (by decide +kernel), ?_⟩ | refine ⟨_, xB_addT (by first | decide | (simp; done) | (simp; omega) | exact Nat.le_of_ble_eq_true rfl), ?_⟩ | refine ⟨_, xB_addL (by first | decide | (simp; done) | (simp; omega)), ?_⟩
  | refine ⟨_, rfl, ?_⟩ | refine ⟨_, rfl, rfl, ?_⟩ | refine ⟨_, _, rfl, rfl, ?_⟩ | refine ⟨_, if_pos (by first | decide | assumption | omega), ?_⟩ | refine And.intro (by first | assumption | decide) ?_)
variable {n wf : Nat} {G : Nat → Option D} {K C X R : Nat → Nat} {t : Tr} {ds : List Int}
/-! ### deep talks -/
theorem rep_row {w : Int} {c : Nat} (h1 : 1 ≤ c) (h2 : c ≤ 1000) : xB .mul (.tup [.int w]) (.int (c : Int)) = some (dRow (List.replicate c w)) := by
  rw [xB_eq]
  simp only [dBin]
  rw [if_pos (by simp; omega)]
  unfold dRow
  rw [Int.toNat_natCast, List.map_replicate]
  congr 2
  induction c with
  | zero => rfl
  | succ c _ => rw [List.flatten_replicate_singleton]
theorem rep_bits {r : List Int} {k : Nat} (h1 : 1 ≤ k) (h2 : k ≤ 1000) : xB .mul (.tup [dRow r]) (.int (k : Int)) = some (dBits (List.replicate k r)) := by
  rw [xB_eq]
  simp only [dBin]
  rw [if_pos (by simp; omega)]
  unfold dBits
  rw [Int.toNat_natCast, List.map_replicate, List.flatten_replicate_singleton]
theorem rep_Bits {w : Int} {k c : Nat} (h : 0 ≤ w ∧ w < 2) : Bits k c 2 (List.replicate k (List.replicate c w)) := by
  refine ⟨List.length_replicate, fun r hr => ?_⟩
  obtain ⟨_, rfl⟩ := List.mem_replicate.mp hr
  refine ⟨List.length_replicate, fun v hv => ?_⟩
  obtain ⟨_, rfl⟩ := List.mem_replicate.mp hv
  exact h
theorem ix3 {a b c : D} {v : Nat} (h : v < 3) : ∃ w, (w = a ∨ w = b ∨ w = c) ∧ dIdx (.lst [a, b, c]) (.int (v : Int)) = some w := by
  match v, h with
  | 0, _ => exact ⟨a, .inl rfl, rfl⟩
  | 1, _ => exact ⟨b, .inr (.inl rfl), rfl⟩
  | 2, _ => exact ⟨c, .inr (.inr rfl), rfl⟩
def M9 : IS := match B9 with | .seq _ (.seq _ (.seq (.for _ _ (.seq _ (.seq _ (.seq _ (.seq _ s))))) _)) => s | _ => .skip
theorem s9 {a : Nat} (hK : ∀ i, i < 2 → 1 ≤ K i ∧ K i ≤ 1000) (hC : ∀ i, i < 2 → 1 ≤ C i ∧ C i ≤ 1000) : (xF L G wf (n + 3) 9 [hand ds a, .d (pair K), .d (pair C)]).sat (fun x os => ∃ t, Good K C t ∧ t.dep ≤ 250 ∧ x = talkD C t ∧ ∃ o, os = [o, none, none]) fun _ => False := by
  have hK' : ∀ i, i < 2 → K i ≤ 16777216 := fun i hi => Nat.le_trans (hK i hi).2 (by decide)
  have hC' : ∀ i, i < 2 → C i ≤ 16777216 := fun i hi => Nat.le_trans (hC i hi).2 (by decide)
  refine call_satB rfl rfl [some (hand ds a), some (.d (pair K)), some (.d (pair C)), none, none, none, none, none, none, none] rfl ?_
  unfold B9
  repeat trivial
  refine CR.sat_imp (s3 (n := n) (k := K 0) (c := C 0) (by decide) (hK' 0 (by decide)) (hC' 0 (by decide))) (fun x os ⟨b0, a1, h1, h2, h3⟩ => ?_) fun _ z => z
  subst h2 h3
  repeat trivial
  refine CR.sat_imp (s3 (n := n) (k := K 1) (c := C 1) (by decide) (hK' 1 (by decide)) (hC' 1 (by decide))) (fun x os ⟨b1, a2, h4, h5, h6⟩ => ?_) fun _ z => z
  subst h5 h6
  repeat trivial
  refine compL_K (fun i ys σ => ∃ (us : List Tr) (a' : Nat), ys = us.map Tr.toD ∧ us.length = i ∧ (∀ u ∈ us, Good K C u ∧ u.dep = 0) ∧ σ = [some (hand ds a'), some (.d (pair K)), some (.d (pair C)), some (.d (Tr.fin b0 b1).toD), none, none, none, none, none, none]) ⟨[], a2, rfl, rfl, by simp, rfl⟩ ?_ ?_
  · rintro i x ys σ hx ⟨us, a', rfl, hl, hu, rfl⟩
    refine compF_sat rfl ?_
    repeat trivial
    refine CR.sat_imp (s3 (n := n) (k := K 0) (c := C 0) (by decide) (hK' 0 (by decide)) (hC' 0 (by decide))) (fun x os ⟨b2, a3, h1, h2, h3⟩ => ?_) fun _ z => z
    subst h2 h3
    repeat trivial
    refine CR.sat_imp (s3 (n := n) (k := K 1) (c := C 1) (by decide) (hK' 1 (by decide)) (hC' 1 (by decide))) (fun x os ⟨b3, a4, h4, h5, h6⟩ => ?_) fun _ z => z
    subst h5 h6
    repeat trivial
    refine ⟨us ++ [.fin b2 b3], a4, by simp [Tr.toD], by simp [hl], fun u hu' => ?_, rfl⟩
    rcases List.mem_append.mp hu' with hu' | hu'
    · exact hu u hu'
    · cases List.mem_singleton.mp hu'
      exact ⟨.fin h1.shape h4.shape, rfl⟩
  rintro ys σ ⟨us, a3, rfl, hl, hu, rfl⟩
  have hl : us.length = 3 := hl
  match us, hl with
  | [u0, u1, u2], _ =>
  repeat trivial
  obtain ⟨d, ed, hd⟩ := take_nat (ds := ds) (a := a3) (m := 51) (by decide)
  refine CR.sat_eq (s2 (n := n + 1) (m := ((51 : Nat) : Int)) (by decide)) ?_
  rw [ed]
  repeat trivial
  refine And.intro (Nat.le_trans (Nat.add_le_add_left (show d ≤ 51 by omega) _) (by decide)) ?_
  refine forL_rng (fun i σ => ∃ (t : Tr) (a' : Nat) (p q r s o : Option M), σ = [some (hand ds a'), some (.d (pair K)), some (.d (pair C)), some (.d t.toD), some (.d (.lst [u0.toD, u1.toD, u2.toD])), p, q, r, s, o] ∧ Good K C t ∧ t.dep ≤ i) ⟨.fin b0 b1, _, _, _, _, _, _, rfl, .fin h1.shape h4.shape, Nat.le_refl _⟩ ?_ ?_
  · rintro i σ hi ⟨t, a', p, q, r, s, o, rfl, hg, hdep⟩
    have hs := Nat.mod_lt i (show 0 < 2 by decide)
    have hw : 0 ≤ ((i : Int) / 2 + (i : Int) / 7) % 2 ∧ ((i : Int) / 2 + (i : Int) / 7) % 2 < 2 := by omega
    generalize hwe : ((i : Int) / 2 + (i : Int) / 7) % 2 = w at hw
    have tail : ∀ (b : List (List Int)) (a' : Nat), Bits (K (i % 2)) (C (i % 2)) 2 b → (xS (xF L G wf (n + 2)) G wf M9 [some (hand ds a'), some (.d (pair K)), some (.d (pair C)), some (.d t.toD), some (.d (.lst [u0.toD, u1.toD, u2.toD])), some (.d (.int (i : Int))), some (.d (.int ((i % 2 : Nat) : Int))), some (.d (.int w)), some (.d (dBits b)), o]).satK { nx := fun σ => ∃ (t : Tr) (a' : Nat) (p q r s o : Option M), σ = [some (hand ds a'), some (.d (pair K)), some (.d (pair C)), some (.d t.toD), some (.d (.lst [u0.toD, u1.toD, u2.toD])), p, q, r, s, o] ∧ Good K C t ∧ t.dep ≤ i + 1, cont := fun _ => False, brk := fun _ => False, ret := fun _ _ => False, exc := fun _ _ => False } := by
      intro b a' hb
      unfold M9 B9
      dsimp only
      repeat trivial
      rw [show (i : Int) % 3 = ((i % 3 : Nat) : Int) from (Int.natCast_emod i 3).symm]
      obtain ⟨oth, ho, eo⟩ := ix3 (a := u0.toD) (b := u1.toD) (c := u2.toD) (Nat.mod_lt i (show 0 < 3 by decide))
      refine ⟨_, eo, ?_⟩
      obtain ⟨u, rfl, hgu, hdu⟩ : ∃ u : Tr, oth = u.toD ∧ Good K C u ∧ u.dep = 0 := by
        rcases ho with rfl | rfl | rfl
        · exact ⟨u0, rfl, hu u0 (by simp)⟩
        · exact ⟨u1, rfl, hu u1 (by simp)⟩
        · exact ⟨u2, rfl, hu u2 (by simp)⟩
      have hw2 : w = 0 ∨ w = 1 := by omega
      rcases hw2 with rfl | rfl
      · repeat trivial
        exact ⟨.say (i % 2) b t u, a', _, _, _, _, _, rfl, .say hs hb hg hgu, by simp only [Tr.dep]; omega⟩
      · repeat trivial
        exact ⟨.say (i % 2) b u t, a', _, _, _, _, _, rfl, .say hs hb hgu hg, by simp only [Tr.dep]; omega⟩
    repeat trivial
    rw [show (i : Int) % 2 = ((i % 2 : Nat) : Int) from (Int.natCast_emod i 2).symm, hwe]
    refine ⟨_, pair_ix hs, ?_⟩
    refine ⟨_, rep_row (hC _ hs).1 (hC _ hs).2, ?_⟩
    repeat trivial
    refine ⟨_, pair_ix hs, ?_⟩
    refine ⟨_, rep_bits (hK _ hs).1 (hK _ hs).2, ?_⟩
    repeat trivial
    refine r_bool (fun _ => ?_) (fun _ => ?_)
    · repeat trivial
      refine ⟨_, pair_ix hs, ?_⟩
      repeat trivial
      refine ⟨_, pair_ix hs, ?_⟩
      repeat trivial
      refine CR.sat_imp (s3 (n := n) (m := ((2 : Nat) : Int)) (by decide) (hK' _ hs) (hC' _ hs)) (fun x os ⟨b2, a3, h1, h2, h3⟩ => ?_) fun _ z => z
      subst h2 h3
      refine ⟨_, rfl, ?_⟩
      exact satK_imp (tail b2 a3 h1) (fun _ z => z) (fun _ _ z => z.elim) (fun _ z => z.elim) (fun _ z => z.elim) (fun _ _ z => z.elim)
    · refine r_skip ?_
      exact satK_imp (tail _ a' (rep_Bits hw)) (fun _ z => z) (fun _ _ z => z.elim) (fun _ z => z.elim) (fun _ z => z.elim) (fun _ _ z => z.elim)
  · rintro σ ⟨t, a', p, q, r, s, o, rfl, hg, hdep⟩
    repeat trivial
    have hdep : t.dep ≤ 199 + d := hdep
    exact ⟨t, hg, by omega, rfl, _, rfl⟩
end K01

namespace K01
open PySem JH
local macro_rules | `(tactic| trivial) => `(tactic| first
  | refine r_seq ?_ | refine r_asg ?_ | refine r_asgM ?_ | refine r_rd rfl ?_ | refine r_cI ?_ | refine r_cS ?_ | refine r_cB ?_ | refine r_cN ?_ | refine r_bin ?_ | refine r_cmp ?_ | refine r_idx ?_ | refine r_midx rfl rfl ?_
  | refine r_sto ?_ | refine r_app rfl rfl ?_ | refine r_fz rfl ?_ | refine r_b1 ?_ | refine r_if ?_ | refine r_t rfl ?_ | refine r_ret ?_ | refine r_skip ?_ | refine r_tup ?_ | refine r_lst ?_ | refine r_cons ?_ | refine r_nil ?_
  | refine r_for ?_ | refine r_rng1 ?_ | refine r_call ?_ | refine r_amarg rfl ?_ | refine r_acons rfl ?_ | refine r_anil ?_ | refine r_not ?_ | refine r_and ?_ | refine r_or ?_ | refine r_andc ?_ | refine r_orc ?_ | refine r_and1 ?_ | refine r_or1 ?_ | refine r_neg ?_
  | refine r_isi ?_ | refine r_slc ?_ | refine r_oN ?_ | refine r_oS rfl ?_ | (apply r_cv rfl; focus (repeat (first | exact AVs.nil | apply AVs.d | (apply AVs.m; rfl)))) | refine r_brk ?_ | refine r_cont ?_ | refine r_ex ?_ | refine r_wh ?_ | refine r_tN ?_ | refine r_comp ?_ | refine r_true ?_ | refine r_false ?_
  | refine ⟨_, xB_add, ?_⟩ | refine ⟨_, xB_sub, ?_⟩ | refine ⟨_, xB_mul (by first | exact small_lit (by decide +kernel) | exact small_lit1 (by decide +kernel) | exact small_lit (small_mod (by omega) (by omega)) | exact small_lit (by assumption)), ?_⟩ | refine ⟨_, xB_mod (by first | assumption | omega), ?_⟩ | refine ⟨_, xB_fdiv (by omega), ?_⟩ | refine ⟨_, xB_pow (by decide +kernel), ?_⟩ | refine ⟨_, xB_addT (by first | decide | (simp; done) | (simp; omega) | exact Nat.le_of_ble_eq_true rfl), ?_⟩ | refine ⟨_, xB_addL (by first | decide | (simp; done) | (simp; omega)), ?_⟩
  | refine ⟨_, rfl, ?_⟩ | refine ⟨_, rfl, rfl, ?_⟩ | refine ⟨_, _, rfl, rfl, ?_⟩ | refine ⟨_, if_pos (by first | decide | assumption | omega), ?_⟩ | refine And.intro (by first | assumption | decide) ?_)
variable {G : Nat → Option D}
/-! ### the law -/
theorem s11 (ns : List Int) (hz : ns.length ≤ 63) : (xF L G 1000 20 11 [.d (.scr ns)]).sat (fun x os => x = .bl true) fun _ => False := by
  refine call_satB rfl rfl [some (.d (.scr ns)), none, none, none, none, none] rfl ?_
  unfold B11
  repeat trivial
  refine CR.sat_imp (s1 (n := 18) (many := 700) (Nat.le_trans hz (by decide)) (by decide)) (fun x os ⟨ds, h1, h2⟩ => ?_) fun _ z => z
  subst h1 h2
  repeat trivial
  obtain ⟨k0, e0, h0⟩ := take_nat (ds := ds) (a := 0) (m := 4) (by decide)
  obtain ⟨k1, e1, h1⟩ := take_nat (ds := ds) (a := 0 + 1) (m := 4) (by decide)
  refine CR.sat_eq (s2 (n := 18) (ds := ds) (a := 0) (m := ((4 : Nat) : Int)) (by decide)) ?_
  rw [e0]
  repeat trivial
  refine CR.sat_eq (s2 (n := 18) (ds := ds) (a := 0 + 1) (m := ((4 : Nat) : Int)) (by decide)) ?_
  rw [e1]
  repeat trivial
  have ek : D.tup [.int (1 + (k0 : Int)), .int (1 + (k1 : Int))] = pair (two (1 + k0) (1 + k1)) := by
    unfold pair two
    simp
  rw [ek]
  have hK : ∀ i, i < 2 → two (1 + k0) (1 + k1) i ≤ 16777216 := fun i _ => by
    unfold two
    split <;> omega
  refine CR.sat_imp (s5 (n := 12) hK (by decide)) (fun x os ⟨C, t, a, hC, hg, hd, p1, p2⟩ => ?_) fun _ z => z
  subst p1 p2
  have hC' : ∀ i, i < 2 → C i ≤ 16777216 := fun i hi => Nat.le_trans (hC i hi).2 (by decide)
  repeat trivial
  refine CR.sat_eq (s10 (n := 15) hg hK hC' (by omega) (by decide)) ?_
  repeat trivial
  refine CR.sat_imp (s8 hg 16 a (by omega)) (fun x os ⟨u, a2, hg2, hd2, q1, q2⟩ => ?_) fun _ z => z
  subst q1 q2
  repeat trivial
  refine CR.sat_eq (s10 (n := 15) hg2 hK hC' (by omega) (by decide)) ?_
  repeat trivial
  refine CR.sat_eq (s10 (n := 15) hg hK hC' (by omega) (by decide)) ?_
  repeat trivial
  refine CR.sat_eq (s2 (n := 18) (m := ((4 : Nat) : Int)) (by decide)) ?_
  repeat trivial
  refine r_dec (fun _ => ?_) (fun _ => ?_)
  · repeat trivial
  · repeat trivial
    have h2 : ∀ i, i < 2 → 1 ≤ two 2 1 i ∧ two 2 1 i ≤ 1000 := fun i _ => by
      unfold two
      split <;> decide
    have h3 : ∀ i, i < 2 → 1 ≤ two 1 2 i ∧ two 1 2 i ≤ 1000 := fun i _ => by
      unfold two
      split <;> decide
    refine CR.sat_imp (s9 (n := 16) (K := two 2 1) (C := two 1 2) h2 h3) (fun x os ⟨t3, hg3, hd3, q3, o, q4⟩ => ?_) fun _ z => z
    subst q3 q4
    repeat trivial
    refine CR.sat_eq (s10 (n := 15) (K := two 2 1) (C := two 1 2) hg3 (fun i hi => Nat.le_trans (h2 i hi).2 (by decide)) (fun i hi => Nat.le_trans (h3 i hi).2 (by decide)) (by omega) (by decide)) ?_
    repeat trivial
theorem pure_law (ns : List Int) (h : ns.length ≤ 63) : ∃ os, JH.callF K01.L (fun _ => none) 1000 20 11 [.d (.scr ns)] = .ret (.bl true) os := by
  have := s11 (G := fun _ => none) ns h
  rw [xF_eq] at this
  cases e : JH.callF K01.L (fun _ => none) 1000 20 11 [.d (.scr ns)] with
  | ret d os =>
    rw [e] at this
    have : d = .bl true := this
    exact ⟨os, by rw [this]⟩
  | exc x => rw [e] at this; exact this.elim
  | stuck => rw [e] at this; exact this.elim
end K01

open PySem PySem.W PySem.Calls PyProof.Rows
theorem PySem.Challenge.cw_jointhands_k01_talks_that_are_held_holds : PySem.Challenge.rw_jointhands_k01_talks_that_are_held.Holds := by
  w_on; o_law
  refine HandSHeadRun.head_any (r := OpenLaw.row PySem.Challenge.rw_jointhands_k01_talks_that_are_held) (q := view (OpenLaw.row PySem.Challenge.rw_jointhands_k01_talks_that_are_held).prog [13]) (H := K01.hk) (ob := K01.ob) (M := 1000) (loose := K01.loose) (d := HandSHeadRun.topDef (OpenLaw.row PySem.Challenge.rw_jointhands_k01_talks_that_are_held).prog 13) (kwd := []) K01.ob_eq
    (by kernel_rfl) (fun s => by kernel_rfl) K01.run (by kernel_rfl) (by kernel_rfl) (by kernel_rfl) (by rfl) (by first | assumption | decide +kernel) (by decide +kernel) ⟨rfl, rfl, rfl, rfl, rfl, by decide +kernel⟩ ?hw ?hc
  case hw => w_witness2
  case hc =>
    exact JH.law_walk (l := PySem.Challenge.rw_jointhands_k01_talks_that_are_held) (ds := K01.ds) (bs := K01.bs) (L := K01.L) (G := fun _ => none) (wf := 1000) (n := 20) (f := 11) (d := K01.d11) (x := "_law_script") (fnm := fun _ => "") rfl (by kernel_rfl) ⟨rfl, by decide, by decide⟩ rfl (by kernel_rfl) rfl K01.call K01.allB K01.pure_law
