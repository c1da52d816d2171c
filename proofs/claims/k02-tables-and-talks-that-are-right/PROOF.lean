import PyProof.Rows.All
import Wide.All
import OpenK.AllK
import Wide.FinOn
import HandS.ForMost
import HandS.ForExc
import HandS.IsInst
import HandS.Deep
import HandS.Wide
import HandS.TupAny
import HandS.TupMul
import HandS.Zip
import HandS.Rev
import HandS.SortInts
import HandS.ExcInit
import HandS.HotCalls
import HandS.ExcInitHot
import HandS.HeadHook1
import HandS.HeadHook2
import HandS.Defaults
import HandS.Codes
import KE.KExcIs
import HandS.Flow
import HandS.Zip0
import HandS.List
import HandS.Conv
import PyProof.Rows.IntBool
import HandS.HeadWalk
import HandS.HeadEnd
import HandS.Head0
import HandS.Head1
import HandS.Head2
import PyProof.FitsInt
import PySem.Challenge.RW_jointhands_k02_tables_and_talks_that_are
set_option Elab.async false
set_option linter.all false
set_option maxRecDepth 100000
set_option maxHeartbeats 0
/-! JA: pure data, owned trees, the IR and its evaluator. -/
namespace JH
open PySem

/-- an exception: its class (a number of the table), its one field (the field's number, an int), if it has one -/
structure EX where
  c : Nat
  x : Option (Nat × Int)
  deriving Inhabited, DecidableEq

/-- immutable data (err: an exception that is handled) -/
inductive D where
  | non | bl (b : Bool) | int (i : Int) | str (s : List Nat)
  | tup (xs : List D) | lst (xs : List D)
  | dk (ks : List (Sum Int (List Nat))) (vs : List D)
  | obj (c : Nat) (fs : List Nat) (vs : List D)
  | scr (ns : List Int)
  | err (e : EX)
  deriving Inhabited

/-- owned data: a tree whose inner nodes are objects that nothing else knows -/
inductive M where
  | d (x : D)
  | lst (xs : List M)
  | dk (ks : List (Sum Int (List Nat))) (vs : List M)
  | obj (c : Nat) (fs : List Nat) (vs : List M)
  deriving Inhabited

abbrev Env := List (Option M)

mutual
/-- what an owned tree is when nobody may change it any more -/
def M.toD : M → D
  | .d x => x
  | .lst xs => .lst (M.toDs xs)
  | .dk ks vs => .dk ks (M.toDs vs)
  | .obj c fs vs => .obj c fs (M.toDs vs)
def M.toDs : List M → List D
  | [] => []
  | x :: xs => M.toD x :: M.toDs xs
end

inductive ER (α : Type) where
  | ok (a : α) (σ : Env) | exc (e : EX) (σ : Env) | stuck
def ER.bind {α β : Type} : ER α → (α → Env → ER β) → ER β
  | .ok a σ, f => f a σ
  | .exc e σ, _ => .exc e σ
  | .stuck, _ => .stuck
@[simp] theorem ER.bind_ok {α β : Type} (a : α) (σ : Env) (f : α → Env → ER β) : (ER.ok a σ).bind f = f a σ := rfl
@[simp] theorem ER.bind_exc {α β : Type} (e : EX) (σ : Env) (f : α → Env → ER β) : (ER.exc e σ : ER α).bind f = .exc e σ := rfl
@[simp] theorem ER.bind_stuck {α β : Type} (f : α → Env → ER β) : (ER.stuck : ER α).bind f = .stuck := rfl
def ofO {α : Type} (o : Option α) (σ : Env) : ER α := match o with
  | some a => .ok a σ
  | none => .stuck
@[simp] theorem ofO_some {α : Type} (a : α) (σ : Env) : ofO (some a) σ = .ok a σ := rfl
@[simp] theorem ofO_none {α : Type} (σ : Env) : (ofO none σ : ER α) = .stuck := rfl

inductive CR where
  | ret (d : D) (outs : Env) | retM (ds : List D) (outs : Env) | exc (e : EX) | stuck
abbrev Tab := Nat → List M → CR

inductive BOp where | add | sub | mul | fdiv | mod | pow
  deriving DecidableEq
inductive COp where | eq | ne | lt | le | gt | ge | isin | notin
  deriving DecidableEq
inductive B1 where | len | tuple | list | int | abs | sum | all | any | sorted | min | max | bool | str
  deriving DecidableEq
inductive B2 where | min | max
  deriving DecidableEq
inductive Ty where | tuple | list | int | bool | str | dict
  deriving DecidableEq
inductive Pl where
  | root (i : Nat) | fld (i f : Nat)
  deriving DecidableEq
inductive Tg where
  | nm (i : Nat) | nil | cons (a r : Tg)
  deriving DecidableEq

inductive IE where
  | cN | cB (b : Bool) | cI (i : Int) | cS (s : List Nat)
  | rd (i : Nat) | rdf (i f : Nat) | fz (p : Pl) | fld (e : IE) (f : Nat)
  | gl (g : Nat)
  | bin (op : BOp) (a b : IE) | neg (a : IE)
  | cmp (op : COp) (a b : IE) | chn (o1 o2 : COp) (a b c : IE)
  | isN (a : IE) | notN (a : IE)
  | and (l : IE) | or (l : IE) | not (a : IE) | ite (c a b : IE)
  | idx (a b : IE) | midx (p : Pl) (b : IE)
  | slc (a lo hi : IE)
  | tup (l : IE) | lst (l : IE)
  | call (f : Nat) (l : IE)
  | b1 (f : B1) (a : IE) | pb1 (f : B1) (p : Pl) | b2 (f : B2) (a b : IE)
  | isi (a : IE) (t : Ty) | isi2 (a : IE) (t u : Ty)
  | comp (elt : IE) (tg : Tg) (it : IE) (c : IE) (own : List Nat)
  | pop (p : Pl) | popi (p : Pl) (a : IE)
  | rng1 (a : IE) | rng2 (a b : IE) | enm (a : IE) | zp (a b : IE) | rv (a : IE)
  | isc (a : IE) (l : List Nat) | ef (a : IE) (f : Nat)
  | bor (i : Nat) (a : IE) | tru (a : IE) | notV (a : IE) | tupR (a b : IE)
  | chn4 (o1 o2 o3 : COp) (a b c d : IE) | cv1 (tup : Bool) (a : IE) | cv2 (tup : Bool) (a b : IE)
  | comp2 (elt : IE) (t1 : Tg) (i1 : IE) (t2 : Tg) (i2 : IE) (own own2 : List Nat)
  | nil | cons (a r : IE) | marg (i : Nat)
  | stk | ofd (a : IE) (f : Nat) (cs : List Nat) | meth (bad c f : Nat) (o l : IE) | mk (c f : Nat) (l : IE) | dct (ks : List (Sum Int (List Nat))) (l : IE) | dhas (neg : Bool) (a b : IE)
  deriving DecidableEq

inductive IS where
  | skip | seq (a b : IS)
  | asg (t : Tg) (e : IE) | asgM (i : Nat) (e : IE) | asgC (i f : Nat) (l : IE)
  | sto (p : Pl) (i e : IE)
  | app (p : Pl) (e : IE) | ext (p : Pl) (e : IE)
  | ex (e : IE)
  | ite (c : IE) (a b : IS) | wh (c : IE) (b : IS) | for (t : Tg) (it : IE) (b : IS)
  | ret (e : IE) | retM (e : IE) | retN | brk | cont
  | rse (c : Nat) | rsi (c f : Nat) (e : IE)
  | forO (t : Tg) (p : Nat) (b : IS) | retO (i : Nat) | retC (f : Nat) (l : IE)
  | tryE (b : IS) (l : List Nat) (s : Option Nat) (h : IS)
  | aug (i : Nat) (e : IE) | asgN (i : Nat) (t : Bool) | par (i j : Nat) (a b : IE)
  | stk | setf (i f : Nat) (cs : List Nat) (e : IE)
  deriving DecidableEq

/-! ### operations on data -/
mutual
def D.depth : D → Nat
  | .tup xs => D.depths xs + 1
  | .lst xs => D.depths xs + 1
  | _ => 0
def D.depths : List D → Nat
  | [] => 0
  | x :: xs => max (D.depth x) (D.depths xs)
end
mutual
/-- plain data: none, truth values, ints, texts, lists and tuples of them -/
def D.plain : D → Bool
  | .non => true | .bl _ => true | .int _ => true
  | .str s => s.all fun c => decide (c < 0x110000)
  | .tup xs => D.plains xs
  | .lst xs => D.plains xs
  | _ => false
def D.plains : List D → Bool
  | [] => true
  | x :: xs => D.plain x && D.plains xs
end
mutual
def D.eqv : D → D → Bool
  | .non, .non => true
  | .bl a, .bl b => a == b
  | .bl a, .int j => (if a then 1 else 0) == j
  | .int i, .bl b => i == (if b then 1 else 0)
  | .int i, .int j => i == j
  | .str x, .str y => x == y
  | .lst xs, .lst ys => D.eqvs xs ys
  | .tup xs, .tup ys => D.eqvs xs ys
  | _, _ => false
def D.eqvs : List D → List D → Bool
  | [], [] => true
  | x :: xs, y :: ys => D.eqv x y && D.eqvs xs ys
  | _, _ => false
end
/-- data that == takes -/
def D.cmpOk (x : D) : Bool := D.plain x && decide (D.depth x ≤ 64)
/-- scalars that == takes at once -/
def D.scal : D → D → Bool
  | .non, .non => true | .non, .int _ => true | .int _, .non => true | .non, .bl _ => true | .bl _, .non => true | .non, .str _ => true | .str _, .non => true
  | .int _, .int _ => true | .bl _, .bl _ => true | .str _, .str _ => true
  | .int _, .str _ => true | .str _, .int _ => true | .bl _, .str _ => true | .str _, .bl _ => true
  | _, _ => false
def dEq (x y : D) : Option Bool := if D.scal x y || (D.cmpOk x && D.cmpOk y) then some (D.eqv x y) else none
def lexLt : List Int → List Int → Bool
  | [], [] => false
  | [], _ :: _ => true
  | _ :: _, [] => false
  | x :: xs, y :: ys => if x = y then lexLt xs ys else decide (x < y)
def D.ints : List D → Option (List Int)
  | [] => some []
  | .int i :: r => (D.ints r).map (i :: ·)
  | _ => none
def D.bls : List D → Option (List Bool)
  | [] => some []
  | .bl i :: r => (D.bls r).map (i :: ·)
  | _ => none
def D.flat : D → Bool
  | .non => true | .bl _ => true | .int _ => true | .str _ => true | _ => false
def dIn (x : D) (xs : List D) : Option Bool :=
  if D.flat x && xs.all D.flat then some (xs.any fun y => D.eqv y x) else none
def D.items : D → Option (List D)
  | .tup xs => some xs
  | .lst xs => some xs
  | .scr ns => some (ns.map D.int)
  | _ => none
def dCmp : COp → D → D → Option Bool
  | .eq, x, y => dEq x y
  | .ne, x, y => (dEq x y).map not
  | .lt, .int i, .int j => some (decide (i < j))
  | .le, .int i, .int j => some (decide (i ≤ j))
  | .gt, .int i, .int j => some (decide (j < i))
  | .ge, .int i, .int j => some (decide (j ≤ i))
  | .isin, x, y => (D.items y).bind (dIn x)
  | .notin, x, y => ((D.items y).bind (dIn x)).map not
  | _, _, _ => none
def small64 (i : Int) : Bool := decide (-(2 ^ 64) < i) && decide (i < 2 ^ 64)
def dBin : BOp → D → D → Option D
  | .add, .int i, .int j => some (.int (i + j))
  | .add, .tup xs, .tup ys => if xs.length + ys.length ≤ 16777216 then some (.tup (xs ++ ys)) else none
  | .add, .lst xs, .lst ys => if xs.length + ys.length ≤ 16777216 then some (.lst (xs ++ ys)) else none
  | .add, .str xs, .str ys => if xs.length + ys.length ≤ 16777216 then some (.str (xs ++ ys)) else none
  | .sub, .int i, .int j => some (.int (i - j))
  | .mul, .int i, .int j => if small64 i || small64 j || decide (i.natAbs.log2 + j.natAbs.log2 < 1000000) then some (.int (i * j)) else none
  | .mul, .tup xs, .int k => if 1 ≤ xs.length ∧ xs.length ≤ 1000 ∧ -1000 ≤ k ∧ k ≤ 1000 then some (.tup (List.replicate k.toNat xs).flatten) else none
  | .fdiv, .int i, .int j => if 0 < j ∧ (j < 1073741824 ∨ j.natAbs.log2 < 9000) then some (.int (i / j)) else none
  | .mod, .int i, .int j => if 0 < j then some (.int (i % j)) else none
  | .pow, .int i, .int j => if 0 ≤ j ∧ j ≤ 1000 ∧ small64 i then some (.int (i ^ j.toNat)) else none
  | .add, .bl b, .int j => some (.int ((if b then 1 else 0) + j))
  | .sub, .bl b, .int j => some (.int ((if b then 1 else 0) - j))
  | _, _, _ => none
def negD : D → Option D
  | .int i => some (.int (-i))
  | .bl b => some (.int (-(if b then 1 else 0)))
  | _ => none
/-- the place that an index means -/
def ixD (n : Nat) (i : Int) : Option Nat := if 0 ≤ i then (if i < n then some i.toNat else none) else if -(n : Int) ≤ i then some (i + n).toNat else none
/-- keys of dicts -/
def kIdx {κ : Type} [DecidableEq κ] : List κ → κ → Option Nat
  | [], _ => none
  | x :: r, k => if x = k then some 0 else (kIdx r k).map (· + 1)
def kPut {κ α : Type} [DecidableEq κ] : List κ → List α → κ → α → List α
  | a :: ks, m :: ms, k, y => (if a = k then y else m) :: kPut ks ms k y
  | _, ms, _, _ => ms
def toK : D → Option (Sum Int (List Nat))
  | .int i => some (.inl i)
  | .str s => some (.inr s)
  | _ => none
def dIdx : D → D → Option D
  | .tup xs, .int i => (ixD xs.length i).bind fun j => xs[j]?
  | .lst xs, .int i => (ixD xs.length i).bind fun j => xs[j]?
  | .scr ns, .int i => (ixD ns.length i).bind fun j => ns[j]?.map D.int
  | .dk ks vs, y => (toK y).bind fun k => (kIdx ks k).bind fun j => vs[j]?
  | _, _ => none
def sIx (n d : Nat) : Option Int → Nat
  | none => d
  | some v => if v < 0 then (v + n).toNat else min v.toNat n
def cutD (xs : List D) (lo hi : Option Int) : List D := (xs.drop (sIx xs.length 0 lo)).take (sIx xs.length xs.length hi - sIx xs.length 0 lo)
def dSlc : D → Option Int → Option Int → Option D
  | .tup xs, lo, hi => some (.tup (cutD xs lo hi))
  | .lst xs, lo, hi => some (.lst (cutD xs lo hi))
  | _, _, _ => none
def isort : List Int → List Int
  | [] => []
  | x :: xs => ins x (isort xs)
where ins (x : Int) : List Int → List Int
  | [] => [x]
  | y :: ys => if x ≤ y then x :: y :: ys else y :: ins x ys
/-- the greatest, the least -/
def maxI (ns : List Int) : Option Int := ns.find? fun m => ns.all fun y => decide (y ≤ m)
def minI (ns : List Int) : Option Int := ns.find? fun m => ns.all fun y => decide (m ≤ y)
def dB1 : B1 → D → Option D
  | .len, .tup xs => some (.int xs.length)
  | .len, .lst xs => some (.int xs.length)
  | .len, .scr xs => some (.int xs.length)
  | .len, .dk ks _ => some (.int ks.length)
  | .tuple, .tup xs => some (.tup xs)
  | .tuple, .lst xs => some (.tup xs)
  | .list, .tup xs => some (.lst xs)
  | .list, .lst xs => some (.lst xs)
  | .list, .scr ns => some (.lst (ns.map D.int))
  | .int, .int i => some (.int i)
  | .int, .bl b => some (.int (if b then 1 else 0))
  | .abs, .int i => some (.int (if i < 0 then -i else i))
  | .sum, .lst xs => (D.ints xs).map fun ns => .int ns.sum
  | .all, .lst xs => (D.bls xs).map fun bs => .bl (bs.all id)
  | .any, .lst xs => (D.bls xs).map fun bs => .bl (bs.any id)
  | .str, .int i => if i.natAbs.log2 < 1920 then some (.str (Str.ofString (toString i)).cps.toList) else none
  | .str, .bl b => some (.str (if b then [84, 114, 117, 101] else [70, 97, 108, 115, 101]))
  | .sorted, .lst xs => (D.ints xs).map fun ns => .lst ((isort ns).map D.int)
  | .max, .lst xs => (D.ints xs).bind fun ns => (maxI ns).map D.int
  | .max, .tup xs => (D.ints xs).bind fun ns => (maxI ns).map D.int
  | .min, .lst xs => (D.ints xs).bind fun ns => (minI ns).map D.int
  | .min, .tup xs => (D.ints xs).bind fun ns => (minI ns).map D.int
  | _, _ => none
def dB2 : B2 → D → D → Option D
  | .max, .int i, .int j => some (.int (if j > i then j else i))
  | .min, .int i, .int j => some (.int (if j < i then j else i))
  | _, _, _ => none
def D.isTy : D → Ty → Bool
  | .bl _, .bool => true | .bl _, .int => true
  | .int _, .int => true
  | .str _, .str => true
  | .tup _, .tuple => true
  | .lst _, .list => true
  | .scr _, .list => true
  | .dk _ _, .dict => true
  | _, _ => false
def D.tyOk : D → Bool
  | .obj _ _ _ => false
  | .dk _ _ => false
  | .err _ => false
  | _ => true
/-- an owned list of data -/
def M.leaf : M → Option D
  | .d x => some x
  | _ => none
def M.leaves : List M → Option (List D)
  | [] => some []
  | .d x :: r => (M.leaves r).map (x :: ·)
  | _ => none

def smallR (i : Int) : Bool := decide (-16777216 ≤ i) && decide (i ≤ 16777216)
/-! ### places -/
def fIx (f : Nat) : List Nat → Option Nat
  | [] => none
  | g :: r => if g = f then some 0 else (fIx f r).map (· + 1)
def getPl (σ : Env) : Pl → Option M
  | .root i => (σ[i]?).bind id
  | .fld i f => match (σ[i]?).bind id with
    | some (.obj _ fs vs) => (fIx f fs).bind fun k => vs[k]?
    | _ => none
def setPl (σ : Env) (p : Pl) (m : M) : Env := match p with
  | .root i => σ.set i (some m)
  | .fld i f => match (σ[i]?).bind id with
    | some (.obj c fs vs) => match fIx f fs with
      | some k => σ.set i (some (.obj c fs (vs.set k m)))
      | none => σ
    | _ => σ
def M.isL : M → Option Unit
  | .lst _ => some ()
  | _ => none
def there (p : Pl) (σ : Env) : ER Unit := ofO ((getPl σ p).bind M.isL) σ
/-- what reading a place's list gives, without freezing it -/
def peek (m : M) : Option D := match m with
  | .lst xs => (M.leaves xs).map D.lst
  | _ => none
/-- .. or data, or a dict -/
def peekB (m : M) : Option D := match m with
  | .lst xs => (M.leaves xs).map D.lst
  | .d x => some x
  | .dk ks xs => (M.leaves xs).map (D.dk ks)
  | _ => none
/-- a slot that has a value -/
def has (p : Pl) (σ : Env) : ER Unit := ofO ((getPl σ p).map fun _ => ()) σ

/-- an item of an owned list -/
def mIdx (m : M) (y : D) : Option D := match m, y with
  | .lst xs, .int i => ((ixD xs.length i).bind fun j => xs[j]?).bind M.leaf
  | .d x, y => dIdx x y
  | .dk ks ms, y => (toK y).bind fun k => (kIdx ks k).bind fun j => ms[j]?.bind M.leaf
  | _, _ => none
/-- the last item, and the list without it -/
def mPop (m : M) : Option (D × M) := match m with
  | .lst xs => (xs.getLast?.bind M.leaf).map fun x => (x, .lst xs.dropLast)
  | _ => none
def mPopi (m : M) (y : D) : Option (D × M) := match m, y with
  | .lst xs, .int i => if smallR i then (ixD xs.length i).bind fun j => (xs[j]?.bind M.leaf).map fun x => (x, .lst (xs.eraseIdx j)) else none
  | _, _ => none
def mSet (m : M) (k y : D) : Option M := match m, k with
  | .lst xs, .int i => (ixD xs.length i).map fun j => .lst (xs.set j (.d y))
  | .dk ks ms, k => (toK k).bind fun k => if ks.length < 16777216 then some (match kIdx ks k with
    | some _ => .dk ks (kPut ks ms k (.d y))
    | none => .dk (ks ++ [k]) (ms ++ [.d y])) else none
  | _, _ => none
def mApp (m : M) (y : D) : Option M := match m with
  | .lst xs => if xs.length < 16777216 then some (.lst (xs ++ [.d y])) else none
  | _ => none
def mExt (m : M) (y : D) : Option M := match m, y with
  | .lst xs, .lst ys => if xs.length + ys.length ≤ 16777216 then some (.lst (xs ++ ys.map M.d)) else none
  | _, _ => none
/-- an argument: data, or a slot that is handed over -/
inductive AV where
  | d (x : D) | m (i : Nat)
  deriving Inhabited
def avM (σ : Env) : AV → Option M
  | .d x => some (.d x)
  | .m i => (σ[i]?).bind id
def avMs (σ : Env) : List AV → Option (List M)
  | [] => some []
  | a :: r => (avM σ a).bind fun m => (avMs σ r).map (m :: ·)
def avSlots : List AV → List Nat
  | [] => []
  | .m i :: r => i :: avSlots r
  | .d _ :: r => avSlots r
def putOuts (σ : Env) : List AV → Env → Env
  | [], _ => σ
  | .m i :: r, o :: os => putOuts (σ.set i o) r os
  | .d _ :: r, _ :: os => putOuts σ r os
  | .m i :: r, [] => putOuts (σ.set i none) r []
  | .d _ :: r, [] => putOuts σ r []
def dropOuts (σ : Env) : List AV → Env
  | [] => σ
  | .m i :: r => dropOuts (σ.set i none) r
  | .d _ :: r => dropOuts σ r
def nodupB : List Nat → Bool
  | [] => true
  | x :: r => !r.contains x && nodupB r
def callWith (T : Tab) (f : Nat) (avs : List AV) (σ : Env) : ER D :=
  if nodupB (avSlots avs) then
    match avMs σ avs with
    | some ms => match T f ms with
      | .ret d outs => .ok d (putOuts σ avs outs)
      | .retM ds outs => .ok (.lst ds) (putOuts σ avs outs)
      | .exc e => .exc e (dropOuts σ avs)
      | .stuck => .stuck
    | none => .stuck
  else .stuck
/-- a call of a def that gives a list which nothing else knows -/
def callN (T : Tab) (f : Nat) (avs : List AV) (σ : Env) : ER (List D) :=
  if nodupB (avSlots avs) then
    match avMs σ avs with
    | some ms => match T f ms with
      | .ret _ _ => .stuck
      | .retM ds outs => .ok ds (putOuts σ avs outs)
      | .exc e => .exc e (dropOuts σ avs)
      | .stuck => .stuck
    | none => .stuck
  else .stuck
def asL : D → Option (List D)
  | .lst xs => some xs
  | _ => none

/-! ### targets -/
mutual
def asgT : Tg → D → Env → Option Env
  | .nm i, d, σ => some (σ.set i (some (.d d)))
  | .nil, d, σ => match d with
    | .tup [] => some σ
    | _ => none
  | .cons a r, d, σ => match d with
    | .tup (x :: xs) => (asgT a x σ).bind fun σ1 => asgTs r xs σ1
    | _ => none
def asgTs : Tg → List D → Env → Option Env
  | .nm _, _, _ => none
  | .nil, xs, σ => match xs with
    | [] => some σ
    | _ => none
  | .cons a r, xs, σ => match xs with
    | x :: ys => (asgT a x σ).bind fun σ1 => asgTs r ys σ1
    | [] => none
end

/-! ### the loop of a comprehension -/
def compL (f : D → Env → ER (Option D)) : List D → Env → ER (List D)
  | [], σ => .ok [] σ
  | x :: xs, σ => match f x σ with
    | .ok (some y) σ1 => (compL f xs σ1).bind fun r σ2 => .ok (y :: r) σ2
    | .ok none σ1 => compL f xs σ1
    | _ => .stuck
def compC (f : D → Env → ER (List D)) : List D → Env → ER (List D)
  | [], σ => .ok [] σ
  | x :: xs, σ => match f x σ with
    | .ok ys σ1 => (compC f xs σ1).bind fun r σ2 => .ok (ys ++ r) σ2
    | _ => .stuck
def wipeD (σ : Env) : List Nat → Env
  | [] => σ
  | v :: vs => (wipeD σ vs).set v none
/-- the slots vs as they were in σ0 -/
def backD (σ0 σ : Env) : List Nat → Env
  | [] => σ
  | v :: vs => (backD σ0 σ vs).set v ((σ0[v]?).bind id)
def rangeD (lo : Int) (n : Nat) : List D := (List.range n).map fun (i : Nat) => D.int (lo + i)
def enumD (i : Nat) : List D → List D
  | [] => []
  | x :: xs => .tup [.int i, x] :: enumD (i + 1) xs
def zipD : List D → List D → List D
  | x :: xs, y :: ys => .tup [x, y] :: zipD xs ys
  | _, _ => []
def dRng1 : D → Option (List D)
  | .int n => if smallR n then some (rangeD 0 n.toNat) else none
  | _ => none
def dRng2 : D → D → Option (List D)
  | .int i, .int j => if smallR i && smallR j && smallR (j - i) then some (rangeD i (j - i).toNat) else none
  | _, _ => none
def dEnm : D → Option (List D)
  | .lst xs => some (enumD 0 xs)
  | .tup xs => some (enumD 0 xs)
  | _ => none
def dZip : D → D → Option (List D)
  | .lst xs, .lst ys => some (zipD xs ys)
  | .tup xs, .tup ys => some (zipD xs ys)
  | _, _ => none
def asI : D → Option Int
  | .int i => some i
  | _ => none
def isNone : D → Bool
  | .non => true
  | _ => false
def asB : D → Option Bool
  | .bl b => some b
  | _ => none

/-- a value's truth -/
def truD : D → Option Bool
  | .non => some false
  | .bl b => some b
  | .int i => some (i != 0)
  | .tup xs => some (!xs.isEmpty)
  | .lst xs => some (!xs.isEmpty)
  | .scr xs => some (!xs.isEmpty)
  | _ => none
/-- the end of a piece that only looked at an owned tree -/
def borR (r : ER D) (σ : Env) : ER D := match r with
  | .ok x _ => if x.flat = true then .ok x σ else .stuck
  | _ => .stuck
def errOf : D → Option EX
  | .err e => some e
  | _ => none
def efOf (e : EX) (f : Nat) : Option D := match e.x with
  | some (g, i) => if g = f then some (.int i) else none
  | none => none
/-! ### objects -/
/-- a field of an object that never changes -/
def ofdD (f : Nat) (cs : List Nat) : D → Option D
  | .obj c fs vs => if cs.contains c = true then (fIx f fs).bind fun k => vs[k]? else none
  | _ => none
/-- an object of class c that has no field of the method's name -/
def methD (bad c : Nat) : D → Option Unit
  | .obj c' fs _ => if c' = c ∧ fs.contains bad = false then some () else none
  | _ => none
def methR (r : CR) (σ : Env) : ER D := match r with
  | .ret d _ => .ok d σ
  | _ => .stuck
/-- a new object, made by its __init__ -/
def mkR (r : CR) (σ : Env) : ER D := match r with
  | .ret .non (some m :: _) => .ok m.toD σ
  | _ => .stuck
def setfM (f : Nat) (cs : List Nat) (y : D) : Option M → Option M
  | some (.obj c fs vs) => if cs.contains c = true ∧ fs.length < 1000 then some (match fIx f fs with
    | some k => .obj c fs (vs.set k (.d y))
    | none => .obj c (fs ++ [f]) (vs ++ [.d y])) else none
  | _ => none
def dHas (x : D) : D → Option Bool
  | .dk ks _ => (toK x).map fun k => (kIdx ks k).isSome
  | _ => none
/-! ### the evaluator -/
section
variable (T : Tab) (G : Nat → Option D)
mutual
def evE : IE → Env → ER D
  | .cN, σ => .ok .non σ
  | .cB b, σ => .ok (.bl b) σ
  | .cI i, σ => .ok (.int i) σ
  | .cS s, σ => .ok (.str s) σ
  | .rd i, σ => match (σ[i]?).bind id with
    | some (.d x) => .ok x σ
    | _ => .stuck
  | .rdf i f, σ => match getPl σ (.fld i f) with
    | some (.d x) => .ok x σ
    | _ => .stuck
  | .fz p, σ => match getPl σ p with
    | some m => .ok m.toD (setPl σ p (.d m.toD))
    | none => .stuck
  | .fld e f, σ => (evE e σ).bind fun x σ1 => match x with
    | .obj _ fs vs => ofO ((fIx f fs).bind fun k => vs[k]?) σ1
    | _ => .stuck
  | .gl g, σ => ofO (G g) σ
  | .bin op a b, σ => (evE a σ).bind fun x σ1 => (evE b σ1).bind fun y σ2 => ofO (dBin op x y) σ2
  | .neg a, σ => (evE a σ).bind fun x σ1 => ofO (negD x) σ1
  | .cmp op a b, σ => (evE a σ).bind fun x σ1 => (evE b σ1).bind fun y σ2 => ofO ((dCmp op x y).map D.bl) σ2
  | .chn o1 o2 a b c, σ => (evE a σ).bind fun x σ1 => (evE b σ1).bind fun y σ2 => (ofO (dCmp o1 x y) σ2).bind fun k σ3 =>
      if k = true then (evE c σ3).bind fun z σ4 => ofO ((dCmp o2 y z).map D.bl) σ4 else .ok (.bl false) σ3
  | .isN a, σ => (evE a σ).bind fun x σ1 => .ok (.bl (isNone x)) σ1
  | .notN a, σ => (evE a σ).bind fun x σ1 => .ok (.bl (!isNone x)) σ1
  | .and l, σ => evAnd l σ
  | .or l, σ => evOr l σ
  | .not a, σ => (evE a σ).bind fun x σ1 => ofO ((asB x).map fun b => .bl (!b)) σ1
  | .ite c a b, σ => (evE c σ).bind fun x σ1 => (ofO (asB x) σ1).bind fun k σ2 => if k = true then evE a σ2 else evE b σ2
  | .idx a b, σ => (evE a σ).bind fun x σ1 => (evE b σ1).bind fun y σ2 => ofO (dIdx x y) σ2
  | .midx p b, σ => (has p σ).bind fun _ σ1 => (evE b σ1).bind fun y σ2 => ofO ((getPl σ2 p).bind fun m => mIdx m y) σ2
  | .slc a lo hi, σ => (evE a σ).bind fun x σ1 => (evO lo σ1).bind fun l σ2 => (evO hi σ2).bind fun h σ3 => ofO (dSlc x l h) σ3
  | .tup l, σ => (evL l σ).bind fun xs σ1 => .ok (.tup xs) σ1
  | .lst l, σ => (evL l σ).bind fun xs σ1 => .ok (.lst xs) σ1
  | .call f l, σ => (evA l σ).bind fun avs σ1 => callWith T f avs σ1
  | .b1 f a, σ => (evE a σ).bind fun x σ1 => ofO (dB1 f x) σ1
  | .pb1 f p, σ => ofO ((getPl σ p).bind fun m => (peekB m).bind (dB1 f)) σ
  | .b2 f a b, σ => (evE a σ).bind fun x σ1 => (evE b σ1).bind fun y σ2 => ofO (dB2 f x y) σ2
  | .isi a t, σ => (evE a σ).bind fun x σ1 => if x.tyOk then .ok (.bl (x.isTy t)) σ1 else .stuck
  | .isi2 a t u, σ => (evE a σ).bind fun x σ1 => if x.tyOk then .ok (.bl (x.isTy t || x.isTy u)) σ1 else .stuck
  | .comp e tg it c own, σ => (evI it σ).bind fun xs σ1 =>
      (compL (fun x σ2 => match asgT tg x σ2 with
        | some σ3 => (evT c σ3).bind fun k σ4 => if k = true then (evE e σ4).bind fun y σ5 => .ok (some y) (wipeD σ5 own) else .ok none (wipeD σ4 own)
        | none => .stuck) xs (wipeD σ1 own)).bind fun ys σ2 => .ok (.lst ys) (backD σ1 σ2 own)
  | .pop p, σ => (ofO ((getPl σ p).bind mPop) σ).bind fun r σ1 => .ok r.1 (setPl σ1 p r.2)
  | .popi p a, σ => (there p σ).bind fun _ σ0 => (evE a σ0).bind fun y σ1 => (ofO ((getPl σ1 p).bind fun m => mPopi m y) σ1).bind fun r σ2 => .ok r.1 (setPl σ2 p r.2)
  | .bor i a, σ => match (σ[i]?).bind id with
    | some m => borR (evE a (σ.set i (some (.d m.toD)))) σ
    | none => .stuck
  | .tru a, σ => (evE a σ).bind fun x σ1 => ofO ((truD x).map D.bl) σ1
  | .notV a, σ => (evE a σ).bind fun x σ1 => ofO ((truD x).map fun b => .bl (!b)) σ1
  | .chn4 o1 o2 o3 a b c d, σ => (evE a σ).bind fun x σ1 => (evE b σ1).bind fun y σ2 => (ofO (dCmp o1 x y) σ2).bind fun k σ3 =>
      if k = true then (evE c σ3).bind fun z σ4 => (ofO (dCmp o2 y z) σ4).bind fun k2 σ5 => if k2 = true then (evE d σ5).bind fun u σ6 => ofO ((dCmp o3 z u).map D.bl) σ6 else .ok (.bl false) σ5 else .ok (.bl false) σ3
  | .cv1 t a, σ => (evE a σ).bind fun x σ1 => ofO ((dRng1 x).map fun l => if t = true then D.tup l else D.lst l) σ1
  | .cv2 t a b, σ => (evE a σ).bind fun x σ1 => (evE b σ1).bind fun y σ2 => ofO ((dRng2 x y).map fun l => if t = true then D.tup l else D.lst l) σ2
  | .comp2 e t1 i1 t2 i2 own own2, σ => (evI i1 σ).bind fun xs σ1 =>
      (compC (fun x σ2 => match asgT t1 x σ2 with
        | some σ3 => (evI i2 σ3).bind fun ys σ4 => (compL (fun y σ5 => match asgT t2 y σ5 with
          | some σ6 => (evE e σ6).bind fun z σ7 => .ok (some z) (wipeD σ7 own2)
          | none => .stuck) ys (wipeD σ4 own2)).bind fun zs σ8 => .ok zs (wipeD σ8 own)
        | none => .stuck) xs (wipeD σ1 own)).bind fun ys σ2 => if ys.length ≤ 16777216 then .ok (.lst ys) (backD σ1 σ2 own) else .stuck
  | .tupR a b, σ => (evE a σ).bind fun x σ1 => (evE b σ1).bind fun y σ2 => ofO ((dRng2 x y).map D.tup) σ2
  | .ofd a f cs, σ => (evE a σ).bind fun x σ1 => ofO (ofdD f cs x) σ1
  | .meth bad c f o l, σ => (evE o σ).bind fun x σ1 => (ofO (methD bad c x) σ1).bind fun _ σ2 => (evL l σ2).bind fun xs σ3 => methR (T f (.d x :: xs.map M.d)) σ3
  | .mk c f l, σ => (evL l σ).bind fun xs σ1 => mkR (T f (.obj c [] [] :: xs.map M.d)) σ1
  | .dct ks l, σ => (evL l σ).bind fun xs σ1 => if xs.length = ks.length then .ok (.dk ks xs) σ1 else .stuck
  | .dhas neg a b, σ => (evE a σ).bind fun x σ1 => (evE b σ1).bind fun y σ2 => ofO ((dHas x y).map fun k => .bl (k != neg)) σ2
  | .isc a l, σ => (evE a σ).bind fun x σ1 => ofO ((errOf x).map fun e => .bl (l.contains e.c)) σ1
  | .ef a f, σ => (evE a σ).bind fun x σ1 => ofO ((errOf x).bind fun e => efOf e f) σ1
  | _, _ => .stuck
/-- a test (nil: no test) -/
def evT : IE → Env → ER Bool
  | .nil, σ => .ok true σ
  | e, σ => (evE e σ).bind fun x σ1 => ofO (asB x) σ1
/-- a bound of a slice -/
def evO : IE → Env → ER (Option Int)
  | .nil, σ => .ok none σ
  | e, σ => (evE e σ).bind fun x σ1 => ofO ((asI x).map some) σ1
def evL : IE → Env → ER (List D)
  | .nil, σ => .ok [] σ
  | .cons a r, σ => (evE a σ).bind fun x σ1 => (evL r σ1).bind fun xs σ2 => .ok (x :: xs) σ2
  | _, _ => .stuck
def evA : IE → Env → ER (List AV)
  | .nil, σ => .ok [] σ
  | .cons (.marg i) r, σ => (ofO (((σ[i]?).bind id).map fun _ => ()) σ).bind fun _ σ1 => (evA r σ1).bind fun xs σ2 => .ok (.m i :: xs) σ2
  | .cons a r, σ => (evE a σ).bind fun x σ1 => (evA r σ1).bind fun xs σ2 => .ok (.d x :: xs) σ2
  | _, _ => .stuck
def evAnd : IE → Env → ER D
  | .cons a .nil, σ => evE a σ
  | .cons a r, σ => (evE a σ).bind fun x σ1 => (ofO (asB x) σ1).bind fun k σ2 => if k = true then evAnd r σ2 else .ok (.bl false) σ2
  | _, _ => .stuck
def evOr : IE → Env → ER D
  | .cons a .nil, σ => evE a σ
  | .cons a r, σ => (evE a σ).bind fun x σ1 => (ofO (asB x) σ1).bind fun k σ2 => if k = true then .ok (.bl true) σ2 else evOr r σ2
  | _, _ => .stuck
/-- the items that a for or a comprehension walks -/
def evI : IE → Env → ER (List D)
  | .rng1 a, σ => (evE a σ).bind fun x σ1 => ofO (dRng1 x) σ1
  | .rng2 a b, σ => (evE a σ).bind fun x σ1 => (evE b σ1).bind fun y σ2 => ofO (dRng2 x y) σ2
  | .enm a, σ => (evE a σ).bind fun x σ1 => ofO (dEnm x) σ1
  | .zp a b, σ => (evE a σ).bind fun x σ1 => (evE b σ1).bind fun y σ2 => ofO (dZip x y) σ2
  | e, σ => (evE e σ).bind fun x σ1 => ofO (D.items x) σ1
end
end

/-- a fresh list, owned -/
def thaw : D → Option M
  | .lst xs => some (.lst (xs.map M.d))
  | _ => none
/-! ### statements -/
inductive SR where
  | nx (σ : Env) | ret (d : D) (σ : Env) | retM (ds : List D) (σ : Env) | brk (σ : Env) | cont (σ : Env) | exc (e : EX) (σ : Env) | stuck
/-- an expression's end as a statement's -/
def ER.to {α : Type} : ER α → (α → Env → SR) → SR
  | .ok a σ, f => f a σ
  | .exc e σ, _ => .exc e σ
  | .stuck, _ => .stuck
@[simp] theorem ER.to_ok {α : Type} (a : α) (σ : Env) (f : α → Env → SR) : (ER.ok a σ).to f = f a σ := rfl
@[simp] theorem ER.to_exc {α : Type} (e : EX) (σ : Env) (f : α → Env → SR) : (ER.exc e σ : ER α).to f = .exc e σ := rfl
@[simp] theorem ER.to_stuck {α : Type} (f : α → Env → SR) : (ER.stuck : ER α).to f = .stuck := rfl
def SR.andThen : SR → (Env → SR) → SR
  | .nx σ, f => f σ
  | r, _ => r
def forL (t : Tg) (f : Env → SR) : List D → Env → SR
  | [], σ => .nx σ
  | x :: xs, σ => match asgT t x σ with
    | some σ1 => match f σ1 with
      | .nx σ2 => forL t f xs σ2
      | .cont σ2 => forL t f xs σ2
      | .brk σ2 => .nx σ2
      | r => r
    | none => .stuck
/-- a for over the owned list at p, len items long, of which n are left -/
def forP (t : Tg) (p : Nat) (f : Env → SR) (len : Nat) : Nat → Env → SR
  | 0, σ => match (σ[p]?).bind id with
    | some (.lst ms) => if ms.length = len then .nx σ else .stuck
    | _ => .stuck
  | n + 1, σ => match (σ[p]?).bind id with
    | some (.lst ms) => if ms.length = len then (match (ms[len - (n + 1)]?).bind M.leaf with
      | some x => match asgT t x σ with
        | some σ1 => match f σ1 with
          | .nx σ2 => forP t p f len n σ2
          | .cont σ2 => forP t p f len n σ2
          | .brk σ2 => .nx σ2
          | r => r
        | none => .stuck
      | none => .stuck) else .stuck
    | _ => .stuck
/-- the list's length -/
def lenAt (p : Nat) (σ : Env) : Option Nat := match (σ[p]?).bind id with
  | some (.lst ms) => some ms.length
  | _ => none
def whL (c : Env → ER Bool) (f : Env → SR) : Nat → Env → SR
  | 0, _ => .stuck
  | n + 1, σ => (c σ).to fun k σ1 => if k = true then match f σ1 with
      | .nx σ2 => whL c f n σ2
      | .cont σ2 => whL c f n σ2
      | .brk σ2 => .nx σ2
      | r => r
    else .nx σ1
/-- the slots that an except suite sees: data alone, the error at its name -/
def dataO : Option M → Option M
  | some (.d x) => some (.d x)
  | _ => none
def hotEnv (σ : Env) (s : Option Nat) (e : EX) : Env := match s with
  | some i => (σ.map dataO).set i (some (.d (.err e)))
  | none => σ.map dataO
def backE (σ : Env) (s : Option Nat) : Env := match s with
  | some i => σ.set i none
  | none => σ
/-- what an except suite may return -/
def D.flatR : D → Bool
  | .non => true | .bl _ => true | .int _ => true | .str _ => true | _ => false
/-- the end of a try: body's end, what the clause catches, the suite -/
def tryR (r : SR) (l : List Nat) (s : Option Nat) (h : Env → SR) : SR := match r with
  | .exc e σ => if l.contains e.c = true then match h (hotEnv σ s e) with
      | .ret d _ => if d.flatR = true then .ret d (backE σ s) else .stuck
      | _ => .stuck
    else .exc e σ
  | r => r
/-- x += e, of ints -/
def augR (σ : Env) (i : Nat) (r : ER D) : SR := match (σ[i]?).bind id with
  | some (.d (.int u)) => r.to fun y σ1 => (ofO (asI y) σ1).to fun w σ2 => .nx (σ2.set i (some (.d (.int (u + w)))))
  | _ => .stuck
section
variable (T : Tab) (G : Nat → Option D) (wf : Nat)
def evS : IS → Env → SR
  | .skip, σ => .nx σ
  | .seq a b, σ => (evS a σ).andThen (evS b)
  | .asg t e, σ => (evE T G e σ).to fun x σ1 => (ofO (asgT t x σ1) σ1).to fun σ2 _ => .nx σ2
  | .asgM i e, σ => (evE T G e σ).to fun x σ1 => (ofO (thaw x) σ1).to fun m σ2 => .nx (σ2.set i (some m))
  | .sto p i e, σ => (evE T G e σ).to fun y σ1 => (has p σ1).to fun _ σ1 => (evE T G i σ1).to fun k σ2 => (ofO ((getPl σ2 p).bind fun m => mSet m k y) σ2).to fun m σ3 => .nx (setPl σ3 p m)
  | .app p e, σ => (there p σ).to fun _ σ0 => (evE T G e σ0).to fun y σ1 => (ofO ((getPl σ1 p).bind fun m => mApp m y) σ1).to fun m σ2 => .nx (setPl σ2 p m)
  | .ext p e, σ => (there p σ).to fun _ σ0 => (evE T G e σ0).to fun y σ1 => (ofO ((getPl σ1 p).bind fun m => mExt m y) σ1).to fun m σ2 => .nx (setPl σ2 p m)
  | .ex e, σ => (evE T G e σ).to fun _ σ1 => .nx σ1
  | .ite c a b, σ => (evT T G c σ).to fun k σ1 => if k = true then evS a σ1 else evS b σ1
  | .wh c b, σ => whL (evT T G c) (evS b) wf σ
  | .for t it b, σ => (evI T G it σ).to fun xs σ1 => forL t (evS b) xs σ1
  | .asgC i f l, σ => (evA T G l σ).to fun avs σ1 => (callN T f avs σ1).to fun ds σ2 => .nx (σ2.set i (some (.lst (ds.map M.d))))
  | .forO t p b, σ => (ofO (lenAt p σ) σ).to fun n σ1 => forP t p (evS b) n n σ1
  | .retO i, σ => (ofO (((σ[i]?).bind id).bind fun m => (peek m).bind asL) σ).to fun ds σ1 => .retM ds (σ1.set i none)
  | .retC f l, σ => (evA T G l σ).to fun avs σ1 => (callN T f avs σ1).to fun ds σ2 => .retM ds σ2
  | .ret e, σ => (evE T G e σ).to fun x σ1 => .ret x σ1
  | .retM e, σ => (evE T G e σ).to fun x σ1 => (ofO (asL x) σ1).to fun ds σ2 => .retM ds σ2
  | .retN, σ => .ret .non σ
  | .brk, σ => .brk σ
  | .cont, σ => .cont σ
  | .rse c, σ => .exc ⟨c, none⟩ σ
  | .rsi c f e, σ => (evE T G e σ).to fun x σ1 => (ofO (asI x) σ1).to fun i σ2 => .exc ⟨c, some (f, i)⟩ σ2
  | .aug i e, σ => augR σ i (evE T G e σ)
  | .asgN i t, σ => if t = true then .stuck else .nx (σ.set i (some (.dk [] [])))
  | .par i j a b, σ => (evE T G a σ).to fun x σ1 => (evE T G b σ1).to fun y σ2 => .nx ((σ2.set i (some (.d x))).set j (some (.d y)))
  | .tryE b l s h, σ => tryR (evS b σ) l s (evS h)
  | .stk, _ => .stuck
  | .setf i f cs e, σ => (evE T G e σ).to fun y σ1 => (ofO (setfM f cs y ((σ1[i]?).bind id)) σ1).to fun m σ2 => .nx (σ2.set i (some m))
end

/-- a def: parameters, slots, the parameters that it changes, its body -/
structure FI where
  np : Nat
  ns : Nat
  pin : List Nat
  body : IS
def outs (pin : List Nat) (np : Nat) (σ : Env) : Env := (List.range np).map fun k => if pin.contains k then (σ[k]?).bind id else none
def fnRes (fi : FI) : SR → CR
  | .ret d σ => .ret d (outs fi.pin fi.np σ)
  | .retM ds σ => .retM ds (outs fi.pin fi.np σ)
  | .nx σ => .ret .non (outs fi.pin fi.np σ)
  | .exc e _ => .exc e
  | _ => .stuck
def callF (P : List FI) (G : Nat → Option D) (wf : Nat) : Nat → Tab
  | 0, _, _ => .stuck
  | n + 1, f, ms => match P[f]? with
    | some fi => if ms.length = fi.np then fnRes fi (evS (callF P G wf n) G wf fi.body (ms.map some ++ List.replicate (fi.ns - fi.np) none)) else .stuck
    | none => .stuck
end JH

/-! JF1: enumerate over a tuple. -/
namespace JH
open PySem PySem.Spec PyProof.Rows L2
open PySem.Sem (wp)
open PySem.AutoSeq1 (wpAny_loadPart')
set_option maxHeartbeats 1000000 in
theorem enum_newT (l : Addr) (items : Array Value) (n : Nat) (dct : Option Addr) (sl : Array (Option Value)) :
    Meets (Builtin.«enumerate.__new__» ⟨[.type "enumerate", .ref l], []⟩) (fun _ R s => s.heap.get? l = some { cls := .type "tuple", dict := dct, data := .seq items n, slots := sl } ∧
      R (.ok (.ret (.ref (s.heap.push { cls := .type "tuple_iterator", data := .fields #[.ref l, .int 0 0] }).objs.size)))
        { s with heap := (s.heap.push { cls := .type "tuple_iterator", data := .fields #[.ref l, .int 0 0] }).push { cls := .type "enumerate", data := .fields #[.none, .bool false, .ref s.heap.objs.size, rawInt 0, .none, .none] } }) :=
  .of_wp fun prog w A R s h => by
    obtain ⟨hp, g, d, tk, os⟩ := s; obtain ⟨hl, h⟩ := h
    have hsub := sub_enumerate
    have hL : Heap.IsTuple (Shared.heap ⟨hp, g, d, tk, os⟩) l items := ⟨_, hl, rfl, n, rfl⟩
    wp_walk using wpAny_loadPart' hl
    refine wpAny_stack_any fun st => wpAny_pure ?_
    split
    · rename_i c _ _ _ _ _
      cases (c == Value.type "enumerate")
      · wp_walk using wpAny_loadPart' hl, wpAny_pyIter_tuple hL
        exact ⟨_, rfl, h⟩
      · wp_walk using wpAny_loadPart' hl, wpAny_pyIter_tuple hL
        exact ⟨_, rfl, h⟩
    · wp_walk using wpAny_loadPart' hl, wpAny_pyIter_tuple hL
      exact ⟨_, rfl, h⟩
theorem call_enumT {prog : Program} {w : World} {A : Around} {E : Value → Shared → Prop} {s : Shared} {l : Addr} {items : Array Value} {Q : Value → Shared → Prop} (hL : s.heap.IsTuple l items)
    (h : ∀ h', IsEnum h' (s.heap.objs.size + 1) s.heap.objs.size 0 .none → h'.IsTupleIter s.heap.objs.size l 0 → h'.objs.size = s.heap.objs.size + 2 →
      (∀ b o, s.heap.get? b = some o → h'.get? b = some o) → Q (.ref (s.heap.objs.size + 1)) { s with heap := h' }) :
    wpAny (model prog w) A (PySem.call (.type "enumerate") [.ref l]) Q E s := by
  obtain ⟨⟨c, dct, dt, sl⟩, hl, hc, n, hd⟩ := hL
  replace hc : c = .type "tuple" := hc
  replace hd : dt = .seq items n := hd
  subst hc hd
  refine callType_new F.called_enumerate (by decide) (F.typeCall_enumerate_1 _) (F.newCall_enumerate_1 _) (fun obj => F.args_object_init_2 obj _) F.entry_enumerate_new
    (enum_newT l items n dct sl) ⟨hl, ?_⟩
  have hz : (s.heap.push { cls := .type "tuple_iterator", data := .fields #[.ref l, .int 0 0] }).objs.size = s.heap.objs.size + 1 := Heap.size_push ..
  show _ ∧ _
  rw [hz]
  have he : IsEnum ((s.heap.push { cls := .type "tuple_iterator", data := .fields #[.ref l, .int 0 0] }).push
      { cls := .type "enumerate", data := .fields #[.none, .bool false, .ref s.heap.objs.size, rawInt 0, .none, .none] }) (s.heap.objs.size + 1) s.heap.objs.size 0 .none := by
    have := Heap.get?_push_size (s.heap.push { cls := .type "tuple_iterator", data := .fields #[.ref l, .int 0 0] })
      (o := { cls := .type "enumerate", data := .fields #[.none, .bool false, .ref s.heap.objs.size, rawInt 0, .none, .none] }) rfl
    rw [hz] at this; exact this
  refine ⟨⟨_, he, rfl⟩, h _ he ⟨_, Heap.get?_push_of_some _ (Heap.get?_push_size _ rfl), rfl, rfl⟩ (by rw [Heap.size_push, hz]) fun b o x => Heap.get?_push_of_some _ (Heap.get?_push_of_some _ x)⟩
theorem draws_tup {prog : Program} {w : World} {A : Around} (hh : A.handled = none) (it l : Addr) (hne : l ≠ it) (items : Array Value) :
    Draws prog w A it [it, l] items.size (fun i v => items[i]? = some v) (fun i h => h.IsTupleIter it l i ∧ h.IsTuple l items) where
  live := fun _ _ st => let ⟨o, ho, _⟩ := st.1; ⟨o, ho⟩
  frame := fun _ _ _ st hk => ⟨st.1.at fun o e => hk it (by simp) o e, st.2.at fun o e => hk l (by simp) o e⟩
  item := fun i s Q E hi st hQ => by
    refine RZ.nextOf_tuple_item st.1 st.2 (x := items[i]) (by simp [hi]) fun h' hit' hs' => ?_
    exact hQ _ h' s.toks (by simp [hi]) ⟨hit', st.2.extBut hs'.extBut hne⟩ hs'
  done := fun s Q E st hE => RZ.nextOf_tuple_end hh st.1 st.2 (by simp) hE
/-- the tuple at a, each item in a new pair -/
def IteT (K : PySem.W.Frag) (a : Addr) : It :=
  ⟨fun i H => ∃ (xs : List V) (x : V), SqT K H a xs ∧ xs[i]? = some x, fun i H v H' => ∃ T x, v = .ref T ∧ H T = none ∧ H' = upd H T (.tup [.int (i : Nat), x]) ∧ ∀ xs, SqT K H a xs → xs[i]? = some x, fun i H => ∃ xs : List V, SqT K H a xs ∧ xs.length ≤ i⟩
theorem turn_enumT {P : Program} {w : World} {K : PySem.W.Frag} {elts : List Expr} {kk : Nat} {tpos : Pos} (a e it : Addr) (hai : a ≠ it) (hae : a ≠ e) :
    Turn P w K (.Tuple elts kk tpos) (IteT K a) [e, it] e (fun i h => (∃ old, IsEnum h e it ((i : Nat) : Int) old) ∧ h.IsTupleIter it a i ∧ e ≠ it) where
  mem := by simp
  obj := fun i h st b hb => by
    obtain ⟨⟨old, he⟩, ⟨o, ho, hc, hd⟩, _⟩ := st
    have e' : b = e ∨ b = it := by simpa using hb
    rcases e' with z | z
    · rw [z]; exact ⟨_, he, fun v q => nomatch q⟩
    · rw [z]; exact ⟨o, ho, fun v q => by rw [hd] at q; cases q⟩
  keep := fun i h h' st k => let ⟨⟨old, he⟩, hi, hne⟩ := st; ⟨⟨old, k e (by simp) _ he⟩, hi.at fun o q => k it (by simp) o q, hne⟩
  item := by
    intro X hP hw hK hc i pins s σ H E I hf st hg
    subst hP hw hK
    obtain ⟨⟨old, he⟩, hit, hne⟩ := st
    obtain ⟨xs, x, hq, hx⟩ := hg
    obtain ⟨its, rv, p, hz⟩ := I.tuple hq
    have p : s.heap.IsTuple a its.toArray := p
    obtain ⟨u, hu, ru⟩ := rv.get hx
    have hel : e < s.heap.objs.size := Heap.lt_size he
    have hil : it < s.heap.objs.size := by obtain ⟨_, q, _⟩ := hit; exact Heap.lt_size q
    have hlt : i < its.toArray.size := by
      have := (List.getElem?_eq_some_iff.mp hu).1
      simpa using this
    refine wpAny_pyNext_enum_itemD (draws_tup (A := X.A.in1) (show X.A.in1.handled = none from I.ok.hd hc) it a hai its.toArray) he (show _ ∧ _ from ⟨hit, p⟩) hlt hne (fun z => by rcases List.mem_cons.mp z with z | z; exact hne z; exact hae (List.mem_singleton.mp z).symm) fun y h' tk hy ho hst' hT hsz hk => ?_
    have ey : y = u := by
      have hy : its.toArray[i]? = some y := hy
      rw [show its.toArray[i]? = its[i]? by simp, hu] at hy
      exact (Option.some.inj hy).symm
    rw [ey] at hT
    refine ⟨_, rfl, wpAny_letOwnedTupleGo_enum (s := { s with heap := h', toks := tk + 1 }) ho fun h'' he' sb => ?_⟩
    have hT2 : h''.get? s.heap.objs.size = some { cls := .type "tuple", data := .seq #[.int i tk, u] } := (sb.2 _ (Nat.ne_of_gt hel)).trans hT
    have new : ObjOk X.prog X.w (upd H s.heap.objs.size (.tup [.int (i : Nat), x])) h'' s.heap.objs.size (.tup [.int (i : Nat), x]) :=
      ⟨by show 2 ≤ sizeLine; decide, [.int i tk, u], .cons ⟨_, rfl⟩ (.cons ru .nil), ⟨_, hT2, rfl, _, rfl⟩⟩
    have I1 : Inv X pins σ (upd H s.heap.objs.size (.tup [.int (i : Nat), x])) { s with heap := h'', toks := tk + 1 } :=
      I.turnedNew (ch := [e, it]) (fun b ob hb q => (sb.2 b (fun z => hb (by simp [z]))).trans (hk b ob (fun z => hb (by simp [z])) (fun z => hb (by simp [z])) q)) hf (Nat.le_refl _) new
    refine ⟨.ref s.heap.objs.size, _, I1, rfl, ⟨_, x, rfl, I.hok.fresh (Nat.le_refl _), rfl, fun ys hy => by rw [I.tuple_inj hy hq]; exact hx⟩, ⟨⟨y, ?_⟩, hst'.1.at fun o q => (sb.2 it (Ne.symm hne)).trans q, hne⟩, fun b hb => ?_⟩
    · have e1 : ((i + 1 : Nat) : Int) = (i : Int) + 1 := by omega
      rw [e1]; exact he'
    · have hb' : b < s.heap.objs.size := by
        have e' : b = e ∨ b = it := by simpa using hb
        rcases e' with z | z
        · rw [z]; exact hel
        · rw [z]; exact hil
      rw [upd_ne (Nat.ne_of_lt hb')]
      exact (hf b hb).1
  done := by
    intro X hP hw hK hc i pins s σ H E I hf st hg
    subst hP hw hK
    obtain ⟨⟨old, he⟩, hit, hne⟩ := st
    obtain ⟨xs, hq, hx⟩ := hg
    obtain ⟨its, rv, p, hz⟩ := I.tuple hq
    have p : s.heap.IsTuple a its.toArray := p
    obtain ⟨f0, f1, f2, f3, f4, f5⟩ := hf it (by simp)
    have hl := rv.length
    have hT : s.TypeIs (.ref e) "enumerate" := ⟨_, he, rfl⟩
    unfold pyNext
    refine wpAny_bind (wpAny_attempt (wpAny_callSpecial?_slot (name := Str.ofString "__next__") hT F.slot_enumerate_next
      (wpAny_call_entry F.slot_enumerate_next hT F.entry_enumerate_next ?_ (F.args_enumerate_next_1 _))))
    show wpAny _ _ (field (.ref e) 2 >>= _) _ _ _
    refine wpAny_bind (wpAny_field he rfl (x := .ref it) rfl ?_)
    refine wpAny_bind (RZ.nextOf_tuple_end (I.ok.hd hc) hit p (by simp; omega) fun h' x eb hx' => ?_)
    obtain ⟨o, ho, hc'⟩ := hx'
    refine wpAny_bind (wpAny_isInstance (T := "StopIteration") (b := true) ⟨o, ho, hc'⟩ isSubtype_stop ?_)
    exact wpAny_pure ⟨rfl, I.turned (t' := s.toks) (fun b o hb q => eb b o hb q) f0 f1 f3 f4 f5⟩
  self := fun A i s Q E st h => let ⟨⟨_, he⟩, _⟩ := st; wpAny_pyIter_enum he h
def iEnumT (K : PySem.W.Frag) (ta : TA) : TI := fun σ H R => ta σ H fun vs H1 => ∃ a xs, vs = [.ref a] ∧ ((SqL K H1 a xs ∧ R (Ite K a) H1) ∨ (SqT K H1 a xs ∧ R (IteT K a) H1))
theorem pi_enum2 {X : Cx} {e : Expr} {ta : TA} {p pos tpos : Pos} {elts : List Expr} {kk : Nat} (hg : Gl X "enumerate") (hm : X.mg "enumerate" = none) (ha : PA X [e] ta) (hs : starEach [e] X.env = [(false, eval e X.env)] := by rfl) :
    PI X (.Tuple elts kk tpos) (.Call (.Name "enumerate" p) [e] [] pos) (iEnumT X.K ta) := by
  refine ⟨fun pins s σ H R I h => ?_⟩
  refine Call_ (ld_blt I hg hm boot_enumerate (PyProof.Rows.callWith_type1 (thn (ha.run pos pins s σ H _ I h) fun us s1 ⟨vs, H1, I1, r1, q1⟩ => ?_) hs rfl))
  obtain ⟨a, xs, ex, q⟩ := q1
  subst ex
  cases r1 with
  | cons r rr =>
    cases rr
    cases r
    have fin : ∀ b, b ∈ [s1.heap.objs.size + 1, s1.heap.objs.size] → s1.heap.objs.size ≤ b := fun b hb => by
      have e' : b = s1.heap.objs.size + 1 ∨ b = s1.heap.objs.size := by simpa using hb
      rcases e' with z | z
      · rw [z]; exact Nat.le_add_right _ _
      · rw [z]; exact Nat.le_refl _
    rcases q with ⟨hq, q⟩ | ⟨hq, q⟩
    · obtain ⟨its, rv, p', hz⟩ := I1.list hq
      refine call_enumerate_list p'.isList fun h' he hit hsz hk => wpAny_pyIter_enum he ?_
      have I2 : Inv X pins σ H1 { s1 with heap := h' } := I1.kept (t' := s1.toks) hk
      exact ⟨s1.heap.objs.size + 1, [s1.heap.objs.size + 1, s1.heap.objs.size], _, _, H1, rfl, I2, turn_enum a (s1.heap.objs.size + 1) s1.heap.objs.size, ⟨⟨.none, he⟩, hit, Nat.succ_ne_self _⟩, fun b hb => I1.fpOk (fin b hb) (I1.hok.fresh (fin b hb)), q⟩
    · obtain ⟨its, rv, p', hz⟩ := I1.tuple hq
      have p' : s1.heap.IsTuple a its.toArray := p'
      have hal : a < s1.heap.objs.size := by obtain ⟨_, q', _⟩ := p'; exact Heap.lt_size q'
      refine call_enumT p' fun h' he hit hsz hk => wpAny_pyIter_enum he ?_
      have I2 : Inv X pins σ H1 { s1 with heap := h' } := I1.kept (t' := s1.toks) hk
      exact ⟨s1.heap.objs.size + 1, [s1.heap.objs.size + 1, s1.heap.objs.size], _, _, H1, rfl, I2, turn_enumT a (s1.heap.objs.size + 1) s1.heap.objs.size (Nat.ne_of_lt hal) (Nat.ne_of_lt (Nat.lt_succ_of_lt hal)), ⟨⟨.none, he⟩, hit, Nat.succ_ne_self _⟩, fun b hb => I1.fpOk (fin b hb) (I1.hok.fresh (fin b hb)), q⟩
/-! ### max and min of a tuple -/
section
variable {prog : Program} {w : World} {A : Around} {E : Value → Shared → Prop} {s : Shared} {l : Addr} {xs : Array (Int × Tok)}
theorem iter_intTup {Q : Value → Shared → Prop} (hl : s.heap.IsTuple l (intItems xs))
    (h : ∀ s₂ : Shared, s₂ = { s with heap := s.heap.push { cls := .type "tuple_iterator", data := .fields #[.ref l, .int 0 0] } } →
      (s₂.heap.IsTupleIter s.heap.objs.size l 0 ∧ s₂.heap.IsTuple l (intItems xs)) → (∀ b ∈ [s.heap.objs.size, l], b < s₂.heap.objs.size) → l ≠ s.heap.objs.size → Q (.ref s.heap.objs.size) s₂) :
    wpAny (model prog w) A (pyIter (.ref l)) Q E s := by
  have hlt : l < s.heap.objs.size := by obtain ⟨_, e, _⟩ := hl; exact Heap.lt_size e
  refine wpAny_pyIter_tuple hl (h _ rfl ⟨⟨_, Heap.get?_push_size _ rfl, rfl, rfl⟩, hl.push _⟩ (fun b hb => ?_) (Nat.ne_of_lt hlt))
  show b < (s.heap.push _).objs.size
  rw [Heap.size_push]
  rcases List.mem_cons.mp hb with rfl | hb
  · exact Nat.lt_succ_self _
  · rcases List.mem_cons.mp hb with rfl | hb
    · exact Nat.lt_succ_of_lt hlt
    · cases hb
theorem old_keptT {h' : Heap} (hk : ∀ b o, b ∉ [s.heap.objs.size] → (s.heap.push { cls := .type "tuple_iterator", data := .fields #[.ref l, .int 0 0] }).get? b = some o → h'.get? b = some o) :
    ∀ b o, s.heap.get? b = some o → h'.get? b = some o := fun b o e => by
  refine hk b o (fun hm => ?_) (Heap.get?_push_of_some _ e)
  rcases List.mem_cons.mp hm with e1 | hm
  · exact absurd (e1 ▸ Heap.lt_size e) (Nat.lt_irrefl _)
  · cases hm
theorem max_intTup {Q : Value → Shared → Prop} (hh : A.handled = none) (hl : s.heap.IsTuple l (intItems xs)) (hne : 0 < xs.size)
    (h : ∀ v h' tk, (intItems xs)[argBest (fun i j => decide (numAt xs i > numAt xs j)) (xs.size - 1)]? = some v → (∀ b o, s.heap.get? b = some o → h'.get? b = some o) → Q v { s with heap := h', toks := tk }) :
    wpAny (model prog w) A (PySem.call (.builtin "max") [.ref l]) Q E s := by
  refine call_max_walk (iter_intTup hl fun s₂ e st hfp hlI => ?_)
  subst e
  refine ⟨_, _, _, _, _, _, _, rfl, Walks.tuple (A := A.in1) hh _ l hlI (intItems xs), st, hfp, by simpa [intItems] using hne, CmpOf.ints_gt (numAt xs) (fun _ _ => intItems_at), fun v h' tk hP hk => ?_⟩
  exact h v h' tk (by simpa [intItems] using hP) (old_keptT hk)
theorem min_intTup {Q : Value → Shared → Prop} (hh : A.handled = none) (hl : s.heap.IsTuple l (intItems xs)) (hne : 0 < xs.size)
    (h : ∀ v h' tk, (intItems xs)[argBest (fun i j => decide (numAt xs i < numAt xs j)) (xs.size - 1)]? = some v → (∀ b o, s.heap.get? b = some o → h'.get? b = some o) → Q v { s with heap := h', toks := tk }) :
    wpAny (model prog w) A (PySem.call (.builtin "min") [.ref l]) Q E s := by
  refine call_min_walk (iter_intTup hl fun s₂ e st hfp hlI => ?_)
  subst e
  refine ⟨_, _, _, _, _, _, _, rfl, Walks.tuple (A := A.in1) hh _ l hlI (intItems xs), st, hfp, by simpa [intItems] using hne, CmpOf.ints_lt (numAt xs) (fun _ _ => intItems_at), fun v h' tk hP hk => ?_⟩
  exact h v h' tk (by simpa [intItems] using hP) (old_keptT hk)
theorem max_rawT {its : List Value} {ns : List Int} {Q : Value → Shared → Prop} (hh : A.handled = none) (hl : s.heap.IsTuple l its.toArray) (hi : IntsAre its ns) (hne : 0 < ns.length)
    (h : ∀ h' tk M t', (∀ b o, s.heap.get? b = some o → h'.get? b = some o) → M ∈ ns → (∀ a, a ∈ ns → a ≤ M) → Q (.int M t') { s with heap := h', toks := tk }) : wpAny (model prog w) A (PySem.call (.builtin "max") [.ref l]) Q E s := by
  obtain ⟨xs, e⟩ := hi.allInts.items
  have hn : numsOf (intItems xs).toList = ns := by rw [← e]; exact hi.numsOf
  rw [nums_intItems] at hn
  subst hn
  rw [e] at hl
  have hsz : 0 < xs.size := by simpa using hne
  refine max_intTup hh hl hsz fun v h' tk hv hk => ?_
  obtain ⟨t, rfl⟩ := intItems_at hv
  obtain ⟨h1, h2⟩ := argBest_gt (numAt xs) (xs.size - 1)
  refine h h' tk _ t hk ?_ fun a ha => ?_
  · rw [numAt_eq]; exact PySem.getD_mem (by rw [List.length_map, Array.length_toList]; omega)
  · obtain ⟨j, hj, rfl⟩ := mem_getD ha
    rw [List.length_map, Array.length_toList] at hj
    rw [← numAt_eq]; exact h2 j (by omega)
theorem min_rawT {its : List Value} {ns : List Int} {Q : Value → Shared → Prop} (hh : A.handled = none) (hl : s.heap.IsTuple l its.toArray) (hi : IntsAre its ns) (hne : 0 < ns.length)
    (h : ∀ h' tk M t', (∀ b o, s.heap.get? b = some o → h'.get? b = some o) → M ∈ ns → (∀ a, a ∈ ns → M ≤ a) → Q (.int M t') { s with heap := h', toks := tk }) : wpAny (model prog w) A (PySem.call (.builtin "min") [.ref l]) Q E s := by
  obtain ⟨xs, e⟩ := hi.allInts.items
  have hn : numsOf (intItems xs).toList = ns := by rw [← e]; exact hi.numsOf
  rw [nums_intItems] at hn
  subst hn
  rw [e] at hl
  have hsz : 0 < xs.size := by simpa using hne
  refine min_intTup hh hl hsz fun v h' tk hv hk => ?_
  obtain ⟨t, rfl⟩ := intItems_at hv
  obtain ⟨h1, h2⟩ := argBest_lt (numAt xs) (xs.size - 1)
  refine h h' tk _ t hk ?_ fun a ha => ?_
  · rw [numAt_eq]; exact PySem.getD_mem (by rw [List.length_map, Array.length_toList]; omega)
  · obtain ⟨j, hj, rfl⟩ := mem_getD ha
    rw [List.length_map, Array.length_toList] at hj
    rw [← numAt_eq]; exact h2 j (by omega)
end
/-- max(xs), min(xs) of a tuple of ints -/
def rMaxT (K : PySem.W.Frag) : List V → Hp → VK → Prop := fun vs H Q => ∃ (a : Addr) (ns : List Int), vs = [V.ref a] ∧ SqT K H a (ns.map V.int) ∧ 0 < ns.length ∧ ∀ m, m ∈ ns → (∀ y, y ∈ ns → y ≤ m) → Q (.int m) H
def rMinT (K : PySem.W.Frag) : List V → Hp → VK → Prop := fun vs H Q => ∃ (a : Addr) (ns : List Int), vs = [V.ref a] ∧ SqT K H a (ns.map V.int) ∧ 0 < ns.length ∧ ∀ m, m ∈ ns → (∀ y, y ∈ ns → m ≤ y) → Q (.int m) H
theorem cr_maxT {X : Cx} (hc : X.calm = true) : CallR X (.builtin "max") (rMaxT X.K) := by
  intro pins s σ H vs us Q I r h
  obtain ⟨a, ns, rfl, hs, hne, q⟩ := h
  obtain ⟨its, rv, hl, _⟩ := I.tuple hs
  rw [Vals.ref1 r]
  exact max_rawT (I.ok.hd hc) hl rv.ints hne fun h' tk m t' hk h1 h2 => ⟨.int _, H, I.kept hk, ⟨_, rfl⟩, q m h1 h2⟩
theorem cr_minT {X : Cx} (hc : X.calm = true) : CallR X (.builtin "min") (rMinT X.K) := by
  intro pins s σ H vs us Q I r h
  obtain ⟨a, ns, rfl, hs, hne, q⟩ := h
  obtain ⟨its, rv, hl, _⟩ := I.tuple hs
  rw [Vals.ref1 r]
  exact min_rawT (I.ok.hd hc) hl rv.ints hne fun h' tk m t' hk h1 h2 => ⟨.int _, H, I.kept hk, ⟨_, rfl⟩, q m h1 h2⟩
end JH

/-! JB1: what stands for what: data and owned trees in the abstract heap; the state's relation; growth. -/
namespace JH
open PySem PySem.Spec PyProof.Rows L2

/-- the fixed tables: the written part, the fields' names, the classes' places -/
structure SG where
  K : PySem.W.Frag
  fnm : Nat → Str
  cad : Nat → Addr
  nec : Nat := 0
  hp : Option (Addr × Value × Option Addr) := none

def toKey : Sum Int (List Nat) → Key
  | .inl i => .inl i
  | .inr s => .inr ⟨s.toArray⟩

def LeH (F H : Hp) : Prop := ∀ a o, F a = some o → H a = some o
theorem LeH.refl (F : Hp) : LeH F F := fun _ _ h => h
theorem LeH.trans {F G H : Hp} (a : LeH F G) (b : LeH G H) : LeH F H := fun x o h => b x o (a x o h)

theorem Rd.mono {F F' : Hp} {a : Addr} {u : HO} (h : Rd F a u) (l : LeH F F') : Rd F' a u := by
  rcases h with h | ⟨o, h⟩
  · exact .inl (l _ _ h)
  · exact .inr ⟨o, l _ _ h⟩
theorem SqT.mono {K : PySem.W.Frag} {F F' : Hp} {a : Addr} {xs : List V} (h : SqT K F a xs) (l : LeH F F') : SqT K F' a xs := by
  rcases h with h | h
  · exact .inl (Rd.mono h l)
  · exact .inr h
theorem SqL.mono {K : PySem.W.Frag} {F F' : Hp} {a : Addr} {xs : List V} (h : SqL K F a xs) (l : LeH F F') : SqL K F' a xs := by
  rcases h with h | h
  · exact .inl (Rd.mono h l)
  · exact .inr h

/-- an exception, by its class and its own dict -/
def RX (g : SG) (F : Hp) (e : EX) (cls : Value) (dd : Option Addr) : Prop :=
  e.c < g.nec ∧ cls = .ref (g.cad e.c) ∧ match dd, e.x with
    | none, none => True
    | some d, some (f, i) => F d = some (.xd [(g.fnm f, .int i)])
    | _, _ => False
theorem RX.mono {g : SG} {F F' : Hp} {e : EX} {cls : Value} {dd : Option Addr} (h : RX g F e cls dd) (l : LeH F F') : RX g F' e cls dd := by
  obtain ⟨h0, h1, h2⟩ := h
  refine ⟨h0, h1, ?_⟩
  cases dd <;> cases he : e.x <;> simp only [he] at h2 ⊢
  exact l _ _ h2
section
variable (g : SG) (F : Hp)
mutual
inductive RD : D → V → Prop
  | non : RD .non .non
  | bl (b : Bool) : RD (.bl b) (.bl b)
  | int (i : Int) : RD (.int i) (.int i)
  | str (s : List Nat) : RD (.str s) (.str ⟨s.toArray⟩)
  | tup {a : Addr} {vs : List V} {ds : List D} : SqT g.K F a vs → vs.length ≤ sizeLine → RDs ds vs → RD (.tup ds) (.ref a)
  | lst {a : Addr} {vs : List V} {ds : List D} : F a = some (.lst vs) → vs.length ≤ sizeLine → RDs ds vs → RD (.lst ds) (.ref a)
  | dk {a : Addr} {kvs : List (Key × V)} {ks : List (Sum Int (List Nat))} {ds : List D} : F a = some (.dK kvs) → kvs.map (·.1) = ks.map toKey → RDs ds (kvs.map (·.2)) → RD (.dk ks ds) (.ref a)
  | obj {a dx : Addr} {c : Nat} {fs : List Nat} {fvs : List (Str × V)} {ds : List D} : F a = some (.ins (g.cad c) dx fvs) → fvs.map (·.1) = fs.map g.fnm → RDs ds (fvs.map (·.2)) → RD (.obj c fs ds) (.ref a)
  | scr {a : Addr} {ns : List Int} : SqL g.K F a (ns.map V.int) → ns.length ≤ sizeLine → RD (.scr ns) (.ref a)
  | err {a : Addr} {cls : Value} {dd : Option Addr} {e : EX} : g.hp = some (a, cls, dd) → RX g F e cls dd → RD (.err e) (.ref a)
inductive RDs : List D → List V → Prop
  | nil : RDs [] []
  | cons {x : D} {v : V} {xs : List D} {vs : List V} : RD x v → RDs xs vs → RDs (x :: xs) (v :: vs)
end
end
section
variable {g : SG} {F F' : Hp}
mutual
theorem RD.mono (l : LeH F F') : ∀ {d : D} {v : V}, RD g F d v → RD g F' d v
  | _, _, .non => .non
  | _, _, .bl b => .bl b
  | _, _, .int i => .int i
  | _, _, .str s => .str s
  | _, _, .tup h z r => .tup (SqT.mono h l) z (RDs.mono l r)
  | _, _, .lst h z r => .lst (l _ _ h) z (RDs.mono l r)
  | _, _, .dk h z r => .dk (l _ _ h) z (RDs.mono l r)
  | _, _, .obj h z r => .obj (l _ _ h) z (RDs.mono l r)
  | _, _, .scr h z => .scr (SqL.mono h l) z
  | _, _, .err h x => .err h (x.mono l)
theorem RDs.mono (l : LeH F F') : ∀ {ds : List D} {vs : List V}, RDs g F ds vs → RDs g F' ds vs
  | _, _, .nil => .nil
  | _, _, .cons h r => .cons (RD.mono l h) (RDs.mono l r)
end
theorem RDs.length : ∀ {ds : List D} {vs : List V}, RDs g F ds vs → ds.length = vs.length
  | _, _, .nil => rfl
  | _, _, .cons _ r => by simp [RDs.length r]
theorem RDs.get : ∀ {ds : List D} {vs : List V} {i : Nat} {x : D}, RDs g F ds vs → ds[i]? = some x → ∃ v, vs[i]? = some v ∧ RD g F x v
  | _, _, _, _, .nil, e => by simp at e
  | _, _, 0, _, .cons r _, e => by
    simp at e
    subst e
    exact ⟨_, rfl, r⟩
  | _, _, i + 1, x, .cons _ t, e => by
    obtain ⟨v, h1, h2⟩ := RDs.get (i := i) (x := x) t (by simpa using e)
    exact ⟨v, by simpa using h1, h2⟩
theorem RDs.append : ∀ {ds es : List D} {vs ws : List V}, RDs g F ds vs → RDs g F es ws → RDs g F (ds ++ es) (vs ++ ws)
  | _, _, _, _, .nil, s => s
  | _, _, _, _, .cons r t, s => .cons r (RDs.append t s)
theorem RDs.take : ∀ {ds : List D} {vs : List V} (n : Nat), RDs g F ds vs → RDs g F (ds.take n) (vs.take n)
  | _, _, 0, _ => .nil
  | _, _, _ + 1, .nil => .nil
  | _, _, n + 1, .cons r t => .cons r (RDs.take n t)
theorem RDs.drop : ∀ {ds : List D} {vs : List V} (n : Nat), RDs g F ds vs → RDs g F (ds.drop n) (vs.drop n)
  | _, _, 0, r => r
  | _, _, _ + 1, .nil => .nil
  | _, _, n + 1, .cons _ t => RDs.drop n t
theorem RDs.rep {ds : List D} {vs : List V} (r : RDs g F ds vs) : ∀ n : Nat, RDs g F (List.replicate n ds).flatten (List.replicate n vs).flatten
  | 0 => .nil
  | n + 1 => by
    rw [List.replicate_succ, List.replicate_succ, List.flatten_cons, List.flatten_cons]
    exact r.append (RDs.rep r n)
theorem RDs.ints : ∀ {ds : List D} {vs : List V} {ns : List Int}, RDs g F ds vs → D.ints ds = some ns → vs = ns.map V.int
  | _, _, ns, .nil, e => by
    cases e
    rfl
  | _, _, ns, @RDs.cons _ _ x v xs vs h r, e => by
    cases h with
    | int i =>
      simp only [D.ints, Option.map_eq_some_iff] at e
      obtain ⟨a, e1, e2⟩ := e
      subst e2
      rw [RDs.ints r e1]
      rfl
    | _ => simp [D.ints] at e
theorem RDs.bls : ∀ {ds : List D} {vs : List V} {ns : List Bool}, RDs g F ds vs → D.bls ds = some ns → vs = ns.map V.bl
  | _, _, ns, .nil, e => by
    cases e
    rfl
  | _, _, ns, @RDs.cons _ _ x v xs vs h r, e => by
    cases h with
    | bl i =>
      simp only [D.bls, Option.map_eq_some_iff] at e
      obtain ⟨a, e1, e2⟩ := e
      subst e2
      rw [RDs.bls r e1]
      rfl
    | _ => simp [D.bls] at e
theorem RDs.ofInts : ∀ (ns : List Int), RDs g F (ns.map D.int) (ns.map V.int)
  | [] => .nil
  | n :: r => .cons (.int n) (RDs.ofInts r)
end

section
variable (g : SG) (H F : Hp)
mutual
inductive RM : M → V → (Addr → Prop) → Prop
  | d {x : D} {v : V} {S : Addr → Prop} : RD g F x v → RM (.d x) v S
  | lst {a : Addr} {vs : List V} {ms : List M} {S : Addr → Prop} : S a → H a = some (.lst vs) → vs.length ≤ sizeLine → RMs ms vs (fun b => S b ∧ b ≠ a) → RM (.lst ms) (.ref a) S
  | dk {a : Addr} {kvs : List (Key × V)} {ks : List (Sum Int (List Nat))} {ms : List M} {S : Addr → Prop} : S a → H a = some (.dK kvs) → kvs.map (·.1) = ks.map toKey → RMs ms (kvs.map (·.2)) (fun b => S b ∧ b ≠ a) → RM (.dk ks ms) (.ref a) S
  | obj {a dx : Addr} {c : Nat} {fs : List Nat} {fvs : List (Str × V)} {ms : List M} {S : Addr → Prop} : S a → H a = some (.ins (g.cad c) dx fvs) → fvs.map (·.1) = fs.map g.fnm → RMs ms (fvs.map (·.2)) (fun b => S b ∧ b ≠ a) → RM (.obj c fs ms) (.ref a) S
inductive RMs : List M → List V → (Addr → Prop) → Prop
  | nil {S : Addr → Prop} : RMs [] [] S
  | cons {x : M} {v : V} {xs : List M} {vs : List V} {S S1 S2 : Addr → Prop} : (∀ b, S1 b → S b) → (∀ b, S2 b → S b) → (∀ b, S1 b → S2 b → False) → RM x v S1 → RMs xs vs S2 → RMs (x :: xs) (v :: vs) S
end
end
section
variable {g : SG} {H F H' F' : Hp}
mutual
/-- what the tree does not own may change -/
theorem RM.frame (lf : LeH F F') : ∀ {m : M} {v : V} {S : Addr → Prop}, RM g H F m v S → (∀ a o, S a → H a = some o → H' a = some o) → RM g H' F' m v S
  | _, _, _, .d h, _ => .d (h.mono lf)
  | _, _, _, .lst s h z r, k => .lst s (k _ _ s h) z (RMs.frame lf r fun a o sa => k a o sa.1)
  | _, _, _, .dk s h z r, k => .dk s (k _ _ s h) z (RMs.frame lf r fun a o sa => k a o sa.1)
  | _, _, _, .obj s h z r, k => .obj s (k _ _ s h) z (RMs.frame lf r fun a o sa => k a o sa.1)
theorem RMs.frame (lf : LeH F F') : ∀ {ms : List M} {vs : List V} {S : Addr → Prop}, RMs g H F ms vs S → (∀ a o, S a → H a = some o → H' a = some o) → RMs g H' F' ms vs S
  | _, _, _, .nil, _ => .nil
  | _, _, _, .cons h1 h2 h3 r t, k => .cons h1 h2 h3 (RM.frame lf r fun a o sa => k a o (h1 a sa)) (RMs.frame lf t fun a o sa => k a o (h2 a sa))
end
mutual
theorem RM.wide : ∀ {m : M} {v : V} {S S' : Addr → Prop}, RM g H F m v S → (∀ a, S a → S' a) → RM g H F m v S'
  | _, _, _, _, .d h, _ => .d h
  | _, _, _, _, .lst s h z r, k => .lst (k _ s) h z (RMs.wide r fun a sa => ⟨k a sa.1, sa.2⟩)
  | _, _, _, _, .dk s h z r, k => .dk (k _ s) h z (RMs.wide r fun a sa => ⟨k a sa.1, sa.2⟩)
  | _, _, _, _, .obj s h z r, k => .obj (k _ s) h z (RMs.wide r fun a sa => ⟨k a sa.1, sa.2⟩)
theorem RMs.wide : ∀ {ms : List M} {vs : List V} {S S' : Addr → Prop}, RMs g H F ms vs S → (∀ a, S a → S' a) → RMs g H F ms vs S'
  | _, _, _, _, .nil, _ => .nil
  | _, _, _, _, .cons h1 h2 h3 r t, k => .cons (fun b s => k b (h1 b s)) (fun b s => k b (h2 b s)) h3 r t
end
mutual
/-- frozen: what the tree owned stands in the frozen part -/
theorem RM.freeze (le : LeH F F') : ∀ {m : M} {v : V} {S : Addr → Prop}, RM g H F m v S → (∀ a o, S a → H a = some o → F' a = some o) → RD g F' m.toD v
  | _, _, _, .d h, _ => by
    show RD g F' _ _
    exact h.mono le
  | _, _, _, .lst s h z r, k => .lst (k _ _ s h) z (RMs.freeze le r fun a o sa => k a o sa.1)
  | _, _, _, .dk s h z r, k => .dk (k _ _ s h) z (RMs.freeze le r fun a o sa => k a o sa.1)
  | _, _, _, .obj s h z r, k => .obj (k _ _ s h) z (RMs.freeze le r fun a o sa => k a o sa.1)
theorem RMs.freeze (le : LeH F F') : ∀ {ms : List M} {vs : List V} {S : Addr → Prop}, RMs g H F ms vs S → (∀ a o, S a → H a = some o → F' a = some o) → RDs g F' (M.toDs ms) vs
  | _, _, _, .nil, _ => .nil
  | _, _, _, .cons h1 h2 h3 r t, k => .cons (RM.freeze le r fun a o sa => k a o (h1 a sa)) (RMs.freeze le t fun a o sa => k a o (h2 a sa))
end
theorem RMs.ofD {S : Addr → Prop} : ∀ {ds : List D} {vs : List V}, RDs g F ds vs → RMs g H F (ds.map M.d) vs S
  | _, _, .nil => .nil
  | _, _, .cons h r => .cons (S1 := fun _ => False) (S2 := S) (fun _ z => z.elim) (fun _ z => z) (fun _ z => z.elim) (.d h) (RMs.ofD r)
theorem RMs.length : ∀ {ms : List M} {vs : List V} {S : Addr → Prop}, RMs g H F ms vs S → ms.length = vs.length
  | _, _, _, .nil => rfl
  | _, _, _, .cons _ _ _ _ r => by simp [RMs.length r]
theorem RMs.getD : ∀ {ms : List M} {vs : List V} {S : Addr → Prop} {i : Nat} {x : D}, RMs g H F ms vs S → ms[i]? = some (.d x) → ∃ v, vs[i]? = some v ∧ RD g F x v
  | _, _, _, _, _, .nil, e => by simp at e
  | _, _, _, 0, _, .cons _ _ _ r _, e => by
    simp at e
    subst e
    cases r with
    | d r => exact ⟨_, rfl, r⟩
  | _, _, _, i + 1, x, .cons _ _ _ _ t, e => by
    obtain ⟨v, h1, h2⟩ := RMs.getD (i := i) (x := x) t (by simpa using e)
    exact ⟨v, by simpa using h1, h2⟩
theorem RMs.leaves : ∀ {ms : List M} {vs : List V} {S : Addr → Prop} {ds : List D}, RMs g H F ms vs S → M.leaves ms = some ds → RDs g F ds vs
  | _, _, _, ds, .nil, e => by
    cases e
    exact .nil
  | _, _, _, ds, @RMs.cons _ _ _ x v xs vs _ _ _ _ _ _ r t, e => by
    cases r with
    | d r =>
      simp only [M.leaves, Option.map_eq_some_iff] at e
      obtain ⟨a, e1, e2⟩ := e
      subst e2
      exact .cons r (RMs.leaves t e1)
    | _ => simp [M.leaves] at e
theorem RMs.append : ∀ {ms ns : List M} {vs ws : List V} {S S1 S2 : Addr → Prop}, RMs g H F ms vs S1 → RMs g H F ns ws S2 → (∀ b, S1 b → S b) → (∀ b, S2 b → S b) → (∀ b, S1 b → S2 b → False) → RMs g H F (ms ++ ns) (vs ++ ws) S
  | _, _, _, _, _, _, _, .nil, s, _, h2, _ => s.wide h2
  | _, _, _, _, _, _, _, @RMs.cons _ _ _ x v xs vs S0 T1 T2 a1 a2 a3 r t, s, h1, h2, h3 =>
    .cons (S2 := fun b => (T2 b ∨ _)) (fun b z => h1 b (a1 b z)) (fun b z => z.elim (fun z => h1 b (a2 b z)) (h2 b)) (fun b z w => w.elim (a3 b z) (h3 b (a1 b z))) r (RMs.append t s (fun b z => .inl z) (fun b z => .inr z) fun b z w => h3 b (a2 b z) w)
theorem RMs.setD : ∀ {ms : List M} {vs : List V} {S : Addr → Prop} {x : D} {v : V}, RMs g H F ms vs S → RD g F x v → ∀ i, RMs g H F (ms.set i (.d x)) (vs.set i v) S
  | _, _, _, _, _, .nil, _, _ => .nil
  | _, _, _, _, _, .cons h1 h2 h3 _ t, q, 0 => .cons h1 h2 h3 (.d q) t
  | _, _, _, _, _, .cons h1 h2 h3 r t, q, i + 1 => .cons h1 h2 h3 r (RMs.setD t q i)
theorem RMs.dropLast : ∀ {ms : List M} {vs : List V} {S : Addr → Prop}, RMs g H F ms vs S → RMs g H F ms.dropLast vs.dropLast S
  | _, _, _, .nil => .nil
  | _, _, _, .cons _ _ _ _ .nil => .nil
  | _, _, _, .cons h1 h2 h3 r (.cons a1 a2 a3 q t) => .cons h1 h2 h3 r (RMs.dropLast (.cons a1 a2 a3 q t))
theorem RMs.eraseIdx : ∀ {ms : List M} {vs : List V} {S : Addr → Prop} (i : Nat), RMs g H F ms vs S → RMs g H F (ms.eraseIdx i) (vs.eraseIdx i) S
  | _, _, _, _, .nil => .nil
  | _, _, _, 0, .cons h1 h2 h3 r t => t.wide h2
  | _, _, _, i + 1, .cons h1 h2 h3 r t => .cons h1 h2 h3 r (RMs.eraseIdx i t)
end

/-! ### the state -/
def Own (Os : Nat → Addr → Prop) : Addr → Prop := fun a => ∃ i, Os i a
structure Rel (g : SG) (H F : Hp) (σd : Env) (σ : L2.St) (Os : Nat → Addr → Prop) : Prop where
  le : LeH F H
  len : σd.length = σ.length
  sl : ∀ i m, σd[i]? = some (some m) → ∃ v, σ[i]? = some (some v) ∧ RM g H F m v (Os i)
  dj : ∀ i j a, Os i a → Os j a → i = j
  nf : ∀ i a, Os i a → F a = none
  al : ∀ i a, Os i a → H a ≠ none
/-- what may change: nothing owned if pu -/
structure Gr (pu : Bool) (H F : Hp) (O : Addr → Prop) (H' F' : Hp) (O' : Addr → Prop) : Prop where
  ff : LeH F F'
  fr : ∀ a o, H a = some o → ¬ (pu = false ∧ O a) → H' a = some o
  al : ∀ a, H a ≠ none → H' a ≠ none
  ow : ∀ a, O' a → O a ∨ H a = none
  fz : ∀ a, F' a ≠ none → F a ≠ none ∨ (pu = false ∧ O a) ∨ H a = none
theorem Gr.refl (pu : Bool) (H F : Hp) (O : Addr → Prop) : Gr pu H F O H F O := ⟨LeH.refl F, fun _ _ h _ => h, fun _ h => h, fun _ h => .inl h, fun _ h => .inl h⟩
theorem Gr.trans {pu : Bool} {H F H1 F1 H2 F2 : Hp} {O O1 O2 : Addr → Prop} (a : Gr pu H F O H1 F1 O1) (b : Gr pu H1 F1 O1 H2 F2 O2) : Gr pu H F O H2 F2 O2 := by
  have back : ∀ x, H1 x = none → H x = none := fun x h => by
    cases e : H x with
    | none => rfl
    | some o => exact absurd h (a.al x (by rw [e]; simp))
  refine ⟨a.ff.trans b.ff, fun x o h n => b.fr x o (a.fr x o h n) fun z => ?_, fun x h => b.al x (a.al x h), fun x h => ?_, fun x h => ?_⟩
  · rcases a.ow x z.2 with q | q
    · exact n ⟨z.1, q⟩
    · rw [h] at q; cases q
  · rcases b.ow x h with q | q
    · exact a.ow x q
    · exact .inr (back x q)
  · rcases b.fz x h with q | q | q
    · exact a.fz x q
    · rcases a.ow x q.2 with w | w
      · exact .inr (.inl ⟨q.1, w⟩)
      · exact .inr (.inr w)
    · exact .inr (.inr (back x q))
theorem Gr.weak {H F H' F' : Hp} {O O' : Addr → Prop} {pu pu' : Bool} (a : Gr pu H F O H' F' O') (h : pu' = true → pu = true) : Gr pu' H F O H' F' O' := by
  have k : pu = false → pu' = false := fun z => by
    cases q : pu' with
    | false => rfl
    | true => rw [h q] at z; cases z
  exact ⟨a.ff, fun x o e n => a.fr x o e fun z => n ⟨k z.1, z.2⟩, a.al, a.ow, fun x e => (a.fz x e).imp id fun z => z.imp (fun z => ⟨k z.1, z.2⟩) id⟩
/-- new objects alone -/
structure Ext (H F H' F' : Hp) : Prop where
  ff : LeH F F'
  le : LeH F' H'
  hh : LeH H H'
  nw : ∀ a, F' a ≠ none → F a ≠ none ∨ H a = none
theorem Ext.refl {H F : Hp} (l : LeH F H) : Ext H F H F := ⟨LeH.refl F, l, LeH.refl H, fun _ h => .inl h⟩
theorem Ext.laid {H F : Hp} (l : LeH F H) {p : Addr} {o : HO} (h : H p = none) : Ext H F (upd H p o) (upd F p o) := by
  have fp : F p = none := by
    cases e : F p with
    | none => rfl
    | some u => rw [l p u e] at h; cases h
  refine ⟨fun a u e => ?_, fun a u e => ?_, fun a u e => ?_, fun a e => ?_⟩
  · rw [upd_ne (ne_of_none e fp)]; exact e
  · by_cases q : a = p
    · subst q; rw [upd_same] at e ⊢; exact e
    · rw [upd_ne q] at e ⊢; exact l a u e
  · rw [upd_ne (ne_of_none e h)]; exact e
  · by_cases q : a = p
    · subst q; exact .inr h
    · rw [upd_ne q] at e; exact .inl e
theorem Ext.gr {H F H' F' : Hp} (x : Ext H F H' F') {O : Addr → Prop} (pu : Bool) : Gr pu H F O H' F' O :=
  ⟨x.ff, fun a o e _ => x.hh a o e, fun a h => by
    cases e : H a with
    | none => exact absurd e h
    | some o => rw [x.hh a o e]; simp, fun _ h => .inl h, fun a h => (x.nw a h).imp id .inr⟩
theorem Rel.ext {g : SG} {H F H' F' : Hp} {σd : Env} {σ : L2.St} {Os : Nat → Addr → Prop} (r : Rel g H F σd σ Os) (x : Ext H F H' F') : Rel g H' F' σd σ Os := by
  refine ⟨x.le, r.len, fun i m e => ?_, r.dj, fun i a h => ?_, fun i a h => ?_⟩
  · obtain ⟨v, e1, q⟩ := r.sl i m e
    exact ⟨v, e1, q.frame x.ff fun a o _ e => x.hh a o e⟩
  · cases e : F' a with
    | none => rfl
    | some o =>
      rcases x.nw a (by rw [e]; simp) with q | q
      · exact absurd (r.nf i a h) q
      · exact absurd q (r.al i a h)
  · have := r.al i a h
    cases e : H a with
    | none => exact absurd e this
    | some o => rw [x.hh a o e]; simp
theorem Rel.get {g : SG} {H F : Hp} {σd : Env} {σ : L2.St} {Os : Nat → Addr → Prop} (r : Rel g H F σd σ Os) {i : Nat} {m : M} (h : (σd[i]?).bind id = some m) : ∃ v, σ[i]? = some (some v) ∧ RM g H F m v (Os i) := by
  refine r.sl i m ?_
  cases e : σd[i]? with
  | none => rw [e] at h; cases h
  | some o =>
    rw [e] at h
    have : o = some m := h
    rw [this]

/-! ### what follows an evaluation -/
section
variable {α β : Type} (g : SG) (W : WX) (pu : Bool) (R : Hp → α → β → Prop) (σ : L2.St) (H F : Hp) (O : Addr → Prop) (Q : β → Hp → Prop)
def KE : ER α → Prop
  | .ok a σd => ∀ b H' F' Os', Rel g H' F' σd σ Os' → R F' a b → Gr pu H F O H' F' (Own Os') → Q b H'
  | .exc e σd => ∀ cls dd H' F' Os', Rel g H' F' σd σ Os' → RX g F' e cls dd → Gr pu H F O H' F' (Own Os') → W cls dd σ H'
  | .stuck => False
end
section
variable {α β γ δ : Type} {g : SG} {W : WX} {pu : Bool} {R : Hp → α → β → Prop} {R2 : Hp → γ → δ → Prop} {σ : L2.St} {H F H1 F1 : Hp} {O O1 : Addr → Prop} {Q : β → Hp → Prop} {Q2 : δ → Hp → Prop}
theorem KE.later {r : ER α} (k : KE g W pu R σ H F O Q r) (x : Gr pu H F O H1 F1 O1) : KE g W pu R σ H1 F1 O1 Q r := by
  cases r with
  | ok a σd => exact fun b H' F' Os' rel q y => k b H' F' Os' rel q (x.trans y)
  | exc e σd => exact fun c dd H' F' Os' rel q y => k c dd H' F' Os' rel q (x.trans y)
  | stuck => exact k
theorem KE.bind {r : ER α} {f : α → Env → ER γ} (k : KE g W pu R2 σ H F O Q2 (r.bind f))
    (h : ∀ a σd b H' F' Os', Rel g H' F' σd σ Os' → R F' a b → LeH F F' → Gr pu H F O H' F' (Own Os') → KE g W pu R2 σ H' F' (Own Os') Q2 (f a σd) → Q b H') : KE g W pu R σ H F O Q r := by
  cases r with
  | ok a σd => exact fun b H' F' Os' rel q x => h a σd b H' F' Os' rel q x.ff x (KE.later (r := f a σd) k x)
  | exc e σd => exact k
  | stuck => exact k
theorem KE.bindE {r : ER α} {f : α → Env → ER γ} (k : KE g W pu R2 σ H F O Q2 (r.bind f))
    (h : ∀ a σd b H' F' Os', r = .ok a σd → Rel g H' F' σd σ Os' → R F' a b → LeH F F' → Gr pu H F O H' F' (Own Os') → KE g W pu R2 σ H' F' (Own Os') Q2 (f a σd) → Q b H') : KE g W pu R σ H F O Q r := by
  cases r with
  | ok a σd => exact fun b H' F' Os' rel q x => h a σd b H' F' Os' rfl rel q x.ff x (KE.later (r := f a σd) k x)
  | exc e σd => exact k
  | stuck => exact k
theorem KE.ofO {o : Option γ} {σd : Env} (k : KE g W pu R2 σ H F O Q2 (ofO o σd)) : ∃ a, o = some a ∧ ∀ b H' F' Os', Rel g H' F' σd σ Os' → R2 F' a b → Gr pu H F O H' F' (Own Os') → Q2 b H' := by
  cases o with
  | none => exact False.elim k
  | some a => exact ⟨a, rfl, k⟩
end
theorem ER.bind_assoc {α β γ : Type} (r : ER α) (f : α → Env → ER β) (h : β → Env → ER γ) : (r.bind f).bind h = r.bind fun a σ => (f a σ).bind h := by
  cases r <;> rfl
theorem KE.bind_assoc {α β γ δ : Type} {g : SG} {W : WX} {pu : Bool} {R2 : Hp → γ → δ → Prop} {σ : L2.St} {H F : Hp} {O : Addr → Prop} {Q2 : δ → Hp → Prop} {r : ER α} {f : α → Env → ER β} {h : β → Env → ER γ} (k : KE g W pu R2 σ H F O Q2 ((r.bind f).bind h)) : KE g W pu R2 σ H F O Q2 (r.bind fun a σ => (f a σ).bind h) := by
  rw [← ER.bind_assoc]
  exact k
/-- the evaluator's transformer -/
def tV {α β : Type} (g : SG) (W : WX) (pu : Bool) (R : Hp → α → β → Prop) (ev : Env → ER α) : L2.St → Hp → (β → Hp → Prop) → Prop := fun σ H Q =>
  ∃ σd F Os, Rel g H F σd σ Os ∧ KE g W pu R σ H F (Own Os) Q (ev σd)
abbrev REq {α : Type} : Hp → α → α → Prop := fun _ a b => a = b
end JH

/-! JB2: the operations on data are the model's. -/
namespace JH
open PySem PySem.Spec PyProof.Rows L2

/-! ### data as the library tells it -/
mutual
def D.py : D → PyData
  | .non => .none
  | .bl b => .bool b
  | .int i => .int i
  | .str s => .str ⟨s.toArray⟩
  | .tup xs => .tuple (D.pys xs)
  | .lst xs => .list (D.pys xs)
  | _ => .none
def D.pys : List D → List PyData
  | [] => []
  | x :: xs => D.py x :: D.pys xs
end
section
variable {g : SG} {F : Hp}
mutual
theorem RD.dp : ∀ {d : D} {v : V}, RD g F d v → D.plain d = true → Dp g.K F v d.py
  | _, _, .non, _ => .non
  | _, _, .bl b, _ => .bl b
  | _, _, .int i, _ => .int i
  | _, _, .str s, _ => .str _
  | _, _, .tup h _ r, p => .tup h (RDs.dp r p)
  | _, _, .lst h _ r, p => .lst (SqL.of h) (RDs.dp r p)
  | _, _, .dk _ _ _, p => by simp [D.plain] at p
  | _, _, .obj _ _ _, p => by simp [D.plain] at p
  | _, _, .scr _ _, p => by simp [D.plain] at p
theorem RDs.dp : ∀ {d : List D} {v : List V}, RDs g F d v → D.plains d = true → DpAll g.K F v (D.pys d)
  | _, _, .nil, _ => .nil
  | _, _, .cons h r, p => by
    simp only [D.plains, Bool.and_eq_true] at p
    exact .cons (RD.dp h p.1) (RDs.dp r p.2)
end
end
mutual
theorem D.py_lay : ∀ d : D, D.plain d = true → (D.py d).canLay0 = true
  | .non, _ => rfl
  | .bl _, _ => rfl
  | .int _, _ => rfl
  | .str s, h => by
    simp only [D.py, PyData.canLay0]
    have h' : (s.all fun c => decide (c < 0x110000)) = true := by simpa [D.plain] using h
    show (Array.all (⟨s⟩ : Array Nat) fun c => decide (c < 0x110000)) = true
    simpa using h'
  | .tup xs, h => by
    simp only [D.py, PyData.canLay0]
    exact D.pys_lay xs (by simpa [D.plain] using h)
  | .lst xs, h => by
    simp only [D.py, PyData.canLay0]
    exact D.pys_lay xs (by simpa [D.plain] using h)
  | .dk _ _, h => by simp [D.plain] at h
  | .obj _ _ _, h => by simp [D.plain] at h
  | .scr _, h => by simp [D.plain] at h
  | .err _, h => by simp [D.plain] at h
theorem D.pys_lay : ∀ ds : List D, D.plains ds = true → PyData.canLayAll0 (D.pys ds) = true
  | [], _ => rfl
  | x :: xs, h => by
    simp only [D.plains, Bool.and_eq_true] at h
    simp only [D.pys, PyData.canLayAll0, Bool.and_eq_true]
    exact ⟨D.py_lay x h.1, D.pys_lay xs h.2⟩
end
mutual
theorem D.py_depth : ∀ d : D, (D.py d).depth = D.depth d
  | .non => by simp [D.py, PyData.depth, D.depth]
  | .bl _ => by simp [D.py, PyData.depth, D.depth]
  | .int _ => by simp [D.py, PyData.depth, D.depth]
  | .str s => by simp [D.py, PyData.depth, D.depth]
  | .tup xs => by
    simp only [D.py, PyData.depth, D.depth]
    rw [D.pys_depth xs]
  | .lst xs => by
    simp only [D.py, PyData.depth, D.depth]
    rw [D.pys_depth xs]
  | .dk _ _ => by simp [D.py, PyData.depth, D.depth]
  | .obj _ _ _ => by simp [D.py, PyData.depth, D.depth]
  | .scr _ => by simp [D.py, PyData.depth, D.depth]
  | .err _ => by simp [D.py, PyData.depth, D.depth]
theorem D.pys_depth : ∀ ds : List D, PyData.depthAll (D.pys ds) = D.depths ds
  | [] => by simp [D.pys, PyData.depthAll, D.depths]
  | x :: xs => by
    simp only [D.pys, PyData.depthAll, D.depths]
    rw [D.py_depth x, D.pys_depth xs]
end
theorem str_beq (x y : List Nat) : ((⟨x.toArray⟩ : Str) == ⟨y.toArray⟩) = (x == y) := by
  by_cases h : x = y
  · subst h; simp
  · have h2 : ¬ (⟨x.toArray⟩ : Str) = ⟨y.toArray⟩ := fun e => h (by
      have := congrArg (fun s : Str => s.cps.toList) e
      simpa using this)
    rw [beq_eq_false_iff_ne.mpr h, beq_eq_false_iff_ne.mpr h2]
mutual
theorem D.py_eqv : ∀ d e : D, D.plain d = true → D.plain e = true → PyData.eqv (D.py d) (D.py e) = D.eqv d e
  | .non, e, _, h => by cases e <;> first | rfl | simp [D.plain] at h | simp [D.py, PyData.eqv, D.eqv]
  | .bl _, e, _, h => by cases e <;> first | rfl | simp [D.plain] at h | simp [D.py, PyData.eqv, D.eqv]
  | .int _, e, _, h => by cases e <;> first | rfl | simp [D.plain] at h | simp [D.py, PyData.eqv, D.eqv]
  | .str s, e, _, h => by
    cases e <;> first | rfl | (simp only [D.py, PyData.eqv, D.eqv]; exact str_beq _ _) | simp [D.plain] at h | simp [D.py, PyData.eqv, D.eqv]
  | .tup xs, e, h1, h2 => by
    cases e with
    | tup ys =>
      simp only [D.py, PyData.eqv, D.eqv]
      exact D.pys_eqv xs ys (by simpa [D.plain] using h1) (by simpa [D.plain] using h2)
    | _ => first | simp [D.plain] at h2; done | simp [D.py, PyData.eqv, D.eqv]
  | .lst xs, e, h1, h2 => by
    cases e with
    | lst ys =>
      simp only [D.py, PyData.eqv, D.eqv]
      exact D.pys_eqv xs ys (by simpa [D.plain] using h1) (by simpa [D.plain] using h2)
    | _ => first | simp [D.plain] at h2; done | simp [D.py, PyData.eqv, D.eqv]
  | .dk _ _, _, h, _ => by simp [D.plain] at h
  | .obj _ _ _, _, h, _ => by simp [D.plain] at h
  | .scr _, _, h, _ => by simp [D.plain] at h
theorem D.pys_eqv : ∀ d e : List D, D.plains d = true → D.plains e = true → PyData.eqvAll (D.pys d) (D.pys e) = D.eqvs d e
  | [], [], _, _ => by simp [D.pys, PyData.eqvAll, D.eqvs]
  | [], _ :: _, _, _ => by simp [D.pys, PyData.eqvAll, D.eqvs]
  | _ :: _, [], _, _ => by simp [D.pys, PyData.eqvAll, D.eqvs]
  | x :: xs, y :: ys, h1, h2 => by
    simp only [D.plains, Bool.and_eq_true] at h1 h2
    simp only [D.pys, PyData.eqvAll, D.eqvs]
    rw [D.py_eqv x y h1.1 h2.1, D.pys_eqv xs ys h1.2 h2.2]
end
theorem shaped_of {d : D} (h : D.cmpOk d = true) : SeqAt.shaped d.py = true := by
  unfold D.cmpOk at h
  rw [Bool.and_eq_true] at h
  show ((D.py d).canLay0 && decide ((D.py d).depth ≤ 64)) = true
  rw [D.py_depth, Bool.and_eq_true]
  exact ⟨D.py_lay d h.1, h.2⟩
theorem plain_of {d : D} (h : D.cmpOk d = true) : D.plain d = true := by
  unfold D.cmpOk at h
  rw [Bool.and_eq_true] at h
  exact h.1

/-! ### a tuple by one -/
theorem tuple_mulW1 (l : Addr) (items : Array Value) (n : Nat) (dd : Option Addr) (sl : Array (Option Value)) (u : Tok) (c1 : (items.isEmpty || (1 : Int) == 1) = true) :
    Meets (Builtin.«tuple.__mul__» ⟨[.ref l, .int 1 u], []⟩) (fun _ R s => s.heap.get? l = some { cls := .type "tuple", dict := dd, data := .seq items n, slots := sl } ∧
      R (.ok (.ret (Value.ref l))) { s with heap := s.heap, toks := s.toks }) :=
  .of_wp fun prog w A R s h => by
    obtain ⟨hp, g, d, tk, os⟩ := s
    obtain ⟨hl, h⟩ := h
    have f1 := AutoSeq1.idx_int
    have c0 : (decide ((1 : Int) < -(2 ^ 63)) || decide ((1 : Int) ≥ 2 ^ 63)) = false := by decide
    wp_walk using wpAny_loadPart' hl
    repeat (first
      | (refine wpAny_ite_false (decide_eq_false (by rw [c0]; exact Bool.false_ne_true)) ?_; wp_walk using wpAny_loadPart' hl)
      | (refine wpAny_ite_true (decide_eq_true (by rw [c1])) ?_; wp_walk using wpAny_loadPart' hl))
    exact ⟨_, rfl, h⟩
def rRepT1 (K : PySem.W.Frag) : R2 := fun x y H Q => ∃ l xs, x = .ref l ∧ y = .int 1 ∧ SqT K H l xs ∧ Q (.ref l) H
theorem op_repT1 {X : Cx} : OpR X (binaryOp .Mult) (rRepT1 X.K) := by
  intro pins s σ H x y v u Q I rx ry h
  obtain ⟨l, xs, rfl, rfl, hT, q⟩ := h
  cases rx
  obtain ⟨t, rfl⟩ := ry
  obtain ⟨its, r, ⟨⟨cls, dd, data, sl⟩, ho, hc, n, hd⟩, hs⟩ := I.tuple hT
  simp only at hc hd
  subst hc hd
  have c1 : (its.toArray.isEmpty || (1 : Int) == 1) = true := by simp
  refine wpAny_binaryOp_repeat_ref (T := "tuple") (U := "int") (by decide) ⟨_, ho, rfl⟩ (fun s' => typeIs_int s' 1 t) noFill_tuple_mul F.fills_int_mul F.slot_int_rmul repeat_tuple F.slot_int_index.lookup
    (call_meets F.slot_int_rmul (typeIs_int s 1 t) F.entry_int_rmul (F.args_int_rmul_2 _ _) (int_rmul_tuple 1 t l its.toArray n dd sl)
      ⟨ho, rfl, ⟨_, ho, rfl⟩, call_meets F.slot_tuple_mul ⟨_, ho, rfl⟩ F.entry_tuple_mul (F.args_tuple_mul_2 _ _) (tuple_mulW1 l its.toArray n dd sl t c1) ⟨ho, ?_⟩⟩)
  exact ⟨.ref l, H, I, rfl, q⟩

/-! ### a tuple by nothing -/
theorem tuple_mulW0 (l : Addr) (items : Array Value) (n : Nat) (dd : Option Addr) (sl : Array (Option Value)) (x : Int) (u : Tok) (c0 : (decide (x < -(2 ^ 63)) || decide (x ≥ 2 ^ 63)) = false) (c1 : (items.isEmpty || x == 1) = false) (c2 : (decide (x ≤ 0) || items.isEmpty) = true) :
    Meets (Builtin.«tuple.__mul__» ⟨[.ref l, .int x u], []⟩) (fun _ R s => s.heap.get? l = some { cls := .type "tuple", dict := dd, data := .seq items n, slots := sl } ∧
      R (.ok (.ret (Value.ref s.heap.objs.size))) { s with heap := s.heap.push { cls := Value.type "tuple", data := Data.seq #[] }, toks := s.toks }) :=
  .of_wp fun prog w A R s h => by
    obtain ⟨hp, g, d, tk, os⟩ := s
    obtain ⟨hl, h⟩ := h
    have f1 := AutoSeq1.idx_int
    wp_walk using wpAny_loadPart' hl
    repeat (first
      | (refine wpAny_ite_false (decide_eq_false (by rw [c0]; exact Bool.false_ne_true)) ?_; wp_walk using wpAny_loadPart' hl)
      | (refine wpAny_ite_false (decide_eq_false (by rw [c1]; exact Bool.false_ne_true)) ?_; wp_walk using wpAny_loadPart' hl)
      | (refine wpAny_ite_true (decide_eq_true (by rw [c2])) ?_; wp_walk using wpAny_loadPart' hl))
    exact ⟨_, rfl, h⟩
def rRepT0 (K : PySem.W.Frag) : R2 := fun x y H Q => ∃ l k xs, x = .ref l ∧ y = .int k ∧ SqT K H l xs ∧ xs ≠ [] ∧ -1000 ≤ k ∧ k ≤ 0 ∧ ∀ p, H p = none → Q (.ref p) (upd H p (.tup []))
theorem op_repT0 {X : Cx} : OpR X (binaryOp .Mult) (rRepT0 X.K) := by
  intro pins s σ H x y v u Q I rx ry h
  obtain ⟨l, k, xs, rfl, rfl, hT, hne, h1, h2, q⟩ := h
  cases rx
  obtain ⟨t, rfl⟩ := ry
  obtain ⟨its, r, ⟨⟨cls, dd, data, sl⟩, ho, hc, n, hd⟩, hs⟩ := I.tuple hT
  simp only at hc hd
  subst hc hd
  have hle : its.length = xs.length := r.length.symm
  have hn : its ≠ [] := fun e => hne (by
    rw [e] at hle
    exact List.eq_nil_of_length_eq_zero hle.symm)
  have hi : its.toArray.isEmpty = false := by
    cases its with
    | nil => exact absurd rfl hn
    | cons a b => rfl
  have c0 : (decide (k < -(2 ^ 63)) || decide (k ≥ 2 ^ 63)) = false := by
    rw [decide_eq_false (by omega), decide_eq_false (by omega)] <;> rfl
  have c1 : (its.toArray.isEmpty || k == 1) = false := by
    rw [hi, Bool.false_or]
    exact beq_eq_false_iff_ne.mpr (by omega)
  have c2 : (decide (k ≤ 0) || its.toArray.isEmpty) = true := by
    rw [decide_eq_true h2]
    rfl
  refine wpAny_binaryOp_repeat_ref (T := "tuple") (U := "int") (by decide) ⟨_, ho, rfl⟩ (fun s' => typeIs_int s' k t) noFill_tuple_mul F.fills_int_mul F.slot_int_rmul repeat_tuple F.slot_int_index.lookup
    (call_meets F.slot_int_rmul (typeIs_int s k t) F.entry_int_rmul (F.args_int_rmul_2 _ _) (int_rmul_tuple k t l its.toArray n dd sl)
      ⟨ho, rfl, ⟨_, ho, rfl⟩, call_meets F.slot_tuple_mul ⟨_, ho, rfl⟩ F.entry_tuple_mul (F.args_tuple_mul_2 _ _) (tuple_mulW0 l its.toArray n dd sl k t c0 c1 c2) ⟨ho, ?_⟩⟩)
  refine ⟨.ref s.heap.objs.size, _, I.laid (t' := s.toks) (o := .tup []) (fun b ob q => Heap.get?_push_of_some _ q) (Nat.le_refl _) ?_, rfl, q _ (I.hok.fresh (Nat.le_refl _))⟩
  exact ⟨Nat.zero_le _, [], .nil, IsTup.new _ _⟩

/-! ### the canonical operations -/
def rB (g : SG) (f : D → D → Option D) : R2 := fun x y H Q => ∃ F d1 d2 d, LeH F H ∧ RD g F d1 x ∧ RD g F d2 y ∧ f d1 d2 = some d ∧ ∀ v H' F', Ext H F H' F' → RD g F' d v → Q v H'
def rU1 (g : SG) (f : D → Option D) : V → Hp → VK → Prop := fun x H Q => ∃ F d1 d, LeH F H ∧ RD g F d1 x ∧ f d1 = some d ∧ ∀ v H' F', Ext H F H' F' → RD g F' d v → Q v H'
section
variable {g : SG} {X : Cx}
theorem six_eq (n d : Nat) (o : Option Int) : sIx n d o = HT.sIx n d o := by
  cases o with
  | none => rfl
  | some v => unfold sIx HT.sIx; rfl
theorem cutD_map {F : Hp} {xs : List D} {vs : List V} (r : RDs g F xs vs) (lo hi : Option Int) : RDs g F (cutD xs lo hi) (cutV vs lo hi) := by
  unfold cutD cutV
  rw [six_eq, six_eq, r.length]
  exact (r.drop _).take _
theorem ix_eq (n : Nat) (i : Int) : ixD n i = ixN n i := rfl
theorem at_of {F : Hp} {xs : List D} {vs : List V} {i : Int} {d : D} (r : RDs g F xs vs) (h : ((ixD xs.length i).bind fun j => xs[j]?) = some d) : ∃ v, atI vs i = some v ∧ RD g F d v := by
  obtain ⟨j, h1, h2⟩ := Option.bind_eq_some_iff.mp h
  obtain ⟨v, h3, h4⟩ := r.get h2
  refine ⟨v, ?_, h4⟩
  unfold atI
  rw [← r.length, ← ix_eq, h1]
  exact h3
theorem line_eq : (sizeLine : Nat) = 16777216 := sizeLine_eq

theorem OpR.imp {f : Value → Value → Sem Value} {r r' : R2} (h : OpR X f r) (k : ∀ x y H Q, r' x y H Q → r x y H Q) : OpR X f r' := fun pins s σ H x y v u Q I rx ry q => h pins s σ H x y v u Q I rx ry (k _ _ _ _ q)

theorem o_add (hK : X.K = g.K) : OpR X (binaryOp .Add) (rB g (dBin .add)) := by
  intro pins s σ H x y v u Q I rx ry h
  obtain ⟨F, d1, d2, d, le, r1, r2, e, q⟩ := h
  unfold dBin at e
  split at e <;> first | (cases ‹BOp.add = _›; done) | skip
  · cases e; cases r1; cases r2
    exact op_add pins s σ H _ _ v u Q I rx ry ⟨_, _, rfl, rfl, q _ _ _ (Ext.refl le) (.int _)⟩
  · split at e
    · rename_i xs ys _ hz
      cases e
      cases r1 with
      | tup h1 z1 q1 =>
        cases r2 with
        | tup h2 z2 q2 =>
          rename_i a xs' b ys'
          refine op_catA pins s σ H _ _ v u Q I rx ry ⟨_, _, _, _, rfl, rfl, by rw [hK]; exact SqT.mono h1 le, by rw [hK]; exact SqT.mono h2 le, by rw [← q1.length, ← q2.length, line_eq]; exact hz, fun e1 => ?_, fun e1 e2 => ?_, fun e1 e2 p np => ?_⟩
          · subst e1
            cases q1
            exact q _ _ _ (Ext.refl le) (.tup h2 z2 q2)
          · subst e2
            cases q2
            rw [List.append_nil] at q
            exact q _ _ _ (Ext.refl le) (.tup h1 z1 q1)
          · have x := Ext.laid (o := .tup (xs' ++ ys')) le np
            refine q _ _ _ x (.tup (SqT.of upd_same) (by rw [List.length_append, ← q1.length, ← q2.length, line_eq]; exact hz) ((q1.append q2).mono x.ff))
    · cases e
  · split at e
    · rename_i xs ys _ hz
      cases e
      cases r1 with
      | lst h1 z1 q1 =>
        cases r2 with
        | lst h2 z2 q2 =>
          rename_i a xs' b ys'
          refine op_cat pins s σ H _ _ v u Q I rx ry ⟨_, _, _, _, rfl, rfl, le _ _ h1, le _ _ h2, by rw [← q1.length, ← q2.length, line_eq]; exact hz, fun p np => ?_⟩
          have x := Ext.laid (o := .lst (xs' ++ ys')) le np
          exact q _ _ _ x (.lst upd_same (by rw [List.length_append, ← q1.length, ← q2.length, line_eq]; exact hz) ((q1.append q2).mono x.ff))
    · cases e
  · split at e
    · rename_i xs ys _ hz
      cases e; cases r1; cases r2
      refine op_add_str pins s σ H _ _ v u Q I rx ry ⟨_, _, rfl, rfl, by rw [line_eq]; exact hz, ?_⟩
      have e1 : (⟨xs.toArray⟩ : Str) ++ (⟨ys.toArray⟩ : Str) = ⟨(xs ++ ys).toArray⟩ := by
        show Str.mk (xs.toArray ++ ys.toArray) = _
        rw [List.append_toArray]
      rw [e1]
      exact q _ _ _ (Ext.refl le) (.str _)
    · cases e
  · cases e; cases r1; cases r2
    obtain rfl : v = Value.bool _ := rx
    obtain ⟨t, rfl⟩ := ry
    exact PySem.IntBool.add_bool_int ⟨.int _, H, I.tok _, ⟨_, rfl⟩, q _ _ _ (Ext.refl le) (.int _)⟩
  all_goals first | (cases e; done) | skip
theorem o_sub : OpR X (binaryOp .Sub) (rB g (dBin .sub)) := by
  intro pins s σ H x y v u Q I rx ry h
  obtain ⟨F, d1, d2, d, le, r1, r2, e, q⟩ := h
  unfold dBin at e
  split at e <;> first | (cases ‹BOp.sub = _›; done) | skip
  · cases e; cases r1; cases r2
    exact op_sub pins s σ H _ _ v u Q I rx ry ⟨_, _, rfl, rfl, q _ _ _ (Ext.refl le) (.int _)⟩
  · cases e; cases r1; cases r2
    obtain rfl : v = Value.bool _ := rx
    obtain ⟨t, rfl⟩ := ry
    exact PySem.IntBool.sub_bool_int ⟨.int _, H, I.tok _, ⟨_, rfl⟩, q _ _ _ (Ext.refl le) (.int _)⟩
  all_goals first | (cases e; done) | skip
theorem o_mul (hK : X.K = g.K) : OpR X (binaryOp .Mult) (rB g (dBin .mul)) := by
  intro pins s σ H x y v u Q I rx ry h
  obtain ⟨F, d1, d2, d, le, r1, r2, e, q⟩ := h
  unfold dBin at e
  split at e <;> first | (cases ‹BOp.mul = _›; done) | skip
  · split at e
    · rename_i hz
      cases e; cases r1; cases r2
      rcases Bool.or_eq_true_iff.mp hz with hz | hz
      · refine op_mul pins s σ H _ _ v u Q I rx ry ⟨_, _, rfl, rfl, ?_, q _ _ _ (Ext.refl le) (.int _)⟩
        rw [Bool.or_eq_true] at hz
        simp only [small64, Bool.and_eq_true, decide_eq_true_eq] at hz
        exact hz
      · exact op_mulW pins s σ H _ _ v u Q I rx ry ⟨_, _, rfl, rfl, (of_decide_eq_true hz : _ < 1000000), q _ _ _ (Ext.refl le) (.int _)⟩
    · cases e
  · split at e
    · rename_i xs k _ hz
      cases e
      cases r2
      cases r1 with
      | tup h1 z1 q1 =>
        rename_i a vs
        have hl := q1.length
        by_cases h1k : k = 1
        · subst h1k
          have e1 : (List.replicate (1 : Int).toNat xs).flatten = xs := by simp
          rw [e1] at q
          exact op_repT1 pins s σ H _ _ v u Q I rx ry ⟨_, vs, rfl, rfl, by rw [hK]; exact SqT.mono h1 le, q _ _ _ (Ext.refl le) (.tup h1 z1 q1)⟩
        · by_cases h0k : k ≤ 0
          · have e0 : (List.replicate k.toNat xs).flatten = [] := by
              rw [show k.toNat = 0 from by omega]
              rfl
            rw [e0] at q
            refine op_repT0 pins s σ H _ _ v u Q I rx ry ⟨_, k, vs, rfl, rfl, by rw [hK]; exact SqT.mono h1 le, fun z => ?_, hz.2.2.1, h0k, fun p np => ?_⟩
            · subst z
              simp at hl
              have h0 := hz.1
              rw [hl] at h0
              simp at h0
            · have x := Ext.laid (o := .tup []) le np
              exact q _ _ _ x (.tup (SqT.of upd_same) (Nat.zero_le _) .nil)
          refine op_repT pins s σ H _ _ v u Q I rx ry ⟨_, _, _, rfl, rfl, by rw [hK]; exact SqT.mono h1 le, fun z => ?_, by omega, hz.2.2.2, by rw [← hl]; exact hz.2.1, fun p np => ?_⟩
          · subst z
            simp at hl
            have h0 := hz.1
            rw [hl] at h0
            simp at h0
          · have x := Ext.laid (o := .tup (List.replicate k.toNat vs).flatten) le np
            refine q _ _ _ x (.tup (SqT.of upd_same) ?_ ((q1.rep _).mono x.ff))
            rw [PyProof.Rows.lm_len_rep_flat, ← hl, line_eq]
            have a1 : k.toNat * xs.length ≤ 1000 * 1000 := Nat.mul_le_mul (by omega) hz.2.1
            omega
    · cases e
  all_goals first | (cases e; done) | skip
theorem o_fdiv : OpR X (binaryOp .FloorDiv) (rB g (dBin .fdiv)) := by
  intro pins s σ H x y v u Q I rx ry h
  obtain ⟨F, d1, d2, d, le, r1, r2, e, q⟩ := h
  unfold dBin at e
  split at e <;> first | (cases ‹BOp.fdiv = _›; done) | skip
  · split at e
    · rename_i hz
      cases e; cases r1; cases r2
      rcases hz with ⟨h0, hz | hz⟩
      · exact op_fdiv pins s σ H _ _ v u Q I rx ry ⟨_, _, rfl, rfl, ⟨h0, hz⟩, q _ _ _ (Ext.refl le) (.int _)⟩
      · exact op_fdivW pins s σ H _ _ v u Q I rx ry ⟨_, _, rfl, rfl, ⟨h0, hz⟩, q _ _ _ (Ext.refl le) (.int _)⟩
    · cases e
  all_goals first | (cases e; done) | skip
theorem o_mod : OpR X (binaryOp .Mod) (rB g (dBin .mod)) := by
  intro pins s σ H x y v u Q I rx ry h
  obtain ⟨F, d1, d2, d, le, r1, r2, e, q⟩ := h
  unfold dBin at e
  split at e <;> first | (cases ‹BOp.mod = _›; done) | skip
  · split at e
    · rename_i hz
      cases e; cases r1; cases r2
      exact op_mod pins s σ H _ _ v u Q I rx ry ⟨_, _, rfl, rfl, hz, q _ _ _ (Ext.refl le) (.int _)⟩
    · cases e
  all_goals first | (cases e; done) | skip
theorem o_pow : OpR X (binaryOp .Pow) (rB g (dBin .pow)) := by
  intro pins s σ H x y v u Q I rx ry h
  obtain ⟨F, d1, d2, d, le, r1, r2, e, q⟩ := h
  unfold dBin at e
  split at e <;> first | (cases ‹BOp.pow = _›; done) | skip
  · split at e
    · rename_i hz
      cases e; cases r1; cases r2
      refine op_pow pins s σ H _ _ v u Q I rx ry ⟨_, _, rfl, rfl, ⟨hz.1, by omega, ?_⟩, q _ _ _ (Ext.refl le) (.int _)⟩
      have hs := hz.2.2
      simp only [small64, Bool.and_eq_true, decide_eq_true_eq] at hs
      omega
    · cases e
  all_goals first | (cases e; done) | skip
end
end JH

/-! JF2: dicts: keys, look-ups, stores. -/
namespace JH
open PySem PySem.Spec PyProof.Rows L2
theorem toKey_inj {a b : Sum Int (List Nat)} (h : toKey a = toKey b) : a = b := by
  cases a <;> cases b <;> simp [toKey] at h ⊢
  · exact h
  · exact h
theorem kIdx_valV {κ κ' : Type} [DecidableEq κ] [DecidableEq κ'] {f : κ → κ'} (hf : ∀ a b, f a = f b → a = b) : ∀ {kvs : List (κ' × V)} {ks : List κ}, kvs.map (·.1) = ks.map f → ∀ k, valV kvs (f k) = (kIdx ks k).bind fun j => (kvs.map (·.2))[j]?
  | [], [], _, k => rfl
  | [], _ :: _, h, _ => by simp at h
  | _ :: _, [], h, _ => by simp at h
  | p :: kvs, a :: ks, h, k => by
    simp only [List.map_cons, List.cons.injEq] at h
    unfold kIdx
    by_cases e : a = k
    · rw [if_pos e, valV_pos (by rw [h.1, e])]
      rfl
    · rw [if_neg e, valV_neg (by rw [h.1]; exact fun z => e (hf _ _ z)), kIdx_valV hf h.2 k]
      cases kIdx ks k <;> rfl
theorem kIdx_any {κ κ' : Type} [DecidableEq κ] [DecidableEq κ'] {f : κ → κ'} (hf : ∀ a b, f a = f b → a = b) : ∀ {kvs : List (κ' × V)} {ks : List κ}, kvs.map (·.1) = ks.map f → ∀ k, (kvs.any fun kv => decide (kv.1 = f k)) = (kIdx ks k).isSome
  | [], [], _, k => rfl
  | [], _ :: _, h, _ => by simp at h
  | _ :: _, [], h, _ => by simp at h
  | p :: kvs, a :: ks, h, k => by
    simp only [List.map_cons, List.cons.injEq] at h
    unfold kIdx
    rw [List.any_cons, kIdx_any hf h.2 k, h.1]
    by_cases e : a = k
    · rw [if_pos e, decide_eq_true (by rw [e])]; rfl
    · rw [if_neg e, decide_eq_false (fun z => e (hf _ _ z))]
      cases kIdx ks k <;> rfl
theorem kPut_keys {κ κ' : Type} [DecidableEq κ] [DecidableEq κ'] {f : κ → κ'} (hf : ∀ a b, f a = f b → a = b) {v : V} : ∀ {kvs : List (κ' × V)} {ks : List κ}, kvs.map (·.1) = ks.map f → ∀ k, (kvs.map fun kv => if kv.1 = f k then (kv.1, v) else kv).map (·.1) = ks.map f ∧ (kvs.map fun kv => if kv.1 = f k then (kv.1, v) else kv).map (·.2) = kPut ks (kvs.map (·.2)) k v
  | [], [], _, k => ⟨rfl, rfl⟩
  | [], _ :: _, h, _ => by simp at h
  | _ :: _, [], h, _ => by simp at h
  | p :: kvs, a :: ks, h, k => by
    simp only [List.map_cons, List.cons.injEq] at h
    obtain ⟨h1, h2⟩ := kPut_keys hf (v := v) h.2 k
    simp only [List.map_cons, kPut]
    rw [h1, h2]
    by_cases e : a = k
    · rw [if_pos (by rw [h.1, e]), if_pos e]
      exact ⟨by rw [h.1], rfl⟩
    · rw [if_neg (by rw [h.1]; exact fun z => e (hf _ _ z)), if_neg e]
      exact ⟨by rw [h.1], rfl⟩
section
variable {g : SG} {H F : Hp}
theorem RMs.kPut {κ : Type} [DecidableEq κ] {k : κ} {x : D} {v : V} (r : RD g F x v) : ∀ {ks : List κ} {ms : List M} {vs : List V} {S : Addr → Prop}, RMs g H F ms vs S → RMs g H F (JH.kPut ks ms k (.d x)) (JH.kPut ks vs k v) S
  | [], [], [], _, .nil => .nil
  | [], m :: ms, w :: vs, _, .cons h1 h2 h3 q t => .cons h1 h2 h3 q t
  | a :: ks, [], [], _, .nil => .nil
  | a :: ks, m :: ms, w :: vs, _, .cons h1 h2 h3 q t => by
    simp only [JH.kPut]
    by_cases e : a = k
    · rw [if_pos e, if_pos e]
      exact .cons h1 h2 h3 (.d r) (RMs.kPut r t)
    · rw [if_neg e, if_neg e]
      exact .cons h1 h2 h3 q (RMs.kPut r t)
theorem kIdx_lt {κ : Type} [DecidableEq κ] : ∀ {ks : List κ} {k : κ} {j : Nat}, kIdx ks k = some j → j < ks.length
  | [], _, _, h => by cases h
  | a :: ks, k, j, h => by
    unfold kIdx at h
    split at h
    · cases h; exact Nat.succ_pos _
    · obtain ⟨i, e, rfl⟩ := Option.map_eq_some_iff.mp h
      exact Nat.succ_lt_succ (kIdx_lt e)
theorem key_of_d {F : Hp} {y : D} {v : V} {k : Sum Int (List Nat)} (r : RD g F y v) (h : toK y = some k) : v = kV (toKey k) := by
  cases r <;> first | (cases h; done) | skip
  · cases h; rfl
  · cases h; rfl
end
section
variable {X : Cx}
/-- d[k], there -/
def rIxDk : R2 := fun x y H Q => ∃ a v, x = .ref a ∧ DGet H a y (some v) ∧ Q v H
theorem ix_dict (hu : X.A.units + 64 < cLine) : IxR X rIxDk := by
  intro value slice pins s σ H x y v u Q I rx ry h hs
  obtain ⟨a, r, rfl, gt, q⟩ := h
  obtain rfl : v = Value.ref a := rx
  exact tail_any (dict_typeIs I gt) PySem.F.slot_dict_getitem.lookup (d_getItem (by omega) I gt ry fun w' s' I' rw' => ⟨r, H, I', rw', q⟩) hs
end
end JH

/-! JB3: comparisons, indices, slices, built-in functions on data. -/
namespace JH
open PySem PySem.Spec PyProof.Rows L2
section
variable {g : SG} {X : Cx}
def rC (g : SG) (f : D → D → Option Bool) : R2 := fun x y H Q => ∃ F d1 d2 b, LeH F H ∧ RD g F d1 x ∧ RD g F d2 y ∧ f d1 d2 = some b ∧ Q (.bl b) H
theorem scal_of {F : Hp} {d e : D} {x y : V} (r1 : RD g F d x) (r2 : RD g F e y) (h : D.scal d e = true) : scal x y = true ∧ decide (x = y) = D.eqv d e := by
  cases r1 <;> cases r2 <;> first
    | (simp [D.scal] at h; done)
    | (refine ⟨rfl, ?_⟩; simp only [D.eqv]; first | rfl | (exact dec_int) | (exact dec_bl) | (rw [dec_str]; exact str_beq _ _) | simp)
theorem dEq_of {d e : D} {b : Bool} (h : dEq d e = some b) : (D.scal d e = true ∨ (D.cmpOk d = true ∧ D.cmpOk e = true)) ∧ b = D.eqv d e := by
  unfold dEq at h
  split at h
  · rename_i hc
    rw [Bool.or_eq_true, Bool.and_eq_true] at hc
    cases h
    exact ⟨hc, rfl⟩
  · cases h
theorem o_eq (hK : X.K = g.K) (hu : X.A.units + 64 < cLine) : OpR X (compareOp .Eq) (rC g dEq) := by
  intro pins s σ H x y v u Q I rx ry h
  obtain ⟨F, d1, d2, b, le, r1, r2, e, q⟩ := h
  obtain ⟨hc, rfl⟩ := dEq_of e
  rcases hc with hc | ⟨h1, h2⟩
  · obtain ⟨hs, hd⟩ := scal_of r1 r2 hc
    exact op_eq pins s σ H _ _ v u Q I rx ry ⟨hs, by rw [hd]; exact q⟩
  · refine op_eqD hu pins s σ H _ _ v u Q I rx ry ⟨d1.py, d2.py, ?_, ?_, shaped_of h1, shaped_of h2, by rw [D.py_eqv _ _ (plain_of h1) (plain_of h2)]; exact q⟩
    · rw [hK]; exact RD.dp (r1.mono le) (plain_of h1)
    · rw [hK]; exact RD.dp (r2.mono le) (plain_of h2)
theorem o_ne (hK : X.K = g.K) (hu : X.A.units + 64 < cLine) : OpR X (compareOp .NotEq) (rC g fun x y => (dEq x y).map not) := by
  intro pins s σ H x y v u Q I rx ry h
  obtain ⟨F, d1, d2, b, le, r1, r2, e, q⟩ := h
  obtain ⟨b', e', rfl⟩ := Option.map_eq_some_iff.mp e
  obtain ⟨hc, rfl⟩ := dEq_of e'
  rcases hc with hc | ⟨h1, h2⟩
  · obtain ⟨hs, hd⟩ := scal_of r1 r2 hc
    exact op_ne pins s σ H _ _ v u Q I rx ry ⟨hs, by rw [hd]; exact q⟩
  · refine op_neD hu pins s σ H _ _ v u Q I rx ry ⟨d1.py, d2.py, ?_, ?_, shaped_of h1, shaped_of h2, by rw [D.py_eqv _ _ (plain_of h1) (plain_of h2)]; exact q⟩
    · rw [hK]; exact RD.dp (r1.mono le) (plain_of h1)
    · rw [hK]; exact RD.dp (r2.mono le) (plain_of h2)
theorem flat_of {F : Hp} {d : D} {x : V} (r : RD g F d x) (h : D.flat d = true) : flatV x = true := by
  cases r <;> first | rfl | (simp [D.flat] at h)
theorem flats_of {F : Hp} : ∀ {ds : List D} {vs : List V}, RDs g F ds vs → ds.all D.flat = true → vs.all flatV = true
  | _, _, .nil, _ => rfl
  | _, _, .cons r t, h => by
    simp only [List.all_cons, Bool.and_eq_true] at h ⊢
    exact ⟨flat_of r h.1, flats_of t h.2⟩
theorem eqv_of {F : Hp} {d e : D} {x y : V} (r1 : RD g F d x) (r2 : RD g F e y) (h : D.flat d = true) (h2 : D.flat e = true) : eqV x y = D.eqv d e := by
  cases r1 <;> cases r2 <;> first
    | (simp [D.flat] at h; done)
    | (simp [D.flat] at h2; done)
    | (simp only [D.eqv, eqV]; first | rfl | exact str_beq _ _)
    | rfl
theorem inv_of {F : Hp} {e : D} {y : V} (r : RD g F e y) (h : D.flat e = true) : ∀ {ds : List D} {vs : List V}, RDs g F ds vs → ds.all D.flat = true → inV y vs = ds.any fun z => D.eqv z e
  | _, _, .nil, _ => rfl
  | _, _, .cons q t, hd => by
    simp only [List.all_cons, Bool.and_eq_true] at hd
    have ih := inv_of r h t hd.2
    simp only [inV, List.any_cons] at ih ⊢
    rw [ih, eqv_of q r hd.1 h]
theorem items_of {F : Hp} {d : D} {v : V} {ds : List D} (r : RD g F d v) (h : D.items d = some ds) : ∃ p vs, v = .ref p ∧ (SqL g.K F p vs ∨ SqT g.K F p vs) ∧ RDs g F ds vs ∧ vs.length ≤ sizeLine := by
  cases r with
  | tup h1 z q => cases h; exact ⟨_, _, rfl, .inr h1, q, z⟩
  | lst h1 z q => cases h; exact ⟨_, _, rfl, .inl (SqL.of h1), q, z⟩
  | scr h1 z => cases h; exact ⟨_, _, rfl, .inl h1, RDs.ofInts _, by simpa using z⟩
  | _ => cases h
theorem o_in (hK : X.K = g.K) : OpR X (compareOp .In) (rC g fun x y => (D.items y).bind (dIn x)) := by
  intro pins s σ H x y v u Q I rx ry h
  obtain ⟨F, d1, d2, b, le, r1, r2, e, q⟩ := h
  obtain ⟨ds, e1, e2⟩ := Option.bind_eq_some_iff.mp e
  obtain ⟨p, vs, rfl, hs, rs, _⟩ := items_of r2 e1
  unfold dIn at e2
  split at e2
  · rename_i hc
    cases e2
    rw [Bool.and_eq_true] at hc
    refine op_in_seq pins s σ H _ _ v u Q I rx ry ⟨p, vs, rfl, ?_, flat_of r1 hc.1, flats_of rs hc.2, ?_⟩
    · rw [hK]; exact hs.imp (fun h => SqL.mono h le) fun h => SqT.mono h le
    · rw [if_neg Bool.false_ne_true, inv_of r1 hc.1 rs hc.2]; exact q
  · cases e2
theorem o_notin (hK : X.K = g.K) : OpR X (compareOp .NotIn) (rC g fun x y => ((D.items y).bind (dIn x)).map not) := by
  intro pins s σ H x y v u Q I rx ry h
  obtain ⟨F, d1, d2, b, le, r1, r2, e, q⟩ := h
  obtain ⟨b', e', rfl⟩ := Option.map_eq_some_iff.mp e
  obtain ⟨ds, e1, e2⟩ := Option.bind_eq_some_iff.mp e'
  obtain ⟨p, vs, rfl, hs, rs, _⟩ := items_of r2 e1
  unfold dIn at e2
  split at e2
  · rename_i hc
    cases e2
    rw [Bool.and_eq_true] at hc
    refine op_notIn_seq pins s σ H _ _ v u Q I rx ry ⟨p, vs, rfl, ?_, flat_of r1 hc.1, flats_of rs hc.2, ?_⟩
    · rw [hK]; exact hs.imp (fun h => SqL.mono h le) fun h => SqT.mono h le
    · rw [if_pos rfl, inv_of r1 hc.1 rs hc.2]; exact q
  · cases e2
/-- comparisons of ints -/
theorem o_int {op : CmpOp} {c : COp} {p : Int → Int → Bool} (ho : OpR X (compareOp op) (rI0 fun i j => .bl (p i j))) (hc : ∀ d1 d2 b, dCmp c d1 d2 = some b → ∃ i j, d1 = .int i ∧ d2 = .int j ∧ b = p i j) : OpR X (compareOp op) (rC g (dCmp c)) := fun pins s σ H x y v u Q I rx ry h => by
  obtain ⟨F, d1, d2, b, le, r1, r2, e, q⟩ := h
  obtain ⟨i, j, rfl, rfl, rfl⟩ := hc _ _ _ e
  cases r1; cases r2
  exact ho pins s σ H _ _ v u Q I rx ry ⟨_, _, rfl, rfl, q⟩
def COp.py : COp → CmpOp
  | .eq => .Eq | .ne => .NotEq | .lt => .Lt | .le => .LtE | .gt => .Gt | .ge => .GtE | .isin => .In | .notin => .NotIn
theorem o_cmp (hK : X.K = g.K) (hu : X.A.units + 64 < cLine) : ∀ op : COp, OpR X (compareOp op.py) (rC g (dCmp op))
  | .eq => o_eq hK hu
  | .ne => o_ne hK hu
  | .isin => o_in hK
  | .notin => o_notin hK
  | .lt => o_int op_lt fun d1 d2 b e => by
    cases d1 <;> cases d2 <;> first | (simp [dCmp] at e; done) | exact ⟨_, _, rfl, rfl, (Option.some.inj e).symm⟩
  | .le => o_int op_le fun d1 d2 b e => by
    cases d1 <;> cases d2 <;> first | (simp [dCmp] at e; done) | exact ⟨_, _, rfl, rfl, (Option.some.inj e).symm⟩
  | .gt => o_int op_gt fun d1 d2 b e => by
    cases d1 <;> cases d2 <;> first | (simp [dCmp] at e; done) | exact ⟨_, _, rfl, rfl, (Option.some.inj e).symm⟩
  | .ge => o_int op_ge fun d1 d2 b e => by
    cases d1 <;> cases d2 <;> first | (simp [dCmp] at e; done) | exact ⟨_, _, rfl, rfl, (Option.some.inj e).symm⟩
def BOp.py : BOp → Operator
  | .add => .Add | .sub => .Sub | .mul => .Mult | .fdiv => .FloorDiv | .mod => .Mod | .pow => .Pow
theorem o_bin (hK : X.K = g.K) : ∀ op : BOp, OpR X (binaryOp op.py) (rB g (dBin op))
  | .add => o_add hK
  | .sub => o_sub
  | .mul => o_mul hK
  | .fdiv => o_fdiv
  | .mod => o_mod
  | .pow => o_pow
/-- an item, by values -/
theorem o_idx (hK : X.K = g.K) (hu : X.A.units + 64 < cLine) : IxR X (rB g dIdx) := by
  intro value slice pins s σ H x y v u Q I rx ry h hsub
  obtain ⟨F, d1, d2, d, le, r1, r2, e, q⟩ := h
  unfold dIdx at e
  split at e
  · cases r2
    cases r1 with
    | tup h1 z1 q1 =>
      obtain ⟨w, e2, rw'⟩ := at_of q1 e
      refine ix_tup value slice pins s σ H _ _ v u Q I rx ry ⟨_, _, _, w, rfl, rfl, by rw [hK]; exact SqT.mono h1 le, e2, q _ _ _ (Ext.refl le) rw'⟩ hsub
  · cases r2
    cases r1 with
    | lst h1 z1 q1 =>
      obtain ⟨w, e2, rw'⟩ := at_of q1 e
      refine ix_list value slice pins s σ H _ _ v u Q I rx ry ⟨_, _, _, w, rfl, rfl, SqL.mono (SqL.of h1) le, e2, q _ _ _ (Ext.refl le) rw'⟩ hsub
  · cases r2
    cases r1 with
    | scr h1 z1 =>
      rename_i ns i a
      have e' : ((ixD (ns.map D.int).length i).bind fun j => (ns.map D.int)[j]?) = some d := by
        rw [List.length_map]
        obtain ⟨j, e1, e2⟩ := Option.bind_eq_some_iff.mp e
        rw [e1]
        simpa using e2
      obtain ⟨w, e2, rw'⟩ := at_of (RDs.ofInts (g := g) (F := F) ns) e'
      refine ix_list value slice pins s σ H _ _ v u Q I rx ry ⟨_, _, _, w, rfl, rfl, by rw [hK]; exact SqL.mono h1 le, e2, q _ _ _ (Ext.refl le) rw'⟩ hsub
  · cases r1 with
    | dk h1 z1 q1 =>
      obtain ⟨k, ek, e⟩ := Option.bind_eq_some_iff.mp e
      obtain ⟨j, ej, e⟩ := Option.bind_eq_some_iff.mp e
      obtain ⟨w, hw, rw'⟩ := q1.get e
      refine ix_dict hu value slice pins s σ H _ _ v u Q I rx ry ⟨_, w, rfl, ?_, q _ _ _ (Ext.refl le) rw'⟩ hsub
      have := DGet.k (k := toKey k) (le _ _ h1)
      rw [kIdx_valV (fun a b => toKey_inj) z1 k, ej] at this
      rw [key_of_d r2 ek, ← hw]
      exact this
  · cases e
/-- a slice -/
def rSl (g : SG) : V → Option Int → Option Int → Hp → VK → Prop := fun x lo hi H Q => ∃ F d1 d, LeH F H ∧ RD g F d1 x ∧ dSlc d1 lo hi = some d ∧ ∀ v H' F', Ext H F H' F' → RD g F' d v → Q v H'
theorem cut_whole {xs : List V} {lo hi : Option Int} (h : HT.sIx xs.length 0 lo = 0 ∧ HT.sIx xs.length xs.length hi = xs.length) : cutV xs lo hi = xs := by
  unfold cutV
  rw [h.1, h.2]
  simp
theorem o_slc (hK : X.K = g.K) : SlR X (rSl g) := by
  intro pins s σ H x v vl vu lo hi sl Q I rx hs pl pu h
  obtain ⟨F, d1, d, le, r1, e, q⟩ := h
  unfold dSlc at e
  split at e
  · cases e
    cases r1 with
    | tup h1 z1 q1 =>
      rename_i a vs
      refine sl_tupA pins s σ H _ v vl vu lo hi sl Q I rx hs pl pu ⟨a, vs, rfl, by rw [hK]; exact SqT.mono h1 le, fun hw => ?_, fun hw p np => ?_⟩
      · have k := cutD_map q1 lo hi
        rw [cut_whole hw] at k
        exact q _ _ _ (Ext.refl le) (.tup h1 z1 k)
      · have x := Ext.laid (o := .tup (cutV vs lo hi)) le np
        exact q _ _ _ x (.tup (SqT.of upd_same) (Nat.le_trans (cutV_length _ _ _) z1) ((cutD_map q1 lo hi).mono x.ff))
  · cases e
    cases r1 with
    | lst h1 z1 q1 =>
      rename_i a vs
      refine sl_list pins s σ H _ v vl vu lo hi sl Q I rx hs pl pu ⟨a, vs, rfl, SqL.mono (SqL.of h1) le, fun p np => ?_⟩
      have x := Ext.laid (o := .lst (cutV vs lo hi)) le np
      exact q _ _ _ x (.lst upd_same (Nat.le_trans (cutV_length _ _ _) z1) ((cutD_map q1 lo hi).mono x.ff))
  · cases e
/-- built-in functions of one argument -/
def rF1 (g : SG) (f : D → Option D) : List V → Hp → VK → Prop := fun xs H Q => ∃ x F d1 d, xs = [x] ∧ LeH F H ∧ RD g F d1 x ∧ f d1 = some d ∧ ∀ v H' F', Ext H F H' F' → RD g F' d v → Q v H'
def rF2 (g : SG) (f : D → D → Option D) : List V → Hp → VK → Prop := fun xs H Q => ∃ x y F d1 d2 d, xs = [x, y] ∧ LeH F H ∧ RD g F d1 x ∧ RD g F d2 y ∧ f d1 d2 = some d ∧ ∀ v H' F', Ext H F H' F' → RD g F' d v → Q v H'
theorem f_len (hK : X.K = g.K) : CallR X (.builtin "len") (rF1 g (dB1 .len)) := by
  intro pins s σ H xs us Q I r h
  obtain ⟨x, F, d1, d, rfl, le, r1, e, q⟩ := h
  cases r1 <;> first | (simp [dB1] at e; done) | skip
  · cases e
    rename_i a vs ds h1 z1 q1
    exact call_len_seq pins s σ H _ us Q I r ⟨a, vs, rfl, .inr (by rw [hK]; exact SqT.mono h1 le), by rw [← q1.length]; exact q _ _ _ (Ext.refl le) (.int _)⟩
  · cases e
    rename_i a vs ds h1 z1 q1
    exact call_len_seq pins s σ H _ us Q I r ⟨a, vs, rfl, .inl (SqL.mono (SqL.of h1) le), by rw [← q1.length]; exact q _ _ _ (Ext.refl le) (.int _)⟩
  · cases e
    rename_i a kvs ks vs h1 z1 q1
    have e : kvs.length = ks.length := by have := congrArg List.length z1; simpa using this
    exact call_lenD pins s σ H _ us Q I r ⟨a, kvs, rfl, le _ _ h1, by rw [e]; exact q _ _ _ (Ext.refl le) (.int _)⟩
  · cases e
    rename_i a ns h1 z1
    refine call_len_seq pins s σ H _ us Q I r ⟨a, _, rfl, .inl (by rw [hK]; exact SqL.mono h1 le), ?_⟩
    rw [List.length_map]
    exact q _ _ _ (Ext.refl le) (.int _)
theorem f_tuple (hK : X.K = g.K) : CallR X (.type "tuple") (rF1 g (dB1 .tuple)) := by
  intro pins s σ H xs us Q I r h
  obtain ⟨x, F, d1, d, rfl, le, r1, e, q⟩ := h
  cases r1 <;> first | (simp [dB1] at e; done) | skip
  · cases e
    rename_i a vs ds h1 z1 q1
    exact call_tuple_of pins s σ H _ us Q I r ⟨a, vs, rfl, .inr ⟨by rw [hK]; exact SqT.mono h1 le, q _ _ _ (Ext.refl le) (.tup h1 z1 q1)⟩⟩
  · cases e
    rename_i a vs ds h1 z1 q1
    refine call_tuple_of pins s σ H _ us Q I r ⟨a, vs, rfl, .inl ⟨SqL.mono (SqL.of h1) le, fun p np => ?_⟩⟩
    have x := Ext.laid (o := .tup vs) le np
    exact q _ _ _ x (.tup (SqT.of upd_same) z1 (q1.mono x.ff))
theorem f_list (hK : X.K = g.K) : CallR X (.type "list") (rF1 g (dB1 .list)) := by
  intro pins s σ H xs us Q I r h
  obtain ⟨x, F, d1, d, rfl, le, r1, e, q⟩ := h
  cases r1 <;> first | (simp [dB1] at e; done) | skip
  · cases e
    rename_i a vs ds h1 z1 q1
    refine call_list_of pins s σ H _ us Q I r ⟨a, vs, rfl, .inr (by rw [hK]; exact SqT.mono h1 le), fun p np => ?_⟩
    have x := Ext.laid (o := .lst vs) le np
    exact q _ _ _ x (.lst upd_same z1 (q1.mono x.ff))
  · cases e
    rename_i a vs ds h1 z1 q1
    refine call_list_of pins s σ H _ us Q I r ⟨a, vs, rfl, .inl (SqL.mono (SqL.of h1) le), fun p np => ?_⟩
    have x := Ext.laid (o := .lst vs) le np
    exact q _ _ _ x (.lst upd_same z1 (q1.mono x.ff))
  · cases e
    rename_i a ns h1 z1
    refine call_list_of pins s σ H _ us Q I r ⟨a, _, rfl, .inl (by rw [hK]; exact SqL.mono h1 le), fun p np => ?_⟩
    have x := Ext.laid (o := .lst (ns.map V.int)) le np
    exact q _ _ _ x (.lst upd_same (by rw [List.length_map]; exact z1) (RDs.ofInts ns))
theorem f_int : CallR X (.type "int") (rF1 g (dB1 .int)) := by
  intro pins s σ H xs us Q I r h
  obtain ⟨x, F, d1, d, rfl, le, r1, e, q⟩ := h
  cases r1 <;> first | (simp [dB1] at e; done) | skip
  · cases e
    exact call_int1 pins s σ H _ us Q I r (.inr ⟨_, rfl, q _ _ _ (Ext.refl le) (.int _)⟩)
  · cases e
    exact call_int1 pins s σ H _ us Q I r (.inl ⟨_, rfl, q _ _ _ (Ext.refl le) (.int _)⟩)
theorem f_str : CallR X (.type "str") (rF1 g (dB1 .str)) := by
  intro pins s σ H xs us Q I r h
  obtain ⟨x, F, d1, d, rfl, le, r1, e, q⟩ := h
  cases r1 <;> first | (simp [dB1] at e; done) | skip
  · simp only [dB1] at e
    cases e
    obtain ⟨u, rfl, ru⟩ := vals1 r
    rename_i b
    obtain rfl : u = Value.bool b := ru
    refine PySem.P.str_of_bool ⟨.str (if b then "True" else "False"), H, I.tok _, ⟨_, rfl⟩, ?_⟩
    refine q _ _ F (Ext.refl le) ?_
    cases b
    · exact RD.str (g := g) (F := F) [70, 97, 108, 115, 101]
    · exact RD.str (g := g) (F := F) [84, 114, 117, 101]
  simp only [dB1] at e
  split at e
  · rename_i i hl
    cases e
    refine call_str_int pins s σ H _ us Q I r ⟨_, rfl, hl, ?_⟩
    have := q (.str (Str.ofString (toString i))) H F (Ext.refl le)
    exact this (by
      have z := RD.str (g := g) (F := F) (Str.ofString (toString i)).cps.toList
      have e : (⟨(Str.ofString (toString i)).cps.toList.toArray⟩ : Str) = Str.ofString (toString i) := by simp
      rw [e] at z
      exact z)
  · cases e
theorem f_abs : CallR X (.builtin "abs") (rF1 g (dB1 .abs)) := by
  intro pins s σ H xs us Q I r h
  obtain ⟨x, F, d1, d, rfl, le, r1, e, q⟩ := h
  cases r1 <;> first | (simp [dB1] at e; done) | skip
  cases e
  exact call_abs pins s σ H _ us Q I r ⟨_, rfl, q _ _ _ (Ext.refl le) (.int _)⟩
theorem f_sum (hc : X.calm = true) : CallR X (.builtin "sum") (rF1 g (dB1 .sum)) := by
  intro pins s σ H xs us Q I r h
  obtain ⟨x, F, d1, d, rfl, le, r1, e, q⟩ := h
  cases r1 <;> first | (simp [dB1] at e; done) | skip
  rename_i a vs ds h1 z1 q1
  obtain ⟨ns, e1, rfl⟩ := Option.map_eq_some_iff.mp e
  have ev := q1.ints e1
  subst ev
  exact cr_sum hc pins s σ H _ us Q I r ⟨a, ns, rfl, SqL.mono (SqL.of h1) le, q _ _ _ (Ext.refl le) (.int _)⟩
theorem f_all (hc : X.calm = true) : CallR X (.builtin "all") (rF1 g (dB1 .all)) := by
  intro pins s σ H xs us Q I r h
  obtain ⟨x, F, d1, d, rfl, le, r1, e, q⟩ := h
  cases r1 <;> first | (simp [dB1] at e; done) | skip
  rename_i a vs ds h1 z1 q1
  obtain ⟨ns, e1, rfl⟩ := Option.map_eq_some_iff.mp e
  have ev := q1.bls e1
  subst ev
  exact cr_all hc pins s σ H _ us Q I r ⟨a, ns, rfl, SqL.mono (SqL.of h1) le, q _ _ _ (Ext.refl le) (.bl _)⟩
theorem f_any (hc : X.calm = true) : CallR X (.builtin "any") (rF1 g (dB1 .any)) := by
  intro pins s σ H xs us Q I r h
  obtain ⟨x, F, d1, d, rfl, le, r1, e, q⟩ := h
  cases r1 <;> first | (simp [dB1] at e; done) | skip
  rename_i a vs ds h1 z1 q1
  obtain ⟨ns, e1, rfl⟩ := Option.map_eq_some_iff.mp e
  have ev := q1.bls e1
  subst ev
  exact cr_any hc pins s σ H _ us Q I r ⟨a, ns, rfl, SqL.mono (SqL.of h1) le, q _ _ _ (Ext.refl le) (.bl _)⟩
theorem ins_perm (x : Int) : ∀ xs : List Int, (isort.ins x xs).Perm (x :: xs)
  | [] => List.Perm.refl _
  | y :: ys => by
    unfold isort.ins
    split
    · exact List.Perm.refl _
    · exact ((ins_perm x ys).cons y).trans (List.Perm.swap x y ys)
theorem isort_perm : ∀ xs : List Int, (isort xs).Perm xs
  | [] => List.Perm.refl _
  | x :: xs => (ins_perm x (isort xs)).trans ((isort_perm xs).cons x)
theorem ins_sorted (x : Int) : ∀ xs : List Int, xs.Pairwise (· ≤ ·) → (isort.ins x xs).Pairwise (· ≤ ·)
  | [], _ => by simp [isort.ins]
  | y :: ys, h => by
    have hc := List.pairwise_cons.mp h
    unfold isort.ins
    split
    · rename_i hx
      refine List.pairwise_cons.mpr ⟨fun z hz => ?_, h⟩
      rcases List.mem_cons.mp hz with e | hz
      · subst e; exact hx
      · have := hc.1 z hz; omega
    · refine List.pairwise_cons.mpr ⟨fun z hz => ?_, ins_sorted x ys hc.2⟩
      rcases List.mem_cons.mp ((ins_perm x ys).mem_iff.mp hz) with e | hz
      · subst e; omega
      · exact hc.1 z hz
theorem isort_sorted : ∀ xs : List Int, (isort xs).Pairwise (· ≤ ·)
  | [] => List.Pairwise.nil
  | x :: xs => ins_sorted x _ (isort_sorted xs)
theorem sorted_unique : ∀ {xs ys : List Int}, xs.Perm ys → xs.Pairwise (· ≤ ·) → ys.Pairwise (· ≤ ·) → xs = ys := by
  intro xs
  induction xs with
  | nil => intro ys p _ _; exact p.symm.eq_nil.symm
  | cons x xs ih =>
    intro ys p h1 h2
    cases ys with
    | nil => exact absurd p.eq_nil (by simp)
    | cons y ys =>
      have c1 := List.pairwise_cons.mp h1
      have c2 := List.pairwise_cons.mp h2
      have e : x = y := by
        rcases List.mem_cons.mp (p.mem_iff.mp List.mem_cons_self) with e | hx
        · exact e
        · rcases List.mem_cons.mp (p.mem_iff.mpr (List.mem_cons_self (a := y) (l := ys))) with e | hy
          · exact e.symm
          · have := c1.1 y hy
            have := c2.1 x hx
            omega
      subst e
      rw [ih ((List.perm_cons x).mp p) c1.2 c2.2]
theorem f_sorted : CallR X (.builtin "sorted") (rF1 g (dB1 .sorted)) := by
  intro pins s σ H xs us Q I r h
  obtain ⟨x, F, d1, d, rfl, le, r1, e, q⟩ := h
  cases r1 <;> first | (simp [dB1] at e; done) | skip
  rename_i a vs ds h1 z1 q1
  obtain ⟨ns, e1, rfl⟩ := Option.map_eq_some_iff.mp e
  have ev := q1.ints e1
  subst ev
  refine cr_sortedI pins s σ H _ us Q I r ⟨a, ns, rfl, SqL.mono (SqL.of h1) le, fun ns' p hp hs np => ?_⟩
  have en : ns' = isort ns := sorted_unique (hp.trans (isort_perm ns).symm) hs (isort_sorted ns)
  subst en
  have x := Ext.laid (o := .lst ((isort ns).map V.int)) le np
  exact q _ _ _ x (.lst upd_same (by rw [List.length_map, (isort_perm ns).length_eq]; simpa using z1) (RDs.ofInts _))
theorem maxI_of {ns : List Int} {k : Int} (e : maxI ns = some k) : 0 < ns.length ∧ ∀ m, m ∈ ns → (∀ y, y ∈ ns → y ≤ m) → m = k := by
  have a := List.find?_some e
  have b := List.mem_of_find?_eq_some e
  have a := List.all_eq_true.mp a
  refine ⟨List.length_pos_of_mem b, fun m h1 h2 => ?_⟩
  have := of_decide_eq_true (a m h1)
  have := h2 k b
  omega
theorem minI_of {ns : List Int} {k : Int} (e : minI ns = some k) : 0 < ns.length ∧ ∀ m, m ∈ ns → (∀ y, y ∈ ns → m ≤ y) → m = k := by
  have a := List.find?_some e
  have b := List.mem_of_find?_eq_some e
  have a := List.all_eq_true.mp a
  refine ⟨List.length_pos_of_mem b, fun m h1 h2 => ?_⟩
  have := of_decide_eq_true (a m h1)
  have := h2 k b
  omega
theorem f_max1 (hK : X.K = g.K) (hc : X.calm = true) : CallR X (.builtin "max") (rF1 g (dB1 .max)) := by
  intro pins s σ H xs us Q I r h
  obtain ⟨x, F, d1, d, rfl, le, r1, e, q⟩ := h
  cases r1 <;> first | (simp [dB1] at e; done) | skip
  · rename_i a vs ds h1 z1 q1
    obtain ⟨ns, e1, e2⟩ := Option.bind_eq_some_iff.mp e
    obtain ⟨k, e3, rfl⟩ := Option.map_eq_some_iff.mp e2
    obtain rfl := q1.ints e1
    obtain ⟨hl, hu⟩ := maxI_of e3
    refine cr_maxT hc pins s σ H _ us Q I r ⟨a, ns, rfl, by rw [hK]; exact SqT.mono h1 le, hl, fun m m1 m2 => ?_⟩
    obtain rfl := hu m m1 m2
    exact q _ _ _ (Ext.refl le) (.int _)
  · rename_i a vs ds h1 z1 q1
    obtain ⟨ns, e1, e2⟩ := Option.bind_eq_some_iff.mp e
    obtain ⟨k, e3, rfl⟩ := Option.map_eq_some_iff.mp e2
    obtain rfl := q1.ints e1
    obtain ⟨hl, hu⟩ := maxI_of e3
    refine cr_max hc pins s σ H _ us Q I r ⟨a, ns, rfl, SqL.mono (SqL.of h1) le, hl, fun m m1 m2 => ?_⟩
    obtain rfl := hu m m1 m2
    exact q _ _ _ (Ext.refl le) (.int _)
theorem f_min1 (hK : X.K = g.K) (hc : X.calm = true) : CallR X (.builtin "min") (rF1 g (dB1 .min)) := by
  intro pins s σ H xs us Q I r h
  obtain ⟨x, F, d1, d, rfl, le, r1, e, q⟩ := h
  cases r1 <;> first | (simp [dB1] at e; done) | skip
  · rename_i a vs ds h1 z1 q1
    obtain ⟨ns, e1, e2⟩ := Option.bind_eq_some_iff.mp e
    obtain ⟨k, e3, rfl⟩ := Option.map_eq_some_iff.mp e2
    obtain rfl := q1.ints e1
    obtain ⟨hl, hu⟩ := minI_of e3
    refine cr_minT hc pins s σ H _ us Q I r ⟨a, ns, rfl, by rw [hK]; exact SqT.mono h1 le, hl, fun m m1 m2 => ?_⟩
    obtain rfl := hu m m1 m2
    exact q _ _ _ (Ext.refl le) (.int _)
  · rename_i a vs ds h1 z1 q1
    obtain ⟨ns, e1, e2⟩ := Option.bind_eq_some_iff.mp e
    obtain ⟨k, e3, rfl⟩ := Option.map_eq_some_iff.mp e2
    obtain rfl := q1.ints e1
    obtain ⟨hl, hu⟩ := minI_of e3
    refine cr_min hc pins s σ H _ us Q I r ⟨a, ns, rfl, SqL.mono (SqL.of h1) le, hl, fun m m1 m2 => ?_⟩
    obtain rfl := hu m m1 m2
    exact q _ _ _ (Ext.refl le) (.int _)
theorem f_max2 (hc : X.calm = true) : CallR X (.builtin "max") (rF2 g (dB2 .max)) := by
  intro pins s σ H xs us Q I r h
  obtain ⟨x, y, F, d1, d2, d, rfl, le, r1, r2, e, q⟩ := h
  cases r1 <;> cases r2 <;> first | (simp [dB2] at e; done) | skip
  cases e
  exact call_max2 hc pins s σ H _ us Q I r ⟨_, _, rfl, q _ _ _ (Ext.refl le) (.int _)⟩
theorem f_min2 (hc : X.calm = true) : CallR X (.builtin "min") (rF2 g (dB2 .min)) := by
  intro pins s σ H xs us Q I r h
  obtain ⟨x, y, F, d1, d2, d, rfl, le, r1, r2, e, q⟩ := h
  cases r1 <;> cases r2 <;> first | (simp [dB2] at e; done) | skip
  cases e
  exact call_min2 hc pins s σ H _ us Q I r ⟨_, _, rfl, q _ _ _ (Ext.refl le) (.int _)⟩
/-! ### isinstance -/
def Ty.py : Ty → String
  | .tuple => "tuple" | .list => "list" | .int => "int" | .bool => "bool" | .str => "str" | .dict => "dict"
def D.tyName : D → String
  | .non => "NoneType" | .bl _ => "bool" | .int _ => "int" | .str _ => "str" | .tup _ => "tuple" | .lst _ => "list" | .scr _ => "list" | .dk _ _ => "dict" | .obj _ _ _ => "" | .err _ => ""
theorem tyx_of {F H : Hp} {d : D} {v : V} (r : RD g F d v) (le : LeH F H) (h : d.tyOk = true) : TyX g.K H v (.type d.tyName) := by
  cases r with
  | non => exact .base .non
  | bl b => exact .base (.bl b)
  | int i => exact .base (.int i)
  | str s => exact .base (.str _)
  | tup h1 _ _ =>
    rcases SqT.mono h1 le with (h1 | ⟨o, h1⟩) | ⟨o, its, n, h1, h2, _⟩
    · exact .base (.tup h1)
    · exact .fTuple h1
    · exact .kTuple h1 h2
  | lst h1 _ _ => exact .base (.lst (le _ _ h1))
  | scr h1 _ =>
    rcases SqL.mono h1 le with (h1 | ⟨o, h1⟩) | ⟨o, its, n, h1, h2, _⟩
    · exact .base (.lst h1)
    · exact .base (.frz h1)
    · exact .kList h1 h2
  | dk _ _ _ => simp [D.tyOk] at h
  | obj _ _ _ => simp [D.tyOk] at h
  | err _ _ => simp [D.tyOk] at h
theorem kit_of_d (d : D) (t : Ty) (h : d.tyOk = true) : kitB d.tyName t.py = some (d.isTy t) := by
  cases d <;> cases t <;> first | (simp [D.tyOk] at h; done) | (simp only [D.tyName, Ty.py, D.isTy]; decide +kernel)
theorem f_isi (hK : X.K = g.K) (t : Ty) : CallR X (.builtin "isinstance") (fun xs H Q => ∃ x F d, xs = [x, .ty t.py] ∧ LeH F H ∧ RD g F d x ∧ d.tyOk = true ∧ Q (.bl (d.isTy t)) H) := by
  intro pins s σ H xs us Q I r h
  obtain ⟨x, F, d, rfl, le, r1, ok, q⟩ := h
  exact call_isi pins s σ H _ us Q I r ⟨x, _, _, _, _, rfl, .ty _, by rw [hK]; exact tyx_of r1 le ok, kit_ty (kit_of_d d t ok), q⟩
theorem f_isi2 (hK : X.K = g.K) (t t' : Ty) : CallR X (.builtin "isinstance") (fun xs H Q => ∃ x F d tp, xs = [x, .ref tp] ∧ LeH F H ∧ RD g F d x ∧ d.tyOk = true ∧ H tp = some (.tup [.ty t.py, .ty t'.py]) ∧ Q (.bl (d.isTy t || d.isTy t')) H) := by
  intro pins s σ H xs us Q I r h
  obtain ⟨x, F, d, tp, rfl, le, r1, ok, ht, q⟩ := h
  refine call_isiT pins s σ H _ us Q I r ⟨x, tp, _, _, _, d.isTy t || d.isTy t', rfl, ht, .cons (.ty _) (.cons (.ty _) .nil), by rw [hK]; exact tyx_of r1 le ok, ?_, q⟩
  refine kitAny_cons (kit_ty (kit_of_d d t ok)) (fun e => ?_) (fun e => by rw [e]; rfl)
  rw [e, Bool.false_or]
  refine kitAny_cons (kit_ty (kit_of_d d t' ok)) (fun e => ?_) (fun e => e)
  rw [e]
  exact kitAny_nil
end
end JH

/-! JB4: each kind of expression: the evaluator's transformer is the model's. -/
namespace L2
open PySem PySem.Spec PyProof.Rows
theorem PE.imp {X : Cx} {e : Expr} {t t' : TE} (h : PE X e t) (k : ∀ σ H Q, t' σ H Q → t σ H Q) : PE X e t' := ⟨fun pins s σ H Q I q => h.run pins s σ H Q I (k _ _ _ q)⟩
theorem PT.imp {X : Cx} {e : Expr} {t t' : TT} (h : PT X e t) (k : ∀ σ H Q, t' σ H Q → t σ H Q) : PT X e t' := ⟨fun pins s σ H Q I q => h.run pins s σ H Q I (k _ _ _ q)⟩
theorem PW.imp {X : Cx} {e : Expr} {t t' : TT} (h : PW X e t) (k : ∀ σ H Q, t' σ H Q → t σ H Q) : PW X e t' := ⟨fun w pins s σ H Q I q => h.run w pins s σ H Q I (k _ _ _ q)⟩
theorem PA.imp {X : Cx} {e : List Expr} {t t' : TA} (h : PA X e t) (k : ∀ σ H Q, t' σ H Q → t σ H Q) : PA X e t' := ⟨fun p pins s σ H Q I q => h.run p pins s σ H Q I (k _ _ _ q)⟩
theorem PO.imp {X : Cx} {e : Option Expr} {t t' : TO} (h : PO X e t) (k : ∀ σ H Q, t' σ H Q → t σ H Q) : PO X e t' := ⟨fun pins s σ H Q I q => h.run pins s σ H Q I (k _ _ _ q)⟩
theorem PS.imp {X : Cx} {e : Stmt} {t t' : TS} (h : PS X e t) (k : ∀ D σ H, t' D σ H → t D σ H) : PS X e t' := ⟨fun pins s σ H D I q => h.run pins s σ H D I (k _ _ _ q)⟩
theorem PSs.imp {X : Cx} {e : List Stmt} {t t' : TS} (h : PSs X e t) (k : ∀ D σ H, t' D σ H → t D σ H) : PSs X e t' := ⟨fun pins s σ H D I q => h.run pins s σ H D I (k _ _ _ q)⟩
theorem PG.imp {X : Cx} {e : Expr} {t t' : TG} (h : PG X e t) (k : ∀ v σ H Q, t' v σ H Q → t v σ H Q) : PG X e t' := ⟨fun pins s σ H v u Q I r q => h.run pins s σ H v u Q I r (k _ _ _ _ q)⟩
theorem PI.imp {X : Cx} {tg e : Expr} {t t' : TI} (h : PI X tg e t) (k : ∀ σ H Q, t' σ H Q → t σ H Q) : PI X tg e t' := ⟨fun pins s σ H Q I q => h.run pins s σ H Q I (k _ _ _ q)⟩

end L2
namespace JH
open PySem PySem.Spec PyProof.Rows L2
/-! ### what the written form must be -/
def nStar : Expr → Bool
  | .Starred .. => false
  | _ => true
theorem starEach_of {e : Expr} (h : nStar e = true) (es : List Expr) (env : PySem.Env) : starEach (e :: es) env = (false, eval e env) :: starEach es env := by
  cases e <;> first | rfl | (simp [nStar] at h)
theorem assignEach_of {e : Expr} (h : nStar e = true) (es : List Expr) (env : PySem.Env) : (assignEach (e :: es) env) = (false, assign e env) :: assignEach es env := by
  cases e <;> first | rfl | (simp [nStar] at h)
theorem noStars (env : PySem.Env) (pos : Pos) : ∀ es : List Expr, es.all nStar = true → (backTo pos (starEach es env)).any (·.1) = false
  | [], _ => rfl
  | e :: es, h => by
    simp only [List.all_cons, Bool.and_eq_true] at h
    rw [starEach_of h.1]
    show (false || (backTo pos (starEach es env)).any (·.1)) = false
    rw [noStars env pos es h.2]
    rfl
theorem noStars' (env : PySem.Env) (pos : Pos) : ∀ es : List Expr, es.all nStar = true → (backTo pos (starEach es env)).all (fun x => !x.1) = true
  | [], _ => rfl
  | e :: es, h => by
    simp only [List.all_cons, Bool.and_eq_true] at h
    rw [starEach_of h.1]
    show (true && (backTo pos (starEach es env)).all (fun x => !x.1)) = true
    rw [noStars' env pos es h.2]
    rfl
def pIx : Expr → Bool
  | .Slice .. => false
  | _ => true
theorem plainIx_of {b : Expr} (h : pIx b = true) : PlainIx b := by
  cases b <;> first | (intro o i; rfl) | (simp [pIx] at h)
def pBase : Expr → Bool
  | .Call .. => false
  | _ => true
theorem base_of {o : Expr} (h : pBase o = true) (name : Str) (env : PySem.Env) (w : Sem Value) : attributeBase o name env w = w := by
  cases o <;> first | rfl | (simp [pBase] at h)
def pTest : Expr → Bool
  | .UnaryOp .Not _ _ => false
  | .BoolOp .. => false
  | .IfExp .. => false
  | .Compare .. => false
  | _ => true
theorem test_of {e : Expr} (h : pTest e = true) (env : PySem.Env) : ∀ whole, isTrue e env whole = (do let v ← whole; standAt e.pos; holding [v] (truthy v)) := by
  cases e <;> first | (intro _; rfl) | (simp [pTest] at h; done) | skip
  rename_i op a pos
  cases op <;> first | (intro _; rfl) | (simp [pTest] at h; done)
def pSwap : Expr → Bool
  | .ListComp .. => false | .SetComp .. => false | .DictComp .. => false
  | _ => true
theorem swap_of {e : Expr} (h : pSwap e = true) (t : Option Expr) (l : Nat) (env : PySem.Env) : swapsWith e t l env = pure false := by
  cases e <;> first | rfl | (simp [pSwap] at h)

section
variable (T : Tab) (G : Nat → Option D) (g : SG) (W : WX) (pu : Bool)
abbrev tE (ie : IE) : TE := tV g W pu (RD g) (evE T G ie)
abbrev tT (ie : IE) : TT := tV g W pu (fun _ => @Eq Bool) (evT T G ie)
abbrev tL (ie : IE) : TA := tV g W pu (RDs g) (evL T G ie)
abbrev tOf (ie : IE) : TO := tV g W pu (fun _ => @Eq (Option Int)) (evO T G ie)
def RA (g : SG) (σ : L2.St) (F : Hp) : AV → V → Prop
  | .d x, v => RD g F x v
  | .m i, v => σ[i]? = some (some v)
inductive RAs (g : SG) (σ : L2.St) (F : Hp) : List AV → List V → Prop
  | nil : RAs g σ F [] []
  | cons {a : AV} {v : V} {as : List AV} {vs : List V} : RA g σ F a v → RAs g σ F as vs → RAs g σ F (a :: as) (v :: vs)
def tAr (ie : IE) : TA := fun σ H Q => tV g W pu (RAs g σ) (evA T G ie) σ H Q
end
theorem evT_of (T : Tab) (G : Nat → Option D) {ie : IE} (h : ie ≠ .nil) (σ : Env) : evT T G ie σ = (evE T G ie σ).bind fun x σ1 => ofO (asB x) σ1 := by
  cases ie <;> first | (exact absurd rfl h) | (simp only [evT])
theorem evO_of (T : Tab) (G : Nat → Option D) {ie : IE} (h : ie ≠ .nil) (σ : Env) : evO T G ie σ = (evE T G ie σ).bind fun x σ1 => ofO ((asI x).map some) σ1 := by
  cases ie <;> first | (exact absurd rfl h) | (simp only [evO])

section
variable {T : Tab} {G : Nat → Option D} {g : SG} {W : WX} {pu : Bool} {X : Cx} {a b c : Expr} {ia ib ic : IE} {pos p2 : Pos}
theorem e_const {e : Expr} {ie : IE} {d : D} {v : V} (h : PE X e (tC v)) (r : ∀ F, RD g F d v) (he : ∀ σ, evE T G ie σ = .ok d σ) : PE X e (tE T G g W pu ie) :=
  h.imp fun σ H Q ⟨σd, F, Os, rel, k⟩ => by
    rw [he] at k
    exact k v H F Os rel (r F) (Gr.refl pu H F _)
theorem e_cN {j} : PE X (.Constant .none j pos) (tE T G g W pu .cN) := e_const pe_non (fun _ => .non) fun σ => by simp only [evE]
theorem e_cB {k j} : PE X (.Constant (.bool k) j pos) (tE T G g W pu (.cB k)) := e_const pe_bl (fun _ => .bl k) fun σ => by simp only [evE]
theorem e_cI {i j} : PE X (.Constant (.int i) j pos) (tE T G g W pu (.cI i)) := e_const pe_int (fun _ => .int i) fun σ => by simp only [evE]
theorem e_cS {s : Str} {cs : List Nat} {j} (h : s.cps.toList = cs) : PE X (.Constant (.str s) j pos) (tE T G g W pu (.cS cs)) := by
  subst h
  refine e_const (d := .str s.cps.toList) pe_str (fun _ => ?_) fun σ => by simp only [evE]
  exact .str _
theorem e_rd {i : Nat} {x : Str} (hN : X.N[i]? = some x) (hv : Vis X.env.scope x) (hd : (x == ("__debug__" : Str)) = false) (hcd : (x == ("__classdict__" : Str)) = false) : PE X (.Name x pos) (tE T G g W pu (.rd i)) :=
  (pe_var hN hv hd hcd).imp fun σ H Q ⟨σd, F, Os, rel, k⟩ => by
    simp only [evE] at k
    split at k
    · rename_i x' e
      obtain ⟨v, h1, h2⟩ := rel.get e
      cases h2 with
      | d r => exact ⟨v, h1, k v H F Os rel r (Gr.refl pu H F _)⟩
    · exact k.elim
open Classical in
/-- a slot's tree is frozen -/
theorem Rel.freeze {H F : Hp} {σd : Env} {σ : L2.St} {Os : Nat → Addr → Prop} (rel : Rel g H F σd σ Os) {i : Nat} {m : M} (h : (σd[i]?).bind id = some m) :
    ∃ v F', σ[i]? = some (some v) ∧ Rel g H F' (σd.set i (some (.d m.toD))) σ (fun j a => j ≠ i ∧ Os j a) ∧ RD g F' m.toD v ∧ Gr false H F (Own Os) H F' (Own fun j a => j ≠ i ∧ Os j a) := by
  obtain ⟨v, h1, h2⟩ := rel.get h
  have ff : LeH F (fun a => if Os i a then H a else F a) := fun a o e => by
    show (if Os i a then H a else F a) = some o
    rw [if_neg]
    · exact e
    · intro z
      rw [rel.nf i a z] at e
      cases e
  have le : LeH (fun a => if Os i a then H a else F a) H := fun a o e => by
    have e : (if Os i a then H a else F a) = some o := e
    split at e
    · exact e
    · exact rel.le a o e
  have rd : RD g (fun a => if Os i a then H a else F a) m.toD v := h2.freeze ff fun a o sa e => by
    show (if Os i a then H a else F a) = some o
    rw [if_pos sa]
    exact e
  refine ⟨v, _, h1, ⟨le, by simpa using rel.len, fun j m' e => ?_, fun j k a z w => rel.dj j k a z.2 w.2, fun j a z => ?_, fun j a z => rel.al j a z.2⟩, rd, ⟨ff, fun a o e _ => e, fun a e => e, fun a ⟨j, z⟩ => .inl ⟨j, z.2⟩, fun a e => ?_⟩⟩
  · by_cases hj : j = i
    · subst hj
      have hlt : j < σd.length := by
        cases q : σd[j]? with
        | none => rw [q] at h; cases h
        | some o => exact (List.getElem?_eq_some_iff.mp q).1
      rw [List.getElem?_set_self hlt] at e
      cases e
      exact ⟨v, h1, .d rd⟩
    · rw [List.getElem?_set_ne (Ne.symm hj)] at e
      obtain ⟨v', e1, q⟩ := rel.sl j m' e
      exact ⟨v', e1, (q.frame ff fun _ _ _ e => e).wide fun a z => ⟨hj, z⟩⟩
  · show (if Os i a then H a else F a) = none
    rw [if_neg]
    · exact rel.nf j a z.2
    · exact fun w => z.1 (rel.dj j i a z.2 w)
  · have e : (if Os i a then H a else F a) ≠ none := e
    split at e
    · rename_i z
      exact .inr (.inl ⟨rfl, i, z⟩)
    · exact .inl e
theorem e_fz {i : Nat} {x : Str} (hN : X.N[i]? = some x) (hv : Vis X.env.scope x) (hd : (x == ("__debug__" : Str)) = false) (hcd : (x == ("__classdict__" : Str)) = false) : PE X (.Name x pos) (tE T G g W false (.fz (.root i))) :=
  (pe_var hN hv hd hcd).imp fun σ H Q ⟨σd, F, Os, rel, k⟩ => by
    simp only [evE, getPl, setPl] at k
    split at k
    · rename_i m e
      obtain ⟨v, F', h1, h2, h3, h4⟩ := rel.freeze e
      exact ⟨v, h1, k v H F' _ h2 h3 h4⟩
    · exact k.elim
theorem e_bin (hK : X.K = g.K) {op : BOp} (ha : PE X a (tE T G g W pu ia)) (hb : PE X b (tE T G g W pu ib)) : PE X (.BinOp a op.py b pos) (tE T G g W pu (.bin op ia ib)) :=
  (pe_op (o_bin hK op) ha hb).imp fun σ H Q ⟨σd, F, Os, rel, k⟩ => by
    simp only [evE] at k
    refine ⟨σd, F, Os, rel, KE.bind k fun x σ1 v H1 F1 Os1 rel1 rx l1 gr1 k1 => ⟨σ1, F1, Os1, rel1, KE.bind k1 fun y σ2 u H2 F2 Os2 rel2 ry l2 gr2 k2 => ?_⟩⟩
    obtain ⟨d, ed, q⟩ := KE.ofO k2
    exact ⟨F2, x, y, d, rel2.le, rx.mono l2, ry, ed, fun w H' F' xt rw => q w H' F' Os2 (rel2.ext xt) rw (xt.gr pu)⟩
/-- the negative of a number, of a truth value -/
def negV : V → Option V
  | .int i => some (.int (-i))
  | .bl b => some (.int (-(if b then 1 else 0)))
  | _ => none
def rNegB : V → Hp → VK → Prop := fun x H Q => ∃ z, negV x = some z ∧ Q z H
theorem slot_bool_neg : Slot "bool" "__neg__" "int.__neg__" :=
  .of (owner := "int") (n := "__neg__") (by rw [typeLookup_type, builtinLookup_eq_fast]; kernel_rfl) (by decide +kernel) (by decide +kernel) (by decide +kernel)
    (by first | exact .inl (by decide +kernel) | exact .inr (by decide +kernel)) (by rw [isSubtype_type]; kernel_rfl)
theorem neg_bool {prog : Program} {w : World} {A : PySem.Around} {E : Value → Shared → Prop} {s : Shared} {b : Bool} {Q : Value → Shared → Prop} (h : Q (.int (-(if b = true then (1 : Int) else 0)) s.toks) { s with toks := s.toks + 1 }) : wpAny (model prog w) A (unaryOp .USub (.bool b)) Q E s := by
  unfold unaryOp
  refine wpAny_holding ?_
  refine wpAny_bind (m := callSpecial? (.bool b) (Str.ofString "__neg__")) (wpAny_callSpecial?_slot (name := Str.ofString "__neg__") (PySem.typeIs_bool s b) slot_bool_neg
    (wpAny_call_entry slot_bool_neg (PySem.typeIs_bool s b) entry_int_neg ?_ (args_int_neg _)))
  cases b
  · show wpAny _ _ (do ret (← mkInt (-0))) _ _ s
    exact wpAny_ret_mkInt (wpAny_pure h)
  · show wpAny _ _ (do ret (← mkInt (-1))) _ _ s
    exact wpAny_ret_mkInt (wpAny_pure h)
theorem un_negB : UnR X (unaryOp .USub) rNegB := by
  intro pins s σ H x v Q I rx h
  obtain ⟨z, e, q⟩ := h
  cases x with
  | int i =>
    obtain ⟨t, rfl⟩ := rx
    obtain rfl := Option.some.inj (show some (V.int (-i)) = some z from e)
    exact neg_int ⟨.int (-i), H, I.tok _, ⟨_, rfl⟩, q⟩
  | bl b =>
    obtain rfl : v = Value.bool b := rx
    obtain rfl := Option.some.inj (show some (V.int (-(if b then 1 else 0))) = some z from e)
    exact neg_bool ⟨.int _, H, I.tok _, ⟨_, rfl⟩, q⟩
  | _ => exact nomatch (show (none : Option V) = some z from e)
theorem e_neg (ha : PE X a (tE T G g W pu ia)) : PE X (.UnaryOp .USub a pos) (tE T G g W pu (.neg ia)) :=
  (pe_un un_negB ha).imp fun σ H Q ⟨σd, F, Os, rel, k⟩ => by
    simp only [evE] at k
    refine ⟨σd, F, Os, rel, KE.bind k fun x σ1 v H1 F1 Os1 rel1 rx l1 gr1 k1 => ?_⟩
    obtain ⟨d, ed, q⟩ := KE.ofO k1
    cases rx <;> first | (simp [negD] at ed; done) | skip
    · cases ed
      exact ⟨_, rfl, q _ _ _ _ rel1 (.int _) (Gr.refl pu _ _ _)⟩
    · cases ed
      exact ⟨_, rfl, q _ _ _ _ rel1 (.int _) (Gr.refl pu _ _ _)⟩
theorem e_cmp (hK : X.K = g.K) (hu : X.A.units + 64 < cLine) {op : COp} (ha : PE X a (tE T G g W pu ia)) (hb : PE X b (tE T G g W pu ib)) (hm : behindInMarks op.py b = false) : PE X (.Compare a [op.py] [b] pos) (tE T G g W pu (.cmp op ia ib)) :=
  (pe_cmpR (o_cmp hK hu op) ha hb hm).imp fun σ H Q ⟨σd, F, Os, rel, k⟩ => by
    simp only [evE] at k
    refine ⟨σd, F, Os, rel, KE.bind k fun x σ1 v H1 F1 Os1 rel1 rx l1 gr1 k1 => ⟨σ1, F1, Os1, rel1, KE.bind k1 fun y σ2 u H2 F2 Os2 rel2 ry l2 gr2 k2 => ?_⟩⟩
    obtain ⟨d, ed, q⟩ := KE.ofO k2
    obtain ⟨r, e1, rfl⟩ := Option.map_eq_some_iff.mp ed
    exact ⟨F2, x, y, r, rel2.le, rx.mono l2, ry, e1, q _ _ _ _ rel2 (.bl r) (Gr.refl pu _ _ _)⟩
theorem t_cmp (hK : X.K = g.K) (hu : X.A.units + 64 < cLine) {op : COp} (ha : PE X a (tE T G g W pu ia)) (hb : PE X b (tE T G g W pu ib)) (hm : behindInMarks op.py b = false) : PT X (.Compare a [op.py] [b] pos) (tT T G g W pu (.cmp op ia ib)) :=
  (pt_cmpR (o_cmp hK hu op) ha hb hm).imp fun σ H Q ⟨σd, F, Os, rel, k⟩ => by
    rw [evT_of T G (by simp)] at k
    simp only [evE] at k
    refine ⟨σd, F, Os, rel, KE.bind (KE.bind_assoc k) fun x σ1 v H1 F1 Os1 rel1 rx l1 gr1 k1 => ⟨σ1, F1, Os1, rel1, KE.bind (KE.bind_assoc k1) fun y σ2 u H2 F2 Os2 rel2 ry l2 gr2 k2 => ?_⟩⟩
    cases ed : dCmp op x y with
    | none => rw [ed] at k2; exact k2.elim
    | some r =>
      rw [ed] at k2
      exact ⟨F2, x, y, r, rel2.le, rx.mono l2, ry, ed, r, rfl, k2 _ _ _ _ rel2 rfl (Gr.refl pu _ _ _)⟩
theorem e_chn (hK : X.K = g.K) (hu : X.A.units + 64 < cLine) {o1 o2 : COp} (ha : PE X a (tE T G g W pu ia)) (hb : PE X b (tE T G g W pu ib)) (hc : PE X c (tE T G g W pu ic)) (hm : behindInMarks o2.py c = false) :
    PE X (.Compare a [o1.py, o2.py] [b, c] pos) (tE T G g W pu (.chn o1 o2 ia ib ic)) :=
  (pe_chain (o_cmp hK hu o1) (o_cmp hK hu o2) ha hb hc hm).imp fun σ H Q ⟨σd, F, Os, rel, k⟩ => by
    simp only [evE] at k
    refine ⟨σd, F, Os, rel, KE.bind k fun x σ1 v H1 F1 Os1 rel1 rx l1 gr1 k1 => ⟨σ1, F1, Os1, rel1, KE.bind k1 fun y σ2 u H2 F2 Os2 rel2 ry l2 gr2 k2 => ?_⟩⟩
    cases ed : dCmp o1 x y with
    | none => rw [ed] at k2; exact k2.elim
    | some r =>
      rw [ed] at k2
      refine ⟨F2, x, y, r, rel2.le, rx.mono l2, ry, ed, r, rfl, ?_⟩
      cases r with
      | false => exact k2 _ _ _ _ rel2 (.bl false) (Gr.refl pu _ _ _)
      | true =>
        refine ⟨σ2, F2, Os2, rel2, KE.bind k2 fun z σ3 w H3 F3 Os3 rel3 rz l3 gr3 k3 => ?_⟩
        obtain ⟨d, ed, q⟩ := KE.ofO k3
        obtain ⟨r, e1, rfl⟩ := Option.map_eq_some_iff.mp ed
        exact ⟨F3, y, z, r, rel3.le, ry.mono l3, rz, e1, q _ _ _ _ rel3 (.bl r) (Gr.refl pu _ _ _)⟩
theorem t_chn (hK : X.K = g.K) (hu : X.A.units + 64 < cLine) {o1 o2 : COp} (ha : PE X a (tE T G g W pu ia)) (hb : PE X b (tE T G g W pu ib)) (hc : PE X c (tE T G g W pu ic)) (hm : behindInMarks o2.py c = false) :
    PT X (.Compare a [o1.py, o2.py] [b, c] pos) (tT T G g W pu (.chn o1 o2 ia ib ic)) :=
  (pt_chain (o_cmp hK hu o1) (o_cmp hK hu o2) ha hb hc hm).imp fun σ H Q ⟨σd, F, Os, rel, k⟩ => by
    rw [evT_of T G (by simp)] at k
    simp only [evE] at k
    refine ⟨σd, F, Os, rel, KE.bind (KE.bind_assoc k) fun x σ1 v H1 F1 Os1 rel1 rx l1 gr1 k1 => ⟨σ1, F1, Os1, rel1, KE.bind (KE.bind_assoc k1) fun y σ2 u H2 F2 Os2 rel2 ry l2 gr2 k2 => ?_⟩⟩
    cases ed : dCmp o1 x y with
    | none => rw [ed] at k2; exact k2.elim
    | some r =>
      rw [ed] at k2
      refine ⟨F2, x, y, r, rel2.le, rx.mono l2, ry, ed, r, rfl, ?_⟩
      cases r with
      | false => exact ⟨false, rfl, k2 _ _ _ _ rel2 rfl (Gr.refl pu _ _ _)⟩
      | true =>
        refine ⟨σ2, F2, Os2, rel2, KE.bind (KE.bind_assoc k2) fun z σ3 w H3 F3 Os3 rel3 rz l3 gr3 k3 => ?_⟩
        cases ed2 : dCmp o2 y z with
        | none => rw [ed2] at k3; exact k3.elim
        | some r =>
          rw [ed2] at k3
          exact ⟨F3, y, z, r, rel3.le, ry.mono l3, rz, ed2, r, rfl, k3 _ _ _ _ rel3 rfl (Gr.refl pu _ _ _)⟩
theorem none_of {F : Hp} {d : D} {v : V} (r : RD g F d v) : decide (v = .non) = isNone d := by
  cases r <;> rfl
theorem e_isN {j pos'} (ha : PE X a (tE T G g W pu ia)) : PE X (.Compare a [.Is] [.Constant .none j pos'] pos) (tE T G g W pu (.isN ia)) :=
  (pe_cmp (pc_isN ha)).imp fun σ H Q ⟨σd, F, Os, rel, k⟩ => by
    simp only [evE] at k
    refine ⟨σd, F, Os, rel, KE.bind k fun x σ1 v H1 F1 Os1 rel1 rx l1 gr1 k1 => ?_⟩
    rw [none_of rx]
    exact k1 _ _ _ _ rel1 (.bl _) (Gr.refl pu _ _ _)
theorem t_isN {j pos'} (ha : PE X a (tE T G g W pu ia)) : PT X (.Compare a [.Is] [.Constant .none j pos'] pos) (tT T G g W pu (.isN ia)) :=
  (pt_cmp (pc_isN ha)).imp fun σ H Q ⟨σd, F, Os, rel, k⟩ => by
    rw [evT_of T G (by simp)] at k
    simp only [evE] at k
    refine ⟨σd, F, Os, rel, KE.bind (KE.bind_assoc k) fun x σ1 v H1 F1 Os1 rel1 rx l1 gr1 k1 => ?_⟩
    rw [none_of rx]
    exact ⟨_, rfl, k1 _ _ _ _ rel1 rfl (Gr.refl pu _ _ _)⟩
theorem e_notN {j pos'} (ha : PE X a (tE T G g W pu ia)) : PE X (.Compare a [.IsNot] [.Constant .none j pos'] pos) (tE T G g W pu (.notN ia)) :=
  (pe_cmp (pc_notN ha)).imp fun σ H Q ⟨σd, F, Os, rel, k⟩ => by
    simp only [evE] at k
    refine ⟨σd, F, Os, rel, KE.bind k fun x σ1 v H1 F1 Os1 rel1 rx l1 gr1 k1 => ?_⟩
    rw [none_of rx]
    exact k1 _ _ _ _ rel1 (.bl _) (Gr.refl pu _ _ _)
theorem t_notN {j pos'} (ha : PE X a (tE T G g W pu ia)) : PT X (.Compare a [.IsNot] [.Constant .none j pos'] pos) (tT T G g W pu (.notN ia)) :=
  (pt_cmp (pc_notN ha)).imp fun σ H Q ⟨σd, F, Os, rel, k⟩ => by
    rw [evT_of T G (by simp)] at k
    simp only [evE] at k
    refine ⟨σd, F, Os, rel, KE.bind (KE.bind_assoc k) fun x σ1 v H1 F1 Os1 rel1 rx l1 gr1 k1 => ?_⟩
    rw [none_of rx]
    exact ⟨_, rfl, k1 _ _ _ _ rel1 rfl (Gr.refl pu _ _ _)⟩
theorem asB_of {F : Hp} {d : D} {v : V} {k : Bool} (r : RD g F d v) (h : asB d = some k) : v = .bl k := by
  cases r <;> first | (simp [asB] at h; done) | (cases h; rfl)
/-- an expression that gives a truth value, as a test -/
theorem t_val (hi : ia ≠ .nil) (ha : PE X a (tE T G g W pu ia)) (hp : pTest a = true) : PT X a (tT T G g W pu ia) :=
  (pt_val ha (test_of hp X.env)).imp fun σ H Q ⟨σd, F, Os, rel, k⟩ => by
    rw [evT_of T G hi] at k
    refine ⟨σd, F, Os, rel, KE.bind k fun x σ1 v H1 F1 Os1 rel1 rx l1 gr1 k1 => ?_⟩
    obtain ⟨r, e, q⟩ := KE.ofO k1
    exact ⟨r, asB_of rx e, q _ _ _ _ rel1 rfl (Gr.refl pu _ _ _)⟩
theorem e_not (ha : PE X a (tE T G g W pu ia)) : PE X (.UnaryOp .Not a pos) (tE T G g W pu (.not ia)) :=
  (pe_not ha).imp fun σ H Q ⟨σd, F, Os, rel, k⟩ => by
    simp only [evE] at k
    refine ⟨σd, F, Os, rel, KE.bind k fun x σ1 v H1 F1 Os1 rel1 rx l1 gr1 k1 => ?_⟩
    obtain ⟨d, ed, q⟩ := KE.ofO k1
    obtain ⟨r, e1, rfl⟩ := Option.map_eq_some_iff.mp ed
    exact ⟨r, asB_of rx e1, q _ _ _ _ rel1 (.bl _) (Gr.refl pu _ _ _)⟩
theorem t_not (hi : ia ≠ .nil) (ha : PT X a (tT T G g W pu ia)) : PT X (.UnaryOp .Not a pos) (tT T G g W pu (.not ia)) :=
  (pt_not ha).imp fun σ H Q ⟨σd, F, Os, rel, k⟩ => by
    rw [evT_of T G (by simp)] at k
    simp only [evE] at k
    have e : ((evE T G ia σd).bind fun x σ1 => (ofO ((asB x).map fun b => D.bl (!b)) σ1).bind fun x σ1 => ofO (asB x) σ1) = (evT T G ia σd).bind fun b σ1 => ER.ok (!b) σ1 := by
      rw [evT_of T G hi, ER.bind_assoc]
      congr 1
      funext x σ1
      cases asB x <;> rfl
    rw [ER.bind_assoc, e] at k
    refine ⟨σd, F, Os, rel, KE.bind k fun x σ1 v H1 F1 Os1 rel1 rx l1 gr1 k1 => ?_⟩
    subst rx
    exact k1 _ _ _ _ rel1 rfl (Gr.refl pu _ _ _)
theorem e_ite (hi : ic ≠ .nil) (hc : PT X c (tT T G g W pu ic)) (ha : PE X a (tE T G g W pu ia)) (hb : PE X b (tE T G g W pu ib)) : PE X (.IfExp c a b pos) (tE T G g W pu (.ite ic ia ib)) :=
  (pe_ifExp hc ha hb).imp fun σ H Q ⟨σd, F, Os, rel, k⟩ => by
    simp only [evE] at k
    have e : ((evE T G ic σd).bind fun x σ1 => (ofO (asB x) σ1).bind fun k σ2 => if k = true then evE T G ia σ2 else evE T G ib σ2) = (evT T G ic σd).bind fun k σ2 => if k = true then evE T G ia σ2 else evE T G ib σ2 := by
      rw [evT_of T G hi, ER.bind_assoc]
    rw [e] at k
    refine ⟨σd, F, Os, rel, KE.bind k fun x σ1 v H1 F1 Os1 rel1 rx l1 gr1 k1 => ?_⟩
    subst rx
    cases x with
    | true => exact ⟨σ1, F1, Os1, rel1, k1⟩
    | false => exact ⟨σ1, F1, Os1, rel1, k1⟩
theorem e_idx (hK : X.K = g.K) (hu : X.A.units + 64 < cLine) (ha : PE X a (tE T G g W pu ia)) (hb : PE X b (tE T G g W pu ib)) (hp : pIx b = true) : PE X (.Subscript a b pos) (tE T G g W pu (.idx ia ib)) :=
  (pe_ix (o_idx hK hu) ha hb (plainIx_of hp)).imp fun σ H Q ⟨σd, F, Os, rel, k⟩ => by
    simp only [evE] at k
    refine ⟨σd, F, Os, rel, KE.bind k fun x σ1 v H1 F1 Os1 rel1 rx l1 gr1 k1 => ⟨σ1, F1, Os1, rel1, KE.bind k1 fun y σ2 u H2 F2 Os2 rel2 ry l2 gr2 k2 => ?_⟩⟩
    obtain ⟨d, ed, q⟩ := KE.ofO k2
    exact ⟨F2, x, y, d, rel2.le, rx.mono l2, ry, ed, fun w H' F' xt rw => q w H' F' Os2 (rel2.ext xt) rw (xt.gr pu)⟩
theorem leaf_of {m : M} {x : D} (h : M.leaf m = some x) : m = .d x := by
  cases m <;> first | (simp [M.leaf] at h; done) | (cases h; rfl)
/-- a slot that has a value -/
theorem KE_has {α β : Type} {R : Hp → α → β → Prop} {H F : Hp} {σd : Env} {σ : L2.St} {Os : Nat → Addr → Prop} {O : Addr → Prop} {Q : β → Hp → Prop} {i : Nat} {f : Unit → Env → ER α} (rel : Rel g H F σd σ Os) (k : KE g W pu R σ H F O Q ((has (.root i) σd).bind f)) :
    ∃ m v, (σd[i]?).bind id = some m ∧ σ[i]? = some (some v) ∧ KE g W pu R σ H F O Q (f () σd) := by
  unfold has at k
  cases h0 : getPl σd (.root i) with
  | none => rw [h0] at k; exact k.elim
  | some m =>
    rw [h0] at k
    obtain ⟨v, hv, _⟩ := rel.get (m := m) h0
    exact ⟨m, v, h0, hv, k⟩
def rMix (g : SG) : R2 := fun x y H Q => rB g dIdx x y H Q ∨ rIxL g.K x y H Q ∨ rIxDk x y H Q
theorem o_mix (hK : X.K = g.K) (hu : X.A.units + 64 < cLine) : IxR X (rMix g) := by
  unfold rMix
  rw [← hK]
  exact (o_idx hK hu).or (ix_list.or (ix_dict hu))
/-- an item of what a slot owns -/
theorem e_midx {i : Nat} {x : Str} (hK : X.K = g.K) (hu : X.A.units + 64 < cLine) (hN : X.N[i]? = some x) (hv : Vis X.env.scope x) (hd : (x == ("__debug__" : Str)) = false) (hcd : (x == ("__classdict__" : Str)) = false) (hb : PE X b (tE T G g W pu ib)) (hp : pIx b = true) :
    PE X (.Subscript (.Name x p2) b pos) (tE T G g W pu (.midx (.root i) ib)) :=
  (pe_ix (o_mix hK hu) (pe_var hN hv hd hcd) hb (plainIx_of hp)).imp fun σ H Q ⟨σd, F, Os, rel, k⟩ => by
    simp only [evE] at k
    obtain ⟨m0, v, h1, hv, k⟩ := KE_has rel k
    refine ⟨v, hv, σd, F, Os, rel, KE.bind k fun y σ2 u H2 F2 Os2 rel2 ry l2 gr2 k2 => ?_⟩
    obtain ⟨d, ed, q⟩ := KE.ofO k2
    obtain ⟨m, e1, e2⟩ := Option.bind_eq_some_iff.mp ed
    obtain ⟨v', hv', rm⟩ := rel2.get (m := m) e1
    rw [hv] at hv'
    cases hv'
    unfold mIdx at e2
    split at e2
    · cases ry
      obtain ⟨m', e3, e4⟩ := Option.bind_eq_some_iff.mp e2
      obtain ⟨j, e5, e6⟩ := Option.bind_eq_some_iff.mp e3
      rw [leaf_of e4] at e6
      cases rm with
      | lst sa ha hz hr =>
        obtain ⟨w, hw, rw'⟩ := hr.getD e6
        refine .inr (.inl ⟨_, _, _, w, rfl, rfl, SqL.of ha, ?_, q w H2 F2 Os2 rel2 rw' (Gr.refl pu _ _ _)⟩)
        unfold atI
        rw [← hr.length, ← ix_eq, e5]
        exact hw
    · cases rm with
      | d rd => exact .inl ⟨F2, _, y, d, rel2.le, rd, ry, e2, fun w H' F' xt rw => q w H' F' Os2 (rel2.ext xt) rw (xt.gr pu)⟩
    · cases rm with
      | dk sa ha hz hr =>
        obtain ⟨k, ek, e2⟩ := Option.bind_eq_some_iff.mp e2
        obtain ⟨j, ej, e2⟩ := Option.bind_eq_some_iff.mp e2
        obtain ⟨m', e3, e4⟩ := Option.bind_eq_some_iff.mp e2
        rw [leaf_of e4] at e3
        obtain ⟨w, hw, rw'⟩ := hr.getD e3
        refine .inr (.inr ⟨_, w, rfl, ?_, q w H2 F2 Os2 rel2 rw' (Gr.refl pu _ _ _)⟩)
        have := DGet.k (k := toKey k) ha
        rw [kIdx_valV (fun a b => toKey_inj) hz k, ej] at this
        rw [key_of_d ry ek, ← hw]
        exact this
    · cases e2
end
end JH

/-! JB5: and, or, slices, displays, built-in functions, isinstance. -/
namespace JH
open PySem PySem.Spec PyProof.Rows L2
section
variable {T : Tab} {G : Nat → Option D} {g : SG} {W : WX} {pu : Bool} {X : Cx} {a b c : Expr} {ia ib ic r : IE} {rest : List Expr} {pos p2 p : Pos}
abbrev tAnd (T : Tab) (G : Nat → Option D) (g : SG) (W : WX) (pu : Bool) (l : IE) : TE := tV g W pu (RD g) (evAnd T G l)
abbrev tOr (T : Tab) (G : Nat → Option D) (g : SG) (W : WX) (pu : Bool) (l : IE) : TE := tV g W pu (RD g) (evOr T G l)
abbrev tAndT (T : Tab) (G : Nat → Option D) (g : SG) (W : WX) (pu : Bool) (l : IE) : TT := tV g W pu (fun _ => @Eq Bool) fun σ => (evAnd T G l σ).bind fun x σ1 => ofO (asB x) σ1
abbrev tOrT (T : Tab) (G : Nat → Option D) (g : SG) (W : WX) (pu : Bool) (l : IE) : TT := tV g W pu (fun _ => @Eq Bool) fun σ => (evOr T G l σ).bind fun x σ1 => ofO (asB x) σ1
theorem evAnd_cons (h : r ≠ .nil) (σ : Env) : evAnd T G (.cons ia r) σ = (evE T G ia σ).bind fun x σ1 => (ofO (asB x) σ1).bind fun k σ2 => if k = true then evAnd T G r σ2 else .ok (.bl false) σ2 := by
  cases r <;> first | (exact absurd rfl h) | (simp only [evAnd])
theorem evOr_cons (h : r ≠ .nil) (σ : Env) : evOr T G (.cons ia r) σ = (evE T G ia σ).bind fun x σ1 => (ofO (asB x) σ1).bind fun k σ2 => if k = true then .ok (.bl true) σ2 else evOr T G r σ2 := by
  cases r <;> first | (exact absurd rfl h) | (simp only [evOr])
theorem e_and1 (ha : PE X a (tE T G g W pu ia)) : PE X (.BoolOp .And [a] pos) (tAnd T G g W pu (.cons ia .nil)) :=
  (pe_one ha).imp fun σ H Q ⟨σd, F, Os, rel, k⟩ => ⟨σd, F, Os, rel, by simpa only [evAnd] using k⟩
theorem e_or1 (ha : PE X a (tE T G g W pu ia)) : PE X (.BoolOp .Or [a] pos) (tOr T G g W pu (.cons ia .nil)) :=
  (pe_one ha).imp fun σ H Q ⟨σd, F, Os, rel, k⟩ => ⟨σd, F, Os, rel, by simpa only [evOr] using k⟩
theorem e_andc (hr : r ≠ .nil) (ha : PE X a (tE T G g W pu ia)) (hb : PE X (.BoolOp .And (b :: rest) pos) (tAnd T G g W pu r)) : PE X (.BoolOp .And (a :: b :: rest) pos) (tAnd T G g W pu (.cons ia r)) :=
  (pe_and ha hb).imp fun σ H Q ⟨σd, F, Os, rel, k⟩ => by
    rw [evAnd_cons hr] at k
    refine ⟨σd, F, Os, rel, KE.bind k fun x σ1 v H1 F1 Os1 rel1 rx l1 gr1 k1 => ?_⟩
    cases ed : asB x with
    | none => rw [ed] at k1; exact k1.elim
    | some q =>
      rw [ed] at k1
      refine ⟨q, asB_of rx ed, ?_⟩
      cases q with
      | true => exact ⟨σ1, F1, Os1, rel1, k1⟩
      | false => exact k1 _ _ _ _ rel1 (.bl false) (Gr.refl pu _ _ _)
theorem e_orc (hr : r ≠ .nil) (ha : PE X a (tE T G g W pu ia)) (hb : PE X (.BoolOp .Or (b :: rest) pos) (tOr T G g W pu r)) : PE X (.BoolOp .Or (a :: b :: rest) pos) (tOr T G g W pu (.cons ia r)) :=
  (pe_or ha hb).imp fun σ H Q ⟨σd, F, Os, rel, k⟩ => by
    rw [evOr_cons hr] at k
    refine ⟨σd, F, Os, rel, KE.bind k fun x σ1 v H1 F1 Os1 rel1 rx l1 gr1 k1 => ?_⟩
    cases ed : asB x with
    | none => rw [ed] at k1; exact k1.elim
    | some q =>
      rw [ed] at k1
      refine ⟨q, asB_of rx ed, ?_⟩
      cases q with
      | false => exact ⟨σ1, F1, Os1, rel1, k1⟩
      | true => exact k1 _ _ _ _ rel1 (.bl true) (Gr.refl pu _ _ _)
theorem e_and (h : PE X a (tAnd T G g W pu ia)) : PE X a (tE T G g W pu (.and ia)) := h.imp fun σ H Q ⟨σd, F, Os, rel, k⟩ => ⟨σd, F, Os, rel, by simpa only [evE] using k⟩
theorem e_or (h : PE X a (tOr T G g W pu ia)) : PE X a (tE T G g W pu (.or ia)) := h.imp fun σ H Q ⟨σd, F, Os, rel, k⟩ => ⟨σd, F, Os, rel, by simpa only [evE] using k⟩
theorem t_and (h : PW X a (tAndT T G g W pu ia)) : PT X a (tT T G g W pu (.and ia)) := h.pt.imp fun σ H Q ⟨σd, F, Os, rel, k⟩ => ⟨σd, F, Os, rel, by
  rw [evT_of T G (by simp)] at k
  simpa only [evE] using k⟩
theorem t_or (h : PW X a (tOrT T G g W pu ia)) : PT X a (tT T G g W pu (.or ia)) := h.pt.imp fun σ H Q ⟨σd, F, Os, rel, k⟩ => ⟨σd, F, Os, rel, by
  rw [evT_of T G (by simp)] at k
  simpa only [evE] using k⟩
theorem w_and1 (hi : ia ≠ .nil) (ha : PT X a (tT T G g W pu ia)) : PW X (.BoolOp .And [a] pos) (tAndT T G g W pu (.cons ia .nil)) :=
  (pw_and1 ha).imp fun σ H Q ⟨σd, F, Os, rel, k⟩ => ⟨σd, F, Os, rel, by
    rw [evT_of T G hi]
    simpa only [evAnd] using k⟩
theorem w_or1 (hi : ia ≠ .nil) (ha : PT X a (tT T G g W pu ia)) : PW X (.BoolOp .Or [a] pos) (tOrT T G g W pu (.cons ia .nil)) :=
  (pw_or1 ha).imp fun σ H Q ⟨σd, F, Os, rel, k⟩ => ⟨σd, F, Os, rel, by
    rw [evT_of T G hi]
    simpa only [evOr] using k⟩
theorem w_andc (hi : ia ≠ .nil) (hr : r ≠ .nil) (ha : PT X a (tT T G g W pu ia)) (hb : PW X (.BoolOp .And (b :: rest) pos) (tAndT T G g W pu r)) : PW X (.BoolOp .And (a :: b :: rest) pos) (tAndT T G g W pu (.cons ia r)) :=
  (pw_and ha hb).imp fun σ H Q ⟨σd, F, Os, rel, k⟩ => by
    have e : ((evAnd T G (.cons ia r) σd).bind fun x σ1 => ofO (asB x) σ1) = (evT T G ia σd).bind fun k σ2 => if k = true then (evAnd T G r σ2).bind fun x σ1 => ofO (asB x) σ1 else .ok false σ2 := by
      rw [evAnd_cons hr, evT_of T G hi, ER.bind_assoc, ER.bind_assoc]
      congr 1
      funext x σ1
      cases asB x with
      | none => rfl
      | some q => cases q <;> rfl
    have k := k
    dsimp only at k
    rw [e] at k
    refine ⟨σd, F, Os, rel, KE.bind k fun x σ1 v H1 F1 Os1 rel1 rx l1 gr1 k1 => ?_⟩
    subst rx
    cases x with
    | true => exact ⟨σ1, F1, Os1, rel1, k1⟩
    | false => exact k1 _ _ _ _ rel1 rfl (Gr.refl pu _ _ _)
theorem w_orc (hi : ia ≠ .nil) (hr : r ≠ .nil) (ha : PT X a (tT T G g W pu ia)) (hb : PW X (.BoolOp .Or (b :: rest) pos) (tOrT T G g W pu r)) : PW X (.BoolOp .Or (a :: b :: rest) pos) (tOrT T G g W pu (.cons ia r)) :=
  (pw_or ha hb).imp fun σ H Q ⟨σd, F, Os, rel, k⟩ => by
    have e : ((evOr T G (.cons ia r) σd).bind fun x σ1 => ofO (asB x) σ1) = (evT T G ia σd).bind fun k σ2 => if k = true then .ok true σ2 else (evOr T G r σ2).bind fun x σ1 => ofO (asB x) σ1 := by
      rw [evOr_cons hr, evT_of T G hi, ER.bind_assoc, ER.bind_assoc]
      congr 1
      funext x σ1
      cases asB x with
      | none => rfl
      | some q => cases q <;> rfl
    have k := k
    dsimp only at k
    rw [e] at k
    refine ⟨σd, F, Os, rel, KE.bind k fun x σ1 v H1 F1 Os1 rel1 rx l1 gr1 k1 => ?_⟩
    subst rx
    cases x with
    | false => exact ⟨σ1, F1, Os1, rel1, k1⟩
    | true => exact k1 _ _ _ _ rel1 rfl (Gr.refl pu _ _ _)
/-! ### slices -/
theorem o_nil : PO X none (tOf T G g W pu .nil) := po_none.imp fun σ H Q ⟨σd, F, Os, rel, k⟩ => by
  simp only [evO] at k
  exact k none H F Os rel rfl (Gr.refl pu _ _ _)
theorem o_some (hi : ia ≠ .nil) (ha : PE X a (tE T G g W pu ia)) : PO X (some a) (tOf T G g W pu ia) := (po_some ha).imp fun σ H Q ⟨σd, F, Os, rel, k⟩ => by
  rw [evO_of T G hi] at k
  refine ⟨σd, F, Os, rel, KE.bind k fun x σ1 v H1 F1 Os1 rel1 rx l1 gr1 k1 => ?_⟩
  obtain ⟨d, ed, q⟩ := KE.ofO k1
  cases rx <;> first | (simp [asI] at ed; done) | skip
  cases ed
  exact ⟨_, rfl, q _ _ _ _ rel1 rfl (Gr.refl pu _ _ _)⟩
theorem e_slc (hK : X.K = g.K) {lo hi : Option Expr} (ha : PE X a (tE T G g W pu ia)) (hl : PO X lo (tOf T G g W pu ib)) (hh : PO X hi (tOf T G g W pu ic)) : PE X (.Subscript a (.Slice lo hi none p2) pos) (tE T G g W pu (.slc ia ib ic)) :=
  (pe_slice (o_slc hK) ha hl hh).imp fun σ H Q ⟨σd, F, Os, rel, k⟩ => by
    simp only [evE] at k
    refine ⟨σd, F, Os, rel, KE.bind k fun x σ1 v H1 F1 Os1 rel1 rx l1 gr1 k1 => ⟨σ1, F1, Os1, rel1, KE.bind k1 fun y σ2 u H2 F2 Os2 rel2 ry l2 gr2 k2 => ⟨σ2, F2, Os2, rel2, KE.bind k2 fun z σ3 w H3 F3 Os3 rel3 rz l3 gr3 k3 => ?_⟩⟩⟩
    subst ry
    subst rz
    obtain ⟨d, ed, q⟩ := KE.ofO k3
    exact ⟨F3, x, d, rel3.le, (rx.mono l2).mono l3, ed, fun w H' F' xt rw => q w H' F' Os3 (rel3.ext xt) rw (xt.gr pu)⟩
/-! ### lists of expressions -/
theorem l_nil : PA X [] (tL T G g W pu .nil) := pa_nil.imp fun σ H Q ⟨σd, F, Os, rel, k⟩ => by
  simp only [evL] at k
  exact k [] H F Os rel .nil (Gr.refl pu _ _ _)
theorem l_cons {es : List Expr} (hs : nStar a = true) (ha : PE X a (tE T G g W pu ia)) (hr : PA X es (tL T G g W pu r)) : PA X (a :: es) (tL T G g W pu (.cons ia r)) :=
  (pa_cons ha hr (starEach_of hs es X.env)).imp fun σ H Q ⟨σd, F, Os, rel, k⟩ => by
    simp only [evL] at k
    refine ⟨σd, F, Os, rel, KE.bind k fun x σ1 v H1 F1 Os1 rel1 rx l1 gr1 k1 => ⟨σ1, F1, Os1, rel1, KE.bind k1 fun xs σ2 vs H2 F2 Os2 rel2 rxs l2 gr2 k2 => ?_⟩⟩
    exact k2 _ _ _ _ rel2 (.cons (rx.mono l2) rxs) (Gr.refl pu _ _ _)
def IE.len : IE → Nat
  | .cons _ r => r.len + 1
  | _ => 0
theorem evL_len : ∀ (l : IE) (σ σ' : Env) (ds : List D), evL T G l σ = .ok ds σ' → ds.length = l.len := by
  intro l
  induction l with
  | nil => intro σ σ' ds h; simp only [evL] at h; cases h; rfl
  | cons a r _ ih =>
    intro σ σ' ds h
    simp only [evL] at h
    cases e : evE T G a σ with
    | ok x σ1 =>
      rw [e] at h
      cases e2 : evL T G r σ1 with
      | ok xs σ2 =>
        simp only [ER.bind_ok, e2] at h
        cases h
        simp [IE.len, ih _ _ _ e2]
      | exc _ _ => simp only [ER.bind_ok, e2, ER.bind_exc] at h; cases h
      | stuck => simp only [ER.bind_ok, e2, ER.bind_stuck] at h; cases h
    | exc _ _ => rw [e] at h; cases h
    | stuck => rw [e] at h; cases h
  | _ => intro σ σ' ds h; simp only [evL] at h; cases h
theorem e_tup {es : List Expr} {x1} (hz : r.len ≤ 1000) (h : PA X es (tL T G g W pu r)) : PE X (.Tuple es x1 pos) (tE T G g W pu (.tup r)) :=
  (pe_tup h).imp fun σ H Q ⟨σd, F, Os, rel, k⟩ => by
    simp only [evE] at k
    refine ⟨σd, F, Os, rel, KE.bindE k fun xs σ1 vs H1 F1 Os1 e rel1 rx l1 gr1 k1 => ?_⟩
    have hl := evL_len _ _ _ _ e
    have hv : vs.length ≤ sizeLine := by rw [← rx.length, hl, line_eq]; omega
    refine ⟨hv, fun p np => ?_⟩
    have xt := Ext.laid (o := .tup vs) rel1.le np
    exact k1 _ _ _ _ (rel1.ext xt) (.tup (SqT.of upd_same) hv (rx.mono xt.ff)) (xt.gr pu)
theorem e_lst {es : List Expr} (hz : r.len ≤ 1000) (h : PA X es (tL T G g W pu r)) : PE X (.List es pos) (tE T G g W pu (.lst r)) :=
  (pe_lst h).imp fun σ H Q ⟨σd, F, Os, rel, k⟩ => by
    simp only [evE] at k
    refine ⟨σd, F, Os, rel, KE.bindE k fun xs σ1 vs H1 F1 Os1 e rel1 rx l1 gr1 k1 => ?_⟩
    have hl := evL_len _ _ _ _ e
    have hv : vs.length ≤ sizeLine := by rw [← rx.length, hl, line_eq]; omega
    refine ⟨hv, fun p np => ?_⟩
    have xt := Ext.laid (o := .lst vs) rel1.le np
    exact k1 _ _ _ _ (rel1.ext xt) (.lst upd_same hv (rx.mono xt.ff)) (xt.gr pu)
/-! ### built-in functions -/
def B1.nm : B1 → Str
  | .len => "len" | .tuple => "tuple" | .list => "list" | .int => "int" | .abs => "abs" | .sum => "sum" | .all => "all" | .any => "any" | .sorted => "sorted" | .min => "min" | .max => "max" | .bool => "bool" | .str => "str"
theorem rF1_none {f : Value} {h : D → Option D} (hn : ∀ d, h d = none) : CallR X f (rF1 g h) := by
  intro pins s σ H xs us Q I r q
  obtain ⟨x, F, d1, d, _, _, _, e, _⟩ := q
  rw [hn] at e
  cases e
theorem one_pl {a : Expr} (hs : nStar a = true) (env : PySem.Env) (pos : Pos) : (backTo pos (starEach [] env)).any (·.1) = false := rfl
theorem e_b1raw {f : B1} {x : Str} {ta : TE} (hx : x = f.nm) (hK : X.K = g.K) (hc : X.calm = true) (hs : nStar a = true) (hg : Gl X x) (hm : X.mg x = none) (ha : PE X a ta) : PE X (.Call (.Name x p) [a] [] pos) (tCB (rF1 g (dB1 f)) (tCons ta tNil)) := by
  subst hx
  have hs' := starEach_of hs [] X.env
  have pa : PA X [a] (tCons ta tNil) := pa_cons ha pa_nil hs'
  cases f
  · exact pe_callB (f_len hK) hg hm PySem.boot_len pa (by decide) (by decide) hs' rfl
  · exact pe_callTy (f_tuple hK) hg hm (by decide +kernel) pa (by decide) (by decide) hs' rfl
  · exact pe_callTy (f_list hK) hg hm (by decide +kernel) pa (by decide) (by decide) hs' rfl
  · exact pe_callTy f_int hg hm (by decide +kernel) pa (by decide) (by decide) hs' rfl
  · exact pe_callB f_abs hg hm (by decide +kernel) pa (by decide) (by decide) hs' rfl
  · exact pe_callB (f_sum hc) hg hm (by decide +kernel) pa (by decide) (by decide) hs' rfl
  · exact pe_callB (f_all hc) hg hm (by decide +kernel) pa (by decide) (by decide) hs' rfl
  · exact pe_callB (f_any hc) hg hm (by decide +kernel) pa (by decide) (by decide) hs' rfl
  · exact pe_callB f_sorted hg hm (by decide +kernel) pa (by decide) (by decide) hs' rfl
  · exact pe_callB (f_min1 hK hc) hg hm (by decide +kernel) pa (by decide) (by decide) hs' rfl
  · exact pe_callB (f_max1 hK hc) hg hm (by decide +kernel) pa (by decide) (by decide) hs' rfl
  · exact pe_callTy (T := "bool") (rF1_none fun d => by cases d <;> rfl) hg hm (by decide +kernel) pa (by decide) (by decide) hs' rfl
  · exact pe_callTy f_str hg hm (by decide +kernel) pa (by decide) (by decide) hs' rfl
theorem e_b1 {f : B1} {x : Str} (hx : x = f.nm) (hK : X.K = g.K) (hc : X.calm = true) (hs : nStar a = true) (hg : Gl X x) (hm : X.mg x = none) (ha : PE X a (tE T G g W pu ia)) : PE X (.Call (.Name x p) [a] [] pos) (tE T G g W pu (.b1 f ia)) :=
  (e_b1raw hx hK hc hs hg hm ha).imp fun σ H Q ⟨σd, F, Os, rel, k⟩ => by
    simp only [evE] at k
    refine ⟨σd, F, Os, rel, KE.bind k fun x σ1 v H1 F1 Os1 rel1 rx l1 gr1 k1 => ?_⟩
    obtain ⟨d, ed, q⟩ := KE.ofO k1
    exact ⟨v, F1, x, d, rfl, rel1.le, rx, ed, fun w H' F' xt rw => q w H' F' Os1 (rel1.ext xt) rw (xt.gr pu)⟩
def B2.nm : B2 → Str
  | .min => "min" | .max => "max"
theorem e_b2 {f : B2} {x : Str} (hx : x = f.nm) (hc : X.calm = true) (hs : nStar a = true) (hs2 : nStar b = true) (hg : Gl X x) (hm : X.mg x = none) (ha : PE X a (tE T G g W pu ia)) (hb : PE X b (tE T G g W pu ib)) : PE X (.Call (.Name x p) [a, b] [] pos) (tE T G g W pu (.b2 f ia ib)) := by
  subst hx
  have hs' := starEach_of hs [b] X.env
  have hp : (backTo pos (starEach [b] X.env)).any (·.1) = false := noStars _ _ _ (by simp [hs2])
  have pa : PA X [a, b] (tCons _ (tCons _ tNil)) := pa_cons ha (pa_cons hb pa_nil (starEach_of hs2 [] X.env)) hs'
  have raw : PE X (.Call (.Name f.nm p) [a, b] [] pos) (tCB (rF2 g (dB2 f)) (tCons (tE T G g W pu ia) (tCons (tE T G g W pu ib) tNil))) := by
    cases f
    · exact pe_callB (f_min2 hc) hg hm (by decide +kernel) pa (by decide) (by decide) hs' hp
    · exact pe_callB (f_max2 hc) hg hm (by decide +kernel) pa (by decide) (by decide) hs' hp
  refine raw.imp fun σ H Q ⟨σd, F, Os, rel, k⟩ => ?_
  simp only [evE] at k
  refine ⟨σd, F, Os, rel, KE.bind k fun x σ1 v H1 F1 Os1 rel1 rx l1 gr1 k1 => ⟨σ1, F1, Os1, rel1, KE.bind k1 fun y σ2 u H2 F2 Os2 rel2 ry l2 gr2 k2 => ?_⟩⟩
  obtain ⟨d, ed, q⟩ := KE.ofO k2
  exact ⟨v, u, F2, x, y, d, rfl, rel2.le, rx.mono l2, ry, ed, fun w H' F' xt rw => q w H' F' Os2 (rel2.ext xt) rw (xt.gr pu)⟩
/-! ### isinstance -/
theorem ty_boot (t : Ty) : bootBuiltins (Str.ofString t.py) = some (.type t.py) := by cases t <;> decide +kernel
theorem ty_dbg (t : Ty) : ((Str.ofString t.py) == ("__debug__" : Str)) = false := by cases t <;> decide
theorem ty_nn (t : Ty) : (Str.ofString t.py) ≠ ("__name__" : Str) := by cases t <;> decide
theorem e_tyName {t : Ty} (hg : Gl X (Str.ofString t.py)) (hm : X.mg (Str.ofString t.py) = none) : PE X (.Name (Str.ofString t.py) pos) (tC (.ty t.py)) := pe_bltn hg hm (ty_boot t) rfl (ty_nn t) (ty_dbg t)
theorem e_isi {t : Ty} {y : Str} (hy : y = Str.ofString t.py) (hK : X.K = g.K) (hs : nStar a = true) (hg : Gl X "isinstance") (hm : X.mg "isinstance" = none) (hg2 : Gl X y) (hm2 : X.mg y = none) (ha : PE X a (tE T G g W pu ia)) :
    PE X (.Call (.Name "isinstance" p) [a, .Name y p2] [] pos) (tE T G g W pu (.isi ia t)) := by
  subst hy
  have hs' := starEach_of hs [.Name (Str.ofString t.py) p2] X.env
  refine (pe_callB (f_isi (g := g) hK t) hg hm (by decide +kernel) (pa_cons ha (pa_cons (e_tyName hg2 hm2) pa_nil) hs') (by decide) (by decide) hs' rfl).imp fun σ H Q ⟨σd, F, Os, rel, k⟩ => ?_
  simp only [evE] at k
  refine ⟨σd, F, Os, rel, KE.bind k fun x σ1 v H1 F1 Os1 rel1 rx l1 gr1 k1 => ?_⟩
  split at k1
  · rename_i ok
    exact ⟨v, F1, x, rfl, rel1.le, rx, ok, k1 _ _ _ _ rel1 (.bl _) (Gr.refl pu _ _ _)⟩
  · exact k1.elim
theorem e_isi2 {t t' : Ty} {y z : Str} {x1} {p3 p4 : Pos} (hy : y = Str.ofString t.py) (hz : z = Str.ofString t'.py) (hK : X.K = g.K) (hs : nStar a = true) (hg : Gl X "isinstance") (hm : X.mg "isinstance" = none) (hg2 : Gl X y) (hm2 : X.mg y = none) (hg3 : Gl X z) (hm3 : X.mg z = none)
    (ha : PE X a (tE T G g W pu ia)) : PE X (.Call (.Name "isinstance" p) [a, .Tuple [.Name y p2, .Name z p3] x1 p4] [] pos) (tE T G g W pu (.isi2 ia t t')) := by
  subst hy hz
  have hs' := starEach_of hs [.Tuple [.Name (Str.ofString t.py) p2, .Name (Str.ofString t'.py) p3] x1 p4] X.env
  refine (pe_callB (f_isi2 (g := g) hK t t') hg hm (by decide +kernel) (pa_cons ha (pa_cons (pe_tup (pa_cons (e_tyName hg2 hm2) (pa_cons (e_tyName hg3 hm3) pa_nil))) pa_nil) hs') (by decide) (by decide) hs' rfl).imp fun σ H Q ⟨σd, F, Os, rel, k⟩ => ?_
  simp only [evE] at k
  refine ⟨σd, F, Os, rel, KE.bind k fun x σ1 v H1 F1 Os1 rel1 rx l1 gr1 k1 => ⟨by show 2 ≤ sizeLine; decide, fun q nq => ?_⟩⟩
  split at k1
  · rename_i ok
    have xt := Ext.laid (o := .tup [.ty t.py, .ty t'.py]) rel1.le nq
    exact ⟨v, upd F1 q _, x, q, rfl, xt.le, rx.mono xt.ff, ok, upd_same, k1 _ _ _ _ (rel1.ext xt) (.bl _) (xt.gr pu)⟩
  · exact k1.elim
end
end JH

/-! JB6: owned lists that are read (peek), popped; arguments and calls. -/
namespace JH
open PySem PySem.Spec PyProof.Rows L2
section
variable {T : Tab} {G : Nat → Option D} {g : SG} {W : WX} {pu : Bool} {X : Cx} {a b c : Expr} {ia ib ic r : IE} {rest : List Expr} {pos p2 p : Pos}
/-! ### a list that is not frozen, read by a built-in function -/
def rFM (g : SG) (f : B1) : List V → Hp → VK → Prop := fun xs H Q => ∃ a vs F ds d, xs = [.ref a] ∧ LeH F H ∧ H a = some (.lst vs) ∧ vs.length ≤ sizeLine ∧ RDs g F ds vs ∧ dB1 f (.lst ds) = some d ∧ ∀ v H' F', Ext H F H' F' → RD g F' d v → Q v H'
theorem m_len : CallR X (.builtin "len") (rFM g .len) := by
  intro pins s σ H xs us Q I r h
  obtain ⟨a, vs, F, ds, d, rfl, le, ha, z, rs, e, q⟩ := h
  cases e
  exact call_len_seq pins s σ H _ us Q I r ⟨a, vs, rfl, .inl (SqL.of ha), by rw [← rs.length]; exact q _ _ _ (Ext.refl le) (.int _)⟩
theorem m_tuple : CallR X (.type "tuple") (rFM g .tuple) := by
  intro pins s σ H xs us Q I r h
  obtain ⟨a, vs, F, ds, d, rfl, le, ha, z, rs, e, q⟩ := h
  cases e
  refine call_tuple_of pins s σ H _ us Q I r ⟨a, vs, rfl, .inl ⟨SqL.of ha, fun p np => ?_⟩⟩
  have x := Ext.laid (o := .tup vs) le np
  exact q _ _ _ x (.tup (SqT.of upd_same) z (rs.mono x.ff))
theorem m_list : CallR X (.type "list") (rFM g .list) := by
  intro pins s σ H xs us Q I r h
  obtain ⟨a, vs, F, ds, d, rfl, le, ha, z, rs, e, q⟩ := h
  cases e
  refine call_list_of pins s σ H _ us Q I r ⟨a, vs, rfl, .inl (SqL.of ha), fun p np => ?_⟩
  have x := Ext.laid (o := .lst vs) le np
  exact q _ _ _ x (.lst upd_same z (rs.mono x.ff))
theorem m_sum (hc : X.calm = true) : CallR X (.builtin "sum") (rFM g .sum) := by
  intro pins s σ H xs us Q I r h
  obtain ⟨a, vs, F, ds, d, rfl, le, ha, z, rs, e, q⟩ := h
  obtain ⟨ns, e1, rfl⟩ := Option.map_eq_some_iff.mp e
  have ev := rs.ints e1
  subst ev
  exact cr_sum hc pins s σ H _ us Q I r ⟨a, ns, rfl, SqL.of ha, q _ _ _ (Ext.refl le) (.int _)⟩
theorem m_sorted : CallR X (.builtin "sorted") (rFM g .sorted) := by
  intro pins s σ H xs us Q I r h
  obtain ⟨a, vs, F, ds, d, rfl, le, ha, z, rs, e, q⟩ := h
  obtain ⟨ns, e1, rfl⟩ := Option.map_eq_some_iff.mp e
  have ev := rs.ints e1
  subst ev
  refine cr_sortedI pins s σ H _ us Q I r ⟨a, ns, rfl, SqL.of ha, fun ns' p hp hs np => ?_⟩
  have en : ns' = isort ns := sorted_unique (hp.trans (isort_perm ns).symm) hs (isort_sorted ns)
  subst en
  have x := Ext.laid (o := .lst ((isort ns).map V.int)) le np
  exact q _ _ _ x (.lst upd_same (by rw [List.length_map, (isort_perm ns).length_eq]; simpa using z) (RDs.ofInts _))
def B1.pk : B1 → Bool
  | .len => true | .tuple => true | .list => true | .sum => true | .sorted => true | _ => false
/-- .. of data, of an owned list, of an owned dict -/
def rPB (g : SG) (f : B1) : List V → Hp → VK → Prop := fun xs H Q => rF1 g (dB1 f) xs H Q ∨ rFM g f xs H Q ∨ (f = .len ∧ ∃ a kvs, xs = [V.ref a] ∧ H a = some (.dK kvs) ∧ Q (.int kvs.length) H)
theorem rPB_of {g : SG} {f : B1} {v : Value} (h1 : CallR X v (rF1 g (dB1 f))) (h2 : CallR X v (rFM g f)) (h3 : f = .len → CallR X v (fun xs H Q => ∃ a kvs, xs = [V.ref a] ∧ H a = some (.dK kvs) ∧ Q (.int kvs.length) H)) : CallR X v (rPB g f) := by
  intro pins s σ H xs us Q I r h
  rcases h with h | h | ⟨e, h⟩
  · exact h1 pins s σ H xs us Q I r h
  · exact h2 pins s σ H xs us Q I r h
  · exact h3 e pins s σ H xs us Q I r h
theorem e_pb1raw {f : B1} {x : Str} {ta : TE} (hK : X.K = g.K) (hf : f.pk = true) (hx : x = f.nm) (hc : X.calm = true) (hs : nStar a = true) (hg : Gl X x) (hm : X.mg x = none) (ha : PE X a ta) : PE X (.Call (.Name x p) [a] [] pos) (tCB (rPB g f) (tCons ta tNil)) := by
  subst hx
  have hs' := starEach_of hs [] X.env
  have pa : PA X [a] (tCons ta tNil) := pa_cons ha pa_nil hs'
  cases f <;> first | (simp [B1.pk] at hf; done) | skip
  · exact pe_callB (rPB_of (f_len hK) m_len fun _ => call_lenD) hg hm PySem.boot_len pa (by decide) (by decide) hs' rfl
  · exact pe_callTy (rPB_of (f_tuple hK) m_tuple fun e => nomatch e) hg hm (by decide +kernel) pa (by decide) (by decide) hs' rfl
  · exact pe_callTy (rPB_of (f_list hK) m_list fun e => nomatch e) hg hm (by decide +kernel) pa (by decide) (by decide) hs' rfl
  · exact pe_callB (rPB_of (f_sum hc) (m_sum hc) fun e => nomatch e) hg hm (by decide +kernel) pa (by decide) (by decide) hs' rfl
  · exact pe_callB (rPB_of f_sorted m_sorted fun e => nomatch e) hg hm (by decide +kernel) pa (by decide) (by decide) hs' rfl
theorem peek_of {H F : Hp} {m : M} {v : V} {S : Addr → Prop} {d : D} (rm : RM g H F m v S) (h : peek m = some d) : ∃ a vs ds, v = .ref a ∧ d = .lst ds ∧ S a ∧ H a = some (.lst vs) ∧ vs.length ≤ sizeLine ∧ RDs g F ds vs := by
  cases rm with
  | lst sa ha hz hr =>
    obtain ⟨ds, e, rfl⟩ := Option.map_eq_some_iff.mp h
    exact ⟨_, _, ds, rfl, rfl, sa, ha, hz, hr.leaves e⟩
  | _ => simp [peek] at h
theorem e_pb1 {f : B1} {x y : Str} {i : Nat} (hK : X.K = g.K) (hf : f.pk = true) (hx : x = f.nm) (hc : X.calm = true) (hg : Gl X x) (hm : X.mg x = none)
    (hN : X.N[i]? = some y) (hv : Vis X.env.scope y) (hd : (y == ("__debug__" : Str)) = false) (hcd : (y == ("__classdict__" : Str)) = false) : PE X (.Call (.Name x p) [.Name y p2] [] pos) (tE T G g W pu (.pb1 f (.root i))) :=
  (e_pb1raw (g := g) hK hf hx hc rfl hg hm (pe_var hN hv hd hcd)).imp fun σ H Q ⟨σd, F, Os, rel, k⟩ => by
    simp only [evE, getPl] at k
    obtain ⟨d, ed, q⟩ := KE.ofO k
    obtain ⟨m, e1, e2⟩ := Option.bind_eq_some_iff.mp ed
    obtain ⟨d1, e3, e4⟩ := Option.bind_eq_some_iff.mp e2
    obtain ⟨v, hv, rm⟩ := rel.get e1
    refine ⟨_, hv, ?_⟩
    cases rm with
    | d rd =>
      cases e3
      exact .inl ⟨_, F, _, d, rfl, rel.le, rd, e4, fun w H' F' xt rw => q w H' F' Os (rel.ext xt) rw (xt.gr pu)⟩
    | lst sa ha hz hr =>
      obtain ⟨ds, e, rfl⟩ := Option.map_eq_some_iff.mp e3
      exact .inr (.inl ⟨_, _, F, ds, d, rfl, rel.le, ha, hz, hr.leaves e, e4, fun w H' F' xt rw => q w H' F' Os (rel.ext xt) rw (xt.gr pu)⟩)
    | dk sa ha hz hr =>
      obtain ⟨ds, e, rfl⟩ := Option.map_eq_some_iff.mp e3
      rename_i a kvs ks ms
      cases f <;> first | (simp [dB1] at e4; done) | skip
      cases e4
      have e : kvs.length = ks.length := by have := congrArg List.length hz; simpa using this
      exact .inr (.inr ⟨rfl, a, kvs, rfl, ha, by rw [e]; exact q _ H F Os rel (.int _) (Gr.refl pu _ _ _)⟩)
    | obj _ _ _ _ => simp [peekB] at e3

/-! ### a slot's tree is changed in place -/
theorem Rel.write {H F : Hp} {σd : Env} {σ : L2.St} {Os : Nat → Addr → Prop} (rel : Rel g H F σd σ Os) {i : Nat} {m m' : M} {v : V} {a : Addr} {o : HO} (h : (σd[i]?).bind id = some m) (hv : σ[i]? = some (some v)) (sa : Os i a) (ha : H a ≠ none)
    (hm : RM g (upd H a o) F m' v (Os i)) : Rel g (upd H a o) F (σd.set i (some m')) σ Os ∧ Gr false H F (Own Os) (upd H a o) F (Own Os) := by
  have fa : F a = none := rel.nf i a sa
  have al : ∀ b, H b ≠ none → upd H a o b ≠ none := fun b hb => by
    by_cases e : b = a
    · subst e; rw [upd_same]; simp
    · rw [upd_ne e]; exact hb
  refine ⟨⟨fun b u e => ?_, by simpa using rel.len, fun j m2 e => ?_, rel.dj, rel.nf, fun j b z => al b (rel.al j b z)⟩, ⟨LeH.refl F, fun b u e n => ?_, al, fun _ z => .inl z, fun _ z => .inl z⟩⟩
  · have : b ≠ a := fun z => by subst z; rw [fa] at e; cases e
    rw [upd_ne this]
    exact rel.le b u e
  · by_cases hj : j = i
    · subst hj
      have hlt : j < σd.length := by
        cases q : σd[j]? with
        | none => rw [q] at h; cases h
        | some o => exact (List.getElem?_eq_some_iff.mp q).1
      rw [List.getElem?_set_self hlt] at e
      cases e
      exact ⟨v, hv, hm⟩
    · rw [List.getElem?_set_ne (Ne.symm hj)] at e
      obtain ⟨v', e1, q⟩ := rel.sl j m2 e
      refine ⟨v', e1, q.frame (LeH.refl F) fun b u z e => ?_⟩
      have : b ≠ a := fun w => by subst w; exact hj (rel.dj j i b z sa)
      rw [upd_ne this]
      exact e
  · have : b ≠ a := fun z => by subst z; exact n ⟨rfl, i, sa⟩
    rw [upd_ne this]
    exact e
theorem upd_out {H : Hp} {a : Addr} {o : HO} {S : Addr → Prop} : ∀ b u, (S b ∧ b ≠ a) → H b = some u → upd H a o b = some u := fun b u z e => by
  rw [upd_ne z.2]
  exact e
theorem ix_seq' {n : Nat} {i : Int} {j : Nat} (h : ixD n i = some j) : seqIndex? i n = some j ∧ j < n := by
  have := ixN_seq (n := n) (i := i) (j := j) h
  exact ⟨this.1, this.2.1⟩
theorem KE_there {α β : Type} {R : Hp → α → β → Prop} {H F : Hp} {σd : Env} {σ : L2.St} {Os : Nat → Addr → Prop} {O : Addr → Prop} {Q : β → Hp → Prop} {i : Nat} {f : Unit → Env → ER α} (rel : Rel g H F σd σ Os) (k : KE g W pu R σ H F O Q ((there (.root i) σd).bind f)) :
    ∃ ms v, (σd[i]?).bind id = some (.lst ms) ∧ σ[i]? = some (some v) ∧ KE g W pu R σ H F O Q (f () σd) := by
  cases h0 : (getPl σd (.root i)).bind M.isL with
  | none => simp only [there, h0] at k; exact k.elim
  | some m0 =>
    obtain ⟨m1, h1, h2⟩ := Option.bind_eq_some_iff.mp h0
    obtain ⟨v, hv, _⟩ := rel.get (m := m1) h1
    simp only [there, h0, ofO_some, ER.bind_ok] at k
    cases m1 <;> first | (simp [M.isL] at h2; done) | exact ⟨_, v, h1, hv, k⟩
/-- xs.pop() -/
theorem e_pop {i : Nat} {y : Str} {apos : Pos} (hl : (apos.endLine == pos.line) = true) (hN : X.N[i]? = some y) (hv : Vis X.env.scope y) (hd : (y == ("__debug__" : Str)) = false) (hcd : (y == ("__classdict__" : Str)) = false) :
    PE X (.Call (.Attribute (.Name y p2) "pop" apos) [] [] pos) (tE T G g W false (.pop (.root i))) :=
  (pe_bm0 PySem.F.plainAttrs_list PySem.F.slot_list_pop PySem.F.type_list_pop mt_pop (pe_var hN hv hd hcd) rfl hl).imp fun σ H Q ⟨σd, F, Os, rel, k⟩ => by
    simp only [evE, getPl, setPl] at k
    cases e0 : ((σd[i]?).bind id).bind mPop with
    | none => rw [e0] at k; exact k.elim
    | some r =>
      rw [e0] at k
      obtain ⟨m, e1, e2⟩ := Option.bind_eq_some_iff.mp e0
      obtain ⟨v, hv, rm⟩ := rel.get e1
      unfold mPop at e2
      split at e2
      · rename_i ms
        obtain ⟨x, e3, rfl⟩ := Option.map_eq_some_iff.mp e2
        obtain ⟨m', e4, e5⟩ := Option.bind_eq_some_iff.mp e3
        rw [leaf_of e5, List.getLast?_eq_getElem?] at e4
        cases rm with
        | lst sa ha hz hr =>
          rename_i a vs
          obtain ⟨w, hw, rw'⟩ := hr.getD e4
          rw [hr.length] at hw
          refine ⟨_, hv, .inl ⟨rfl, _, SqL.of ha⟩, a, vs, w, rfl, rfl, ha, hw, ?_⟩
          obtain ⟨rel2, gr2⟩ := rel.write (o := .lst vs.dropLast) (m' := .lst ms.dropLast) e1 hv sa (by rw [ha]; simp)
            (.lst sa upd_same (Nat.le_trans (by simp) hz) (hr.dropLast.frame (LeH.refl F) upd_out))
          exact k _ _ _ _ rel2 rw' gr2
      · cases e2
/-- xs.pop(i) -/
theorem e_popi {i : Nat} {y : Str} {apos : Pos} (hl : (apos.endLine == pos.line) = true) (hs : nStar a = true) (hN : X.N[i]? = some y) (hv : Vis X.env.scope y) (hd : (y == ("__debug__" : Str)) = false) (hcd : (y == ("__classdict__" : Str)) = false) (ha : PE X a (tE T G g W false ia)) :
    PE X (.Call (.Attribute (.Name y p2) "pop" apos) [a] [] pos) (tE T G g W false (.popi (.root i) ia)) :=
  (pe_bm PySem.F.plainAttrs_list PySem.F.slot_list_pop PySem.F.type_list_pop mt_popAt (pe_var hN hv hd hcd) (pa_cons ha pa_nil (starEach_of hs [] X.env)) rfl (by rw [starEach_of hs] <;> rfl) hl (starEach_of hs [] X.env) rfl).imp fun σ H Q ⟨σd, F, Os, rel, k⟩ => by
    simp only [evE, getPl, setPl] at k
    obtain ⟨ms, v, h1, hv, hk⟩ := KE_there rel k
    obtain ⟨v2, hv2, rm0⟩ := rel.get h1
    rw [hv] at hv2
    cases hv2
    refine ⟨v, hv, ?_, ?_⟩
    · cases rm0 with
      | lst sa ha hz hr => exact .inl ⟨rfl, _, SqL.of ha⟩
    · refine ⟨σd, F, Os, rel, KE.bind hk fun z σ1 u H1 F1 Os1 rel1 rz l1 gr1 k1 => ?_⟩
      cases e0 : ((σ1[i]?).bind id).bind (fun m => mPopi m z) with
      | none => rw [e0] at k1; exact k1.elim
      | some r =>
        rw [e0] at k1
        obtain ⟨m, e1, e2⟩ := Option.bind_eq_some_iff.mp e0
        obtain ⟨v2, hv2, rm⟩ := rel1.get e1
        rw [hv] at hv2
        cases hv2
        unfold mPopi at e2
        split at e2
        · rename_i ms2 n
          split at e2
          · rename_i hsm
            obtain ⟨j, e3, e4⟩ := Option.bind_eq_some_iff.mp e2
            obtain ⟨x, e5, rfl⟩ := Option.map_eq_some_iff.mp e4
            obtain ⟨m', e6, e7⟩ := Option.bind_eq_some_iff.mp e5
            rw [leaf_of e7] at e6
            cases rz
            simp only [smallR, Bool.and_eq_true, decide_eq_true_eq] at hsm
            cases rm with
            | lst sa ha hz hr =>
              rename_i a vs
              obtain ⟨w, hw, rw'⟩ := hr.getD e6
              have hl := hr.length
              rw [hl] at e3
              obtain ⟨s1, s2⟩ := ix_seq' e3
              refine ⟨a, vs, n, j, w, rfl, rfl, ha, by omega, by omega, s1, hw, ?_⟩
              obtain ⟨rel2, gr2⟩ := rel1.write (o := .lst (vs.eraseIdx j)) (m' := .lst (ms2.eraseIdx j)) e1 hv sa (by rw [ha]; simp)
                (.lst sa upd_same (Nat.le_trans (L2.len_erase _ _) hz) ((hr.eraseIdx j).frame (LeH.refl F1) upd_out))
              exact k1 _ _ _ _ rel2 rw' gr2
          · cases e2
        · cases e2
end
end JH

/-! JB7: arguments, calls of the program's defs. -/
namespace JH
open PySem PySem.Spec PyProof.Rows L2
section
variable {T : Tab} {G : Nat → Option D} {g : SG} {W : WX} {pu : Bool} {X : Cx} {a b c : Expr} {ia ib ic r : IE} {rest es : List Expr} {pos p2 p : Pos}
theorem RA.mono {σ : L2.St} {F F' : Hp} (l : LeH F F') {x : AV} {v : V} (h : RA g σ F x v) : RA g σ F' x v := by
  cases x with
  | d x => exact RD.mono l h
  | m i => exact h
theorem RAs.mono {σ : L2.St} {F F' : Hp} (l : LeH F F') : ∀ {x : List AV} {v : List V}, RAs g σ F x v → RAs g σ F' x v
  | _, _, .nil => .nil
  | _, _, .cons h t => .cons (h.mono l) (RAs.mono l t)
theorem a_nil : PA X [] (tAr T G g W pu .nil) := pa_nil.imp fun σ H Q ⟨σd, F, Os, rel, k⟩ => by
  simp only [evA] at k
  exact k [] H F Os rel .nil (Gr.refl pu _ _ _)
def IE.isMarg : IE → Bool
  | .marg _ => true
  | _ => false
theorem evA_cons (h : ia.isMarg = false) (σ : Env) : evA T G (.cons ia r) σ = (evE T G ia σ).bind fun x σ1 => (evA T G r σ1).bind fun xs σ2 => .ok (.d x :: xs) σ2 := by
  cases ia <;> first | (simp [IE.isMarg] at h; done) | (simp only [evA])
theorem a_cons (h : ia.isMarg = false) (hs : nStar a = true) (ha : PE X a (tE T G g W pu ia)) (hr : PA X es (tAr T G g W pu r)) : PA X (a :: es) (tAr T G g W pu (.cons ia r)) :=
  (pa_cons ha hr (starEach_of hs es X.env)).imp fun σ H Q ⟨σd, F, Os, rel, k⟩ => by
    rw [evA_cons h] at k
    refine ⟨σd, F, Os, rel, KE.bind k fun x σ1 v H1 F1 Os1 rel1 rx l1 gr1 k1 => ⟨σ1, F1, Os1, rel1, KE.bind k1 fun xs σ2 vs H2 F2 Os2 rel2 rxs l2 gr2 k2 => ?_⟩⟩
    exact k2 _ _ _ _ rel2 (.cons (RA.mono (x := .d x) l2 rx) rxs) (Gr.refl pu _ _ _)
theorem a_marg {i : Nat} {y : Str} (hN : X.N[i]? = some y) (hv : Vis X.env.scope y) (hd : (y == ("__debug__" : Str)) = false) (hcd : (y == ("__classdict__" : Str)) = false) (hr : PA X es (tAr T G g W pu r)) : PA X (.Name y p :: es) (tAr T G g W pu (.cons (.marg i) r)) :=
  (pa_cons (pe_var hN hv hd hcd) hr (starEach_of rfl es X.env)).imp fun σ H Q ⟨σd, F, Os, rel, k⟩ => by
    simp only [evA] at k
    cases e : (σd[i]?).bind id with
    | none => rw [e] at k; exact k.elim
    | some m =>
      rw [e] at k
      obtain ⟨v, hv, rm⟩ := rel.get e
      refine ⟨v, hv, σd, F, Os, rel, KE.bind k fun xs σ2 vs H2 F2 Os2 rel2 rxs l2 gr2 k2 => ?_⟩
      exact k2 _ _ _ _ rel2 (.cons (show RA g σ F2 (.m i) v from hv) rxs) (Gr.refl pu _ _ _)

/-! ### the promise of a def -/
def KC (g : SG) (vs : List V) (H F : Hp) (O : Addr → Prop) (Q : VK) (E : XK) : CR → Prop
  | .ret d outs => ∀ v H' F' Os', Rel g H' F' outs (vs.map some) Os' → RD g F' d v → Gr false H F O H' F' (Own Os') → Q v H'
  | .retM ds outs => ∀ p vs' H' F' Os', Rel g H' F' outs (vs.map some) Os' → H' p = some (.lst vs') → F' p = none → ¬ Own Os' p → (H p = none ∨ O p) → RDs g F' ds vs' → vs'.length ≤ sizeLine → Gr false H F O H' F' (Own Os') → Q (.ref p) H'
  | .exc e => ∀ cls dd H' F', LeH F' H' → RX g F' e cls dd → Gr false H F O H' F' (fun _ => False) → E cls dd H'
  | .stuck => False
def spF (g : SG) (T : Tab) (f : Nat) : Sp := fun vs H Q E => ∃ ms F Os, Rel g H F (ms.map some) (vs.map some) Os ∧ KC g vs H F (Own Os) Q E (T f ms)

/-- where a slot is handed over -/
def slotIx : List AV → Nat → Option Nat
  | [], _ => none
  | .m j :: r, i => if j = i then some 0 else (slotIx r i).map (· + 1)
  | .d _ :: r, i => (slotIx r i).map (· + 1)
theorem slotIx_mem : ∀ {avs : List AV} {i k : Nat}, slotIx avs i = some k → avs[k]? = some (.m i) ∧ i ∈ avSlots avs
  | .m j :: r, i, k, h => by
    unfold slotIx at h
    split at h
    · rename_i e
      subst e
      cases h
      exact ⟨rfl, by simp [avSlots]⟩
    · obtain ⟨k', e1, rfl⟩ := Option.map_eq_some_iff.mp h
      obtain ⟨a1, a2⟩ := slotIx_mem e1
      exact ⟨by simpa using a1, by simp [avSlots, a2]⟩
  | .d _ :: r, i, k, h => by
    unfold slotIx at h
    obtain ⟨k', e1, rfl⟩ := Option.map_eq_some_iff.mp h
    obtain ⟨a1, a2⟩ := slotIx_mem e1
    exact ⟨by simpa using a1, by simpa [avSlots] using a2⟩
theorem slotIx_none : ∀ {avs : List AV} {i : Nat}, slotIx avs i = none → i ∉ avSlots avs
  | [], _, _ => by simp [avSlots]
  | .m j :: r, i, h => by
    unfold slotIx at h
    split at h
    · cases h
    · rename_i e
      have := slotIx_none (Option.map_eq_none_iff.mp h)
      simp only [avSlots, List.mem_cons, not_or]
      exact ⟨fun z => e z.symm, this⟩
  | .d _ :: r, i, h => by
    unfold slotIx at h
    have := slotIx_none (Option.map_eq_none_iff.mp h)
    simpa [avSlots] using this
theorem slotIx_of : ∀ {avs : List AV} {i k : Nat}, nodupB (avSlots avs) = true → avs[k]? = some (.m i) → slotIx avs i = some k
  | .m j :: r, i, 0, nd, h => by
    simp at h
    subst h
    simp [slotIx]
  | .m j :: r, i, k + 1, nd, h => by
    simp only [avSlots, nodupB, Bool.and_eq_true, Bool.not_eq_true', List.contains_eq_mem, decide_eq_false_iff_not] at nd
    have h' : r[k]? = some (.m i) := by simpa using h
    have ih := slotIx_of nd.2 h'
    have hm := (slotIx_mem ih).2
    have : j ≠ i := fun e => nd.1 (e ▸ hm)
    simp [slotIx, this, ih]
  | .d _ :: r, i, k, nd, h => by
    cases k with
    | zero => simp at h
    | succ k =>
      have h' : r[k]? = some (.m i) := by simpa using h
      have ih := slotIx_of (avs := r) (by simpa [avSlots] using nd) h'
      simp [slotIx, ih]
theorem putOuts_len : ∀ (avs : List AV) (os σ : Env), (putOuts σ avs os).length = σ.length
  | [], _, _ => rfl
  | .m i :: r, o :: os, σ => by unfold putOuts; rw [putOuts_len r os]; simp
  | .m i :: r, [], σ => by unfold putOuts; rw [putOuts_len r []]; simp
  | .d _ :: r, o :: os, σ => by unfold putOuts; rw [putOuts_len r os]
  | .d _ :: r, [], σ => by unfold putOuts; rw [putOuts_len r []]
theorem putOuts_out : ∀ (avs : List AV) (os σ : Env) (i : Nat), i ∉ avSlots avs → (putOuts σ avs os)[i]? = σ[i]?
  | [], _, _, _, _ => rfl
  | .m j :: r, o :: os, σ, i, h => by
    simp only [avSlots, List.mem_cons, not_or] at h
    unfold putOuts
    rw [putOuts_out r os _ i h.2, List.getElem?_set_ne (Ne.symm h.1)]
  | .m j :: r, [], σ, i, h => by
    simp only [avSlots, List.mem_cons, not_or] at h
    unfold putOuts
    rw [putOuts_out r [] _ i h.2, List.getElem?_set_ne (Ne.symm h.1)]
  | .d _ :: r, o :: os, σ, i, h => by
    unfold putOuts
    exact putOuts_out r os _ i (by simpa [avSlots] using h)
  | .d _ :: r, [], σ, i, h => by
    unfold putOuts
    exact putOuts_out r [] _ i (by simpa [avSlots] using h)
theorem putOuts_in : ∀ (avs : List AV) (os σ : Env) (i k : Nat), nodupB (avSlots avs) = true → slotIx avs i = some k → i < σ.length → (putOuts σ avs os)[i]? = some ((os[k]?).bind id)
  | .m j :: r, o :: os, σ, i, k, nd, h, hl => by
    simp only [avSlots, nodupB, Bool.and_eq_true, Bool.not_eq_true', List.contains_eq_mem, decide_eq_false_iff_not] at nd
    unfold slotIx at h
    unfold putOuts
    split at h
    · rename_i e
      subst e
      cases h
      rw [putOuts_out r os _ j nd.1, List.getElem?_set_self hl]
      cases o <;> rfl
    · obtain ⟨k', e1, rfl⟩ := Option.map_eq_some_iff.mp h
      rw [putOuts_in r os _ i k' nd.2 e1 (by simpa using hl)]
      simp
  | .m j :: r, [], σ, i, k, nd, h, hl => by
    simp only [avSlots, nodupB, Bool.and_eq_true, Bool.not_eq_true', List.contains_eq_mem, decide_eq_false_iff_not] at nd
    unfold slotIx at h
    unfold putOuts
    split at h
    · rename_i e
      subst e
      cases h
      rw [putOuts_out r [] _ j nd.1, List.getElem?_set_self hl]
      rfl
    · obtain ⟨k', e1, rfl⟩ := Option.map_eq_some_iff.mp h
      rw [putOuts_in r [] _ i k' nd.2 e1 (by simpa using hl)]
      simp
  | .d _ :: r, o :: os, σ, i, k, nd, h, hl => by
    unfold slotIx at h
    unfold putOuts
    obtain ⟨k', e1, rfl⟩ := Option.map_eq_some_iff.mp h
    rw [putOuts_in r os _ i k' (by simpa [avSlots] using nd) e1 hl]
    simp
  | .d _ :: r, [], σ, i, k, nd, h, hl => by
    unfold slotIx at h
    unfold putOuts
    obtain ⟨k', e1, rfl⟩ := Option.map_eq_some_iff.mp h
    rw [putOuts_in r [] _ i k' (by simpa [avSlots] using nd) e1 hl]
    simp
theorem dropOuts_eq : ∀ (avs : List AV) (σ : Env), dropOuts σ avs = putOuts σ avs []
  | [], _ => rfl
  | .m i :: r, σ => by unfold dropOuts putOuts; exact dropOuts_eq r _
  | .d _ :: r, σ => by unfold dropOuts putOuts; exact dropOuts_eq r _
theorem avMs_get : ∀ {avs : List AV} {σ : Env} {ms : List M}, avMs σ avs = some ms → ms.length = avs.length ∧ ∀ (k : Nat) (m : M), ms[k]? = some m → ∃ av, avs[k]? = some av ∧ avM σ av = some m
  | [], σ, ms, h => by
    cases h
    exact ⟨rfl, fun k m e => by simp at e⟩
  | av :: r, σ, ms, h => by
    unfold avMs at h
    obtain ⟨m0, e1, e2⟩ := Option.bind_eq_some_iff.mp h
    obtain ⟨ms', e3, rfl⟩ := Option.map_eq_some_iff.mp e2
    obtain ⟨h1, h2⟩ := avMs_get e3
    refine ⟨by simp [h1], fun k m e => ?_⟩
    cases k with
    | zero =>
      simp at e
      subst e
      exact ⟨av, rfl, e1⟩
    | succ k =>
      obtain ⟨av', q1, q2⟩ := h2 k m (by simpa using e)
      exact ⟨av', by simpa using q1, q2⟩
theorem RAs.len {σ : L2.St} {F : Hp} : ∀ {avs : List AV} {vs : List V}, RAs g σ F avs vs → avs.length = vs.length
  | _, _, .nil => rfl
  | _, _, .cons _ t => by simp [RAs.len t]
theorem RAs.get {σ : L2.St} {F : Hp} : ∀ {avs : List AV} {vs : List V} {k : Nat} {av : AV}, RAs g σ F avs vs → avs[k]? = some av → ∃ v, vs[k]? = some v ∧ RA g σ F av v
  | _, _, _, _, .nil, e => by simp at e
  | _, _, 0, _, .cons h t, e => by
    simp at e
    subst e
    exact ⟨_, rfl, h⟩
  | _, _, k + 1, _, .cons h t, e => by
    obtain ⟨v, q1, q2⟩ := RAs.get t (by simpa using e)
    exact ⟨v, by simpa using q1, q2⟩

/-- the slots that are handed over, by the argument's number -/
def handed (Os : Nat → Addr → Prop) (avs : List AV) : Nat → Addr → Prop := fun k a => ∃ i, avs[k]? = some (.m i) ∧ Os i a
theorem call_in {H F : Hp} {σd : Env} {σ : L2.St} {Os : Nat → Addr → Prop} {avs : List AV} {vs : List V} {ms : List M} (rel : Rel g H F σd σ Os) (ra : RAs g σ F avs vs) (hm : avMs σd avs = some ms) (nd : nodupB (avSlots avs) = true) :
    Rel g H F (ms.map some) (vs.map some) (handed Os avs) := by
  obtain ⟨h1, h2⟩ := avMs_get hm
  refine ⟨rel.le, by simp [h1, ra.len], fun k m e => ?_, fun k k' a ⟨i, e1, e2⟩ ⟨i', e3, e4⟩ => ?_, fun k a ⟨i, _, e⟩ => rel.nf i a e, fun k a ⟨i, _, e⟩ => rel.al i a e⟩
  · have e' : ms[k]? = some m := by simpa using e
    obtain ⟨av, q1, q2⟩ := h2 k m e'
    obtain ⟨v, q3, q4⟩ := ra.get q1
    refine ⟨v, by simp [q3], ?_⟩
    cases av with
    | d x =>
      cases q2
      exact .d q4
    | m i =>
      obtain ⟨v', q5, q6⟩ := rel.get (show (σd[i]?).bind id = some m from q2)
      have q4' : σ[i]? = some (some v) := q4
      rw [q5] at q4'
      cases q4'
      exact q6.wide fun a z => ⟨i, q1, z⟩
  · have e5 := rel.dj i i' a e2 e4
    subst e5
    have s1 := slotIx_of nd e1
    have s2 := slotIx_of nd e3
    rw [s1] at s2
    exact Option.some.inj s2
theorem call_out {H F H' F' : Hp} {σd outs : Env} {σ : L2.St} {Os Os' : Nat → Addr → Prop} {avs : List AV} {vs : List V} (rel : Rel g H F σd σ Os) (ra : RAs g σ F avs vs) (nd : nodupB (avSlots avs) = true)
    (rel2 : Rel g H' F' outs (vs.map some) Os') (gr : Gr false H F (Own (handed Os avs)) H' F' (Own Os')) (hp : pu = true → avSlots avs = []) :
    ∃ Os2, Rel g H' F' (putOuts σd avs outs) σ Os2 ∧ Gr pu H F (Own Os) H' F' (Own Os2) ∧ ∀ a, Own Os2 a → Own Os' a ∨ ∃ i, slotIx avs i = none ∧ Os i a := by
  refine ⟨fun i a => (∃ k, slotIx avs i = some k ∧ Os' k a) ∨ (slotIx avs i = none ∧ Os i a), ?_, ?_, fun a ⟨i, z⟩ => z.elim (fun ⟨k, _, w⟩ => .inl ⟨k, w⟩) fun w => .inr ⟨i, w⟩⟩
  · have hO : ∀ i a, slotIx avs i = none → Os i a → ¬ Own (handed Os avs) a := fun i a h1 h2 ⟨k, j, e1, e2⟩ => by
      have := rel.dj i j a h2 e2
      subst this
      rw [slotIx_of nd e1] at h1
      cases h1
    refine ⟨rel2.le, by rw [putOuts_len]; exact rel.len, fun i m e => ?_, fun i j a x y => ?_, fun i a x => ?_, fun i a x => ?_⟩
    · cases h : slotIx avs i with
      | none =>
        rw [putOuts_out _ _ _ _ (slotIx_none h)] at e
        obtain ⟨v, e1, q⟩ := rel.sl i m e
        refine ⟨v, e1, (q.frame gr.ff fun b o z e => gr.fr b o e fun w => hO i b h z w.2).wide fun b z => .inr ⟨by first | exact h | rfl, z⟩⟩
      | some k =>
        have hl : i < σd.length := by
          by_cases hl : i < σd.length
          · exact hl
          · rw [List.getElem?_eq_none (by rw [putOuts_len]; omega)] at e
            cases e
        rw [putOuts_in _ _ _ _ _ nd h hl] at e
        have e' : (outs[k]?).bind id = some m := Option.some.inj e
        obtain ⟨v, e1, q⟩ := rel2.get e'
        obtain ⟨v', e2, ra'⟩ := ra.get (slotIx_mem h).1
        have e3 : (vs.map some)[k]? = some (some v') := by simp [e2]
        have ev : v' = v := by
          rw [e3] at e1
          exact Option.some.inj (Option.some.inj e1)
        subst ev
        exact ⟨v', ra', q.wide fun b z => .inl ⟨k, by first | exact h | rfl, z⟩⟩
    · rcases x with ⟨k, h1, z1⟩ | ⟨h1, z1⟩ <;> rcases y with ⟨k', h2, z2⟩ | ⟨h2, z2⟩
      · have := rel2.dj k k' a z1 z2
        subst this
        have m1 := (slotIx_mem h1).1
        have m2 := (slotIx_mem h2).1
        rw [m1] at m2
        cases m2
        rfl
      · exfalso
        rcases gr.ow a ⟨k, z1⟩ with w | w
        · exact hO j a h2 z2 w
        · exact rel.al j a z2 w
      · exfalso
        rcases gr.ow a ⟨k', z2⟩ with w | w
        · exact hO i a h1 z1 w
        · exact rel.al i a z1 w
      · exact rel.dj i j a z1 z2
    · rcases x with ⟨k, h1, z1⟩ | ⟨h1, z1⟩
      · exact rel2.nf k a z1
      · cases e : F' a with
        | none => rfl
        | some o =>
          exfalso
          rcases gr.fz a (by rw [e]; simp) with w | w | w
          · exact w (rel.nf i a z1)
          · exact hO i a h1 z1 w.2
          · exact rel.al i a z1 w
    · rcases x with ⟨k, h1, z1⟩ | ⟨h1, z1⟩
      · exact rel2.al k a z1
      · exact gr.al a (rel.al i a z1)
  · have hh : ∀ a, Own (handed Os avs) a → (pu = false ∧ Own Os a) := fun a ⟨k, j, e1, e2⟩ => by
      refine ⟨?_, j, e2⟩
      cases hpu : pu with
      | false => rfl
      | true =>
        have := (slotIx_mem (slotIx_of nd e1)).2
        rw [hp hpu] at this
        cases this
    refine ⟨gr.ff, fun a o e n => gr.fr a o e fun w => n (hh a w.2), gr.al, fun a ⟨i, x⟩ => ?_, fun a e => ?_⟩
    · rcases x with ⟨k, h1, z1⟩ | ⟨h1, z1⟩
      · exact (gr.ow a ⟨k, z1⟩).imp (fun w => (hh a w).2) id
      · exact .inl ⟨i, z1⟩
    · rcases gr.fz a e with w | w | w
      · exact .inl w
      · exact .inr (.inl (hh a w.2))
      · exact .inr (.inr w)
theorem putOuts_nones : ∀ (avs : List AV) (σ : Env) (n : Nat), putOuts σ avs (List.replicate n none) = putOuts σ avs []
  | [], _, _ => rfl
  | .m i :: r, σ, 0 => rfl
  | .m i :: r, σ, n + 1 => by
    rw [List.replicate_succ]
    unfold putOuts
    exact putOuts_nones r _ n
  | .d _ :: r, σ, 0 => rfl
  | .d _ :: r, σ, n + 1 => by
    rw [List.replicate_succ]
    unfold putOuts
    exact putOuts_nones r _ n
theorem call_exc {H F H' F' : Hp} {σd : Env} {σ : L2.St} {Os : Nat → Addr → Prop} {avs : List AV} {vs : List V} (rel : Rel g H F σd σ Os) (ra : RAs g σ F avs vs) (nd : nodupB (avSlots avs) = true)
    (le : LeH F' H') (gr : Gr false H F (Own (handed Os avs)) H' F' (fun _ => False)) (hp : pu = true → avSlots avs = []) :
    ∃ Os2, Rel g H' F' (dropOuts σd avs) σ Os2 ∧ Gr pu H F (Own Os) H' F' (Own Os2) := by
  rw [dropOuts_eq, ← putOuts_nones avs σd vs.length]
  refine (fun z => ⟨z.choose, z.choose_spec.1, z.choose_spec.2.1⟩) <| call_out (Os' := fun _ _ => False) (vs := vs) rel ra nd ⟨le, by simp, fun i m e => ?_, fun _ _ _ z => z.elim, fun _ _ z => z.elim, fun _ _ z => z.elim⟩ ⟨gr.ff, gr.fr, gr.al, fun a ⟨_, z⟩ => z.elim, gr.fz⟩ hp
  rw [List.getElem?_replicate] at e
  split at e <;> cases e
def IE.noM : IE → Bool
  | .cons a r => !a.isMarg && r.noM
  | _ => true
theorem evA_noM : ∀ (l : IE) (σ σ' : Env) (avs : List AV), l.noM = true → evA T G l σ = .ok avs σ' → avSlots avs = [] := by
  intro l
  induction l with
  | nil => intro σ σ' avs _ h; simp only [evA] at h; cases h; rfl
  | cons a r _ ih =>
    intro σ σ' avs hn h
    simp only [IE.noM, Bool.and_eq_true, Bool.not_eq_true'] at hn
    rw [evA_cons hn.1] at h
    cases e : evE T G a σ with
    | ok x σ1 =>
      rw [e] at h
      cases e2 : evA T G r σ1 with
      | ok xs σ2 =>
        simp only [ER.bind_ok, e2] at h
        cases h
        show avSlots xs = []
        exact ih _ _ _ hn.2 e2
      | exc _ _ => simp only [ER.bind_ok, e2, ER.bind_exc] at h; cases h
      | stuck => simp only [ER.bind_ok, e2, ER.bind_stuck] at h; cases h
    | exc _ _ => rw [e] at h; cases h
    | stuck => rw [e] at h; cases h
  | _ => intro σ σ' ds _ h; simp only [evA] at h; cases h
/-- a new object that nobody owns is frozen -/
theorem frz1 {H F : Hp} {σd : Env} {σ : L2.St} {Os : Nat → Addr → Prop} {p : Addr} {o : HO} (rel : Rel g H F σd σ Os) (hp : H p = some o) (fp : F p = none) (nO : ¬ Own Os p) : Rel g H (upd F p o) σd σ Os ∧ LeH F (upd F p o) := by
  have ff : LeH F (upd F p o) := fun a u e => by rw [upd_ne (ne_of_none e fp)]; exact e
  refine ⟨⟨fun a u e => ?_, rel.len, fun i m e => ?_, rel.dj, fun i a z => ?_, rel.al⟩, ff⟩
  · by_cases q : a = p
    · subst q; rw [upd_same] at e; cases e; exact hp
    · rw [upd_ne q] at e; exact rel.le a u e
  · obtain ⟨v, e1, q⟩ := rel.sl i m e
    exact ⟨v, e1, q.frame ff fun _ _ _ e => e⟩
  · have : a ≠ p := fun q => nO ⟨i, q ▸ z⟩
    rw [upd_ne this]
    exact rel.nf i a z
theorem call_nO {H F : Hp} {σd : Env} {σ : L2.St} {Os : Nat → Addr → Prop} {avs : List AV} {p : Addr} (rel : Rel g H F σd σ Os) (nd : nodupB (avSlots avs) = true) (np : H p = none ∨ Own (handed Os avs) p) (w : ∃ i, slotIx avs i = none ∧ Os i p) : False := by
  obtain ⟨i, w1, w2⟩ := w
  rcases np with np | ⟨k, j, e1, e2⟩
  · exact rel.al i p w2 np
  · have := rel.dj i j p w2 e2
    subst this
    have := slotIx_of nd e1
    rw [w1] at this
    cases this
theorem handed_own {Os : Nat → Addr → Prop} {avs : List AV} {p : Addr} (h : Own (handed Os avs) p) : Own Os p ∧ avSlots avs ≠ [] := by
  obtain ⟨k, j, e1, e2⟩ := h
  exact ⟨⟨j, e2⟩, fun z => by
    have : j ∈ avSlots avs := by
      clear e2
      induction avs generalizing k with
      | nil => simp at e1
      | cons a r ih =>
        cases k with
        | zero => simp at e1; subst e1; simp [avSlots]
        | succ k =>
          have := ih k (by simpa using e1)
          cases a <;> simp_all [avSlots]
    rw [z] at this
    cases this⟩
/-- a call's end, from the arguments -/
theorem call_fin {H F : Hp} {σd : Env} {σ : L2.St} {Os : Nat → Addr → Prop} {avs : List AV} {vs : List V} {f : Nat} {Q : VK} (rel : Rel g H F σd σ Os) (ra : RAs g σ F avs vs) (hp : pu = true → avSlots avs = [])
    (k : KE g W pu (RD g) σ H F (Own Os) Q (callWith T f avs σd)) : spF g T f vs H Q (fun cls dd H' => W cls dd σ H') := by
  unfold callWith at k
  split at k
  · rename_i nd
    split at k
    · rename_i ms hm
      refine ⟨ms, F, _, call_in rel ra hm nd, ?_⟩
      cases e : T f ms with
      | ret d outs =>
        rw [e] at k
        intro v H' F' Os' rel2 rd gr
        obtain ⟨Os2, r2, g2, _⟩ := call_out rel ra nd rel2 gr hp
        exact k v H' F' Os2 r2 rd g2
      | retM ds outs =>
        rw [e] at k
        intro p vs' H' F' Os' rel2 hp' fp nO np rs hz gr
        obtain ⟨Os2, r2, g2, g3⟩ := call_out rel ra nd rel2 gr hp
        have nO2 : ¬ Own Os2 p := fun z => (g3 p z).elim nO (call_nO rel nd np)
        have x := frz1 r2 hp' fp nO2
        refine k (.ref p) H' _ Os2 x.1 (.lst upd_same hz (rs.mono x.2)) ⟨g2.ff.trans x.2, g2.fr, g2.al, g2.ow, fun a z => ?_⟩
        by_cases q : a = p
        · subst q
          rcases np with np | np
          · exact .inr (.inr np)
          · have := handed_own np
            cases hpu : pu with
            | false => exact .inr (.inl ⟨rfl, this.1⟩)
            | true => exact absurd (hp hpu) this.2
        · rw [upd_ne q] at z; exact g2.fz a z
      | exc x =>
        rw [e] at k
        intro cls dd H' F' le rx gr
        obtain ⟨Os2, r2, g2⟩ := call_exc rel ra nd le gr hp
        exact k cls dd H' F' Os2 r2 rx g2
      | stuck =>
        rw [e] at k
        exact k
    · exact k.elim
  · exact k.elim
theorem e_call {k f : Nat} {ad : Addr} {fd : FuncData} {ps : List Str} {x : Str} (F : FnOk X.prog X.w X.K X.mg X.base (L2N.CX X.prog X.w) k ad fd ps (spF g T f)) (hr : Room k X.A) (hg : Gl X x) (hm : X.mg x = some (.ref ad)) (hk : PySem.W.keepIn X.K (.ref ad) = true)
    (hb : L2.Binds X.K fd ps []) (tk : L2N.Takes X W) (hs : nStar a = true) (hss : es.all nStar = true) (hdb : (x == ("__debug__" : Str)) = false) (hp : pu = true → r.noM = true) (ha : PA X (a :: es) (tAr T G g W pu r)) :
    PE X (.Call (.Name x p) (a :: es) [] pos) (tE T G g W pu (.call f r)) :=
  (pe_callS F hr hg hm hk hb (fun σ => L2N.passAt tk σ) ha hdb (starEach_of hs es X.env) (noStars _ _ _ hss)).imp fun σ H Q ⟨σd, F, Os, rel, k⟩ => by
    simp only [evE] at k
    refine ⟨σd, F, Os, rel, KE.bindE k fun avs σ1 vs H1 F1 Os1 e rel1 ra l1 gr1 k1 => ?_⟩
    exact call_fin rel1 ra (fun h => evA_noM _ _ _ _ (hp h) e) k1
end
end JH

/-! JB8: targets, what is walked, comprehensions. -/
namespace JH
open PySem PySem.Spec PyProof.Rows L2
def tgS : Tg → List Nat
  | .nm i => [i]
  | .nil => []
  | .cons a r => tgS a ++ tgS r
def tgLen : Tg → Nat
  | .cons _ r => tgLen r + 1
  | _ => 0
section
variable (g : SG)
def tG (tg : Tg) : TG := fun v σ H Q => ∃ σd F Os d σd', Rel g H F σd σ Os ∧ RD g F d v ∧ asgT tg d σd = some σd' ∧
  ∀ σ' Os', Rel g H F σd' σ' Os' → σ'.length = σ.length → (∀ j, j ∉ tgS tg → σ'[j]? = σ[j]?) → (∀ a, Own Os' a → Own Os a) → Q σ' H
def tGs (tg : Tg) : TGs := fun vs σ H Q => ∃ σd F Os ds σd', Rel g H F σd σ Os ∧ RDs g F ds vs ∧ asgTs tg ds σd = some σd' ∧
  ∀ σ' Os', Rel g H F σd' σ' Os' → σ'.length = σ.length → (∀ j, j ∉ tgS tg → σ'[j]? = σ[j]?) → (∀ a, Own Os' a → Own Os a) → Q σ' H
end
section
variable {T : Tab} {G : Nat → Option D} {g : SG} {W : WX} {pu : Bool} {X : Cx} {a b c : Expr} {ia ib ic r : IE} {rest es : List Expr} {pos p2 p : Pos}
theorem Rel.asgn {H F : Hp} {σd : Env} {σ : L2.St} {Os : Nat → Addr → Prop} (rel : Rel g H F σd σ Os) {i : Nat} {d : D} {v : V} (rd : RD g F d v) : Rel g H F (σd.set i (some (.d d))) (σ.set i (some v)) (fun j a => j ≠ i ∧ Os j a) := by
  refine ⟨rel.le, by simpa using rel.len, fun j m e => ?_, fun j k a x y => rel.dj j k a x.2 y.2, fun j a x => rel.nf j a x.2, fun j a x => rel.al j a x.2⟩
  by_cases hj : j = i
  · subst hj
    have hlt : j < σd.length := by
      by_cases hlt : j < σd.length
      · exact hlt
      · rw [List.getElem?_eq_none (by simpa using hlt)] at e; cases e
    rw [List.getElem?_set_self hlt] at e
    cases e
    exact ⟨v, by rw [List.getElem?_set_self (by rw [← rel.len]; exact hlt)], .d rd⟩
  · rw [List.getElem?_set_ne (Ne.symm hj)] at e ⊢
    obtain ⟨v', e1, q⟩ := rel.sl j m e
    exact ⟨v', e1, q.wide fun a z => ⟨hj, z⟩⟩
theorem g_nm {i : Nat} {x : Str} (hN : X.N.Nodup) (hi : X.N[i]? = some x) (hx : Loc X.env.scope x) (hf : X.fn x = true ∨ X.env.scope.names.lookup x = some .local) : PG X (.Name x pos) (tG g (.nm i)) :=
  (pg_name hN hi hx hf).imp fun v σ H Q ⟨σd, F, Os, d, σd', rel, rd, e, k⟩ => by
    simp only [asgT] at e
    cases e
    refine k _ _ (rel.asgn rd) (by simp) (fun j hj => ?_) fun a ⟨i, z⟩ => ⟨i, z.2⟩
    have : i ≠ j := fun e => hj (by simp [tgS, e])
    rw [List.getElem?_set_ne this]
theorem gs_nil : PGs X [] (tGs g .nil) := ⟨fun pins s σ H vs us Q I r ⟨σd, F, Os, ds, σd', rel, rd, e, k⟩ => by
  refine pgs_nil.run pins s σ H vs us Q I r ?_
  simp only [asgTs] at e
  split at e
  · cases e
    cases rd
    exact ⟨rfl, k _ _ rel rfl (fun _ _ => rfl) fun _ z => z⟩
  · cases e⟩
theorem gs_cons {t u : Tg} (hs : nStar a = true) (h1 : PG X a (tG g t)) (h2 : PGs X es (tGs g u)) : PGs X (a :: es) (tGs g (.cons t u)) := ⟨fun pins s σ H vs us Q I r ⟨σd, F, Os, ds, σd', rel, rd, e, k⟩ => by
  refine (pgs_cons h1 h2 (by rw [assignEach_of hs]; rfl)).run pins s σ H vs us Q I r ?_
  cases rd with
  | nil => simp [asgTs] at e
  | cons r1 r2 =>
    simp only [asgTs] at e
    obtain ⟨σ1, e1, e2⟩ := Option.bind_eq_some_iff.mp e
    refine ⟨_, _, rfl, σd, F, Os, _, σ1, rel, r1, e1, fun σ' Os' rel' hl hj ho => ⟨σ1, F, Os', _, σd', rel', r2, e2, fun σ2 Os2 rel2 hl2 hj2 ho2 => ?_⟩⟩
    refine k σ2 Os2 rel2 (hl2.trans hl) (fun j hjj => ?_) fun a z => ho a (ho2 a z)
    simp only [tgS, List.mem_append, not_or] at hjj
    rw [hj2 j hjj.2, hj j hjj.1]⟩
theorem asgTs_len : ∀ (t : Tg) (ds : List D) (σ σ' : Env), asgTs t ds σ = some σ' → ds.length = tgLen t := by
  intro t
  induction t with
  | nm i => intro ds σ σ' h; simp [asgTs] at h
  | nil =>
    intro ds σ σ' h
    cases ds with
    | nil => rfl
    | cons _ _ => simp [asgTs] at h
  | cons a r _ ih =>
    intro ds σ σ' h
    cases ds with
    | nil => simp [asgTs] at h
    | cons x xs =>
      simp only [asgTs] at h
      obtain ⟨σ1, _, e2⟩ := Option.bind_eq_some_iff.mp h
      simp [tgLen, ih _ _ _ e2]
theorem asgT_tup {t u : Tg} {d : D} {σ σ' : Env} (h : asgT (.cons t u) d σ = some σ') : ∃ ds, d = .tup ds ∧ asgTs (.cons t u) ds σ = some σ' := by
  cases d with
  | tup xs =>
    cases xs with
    | nil => simp [asgT] at h
    | cons x xs => exact ⟨_, rfl, by simpa only [asgT, asgTs] using h⟩
  | _ => simp [asgT] at h
theorem g_tup {t u : Tg} {k : Nat} (hK : X.K = g.K) (hc : X.calm = true) (hn : (assignEach es X.env).length = tgLen (.cons t u)) (hst : (assignEach es X.env).findIdx? (·.1) = none) (h : PGs X es (tGs g (.cons t u))) : PG X (.Tuple es k pos) (tG g (.cons t u)) :=
  (pg_tup hc h hn hst).imp fun v σ H Q ⟨σd, F, Os, d, σd', rel, rd, e, q⟩ => by
    obtain ⟨ds, rfl, e2⟩ := asgT_tup e
    cases rd with
    | tup h1 z r =>
      refine ⟨_, _, rfl, by rw [hK]; exact SqT.mono h1 rel.le, ?_, σd, F, Os, ds, σd', rel, r, e2, q⟩
      rw [← r.length, asgTs_len _ _ _ _ e2]

/-! ### what is walked -/
structure Wk (g : SG) (J : It) (items : List D) (F0 : Hp) : Prop where
  go : ∀ i H, LeH F0 H → i < items.length → J.go i H
  yl : ∀ i H F x H' d, LeH F0 F → LeH F H → items[i]? = some d → J.yld i H x H' → ∃ F', Ext H F H' F' ∧ RD g F' d x
  st : ∀ i H, LeH F0 H → items.length ≤ i → J.stop i H
  sz : items.length ≤ 16777216
def tI (T : Tab) (G : Nat → Option D) (g : SG) (W : WX) (pu : Bool) (ie : IE) : TI := tV g W pu (fun F items J => Wk g J items F) (evI T G ie)
theorem rangeD_get {lo : Int} {n i : Nat} {d : D} (h : (rangeD lo n)[i]? = some d) : i < n ∧ d = .int (lo + i) := by
  unfold rangeD at h
  rw [List.getElem?_map] at h
  obtain ⟨j, h1, h2⟩ := Option.map_eq_some_iff.mp h
  obtain ⟨h3, h4⟩ := List.getElem?_eq_some_iff.mp h1
  simp only [List.length_range] at h3
  simp only [List.getElem_range] at h4
  subst h4
  exact ⟨h3, h2.symm⟩
theorem rangeD_len (lo : Int) (n : Nat) : (rangeD lo n).length = n := by simp [rangeD]
theorem wk_range {lo : Int} {n : Nat} (hn : n ≤ 16777216) (F : Hp) : Wk g (Itr lo n) (rangeD lo n) F := by
  refine ⟨fun i H _ h => by rw [rangeD_len] at h; exact h, fun i H F1 x H' d _ le h y => ?_, fun i H _ h => by rw [rangeD_len] at h; exact h, by rw [rangeD_len]; exact hn⟩
  obtain ⟨e1, rfl⟩ := y
  subst e1
  obtain ⟨_, rfl⟩ := rangeD_get h
  exact ⟨F1, Ext.refl le, .int _⟩
theorem wk_list {K : PySem.W.Frag} {p : Addr} {vs : List V} {ds : List D} {F : Hp} (h : SqL K F p vs) (r : RDs g F ds vs) (hz : vs.length ≤ sizeLine) : Wk g (Itl K p) ds F := by
  refine ⟨fun i H le hi => ⟨vs, vs[i]'(by rw [← r.length]; exact hi), SqL.mono h le, by simp⟩, fun i H F1 x H' d l0 le e y => ?_, fun i H le hi => ⟨vs, SqL.mono h le, by rw [← r.length]; exact hi⟩, by rw [r.length, ← line_eq]; exact hz⟩
  obtain ⟨e1, y⟩ := y
  subst e1
  obtain ⟨v, e2, rv⟩ := r.get e
  have := y vs (SqL.mono h (l0.trans le))
  rw [e2] at this
  cases this
  exact ⟨F1, Ext.refl le, rv.mono l0⟩
theorem wk_tup {K : PySem.W.Frag} {p : Addr} {vs : List V} {ds : List D} {F : Hp} (h : SqT K F p vs) (r : RDs g F ds vs) (hz : vs.length ≤ sizeLine) : Wk g (Itt K p) ds F := by
  refine ⟨fun i H le hi => ⟨vs, vs[i]'(by rw [← r.length]; exact hi), SqT.mono h le, by simp⟩, fun i H F1 x H' d l0 le e y => ?_, fun i H le hi => ⟨vs, SqT.mono h le, by rw [← r.length]; exact hi⟩, by rw [r.length, ← line_eq]; exact hz⟩
  obtain ⟨e1, y⟩ := y
  subst e1
  obtain ⟨v, e2, rv⟩ := r.get e
  have := y vs (SqT.mono h (l0.trans le))
  rw [e2] at this
  cases this
  exact ⟨F1, Ext.refl le, rv.mono l0⟩
theorem enumD_len : ∀ (k : Nat) (ds : List D), (enumD k ds).length = ds.length
  | _, [] => rfl
  | k, _ :: ds => by simp [enumD, enumD_len (k + 1) ds]
theorem enumD_get : ∀ {k i : Nat} {ds : List D} {d : D}, (enumD k ds)[i]? = some d → ∃ x, ds[i]? = some x ∧ d = .tup [.int ((k + i : Nat) : Int), x]
  | _, _, [], _, h => by simp [enumD] at h
  | k, 0, x :: ds, d, h => by
    simp [enumD] at h
    exact ⟨x, rfl, by rw [← h]; rfl⟩
  | k, i + 1, x :: ds, d, h => by
    simp only [enumD, List.getElem?_cons_succ] at h
    obtain ⟨y, h1, h2⟩ := enumD_get h
    refine ⟨y, by simpa using h1, ?_⟩
    rw [h2]
    have : k + 1 + i = k + (i + 1) := by omega
    rw [this]
theorem two_line : 2 ≤ (sizeLine : Nat) := by rw [line_eq]; omega
theorem wk_enum {K : PySem.W.Frag} {p : Addr} {vs : List V} {ds : List D} {F : Hp} (h : SqL K F p vs) (r : RDs g F ds vs) (hz : vs.length ≤ sizeLine) : Wk g (Ite K p) (enumD 0 ds) F := by
  refine ⟨fun i H le hi => ?_, fun i H F1 x H' d l0 le e y => ?_, fun i H le hi => ⟨vs, SqL.mono h le, ?_⟩, by rw [enumD_len, r.length, ← line_eq]; exact hz⟩
  · rw [enumD_len, r.length] at hi
    exact ⟨vs, vs[i], SqL.mono h le, by simp⟩
  · obtain ⟨q, w, rfl, nq, rfl, y⟩ := y
    obtain ⟨x, e1, rfl⟩ := enumD_get e
    obtain ⟨v, e2, rv⟩ := r.get e1
    have := y vs (SqL.mono h (l0.trans le))
    rw [e2] at this
    cases this
    have xt := Ext.laid (o := .tup [.int ((i : Nat) : Int), w]) le nq
    refine ⟨_, xt, .tup (SqT.of upd_same) two_line (.cons ?_ (.cons ((rv.mono l0).mono xt.ff) .nil))⟩
    rw [Nat.zero_add]
    exact .int _
  · rw [enumD_len, r.length] at hi
    exact hi
theorem wk_enumT {K : PySem.W.Frag} {p : Addr} {vs : List V} {ds : List D} {F : Hp} (h : SqT K F p vs) (r : RDs g F ds vs) (hz : vs.length ≤ sizeLine) : Wk g (IteT K p) (enumD 0 ds) F := by
  refine ⟨fun i H le hi => ?_, fun i H F1 x H' d l0 le e y => ?_, fun i H le hi => ⟨vs, SqT.mono h le, ?_⟩, by rw [enumD_len, r.length, ← line_eq]; exact hz⟩
  · rw [enumD_len, r.length] at hi
    exact ⟨vs, vs[i], SqT.mono h le, by simp⟩
  · obtain ⟨q, w, rfl, nq, rfl, y⟩ := y
    obtain ⟨x, e1, rfl⟩ := enumD_get e
    obtain ⟨v, e2, rv⟩ := r.get e1
    have := y vs (SqT.mono h (l0.trans le))
    rw [e2] at this
    cases this
    have xt := Ext.laid (o := .tup [.int ((i : Nat) : Int), w]) le nq
    refine ⟨_, xt, .tup (SqT.of upd_same) two_line (.cons ?_ (.cons ((rv.mono l0).mono xt.ff) .nil))⟩
    rw [Nat.zero_add]
    exact .int _
  · rw [enumD_len, r.length] at hi
    exact hi
theorem zipD_get : ∀ {i : Nat} {ds es : List D} {d : D}, (zipD ds es)[i]? = some d → ∃ x y, ds[i]? = some x ∧ es[i]? = some y ∧ d = .tup [x, y]
  | _, [], _, _, h => by simp [zipD] at h
  | _, _ :: _, [], _, h => by simp [zipD] at h
  | 0, x :: ds, y :: es, d, h => by
    simp [zipD] at h
    exact ⟨x, y, rfl, rfl, h.symm⟩
  | i + 1, x :: ds, y :: es, d, h => by
    simp only [zipD, List.getElem?_cons_succ] at h
    obtain ⟨a, b, h1, h2, h3⟩ := zipD_get h
    exact ⟨a, b, by simpa using h1, by simpa using h2, h3⟩
theorem zipD_len : ∀ (ds es : List D), (zipD ds es).length = min ds.length es.length
  | [], _ => by simp [zipD]
  | _ :: _, [] => by simp [zipD]
  | _ :: ds, _ :: es => by simp [zipD, zipD_len ds es]
theorem wk_zip {K : PySem.W.Frag} {p q : Addr} {vs ws : List V} {ds es : List D} {F : Hp} (h : SqL K F p vs) (h' : SqL K F q ws) (r : RDs g F ds vs) (r' : RDs g F es ws) (hz : vs.length ≤ sizeLine) : Wk g (Itz K p q) (zipD ds es) F := by
  refine ⟨fun i H le hi => ?_, fun i H F1 x H' d l0 le e y => ?_, fun i H le hi => ⟨vs, ws, SqL.mono h le, SqL.mono h' le, ?_⟩, by rw [zipD_len, r.length]; rw [line_eq] at hz; omega⟩
  · rw [zipD_len, r.length, r'.length] at hi
    exact ⟨vs, ws, vs[i]'(by omega), ws[i]'(by omega), SqL.mono h le, SqL.mono h' le, by simp, by simp⟩
  · obtain ⟨q', w, w', rfl, nq, rfl, y1, y2⟩ := y
    obtain ⟨x, x', e1, e1', rfl⟩ := zipD_get e
    obtain ⟨v, e2, rv⟩ := r.get e1
    obtain ⟨v', e2', rv'⟩ := r'.get e1'
    have z1 := y1 vs (SqL.mono h (l0.trans le))
    rw [e2] at z1
    cases z1
    have z2 := y2 ws (SqL.mono h' (l0.trans le))
    rw [e2'] at z2
    cases z2
    have xt := Ext.laid (o := .tup [w, w']) le nq
    exact ⟨_, xt, .tup (SqT.of upd_same) two_line (.cons ((rv.mono l0).mono xt.ff) (.cons ((rv'.mono l0).mono xt.ff) .nil))⟩
  · rw [zipD_len, r.length, r'.length] at hi
    omega
theorem wk_zipT {K : PySem.W.Frag} {p q : Addr} {vs ws : List V} {ds es : List D} {F : Hp} (h : SqT K F p vs) (h' : SqT K F q ws) (r : RDs g F ds vs) (r' : RDs g F es ws) (hz : vs.length ≤ sizeLine) : Wk g (RZ.ItzT K p q) (zipD ds es) F := by
  refine ⟨fun i H le hi => ?_, fun i H F1 x H' d l0 le e y => ?_, fun i H le hi => ⟨vs, ws, SqT.mono h le, SqT.mono h' le, ?_⟩, by rw [zipD_len, r.length]; rw [line_eq] at hz; omega⟩
  · rw [zipD_len, r.length, r'.length] at hi
    exact ⟨vs, ws, vs[i]'(by omega), ws[i]'(by omega), SqT.mono h le, SqT.mono h' le, by simp, by simp⟩
  · obtain ⟨q', w, w', rfl, nq, rfl, y1, y2⟩ := y
    obtain ⟨x, x', e1, e1', rfl⟩ := zipD_get e
    obtain ⟨v, e2, rv⟩ := r.get e1
    obtain ⟨v', e2', rv'⟩ := r'.get e1'
    have z1 := y1 vs (SqT.mono h (l0.trans le))
    rw [e2] at z1
    cases z1
    have z2 := y2 ws (SqT.mono h' (l0.trans le))
    rw [e2'] at z2
    cases z2
    have xt := Ext.laid (o := .tup [w, w']) le nq
    exact ⟨_, xt, .tup (SqT.of upd_same) two_line (.cons ((rv.mono l0).mono xt.ff) (.cons ((rv'.mono l0).mono xt.ff) .nil))⟩
  · rw [zipD_len, r.length, r'.length] at hi
    omega
/-- a list or a tuple -/
def iSeq (K : PySem.W.Frag) (tl : TE) : TI := fun σ H R => tl σ H fun x H1 => ∃ a, x = .ref a ∧ (((∃ xs, SqL K H1 a xs) ∧ R (Itl K a) H1) ∨ ((∃ xs, SqT K H1 a xs) ∧ R (Itt K a) H1))
theorem pi_seq {tg l : Expr} {tl : TE} (hl : PE X l tl) : PI X tg l (iSeq X.K tl) := by
  refine ⟨fun pins s σ H R I h => ?_⟩
  refine thn (hl.run pins s σ H _ I h) fun v s1 ⟨x, H1, I1, r1, q1⟩ => ?_
  obtain ⟨a, e, q⟩ := q1
  subst e
  cases r1
  rcases q with ⟨⟨xs, hq⟩, q⟩ | ⟨⟨xs, hq⟩, q⟩
  · obtain ⟨its, rv, p, hz⟩ := I1.list hq
    refine wpAny_pyIter_list p.isList ?_
    refine ⟨s1.heap.objs.size, [s1.heap.objs.size], _, _, H1, rfl, I1.kept (t' := s1.toks) fun b o e => Heap.get?_push_of_some _ e, turn_list a _, ⟨_, Heap.get?_push_size _ rfl, rfl, rfl⟩, fun b hb => ?_, q⟩
    have e : b = s1.heap.objs.size := by simpa using hb
    subst e
    exact I1.fpOk (Nat.le_refl _) (I1.hok.fresh (Nat.le_refl _))
  · obtain ⟨its, rv, p, hz⟩ := I1.tuple hq
    refine wpAny_pyIter_tuple (show s1.heap.IsTuple a its.toArray from p) ?_
    refine ⟨s1.heap.objs.size, [s1.heap.objs.size], _, _, H1, rfl, I1.kept (t' := s1.toks) fun b o e => Heap.get?_push_of_some _ e, turn_tuple a _, ⟨_, Heap.get?_push_size _ rfl, rfl, rfl⟩, fun b hb => ?_, q⟩
    have e : b = s1.heap.objs.size := by simpa using hb
    subst e
    exact I1.fpOk (Nat.le_refl _) (I1.hok.fresh (Nat.le_refl _))
def IE.isIt : IE → Bool
  | .rng1 _ => true | .rng2 _ _ => true | .enm _ => true | .zp _ _ => true
  | _ => false
theorem evI_of (h : ia.isIt = false) (σ : Env) : evI T G ia σ = (evE T G ia σ).bind fun x σ1 => ofO (D.items x) σ1 := by
  cases ia <;> first | (simp [IE.isIt] at h; done) | (simp only [evI])
theorem i_seq {tg : Expr} (hi : ia.isIt = false) (hK : X.K = g.K) (ha : PE X a (tE T G g W pu ia)) : PI X tg a (tI T G g W pu ia) :=
  (pi_seq ha).imp fun σ H R ⟨σd, F, Os, rel, k⟩ => by
    rw [evI_of hi] at k
    refine ⟨σd, F, Os, rel, KE.bind k fun x σ1 v H1 F1 Os1 rel1 rx l1 gr1 k1 => ?_⟩
    obtain ⟨ds, ed, q⟩ := KE.ofO k1
    obtain ⟨p, vs, rfl, hs, rs, hz⟩ := items_of rx ed
    refine ⟨p, rfl, ?_⟩
    rw [hK]
    rcases hs with hs | hs
    · exact .inl ⟨⟨vs, SqL.mono hs rel1.le⟩, q _ _ _ _ rel1 (wk_list hs rs hz) (Gr.refl pu _ _ _)⟩
    · exact .inr ⟨⟨vs, SqT.mono hs rel1.le⟩, q _ _ _ _ rel1 (wk_tup hs rs hz) (Gr.refl pu _ _ _)⟩
theorem i_rng1 {tg : Expr} (hs : nStar a = true) (hg : Gl X "range") (hm : X.mg "range" = none) (ha : PE X a (tE T G g W pu ia)) : PI X tg (.Call (.Name "range" p) [a] [] pos) (tI T G g W pu (.rng1 ia)) :=
  (pi_range1 hg hm (pa_cons ha pa_nil (starEach_of hs [] X.env)) (starEach_of hs [] X.env)).imp fun σ H R ⟨σd, F, Os, rel, k⟩ => by
    simp only [evI] at k
    refine ⟨σd, F, Os, rel, KE.bind k fun x σ1 v H1 F1 Os1 rel1 rx l1 gr1 k1 => ?_⟩
    obtain ⟨ds, ed, q⟩ := KE.ofO k1
    unfold dRng1 at ed
    split at ed
    · cases rx
      split at ed
      · rename_i hsm
        simp only [smallR, Bool.and_eq_true, decide_eq_true_eq] at hsm
        cases ed
        exact ⟨_, rfl, by omega, by omega, q _ _ _ _ rel1 (wk_range (by omega) _) (Gr.refl pu _ _ _)⟩
      · cases ed
    · cases ed
theorem i_rng2 {tg : Expr} (hs : nStar a = true) (hs2 : nStar b = true) (hg : Gl X "range") (hm : X.mg "range" = none) (ha : PE X a (tE T G g W pu ia)) (hb : PE X b (tE T G g W pu ib)) : PI X tg (.Call (.Name "range" p) [a, b] [] pos) (tI T G g W pu (.rng2 ia ib)) :=
  (pi_range2 hg hm (pa_cons ha (pa_cons hb pa_nil (starEach_of hs2 [] X.env)) (starEach_of hs [b] X.env)) (by rw [starEach_of hs, starEach_of hs2] <;> rfl) (starEach_of hs2 [] X.env)).imp fun σ H R ⟨σd, F, Os, rel, k⟩ => by
    simp only [evI] at k
    refine ⟨σd, F, Os, rel, KE.bind k fun x σ1 v H1 F1 Os1 rel1 rx l1 gr1 k1 => ⟨σ1, F1, Os1, rel1, KE.bind k1 fun y σ2 u H2 F2 Os2 rel2 ry l2 gr2 k2 => ?_⟩⟩
    obtain ⟨ds, ed, q⟩ := KE.ofO k2
    unfold dRng2 at ed
    split at ed
    · cases rx
      cases ry
      split at ed
      · rename_i hsm
        simp only [smallR, Bool.and_eq_true, decide_eq_true_eq] at hsm
        cases ed
        exact ⟨_, _, rfl, ⟨by omega, by omega, by omega, by omega⟩, q _ _ _ _ rel2 (wk_range (by omega) _) (Gr.refl pu _ _ _)⟩
      · cases ed
    · cases ed
theorem i_enm {k : Nat} {tpos : Pos} (hK : X.K = g.K) (hs : nStar a = true) (hg : Gl X "enumerate") (hm : X.mg "enumerate" = none) (ha : PE X a (tE T G g W pu ia)) : PI X (.Tuple es k tpos) (.Call (.Name "enumerate" p) [a] [] pos) (tI T G g W pu (.enm ia)) :=
  (pi_enum2 hg hm (pa_cons ha pa_nil (starEach_of hs [] X.env)) (starEach_of hs [] X.env)).imp fun σ H R ⟨σd, F, Os, rel, k⟩ => by
    simp only [evI] at k
    refine ⟨σd, F, Os, rel, KE.bind k fun x σ1 v H1 F1 Os1 rel1 rx l1 gr1 k1 => ?_⟩
    obtain ⟨ds, ed, q⟩ := KE.ofO k1
    cases rx <;> first | (simp [dEnm] at ed; done) | skip
    · rename_i p vs ds1 h1 hz rs
      cases ed
      rw [hK]
      exact ⟨p, vs, rfl, .inr ⟨SqT.mono h1 rel1.le, q _ _ _ _ rel1 (wk_enumT h1 rs hz) (Gr.refl pu _ _ _)⟩⟩
    · rename_i p vs ds1 h1 hz rs
      cases ed
      rw [hK]
      exact ⟨p, vs, rfl, .inl ⟨SqL.mono (SqL.of h1) rel1.le, q _ _ _ _ rel1 (wk_enum (SqL.of h1) rs hz) (Gr.refl pu _ _ _)⟩⟩
theorem i_zp {k : Nat} {tpos : Pos} (hK : X.K = g.K) (hs : nStar a = true) (hs2 : nStar b = true) (hg : Gl X "zip") (hm : X.mg "zip" = none) (ha : PE X a (tE T G g W pu ia)) (hb : PE X b (tE T G g W pu ib)) : PI X (.Tuple es k tpos) (.Call (.Name "zip" p) [a, b] [] pos) (tI T G g W pu (.zp ia ib)) :=
  (RZ.pi_zipA hg hm (pa_cons ha (pa_cons hb pa_nil (starEach_of hs2 [] X.env)) (starEach_of hs [b] X.env)) (starEach_of hs [b] X.env) (noStars _ _ _ (by simp [hs2]))).imp fun σ H R ⟨σd, F, Os, rel, k⟩ => by
    simp only [evI] at k
    refine ⟨σd, F, Os, rel, KE.bind k fun x σ1 v H1 F1 Os1 rel1 rx l1 gr1 k1 => ⟨σ1, F1, Os1, rel1, KE.bind k1 fun y σ2 u H2 F2 Os2 rel2 ry l2 gr2 k2 => ?_⟩⟩
    obtain ⟨ds, ed, q⟩ := KE.ofO k2
    rw [hK]
    have rx := rx.mono l2
    unfold dZip at ed
    split at ed
    · cases ed
      cases rx with
      | lst h1 z1 r1 =>
        cases ry with
        | lst h2 z2 r2 =>
          exact ⟨_, _, _, _, rfl, .inl ⟨SqL.of (rel2.le _ _ h1), SqL.of (rel2.le _ _ h2), q _ _ _ _ rel2 (wk_zip (SqL.of h1) (SqL.of h2) r1 r2 z1) (Gr.refl pu _ _ _)⟩⟩
    · cases ed
      cases rx with
      | tup h1 z1 r1 =>
        cases ry with
        | tup h2 z2 r2 =>
          exact ⟨_, _, _, _, rfl, .inr ⟨SqT.mono h1 rel2.le, SqT.mono h2 rel2.le, q _ _ _ _ rel2 (wk_zipT h1 h2 r1 r2 z1) (Gr.refl pu _ _ _)⟩⟩
    · cases ed
end
end JH

/-! JB9: comprehensions. -/
namespace JH
open PySem PySem.Spec PyProof.Rows L2
abbrev W0 : WX := fun _ _ _ _ => False
section
variable {T : Tab} {G : Nat → Option D} {g : SG} {W : WX} {pu : Bool}
/-! ### a new list that a slot comes to own -/
def KN (g : SG) (W : WX) (pu : Bool) (σ : L2.St) (H F : Hp) (O : Addr → Prop) (Q : VK) : ER (List D) → Prop
  | .ok ds σd => ∀ p vs H' F' Os', Rel g H' F' σd σ Os' → H' p = some (.lst vs) → F' p = none → ¬ Own Os' p → (H p = none ∨ (pu = false ∧ O p)) → RDs g F' ds vs → vs.length ≤ sizeLine → Gr pu H F O H' F' (Own Os') → Q (.ref p) H'
  | .exc e σd => ∀ cls dd H' F' Os', Rel g H' F' σd σ Os' → RX g F' e cls dd → Gr pu H F O H' F' (Own Os') → W cls dd σ H'
  | .stuck => False
def tN (T : Tab) (G : Nat → Option D) (g : SG) (W : WX) (pu : Bool) (ie : IE) : TE := fun σ H Q => ∃ σd F Os, Rel g H F σd σ Os ∧ KN g W pu σ H F (Own Os) Q ((evE T G ie σd).bind fun d σ1 => ofO (asL d) σ1)
theorem KN.later {σ : L2.St} {H F H1 F1 : Hp} {O O1 : Addr → Prop} {Q : VK} {r : ER (List D)} (k : KN g W pu σ H F O Q r) (x : Gr pu H F O H1 F1 O1) : KN g W pu σ H1 F1 O1 Q r := by
  cases r with
  | ok ds σd => exact fun p vs H' F' Os' a b c d e f h y => k p vs H' F' Os' a b c d (by
      have nn : ∀ a, H1 a = none → H a = none := fun a w => by
        cases q : H a with
        | none => rfl
        | some o => exact absurd w (x.al a (by rw [q]; simp))
      rcases e with e | ⟨e0, e⟩
      · exact .inl (nn p e)
      · exact (x.ow p e).elim (fun w => .inr ⟨e0, w⟩) .inl) f h (x.trans y)
  | exc e σd => exact fun c dd H' F' Os' a b y => k c dd H' F' Os' a b (x.trans y)
  | stuck => exact k
theorem KN.bind {α β : Type} {R : Hp → α → β → Prop} {σ : L2.St} {H F : Hp} {O : Addr → Prop} {Q : β → Hp → Prop} {Q2 : VK} {r : ER α} {f : α → Env → ER (List D)} (k : KN g W pu σ H F O Q2 (r.bind f))
    (h : ∀ a σd b H' F' Os', r = .ok a σd → Rel g H' F' σd σ Os' → R F' a b → LeH F F' → Gr pu H F O H' F' (Own Os') → KN g W pu σ H' F' (Own Os') Q2 (f a σd) → Q b H') : KE g W pu R σ H F O Q r := by
  cases r with
  | ok a σd => exact fun b H' F' Os' rel q x => h a σd b H' F' Os' rfl rel q x.ff x (KN.later (r := f a σd) k x)
  | exc e σd => exact k
  | stuck => exact k
/-- a list laid at a free place -/
theorem KN.laid {σ : L2.St} {H F : Hp} {Os : Nat → Addr → Prop} {Q : VK} {ds : List D} {σd : Env} {vs : List V} (k : KN g W pu σ H F (Own Os) Q (.ok ds σd)) (rel : Rel g H F σd σ Os) (rs : RDs g F ds vs) (hz : vs.length ≤ sizeLine) : ∀ p, H p = none → Q (.ref p) (upd H p (.lst vs)) := fun p np => by
  have fp : F p = none := by
    cases e : F p with
    | none => rfl
    | some o => rw [rel.le p o e] at np; cases np
  have le : LeH F (upd H p (.lst vs)) := fun a o e => by
    rw [upd_ne (fun z => by subst z; rw [fp] at e; cases e)]
    exact rel.le a o e
  have xt : Ext H F (upd H p (.lst vs)) F := ⟨LeH.refl F, le, fun a o e => by rw [upd_ne (ne_of_none e np)]; exact e, fun _ h => .inl h⟩
  exact k p vs _ F Os (rel.ext xt) upd_same fp (fun ⟨i, z⟩ => rel.al i p z np) (.inl np) rs hz (xt.gr pu)
/-- a list that is told frozen may be told new -/
theorem tN_of {ie : IE} (h : ∀ σ d σ', evE T G ie σ = .ok d σ' → ∃ ds, d = .lst ds) {σ : L2.St} {H : Hp} {Q : VK} (q : tE T G g W pu ie σ H Q) : tN T G g W pu ie σ H Q := by
  obtain ⟨σd, F, Os, rel, k⟩ := q
  refine ⟨σd, F, Os, rel, ?_⟩
  cases e : evE T G ie σd with
  | stuck => rw [e] at k; exact k.elim
  | exc x σe => rw [e] at k; exact k
  | ok d σ1 =>
    rw [e] at k
    obtain ⟨ds, rfl⟩ := h _ _ _ e
    intro p vs H' F' Os' rel' hp fp nO np rs hz gr
    have le : LeH F' (upd F' p (.lst vs)) := fun a o e => by
      rw [upd_ne (fun z => by subst z; rw [fp] at e; cases e)]
      exact e
    refine k (.ref p) H' (upd F' p (.lst vs)) Os' ⟨fun a o e => ?_, rel'.len, fun i m e => ?_, rel'.dj, fun i a z => ?_, rel'.al⟩ (.lst upd_same hz (rs.mono le)) ⟨gr.ff.trans le, gr.fr, gr.al, gr.ow, fun a e => ?_⟩
    · by_cases z : a = p
      · subst z; rw [upd_same] at e; cases e; exact hp
      · rw [upd_ne z] at e; exact rel'.le a o e
    · obtain ⟨v, e1, qq⟩ := rel'.sl i m e
      exact ⟨v, e1, qq.frame le fun _ _ _ e => e⟩
    · rw [upd_ne (fun w => by subst w; exact nO ⟨i, z⟩)]
      exact rel'.nf i a z
    · by_cases z : a = p
      · subst z; exact .inr (np.elim .inr .inl)
      · rw [upd_ne z] at e; exact gr.fz a e
end
section
variable {T : Tab} {G : Nat → Option D} {g : SG} {W : WX} {pu : Bool} {X : Cx} {a b c : Expr} {ia ib ic ie : IE} {rest es : List Expr} {pos p2 p : Pos}
theorem wipeD_len (σ : Env) : ∀ vs : List Nat, (wipeD σ vs).length = σ.length
  | [] => rfl
  | v :: vs => by unfold wipeD; rw [List.length_set, wipeD_len σ vs]
theorem wipeD_some {σ : Env} {i : Nat} {x : M} : ∀ {vs : List Nat}, (wipeD σ vs)[i]? = some (some x) → σ[i]? = some (some x) ∧ i ∉ vs
  | [], h => ⟨h, by simp⟩
  | v :: vs, h => by
    unfold wipeD at h
    by_cases hi : v = i
    · subst hi
      by_cases hv : v < (wipeD σ vs).length
      · rw [List.getElem?_set_self hv] at h; cases h
      · rw [List.getElem?_eq_none (by simpa using hv)] at h; cases h
    · rw [List.getElem?_set_ne hi] at h
      obtain ⟨h1, h2⟩ := wipeD_some h
      exact ⟨h1, by simp only [List.mem_cons, not_or]; exact ⟨fun e => hi e.symm, h2⟩⟩
theorem backD_len (σ0 σ : Env) : ∀ vs : List Nat, (backD σ0 σ vs).length = σ.length
  | [] => rfl
  | v :: vs => by unfold backD; rw [List.length_set, backD_len σ0 σ vs]
theorem backD_in {σ0 σ : Env} {i : Nat} : ∀ {vs : List Nat}, i ∈ vs → i < σ.length → (backD σ0 σ vs)[i]? = some ((σ0[i]?).bind id)
  | [], h, _ => by cases h
  | v :: vs, h, hl => by
    unfold backD
    by_cases hi : v = i
    · subst hi
      rw [List.getElem?_set_self (by rw [backD_len]; exact hl)]
    · rw [List.getElem?_set_ne hi]
      rcases List.mem_cons.mp h with e | h
      · exact absurd e.symm hi
      · exact backD_in h hl
theorem backD_out {σ0 σ : Env} {i : Nat} : ∀ {vs : List Nat}, i ∉ vs → (backD σ0 σ vs)[i]? = σ[i]?
  | [], _ => rfl
  | v :: vs, h => by
    simp only [List.mem_cons, not_or] at h
    unfold backD
    rw [List.getElem?_set_ne (Ne.symm h.1), backD_out h.2]
theorem wipe_in {σ : L2.St} {i : Nat} : ∀ {vs : List Nat}, i ∈ vs → i < σ.length → (wipe σ vs)[i]? = some none
  | [], h, _ => by cases h
  | v :: vs, h, hl => by
    unfold wipe
    by_cases hi : v = i
    · subst hi
      rw [List.getElem?_set_self (by rw [wipe_length]; exact hl)]
    · rw [List.getElem?_set_ne hi]
      rcases List.mem_cons.mp h with e | h
      · exact absurd e.symm hi
      · exact wipe_in h hl
theorem wipe_eq {σ σ' : L2.St} {vs : List Nat} (hl : σ'.length = σ.length) (h : ∀ j, j ∉ vs → σ'[j]? = σ[j]?) : wipe σ' vs = wipe σ vs := by
  apply List.ext_getElem?
  intro i
  by_cases hi : i ∈ vs
  · by_cases hlt : i < σ.length
    · rw [wipe_in hi hlt, wipe_in hi (by rw [hl]; exact hlt)]
    · rw [List.getElem?_eq_none (by rw [wipe_length]; omega), List.getElem?_eq_none (by rw [wipe_length]; omega)]
  · rw [L2.wipe_out hi, L2.wipe_out hi]
    exact h i hi
theorem Rel.wiped {H F : Hp} {σd : Env} {σ : L2.St} {Os : Nat → Addr → Prop} (rel : Rel g H F σd σ Os) (vs : List Nat) : Rel g H F (wipeD σd vs) (wipe σ vs) (fun i a => i ∉ vs ∧ Os i a) := by
  refine ⟨rel.le, by rw [wipeD_len, wipe_length]; exact rel.len, fun i m e => ?_, fun i j a x y => rel.dj i j a x.2 y.2, fun i a x => rel.nf i a x.2, fun i a x => rel.al i a x.2⟩
  obtain ⟨h1, h2⟩ := wipeD_some e
  obtain ⟨v, e1, q⟩ := rel.sl i m h1
  exact ⟨v, by rw [L2.wipe_out h2]; exact e1, q.wide fun a z => ⟨h2, z⟩⟩
/-- one turn of a comprehension -/
def compF (T : Tab) (G : Nat → Option D) (ie : IE) (tg : Tg) (ic : IE) (own : List Nat) : D → Env → ER (Option D) := fun x σ2 => match asgT tg x σ2 with
  | some σ3 => (evT T G ic σ3).bind fun k σ4 => if k = true then (evE T G ie σ4).bind fun y σ5 => .ok (some y) (wipeD σ5 own) else .ok none (wipeD σ4 own)
  | none => .stuck
theorem compL_some {f : D → Env → ER (Option D)} {x : D} {xs : List D} {σ σ1 : Env} {y : D} (h : f x σ = .ok (some y) σ1) : compL f (x :: xs) σ = (compL f xs σ1).bind fun r σ2 => .ok (y :: r) σ2 := by
  simp only [compL, h]
theorem compL_none {f : D → Env → ER (Option D)} {x : D} {xs : List D} {σ σ1 : Env} (h : f x σ = .ok none σ1) : compL f (x :: xs) σ = compL f xs σ1 := by
  simp only [compL, h]
theorem drop_get {xs : List D} {i : Nat} {x : D} (h : xs[i]? = some x) : xs.drop i = x :: xs.drop (i + 1) := by
  obtain ⟨h1, h2⟩ := List.getElem?_eq_some_iff.mp h
  rw [← h2, List.drop_eq_getElem_cons h1]
abbrev blkEnv (X : Cx) (scope : Scope) (C : Addr) (cl : List (Str × Addr)) : PySem.Env := compEnvC scope cl C X.env
theorem e_comp_tr {tg : Tg} {own : List Nat} {σ : L2.St} {H : Hp} {Q : VK} (hto : ∀ j ∈ tgS tg, j ∈ own) (h : tN T G g W pu (.comp ie tg ia ic own) σ H Q) :
    tLc (tI T G g W pu ia) (tG g tg) (tT T G g W0 pu ic) (tE T G g W0 pu ie) own σ H Q := by
  obtain ⟨σd, F, Os, rel, k⟩ := h
  simp only [evE] at k
  rw [ER.bind_assoc] at k
  refine ⟨σd, F, Os, rel, KN.bind k fun items σ1 J H1 F1 Os1 _ rel1 wk l1 gr1 k1 => fun D nD => ?_⟩
  have k1 : KN g W pu σ H1 F1 (Own Os1) Q (((compL (compF T G ie tg ic own) items (wipeD σ1 own)).bind fun ys σ2 => .ok (.lst ys) (backD σ1 σ2 own)).bind fun d σ1 => ofO (asL d) σ1) := k1
  rw [ER.bind_assoc] at k1
  have k1 : KN g W pu σ H1 F1 (Own Os1) Q ((compL (compF T G ie tg ic own) items (wipeD σ1 own)).bind fun ys σ2 => .ok ys (backD σ1 σ2 own)) := k1
  let Ow : Nat → Addr → Prop := fun i a => i ∉ own ∧ Os1 i a
  have relw : Rel g H1 F1 (wipeD σ1 own) (wipe σ own) Ow := rel1.wiped own
  -- the invariant
  let Inv : Nat → Hp → Prop := fun i H2 => ∃ σd2 F2 Os2 acc ds, Rel g H2 F2 σd2 (wipe σ own) Os2 ∧ H2 D = some (.lst acc) ∧ F2 D = none ∧ ¬ Own Os2 D ∧ RDs g F2 ds acc ∧ ds.length ≤ i ∧ Gr pu H1 F1 (Own Ow) H2 F2 (Own Os2) ∧
    (∀ j ∈ own, (σd2[j]?).bind id = none) ∧
    KN g W pu σ H1 F1 (Own Os1) Q ((compL (compF T G ie tg ic own) (items.drop i) σd2).bind fun ys σ2 => .ok (ds ++ ys) (backD σ1 σ2 own))
  have fD : ∀ {F' : Hp} {H' : Hp}, H' D = none → LeH F' H' → F' D = none := fun {F' H'} h l => by
    cases e : F' D with
    | none => rfl
    | some o => rw [l D o e] at h; cases h
  have start : Inv 0 (upd H1 D (.lst [])) := by
    have f1 := fD nD relw.le
    have le : LeH F1 (upd H1 D (.lst [])) := fun a o e => by
      rw [upd_ne (fun z => by subst z; rw [f1] at e; cases e)]
      exact relw.le a o e
    have hh : LeH H1 (upd H1 D (.lst [])) := fun a o e => by
      rw [upd_ne (ne_of_none e nD)]
      exact e
    have xt : Ext H1 F1 (upd H1 D (.lst [])) F1 := ⟨LeH.refl F1, le, hh, fun _ h => .inl h⟩
    refine ⟨wipeD σ1 own, F1, Ow, [], [], relw.ext xt, upd_same, f1, fun ⟨i, z⟩ => relw.al i D z nD, .nil, Nat.le_refl _, xt.gr pu, fun j hj => ?_, by rw [List.drop_zero]; exact k1⟩
    cases e : (wipeD σ1 own)[j]? with
    | none => rfl
    | some o =>
      cases o with
      | none => rfl
      | some m => exact absurd hj (wipeD_some e).2
  refine ⟨fun i m H2 => m = items.length - i ∧ i ≤ items.length ∧ Inv i H2, ⟨_, rfl, Nat.zero_le _, start⟩, ?_⟩
  rintro i m H2 ⟨rfl, hi, σd2, F2, Os2, acc, ds, rel2, hD, fd, nO, rds, hds, gr2, hw, k2⟩
  by_cases hlt : i < items.length
  · -- a turn
    have hx : items[i]? = some items[i] := List.getElem?_eq_getElem hlt
    refine .inr ⟨wk.go i H2 (gr2.ff.trans rel2.le) hlt, fun H3 => i + 1 ≤ items.length ∧ Inv (i + 1) H3, fun H3 q => ⟨items.length - (i + 1), by omega, rfl, q.1, q.2⟩, fun x H3 y => ?_⟩
    obtain ⟨F3, xt, rx⟩ := wk.yl i H2 F2 x H3 _ gr2.ff rel2.le hx y
    have rel3 := rel2.ext xt
    have gr3 : Gr pu H1 F1 (Own Ow) H3 F3 (Own Os2) := gr2.trans (xt.gr pu)
    have hD3 : H3 D = some (.lst acc) := xt.hh D _ hD
    have fd3 : F3 D = none := by
      cases e : F3 D with
      | none => rfl
      | some o =>
        rcases xt.nw D (by rw [e]; simp) with w | w
        · exact absurd fd w
        · rw [hD] at w; cases w
    rw [drop_get hx] at k2
    cases ea : asgT tg items[i] σd2 with
    | none =>
      have : compF T G ie tg ic own items[i] σd2 = .stuck := by simp only [compF, ea]
      simp only [compL, this] at k2
      exact k2.elim
    | some σd3 =>
      refine ⟨σd2, F3, Os2, items[i], σd3, rel3, rx, ea, fun σ4 Os4 rel4 hl hj ho => ⟨?_, ?_⟩⟩
      · have := wipe_eq (vs := own) (σ := wipe σ own) (σ' := σ4) hl fun j hjj => hj j fun z => hjj (hto j z)
        rw [this]
        exact wipe_eq (by rw [wipe_length]) fun j hjj => L2.wipe_out hjj
      · have wp : wipe σ4 own = wipe σ own := by
          have := wipe_eq (vs := own) (σ := wipe σ own) (σ' := σ4) hl fun j hjj => hj j fun z => hjj (hto j z)
          rw [this]
          exact wipe_eq (by rw [wipe_length]) fun j hjj => L2.wipe_out hjj
        have gr4 : Gr pu H1 F1 (Own Ow) H3 F3 (Own Os4) := ⟨gr3.ff, gr3.fr, gr3.al, fun a z => gr3.ow a (ho a z), gr3.fz⟩
        have nO4 : ¬ Own Os4 D := fun z => nO (ho D z)
        refine ⟨σd3, F3, Os4, rel4, ?_⟩
        have ef : compF T G ie tg ic own items[i] σd2 = (evT T G ic σd3).bind fun k σ4 => if k = true then (evE T G ie σ4).bind fun y σ5 => .ok (some y) (wipeD σ5 own) else .ok none (wipeD σ4 own) := by simp only [compF, ea]
        cases et : evT T G ic σd3 with
        | stuck =>
          rw [et] at ef
          simp only [compL, ef, ER.bind_stuck] at k2
          exact k2
        | exc e σe =>
          rw [et] at ef
          simp only [compL, ef, ER.bind_exc, ER.bind_stuck] at k2
          exact k2.elim
        | ok kb σd5 =>
          rw [et, ER.bind_ok] at ef
          intro b H5 F5 Os5 rel5 eb gr5
          subst eb
          have gr5' := gr4.trans gr5
          have hD5 : H5 D = some (.lst acc) := gr5.fr D _ hD3 fun z => nO4 z.2
          have fd5 : F5 D = none := by
            cases e : F5 D with
            | none => rfl
            | some o =>
              rcases gr5.fz D (by rw [e]; simp) with w | w | w
              · exact absurd fd3 w
              · exact absurd w.2 nO4
              · rw [hD3] at w; cases w
          have nO5 : ¬ Own Os5 D := fun z => by
            rcases gr5.ow D z with w | w
            · exact nO4 w
            · rw [hD3] at w; cases w
          cases kb with
          | false =>
            rw [if_neg Bool.false_ne_true] at ef ⊢
            have rw6 := rel5.wiped own
            rw [wp] at rw6
            refine ⟨hlt, wipeD σd5 own, F5, _, acc, ds, rw6, hD5, fd5, fun ⟨j, z⟩ => nO5 ⟨j, z.2⟩, rds.mono (xt.ff.trans gr5.ff), by omega, ⟨gr5'.ff, gr5'.fr, gr5'.al, fun a ⟨j, z⟩ => gr5'.ow a ⟨j, z.2⟩, gr5'.fz⟩, fun j hjo => ?_, ?_⟩
            · cases e : (wipeD σd5 own)[j]? with
              | none => rfl
              | some o =>
                cases o with
                | none => rfl
                | some m => exact absurd hjo (wipeD_some e).2
            · rw [compL_none ef] at k2
              exact k2
          | true =>
            rw [if_pos rfl] at ef ⊢
            refine ⟨σd5, F5, Os5, rel5, ?_⟩
            cases ee : evE T G ie σd5 with
            | stuck =>
              rw [ee] at ef
              simp only [compL, ef, ER.bind_stuck] at k2
              exact k2
            | exc e σe =>
              rw [ee] at ef
              simp only [compL, ef, ER.bind_exc, ER.bind_stuck] at k2
              exact k2.elim
            | ok yd σd6 =>
              rw [ee, ER.bind_ok] at ef
              intro yv H6 F6 Os6 rel6 ry gr6
              have gr6' := gr5'.trans gr6
              have hD6 : H6 D = some (.lst acc) := gr6.fr D _ hD5 fun z => nO5 z.2
              have fd6 : F6 D = none := by
                cases e : F6 D with
                | none => rfl
                | some o =>
                  rcases gr6.fz D (by rw [e]; simp) with w | w | w
                  · exact absurd fd5 w
                  · exact absurd w.2 nO5
                  · rw [hD5] at w; cases w
              have nO6 : ¬ Own Os6 D := fun z => by
                rcases gr6.ow D z with w | w
                · exact nO5 w
                · rw [hD5] at w; cases w
              have hacc : acc.length < 16777216 := by
                have := rds.length
                have := wk.sz
                omega
              refine ⟨acc, hD6, by rw [line_eq]; exact hacc, hlt, ?_⟩
              -- the new item stands in the list
              have rw7 := rel6.wiped own
              rw [wp] at rw7
              have le7 : LeH F6 (upd H6 D (.lst (acc ++ [yv]))) := fun a o e => by
                rw [upd_ne (fun z => by subst z; rw [fd6] at e; cases e)]
                exact rel6.le a o e
              have al7 : ∀ a, H6 a ≠ none → upd H6 D (.lst (acc ++ [yv])) a ≠ none := fun a h => by
                by_cases z : a = D
                · subst z; rw [upd_same]; simp
                · rw [upd_ne z]; exact h
              have rel7 : Rel g (upd H6 D (.lst (acc ++ [yv]))) F6 (wipeD σd6 own) (wipe σ own) (fun j a => j ∉ own ∧ Os6 j a) := by
                refine ⟨le7, rw7.len, fun j m e => ?_, rw7.dj, rw7.nf, fun j a z => al7 a (rw7.al j a z)⟩
                obtain ⟨v, e1, q⟩ := rw7.sl j m e
                refine ⟨v, e1, q.frame (LeH.refl F6) fun a o z e => ?_⟩
                rw [upd_ne (fun w => by subst w; exact nO6 ⟨j, z.2⟩)]
                exact e
              have nD1 : ∀ a o, H1 a = some o → a ≠ D := fun a o e z => by subst z; rw [nD] at e; cases e
              refine ⟨wipeD σd6 own, F6, _, acc ++ [yv], ds ++ [yd], rel7, upd_same, fd6, fun ⟨j, z⟩ => nO6 ⟨j, z.2⟩, (rds.mono ((xt.ff.trans gr5.ff).trans gr6.ff)).append (.cons ry .nil), by simp; omega, ⟨gr6'.ff, fun a o e n => ?_, fun a h => al7 a (gr6'.al a h), fun a ⟨j, z⟩ => gr6'.ow a ⟨j, z.2⟩, gr6'.fz⟩, fun j hjo => ?_, ?_⟩
              · rw [upd_ne (nD1 a o e)]
                exact gr6'.fr a o e n
              · cases e : (wipeD σd6 own)[j]? with
                | none => rfl
                | some o =>
                  cases o with
                  | none => rfl
                  | some m => exact absurd hjo (wipeD_some e).2
              · rw [compL_some ef, ER.bind_assoc] at k2
                simp only [ER.bind_ok] at k2
                have : (fun (ys : List JH.D) (σ2 : Env) => (ER.ok (ds ++ yd :: ys) (backD σ1 σ2 own) : ER (List JH.D))) = fun ys σ2 => .ok (ds ++ [yd] ++ ys) (backD σ1 σ2 own) := by
                  funext ys σ2
                  rw [List.append_assoc]
                  rfl
                rw [← this]
                exact k2
  · -- the end
    have e : i = items.length := by omega
    subst e
    refine .inl ⟨wk.st _ H2 (gr2.ff.trans rel2.le) (Nat.le_refl _), ?_⟩
    rw [List.drop_length] at k2
    simp only [compL, ER.bind_ok, List.append_nil] at k2
    have hacc : acc.length ≤ sizeLine := by
      have := rds.length
      have := wk.sz
      rw [line_eq]
      omega
    refine k2 D acc H2 F2 (fun j a => (j ∈ own ∧ Os1 j a) ∨ (j ∉ own ∧ Os2 j a)) ⟨rel2.le, ?_, fun j m e => ?_, fun j l a x y => ?_, fun j a x => ?_, fun j a x => ?_⟩ hD fd (fun ⟨j, x⟩ => ?_) (.inl nD) rds hacc ⟨gr2.ff, fun a o e n => ?_, gr2.al, fun a ⟨j, x⟩ => ?_, fun a e => ?_⟩
    · rw [backD_len, rel2.len, wipe_length]
    · by_cases hjo : j ∈ own
      · have hl : j < σd2.length := by
          by_cases hl : j < σd2.length
          · exact hl
          · rw [List.getElem?_eq_none (by rw [backD_len]; omega)] at e; cases e
        rw [backD_in hjo hl] at e
        have e' : (σ1[j]?).bind id = some m := Option.some.inj e
        obtain ⟨v, e1, q⟩ := rel1.get e'
        refine ⟨v, e1, (q.frame gr2.ff fun a o z e => gr2.fr a o e fun w => ?_).wide fun a z => .inl ⟨hjo, z⟩⟩
        obtain ⟨_, l, w1, w2⟩ := w
        have := rel1.dj j l a z w2
        subst this
        exact w1 hjo
      · rw [backD_out hjo] at e
        obtain ⟨v, e1, q⟩ := rel2.sl j m e
        rw [L2.wipe_out hjo] at e1
        exact ⟨v, e1, q.wide fun a z => .inr ⟨hjo, z⟩⟩
    · rcases x with ⟨x1, x2⟩ | ⟨x1, x2⟩ <;> rcases y with ⟨y1, y2⟩ | ⟨y1, y2⟩
      · exact rel1.dj j l a x2 y2
      · exfalso
        rcases gr2.ow a ⟨l, y2⟩ with ⟨q, w1, w2⟩ | w
        · have := rel1.dj j q a x2 w2
          subst this
          exact w1 x1
        · exact rel1.al j a x2 w
      · exfalso
        rcases gr2.ow a ⟨j, x2⟩ with ⟨q, w1, w2⟩ | w
        · have := rel1.dj l q a y2 w2
          subst this
          exact w1 y1
        · exact rel1.al l a y2 w
      · exact rel2.dj j l a x2 y2
    · rcases x with ⟨x1, x2⟩ | ⟨x1, x2⟩
      · cases e : F2 a with
        | none => rfl
        | some o =>
          exfalso
          rcases gr2.fz a (by rw [e]; simp) with w | w | w
          · exact w (rel1.nf j a x2)
          · obtain ⟨_, q, w1, w2⟩ := w
            have := rel1.dj j q a x2 w2
            subst this
            exact w1 x1
          · exact rel1.al j a x2 w
      · exact rel2.nf j a x2
    · rcases x with ⟨x1, x2⟩ | ⟨x1, x2⟩
      · exact gr2.al a (rel1.al j a x2)
      · exact rel2.al j a x2
    · rcases x with ⟨x1, x2⟩ | ⟨x1, x2⟩
      · exact rel1.al j D x2 nD
      · exact nO ⟨j, x2⟩
    · exact gr2.fr a o e fun ⟨w1, l, w2⟩ => n ⟨w1, l, w2.2⟩
    · rcases x with ⟨x1, x2⟩ | ⟨x1, x2⟩
      · exact .inl ⟨j, x2⟩
      · exact (gr2.ow a ⟨j, x2⟩).imp (fun ⟨l, w⟩ => ⟨l, w.2⟩) id
    · exact (gr2.fz a e).imp id fun w => w.imp (fun ⟨w1, l, w2⟩ => ⟨w1, l, w2.2⟩) id
theorem comp_lst {tg : Tg} {own : List Nat} (σ : Env) (d : JH.D) (σ' : Env) (h : evE T G (.comp ie tg ia ic own) σ = .ok d σ') : ∃ ds, d = .lst ds := by
  simp only [evE] at h
  cases e : evI T G ia σ with
  | stuck => rw [e] at h; cases h
  | exc _ _ => rw [e] at h; cases h
  | ok xs σ1 =>
    rw [e, ER.bind_ok] at h
    generalize compL _ _ _ = q at h
    cases q with
    | stuck => cases h
    | exc _ _ => cases h
    | ok ys σ2 => cases h; exact ⟨ys, rfl⟩
theorem ts_nil : PTs X [] (tT T G g W pu .nil) := ⟨fun pins s σ H Q I ⟨σd, F, Os, rel, k⟩ => by
  refine pts_nil.run pins s σ H Q I ?_
  simp only [evT] at k
  exact k _ _ _ _ rel rfl (Gr.refl pu _ _ _)⟩
theorem e_comp {elt tgt iter : Expr} {ifs : List Expr} {scope : Scope} {own : List (Str × Nat)} {tg : Tg} (hc : X.calm = true) (hN : X.N.Nodup) (hi : PI X tgt iter (tI T G g W pu ia)) (ok : BlkOk X.N X.env.scope scope own) (hto : ∀ j ∈ tgS tg, j ∈ own.map (·.2))
    (hg : ∀ (s : Shared) (H : Hp) (C : Addr) (cl : List (Str × Addr)) (fp : List Addr), PG (X.blk s H scope (compEnvC scope cl C X.env) fp) tgt (tG g tg)) (ht : ∀ (s : Shared) (H : Hp) (C : Addr) (cl : List (Str × Addr)) (fp : List Addr), PTs (X.blk s H scope (compEnvC scope cl C X.env) fp) ifs (tT T G g W0 pu ic))
    (he : ∀ (s : Shared) (H : Hp) (C : Addr) (cl : List (Str × Addr)) (fp : List Addr), PE (X.blk s H scope (compEnvC scope cl C X.env) fp) elt (tE T G g W0 pu ie)) (hs : ∀ x, foldedSetIterable iter X.env x = pure x) :
    PE X (.ListComp elt [⟨tgt, iter, ifs, 0⟩] scope pos) (tE T G g W pu (.comp ie tg ia ic (own.map (·.2)))) :=
  (pe_lc hc hN hi ok hg ht he hs).imp fun σ H Q h => e_comp_tr hto (tN_of comp_lst h)
theorem n_comp {elt tgt iter : Expr} {ifs : List Expr} {scope : Scope} {own : List (Str × Nat)} {tg : Tg} (hc : X.calm = true) (hN : X.N.Nodup) (hi : PI X tgt iter (tI T G g W pu ia)) (ok : BlkOk X.N X.env.scope scope own) (hto : ∀ j ∈ tgS tg, j ∈ own.map (·.2))
    (hg : ∀ (s : Shared) (H : Hp) (C : Addr) (cl : List (Str × Addr)) (fp : List Addr), PG (X.blk s H scope (compEnvC scope cl C X.env) fp) tgt (tG g tg)) (ht : ∀ (s : Shared) (H : Hp) (C : Addr) (cl : List (Str × Addr)) (fp : List Addr), PTs (X.blk s H scope (compEnvC scope cl C X.env) fp) ifs (tT T G g W0 pu ic))
    (he : ∀ (s : Shared) (H : Hp) (C : Addr) (cl : List (Str × Addr)) (fp : List Addr), PE (X.blk s H scope (compEnvC scope cl C X.env) fp) elt (tE T G g W0 pu ie)) (hs : ∀ x, foldedSetIterable iter X.env x = pure x) :
    PE X (.ListComp elt [⟨tgt, iter, ifs, 0⟩] scope pos) (tN T G g W pu (.comp ie tg ia ic (own.map (·.2)))) :=
  (pe_lc hc hN hi ok hg ht he hs).imp fun σ H Q h => e_comp_tr hto h
end
end JH

/-! JB10: statements. -/
namespace JH
open PySem PySem.Spec PyProof.Rows L2
def PinEq (pin : List Nat) (σ σ' : L2.St) : Prop := σ'.length = σ.length ∧ ∀ i ∈ pin, σ'[i]? = σ[i]?
theorem PinEq.refl (pin : List Nat) (σ : L2.St) : PinEq pin σ σ := ⟨rfl, fun _ _ => rfl⟩
theorem PinEq.trans {pin : List Nat} {σ σ1 σ2 : L2.St} (a : PinEq pin σ σ1) (b : PinEq pin σ1 σ2) : PinEq pin σ σ2 := ⟨b.1.trans a.1, fun i h => (b.2 i h).trans (a.2 i h)⟩
section
variable (g : SG) (W : WX) (pin : List Nat) (σ : L2.St) (H F : Hp) (O : Addr → Prop) (E : Ends)
def KS : SR → Prop
  | .nx σd => ∀ σ' H' F' Os', Rel g H' F' σd σ' Os' → PinEq pin σ σ' → Gr false H F O H' F' (Own Os') → E.nx σ' H'
  | .brk σd => ∀ σ' H' F' Os', Rel g H' F' σd σ' Os' → PinEq pin σ σ' → Gr false H F O H' F' (Own Os') → E.bk σ' H'
  | .cont σd => ∀ σ' H' F' Os', Rel g H' F' σd σ' Os' → PinEq pin σ σ' → Gr false H F O H' F' (Own Os') → E.ct σ' H'
  | .ret d σd => ∀ σ' v H' F' Os', Rel g H' F' σd σ' Os' → PinEq pin σ σ' → RD g F' d v → Gr false H F O H' F' (Own Os') → E.rt v H'
  | .retM ds σd => ∀ σ' p vs H' F' Os', Rel g H' F' σd σ' Os' → PinEq pin σ σ' → H' p = some (.lst vs) → F' p = none → ¬ Own Os' p → (H p = none ∨ O p) → RDs g F' ds vs → vs.length ≤ sizeLine → Gr false H F O H' F' (Own Os') → E.rt (.ref p) H'
  | .exc e σd => ∀ σ' cls dd H' F' Os', Rel g H' F' σd σ' Os' → PinEq pin σ σ' → RX g F' e cls dd → Gr false H F O H' F' (Own Os') → W cls dd σ' H'
  | .stuck => False
end
def tS (g : SG) (W : WX) (pin : List Nat) (ev : Env → SR) : TS := fun E σ H => ∃ σd F Os, Rel g H F σd σ Os ∧ KS g W pin σ H F (Own Os) E (ev σd)
section
variable {α β : Type} {g : SG} {W : WX} {pin : List Nat} {σ σ1 : L2.St} {H F H1 F1 : Hp} {O O1 : Addr → Prop} {E : Ends} {R : Hp → α → β → Prop} {Q : β → Hp → Prop}
theorem KS.later {r : SR} (k : KS g W pin σ H F O E r) (p : PinEq pin σ σ1) (x : Gr false H F O H1 F1 O1) : KS g W pin σ1 H1 F1 O1 E r := by
  cases r with
  | nx σd => exact fun σ' H' F' Os' a b c => k σ' H' F' Os' a (p.trans b) (x.trans c)
  | brk σd => exact fun σ' H' F' Os' a b c => k σ' H' F' Os' a (p.trans b) (x.trans c)
  | cont σd => exact fun σ' H' F' Os' a b c => k σ' H' F' Os' a (p.trans b) (x.trans c)
  | ret d σd => exact fun σ' v H' F' Os' a b q c => k σ' v H' F' Os' a (p.trans b) q (x.trans c)
  | retM ds σd => exact fun σ' q vs H' F' Os' a b c d e f h y z => k σ' q vs H' F' Os' a (p.trans b) c d e (by
      rcases f with f | f
      · refine .inl ?_
        cases w : H q with
        | none => rfl
        | some o => exact absurd f (x.al q (by rw [w]; simp))
      · exact (x.ow q f).elim .inr .inl) h y (x.trans z)
  | exc e σd => exact fun σ' cls dd H' F' Os' a b q c => k σ' cls dd H' F' Os' a (p.trans b) q (x.trans c)
  | stuck => exact k
/-- an expression ahead of the rest of a statement -/
theorem KS.to {r : ER α} {f : α → Env → SR} (k : KS g W pin σ H F O E (r.to f))
    (h : ∀ a σd b H' F' Os', Rel g H' F' σd σ Os' → R F' a b → LeH F F' → Gr false H F O H' F' (Own Os') → KS g W pin σ H' F' (Own Os') E (f a σd) → Q b H') : KE g W false R σ H F O Q r := by
  cases r with
  | ok a σd => exact fun b H' F' Os' rel q x => h a σd b H' F' Os' rel q x.ff x (KS.later (r := f a σd) k (PinEq.refl _ _) x)
  | exc e σd => exact fun cls dd H' F' Os' rel rx x => k σ cls dd H' F' Os' rel (PinEq.refl _ _) rx x
  | stuck => exact k
theorem KS.ofO {o : Option α} {σd : Env} {f : α → Env → SR} (k : KS g W pin σ H F O E ((ofO o σd).to f)) : ∃ a, o = some a ∧ KS g W pin σ H F O E (f a σd) := by
  cases o with
  | none => exact False.elim k
  | some a => exact ⟨a, rfl, k⟩
end
section
variable {T : Tab} {G : Nat → Option D} {g : SG} {W : WX} {pin : List Nat} {X : Cx} {a b c e : Expr} {ia ib ic ie : IE} {st : Stmt} {sts : List Stmt} {es : List Expr} {pos p2 p : Pos} {f h : Env → SR}
theorem s_nil : PSs X [] (tS g W pin .nx) := pss_nil.imp fun E σ H ⟨σd, F, Os, rel, k⟩ => k σ H F Os rel (PinEq.refl _ _) (Gr.refl _ _ _ _)
theorem s_cons (h1 : PS X st (tS g W pin f)) (h2 : PSs X sts (tS g W pin h)) : PSs X (st :: sts) (tS g W pin fun σ => (f σ).andThen h) :=
  (pss_cons h1 h2).imp fun E σ H ⟨σd, F, Os, rel, k⟩ => by
    refine ⟨σd, F, Os, rel, ?_⟩
    have k : KS g W pin σ H F (Own Os) E ((f σd).andThen h) := k
    show KS g W pin σ H F (Own Os) { E with nx := tS g W pin h E } (f σd)
    cases e : f σd with
    | nx σ1 =>
      rw [e] at k
      exact fun σ' H' F' Os' rel' pq gr => ⟨σ1, F', Os', rel', KS.later (r := h σ1) k pq gr⟩
    | brk σ1 => rw [e] at k; exact k
    | cont σ1 => rw [e] at k; exact k
    | ret d σ1 => rw [e] at k; exact k
    | retM d σ1 => rw [e] at k; exact k
    | exc x σ1 => rw [e] at k; exact k
    | stuck => rw [e] at k; exact k
theorem s_one (h1 : PS X st (tS g W pin f)) : PSs X [st] (tS g W pin f) := (pss_one h1).imp fun _ _ _ h => h
theorem s_pass : PS X (.Pass pos) (tS g W pin .nx) := ps_pass.imp fun E σ H ⟨σd, F, Os, rel, k⟩ => k σ H F Os rel (PinEq.refl _ _) (Gr.refl _ _ _ _)
theorem s_doc {x j} {pos' : Pos} : PS X (.Expr (.Constant (.str x) j pos) pos') (tS g W pin .nx) := ps_doc.imp fun E σ H ⟨σd, F, Os, rel, k⟩ => k σ H F Os rel (PinEq.refl _ _) (Gr.refl _ _ _ _)
theorem s_brk : PS X (.Break pos) (tS g W pin .brk) := ps_break.imp fun E σ H ⟨σd, F, Os, rel, k⟩ => k σ H F Os rel (PinEq.refl _ _) (Gr.refl _ _ _ _)
theorem s_cont : PS X (.Continue pos) (tS g W pin .cont) := ps_continue.imp fun E σ H ⟨σd, F, Os, rel, k⟩ => k σ H F Os rel (PinEq.refl _ _) (Gr.refl _ _ _ _)
theorem s_retN : PS X (.Return none pos) (tS g W pin (.ret .non)) := ps_retN.imp fun E σ H ⟨σd, F, Os, rel, k⟩ => k σ .non H F Os rel (PinEq.refl _ _) .non (Gr.refl _ _ _ _)
theorem s_ret (he : PE X e (tE T G g W false ie)) : PS X (.Return (some e) pos) (tS g W pin fun σ => (evE T G ie σ).to fun x σ1 => .ret x σ1) :=
  (ps_ret he).imp fun E σ H ⟨σd, F, Os, rel, k⟩ => ⟨σd, F, Os, rel, KS.to k fun x σ1 v H1 F1 Os1 rel1 rx l1 gr1 k1 => k1 σ v H1 F1 Os1 rel1 (PinEq.refl _ _) rx (Gr.refl _ _ _ _)⟩
theorem s_ex (he : PE X e (tE T G g W false ie)) (hs : pSwap e = true) : PS X (.Expr e pos) (tS g W pin fun σ => (evE T G ie σ).to fun _ σ1 => .nx σ1) :=
  (ps_expr he (swap_of hs _ _ _)).imp fun E σ H ⟨σd, F, Os, rel, k⟩ => ⟨σd, F, Os, rel, KS.to k fun x σ1 v H1 F1 Os1 rel1 rx l1 gr1 k1 => k1 σ H1 F1 Os1 rel1 (PinEq.refl _ _) (Gr.refl _ _ _ _)⟩
theorem s_ite {u w : List Stmt} (hc : PT X c (tT T G g W false ic)) (ha : PSs X u (tS g W pin f)) (hb : PSs X w (tS g W pin h)) : PS X (.If c u w pos) (tS g W pin fun σ => (evT T G ic σ).to fun k σ1 => if k = true then f σ1 else h σ1) :=
  (ps_if hc ha hb).imp fun E σ H ⟨σd, F, Os, rel, k⟩ => ⟨σd, F, Os, rel, KS.to k fun x σ1 v H1 F1 Os1 rel1 rx l1 gr1 k1 => by
    subst rx
    cases x with
    | true => exact ⟨σ1, F1, Os1, rel1, k1⟩
    | false => exact ⟨σ1, F1, Os1, rel1, k1⟩⟩
/-! ### stores -/
def pStore (t v : Expr) : Bool := match t, v with
  | .Tuple .., .Tuple .. => false
  | .List .., .Tuple .. => false
  | _, _ => true
theorem stores_of {t v : Expr} (h : pStore t v = true) (env : PySem.Env) : swappedStores [t] v env = pure none := by
  cases t <;> cases v <;> first | rfl | (simp [pStore] at h)
theorem target_of {t : Expr} (h : nStar t = true) (env : PySem.Env) : (assignEach [t] env).map (·.2) = [assign t env] := by
  rw [assignEach_of h]
  rfl
theorem pin_of {tg : Tg} {σ σ' : L2.St} (hp : ∀ i ∈ pin, i ∉ tgS tg) (hl : σ'.length = σ.length) (hj : ∀ j, j ∉ tgS tg → σ'[j]? = σ[j]?) : PinEq pin σ σ' := ⟨hl, fun i h => hj i (hp i h)⟩
theorem asg_tr {te : TE} {tg : Tg} {E : Ends} {σ : L2.St} {H : Hp} (hp : ∀ i ∈ pin, i ∉ tgS tg) (hte : ∀ Q, tE T G g W false ie σ H Q → te σ H Q) (hh : tS g W pin (fun σ => (evE T G ie σ).to fun x σ1 => (ofO (asgT tg x σ1) σ1).to fun σ2 _ => .nx σ2) E σ H) : tAsg te (tG g tg) E σ H := by
  obtain ⟨σd, F, Os, rel, k⟩ := hh
  refine hte _ ⟨σd, F, Os, rel, KS.to k fun x σ1 v H1 F1 Os1 rel1 rx l1 gr1 k1 => ?_⟩
  obtain ⟨σ2, e, k2⟩ := KS.ofO k1
  exact ⟨σ1, F1, Os1, x, σ2, rel1, rx, e, fun σ' Os' rel' hl hj ho => k2 σ' H1 F1 Os' rel' (pin_of hp hl hj) ⟨LeH.refl _, fun _ _ e _ => e, fun _ h => h, fun a z => .inl (ho a z), fun _ h => .inl h⟩⟩
theorem s_asg {t : Expr} {tg : Tg} (hp : ∀ i ∈ pin, i ∉ tgS tg) (he : PE X e (tE T G g W false ie)) (hg : PG X t (tG g tg)) (hs : swapsWith e (some t) pos.line X.env = pure false) (hw : swappedStores [t] e X.env = pure none) (hn : nStar t = true) :
    PS X (.Assign [t] e pos) (tS g W pin fun σ => (evE T G ie σ).to fun x σ1 => (ofO (asgT tg x σ1) σ1).to fun σ2 _ => .nx σ2) :=
  (ps_asg he hg hs hw (target_of hn _)).imp fun E σ H hh => asg_tr hp (fun _ h => h) hh
theorem asg_nm {te : TE} {i : Nat} {E : Ends} {σ : L2.St} {H : Hp} (hp : i ∉ pin) (hte : ∀ Q, tE T G g W false ie σ H Q → te σ H Q) (hh : tS g W pin (fun σ => (evE T G ie σ).to fun x σ1 => (ofO (asgT (.nm i) x σ1) σ1).to fun σ2 _ => .nx σ2) E σ H) : tAsg te (gName i) E σ H := by
  obtain ⟨σd, F, Os, rel, k⟩ := hh
  refine hte _ ⟨σd, F, Os, rel, KS.to k fun x σ1 v H1 F1 Os1 rel1 rx l1 gr1 k1 => ?_⟩
  obtain ⟨σ2, e, k2⟩ := KS.ofO k1
  simp only [asgT] at e
  cases e
  refine k2 _ H1 F1 _ (rel1.asgn (i := i) rx) ⟨by simp, fun j hj => ?_⟩ ⟨LeH.refl _, fun _ _ e _ => e, fun _ h => h, fun a ⟨j, z⟩ => .inl ⟨j, z.2⟩, fun _ h => .inl h⟩
  have hne : i ≠ j := fun e => hp (e ▸ hj)
  rw [List.getElem?_set_ne hne]
/-- name = [..] on one line -/
theorem s_asgLc {i : Nat} {y : Str} {py : Pos} {elt tgt iter : Expr} {ifs : List Expr} {scope : Scope} {own : List (Str × Nat)} {spos : Pos} {tg : Tg} (hp : i ∉ pin) (hc : X.calm = true) (hN : X.N.Nodup) (hy : X.N[i]? = some y) (hyl : X.env.scope.names.lookup y = some .local)
    (hsw : swapsWith (.ListComp elt [⟨tgt, iter, ifs, 0⟩] scope pos) (some (.Name y py)) spos.line X.env = pure true) (hi : PI X tgt iter (tI T G g W false ia)) (ok : BlkOk X.N X.env.scope scope own) (hto : ∀ j ∈ tgS tg, j ∈ own.map (·.2))
    (hg : ∀ (s : Shared) (H : Hp) (C : Addr) (cl : List (Str × Addr)) (fp : List Addr), PG (X.blk s H scope (compEnvC scope cl C X.env) fp) tgt (tG g tg)) (ht : ∀ (s : Shared) (H : Hp) (C : Addr) (cl : List (Str × Addr)) (fp : List Addr), PTs (X.blk s H scope (compEnvC scope cl C X.env) fp) ifs (tT T G g W0 false ic))
    (he : ∀ (s : Shared) (H : Hp) (C : Addr) (cl : List (Str × Addr)) (fp : List Addr), PE (X.blk s H scope (compEnvC scope cl C X.env) fp) elt (tE T G g W0 false ie)) (hs : ∀ x, foldedSetIterable iter X.env x = pure x) :
    PS X (.Assign [.Name y py] (.ListComp elt [⟨tgt, iter, ifs, 0⟩] scope pos) spos) (tS g W pin fun σ => (evE T G (.comp ie tg ia ic (own.map (·.2))) σ).to fun x σ1 => (ofO (asgT (.nm i) x σ1) σ1).to fun σ2 _ => .nx σ2) :=
  (ps_setLc hc hN hy hyl hsw hi ok hg ht he hs).imp fun E σ H hh => by
    exact asg_nm hp (fun Q h => e_comp_tr hto (tN_of comp_lst h)) hh
/-! ### loops -/
theorem s_wh {u : List Stmt} {wf : Nat} (hp : PassesOwn (model X.prog X.w) X.A X.env X.xe) (hc : PT X c (tT T G g W false ic)) (hb : PSs X u (tS g W pin f)) : PS X (.While c u [] pos) (tS g W pin fun σ => whL (evT T G ic) f wf σ) :=
  (ps_while hp hc hb).imp fun E σ H ⟨σd, F, Os, rel, k⟩ => by
    have k : KS g W pin σ H F (Own Os) E (whL (evT T G ic) f wf σd) := k
    refine ⟨fun m σ1 H1 => ∃ σd1 F1 Os1, Rel g H1 F1 σd1 σ1 Os1 ∧ KS g W pin σ1 H1 F1 (Own Os1) E (whL (evT T G ic) f m σd1), ⟨wf, σd, F, Os, rel, k⟩, ?_⟩
    rintro m σ1 H1 ⟨σd1, F1, Os1, rel1, k1⟩
    cases m with
    | zero => exact k1.elim
    | succ m =>
      simp only [whL] at k1
      refine ⟨σd1, F1, Os1, rel1, KS.to k1 fun b σd2 v H2 F2 Os2 rel2 eb l2 gr2 k2 => ?_⟩
      subst eb
      cases b with
      | false => exact k2 σ1 H2 F2 Os2 rel2 (PinEq.refl _ _) (Gr.refl _ _ _ _)
      | true =>
        refine ⟨fun σ3 H3 => ∃ σd3 F3 Os3, Rel g H3 F3 σd3 σ3 Os3 ∧ KS g W pin σ3 H3 F3 (Own Os3) E (whL (evT T G ic) f m σd3), fun σ3 H3 h3 => ⟨m, Nat.lt_succ_self m, h3⟩, σd2, F2, Os2, rel2, ?_⟩
        have k2 : KS g W pin σ1 H2 F2 (Own Os2) E (match f σd2 with
          | .nx σ2 => whL (evT T G ic) f m σ2
          | .cont σ2 => whL (evT T G ic) f m σ2
          | .brk σ2 => .nx σ2
          | r => r) := k2
        cases e : f σd2 with
        | nx σ3 => rw [e] at k2; exact fun σ' H' F' Os' r' p' g' => ⟨σ3, F', Os', r', KS.later k2 p' g'⟩
        | cont σ3 => rw [e] at k2; exact fun σ' H' F' Os' r' p' g' => ⟨σ3, F', Os', r', KS.later k2 p' g'⟩
        | brk σ3 => rw [e] at k2; exact k2
        | ret d σ3 => rw [e] at k2; exact k2
        | retM d σ3 => rw [e] at k2; exact k2
        | exc x σ3 => rw [e] at k2; exact k2
        | stuck => rw [e] at k2; exact k2
theorem s_for {t iter : Expr} {u : List Stmt} {tg : Tg} (hpi : ∀ i ∈ pin, i ∉ tgS tg) (hp : PassesOwn (model X.prog X.w) X.A X.env X.xe) (hc : X.calm = true) (hi : PI X t iter (tI T G g W false ia)) (hg : PG X t (tG g tg)) (hb : PSs X u (tS g W pin f))
    (hs : ∀ x, foldedSetIterable iter X.env x = pure x) : PS X (.For t iter u [] pos) (tS g W pin fun σ => (evI T G ia σ).to fun xs σ1 => forL tg f xs σ1) :=
  (ps_for hp hc hi hg hb hs).imp fun E σ H ⟨σd, F, Os, rel, k⟩ => by
    refine ⟨σd, F, Os, rel, KS.to k fun items σd1 J H1 F1 Os1 rel1 wk l1 gr1 k1 => ?_⟩
    refine ⟨fun i m σ2 H2 => m = items.length - i ∧ i ≤ items.length ∧ ∃ σd2 F2 Os2, Rel g H2 F2 σd2 σ2 Os2 ∧ LeH F1 F2 ∧ KS g W pin σ2 H2 F2 (Own Os2) E (forL tg f (items.drop i) σd2), ⟨_, rfl, Nat.zero_le _, σd1, F1, Os1, rel1, LeH.refl _, by rw [List.drop_zero]; exact k1⟩, ?_⟩
    rintro i m σ2 H2 ⟨rfl, hi, σd2, F2, Os2, rel2, l2, k2⟩
    by_cases hlt : i < items.length
    · have hx : items[i]? = some items[i] := List.getElem?_eq_getElem hlt
      rw [drop_get hx] at k2
      refine .inr ⟨wk.go i H2 (l2.trans rel2.le) hlt, fun σ3 H3 => i + 1 ≤ items.length ∧ ∃ σd3 F3 Os3, Rel g H3 F3 σd3 σ3 Os3 ∧ LeH F1 F3 ∧ KS g W pin σ3 H3 F3 (Own Os3) E (forL tg f (items.drop (i + 1)) σd3), fun σ3 H3 q => ⟨items.length - (i + 1), by omega, rfl, q.1, q.2⟩, fun x H3 y => ?_⟩
      obtain ⟨F3, xt, rx⟩ := wk.yl i H2 F2 x H3 _ l2 rel2.le hx y
      have rel3 := rel2.ext xt
      have k3 := KS.later k2 (PinEq.refl _ _) (xt.gr false)
      simp only [forL] at k3
      cases ea : asgT tg items[i] σd2 with
      | none => rw [ea] at k3; exact k3.elim
      | some σd3 =>
        rw [ea] at k3
        dsimp only at k3
        refine ⟨σd2, F3, Os2, items[i], σd3, rel3, rx, ea, fun σ4 Os4 rel4 hl hj ho => ⟨σd3, F3, Os4, rel4, ?_⟩⟩
        have k4 := KS.later k3 (pin_of hpi hl hj) (show Gr false H3 F3 (Own Os2) H3 F3 (Own Os4) from ⟨LeH.refl _, fun _ _ e _ => e, fun _ h => h, fun a z => .inl (ho a z), fun _ h => .inl h⟩)
        cases e : f σd3 with
        | nx σ5 => rw [e] at k4; exact fun σ' H' F' Os' r' p' g' => ⟨hlt, σ5, F', Os', r', (l2.trans xt.ff).trans g'.ff, KS.later k4 p' g'⟩
        | cont σ5 => rw [e] at k4; exact fun σ' H' F' Os' r' p' g' => ⟨hlt, σ5, F', Os', r', (l2.trans xt.ff).trans g'.ff, KS.later k4 p' g'⟩
        | brk σ5 => rw [e] at k4; exact k4
        | ret d σ5 => rw [e] at k4; exact k4
        | retM d σ5 => rw [e] at k4; exact k4
        | exc x σ5 => rw [e] at k4; exact k4
        | stuck => rw [e] at k4; exact k4
    · have e : i = items.length := by omega
      subst e
      rw [List.drop_length] at k2
      simp only [forL] at k2
      exact .inl ⟨wk.st _ H2 (l2.trans rel2.le) (Nat.le_refl _), k2 σ2 H2 F2 Os2 rel2 (PinEq.refl _ _) (Gr.refl _ _ _ _)⟩
theorem n_lst {es : List Expr} {r : IE} (hz : r.len ≤ 1000) (h : PA X es (tL T G g W false r)) : PE X (.List es pos) (tN T G g W false (.lst r)) :=
  (pe_lst h).imp fun σ H Q ⟨σd, F, Os, rel, k⟩ => by
    simp only [evE] at k
    rw [ER.bind_assoc] at k
    refine ⟨σd, F, Os, rel, KN.bind k fun xs σ1 vs H1 F1 Os1 e rel1 rx l1 gr1 k1 => ?_⟩
    have hl := evL_len _ _ _ _ e
    have hv : vs.length ≤ sizeLine := by rw [← rx.length, hl, line_eq]; omega
    exact ⟨hv, KN.laid k1 rel1 rx hv⟩
theorem n_list {x : Str} (hx : x = B1.nm .list) (hK : X.K = g.K) (hc : X.calm = true) (hs : nStar a = true) (hg : Gl X x) (hm : X.mg x = none) (ha : PE X a (tE T G g W false ia)) : PE X (.Call (.Name x p) [a] [] pos) (tN T G g W false (.b1 .list ia)) := by
  subst hx
  refine (pe_callTy call_list_of hg hm (by decide +kernel) (pa_cons ha pa_nil (starEach_of hs [] X.env)) (by decide) (by decide) (starEach_of hs [] X.env) rfl).imp fun σ H Q ⟨σd, F, Os, rel, k⟩ => ?_
  simp only [evE] at k
  rw [ER.bind_assoc] at k
  refine ⟨σd, F, Os, rel, KN.bind k fun d σ1 v H1 F1 Os1 e rel1 rx l1 gr1 k1 => ?_⟩
  cases d with
  | tup ds =>
    cases rx with
    | tup h1 z r => exact ⟨_, _, rfl, .inr (by rw [hK]; exact SqT.mono h1 rel1.le), KN.laid k1 rel1 r z⟩
  | lst ds =>
    cases rx with
    | lst h1 z r => exact ⟨_, _, rfl, .inl (SqL.of (rel1.le _ _ h1)), KN.laid k1 rel1 r z⟩
  | scr ns =>
    cases rx with
    | scr h1 z => exact ⟨_, _, rfl, .inl (by rw [hK]; exact SqL.mono h1 rel1.le), KN.laid k1 rel1 (RDs.ofInts ns) (by rw [List.length_map]; exact z)⟩
  | _ => exact False.elim k1
theorem n_sorted {x : Str} (hx : x = B1.nm .sorted) (hs : nStar a = true) (hg : Gl X x) (hm : X.mg x = none) (ha : PE X a (tE T G g W false ia)) : PE X (.Call (.Name x p) [a] [] pos) (tN T G g W false (.b1 .sorted ia)) := by
  subst hx
  refine (pe_callB cr_sortedI hg hm (by decide +kernel) (pa_cons ha pa_nil (starEach_of hs [] X.env)) (by decide) (by decide) (starEach_of hs [] X.env) rfl).imp fun σ H Q ⟨σd, F, Os, rel, k⟩ => ?_
  simp only [evE] at k
  rw [ER.bind_assoc] at k
  refine ⟨σd, F, Os, rel, KN.bind k fun d σ1 v H1 F1 Os1 e rel1 rx l1 gr1 k1 => ?_⟩
  cases d with
  | lst ds =>
    cases rx with
    | lst h1 z r =>
      cases en : D.ints ds with
      | none => simp only [dB1, en, Option.map_none] at k1; exact k1.elim
      | some ns =>
        simp only [dB1, en, Option.map_some] at k1
        have ev := r.ints en
        subst ev
        refine ⟨_, ns, rfl, SqL.of (rel1.le _ _ h1), fun ns' p hp hs np => ?_⟩
        have e2 : ns' = isort ns := sorted_unique (hp.trans (isort_perm ns).symm) hs (isort_sorted ns)
        subst e2
        exact KN.laid (vs := (isort ns).map V.int) k1 rel1 (RDs.ofInts _) (by rw [List.length_map, (isort_perm ns).length_eq]; simpa using z) p np
  | _ => exact False.elim k1
theorem peekB_of {H F : Hp} {m : M} {v : V} {S : Addr → Prop} {d : D} (rm : RM g H F m v S) (h : peekB m = some d) : (∃ a vs ds, v = .ref a ∧ d = .lst ds ∧ S a ∧ H a = some (.lst vs) ∧ vs.length ≤ sizeLine ∧ RDs g F ds vs) ∨ RD g F d v ∨ ∃ ks ds, d = .dk ks ds := by
  cases rm with
  | lst sa ha hz hr =>
    obtain ⟨ds, e, rfl⟩ := Option.map_eq_some_iff.mp h
    exact .inl ⟨_, _, ds, rfl, rfl, sa, ha, hz, hr.leaves e⟩
  | d rd => cases h; exact .inr (.inl rd)
  | dk sa ha hz hr =>
    obtain ⟨ds, e, rfl⟩ := Option.map_eq_some_iff.mp h
    exact .inr (.inr ⟨_, _, rfl⟩)
  | obj _ _ _ _ => simp [peekB] at h
theorem n_pb1 {f : B1} {x y : Str} {i : Nat} (hK : X.K = g.K) (hf : f = .list ∨ f = .sorted) (hx : x = f.nm) (hg : Gl X x) (hm : X.mg x = none)
    (hN : X.N[i]? = some y) (hv : Vis X.env.scope y) (hd : (y == ("__debug__" : Str)) = false) (hcd : (y == ("__classdict__" : Str)) = false) : PE X (.Call (.Name x p) [.Name y p2] [] pos) (tN T G g W false (.pb1 f (.root i))) := by
  subst hx
  have hs' := starEach_of (e := .Name y p2) rfl [] X.env
  have pv := pe_var (pos := p2) hN hv hd hcd
  rcases hf with rfl | rfl
  · refine (pe_callTy call_list_of hg hm (by decide +kernel) (pa_cons pv pa_nil hs') (by decide) (by decide) hs' rfl).imp fun σ H Q ⟨σd, F, Os, rel, k⟩ => ?_
    simp only [evE, getPl] at k
    cases e0 : ((σd[i]?).bind id).bind (fun m => (peekB m).bind (dB1 .list)) with
    | none => rw [e0] at k; exact False.elim k
    | some d =>
      rw [e0, ofO_some, ER.bind_ok] at k
      obtain ⟨m, e1, e2⟩ := Option.bind_eq_some_iff.mp e0
      obtain ⟨d1, e3, e4⟩ := Option.bind_eq_some_iff.mp e2
      obtain ⟨v, hv, rm⟩ := rel.get e1
      refine ⟨_, hv, ?_⟩
      rcases peekB_of rm e3 with ⟨a, vs, ds, rfl, rfl, sa, ha, hz, rs⟩ | rd | ⟨ks, ds, rfl⟩
      · cases e4
        exact ⟨a, vs, rfl, .inl (SqL.of ha), KN.laid k rel rs hz⟩
      · cases rd <;> first | (simp [dB1] at e4; done) | skip
        · rename_i h1 z r
          cases e4
          exact ⟨_, _, rfl, .inr (by rw [hK]; exact SqT.mono h1 rel.le), KN.laid k rel r z⟩
        · rename_i h1 z r
          cases e4
          exact ⟨_, _, rfl, .inl (SqL.of (rel.le _ _ h1)), KN.laid k rel r z⟩
        · rename_i ns h1 z
          cases e4
          exact ⟨_, _, rfl, .inl (by rw [hK]; exact SqL.mono h1 rel.le), KN.laid k rel (RDs.ofInts ns) (by rw [List.length_map]; exact z)⟩
      · simp [dB1] at e4
  · refine (pe_callB cr_sortedI hg hm (by decide +kernel) (pa_cons pv pa_nil hs') (by decide) (by decide) hs' rfl).imp fun σ H Q ⟨σd, F, Os, rel, k⟩ => ?_
    simp only [evE, getPl] at k
    cases e0 : ((σd[i]?).bind id).bind (fun m => (peekB m).bind (dB1 .sorted)) with
    | none => rw [e0] at k; exact False.elim k
    | some d =>
      rw [e0, ofO_some, ER.bind_ok] at k
      obtain ⟨m, e1, e2⟩ := Option.bind_eq_some_iff.mp e0
      obtain ⟨d1, e3, e4⟩ := Option.bind_eq_some_iff.mp e2
      obtain ⟨v, hv, rm⟩ := rel.get e1
      refine ⟨_, hv, ?_⟩
      have fin : ∀ {a vs ds ns}, v = .ref a → H a = some (.lst vs) → vs.length ≤ sizeLine → RDs g F ds vs → D.ints ds = some ns → d = .lst ((isort ns).map D.int) → rSortedI X.K [v] H Q := fun {a vs ds ns} ev ha hz rs e5 ed => by
        subst ev ed
        have ev := rs.ints e5
        subst ev
        refine ⟨a, ns, rfl, SqL.of ha, fun ns' p hp hs np => ?_⟩
        have e6 : ns' = isort ns := sorted_unique (hp.trans (isort_perm ns).symm) hs (isort_sorted ns)
        subst e6
        exact KN.laid (vs := (isort ns).map V.int) k rel (RDs.ofInts _) (by rw [List.length_map, (isort_perm ns).length_eq]; simpa using hz) p np
      rcases peekB_of rm e3 with ⟨a, vs, ds, rfl, rfl, sa, ha, hz, rs⟩ | rd | ⟨ks, ds, rfl⟩
      · obtain ⟨ns, e5, rfl⟩ := Option.map_eq_some_iff.mp e4
        exact fin rfl ha hz rs e5 rfl
      · cases rd <;> first | (simp [dB1] at e4; done) | skip
        · rename_i h1 z r
          obtain ⟨ns, e5, rfl⟩ := Option.map_eq_some_iff.mp e4
          exact fin rfl (rel.le _ _ h1) z r e5 rfl
      · simp [dB1] at e4
theorem n_slc {lo hi : Option Expr} (hK : X.K = g.K) (ha : PE X a (tE T G g W false ia)) (hl : PO X lo (tOf T G g W false ib)) (hh : PO X hi (tOf T G g W false ic)) : PE X (.Subscript a (.Slice lo hi none p2) pos) (tN T G g W false (.slc ia ib ic)) :=
  (pe_slice sl_list ha hl hh).imp fun σ H Q ⟨σd, F, Os, rel, k⟩ => by
    simp only [evE] at k
    rw [ER.bind_assoc] at k
    refine ⟨σd, F, Os, rel, KN.bind k fun x σ1 v H1 F1 Os1 e rel1 rx l1 gr1 k1 => ?_⟩
    rw [ER.bind_assoc] at k1
    refine ⟨σ1, F1, Os1, rel1, KN.bind k1 fun y σ2 u H2 F2 Os2 e2 rel2 ry l2 gr2 k2 => ?_⟩
    rw [ER.bind_assoc] at k2
    refine ⟨σ2, F2, Os2, rel2, KN.bind k2 fun z σ3 w H3 F3 Os3 e3 rel3 rz l3 gr3 k3 => ?_⟩
    subst ry
    subst rz
    have rx := (rx.mono l2).mono l3
    cases x with
    | lst ds =>
      cases rx with
      | lst h1 zz r => exact ⟨_, _, rfl, SqL.of (rel3.le _ _ h1), KN.laid k3 rel3 (cutD_map r _ _) (Nat.le_trans (cutV_length _ _ _) zz)⟩
    | _ => exact False.elim k3
theorem n_add (ha : PE X a (tE T G g W false ia)) (hb : PE X b (tE T G g W false ib)) : PE X (.BinOp a .Add b pos) (tN T G g W false (.bin .add ia ib)) :=
  (pe_op op_cat ha hb).imp fun σ H Q ⟨σd, F, Os, rel, k⟩ => by
    simp only [evE] at k
    rw [ER.bind_assoc] at k
    refine ⟨σd, F, Os, rel, KN.bind k fun x σ1 v H1 F1 Os1 e rel1 rx l1 gr1 k1 => ?_⟩
    rw [ER.bind_assoc] at k1
    refine ⟨σ1, F1, Os1, rel1, KN.bind k1 fun y σ2 u H2 F2 Os2 e2 rel2 ry l2 gr2 k2 => ?_⟩
    have rx := rx.mono l2
    cases hd : dBin .add x y with
    | none => rw [hd] at k2; exact False.elim k2
    | some d =>
      rw [hd, ofO_some, ER.bind_ok] at k2
      cases hl : asL d with
      | none => rw [hl] at k2; exact False.elim k2
      | some ds =>
        rw [hl, ofO_some] at k2
        cases d with
        | lst ds' =>
          cases hl
          unfold dBin at hd
          split at hd <;> first | (cases ‹BOp.add = _›; done) | skip
          · cases hd
          · split at hd <;> cases hd
          · split at hd
            · rename_i hz
              cases hd
              cases rx with
              | lst h1 z1 r1 =>
                cases ry with
                | lst h2 z2 r2 =>
                  have hz' := hz
                  rw [r1.length, r2.length, ← line_eq] at hz'
                  exact ⟨_, _, _, _, rfl, rfl, rel2.le _ _ h1, rel2.le _ _ h2, hz', KN.laid k2 rel2 (r1.append r2) (by rw [List.length_append]; exact hz')⟩
            · cases hd
          all_goals first | (cases hd; done) | (split at hd <;> cases hd)
        | _ => cases hl
theorem asgM_tr {te : TE} {i : Nat} {E : Ends} {σ : L2.St} {H : Hp} (hp : i ∉ pin) (hte : ∀ Q, tN T G g W false ie σ H Q → te σ H Q) (hh : tS g W pin (fun σ => (evE T G ie σ).to fun x σ1 => (ofO (thaw x) σ1).to fun m σ2 => .nx (σ2.set i (some m))) E σ H) : tAsg te (gName i) E σ H := by
  obtain ⟨σd, F, Os, rel, k⟩ := hh
  dsimp only at k
  refine hte _ ⟨σd, F, Os, rel, ?_⟩
  cases e : evE T G ie σd with
  | stuck => rw [e] at k; exact k.elim
  | exc x σe => rw [e] at k; exact fun c dd H' F' Os' a b y => k σ c dd H' F' Os' a (PinEq.refl _ _) b y
  | ok d σ1 =>
    rw [e, ER.to_ok] at k
    rw [ER.bind_ok]
    cases d with
    | lst ds =>
      intro q vs H' F' Os' rel' hp' fp nO np rs hz gr
      have fi : (fun j a => (j = i ∧ a = q) ∨ (j ≠ i ∧ Os' j a)) i q := .inl ⟨rfl, rfl⟩
      have il : Rel g H' F' (σ1.set i (some (.lst (ds.map M.d)))) (σ.set i (some (.ref q))) (fun j a => (j = i ∧ a = q) ∨ (j ≠ i ∧ Os' j a)) := by
        refine ⟨rel'.le, by simpa using rel'.len, fun j m e => ?_, fun j l a x y => ?_, fun j a x => ?_, fun j a x => ?_⟩
        · by_cases hj : j = i
          · subst hj
            have hlt : j < σ1.length := by
              by_cases hlt : j < σ1.length
              · exact hlt
              · rw [List.getElem?_eq_none (by simpa using hlt)] at e; cases e
            rw [List.getElem?_set_self hlt] at e
            cases e
            refine ⟨.ref q, by rw [List.getElem?_set_self (by rw [← rel'.len]; exact hlt)], .lst (.inl ⟨rfl, rfl⟩) hp' hz (RMs.ofD rs)⟩
          · rw [List.getElem?_set_ne (Ne.symm hj)] at e ⊢
            obtain ⟨v', e1, qq⟩ := rel'.sl j m e
            exact ⟨v', e1, qq.wide fun a z => .inr ⟨hj, z⟩⟩
        · rcases x with ⟨x1, x2⟩ | ⟨x1, x2⟩ <;> rcases y with ⟨y1, y2⟩ | ⟨y1, y2⟩
          · rw [x1, y1]
          · subst x2; exact absurd ⟨l, y2⟩ nO
          · subst y2; exact absurd ⟨j, x2⟩ nO
          · exact rel'.dj j l a x2 y2
        · rcases x with ⟨x1, x2⟩ | ⟨x1, x2⟩
          · subst x2; exact fp
          · exact rel'.nf j a x2
        · rcases x with ⟨x1, x2⟩ | ⟨x1, x2⟩
          · subst x2; rw [hp']; simp
          · exact rel'.al j a x2
      refine k _ H' F' _ il ⟨by simp, fun j hj => ?_⟩ ⟨gr.ff, gr.fr, gr.al, fun a ⟨j, z⟩ => ?_, gr.fz⟩
      · have hne : i ≠ j := fun e => hp (e ▸ hj)
        rw [List.getElem?_set_ne hne]
      · rcases z with ⟨_, z⟩ | ⟨_, z⟩
        · subst z; exact np.elim .inr fun w => .inl w.2
        · exact gr.ow a ⟨j, z⟩
    | _ => exact False.elim k
theorem s_asgM {i : Nat} {y : Str} {py : Pos} (hp : i ∉ pin) (hN : X.N.Nodup) (hi : X.N[i]? = some y) (hx : Loc X.env.scope y) (hf : X.fn y = true ∨ X.env.scope.names.lookup y = some .local) (he : PE X e (tN T G g W false ie)) (hs : swapsWith e (some (.Name y py)) pos.line X.env = pure false) (hw : pStore (.Name y py) e = true) :
    PS X (.Assign [.Name y py] e pos) (tS g W pin fun σ => (evE T G ie σ).to fun x σ1 => (ofO (thaw x) σ1).to fun m σ2 => .nx (σ2.set i (some m))) :=
  (ps_asg he (pg_name hN hi hx hf) hs (stores_of hw _) rfl).imp fun E σ H hh => asgM_tr hp (fun _ h => h) hh
theorem s_asgMLc {i : Nat} {y : Str} {py : Pos} {elt tgt iter : Expr} {ifs : List Expr} {scope : Scope} {own : List (Str × Nat)} {spos : Pos} {tg : Tg} (hp : i ∉ pin) (hc : X.calm = true) (hN : X.N.Nodup) (hy : X.N[i]? = some y) (hyl : X.env.scope.names.lookup y = some .local)
    (hsw : swapsWith (.ListComp elt [⟨tgt, iter, ifs, 0⟩] scope pos) (some (.Name y py)) spos.line X.env = pure true) (hi : PI X tgt iter (tI T G g W false ia)) (ok : BlkOk X.N X.env.scope scope own) (hto : ∀ j ∈ tgS tg, j ∈ own.map (·.2))
    (hg : ∀ (s : Shared) (H : Hp) (C : Addr) (cl : List (Str × Addr)) (fp : List Addr), PG (X.blk s H scope (compEnvC scope cl C X.env) fp) tgt (tG g tg)) (ht : ∀ (s : Shared) (H : Hp) (C : Addr) (cl : List (Str × Addr)) (fp : List Addr), PTs (X.blk s H scope (compEnvC scope cl C X.env) fp) ifs (tT T G g W0 false ic))
    (he : ∀ (s : Shared) (H : Hp) (C : Addr) (cl : List (Str × Addr)) (fp : List Addr), PE (X.blk s H scope (compEnvC scope cl C X.env) fp) elt (tE T G g W0 false ie)) (hs : ∀ x, foldedSetIterable iter X.env x = pure x) :
    PS X (.Assign [.Name y py] (.ListComp elt [⟨tgt, iter, ifs, 0⟩] scope pos) spos) (tS g W pin fun σ => (evE T G (.comp ie tg ia ic (own.map (·.2))) σ).to fun x σ1 => (ofO (thaw x) σ1).to fun m σ2 => .nx (σ2.set i (some m))) :=
  (ps_setLc hc hN hy hyl hsw hi ok hg ht he hs).imp fun E σ H hh => asgM_tr hp (fun Q h => e_comp_tr hto h) hh
/-- a list that nothing else knows goes to a slot -/
theorem asgN_core {i : Nat} {E : Ends} {σ : L2.St} {H F : Hp} {Os : Nat → Addr → Prop} {r : ER (List D)} (hp : i ∉ pin) (k : KS g W pin σ H F (Own Os) E (r.to fun ds σ2 => .nx (σ2.set i (some (.lst (ds.map M.d)))))) :
    KN g W false σ H F (Own Os) (fun v H' => gName i v σ H' E.nx) r := by
  cases r with
  | stuck => exact k
  | exc x σe => exact fun c dd H' F' Os' a b y => k σ c dd H' F' Os' a (PinEq.refl _ _) b y
  | ok ds σ1 =>
    intro q vs H' F' Os' rel' hp' fp nO np rs hz gr
    have il : Rel g H' F' (σ1.set i (some (.lst (ds.map M.d)))) (σ.set i (some (.ref q))) (fun j a => (j = i ∧ a = q) ∨ (j ≠ i ∧ Os' j a)) := by
      refine ⟨rel'.le, by simpa using rel'.len, fun j m e => ?_, fun j l a x y => ?_, fun j a x => ?_, fun j a x => ?_⟩
      · by_cases hj : j = i
        · subst hj
          have hlt : j < σ1.length := by
            by_cases hlt : j < σ1.length
            · exact hlt
            · rw [List.getElem?_eq_none (by simpa using hlt)] at e; cases e
          rw [List.getElem?_set_self hlt] at e
          cases e
          exact ⟨.ref q, by rw [List.getElem?_set_self (by rw [← rel'.len]; exact hlt)], .lst (.inl ⟨rfl, rfl⟩) hp' hz (RMs.ofD rs)⟩
        · rw [List.getElem?_set_ne (Ne.symm hj)] at e ⊢
          obtain ⟨v', e1, qq⟩ := rel'.sl j m e
          exact ⟨v', e1, qq.wide fun a z => .inr ⟨hj, z⟩⟩
      · rcases x with ⟨x1, x2⟩ | ⟨x1, x2⟩ <;> rcases y with ⟨y1, y2⟩ | ⟨y1, y2⟩
        · rw [x1, y1]
        · subst x2; exact absurd ⟨l, y2⟩ nO
        · subst y2; exact absurd ⟨j, x2⟩ nO
        · exact rel'.dj j l a x2 y2
      · rcases x with ⟨x1, x2⟩ | ⟨x1, x2⟩
        · subst x2; exact fp
        · exact rel'.nf j a x2
      · rcases x with ⟨x1, x2⟩ | ⟨x1, x2⟩
        · subst x2; rw [hp']; simp
        · exact rel'.al j a x2
    refine k _ H' F' _ il ⟨by simp, fun j hj => ?_⟩ ⟨gr.ff, gr.fr, gr.al, fun a ⟨j, z⟩ => ?_, gr.fz⟩
    · have hne : i ≠ j := fun e => hp (e ▸ hj)
      rw [List.getElem?_set_ne hne]
    · rcases z with ⟨_, z⟩ | ⟨_, z⟩
      · subst z; exact np.elim .inr fun w => .inl w.2
      · exact gr.ow a ⟨j, z⟩
theorem KS.toN {α' β' : Type} {r : ER α'} {f : α' → Env → SR} {R : Hp → α' → β' → Prop} {Q : β' → Hp → Prop} {σ : L2.St} {H F : Hp} {O : Addr → Prop} {E : Ends} (k : KS g W pin σ H F O E (r.to f))
    (h : ∀ a σd b H' F' Os', r = .ok a σd → Rel g H' F' σd σ Os' → R F' a b → LeH F F' → Gr false H F O H' F' (Own Os') → KS g W pin σ H' F' (Own Os') E (f a σd) → Q b H') : KE g W false R σ H F O Q r := by
  cases r with
  | ok a σd => exact fun b H' F' Os' rel q x => h a σd b H' F' Os' rfl rel q x.ff x (KS.later (r := f a σd) k (PinEq.refl _ _) x)
  | exc e σd => exact fun cls dd H' F' Os' rel rx x => k σ cls dd H' F' Os' rel (PinEq.refl _ _) rx x
  | stuck => exact k
/-- a call's end, of a def that gives a new list -/
theorem call_finN {H F : Hp} {σd : Env} {σ : L2.St} {Os : Nat → Addr → Prop} {avs : List AV} {vs : List V} {fn : Nat} {Q : VK} (rel : Rel g H F σd σ Os) (ra : RAs g σ F avs vs)
    (k : KN g W false σ H F (Own Os) Q (callN T fn avs σd)) : spF g T fn vs H Q (fun cls dd H' => W cls dd σ H') := by
  unfold callN at k
  split at k
  · rename_i nd
    split at k
    · rename_i ms hm
      refine ⟨ms, F, _, call_in rel ra hm nd, ?_⟩
      cases e : T fn ms with
      | ret d outs =>
        rw [e] at k
        exact k.elim
      | retM ds outs =>
        rw [e] at k
        intro p vs' H' F' Os' rel2 hp fp nO np rs hz gr
        obtain ⟨Os2, r2, g2, g3⟩ := call_out (pu := false) rel ra nd rel2 gr (fun z => nomatch z)
        exact k p vs' H' F' Os2 r2 hp fp (fun z => (g3 p z).elim nO (call_nO rel nd np)) (np.imp id fun w => ⟨rfl, (handed_own w).1⟩) rs hz g2
      | exc x =>
        rw [e] at k
        intro cls dd H' F' le rx gr
        obtain ⟨Os2, r2, g2⟩ := call_exc (pu := false) rel ra nd le gr (fun z => nomatch z)
        exact k cls dd H' F' Os2 r2 rx g2
      | stuck =>
        rw [e] at k
        exact k
    · exact k.elim
  · exact k.elim
theorem s_asgC {i k fn : Nat} {ad : Addr} {fd : FuncData} {ps : List Str} {x y : Str} {py : Pos} {r : IE} (hp : i ∉ pin) (hN : X.N.Nodup) (hi : X.N[i]? = some y) (hx : Loc X.env.scope y) (hf : X.fn y = true ∨ X.env.scope.names.lookup y = some .local)
    (F : FnOk X.prog X.w X.K X.mg X.base (L2N.CX X.prog X.w) k ad fd ps (spF g T fn)) (hr : Room k X.A) (hg : Gl X x) (hm : X.mg x = some (.ref ad)) (hk : PySem.W.keepIn X.K (.ref ad) = true) (hb : L2.Binds X.K fd ps []) (tk : L2N.Takes X W) (hs : nStar a = true) (hss : es.all nStar = true)
    (hdb : (x == ("__debug__" : Str)) = false) (ha : PA X (a :: es) (tAr T G g W false r)) : PS X (.Assign [.Name y py] (.Call (.Name x p) (a :: es) [] p2) pos) (tS g W pin fun σ => (evA T G r σ).to fun avs σ1 => (callN T fn avs σ1).to fun ds σ2 => .nx (σ2.set i (some (.lst (ds.map M.d))))) :=
  (ps_asg (pe_callS F hr hg hm hk hb (fun σ => L2N.passAt tk σ) ha hdb (starEach_of hs es X.env) (noStars _ _ _ hss)) (pg_name hN hi hx hf) rfl rfl rfl).imp fun E σ H ⟨σd, F, Os, rel, k⟩ => by
    refine ⟨σd, F, Os, rel, KS.toN k fun avs σ1 vs H1 F1 Os1 e rel1 ra l1 gr1 k1 => ?_⟩
    exact call_finN rel1 ra (asgN_core hp k1)
theorem s_retM (he : PE X e (tN T G g W false ie)) : PS X (.Return (some e) pos) (tS g W pin fun σ => (evE T G ie σ).to fun x σ1 => (ofO (asL x) σ1).to fun ds σ2 => .retM ds σ2) :=
  (ps_ret he).imp fun E σ H ⟨σd, F, Os, rel, k⟩ => by
    refine ⟨σd, F, Os, rel, ?_⟩
    dsimp only at k
    cases e : evE T G ie σd with
    | stuck => rw [e] at k; exact k.elim
    | exc x σe => rw [e] at k; exact fun c dd H' F' Os' a b y => k σ c dd H' F' Os' a (PinEq.refl _ _) b y
    | ok d σ1 =>
      rw [e, ER.to_ok] at k
      rw [ER.bind_ok]
      cases d with
      | lst ds => exact fun q vs H' F' Os' rel' hp' fp nO np rs hz gr => k σ q vs H' F' Os' rel' (PinEq.refl _ _) hp' fp nO (np.imp id fun w => w.2) rs hz gr
      | _ => exact False.elim k
/-- return x, a list that only x knows -/
theorem s_retO {i : Nat} {y : Str} (hN : X.N[i]? = some y) (hv : Vis X.env.scope y) (hd : (y == ("__debug__" : Str)) = false) (hcd : (y == ("__classdict__" : Str)) = false) :
    PS X (.Return (some (.Name y p)) pos) (tS g W pin fun σ => (ofO (((σ[i]?).bind id).bind fun m => (peek m).bind asL) σ).to fun ds σ1 => .retM ds (σ1.set i none)) :=
  (ps_ret (pe_var hN hv hd hcd)).imp fun E σ H ⟨σd, F, Os, rel, k⟩ => by
    obtain ⟨ds, ed, k⟩ := KS.ofO k
    obtain ⟨m, e1, e2⟩ := Option.bind_eq_some_iff.mp ed
    obtain ⟨d1, e3, e4⟩ := Option.bind_eq_some_iff.mp e2
    obtain ⟨v, hv, rm⟩ := rel.get e1
    obtain ⟨a, vs, ds', rfl, rfl, sa, ha, hz, rs⟩ := peek_of rm e3
    cases e4
    refine ⟨_, hv, k σ a vs H F (fun j b => j ≠ i ∧ Os j b) ⟨rel.le, by simpa using rel.len, fun j m e => ?_, fun j l b x y => rel.dj j l b x.2 y.2, fun j b x => rel.nf j b x.2, fun j b x => rel.al j b x.2⟩ (PinEq.refl _ _) ha (rel.nf i a sa) (fun ⟨j, w1, w2⟩ => w1 (rel.dj j i a w2 sa)) (.inr ⟨i, sa⟩) rs hz ⟨LeH.refl _, fun _ _ e _ => e, fun _ h => h, fun b ⟨j, w⟩ => .inl ⟨j, w.2⟩, fun _ h => .inl h⟩⟩
    have hj : j ≠ i := fun z => by
      subst z
      by_cases hlt : j < σd.length
      · rw [List.getElem?_set_self hlt] at e; cases e
      · rw [List.getElem?_eq_none (by simpa using hlt)] at e; cases e
    rw [List.getElem?_set_ne (Ne.symm hj)] at e
    obtain ⟨v', e5, qq⟩ := rel.sl j m e
    exact ⟨v', e5, qq.wide fun b z => ⟨hj, z⟩⟩
/-- return f(..), f gives a new list -/
theorem s_retC {k fn : Nat} {ad : Addr} {fd : FuncData} {ps : List Str} {x : Str} {r : IE}
    (F : FnOk X.prog X.w X.K X.mg X.base (L2N.CX X.prog X.w) k ad fd ps (spF g T fn)) (hr : Room k X.A) (hg : Gl X x) (hm : X.mg x = some (.ref ad)) (hk : PySem.W.keepIn X.K (.ref ad) = true) (hb : L2.Binds X.K fd ps []) (tk : L2N.Takes X W) (hs : nStar a = true) (hss : es.all nStar = true)
    (hdb : (x == ("__debug__" : Str)) = false) (ha : PA X (a :: es) (tAr T G g W false r)) : PS X (.Return (some (.Call (.Name x p) (a :: es) [] p2)) pos) (tS g W pin fun σ => (evA T G r σ).to fun avs σ1 => (callN T fn avs σ1).to fun ds σ2 => .retM ds σ2) :=
  (ps_ret (pe_callS F hr hg hm hk hb (fun σ => L2N.passAt tk σ) ha hdb (starEach_of hs es X.env) (noStars _ _ _ hss))).imp fun E σ H ⟨σd, F, Os, rel, k⟩ => by
    refine ⟨σd, F, Os, rel, KS.toN k fun avs σ1 vs H1 F1 Os1 e rel1 ra l1 gr1 k1 => ?_⟩
    refine call_finN rel1 ra ?_
    cases er : callN T fn avs σ1 with
    | stuck => rw [er] at k1; exact k1.elim
    | exc x σe => rw [er] at k1; exact fun c dd H' F' Os' a b y => k1 σ c dd H' F' Os' a (PinEq.refl _ _) b y
    | ok ds σ2 => rw [er] at k1; exact fun q vs H' F' Os' rel' hp' fp nO np rs hz gr => k1 σ q vs H' F' Os' rel' (PinEq.refl _ _) hp' fp nO (np.imp id fun w => w.2) rs hz gr
theorem swap_sub {o i : Expr} {q : Pos} (e : Expr) (l : Nat) (env : PySem.Env) : swapsWithSole [.Subscript o i q] e l env = pure false := by
  cases e <;> rfl
/-! ### changes in place -/
theorem KS_there {σ : L2.St} {H F : Hp} {σd : Env} {Os : Nat → Addr → Prop} {O : Addr → Prop} {E : Ends} {i : Nat} {f : Unit → Env → SR} (rel : Rel g H F σd σ Os) (k : KS g W pin σ H F O E ((there (.root i) σd).to f)) :
    ∃ ms v, (σd[i]?).bind id = some (.lst ms) ∧ σ[i]? = some (some v) ∧ KS g W pin σ H F O E (f () σd) := by
  cases h0 : (getPl σd (.root i)).bind M.isL with
  | none => simp only [there, h0] at k; exact k.elim
  | some m0 =>
    obtain ⟨m1, h1, h2⟩ := Option.bind_eq_some_iff.mp h0
    obtain ⟨v, hv, _⟩ := rel.get (m := m1) h1
    simp only [there, h0, ofO_some, ER.to_ok] at k
    cases m1 <;> first | (simp [M.isL] at h2; done) | exact ⟨_, v, h1, hv, k⟩
theorem KS_has {σ : L2.St} {H F : Hp} {σd : Env} {Os : Nat → Addr → Prop} {O : Addr → Prop} {E : Ends} {i : Nat} {f : Unit → Env → SR} (rel : Rel g H F σd σ Os) (k : KS g W pin σ H F O E ((has (.root i) σd).to f)) :
    ∃ m v, (σd[i]?).bind id = some m ∧ σ[i]? = some (some v) ∧ KS g W pin σ H F O E (f () σd) := by
  unfold has at k
  cases h0 : getPl σd (.root i) with
  | none => rw [h0] at k; exact k.elim
  | some m =>
    rw [h0] at k
    obtain ⟨v, hv, _⟩ := rel.get (m := m) h0
    exact ⟨m, v, h0, hv, k⟩
theorem PSet_or {X : Cx} {t t' : TSet} (h : PSet X t) (h' : PSet X t') : PSet X (fun o i v H Q => t o i v H Q ∨ t' o i v H Q) := by
  intro pins s σ H o i v ov iv u Q I ro ri rv q
  rcases q with q | q
  · exact h pins s σ H o i v ov iv u Q I ro ri rv q
  · exact h' pins s σ H o i v ov iv u Q I ro ri rv q
theorem set_dict {X : Cx} (hu : X.A.units + 64 < cLine) : PSet X (fun o i v H Q => ∃ a H4, o = .ref a ∧ DPut H a i v H4 ∧ Q H4) := by
  intro pins s σ H o i v ov iv u Q I ro ri rv q
  obtain ⟨a, H4, rfl, dp, q⟩ := q
  obtain rfl : ov = Value.ref a := ro
  exact d_setItem (by omega) I dp ri rv fun s' I' => ⟨H4, I', q⟩
/-- o[i] = e, o a list or a dict that a slot owns -/
theorem s_sto {o : Expr} {i : Nat} {y : Str} (hu : X.A.units + 64 < cLine) (hN : X.N[i]? = some y) (hv : Vis X.env.scope y) (hd : (y == ("__debug__" : Str)) = false) (hcd : (y == ("__classdict__" : Str)) = false) (hb : PE X b (tE T G g W false ib)) (he : PE X e (tE T G g W false ie)) (hpx : pIx b = true) :
    PS X (.Assign [.Subscript (.Name y p2) b p] e pos) (tS g W pin fun σ => (evE T G ie σ).to fun y σ1 => (has (.root i) σ1).to fun _ σ1 => (evE T G ib σ1).to fun k σ2 => (ofO ((getPl σ2 (.root i)).bind fun m => mSet m k y) σ2).to fun m σ3 => .nx (setPl σ3 (.root i) m)) :=
  (ps_asg he (pg_sub (pe_var hN hv hd hcd) hb (PSet_or set_list (set_dict hu)) (by cases b <;> first | (intro _; rfl) | (simp [pIx] at hpx))) (swap_sub _ _ _) (stores_of (by cases e <;> rfl) _) rfl).imp fun E σ H ⟨σd, F, Os, rel, k⟩ => by
    refine ⟨σd, F, Os, rel, KS.to k fun yd σ1 yv H1 F1 Os1 rel1 ry l1 gr1 k1 => ?_⟩
    obtain ⟨m0, v, h1, hv, k2⟩ := KS_has rel1 k1
    refine ⟨v, hv, σ1, F1, Os1, rel1, KS.to k2 fun kd σ2 kv H2 F2 Os2 rel2 rk l2 gr2 k3 => ?_⟩
    obtain ⟨m', e0, k4⟩ := KS.ofO k3
    obtain ⟨m, e1, e2⟩ := Option.bind_eq_some_iff.mp e0
    obtain ⟨v2, hv2, rm⟩ := rel2.get (show (σ2[i]?).bind id = some m from e1)
    rw [hv] at hv2
    cases hv2
    unfold mSet at e2
    split at e2
    · rename_i ms2 n
      obtain ⟨j, e3, rfl⟩ := Option.map_eq_some_iff.mp e2
      cases rk
      cases rm with
      | lst sa ha hz hr =>
        rename_i a vs
        have e3' := e3
        rw [hr.length] at e3'
        obtain ⟨rel3, gr3⟩ := rel2.write (o := .lst (vs.set j yv)) (m' := .lst (ms2.set j (.d yd))) e1 hv sa (by rw [ha]; simp)
          (.lst sa upd_same (by rw [List.length_set]; exact hz) ((hr.setD (ry.mono l2) j).frame (LeH.refl F2) upd_out))
        exact .inl ⟨a, vs, n, j, rfl, rfl, ha, e3', k4 σ _ _ _ rel3 (PinEq.refl _ _) gr3⟩
    · rename_i ks ms2
      obtain ⟨k, ek, e2⟩ := Option.bind_eq_some_iff.mp e2
      split at e2
      · rename_i hsz
        cases rm with
        | dk sa ha hz hr =>
          rename_i a kvs
          have hkl : kvs.length = ks.length := by have := congrArg List.length hz; simpa using this
          have hlt : kvs.length < sizeLine := by rw [line_eq, hkl]; exact hsz
          have fin : ∀ m', RM g (upd H2 a (.dK (putK kvs (toKey k) yv))) F2 m' (.ref a) (Os2 i) → KS g W pin σ H2 F2 (Own Os2) E (.nx (setPl σ2 (.root i) m')) → ∃ a' H4, (V.ref a) = .ref a' ∧ DPut H2 a' kv yv H4 ∧ E.nx σ H4 := fun m' rm' k4 => by
            obtain ⟨rel3, gr3⟩ := rel2.write (o := .dK (putK kvs (toKey k) yv)) (m' := m') e1 hv sa (by rw [ha]; simp) rm'
            refine ⟨a, _, rfl, ?_, k4 σ _ _ _ rel3 (PinEq.refl _ _) gr3⟩
            rw [key_of_d rk ek]
            exact DPut.k ha hlt
          have ry' := ry.mono l2
          have any := kIdx_any (fun a b => toKey_inj) hz k
          cases ej : kIdx ks k with
          | some j =>
            rw [ej] at e2 any
            have any : (kvs.any fun kv => decide (kv.1 = toKey k)) = true := any
            cases e2
            refine .inr (fin _ ?_ k4)
            obtain ⟨p1, p2⟩ := kPut_keys (fun a b => toKey_inj) (v := yv) hz k
            refine .dk sa (by rw [upd_same, putK, if_pos any]) p1 ?_
            rw [p2]
            exact (hr.kPut ry').frame (LeH.refl F2) upd_out
          | none =>
            rw [ej] at e2 any
            cases e2
            refine .inr (fin _ ?_ k4)
            refine .dk sa (by rw [upd_same, putK, if_neg (by rw [any]; simp)]) (by simp [hz]) ?_
            rw [List.map_append]
            exact (hr.append (S2 := fun _ => False) (.cons (S1 := fun _ => False) (S2 := fun _ => False) (fun _ z => z) (fun _ z => z) (fun _ z => z.elim) (.d ry') .nil) (fun _ z => z) (fun _ z => z.elim) (fun _ _ z => z)).frame (LeH.refl F2) upd_out
      · cases e2
    · cases e2
/-- xs.append(e) -/
theorem s_app {i : Nat} {y : Str} {apos cpos : Pos} (hl : (apos.endLine == cpos.line) = true) (hs : nStar e = true) (hN : X.N[i]? = some y) (hv : Vis X.env.scope y) (hd : (y == ("__debug__" : Str)) = false) (hcd : (y == ("__classdict__" : Str)) = false) (he : PE X e (tE T G g W false ie)) :
    PS X (.Expr (.Call (.Attribute (.Name y p2) "append" apos) [e] [] cpos) pos) (tS g W pin fun σ => (there (.root i) σ).to fun _ σ0 => (evE T G ie σ0).to fun y σ1 => (ofO ((getPl σ1 (.root i)).bind fun m => mApp m y) σ1).to fun m σ2 => .nx (setPl σ2 (.root i) m)) :=
  (ps_expr (pe_bm PySem.F.plainAttrs_list PySem.F.slot_list_append PySem.F.type_list_append mt_append (pe_var hN hv hd hcd) (pa_cons he pa_nil (starEach_of hs [] X.env)) rfl (by rw [starEach_of hs] <;> rfl) hl (starEach_of hs [] X.env) rfl) rfl).imp fun E σ H ⟨σd, F, Os, rel, k⟩ => by
    obtain ⟨ms, v, h1, hv, k2⟩ := KS_there rel k
    obtain ⟨v2, hv2, rm0⟩ := rel.get h1
    rw [hv] at hv2
    cases hv2
    refine ⟨v, hv, ?_, ?_⟩
    · cases rm0 with
      | lst sa ha hz hr => exact .inl ⟨rfl, _, SqL.of ha⟩
    · refine ⟨σd, F, Os, rel, KS.to k2 fun yd σ2 yv H2 F2 Os2 rel2 ry l2 gr2 k3 => ?_⟩
      obtain ⟨m', e0, k4⟩ := KS.ofO k3
      obtain ⟨m, e1, e2⟩ := Option.bind_eq_some_iff.mp e0
      obtain ⟨v2, hv2, rm⟩ := rel2.get (show (σ2[i]?).bind id = some m from e1)
      rw [hv] at hv2
      cases hv2
      unfold mApp at e2
      split at e2
      · rename_i ms2
        split at e2
        · rename_i hsz
          cases e2
          cases rm with
          | lst sa ha hz hr =>
            rename_i a vs
            have hlt : vs.length < sizeLine := by rw [line_eq, ← hr.length]; exact hsz
            obtain ⟨rel3, gr3⟩ := rel2.write (o := .lst (vs ++ [yv])) (m' := .lst (ms2 ++ [.d yd])) e1 hv sa (by rw [ha]; simp)
              (.lst sa upd_same (by rw [List.length_append]; exact hlt) (((hr.append (S2 := fun _ => False) (.cons (S1 := fun _ => False) (S2 := fun _ => False) (fun _ z => z) (fun _ z => z) (fun _ z => z.elim) (.d ry) .nil) (fun _ z => z) (fun _ z => z.elim) (fun _ _ z => z)).frame (LeH.refl F2) upd_out)))
            exact ⟨a, vs, yv, rfl, rfl, ha, hlt, k4 σ _ _ _ rel3 (PinEq.refl _ _) gr3⟩
        · cases e2
      · cases e2
/-- xs.extend(e) -/
theorem s_ext {i : Nat} {y : Str} {apos cpos : Pos} (hl : (apos.endLine == cpos.line) = true) (hs : nStar e = true) (hN : X.N[i]? = some y) (hv : Vis X.env.scope y) (hd : (y == ("__debug__" : Str)) = false) (hcd : (y == ("__classdict__" : Str)) = false) (he : PE X e (tE T G g W false ie)) :
    PS X (.Expr (.Call (.Attribute (.Name y p2) "extend" apos) [e] [] cpos) pos) (tS g W pin fun σ => (there (.root i) σ).to fun _ σ0 => (evE T G ie σ0).to fun y σ1 => (ofO ((getPl σ1 (.root i)).bind fun m => mExt m y) σ1).to fun m σ2 => .nx (setPl σ2 (.root i) m)) :=
  (ps_expr (pe_bm PySem.F.plainAttrs_list PySem.F.slot_list_extend PySem.F.type_list_extend mt_extend (pe_var hN hv hd hcd) (pa_cons he pa_nil (starEach_of hs [] X.env)) rfl (by rw [starEach_of hs] <;> rfl) hl (starEach_of hs [] X.env) rfl) rfl).imp fun E σ H ⟨σd, F, Os, rel, k⟩ => by
    obtain ⟨ms, v, h1, hv, k2⟩ := KS_there rel k
    obtain ⟨v2, hv2, rm0⟩ := rel.get h1
    rw [hv] at hv2
    cases hv2
    refine ⟨v, hv, ?_, ?_⟩
    · cases rm0 with
      | lst sa ha hz hr => exact .inl ⟨rfl, _, SqL.of ha⟩
    · refine ⟨σd, F, Os, rel, KS.to k2 fun yd σ2 yv H2 F2 Os2 rel2 ry l2 gr2 k3 => ?_⟩
      obtain ⟨m', e0, k4⟩ := KS.ofO k3
      obtain ⟨m, e1, e2⟩ := Option.bind_eq_some_iff.mp e0
      obtain ⟨v2, hv2, rm⟩ := rel2.get (show (σ2[i]?).bind id = some m from e1)
      rw [hv] at hv2
      cases hv2
      unfold mExt at e2
      split at e2
      · rename_i ms2 ys
        split at e2
        · rename_i hsz
          cases e2
          cases ry with
          | lst h2 z2 r2 =>
            cases rm with
            | lst sa ha hz hr =>
              rename_i b ws a vs
              have hle : vs.length + ws.length ≤ sizeLine := by rw [line_eq, ← hr.length, ← r2.length]; exact hsz
              obtain ⟨rel3, gr3⟩ := rel2.write (o := .lst (vs ++ ws)) (m' := .lst (ms2 ++ ys.map M.d)) e1 hv sa (by rw [ha]; simp)
                (.lst sa upd_same (by rw [List.length_append]; exact hle) (((hr.append (S2 := fun _ => False) (RMs.ofD r2) (fun _ z => z) (fun _ z => z.elim) (fun _ _ z => z)).frame (LeH.refl F2) upd_out)))
              exact ⟨a, b, vs, ws, rfl, rfl, ha, rel2.le _ _ h2, hle, k4 σ _ _ _ rel3 (PinEq.refl _ _) gr3⟩
        · cases e2
      · cases e2
end
end JH

/-! JE1: own exception classes: what the written part says of them; raise. -/
namespace JH
open PySem PySem.Spec PyProof.Rows L2
/-- an own exception class: its name, the number of its one field if it has an __init__ of its own -/
structure EC where
  name : Str
  ini : Option Nat
def decO {α : Type} [DecidableEq α] (a b : Option α) : Bool := decide (a = b)
/-- what isinstance and attributes of an instance lean on -/
def xcB (K : PySem.W.Frag) (C : Addr) : Bool :=
  (PySem.W.clsIn K C).isSome && (He.eqO (PySem.W.findIn K (.ref C) "__getattribute__") (some (some (.builtin "BaseException.__getattribute__"))) &&
  (He.eqO (PySem.W.findIn K (.ref C) "__getattr__") (some none) && (decide (PySem.W.subIn K (.ref C) (.type "BaseException") = some true) &&
  (He.eqO (PySem.W.findIn K (.ref C) "__class__") (some (some (.builtin "object.__class__"))) && (He.eqO (PySem.W.specialIn K (.builtin "object.__class__") "__get__") (some (some (.builtin "getset_descriptor.__get__"))) &&
  (decide (PySem.W.takesIn K (.builtin "object.__class__") = some true) && (decide (PySem.W.mroIn K C (.type "object") = some true) &&
  (decide (PySem.W.typeIn K (.ref C) = some (.type "type")) && PySem.W.keepIn K (.ref C)))))))))
theorem bands {a b : Bool} (h : (a && b) = true) : a = true ∧ b = true := Bool.and_eq_true_iff.mp h
structure XcF (K : PySem.W.Frag) (C : Addr) : Prop where
  cl : (PySem.W.clsIn K C).isSome = true
  ga : PySem.W.findIn K (.ref C) "__getattribute__" = some (some (.builtin "BaseException.__getattribute__"))
  gt : PySem.W.findIn K (.ref C) "__getattr__" = some none
  sb : PySem.W.subIn K (.ref C) (.type "BaseException") = some true
  cc : PySem.W.findIn K (.ref C) "__class__" = some (some (.builtin "object.__class__"))
  sp : PySem.W.specialIn K (.builtin "object.__class__") "__get__" = some (some (.builtin "getset_descriptor.__get__"))
  tk : PySem.W.takesIn K (.builtin "object.__class__") = some true
  mr : PySem.W.mroIn K C (.type "object") = some true
  ty : PySem.W.typeIn K (.ref C) = some (.type "type")
  kp : PySem.W.keepIn K (.ref C) = true
theorem xcB_ok {K : PySem.W.Frag} {C : Addr} (h : xcB K C = true) : XcF K C := by
  obtain ⟨h1, h⟩ := bands h
  obtain ⟨h2, h⟩ := bands h
  obtain ⟨h3, h⟩ := bands h
  obtain ⟨h4, h⟩ := bands h
  obtain ⟨h5, h⟩ := bands h
  obtain ⟨h6, h⟩ := bands h
  obtain ⟨h7, h⟩ := bands h
  obtain ⟨h8, h⟩ := bands h
  obtain ⟨h9, h10⟩ := bands h
  exact ⟨h1, He.eqO_ok h2, He.eqO_ok h3, of_decide_eq_true h4, He.eqO_ok h5, He.eqO_ok h6, of_decide_eq_true h7, of_decide_eq_true h8, of_decide_eq_true h9, h10⟩
/-- a class with an __init__ of its own -/
def oexB (K : PySem.W.Frag) (C : Addr) : Bool := (match K.lookup C with
    | some ⟨.type "type", _, .cls cd, sl⟩ => (match cd.mro, sl.toList with
      | .ref D :: tl, [_, _, _, _, some (.builtin m), _] => (D == C) && ((m == "ValueError.__new__") && (!cd.hasDel && (cd.hasDict && PySem.HandSPX.refsVE tl)))
      | _, _ => false)
    | _ => false) && He.eqO (PySem.W.findIn K (.ref C) "__setattr__") (some (some (.builtin "object.__setattr__")))
theorem oexB_ok {K : PySem.W.Frag} {C : Addr} (h : oexB K C = true) (f : XcF K C) : OexC K C := by
  obtain ⟨h1, h2⟩ := bands h
  refine ⟨?_, He.eqO_ok h2, f.sb, f.ty, f.kp⟩
  split at h1
  · rename_i dd cd sl lk
    split at h1
    · rename_i D tl k0 k1 k2 k3 m k5 em es
      simp only [Bool.and_eq_true, beq_iff_eq, Bool.not_eq_true'] at h1
      obtain ⟨rfl, rfl, hdl, hdt, hre⟩ := h1
      obtain ⟨c1, c2, c3, c4, c5, c6, c7, c8, c9, c10, c11⟩ := cd
      dsimp only at em hdl hdt
      subst em hdl hdt
      obtain ⟨sl⟩ := sl
      dsimp only at es
      subst es
      exact ⟨_, _, _, _, _, _, _, _, _, _, _, _, _, _, _, lk, hre⟩
    · cases h1
  · cases h1
def visB0 (sc : Scope) (x : Str) : Bool := match sc.names.lookup x with
  | some .local => true
  | some .cell => true
  | some .free => true
  | _ => false
theorem visB0_ok {sc : Scope} {x : Str} (h : visB0 sc x = true) : Vis sc x := by
  unfold visB0 at h
  split at h
  · exact .inl ‹_›
  · exact .inr (.inl ‹_›)
  · exact .inr (.inr ‹_›)
  · cases h
theorem takesN0 {X : Cx} : L2N.Takes X (fun _ _ _ _ => False) := fun u s ⟨_, _, _, _, _, _, _, _, _, _, _, _, _, _, _, _, z⟩ => z.elim
section
variable {T : Tab} {G : Nat → Option D} {g : SG} {W : WX} {pin : List Nat} {X : Cx} {a b c e : Expr} {ia ib ic ie : IE} {pos p2 p : Pos}
theorem raises_x {C : Addr} (f : XcF X.K C) : Raises X (.ref C) := raises_own f.sb f.ty
/-- raise C('text') -/
theorem s_rse {x m : Str} {j k : Nat} (hc : X.calm = true) (tk : L2N.Takes X W) (hx : XcF X.K (g.cad k)) (hn : k < g.nec) (q : PySem.W.excIn X.K (g.cad k) He.veBase "ValueError.__new__" = true) (gC : X.mg x = some (.ref (g.cad k))) (hg : Gl X x) (hdb : (x == ("__debug__" : Str)) = false) {pos' : Pos} :
    PS X (.Raise (some (.Call (.Name x p) [.Constant (.str m) j p2] [] pos)) none pos') (tS g W pin fun σ => .exc ⟨k, none⟩ σ) :=
  (L2N.ps_raise hc tk (L2N.pmk_own F.excBase_ValueError q gC hx.kp (raises_x hx) hg hdb)).imp fun E σ H ⟨σd, F, Os, rel, k⟩ =>
    k σ _ none H F Os rel (PinEq.refl _ _) ⟨hn, rfl, trivial⟩ (Gr.refl _ _ _ _)
/-- the promise of an __init__ that keeps its argument in the one field f -/
def spI (K : PySem.W.Frag) (f : Str) : Sp := fun vs H Q _ => ∃ (r C : Addr) (y : V), vs = [.ref r, y] ∧ OexC K C ∧ PySem.W.findIn K (.ref C) f = some none ∧ H r = some (exo r C none) ∧
  ∀ dx, H dx = none → dx ≠ r → Q .non (upd (upd H dx (exd dx [(f, y)])) r (exo r C (some dx)))
/-- C(e): own __init__, nothing handled -/
theorem pmk_oexN {CX : CXT} {x : Str} {C fI : Addr} {k : Nat} {fd : FuncData} {ps : List Str} {sp : Sp} {es : List Expr} {ta : TA} (T : OexC X.K C) (iC : PySem.W.findIn X.K (.ref C) "__init__" = some (some (.ref fI))) (tI : PySem.W.typeIn X.K (.ref fI) = some (.type "function"))
    (F1 : FnOk X.prog X.w X.K X.mg X.base CX k fI fd ps sp) (hr : Room (k + 1) X.A) (hb : Binds X.K fd ps []) (hx : Passes CX X (fun _ _ _ => False)) (hg : Gl X x) (hm : X.mg x = some (.ref C)) (ha : PA X (e :: es) ta)
    (hdb : (x == ("__debug__" : Str)) = false) (he : starEach (e :: es) X.env = (false, eval e X.env) :: starEach es X.env) (hpl : (backTo pos (starEach es X.env)).any (·.1) = false) :
    L2N.PMk X (.Call (.Name x p) (e :: es) [] pos) (tMkO C sp [] ta) := by
  intro pins s σ H Q I h
  obtain ⟨nm, q, N, bs, bm, sn, sub, ab, col, dd, k0, k1, k2, k3, k5, hC, hbm⟩ := T.cls
  refine wpAny_Call_Name_kw (ld_glob I hg hm ?_ hdb)
  refine PySem.W.callWith_K (h₀ := X.base) I.ok.mod.kin T.kC ?_ he hpl
  refine thn (ha.run pos pins s σ H _ I h) fun us s1 ⟨vs, H1, I1, r1, hz, q1⟩ => ⟨I1.kIn, ?_⟩
  show wpAny _ _ (call (.ref C) us) _ _ _
  obtain ⟨hp, gs, dr, tk, os⟩ := s1
  have hq := q1 (hp.objs.size + 1) (I1.hok.fresh (Nat.le_succ _))
  have kk : ∀ b o, hp.get? b = some o → ((hp.push (PySem.W.kdv_tup us)).push (PySem.HandSPX.excO C hp.objs.size)).get? b = some o := fun b o z => Heap.get?_push_of_some _ (Heap.get?_push_of_some _ z)
  have I2 : Inv X pins σ (upd H1 (hp.objs.size + 1) (exo (hp.objs.size + 1) C none)) ⟨(hp.push (PySem.W.kdv_tup us)).push (PySem.HandSPX.excO C hp.objs.size), gs, dr, tk, os⟩ :=
    I1.laid (t' := tk) kk (Nat.le_succ _) (exo_ok (by heap_get))
  have r2 : Vals (V.ref (hp.objs.size + 1) :: (vs ++ [])) ((Value.ref (hp.objs.size + 1) :: us) ++ []) := .cons rfl (r1.append .nil)
  have hl : (Value.ref (hp.objs.size + 1) :: us ++ []).length = ps.length := (r2.length.symm.trans (F1.len _ _ _ _ hq))
  have hus : us.length ≤ sizeLine := by
    rw [← Paired.length r1, line_eq]
    omega
  refine wpAny_call (PySem.HandSPX.call_own F.excBase_ValueError (fun Y => PySem.HandSPX.refsVE_contains Y bm hbm) (I1.kIn _ _ hC) (PySem.W.looks_findIn I1.kIn iC) (fun self => PySem.W.bind_fn I1.kIn self tI) hus ?_)
  refine codeAny_mono (F1.run _ X.stack _ _ ⟨Value.ref (hp.objs.size + 1) :: us, []⟩ ((Value.ref (hp.objs.size + 1) :: us) ++ []) _ _ (fun _ _ _ => False) (hr.make C us []) (I2.env0.make C us []) (hb _ (Value.ref (hp.objs.size + 1) :: us) I2.kIn hl) r2 hq) fun r s' hq' => ?_
  cases r with
  | error er => exact hx pins σ _ _ er s' I2 hq'
  | ok fl =>
    cases fl with
    | ret u =>
      obtain ⟨v, H2, os2, bare2, un2, hok2, rv, ev, d, fs, ea, ed, hd1, q2⟩ := hq'
      subst ev
      obtain ⟨h2, g2, d2, t2, o2⟩ := s'
      obtain ⟨t0, G0, J, kG, ge, hoe, na⟩ := mk_end0 (d2 := d2) (t2 := t2) I1 (Nat.le_succ _) kk un2 hok2 os2 bare2 ea ed hd1
      refine ⟨rv, hp.objs.size + 1, _, _, ⟨G0, g2, d2, t2, o2⟩, _, .ref C, some d, rfl, J, kG, ge, hoe, ⟨rfl, rfl, fun vs hv => ?_⟩, rfl, rfl, na, rfl, bare2, raises_own T.exC T.tyC, q2⟩
      cases hv
      rfl
    | next => exact hq'.elim
    | brk => exact hq'.elim
    | cont => exact hq'.elim
/-- what leaves a made error: its dict alone is new -/
theorem made_eq {H1 : Hp} {r d C : Addr} {f : Str} {y : V} (hr : H1 r = none) (hd : (upd H1 r (exo r C none)) d = none) (hdr : d ≠ r) :
    upd (del (upd (upd (upd H1 r (exo r C none)) d (exd d [(f, y)])) r (exo r C (some d))) r) d (.xd [(f, y)]) = upd H1 d (.xd [(f, y)]) := by
  funext z
  by_cases hz : z = d
  · subst hz
    rw [upd_same, upd_same]
  · rw [upd_ne hz, upd_ne hz]
    by_cases hzr : z = r
    · subst hzr
      rw [del_same, hr]
    · rw [del_ne hzr, upd_ne hzr, upd_ne hz, upd_ne hzr]
/-- raise C(e), C's __init__ keeps its argument -/
theorem s_rsi {x : Str} {k f : Nat} {fI : Addr} {fd : FuncData} {ps : List Str} {CX : CXT} {pos' : Pos} (hc : X.calm = true) (tk : L2N.Takes X W) (hn : k < g.nec) (ox : OexC X.K (g.cad k)) (nf : PySem.W.findIn X.K (.ref (g.cad k)) (g.fnm f) = some none) (iC : PySem.W.findIn X.K (.ref (g.cad k)) "__init__" = some (some (.ref fI)))
    (tI : PySem.W.typeIn X.K (.ref fI) = some (.type "function")) (F1 : FnOk X.prog X.w X.K X.mg X.base CX 1 fI fd ps (spI X.K (g.fnm f))) (hr : Room 2 X.A) (hb : Binds X.K fd ps []) (hx : Passes CX X (fun _ _ _ => False)) (hg : Gl X x) (hm : X.mg x = some (.ref (g.cad k))) (hs : nStar e = true)
    (hdb : (x == ("__debug__" : Str)) = false) (he : PE X e (tE T G g W false ie)) : PS X (.Raise (some (.Call (.Name x p) [e] [] pos)) none pos') (tS g W pin fun σ => (evE T G ie σ).to fun x σ1 => (ofO (asI x) σ1).to fun i σ2 => .exc ⟨k, some (f, i)⟩ σ2) := by
  refine (L2N.ps_raise hc tk (pmk_oexN ox iC tI F1 hr hb hx hg hm (pa_cons he pa_nil (starEach_of hs [] X.env)) hdb (starEach_of hs [] X.env) rfl)).imp fun E σ H ⟨σd, F, Os, rel, k⟩ => ?_
  refine ⟨σd, F, Os, rel, KS.to k fun x σ1 v H1 F1 Os1 rel1 rx l1 gr1 k1 => ?_⟩
  obtain ⟨i, ei, k2⟩ := KS.ofO k1
  cases rx <;> first | (simp [asI] at ei; done) | skip
  cases ei
  refine ⟨by show 1 ≤ 1000; decide, fun r nr => ⟨r, g.cad _, .int _, rfl, ox, nf, upd_same, fun dx nd hne => ⟨rfl, dx, [(g.fnm f, .int _)], upd_same, by rw [upd_ne hne, upd_same], by rw [upd_ne hne] at nd; exact nd, ?_⟩⟩⟩
  show W _ _ σ _
  rw [made_eq nr nd hne]
  rw [upd_ne hne] at nd
  have xt := Ext.laid (o := .xd [(g.fnm f, .int i)]) rel1.le nd
  exact k2 σ _ _ _ _ Os1 (rel1.ext xt) (PinEq.refl _ _) ⟨hn, rfl, upd_same⟩ (xt.gr false)
/-- the __init__ that keeps its argument -/
theorem fn_ini {p : Program} {w : World} {K : PySem.W.Frag} {mg : Str → Option Value} {base : Heap} {CX : CXT} {nm q : Str} {params : Arguments} {s1 v1 f1 : Str} {sc : Scope} {fI : Addr} {fd : FuncData} {q1 q2 q3 q4 : Pos}
    (F : FunD K nm q params [.Assign [.Attribute (.Name s1 q1) f1 q2] (.Name v1 q3) q4] sc [] [] fI fd) (S : C8.scC [s1, v1] [s1, v1] sc = true) (h1 : (s1 == ("__debug__" : Str)) = false) (h2 : (s1 == ("__classdict__" : Str)) = false) (h3 : (v1 == ("__debug__" : Str)) = false) (h4 : (v1 == ("__classdict__" : Str)) = false)
    (v1s : visB0 sc s1 = true) (v2s : visB0 sc v1 = true) : FnOk p w K mg base CX 1 fI fd [s1, v1] (spI K f1) := by
  have S := C8.fnScope_by S
  refine F.ok (k := 0) S (fun vs H Q E ⟨r, C, y, e, _⟩ => by rw [e]; rfl) fun cdv A outer s H vs Q E hr ⟨r, C, y, e, ox, nf, hr', hd⟩ => ?_
  subst e
  refine ⟨_, pss_one (ps_ost (pe_var (i := 0) rfl (visB0_ok v1s) h1 h2) (pe_var (i := 1) rfl (visB0_ok v2s) h3 h4)), ?_⟩
  exact ⟨y, rfl, .ref r, rfl, r, C, rfl, ox, nf, .inl ⟨hr', hd⟩⟩
end
end JH

/-! JE2: the error that an except suite holds: isinstance, its field; try. -/
namespace JH
open PySem PySem.Spec PyProof.Rows L2
def SG.hot (g : SG) (a : Addr) (cls : Value) (dd : Option Addr) : SG := { g with hp := some (a, cls, dd) }
/-- the context holds the error that g tells of, and handles it -/
def HotG (g : SG) (X : Cx) : Prop := ∃ a cls dd oe, g.hp = some (a, cls, dd) ∧ (a, oe) ∈ X.pn ∧ X.A.handled = some (.ref a) ∧ L2N.Zn cls dd oe ∧ ∃ vs, oe.data = .fields vs
theorem HotG.hot {g : SG} {X : Cx} (h : HotG g X) : L2H.HotC X := by
  obtain ⟨a, cls, dd, oe, h1, h2, h3, h4, vs, h5⟩ := h
  exact ⟨(a, oe), ⟨h3, vs, h5, h4.2.2 vs h5⟩, h2⟩
section
variable {g : SG} {F F' H : Hp} {a : Addr} {cls : Value} {dd : Option Addr}
mutual
theorem RD.hot (hn : g.hp = none) : ∀ {d : D} {v : V}, RD g F d v → RD (g.hot a cls dd) F d v
  | _, _, .non => .non
  | _, _, .bl b => .bl b
  | _, _, .int i => .int i
  | _, _, .str s => .str s
  | _, _, .tup h z r => .tup h z (RDs.hot hn r)
  | _, _, .lst h z r => .lst h z (RDs.hot hn r)
  | _, _, .dk h z r => .dk h z (RDs.hot hn r)
  | _, _, .obj h z r => .obj h z (RDs.hot hn r)
  | _, _, .scr h z => .scr h z
  | _, _, .err h x => by rw [hn] at h; cases h
theorem RDs.hot (hn : g.hp = none) : ∀ {ds : List D} {vs : List V}, RDs g F ds vs → RDs (g.hot a cls dd) F ds vs
  | _, _, .nil => .nil
  | _, _, .cons h r => .cons (RD.hot hn h) (RDs.hot hn r)
end
theorem RD.flatR {g' : SG} {d : D} {v : V} (h : d.flatR = true) (r : RD g' F' d v) : RD g F d v := by
  cases r <;> first | (simp [D.flatR] at h; done) | constructor
def setO {α : Type} (σ : List α) (s : Option Nat) (x : α) : List α := match s with
  | some i => σ.set i x
  | none => σ
theorem Rel.hot {σd : Env} {σ : L2.St} {Os : Nat → Addr → Prop} {s : Option Nat} {e : EX} (hn : g.hp = none) (rel : Rel g H F σd σ Os) (rx : RX g F e cls dd) : Rel (g.hot a cls dd) H F (hotEnv σd s e) (setO σ s (some (.ref a))) (fun _ _ => False) := by
  have base : ∀ {j : Nat} {m : M}, (σd.map dataO)[j]? = some (some m) → ∃ v, σ[j]? = some (some v) ∧ RM (g.hot a cls dd) H F m v (fun _ => False) := fun {j m} q => by
    rw [List.getElem?_map] at q
    obtain ⟨o, q1, q2⟩ := Option.map_eq_some_iff.mp q
    cases o with
    | none => cases q2
    | some m0 =>
      cases m0 <;> first | (cases q2; done) | skip
      cases q2
      obtain ⟨v, hv, r⟩ := rel.sl j _ q1
      cases r with
      | d r => exact ⟨v, hv, .d (r.hot hn)⟩
  refine ⟨rel.le, ?_, fun j m q => ?_, fun _ _ _ z => z.elim, fun _ _ z => z.elim, fun _ _ z => z.elim⟩
  · cases s <;> simp [hotEnv, setO, rel.len]
  · cases s with
    | none => exact base q
    | some i =>
      have q : ((σd.map dataO).set i (some (.d (.err e))))[j]? = some (some m) := q
      show ∃ v, (σ.set i (some (.ref a)))[j]? = some (some v) ∧ _
      by_cases hj : j = i
      · subst hj
        have hl : j < σd.length := by
          have := (List.getElem?_eq_some_iff.mp q).1
          simpa using this
        rw [List.getElem?_set_self (by simpa using hl)] at q
        cases q
        exact ⟨.ref a, List.getElem?_set_self (by rw [← rel.len]; exact hl), .d (.err rfl rx)⟩
      · rw [List.getElem?_set_ne (Ne.symm hj)] at q
        obtain ⟨v, h1, h2⟩ := base q
        exact ⟨v, by rw [List.getElem?_set_ne (Ne.symm hj)]; exact h1, h2⟩
end
section
variable {T : Tab} {G : Nat → Option D} {g : SG} {W : WX} {pu : Bool} {pin : List Nat} {X : Cx} {a b c e : Expr} {ia ib ic ie : IE} {pos p2 p : Pos}
/-- the held error's object -/
theorem err_inst {pins : List (Addr × Obj)} {σ : L2.St} {H F : Hp} {s : Shared} {v : V} {x : EX} (hot : HotG g X ∨ g.hp = none) (I : Inv X pins σ H s) (le : LeH F H) (r : RD g F (.err x) v) :
    ∃ r0 oe od, v = .ref r0 ∧ PySem.W.InstAt s.heap r0 oe (g.cad x.c) od ∧ x.c < g.nec ∧ ∀ f i, x.x = some (f, i) → ∃ u t, od = some u ∧ PySem.W.lookIn (g.fnm f) u = some (some (.int i t)) := by
  rcases hot with hot | hot
  case inr =>
    cases r with
    | err k rx => rw [hot] at k; cases k
  obtain ⟨r0, cls, dd, oe, h1, h2, h3, h4, vs, h5⟩ := hot
  cases r with
  | err k rx =>
    rw [h1] at k
    cases k
    obtain ⟨n1, n2, n3⟩ := rx
    have P1 := (I.pin (r0, oe) (List.mem_append_left _ h2)).1
    obtain ⟨z1, z2, z3⟩ := h4
    have nc : PySem.W.notCls oe = true := by unfold PySem.W.notCls; rw [h5]
    cases dd with
    | none =>
      refine ⟨r0, oe, none, rfl, ⟨P1, z1.trans n2, nc, by rw [z2]; trivial⟩, n1, fun f i q => ?_⟩
      rw [q] at n3
      exact n3.elim
    | some d =>
      cases hx : x.x with
      | none => rw [hx] at n3; exact n3.elim
      | some fi =>
        obtain ⟨f, i⟩ := fi
        rw [hx] at n3
        obtain ⟨mA, hns, hr⟩ := (show ObjOk X.prog X.w H s.heap d (.xd [(g.fnm f, .int i)]) from I.hok d _ (le _ _ n3))
        obtain ⟨od, ho, hl⟩ := lookIn_ns hns
        refine ⟨r0, oe, some od, rfl, ⟨P1, z1.trans n2, nc, by rw [z2]; exact ho⟩, n1, fun f' i' q => ?_⟩
        cases q
        have hr := hr (g.fnm f)
        rw [lookup_put, if_pos rfl] at hr
        cases hm : mA (g.fnm f) with
        | none => rw [hm] at hr; exact hr.elim
        | some u =>
          rw [hm] at hr
          obtain ⟨t, rfl⟩ := (show ∃ t, u = Value.int i t from hr)
          exact ⟨od, t, rfl, by rw [hl, hm]⟩
/-- isinstance(e, C), e the held error -/
theorem f_isc (hot : HotG g X ∨ g.hp = none) : CallR X (.builtin "isinstance") (fun xs H Q => ∃ x cv cw F e r, xs = [x, cv] ∧ ClsV cv cw ∧ LeH F H ∧ RD g F (.err e) x ∧ (e.c < g.nec → XcF X.K (g.cad e.c) ∧ PySem.W.kitOne X.K (.ref (g.cad e.c)) cw = some r) ∧ Q (.bl r) H) := by
  intro pins s σ H xs us Q I r h
  obtain ⟨x, cv, cw, F, e, b, rfl, k, le, rx, hx, q⟩ := h
  obtain ⟨u1, u2, rfl, r1, r2⟩ := vals2 r
  have e2 := k.eq r2
  subst e2
  obtain ⟨r0, oe, od, rfl, J, n1, _⟩ := err_inst hot I le rx
  obtain ⟨f, hk⟩ := hx n1
  obtain rfl : u1 = Value.ref r0 := r1
  exact PySem.W.kia_one (PySem.W.kitx_exc f.cl f.ga f.gt f.sb f.cc f.sp f.tk f.mr) I.kIn J hk (fun z => nomatch z) fun tk => ⟨.bl b, H, I.tok tk, rfl, q⟩
theorem e_isc {z : Str} {cv : V} {cw : Value} {l : List Nat} (hot : HotG g X ∨ g.hp = none) (hx : ∀ i, i < g.nec → XcF X.K (g.cad i) ∧ PySem.W.kitOne X.K (.ref (g.cad i)) cw = some (l.contains i)) (pz : PE X (.Name z p2) (tC cv)) (cz : ClsV cv cw) (hg : Gl X "isinstance") (hm : X.mg "isinstance" = none) (hs : nStar a = true)
    (ha : PE X a (tE T G g W pu ia)) : PE X (.Call (.Name "isinstance" p) [a, .Name z p2] [] pos) (tE T G g W pu (.isc ia l)) := by
  have hs' := starEach_of hs [.Name z p2] X.env
  refine (pe_callB (f_isc hot) hg hm (by decide +kernel) (pa_cons ha (pa_cons pz pa_nil) hs') (by decide) (by decide) hs' rfl).imp fun σ H Q ⟨σd, F, Os, rel, k⟩ => ?_
  simp only [evE] at k
  refine ⟨σd, F, Os, rel, KE.bind k fun x σ1 v H1 F1 Os1 rel1 rx l1 gr1 k1 => ?_⟩
  obtain ⟨d, ed, q⟩ := KE.ofO k1
  obtain ⟨er, e1, rfl⟩ := Option.map_eq_some_iff.mp ed
  have ex : x = .err er := by
    unfold errOf at e1
    split at e1
    · cases e1; rfl
    · cases e1
  subst ex
  exact ⟨v, cv, cw, F1, er, _, rfl, cz, rel1.le, rx, fun hn => hx _ hn, q _ _ _ _ rel1 (.bl _) (Gr.refl pu _ _ _)⟩
/-- e.f -/
def tEf (g : SG) (k : Nat) (ta : TE) : TE := fun σ H Q => ta σ H fun v H1 => ∃ F x i, LeH F H1 ∧ RD g F (.err x) v ∧ x.x = some (k, i) ∧ Q (.int i) H1
theorem pe_ef {f : Str} {k : Nat} {ta : TE} (hot : HotG g X ∨ g.hp = none) (hf : g.fnm k = f) (hx : ∀ i, i < g.nec → XcF X.K (g.cad i)) (hd : ∀ i, i < g.nec → PySem.W.hasDictIn X.K (g.cad i) = true ∧ PySem.W.findIn X.K (.ref (g.cad i)) f = some none) (hb : pBase a = true) (ha : PE X a ta) :
    PE X (.Attribute a f pos) (tEf g k ta) := by
  refine ⟨fun pins s σ H Q I h => attr_of (base_of hb f X.env _) (thn (ha.run pins s σ H _ I h) fun u s1 ⟨v, H1, I1, rv, F, x, i, le, rx, ex, q⟩ => ?_)⟩
  obtain ⟨r0, oe, od, rfl, J, n1, hl⟩ := err_inst hot I1 le rx
  obtain ⟨w, t, rfl, hl2⟩ := hl k i ex
  rw [hf] at hl2
  obtain rfl : u = Value.ref r0 := rv
  have fx := hx _ n1
  exact HandSPX.exc_get I1.kIn J fx.ga fx.gt fx.sb (PySem.W.findObj_own (hd _ n1).1 (hd _ n1).2 rfl hl2) rfl ⟨.int i, H1, I1.tok _, ⟨t, rfl⟩, q⟩
theorem e_ef {f : Str} {k : Nat} (hot : HotG g X ∨ g.hp = none) (hf : g.fnm k = f) (hx : ∀ i, i < g.nec → XcF X.K (g.cad i)) (hd : ∀ i, i < g.nec → PySem.W.hasDictIn X.K (g.cad i) = true ∧ PySem.W.findIn X.K (.ref (g.cad i)) f = some none) (hb : pBase a = true) (ha : PE X a (tE T G g W pu ia)) :
    PE X (.Attribute a f pos) (tE T G g W pu (.ef ia k)) :=
  (pe_ef hot hf hx hd hb ha).imp fun σ H Q ⟨σd, F, Os, rel, h⟩ => by
    simp only [evE] at h
    refine ⟨σd, F, Os, rel, KE.bind h fun x σ1 v H1 F1 Os1 rel1 rx l1 gr1 k1 => ?_⟩
    obtain ⟨d, ed, q⟩ := KE.ofO k1
    obtain ⟨er, e1, e2⟩ := Option.bind_eq_some_iff.mp ed
    have ex : x = .err er := by
      unfold errOf at e1
      split at e1
      · cases e1; rfl
      · cases e1
    subst ex
    unfold efOf at e2
    split at e2
    · rename_i g0 i hgi
      split at e2
      · rename_i hg0
        subst hg0
        cases e2
        exact ⟨F1, er, i, rel1.le, rx, hgi, q _ _ _ _ rel1 (.int i) (Gr.refl pu _ _ _)⟩
      · cases e2
    · cases e2
/-! ### try -/
/-- what the suite does to the rest -/
theorem suite_KS {h : Env → SR} {s : Option Nat} {x : EX} {σ σ' : L2.St} {σ1 : Env} {H F H' F' : Hp} {O : Addr → Prop} {Os' : Nat → Addr → Prop} {E E' : Ends} {r0 : Addr} {cls : Value} {dd : Option Addr} (hrt : ∀ v H, E.rt v H → E'.rt v H) (hn : g.hp = none)
    (k : KS g W pin σ H F O E (match h (hotEnv σ1 s x) with
      | .ret d _ => if d.flatR = true then .ret d (backE σ1 s) else .stuck
      | _ => .stuck)) (rel : Rel g H' F' σ1 σ' Os') (pq : PinEq pin σ σ') (rx : RX g F' x cls dd) (gr : Gr false H F O H' F' (Own Os')) :
    tS (g.hot r0 cls dd) (fun _ _ _ _ => False) [] h E' (setO σ' s (some (.ref r0))) H' := by
  refine ⟨hotEnv σ1 s x, F', fun _ _ => False, rel.hot hn rx, ?_⟩
  cases e : h (hotEnv σ1 s x) with
  | ret d σ2 =>
    rw [e] at k
    intro σ'' v H'' F'' Os'' rel2 _ rd gr2
    simp only at k
    split at k
    · rename_i hfl
      have keep : ∀ a o, H' a = some o → H'' a = some o := fun a o z => gr2.fr a o z fun q => q.2.elim fun _ q => q.elim
      refine hrt _ _ (k σ' v H'' F' Os' ⟨fun a o z => keep a o (rel.le a o z), ?_, fun j m z => ?_, rel.dj, rel.nf, fun j a z => ?_⟩ pq (rd.flatR hfl) ⟨gr.ff, fun a o z n => keep a o (gr.fr a o z n), fun a z => ?_, gr.ow, gr.fz⟩)
      · cases s <;> simp [backE, rel.len]
      · have z' : σ1[j]? = some (some m) := by
          cases s with
          | none => exact z
          | some i =>
            have z : (σ1.set i none)[j]? = some (some m) := z
            by_cases hj : j = i
            · subst hj
              rw [List.getElem?_set_self (by have := (List.getElem?_eq_some_iff.mp z).1; simpa using this)] at z
              cases z
            · rw [List.getElem?_set_ne (Ne.symm hj)] at z
              exact z
        obtain ⟨v', e1, r⟩ := rel.sl j m z'
        exact ⟨v', e1, r.frame (LeH.refl F') fun a o _ z => keep a o z⟩
      · have := rel.al j a z
        cases q : H' a with
        | none => exact absurd q this
        | some o => rw [keep a o q]; simp
      · have := gr.al a z
        cases q : H' a with
        | none => exact absurd q this
        | some o => rw [keep a o q]; simp
    · exact k.elim
  | _ => rw [e] at k; exact k.elim
theorem try_as {h : Env → SR} {i : Nat} {l : List Nat} {r : SR} {cv : Value} {σ : L2.St} {H F : Hp} {O : Addr → Prop} {E : Ends} (hK : X.K = g.K) (hn : g.hp = none) (hx : ∀ j, j < g.nec → PySem.W.exmOne X.K (.ref (g.cad j)) cv = some (l.contains j)) (k : KS g W pin σ H F O E (tryR r l (some i) h)) :
    KS g (wAs X.K cv i (fun a cls dd => tS (g.hot a cls dd) (fun _ _ _ _ => False) [] h) W E) pin σ H F O E r := by
  cases r with
  | exc x σ1 =>
    intro σ' cls dd H' F' Os' rel pq rx gr
    refine ⟨l.contains x.c, by rw [rx.2.1]; exact hx _ rx.1, fun hb a _ => ?_, fun hb => ?_⟩
    · simp only [tryR] at k
      rw [if_pos hb] at k
      refine suite_KS (s := some i) ?_ hn k rel pq rx gr
      exact fun _ _ z => z
    · simp only [tryR] at k
      rw [if_neg (by rw [hb]; decide)] at k
      exact k σ' cls dd H' F' Os' rel pq rx gr
  | _ => exact k
theorem try_only {h : Env → SR} {l : List Nat} {r : SR} {cv : Value} {σ : L2.St} {H F : Hp} {O : Addr → Prop} {E : Ends} (hK : X.K = g.K) (hn : g.hp = none) (hx : ∀ j, j < g.nec → PySem.W.exmOne X.K (.ref (g.cad j)) cv = some (l.contains j)) (k : KS g W pin σ H F O E (tryR r l none h)) :
    KS g (wMany X.K W E [(cv, fun a cls dd => tS (g.hot a cls dd) (fun _ _ _ _ => False) [] h)]) pin σ H F O E r := by
  cases r with
  | exc x σ1 =>
    intro σ' cls dd H' F' Os' rel pq rx gr
    refine ⟨l.contains x.c, by rw [rx.2.1]; exact hx _ rx.1, fun hb a _ => ?_, fun hb => ?_⟩
    · simp only [tryR] at k
      rw [if_pos hb] at k
      exact suite_KS (fun _ _ z => z) hn k rel pq rx gr
    · simp only [tryR] at k
      rw [if_neg (by rw [hb]; decide)] at k
      exact k σ' cls dd H' F' Os' rel pq rx gr
  | _ => exact k
section
variable {x n : Str} {cv : Value} {i : Nat} {l : List Nat} {body suite : List Stmt} {b₀ : Stmt} {np pos' : Pos} {f h : Env → SR}
/-- try .. except C as n: .. -/
theorem s_tryAs (hs : X.stack = X.env :: X.outer) (hf : X.env.frame = some X.env.locals) (hN : X.N.Nodup) (hi : X.N[i]? = some n) (hln : X.env.kindOf n = some .local) (hc : Names X x cv) (tk : L2N.Takes X W) (hK : X.K = g.K) (hn : g.hp = none)
    (hx : ∀ j, j < g.nec → PySem.W.exmOne X.K (.ref (g.cad j)) cv = some (l.contains j))
    (hb : ∀ (W : WX) (pn : List (Addr × Obj)) (xe : Value → Shared → Prop), L2N.Takes (X.tr pn xe) W → PassesOwn (model X.prog X.w) X.A X.env xe → PSs (X.tr pn xe) body (tS g W pin f))
    (hsu : ∀ (a : Addr) (oe : Obj) (cls : Value) (d : Option Addr) (pn : List (Addr × Obj)), L2N.Zn cls d oe → (∃ vs, oe.data = .fields vs) → PSs (X.suite a ((a, oe) :: pn)) (b₀ :: suite) (tS (g.hot a cls d) (fun _ _ _ _ => False) [] h)) :
    PS X (.Try body [.ExceptHandler (some (.Name x np)) (some n) (b₀ :: suite) pos'] [] [] pos) (tS g W pin fun σ => tryR (f σ) l (some i) h) :=
  (L2N.ps_try_as hs hf hN hi hln hc tk hb hsu).imp fun E σ H ⟨σd, F, Os, rel, k⟩ => ⟨σd, F, Os, rel, try_as hK hn hx k⟩
/-- try .. except C: .. -/
theorem s_tryOnly (hs : X.stack = X.env :: X.outer) (hf : X.env.frame = some X.env.locals) (hc : Names X x cv) (tk : L2N.Takes X W) (hK : X.K = g.K) (hn : g.hp = none)
    (hx : ∀ j, j < g.nec → PySem.W.exmOne X.K (.ref (g.cad j)) cv = some (l.contains j))
    (hb : ∀ (W : WX) (pn : List (Addr × Obj)) (xe : Value → Shared → Prop), L2N.Takes (X.tr pn xe) W → PassesOwn (model X.prog X.w) X.A X.env xe → PSs (X.tr pn xe) body (tS g W pin f))
    (hsu : ∀ (a : Addr) (oe : Obj) (cls : Value) (d : Option Addr) (pn : List (Addr × Obj)), L2N.Zn cls d oe → (∃ vs, oe.data = .fields vs) → PSs (X.suite a ((a, oe) :: pn)) (b₀ :: suite) (tS (g.hot a cls d) (fun _ _ _ _ => False) [] h)) :
    PS X (.Try body [.ExceptHandler (some (.Name x np)) none (b₀ :: suite) pos'] [] [] pos) (tS g W pin fun σ => tryR (f σ) l none h) :=
  (L2N.ps_try_many hs hf tk hb (.cons hc hsu .nil)).imp fun E σ H ⟨σd, F, Os, rel, k⟩ => ⟨σd, F, Os, rel, try_only hK hn hx k⟩
end
end
end JH

/-! JE3: while an error is handled: defs called there, a comprehension there. -/
namespace JH
open PySem PySem.Spec PyProof.Rows L2
/-- what a def promises where the error that Z tells of is handled -/
structure FnP (Z : Addr × Obj → Prop) (P : Program) (w : World) (K : PySem.W.Frag) (mg : Str → Option Value) (base : Heap) (CX : CXT) (k : Nat) (f : Addr) (fd : FuncData) (ps : List Str) (sp : Sp) : Prop where
  len : ∀ vs H Q E, sp vs H Q E → vs.length = ps.length
  run : ∀ (A : Around) (outer : List PySem.Env) (s : Shared) (H : Hp) (args : Args) (us : List Value) (vs : List V) (Q : VK) (E : XK) (p : Addr × Obj), Z p → L2H.RoomH k A → L2H.Hot1 A p → L2H.PinOk outer H s p → Env0 P w K mg base A outer s H →
    BindsTo s fd args (ps.zip us) → Vals vs us → sp vs H Q E → codeAny (model P w) A (.call (.ref f) args) (L2.CR CX outer P w H s Q E) s
theorem fn_ofP {Z : Addr × Obj → Prop} {CX : CXT} {P : Program} {w : World} {K : PySem.W.Frag} {mg : Str → Option Value} {base : Heap} {k : Nat} {f : Addr} {fd : FuncData} {x qual : Str} {params : Arguments} {body : List Stmt} {scope : Scope} {dvs : List V} {kws : List (Str × V)} {N ps : List Str} {sp : Sp}
    (F : FunD K x qual params body scope dvs kws f fd) (S : FnScope N ps scope) (len : ∀ vs H Q E, sp vs H Q E → vs.length = ps.length)
    (hbody : ∀ (cdv : Value) (A : Around) (outer : List PySem.Env) (s : Shared) (H : Hp) (vs : List V) (Q : VK) (E : XK) (p : Addr × Obj), Z p → L2H.Hot1 A p → L2H.RoomH k (A.deeper (envOfC qual scope s.heap.objs.size f cdv)) → sp vs H Q E →
      ∃ t, PSs (L2H.cxH CX P w K mg base N qual scope f cdv A outer s H E p) body t ∧ t { nx := fun _ H' => Q .non H', rt := Q } (L2.start N vs) H) : FnP Z P w K mg base CX (k + 1) f fd ps sp := by
  obtain ⟨oc, od, dV, kV, doc, pm, an, cdv, ct, osl, rfl, lk, hcd, _, _⟩ := F.ex
  constructor
  · exact len
  intro A outer s H args us vs Q E p z hr hot pin e0 hb r hsp
  have kin : K.In s.heap := e0.mod.kin.keeps fun b o e => (e0.bs b o e).1
  have loc : ∀ y ∈ ps.zip us, scope.names.lookup y.1 = some .local ∨ (scope.names.lookup y.1 = some .cell ∧ ((cellsFrom (s.heap.objs.size + 1) scope.names []).lookup y.1).isSome = true) := by
    rintro ⟨n, v⟩ hy
    cases S.par n (List.of_mem_zip hy).1 with
    | inl q => exact .inl q
    | inr q => exact .inr ⟨q, PySem.W.cellsFrom_some _ _ _ (.inl q)⟩
  refine codeAny_call_function hr.depth (kin _ _ lk) rfl S.co S.gen rfl (PySem.W.codeRec_of kin hcd) ?_
  refine hb _ _ _ _ (wpAny_newFunctionEnv_cells S.kind loc fun env he s1 ic => ?_)
  subst he
  refine ⟨(e0.mod.nolimit.keeps fun b o e => (e0.bs b o e).1).keeps ic.toInCall.keep, codeAny_func ?_⟩
  obtain ⟨t, ht, hq⟩ := hbody cdv A outer s H vs Q E p z hot (hr.deeper _) hsp
  refine wpAny_mono (ht.run [] s1 (L2.start N vs) H _ (L2H.inv_startH S pin e0 (len _ _ _ _ hsp) r ic) hq) (fun fl s' e => ?_) fun _ _ e => e
  cases fl with
  | next =>
    obtain ⟨σ', H', J, q⟩ := e
    exact ⟨.non, H', J.os, J.bare, J.base, J.hok, rfl, q⟩
  | ret u =>
    obtain ⟨v, σ', H', J, rv, q⟩ := e
    exact ⟨v, H', J.os, J.bare, J.base, J.hok, rv, q⟩
  | brk => exact e.elim fun _ e => e.elim fun _ e => e.2.elim
  | cont => exact e.elim fun _ e => e.elim fun _ e => e.2.elim
/-- the errors that g tells of -/
def ZG (g : SG) (p : Addr × Obj) : Prop := ∃ cls dd, g.hp = some (p.1, cls, dd) ∧ L2N.Zn cls dd p.2 ∧ ∃ vs, p.2.data = .fields vs
section
variable {T : Tab} {G : Nat → Option D} {g : SG} {W : WX} {pu : Bool} {X : Cx} {a b c e : Expr} {ia ib ic r : IE} {es : List Expr} {pos p2 p : Pos}
theorem HotG.pin (h : HotG g X) : ∃ q : Addr × Obj, ZG g q ∧ L2H.Hot1 X.A q ∧ q ∈ X.pn := by
  obtain ⟨a, cls, dd, oe, h1, h2, h3, h4, vs, h5⟩ := h
  exact ⟨(a, oe), ⟨cls, dd, h1, h4, vs, h5⟩, ⟨h3, vs, h5, h4.2.2 vs h5⟩, h2⟩
theorem hotG_of {q : Addr × Obj} (z : ZG g q) (h : L2H.Hot1 X.A q) (m : q ∈ X.pn) : HotG g X := by
  obtain ⟨cls, dd, h1, h4, h5⟩ := z
  exact ⟨q.1, cls, dd, q.2, h1, m, h.1, h4, h5⟩
theorem run_fnP {k : Nat} {f : Addr} {fd : FuncData} {ps : List Str} {sp : Sp} {E : L2.St → XK} {CX : CXT} {pins : List (Addr × Obj)} {σ : L2.St} {H : Hp} {s : Shared} {Q : VK} {us : List Value} {vs : List V} (F : FnP (ZG g) X.prog X.w X.K X.mg X.base CX k f fd ps sp) (hr : L2H.RoomH k X.A) (hc : HotG g X) (hb : L2.Binds X.K fd ps [])
    (hx : PassesAt CX X σ (E σ)) (I : Inv X pins σ H s) (r : Vals vs us) (h : sp vs H Q (E σ)) : wpAny (model X.prog X.w) X.A (call (.ref f) us) (EP X pins σ Q) X.xe s := by
  obtain ⟨q, z, hot, hq⟩ := hc.pin
  have hl : us.length = ps.length := r.length.symm.trans (F.len _ _ _ _ h)
  have bt := hb s us I.kIn (by rw [List.append_nil]; exact hl)
  rw [List.append_nil] at bt
  obtain ⟨g1, g2, g3, g4, g5⟩ := I.pin q (List.mem_append_left _ hq)
  have pin : L2H.PinOk X.stack H s q := ⟨g1, g2, fun hm => by
    rcases List.mem_cons.mp (I.stkSub q.1 hm) with w | w
    · exact g3 w
    · exact g4 w, g5⟩
  refine wpAny_call (codeAny_mono (F.run X.A X.stack s H ⟨us, []⟩ us vs Q (E σ) q z hr hot pin I.env0 bt r h) fun res s' he => ?_)
  rcases res with er | fl
  · exact hx pins H s er s' I he
  · rcases fl with _ | _ | _ | u
    all_goals first | exact he.elim | exact I.after he
theorem pe_callP {k : Nat} {f : Addr} {fd : FuncData} {ps : List Str} {sp : Sp} {E : L2.St → XK} {CX : CXT} {x : Str} {t : TA} (F : FnP (ZG g) X.prog X.w X.K X.mg X.base CX k f fd ps sp) (hr : L2H.RoomH k X.A) (hc : HotG g X) (hg : Gl X x) (hm : X.mg x = some (.ref f)) (hk : PySem.W.keepIn X.K (.ref f) = true) (hb : L2.Binds X.K fd ps [])
    (hx : ∀ σ, PassesAt CX X σ (E σ)) (ha : PA X (e :: es) t) (hdb : (x == ("__debug__" : Str)) = false) (he : starEach (e :: es) X.env = (false, eval e X.env) :: starEach es X.env) (hpl : (backTo pos (starEach es X.env)).any (·.1) = false) : PE X (.Call (.Name x p) (e :: es) [] pos) (tCallS sp E t) :=
  ⟨fun pins s σ H Q I h => wpAny_Call_Name_kw (ld_glob I hg hm (PySem.W.callWith_K (h₀ := X.base) I.ok.mod.kin hk (thn (ha.run pos pins s σ H _ I h) fun us s1 ⟨vs, H1, I1, r, q⟩ => ⟨I1.kIn, run_fnP F hr hc hb (hx σ) I1 r q⟩) he hpl) hdb)⟩
theorem e_callP {k f : Nat} {ad : Addr} {fd : FuncData} {ps : List Str} {x : Str} (F : FnP (ZG g) X.prog X.w X.K X.mg X.base (L2N.CX X.prog X.w) k ad fd ps (spF g T f)) (hr : L2H.RoomH k X.A) (hc : HotG g X) (hg : Gl X x) (hm : X.mg x = some (.ref ad)) (hk : PySem.W.keepIn X.K (.ref ad) = true)
    (hb : L2.Binds X.K fd ps []) (tk : L2N.Takes X W) (hs : nStar a = true) (hss : es.all nStar = true) (hdb : (x == ("__debug__" : Str)) = false) (hp : pu = true → r.noM = true) (ha : PA X (a :: es) (tAr T G g W pu r)) :
    PE X (.Call (.Name x p) (a :: es) [] pos) (tE T G g W pu (.call f r)) :=
  (pe_callP F hr hc hg hm hk hb (fun σ => L2N.passAt tk σ) ha hdb (starEach_of hs es X.env) (noStars _ _ _ hss)).imp fun σ H Q ⟨σd, F, Os, rel, k⟩ => by
    simp only [evE] at k
    refine ⟨σd, F, Os, rel, KE.bindE k fun avs σ1 vs H1 F1 Os1 e rel1 ra l1 gr1 k1 => ?_⟩
    exact call_fin rel1 ra (fun h => evA_noM _ _ _ _ (hp h) e) k1
end
/-! ### a comprehension -/
section
variable {X : Cx}
theorem pe_lcH {elt tg iter : Expr} {ifs : List Expr} {scope : Scope} {own : List (Str × Nat)} {pos : Pos} {wi : TI} {g : TG} {tt : TT} {te : TE} (hot : L2H.HotC X) (hN : X.N.Nodup) (hi : L2H.PIH X tg iter wi) (ok : BlkOk X.N X.env.scope scope own)
    (hg : ∀ (s : Shared) (H : Hp) (C : Addr) (cl : List (Str × Addr)) (fp : List Addr), PG (X.blk s H scope (compEnvC scope cl C X.env) fp) tg g) (ht : ∀ (s : Shared) (H : Hp) (C : Addr) (cl : List (Str × Addr)) (fp : List Addr), PTs (X.blk s H scope (compEnvC scope cl C X.env) fp) ifs tt)
    (he : ∀ (s : Shared) (H : Hp) (C : Addr) (cl : List (Str × Addr)) (fp : List Addr), PE (X.blk s H scope (compEnvC scope cl C X.env) fp) elt te) (hs : ∀ x, foldedSetIterable iter X.env x = pure x) :
    PE X (.ListComp elt [⟨tg, iter, ifs, 0⟩] scope pos) (tLc wi g tt te (own.map (·.2))) := by
  refine ⟨fun pins s σ H Q I h => ?_⟩
  rw [eval_ListComp]
  obtain ⟨p, hot1, hpn⟩ := hot
  have hfree : ∀ y ∈ scope.names, y.2 = .free → ∃ c, X.env.cells.lookup y.1 = some c := by
    intro y hy e
    cases ok.free y hy e with
    | inl k => exact I.ok.has _ (.inl k)
    | inr k => exact I.ok.has _ (.inr k)
  refine wpAny_comprehension_free (use := none) rfl hs (closure_ok hfree) ok.kind (fun y hy e => by rw [ok.uniq y hy, e]) ?_
  refine thn (hi.run pins s σ H _ I h) fun xv s1 hx => thn hx fun itv s2 h2 => ?_
  obtain ⟨it, fp, tn, J, H2, rfl, I2, T, st2, f2, q⟩ := h2
  refine wpAny_newObj_type (newEnv_comp ?_) (by show 0 ≤ sizeLine; decide)
  generalize hD : s2.heap.objs.size = D
  obtain ⟨W, ⟨m0, w0⟩, turn⟩ := q D (I2.hok.fresh (Nat.le_of_eq hD))
  generalize hs3 : ({ s2 with heap := s2.heap.push { cls := .type "list", data := .seq ([] : List Value).toArray } } : Shared) = s3
  have h3 : s3.heap = s2.heap.push { cls := .type "list", data := .seq ([] : List Value).toArray } := by rw [← hs3]
  have I3 : Inv X pins σ (upd H2 D (.lst [])) s3 := by
    rw [← hs3]
    exact I2.laid (t' := s2.toks) (fun b o e => Heap.get?_push_of_some _ e) (Nat.le_of_eq hD) ⟨Nat.zero_le _, [], 0, .nil, by rw [← hD]; exact Heap.get?_push_size _ rfl⟩
  have f3 : ∀ b ∈ fp, FpOk X pins (upd H2 D (.lst [])) b ∧ b < s3.heap.objs.size := fun b hb => by
    obtain ⟨o, e, _⟩ := T.obj _ _ st2 b hb
    have hlt := Heap.lt_size e
    exact ⟨⟨(upd_ne (show b ≠ D by rw [← hD]; exact Nat.ne_of_lt hlt)).trans (f2 b hb).1, (f2 b hb).2⟩, by rw [h3, Heap.size_push]; exact Nat.lt_succ_of_lt hlt⟩
  have st3 : tn 0 s3.heap := T.keep _ _ _ st2 fun b _ o e => by rw [h3]; exact Heap.get?_push_of_some _ e
  obtain ⟨p1, p2, p3, p4, p5⟩ := I3.pin p (List.mem_append_left _ hpn)
  have pS : p.1 ∉ frs X.stack := fun hm => by
    rcases List.mem_cons.mp (I3.stkSub p.1 hm) with w | w
    · exact p3 w
    · exact p4 w
  have I4 := block_start I3 ok hN f3
  have pg := hg s3 (upd H2 D (.lst [])) s3.heap.objs.size (cellsFrom (s3.heap.objs.size + 1) scope.names (cloFrom X.env.cells scope.names [])) fp
  have pt := ht s3 (upd H2 D (.lst [])) s3.heap.objs.size (cellsFrom (s3.heap.objs.size + 1) scope.names (cloFrom X.env.cells scope.names [])) fp
  have pe := he s3 (upd H2 D (.lst [])) s3.heap.objs.size (cellsFrom (s3.heap.objs.size + 1) scope.names (cloFrom X.env.cells scope.names [])) fp
  show codeAny _ _ (.compStart (.ListComp elt [⟨tg, iter, ifs, 0⟩] scope pos) 0 (.ref it) (.ref D) (compEnvC scope (cellsFrom (s3.heap.objs.size + 1) scope.names (cloFrom X.env.cells scope.names [])) s3.heap.objs.size X.env)) (compPost (model X.prog X.w) X.A X.xe none (EP X pins σ Q) (.ref D) s3.heap.objs.size) { s3 with heap := pushCells (s3.heap.push { cls := .type "dict", data := .dict #[] }) scope.names }
  have nfp : ∀ b ∈ fp, (upd H2 D (.lst [])) b = none := fun b hb => (f3 b hb).1.1
  generalize hce : compEnvC scope (cellsFrom (s3.heap.objs.size + 1) scope.names (cloFrom X.env.cells scope.names [])) s3.heap.objs.size X.env = ce at I4 pg pt pe ⊢
  have cL : ce.locals = s3.heap.objs.size := by subst hce; rfl
  generalize hH3 : upd H2 D (.lst []) = H3 at I3 I4 pg pt pe w0 nfp f3 p2
  have up4 : ∀ b o, s3.heap.get? b = some o → (pushCells (s3.heap.push { cls := .type "dict", data := .dict #[] }) scope.names).get? b = some o := fun b o e => pushCells_keeps _ _ _ _ (Heap.get?_push_of_some _ e)
  generalize hs4 : ({ s3 with heap := pushCells (s3.heap.push { cls := .type "dict", data := .dict #[] }) scope.names } : Shared) = s4 at I4 ⊢
  have up4 : ∀ b o, s3.heap.get? b = some o → s4.heap.get? b = some o := by rw [← hs4]; exact up4
  have st4 : tn 0 s4.heap := T.keep _ _ _ st3 fun b _ o e => up4 b o e
  generalize hB : X.blk s3 H3 scope ce fp = B at I4 pg pt pe
  have hBp : B.prog = X.prog := by subst hB; rfl
  have hBw : B.w = X.w := by subst hB; rfl
  have hBK : B.K = X.K := by subst hB; rfl
  have hBA : B.A = X.A := by subst hB; rfl
  have hBe : B.env = ce := by subst hB; rfl
  have hBn : B.pn = [] := by subst hB; rfl
  have hBf : B.fs = frs X.stack := by subst hB; rfl
  have J4 : Inv B [p] (wipe σ (own.map (·.2))) H3 s4 := I4.pins_of fun q hq => by
    have e : q = p := by simpa using hq
    subst e
    exact ⟨up4 _ _ p1, p2, by rw [hBe, cL]; exact Nat.ne_of_lt (Heap.lt_size p1), by rw [hBf]; exact pS, p5⟩
  have hotB : L2H.HotC (B.tr (B.pn ++ [p]) B.xe) := ⟨p, by rw [show (B.tr (B.pn ++ [p]) B.xe).A = X.A from hBA]; exact hot1, List.mem_append_right _ (List.mem_singleton.mpr rfl)⟩
  have stat : ∀ {σ' : L2.St} {H' : Hp} {s' : Shared}, Inv B [p] σ' H' s' → (∀ b ∈ fp, H' b = none) → ∀ b ∈ fp, FpOk B [p] H' b := fun {σ' H' s'} I' hn b hb => by
    have hex : b ∈ B.ex := by subst hB; exact hb
    refine ⟨hn b hb, (I'.ok.exf b hex).1, I'.ok.exfs b hex, .inl hex, (I'.ok.exf b hex).2, fun q hq => ?_⟩
    rw [hBn] at hq
    have e : q = p := by simpa using hq
    subst e
    exact (f2 b hb).2.2.2.2.2 q (List.mem_append_left _ hpn)
  have toT : ∀ {H' : Hp} {b : Addr}, FpOk B [p] H' b → FpOk (B.tr (B.pn ++ [p]) B.xe) [] H' b := fun {H' b} z => ⟨z.1, z.2.1, z.2.2.1, z.2.2.2.1, z.2.2.2.2.1, fun q hq => z.2.2.2.2.2 q (by rw [List.append_nil] at hq; exact hq)⟩
  have loop : codeAny (model X.prog X.w) X.A (.compLoop (.ListComp elt [⟨tg, iter, ifs, 0⟩] scope pos) 0 (.ref it) (.ref D) ce) (compPost (model X.prog X.w) X.A X.xe none (EP X pins σ Q) (.ref D) s3.heap.objs.size) s4 := by
    refine compLoop_any (fun n s' => ∃ i H', Inv B [p] (wipe σ (own.map (·.2))) H' s' ∧ tn i s'.heap ∧ (∀ b ∈ fp, H' b = none) ∧ W i n H') ?_ m0 ⟨0, H3, J4, st4, nfp, w0⟩
    rintro n s5 ⟨i, H5, I5, st5, n5, w5⟩
    rcases turn i n H5 w5 with ⟨stop, qq⟩ | ⟨go, Nx, hNx, step⟩
    · have td := T.done (B.tr (B.pn ++ [p]) B.xe) hBp hBw hBK hotB i [] s5 _ H5 (fun _ _ => False) (I5.toTry B.xe) (fun b hb => toT (stat I5 n5 b hb)) st5 stop
      have td : wpAny (model X.prog X.w) X.A (pyNext (.ref it)) (fun r s1 => r = none ∧ Inv (B.tr (B.pn ++ [p]) B.xe) [] (wipe σ (own.map (·.2))) H5 s1) (fun _ _ => False) s5 := by rw [← hBA]; exact td
      refine thnF td fun r s6 ⟨hr, I6'⟩ => ?_
      have I6 : Inv B [p] (wipe σ (own.map (·.2))) H5 s6 := I6'.ofTry I5.ok
      subst hr
      subst hB
      have I7 : Inv X pins σ H5 s6 := I3.call' (ch := fp) I6.os I6.base I6.hok I6.bare fun b hb => ⟨(f3 b hb).1.2.2.2.1, (f3 b hb).1.2.1, (f3 b hb).1.2.2.2.2.1, (f3 b hb).1.2.2.2.2.2⟩
      have nC : H5 s3.heap.objs.size = none := by
        have z : H5 ce.locals = none := I6.free
        rwa [cL] at z
      obtain ⟨m, hn, _⟩ := I6.loc
      have hn : s6.heap.Ns ce.locals m := hn
      rw [cL] at hn
      obtain ⟨c0, c1, c2, c3, c4, c5⟩ := I3.fpOk (Nat.le_refl _) nC
      exact ⟨m, hn, fun h'' sb => ⟨.ref D, H5, I7.turned (t' := s6.toks) (fun b o hb e => (sb.2 b hb).trans e) c0 c1 c3 c4 c5, rfl, qq⟩⟩
    · have ti := T.item (B.tr (B.pn ++ [p]) B.xe) hBp hBw hBK hotB i [] s5 _ H5 (fun _ _ => False) (I5.toTry B.xe) (fun b hb => toT (stat I5 n5 b hb)) st5 go
      have eA : (B.tr (B.pn ++ [p]) B.xe).A = X.A := hBA
      rw [eA] at ti
      refine thnF ti fun r s6 ⟨u, hr, h6⟩ => ?_
      subst hr
      refine thnF h6 fun _ s7 ⟨x, H7, I7', r7, y7, st7, n7⟩ => ?_
      have I7 : Inv B [p] (wipe σ (own.map (·.2))) H7 s7 := I7'.ofTry I5.ok
      have I7p := I7.pinned (stat I7 n7) (T.obj _ _ st7)
      have rg := pg.run _ s7 _ H7 x u _ I7p r7 (step x H7 y7)
      rw [hBe] at rg
      have stM : ∀ {α : Type} {t : Sem α} {Q1 Q2 : α → Shared → Prop} {E1 : Value → Shared → Prop} {s' : Shared}, wpAny (model B.prog B.w) B.A t Q1 B.xe s' → (∀ a s, Q1 a s → Q2 a s) → wpAny (model X.prog X.w) X.A t Q2 E1 s' := fun {α t Q1 Q2 E1 s'} h k => by
        subst hB
        exact thnF h k
      refine stM rg fun _ s8 ⟨σ8, H8, I8, hw8, q8⟩ => ?_
      have rt := pt.run _ s8 σ8 H8 _ I8 q8
      rw [hBe] at rt
      refine stM rt fun b s9 ⟨H9, I9, q9⟩ => ?_
      have fin : ∀ {s' : Shared} {H' : Hp}, Inv B ([p] ++ pinsAt fp s7.heap) σ8 H' s' → Nx H' → ∃ m, m < n ∧ ∃ i H', Inv B [p] (wipe σ (own.map (·.2))) H' s' ∧ tn i s'.heap ∧ (∀ b ∈ fp, H' b = none) ∧ W i m H' := fun {s' H'} I' nx => by
        obtain ⟨m', hm, w'⟩ := hNx H' nx
        have pin' : ∀ b ∈ fp, ∀ o, s7.heap.get? b = some o → s'.heap.get? b = some o ∧ H' b = none := fun b hb o e => by
          have z := I'.pin (b, o) (List.mem_append_right _ (List.mem_append_right _ (mem_pinsAt hb e)))
          exact ⟨z.1, z.2.1⟩
        have hl : (wipe σ (own.map (·.2))).length = σ8.length := by rw [← hw8, wipe_length]
        have Iw : Inv B [p] (wipe σ (own.map (·.2))) H' s' := (I'.unpinned (pins := [p])).weak hl fun j v e => by
          rw [← hw8] at e
          exact (wipe_some e).1
        exact ⟨m', hm, i + 1, H', Iw, T.keep _ _ _ st7 fun b hb o e => (pin' b hb o e).1, fun b hb => (by
          obtain ⟨o, e, _⟩ := T.obj _ _ st7 b hb
          exact (pin' b hb o e).2), w'⟩
      cases b with
      | false =>
        rw [if_neg Bool.false_ne_true] at q9
        rw [if_neg Bool.false_ne_true]
        exact fin I9 q9
      | true =>
        rw [if_pos rfl] at q9
        rw [if_pos rfl]
        have re := pe.run _ s9 σ8 H9 _ I9 q9
        rw [hBe] at re
        refine stM re fun z s10 ⟨yv, H10, I10, r10, acc, hD10, hz10, nx⟩ => ?_
        have ap := app_ok (E := fun _ _ => False) (Q := fun _ s' => ∃ m, m < n ∧ ∃ i H', Inv B [p] (wipe σ (own.map (·.2))) H' s' ∧ tn i s'.heap ∧ (∀ b ∈ fp, H' b = none) ∧ W i m H') I10 hD10 hz10 r10 fun s11 I11 => fin I11 nx
        rw [hBp, hBw, hBA] at ap
        exact thnF ap fun _ _ z => z
  exact codeAny_compStart_list loop (T.self X.A 0 _ _ _ st4 loop)
end
section
variable {T : Tab} {G : Nat → Option D} {g : SG} {W : WX} {pu : Bool} {X : Cx} {a : Expr} {ie ia ic : IE} {pos p : Pos}
theorem e_compH {elt tgt iter : Expr} {ifs : List Expr} {scope : Scope} {own : List (Str × Nat)} {tg : Tg} (hot : L2H.HotC X) (hN : X.N.Nodup) (hi : L2H.PIH X tgt iter (tI T G g W pu ia)) (ok : BlkOk X.N X.env.scope scope own) (hto : ∀ j ∈ tgS tg, j ∈ own.map (·.2))
    (hg : ∀ (s : Shared) (H : Hp) (C : Addr) (cl : List (Str × Addr)) (fp : List Addr), PG (X.blk s H scope (compEnvC scope cl C X.env) fp) tgt (tG g tg)) (ht : ∀ (s : Shared) (H : Hp) (C : Addr) (cl : List (Str × Addr)) (fp : List Addr), PTs (X.blk s H scope (compEnvC scope cl C X.env) fp) ifs (tT T G g W0 pu ic))
    (he : ∀ (s : Shared) (H : Hp) (C : Addr) (cl : List (Str × Addr)) (fp : List Addr), PE (X.blk s H scope (compEnvC scope cl C X.env) fp) elt (tE T G g W0 pu ie)) (hs : ∀ x, foldedSetIterable iter X.env x = pure x) :
    PE X (.ListComp elt [⟨tgt, iter, ifs, 0⟩] scope pos) (tE T G g W pu (.comp ie tg ia ic (own.map (·.2)))) :=
  (pe_lcH hot hN hi ok hg ht he hs).imp fun σ H Q h => e_comp_tr hto (tN_of comp_lst h)
theorem PIH.imp {tg e : Expr} {t t' : TI} (h : L2H.PIH X tg e t) (k : ∀ σ H Q, t' σ H Q → t σ H Q) : L2H.PIH X tg e t' := ⟨fun pins s σ H Q I q => h.run pins s σ H Q I (k _ _ _ q)⟩
theorem i_rng1H {tg : Expr} (hs : nStar a = true) (hg : Gl X "range") (hm : X.mg "range" = none) (ha : PE X a (tE T G g W pu ia)) : L2H.PIH X tg (.Call (.Name "range" p) [a] [] pos) (tI T G g W pu (.rng1 ia)) :=
  PIH.imp (L2H.pi_range1H hg hm (pa_cons ha pa_nil (starEach_of hs [] X.env)) (starEach_of hs [] X.env)) fun σ H R ⟨σd, F, Os, rel, k⟩ => by
    simp only [evI] at k
    refine ⟨σd, F, Os, rel, KE.bind k fun x σ1 v H1 F1 Os1 rel1 rx l1 gr1 k1 => ?_⟩
    obtain ⟨ds, ed, q⟩ := KE.ofO k1
    unfold dRng1 at ed
    split at ed
    · cases rx
      split at ed
      · rename_i hsm
        simp only [smallR, Bool.and_eq_true, decide_eq_true_eq] at hsm
        cases ed
        exact ⟨_, rfl, by omega, by omega, q _ _ _ _ rel1 (wk_range (by omega) _) (Gr.refl pu _ _ _)⟩
      · cases ed
    · cases ed
end
end JH

/-! JG1: what is only looked at; truth of sequences; tuple(range(..)); a for over an owned list. -/
namespace JH
open PySem PySem.Spec PyProof.Rows L2
section
variable {T : Tab} {G : Nat → Option D} {g : SG} {W : WX} {pu : Bool} {pin : List Nat} {X : Cx} {a b c e : Expr} {ia ib ic ie : IE} {es : List Expr} {pos p2 p : Pos}
theorem flat_rd {F F' : Hp} {d : D} {v : V} (r : RD g F d v) (h : d.flat = true) : RD g F' d v := by
  cases r <;> first | (cases h; done) | constructor
theorem bor_ke {α : Type} {R : Hp → α → α → Prop} {σ : L2.St} {H : Hp} {Q : α → Hp → Prop} : True := trivial
/-- an owned tree is looked at -/
theorem bor_tr {i : Nat} {σ : L2.St} {H : Hp} {Q : VK} (h : tE T G g W pu (.bor i ia) σ H Q) : tE T G g W true ia σ H Q := by
  obtain ⟨σd, F, Os, rel, k⟩ := h
  simp only [evE] at k
  split at k
  · rename_i m e
    obtain ⟨v, F', h1, h2, h3, h4⟩ := rel.freeze e
    refine ⟨_, F', _, h2, ?_⟩
    cases er : evE T G ia (σd.set i (some (.d m.toD))) with
    | ok x σe =>
      rw [er] at k
      unfold borR at k
      dsimp only at k
      split at k
      · rename_i hf
        intro b H' F'' Os'' rel' rd gr
        have hh : LeH H H' := fun a o e => gr.fr a o e (fun z => by cases z.1)
        have xt : Ext H F H' F := ⟨LeH.refl F, rel.le.trans hh, hh, fun a z => .inl z⟩
        exact k b H' F Os (rel.ext xt) (flat_rd rd hf) (xt.gr pu)
      · exact k.elim
    | exc _ _ => rw [er] at k; exact k.elim
    | stuck => rw [er] at k; exact k.elim
  · exact k.elim
theorem e_bor {i : Nat} (h : PE X a (tE T G g W true ia)) : PE X a (tE T G g W pu (.bor i ia)) := h.imp fun _ _ _ => bor_tr
theorem t_bor {i : Nat} (hi : ia ≠ .nil) (h : PT X a (tT T G g W true ia)) : PT X a (tT T G g W pu (.bor i ia)) := h.imp fun σ H Q ⟨σd, F, Os, rel, k⟩ => by
  rw [evT_of T G (by simp)] at k
  simp only [evE] at k
  split at k
  · rename_i m e
    obtain ⟨v, F', h1, h2, h3, h4⟩ := rel.freeze e
    refine ⟨_, F', _, h2, ?_⟩
    rw [evT_of T G hi]
    cases er : evE T G ia (σd.set i (some (.d m.toD))) with
    | ok x σe =>
      rw [er] at k
      unfold borR at k
      dsimp only at k
      split at k
      · rw [ER.bind_ok] at k ⊢
        cases eb : asB x with
        | none => rw [eb] at k; exact k.elim
        | some r =>
          rw [eb] at k
          intro b H' F'' Os'' rel' rd gr
          have hh : LeH H H' := fun a o e => gr.fr a o e (fun z => by cases z.1)
          have xt : Ext H F H' F := ⟨LeH.refl F, rel.le.trans hh, hh, fun a z => .inl z⟩
          exact k b H' F Os (rel.ext xt) rd (xt.gr pu)
      · exact k.elim
    | exc _ _ => rw [er] at k; exact k.elim
    | stuck => rw [er] at k; exact k.elim
  · exact k.elim
/-! ### truth -/
theorem empty_of {F : Hp} {ds : List D} {vs : List V} (r : RDs g F ds vs) : ds.isEmpty = vs.isEmpty := by
  cases r <;> rfl
theorem truV_of {F H : Hp} {d : D} {v : V} {k : Bool} (r : RD g F d v) (h : truD d = some k) (le : LeH F H) : TruV g.K v H k := by
  cases r <;> first | (cases h; done) | skip
  · cases h; exact rfl
  · cases h; exact rfl
  · cases h; exact rfl
  · rename_i a vs ds h1 h2 h3
    cases h
    exact .inr (.inl ⟨vs, SqT.mono h1 le, by rw [empty_of h3]⟩)
  · rename_i a vs ds h1 h2 h3
    cases h
    exact .inl ⟨vs, SqL.mono (SqL.of h1) le, by rw [empty_of h3]⟩
  · rename_i a ns h1 h2
    cases h
    refine .inl ⟨_, SqL.mono h1 le, ?_⟩
    cases ns <;> rfl
theorem t_tru (hK : X.K = g.K) (ha : PE X a (tE T G g W pu ia)) (hp : pTest a = true) : PT X a (tT T G g W pu (.tru ia)) :=
  (pt_truth ha (test_of hp X.env)).imp fun σ H Q ⟨σd, F, Os, rel, k⟩ => by
    rw [evT_of T G (by simp)] at k
    simp only [evE] at k
    rw [ER.bind_assoc] at k
    refine ⟨σd, F, Os, rel, KE.bind k fun x σ1 v H1 F1 Os1 rel1 rx l1 gr1 k1 => ?_⟩
    cases et : truD x with
    | none => rw [et] at k1; exact k1.elim
    | some r =>
      rw [et] at k1
      rw [hK]
      exact ⟨r, truV_of rx et rel1.le, k1 _ _ _ _ rel1 rfl (Gr.refl pu _ _ _)⟩
theorem e_notV (hK : X.K = g.K) (ha : PE X a (tE T G g W pu ia)) : PE X (.UnaryOp .Not a pos) (tE T G g W pu (.notV ia)) :=
  (pe_notT ha).imp fun σ H Q ⟨σd, F, Os, rel, k⟩ => by
    simp only [evE] at k
    refine ⟨σd, F, Os, rel, KE.bind k fun x σ1 v H1 F1 Os1 rel1 rx l1 gr1 k1 => ?_⟩
    cases et : truD x with
    | none => rw [et] at k1; exact k1.elim
    | some r =>
      rw [et] at k1
      rw [hK]
      exact ⟨r, truV_of rx et rel1.le, k1 _ _ _ _ rel1 (.bl _) (Gr.refl pu _ _ _)⟩
theorem t_notV (hK : X.K = g.K) (ha : PE X a (tE T G g W pu ia)) (hp : pTest a = true) : PT X (.UnaryOp .Not a pos) (tT T G g W pu (.notV ia)) :=
  (pt_not (pt_truth ha (test_of hp X.env))).imp fun σ H Q ⟨σd, F, Os, rel, k⟩ => by
    rw [evT_of T G (by simp)] at k
    simp only [evE] at k
    rw [ER.bind_assoc] at k
    refine ⟨σd, F, Os, rel, KE.bind k fun x σ1 v H1 F1 Os1 rel1 rx l1 gr1 k1 => ?_⟩
    cases et : truD x with
    | none => rw [et] at k1; exact k1.elim
    | some r =>
      rw [et] at k1
      rw [hK]
      exact ⟨r, truV_of rx et rel1.le, k1 _ _ _ _ rel1 rfl (Gr.refl pu _ _ _)⟩
/-! ### tuple(range(a, b)) -/
theorem rgV_rd {F : Hp} (i j : Int) : RDs g F (rangeD i (j - i).toNat) (rgV i j) := by
  unfold rangeD rgV
  generalize (j - i).toNat = n
  generalize List.range n = l
  induction l with
  | nil => exact .nil
  | cons k l ih => exact .cons (.int _) ih
theorem e_tupR {q1 q2 : Pos} (hc : X.calm = true) (hs : nStar a = true) (hs2 : nStar b = true) (hg : Gl X "tuple") (hm : X.mg "tuple" = none) (hg2 : Gl X "range") (hm2 : X.mg "range" = none) (ha : PE X a (tE T G g W pu ia)) (hb : PE X b (tE T G g W pu ib)) :
    PE X (.Call (.Name "tuple" p) [.Call (.Name "range" q1) [a, b] [] q2] [] pos) (tE T G g W pu (.tupR ia ib)) :=
  (pe_tupRg hc hg hm (prg_2 hg2 hm2 ha hb (starEach_of hs [b] X.env) (starEach_of hs2 [] X.env) (noStars _ _ _ (by simp [hs2]))) rfl).imp fun σ H Q ⟨σd, F, Os, rel, k⟩ => by
    simp only [evE] at k
    refine ⟨σd, F, Os, rel, KE.bind k fun x σ1 v H1 F1 Os1 rel1 rx l1 gr1 k1 => ?_⟩
    refine ⟨σ1, F1, Os1, rel1, KE.bind k1 fun y σ2 v2 H2 F2 Os2 rel2 ry l2 gr2 k2 => ?_⟩
    obtain ⟨d, ed, q⟩ := KE.ofO k2
    obtain ⟨l, el, rfl⟩ := Option.map_eq_some_iff.mp ed
    cases rx <;> first | (simp [dRng2] at el; done) | skip
    cases ry <;> first | (simp [dRng2] at el; done) | skip
    rename_i i j
    simp only [dRng2] at el
    split at el
    · rename_i hsm
      cases el
      simp only [Bool.and_eq_true, smallR, decide_eq_true_eq] at hsm
      obtain ⟨⟨⟨h1, h2⟩, ⟨h3, h4⟩⟩, ⟨h5, h6⟩⟩ := hsm
      refine ⟨i, j, rfl, rfl, ⟨by omega, by omega, by omega, by omega, by omega⟩, fun z nz => ?_⟩
      have xt := Ext.laid (o := .tup (rgV i j)) rel2.le nz
      refine q _ _ _ _ (rel2.ext xt) (.tup (SqT.of upd_same) ?_ (rgV_rd i j)) (xt.gr pu)
      rw [rgV_length, line_eq]
      omega
    · cases el
/-! ### a for over an owned list -/
theorem KS.pins {σ : L2.St} {H F : Hp} {O : Addr → Prop} {E : Ends} {r : SR} {k : Nat} (h : KS g W pin σ H F O E r) : KS g W (k :: pin) σ H F O E r := by
  have w : ∀ {σ' : L2.St}, PinEq (k :: pin) σ σ' → PinEq pin σ σ' := fun z => ⟨z.1, fun i hi => z.2 i (List.mem_cons_of_mem _ hi)⟩
  cases r with
  | nx σd => exact fun σ' H' F' Os' a b c => h σ' H' F' Os' a (w b) c
  | brk σd => exact fun σ' H' F' Os' a b c => h σ' H' F' Os' a (w b) c
  | cont σd => exact fun σ' H' F' Os' a b c => h σ' H' F' Os' a (w b) c
  | ret d σd => exact fun σ' v H' F' Os' a b c => h σ' v H' F' Os' a (w b) c
  | retM d σd => exact fun σ' p vs H' F' Os' a b c => h σ' p vs H' F' Os' a (w b) c
  | exc x σd => exact fun σ' cls dd H' F' Os' a b c => h σ' cls dd H' F' Os' a (w b) c
  | stuck => exact h
theorem Gr.less {H F : Hp} {O O' : Addr → Prop} (ho : ∀ a, O' a → O a) : Gr false H F O H F O' := ⟨LeH.refl _, fun _ _ e _ => e, fun _ h => h, fun a z => .inl (ho a z), fun _ h => .inl h⟩
theorem PinEq.tl {k : Nat} {σ σ' : L2.St} (z : PinEq (k :: pin) σ σ') : PinEq pin σ σ' := ⟨z.1, fun i hi => z.2 i (List.mem_cons_of_mem _ hi)⟩
theorem own_lst {H F : Hp} {σd : Env} {σ : L2.St} {Os : Nat → Addr → Prop} {i : Nat} {ms : List M} (rel : Rel g H F σd σ Os) (h : (σd[i]?).bind id = some (.lst ms)) : ∃ a vs S, σ[i]? = some (some (.ref a)) ∧ H a = some (.lst vs) ∧ vs.length ≤ sizeLine ∧ RMs g H F ms vs S := by
  obtain ⟨v, h1, h2⟩ := rel.get h
  cases h2 with
  | lst s h3 z r => exact ⟨_, _, _, h1, h3, z, r⟩
theorem s_forO {t : Expr} {u : List Stmt} {tg : Tg} {f : Env → SR} {i : Nat} {y : Str} (hN : X.N[i]? = some y) (hv : Vis X.env.scope y) (hd : (y == ("__debug__" : Str)) = false) (hcd : (y == ("__classdict__" : Str)) = false)
    (hpi : ∀ j ∈ i :: pin, j ∉ tgS tg) (hp : PassesOwn (model X.prog X.w) X.A X.env X.xe) (hc : X.calm = true) (hg : PG X t (tG g tg)) (hb : PSs X u (tS g W (i :: pin) f)) :
    PS X (.For t (.Name y p) u [] pos) (tS g W pin fun σ => (ofO (lenAt i σ) σ).to fun n σ1 => forP tg i f n n σ1) :=
  (ps_for hp hc (pi_seq (pe_var hN hv hd hcd)) hg hb (fun _ => rfl)).imp fun E σ H ⟨σd, F, Os, rel, k⟩ => by
    obtain ⟨len, el, k⟩ := KS.ofO k
    have hm : ∃ ms, (σd[i]?).bind id = some (.lst ms) ∧ ms.length = len := by
      unfold lenAt at el
      split at el
      · rename_i ms e; exact ⟨ms, e, by cases el; rfl⟩
      · cases el
    obtain ⟨ms, em, hlen⟩ := hm
    obtain ⟨a, vs, S, ha, hH, hz, rm⟩ := own_lst rel em
    refine ⟨.ref a, ha, a, rfl, .inl ⟨⟨vs, SqL.of hH⟩, ?_⟩⟩
    refine ⟨fun j m σ2 H2 => m = len - j ∧ j ≤ len ∧ σ2[i]? = some (some (.ref a)) ∧ ∃ σd2 F2 Os2, Rel g H2 F2 σd2 σ2 Os2 ∧ KS g W pin σ2 H2 F2 (Own Os2) E (forP tg i f len (len - j) σd2), ⟨_, rfl, Nat.zero_le _, ha, σd, F, Os, rel, k⟩, ?_⟩
    rintro j m σ2 H2 ⟨rfl, hj, ha2, σd2, F2, Os2, rel2, k2⟩
    by_cases hlt : j < len
    · obtain ⟨n, hn⟩ : ∃ n, len - j = n + 1 := ⟨len - j - 1, by omega⟩
      have hj' : len - (n + 1) = j := by omega
      rw [hn] at k2
      simp only [forP] at k2
      rw [hj'] at k2
      split at k2
      · rename_i ms2 em2
        split at k2
        · rename_i hl2
          split at k2
          · rename_i x ex
            obtain ⟨m0, ex1, ex2⟩ := Option.bind_eq_some_iff.mp ex
            obtain rfl := leaf_of ex2
            obtain ⟨a', vs2, S2, ha', hH2, hz2, rm2⟩ := own_lst rel2 em2
            rw [ha2] at ha'
            cases ha'
            obtain ⟨v, ev, rx⟩ := rm2.getD ex1
            have hgo : (Itl X.K a).go j H2 := ⟨vs2, v, SqL.of hH2, ev⟩
            refine .inr ⟨hgo, fun σ3 H3 => j + 1 ≤ len ∧ σ3[i]? = some (some (.ref a)) ∧ ∃ σd3 F3 Os3, Rel g H3 F3 σd3 σ3 Os3 ∧ KS g W pin σ3 H3 F3 (Own Os3) E (forP tg i f len (len - (j + 1)) σd3), fun σ3 H3 q => ⟨len - (j + 1), by omega, rfl, q.1, q.2⟩, fun x' H3 y => ?_⟩
            obtain ⟨e1, y⟩ := y
            subst e1
            have := y vs2 (SqL.of hH2)
            rw [ev] at this
            cases this
            split at k2
            · rename_i σd3 ea
              refine ⟨σd2, F2, Os2, x, σd3, rel2, rx, ea, fun σ4 Os4 rel4 hl hjj ho => ⟨σd3, F2, Os4, rel4, ?_⟩⟩
              have k4 := KS.later k2 (pin_of (fun q hq => hpi q (List.mem_cons_of_mem _ hq)) hl hjj) (Gr.less ho)
              have ha4 : σ4[i]? = some (some (.ref a)) := by rw [hjj i (hpi i List.mem_cons_self)]; exact ha2
              have nn : len - (j + 1) = n := by omega
              rw [nn]
              cases e : f σd3 with
              | nx σ5 => rw [e] at k4; exact fun σ' H' F' Os' r' p' g' => ⟨hlt, (p'.2 i List.mem_cons_self).trans ha4, σ5, F', Os', r', KS.later k4 p'.tl g'⟩
              | cont σ5 => rw [e] at k4; exact fun σ' H' F' Os' r' p' g' => ⟨hlt, (p'.2 i List.mem_cons_self).trans ha4, σ5, F', Os', r', KS.later k4 p'.tl g'⟩
              | brk σ5 => rw [e] at k4; exact KS.pins (r := .brk σ5) k4
              | ret d σ5 => rw [e] at k4; exact KS.pins (r := .ret d σ5) k4
              | retM d σ5 => rw [e] at k4; exact KS.pins (r := .retM d σ5) k4
              | exc x σ5 => rw [e] at k4; exact KS.pins (r := .exc x σ5) k4
              | stuck => rw [e] at k4; exact k4.elim
            · exact k2.elim
          · exact k2.elim
        · exact k2.elim
      · exact k2.elim
    · have e : j = len := by omega
      subst e
      rw [Nat.sub_self] at k2
      simp only [forP] at k2
      split at k2
      · rename_i ms2 em2
        split at k2
        · rename_i hl2
          obtain ⟨a', vs2, S2, ha', hH2, hz2, rm2⟩ := own_lst rel2 em2
          rw [ha2] at ha'
          cases ha'
          exact .inl ⟨⟨vs2, SqL.of hH2, by rw [← rm2.length, hl2]; exact Nat.le_refl _⟩, k2 σ2 H2 F2 Os2 rel2 (PinEq.refl _ _) (Gr.refl _ _ _ _)⟩
        · exact k2.elim
      · exact k2.elim
end
end JH

/-! JH1: x += n; a new dict; a, b = e, f; four compared; list and tuple of a range. -/
namespace JH
open PySem PySem.Spec PyProof.Rows L2
section
variable {T : Tab} {G : Nat → Option D} {g : SG} {W : WX} {pu : Bool} {pin : List Nat} {X : Cx} {a b c d e : Expr} {ia ib ic id' ie : IE} {es : List Expr} {pos p2 p : Pos}
/-! ### a op b op c op d -/
def tChain3 (r r' r'' : R2) (ta tb tc td : TE) : TE := fun σ H Q => ta σ H fun x H1 => tb σ H1 fun y H2 => r x y H2 fun z H3 => ∃ k, z = .bl k ∧
  (if k = true then tc σ H3 fun w H4 => r' y w H4 fun z2 H5 => ∃ k2, z2 = .bl k2 ∧ (if k2 = true then td σ H5 fun u H6 => r'' w u H6 Q else Q (.bl false) H5) else Q (.bl false) H3)
theorem pe_chain3 {o1 o2 o3 : CmpOp} {r r' r'' : R2} {ta tb tc td : TE} (h1 : OpR X (compareOp o1) r) (h2 : OpR X (compareOp o2) r') (h3 : OpR X (compareOp o3) r'') (ha : PE X a ta) (hb : PE X b tb) (hc : PE X c tc) (hd : PE X d td)
    (hm : lastMarks [o1, o2, o3] [b, c, d] = false) : PE X (.Compare a [o1, o2, o3] [b, c, d] pos) (tChain3 r r' r'' ta tb tc td) := by
  refine ⟨fun pins s σ H Q I h => ?_⟩
  refine Compare_chain (thn (ha.run pins s σ H _ I h) fun v s1 ⟨x, H1, I1, r1, q1⟩ => chain_link (thn (hb.run pins s1 σ H1 _ I1 q1) fun u s2 ⟨y, H2, I2, r2, q2⟩ =>
    thn (h1 pins s2 σ H2 x y v u _ I2 r1 r2 q2) fun d s3 ⟨z, H3, I3, r3, k, e, q3⟩ => ?_)) hm
  subst e
  cases r3
  refine wpAny_truthy_bool ?_
  cases k with
  | false => exact ite_ff ⟨.bl false, H3, I3, rfl, q3⟩
  | true =>
    refine ite_tt (chain_link (thn (hc.run pins s3 σ H3 _ I3 q3) fun w' s4 ⟨z', H4, I4, r4, q4⟩ => thn (h2 pins s4 σ H4 y z' u w' _ I4 r2 r4 q4) fun d2 s5 ⟨z2, H5, I5, r5, k2, e2, q5⟩ => ?_))
    subst e2
    cases r5
    refine wpAny_truthy_bool ?_
    cases k2 with
    | false => exact ite_ff ⟨.bl false, H5, I5, rfl, q5⟩
    | true => exact ite_tt (chain_last (thn (hd.run pins s5 σ H5 _ I5 q5) fun w2 s6 ⟨z6, H6, I6, r6, q6⟩ => h3 pins s6 σ H6 z' z6 w' w2 Q I6 r4 r6 q6))
theorem e_chn4 (hK : X.K = g.K) (hu : X.A.units + 64 < cLine) {o1 o2 o3 : COp} (ha : PE X a (tE T G g W pu ia)) (hb : PE X b (tE T G g W pu ib)) (hc : PE X c (tE T G g W pu ic)) (hd : PE X d (tE T G g W pu id')) (hm : behindInMarks o3.py d = false) :
    PE X (.Compare a [o1.py, o2.py, o3.py] [b, c, d] pos) (tE T G g W pu (.chn4 o1 o2 o3 ia ib ic id')) :=
  (pe_chain3 (o_cmp hK hu o1) (o_cmp hK hu o2) (o_cmp hK hu o3) ha hb hc hd hm).imp fun σ H Q ⟨σd, F, Os, rel, k⟩ => by
    simp only [evE] at k
    refine ⟨σd, F, Os, rel, KE.bind k fun x σ1 v H1 F1 Os1 rel1 rx l1 gr1 k1 => ⟨σ1, F1, Os1, rel1, KE.bind k1 fun y σ2 u H2 F2 Os2 rel2 ry l2 gr2 k2 => ?_⟩⟩
    cases ed : dCmp o1 x y with
    | none => rw [ed] at k2; exact k2.elim
    | some r =>
      rw [ed] at k2
      refine ⟨F2, x, y, r, rel2.le, rx.mono l2, ry, ed, r, rfl, ?_⟩
      cases r with
      | false => exact k2 _ _ _ _ rel2 (.bl _) (Gr.refl pu _ _ _)
      | true =>
        refine ⟨σ2, F2, Os2, rel2, KE.bind k2 fun z σ3 w H3 F3 Os3 rel3 rz l3 gr3 k3 => ?_⟩
        cases ed2 : dCmp o2 y z with
        | none => rw [ed2] at k3; exact k3.elim
        | some r2 =>
          rw [ed2] at k3
          refine ⟨F3, y, z, r2, rel3.le, ry.mono l3, rz, ed2, r2, rfl, ?_⟩
          cases r2 with
          | false => exact k3 _ _ _ _ rel3 (.bl _) (Gr.refl pu _ _ _)
          | true =>
            refine ⟨σ3, F3, Os3, rel3, KE.bind k3 fun u σ4 w4 H4 F4 Os4 rel4 ru l4 gr4 k4 => ?_⟩
            obtain ⟨dd, edd, q⟩ := KE.ofO k4
            obtain ⟨r3, e3, rfl⟩ := Option.map_eq_some_iff.mp edd
            exact ⟨F4, z, u, r3, rel4.le, rz.mono l4, ru, e3, q _ _ _ _ rel4 (.bl _) (Gr.refl pu _ _ _)⟩
theorem pt_chain3 {o1 o2 o3 : CmpOp} {r r' r'' : R2} {ta tb tc td : TE} (h1 : OpR X (compareOp o1) r) (h2 : OpR X (compareOp o2) r') (h3 : OpR X (compareOp o3) r'') (ha : PE X a ta) (hb : PE X b tb) (hc : PE X c tc) (hd : PE X d td)
    (hm : lastMarks [o1, o2, o3] [b, c, d] = false) : PT X (.Compare a [o1, o2, o3] [b, c, d] pos) (tTest (tChain3 r r' r'' ta tb tc td)) := by
  refine ⟨fun pins s σ H Q I h => ?_⟩
  refine isTrue_chain (thn (ha.run pins s σ H _ I h) fun v s1 ⟨x, H1, I1, r1, q1⟩ => test_link (thn (hb.run pins s1 σ H1 _ I1 q1) fun u s2 ⟨y, H2, I2, r2, q2⟩ =>
    thn (h1 pins s2 σ H2 x y v u _ I2 r1 r2 q2) fun d s3 ⟨z, H3, I3, r3, k, e, q3⟩ => ?_)) hm
  subst e
  cases r3
  refine wpAny_truthy_bool ?_
  cases k with
  | false =>
    obtain ⟨k', e', q'⟩ := q3
    cases e'
    exact ite_ff ⟨H3, I3, q'⟩
  | true =>
    refine ite_tt (test_link (thn (hc.run pins s3 σ H3 _ I3 q3) fun w' s4 ⟨z', H4, I4, r4, q4⟩ => thn (h2 pins s4 σ H4 y z' u w' _ I4 r2 r4 q4) fun d2 s5 ⟨z2, H5, I5, r5, k2, e2, q5⟩ => ?_))
    subst e2
    cases r5
    refine wpAny_truthy_bool ?_
    cases k2 with
    | false =>
      obtain ⟨k', e', q'⟩ := q5
      cases e'
      exact ite_ff ⟨H5, I5, q'⟩
    | true =>
      refine ite_tt (test_last (thn (hd.run pins s5 σ H5 _ I5 q5) fun w2 s6 ⟨z6, H6, I6, r6, q6⟩ => thn (h3 pins s6 σ H6 z' z6 w' w2 _ I6 r4 r6 q6) fun d3 s7 ⟨z7, H7, I7, r7, k3, e3, q7⟩ => ?_))
      subst e3
      cases r7
      exact wpAny_truthy_bool ⟨H7, I7, q7⟩
theorem t_chn4 (hK : X.K = g.K) (hu : X.A.units + 64 < cLine) {o1 o2 o3 : COp} (ha : PE X a (tE T G g W pu ia)) (hb : PE X b (tE T G g W pu ib)) (hc : PE X c (tE T G g W pu ic)) (hd : PE X d (tE T G g W pu id')) (hm : behindInMarks o3.py d = false) :
    PT X (.Compare a [o1.py, o2.py, o3.py] [b, c, d] pos) (tT T G g W pu (.chn4 o1 o2 o3 ia ib ic id')) :=
  (pt_chain3 (o_cmp hK hu o1) (o_cmp hK hu o2) (o_cmp hK hu o3) ha hb hc hd hm).imp fun σ H Q ⟨σd, F, Os, rel, k⟩ => by
    rw [evT_of T G (by simp)] at k
    simp only [evE] at k
    refine ⟨σd, F, Os, rel, KE.bind (KE.bind_assoc k) fun x σ1 v H1 F1 Os1 rel1 rx l1 gr1 k1 => ⟨σ1, F1, Os1, rel1, KE.bind (KE.bind_assoc k1) fun y σ2 u H2 F2 Os2 rel2 ry l2 gr2 k2 => ?_⟩⟩
    cases ed : dCmp o1 x y with
    | none => rw [ed] at k2; exact k2.elim
    | some r =>
      rw [ed] at k2
      refine ⟨F2, x, y, r, rel2.le, rx.mono l2, ry, ed, r, rfl, ?_⟩
      cases r with
      | false => exact ⟨false, rfl, k2 _ _ _ _ rel2 rfl (Gr.refl pu _ _ _)⟩
      | true =>
        refine ⟨σ2, F2, Os2, rel2, KE.bind (KE.bind_assoc k2) fun z σ3 w H3 F3 Os3 rel3 rz l3 gr3 k3 => ?_⟩
        cases ed2 : dCmp o2 y z with
        | none => rw [ed2] at k3; exact k3.elim
        | some r2 =>
          rw [ed2] at k3
          refine ⟨F3, y, z, r2, rel3.le, ry.mono l3, rz, ed2, r2, rfl, ?_⟩
          cases r2 with
          | false => exact ⟨false, rfl, k3 _ _ _ _ rel3 rfl (Gr.refl pu _ _ _)⟩
          | true =>
            refine ⟨σ3, F3, Os3, rel3, KE.bind (KE.bind_assoc k3) fun u σ4 w4 H4 F4 Os4 rel4 ru l4 gr4 k4 => ?_⟩
            cases ed3 : dCmp o3 z u with
            | none => rw [ed3] at k4; exact k4.elim
            | some r3 =>
              rw [ed3] at k4
              exact ⟨F4, z, u, r3, rel4.le, rz.mono l4, ru, ed3, r3, rfl, k4 _ _ _ _ rel4 rfl (Gr.refl pu _ _ _)⟩
/-! ### list, tuple of a range -/
theorem e_cv1 {q1 q2 : Pos} {t : Bool} {y : Str} (hy : y = if t = true then ("tuple" : Str) else ("list" : Str)) (hc : X.calm = true) (hs : nStar a = true) (hg : Gl X y) (hm : X.mg y = none) (hg2 : Gl X "range") (hm2 : X.mg "range" = none) (ha : PE X a (tE T G g W pu ia)) :
    PE X (.Call (.Name y p) [.Call (.Name "range" q1) [a] [] q2] [] pos) (tE T G g W pu (.cv1 t ia)) := by
  have main : ∀ σ H Q, tE T G g W pu (.cv1 t ia) σ H Q → (tRg1 (tE T G g W pu ia)) σ H fun i j H1 => RgOk i j ∧ ∀ q, H1 q = none → Q (.ref q) (upd H1 q (if t = true then .tup (rgV i j) else .lst (rgV i j))) := fun σ H Q ⟨σd, F, Os, rel, k⟩ => by
    simp only [evE] at k
    refine ⟨σd, F, Os, rel, KE.bind k fun x σ1 v H1 F1 Os1 rel1 rx l1 gr1 k1 => ?_⟩
    obtain ⟨dd, ed, q⟩ := KE.ofO k1
    obtain ⟨l, el, rfl⟩ := Option.map_eq_some_iff.mp ed
    cases rx <;> first | (simp [dRng1] at el; done) | skip
    rename_i j
    simp only [dRng1] at el
    split at el
    · rename_i hsm
      cases el
      simp only [smallR, Bool.and_eq_true, decide_eq_true_eq] at hsm
      refine ⟨j, rfl, ⟨by omega, by omega, by omega, by omega, by omega⟩, fun z nz => ?_⟩
      have hz : (rgV 0 j).length ≤ sizeLine := by rw [rgV_length, line_eq]; omega
      have hr : ∀ {F : Hp}, RDs g F (rangeD 0 j.toNat) (rgV 0 j) := fun {F} => by have := rgV_rd (g := g) (F := F) 0 j; rwa [Int.sub_zero] at this
      cases t with
      | true =>
        have xt := Ext.laid (o := .tup (rgV 0 j)) rel1.le nz
        exact q _ _ _ _ (rel1.ext xt) (.tup (SqT.of upd_same) hz hr) (xt.gr pu)
      | false =>
        have xt := Ext.laid (o := .lst (rgV 0 j)) rel1.le nz
        exact q _ _ _ _ (rel1.ext xt) (.lst upd_same hz hr) (xt.gr pu)
    · cases el
  cases t with
  | true =>
    subst hy
    exact (pe_tupRg hc hg hm (prg_1 hg2 hm2 ha (starEach_of hs [] X.env)) rfl).imp main
  | false =>
    subst hy
    exact (pe_listRg hc hg hm (prg_1 hg2 hm2 ha (starEach_of hs [] X.env)) rfl).imp main
theorem e_cv2 {q1 q2 : Pos} {t : Bool} {y : Str} (hy : y = if t = true then ("tuple" : Str) else ("list" : Str)) (hc : X.calm = true) (hs : nStar a = true) (hs2 : nStar b = true) (hg : Gl X y) (hm : X.mg y = none) (hg2 : Gl X "range") (hm2 : X.mg "range" = none) (ha : PE X a (tE T G g W pu ia)) (hb : PE X b (tE T G g W pu ib)) :
    PE X (.Call (.Name y p) [.Call (.Name "range" q1) [a, b] [] q2] [] pos) (tE T G g W pu (.cv2 t ia ib)) := by
  have main : ∀ σ H Q, tE T G g W pu (.cv2 t ia ib) σ H Q → (tRg2 (tE T G g W pu ia) (tE T G g W pu ib)) σ H fun i j H1 => RgOk i j ∧ ∀ q, H1 q = none → Q (.ref q) (upd H1 q (if t = true then .tup (rgV i j) else .lst (rgV i j))) := fun σ H Q ⟨σd, F, Os, rel, k⟩ => by
    simp only [evE] at k
    refine ⟨σd, F, Os, rel, KE.bind k fun x σ1 v H1 F1 Os1 rel1 rx l1 gr1 k1 => ⟨σ1, F1, Os1, rel1, KE.bind k1 fun y σ2 v2 H2 F2 Os2 rel2 ry l2 gr2 k2 => ?_⟩⟩
    obtain ⟨dd, ed, q⟩ := KE.ofO k2
    obtain ⟨l, el, rfl⟩ := Option.map_eq_some_iff.mp ed
    cases rx <;> first | (simp [dRng2] at el; done) | skip
    cases ry <;> first | (simp [dRng2] at el; done) | skip
    rename_i i j
    simp only [dRng2] at el
    split at el
    · rename_i hsm
      cases el
      simp only [smallR, Bool.and_eq_true, decide_eq_true_eq] at hsm
      refine ⟨i, j, rfl, rfl, ⟨by omega, by omega, by omega, by omega, by omega⟩, fun z nz => ?_⟩
      have hz : (rgV i j).length ≤ sizeLine := by rw [rgV_length, line_eq]; omega
      cases t with
      | true =>
        have xt := Ext.laid (o := .tup (rgV i j)) rel2.le nz
        exact q _ _ _ _ (rel2.ext xt) (.tup (SqT.of upd_same) hz (rgV_rd i j)) (xt.gr pu)
      | false =>
        have xt := Ext.laid (o := .lst (rgV i j)) rel2.le nz
        exact q _ _ _ _ (rel2.ext xt) (.lst upd_same hz (rgV_rd i j)) (xt.gr pu)
    · cases el
  cases t with
  | true =>
    subst hy
    exact (pe_tupRg hc hg hm (prg_2 hg2 hm2 ha hb (starEach_of hs [b] X.env) (starEach_of hs2 [] X.env) (noStars _ _ _ (by simp [hs2]))) rfl).imp main
  | false =>
    subst hy
    exact (pe_listRg hc hg hm (prg_2 hg2 hm2 ha hb (starEach_of hs [b] X.env) (starEach_of hs2 [] X.env) (noStars _ _ _ (by simp [hs2]))) rfl).imp main
theorem n_cv1 {q1 q2 : Pos} {y : Str} (hy : y = ("list" : Str)) (hc : X.calm = true) (hs : nStar a = true) (hg : Gl X y) (hm : X.mg y = none) (hg2 : Gl X "range") (hm2 : X.mg "range" = none) (ha : PE X a (tE T G g W false ia)) :
    PE X (.Call (.Name y p) [.Call (.Name "range" q1) [a] [] q2] [] pos) (tN T G g W false (.cv1 false ia)) := by
  subst hy
  refine (pe_listRg hc hg hm (prg_1 hg2 hm2 ha (starEach_of hs [] X.env)) rfl).imp fun σ H Q ⟨σd, F, Os, rel, k⟩ => ?_
  simp only [evE] at k
  rw [ER.bind_assoc] at k
  refine ⟨σd, F, Os, rel, KN.bind k fun x σ1 v H1 F1 Os1 e rel1 rx l1 gr1 k1 => ?_⟩
  cases el : dRng1 x with
  | none => rw [el] at k1; exact False.elim k1
  | some l =>
    rw [el] at k1
    cases rx <;> first | (simp [dRng1] at el; done) | skip
    rename_i j
    simp only [dRng1] at el
    split at el
    · rename_i hsm
      cases el
      simp only [smallR, Bool.and_eq_true, decide_eq_true_eq] at hsm
      refine ⟨j, rfl, ⟨by omega, by omega, by omega, by omega, by omega⟩, ?_⟩
      have hz : (rgV 0 j).length ≤ sizeLine := by rw [rgV_length, line_eq]; omega
      have hr : ∀ {F : Hp}, RDs g F (rangeD 0 j.toNat) (rgV 0 j) := fun {F} => by have := rgV_rd (g := g) (F := F) 0 j; rwa [Int.sub_zero] at this
      exact KN.laid k1 rel1 hr hz
    · cases el
theorem n_cv2 {q1 q2 : Pos} {y : Str} (hy : y = ("list" : Str)) (hc : X.calm = true) (hs : nStar a = true) (hs2 : nStar b = true) (hg : Gl X y) (hm : X.mg y = none) (hg2 : Gl X "range") (hm2 : X.mg "range" = none) (ha : PE X a (tE T G g W false ia)) (hb : PE X b (tE T G g W false ib)) :
    PE X (.Call (.Name y p) [.Call (.Name "range" q1) [a, b] [] q2] [] pos) (tN T G g W false (.cv2 false ia ib)) := by
  subst hy
  refine (pe_listRg hc hg hm (prg_2 hg2 hm2 ha hb (starEach_of hs [b] X.env) (starEach_of hs2 [] X.env) (noStars _ _ _ (by simp [hs2]))) rfl).imp fun σ H Q ⟨σd, F, Os, rel, k⟩ => ?_
  simp only [evE] at k
  rw [ER.bind_assoc] at k
  refine ⟨σd, F, Os, rel, KN.bind k fun x σ1 v H1 F1 Os1 e rel1 rx l1 gr1 k1 => ?_⟩
  rw [ER.bind_assoc] at k1
  refine ⟨σ1, F1, Os1, rel1, KN.bind k1 fun y σ2 v2 H2 F2 Os2 e2 rel2 ry l2 gr2 k2 => ?_⟩
  cases el : dRng2 x y with
  | none => rw [el] at k2; exact False.elim k2
  | some l =>
    rw [el] at k2
    cases rx <;> first | (simp [dRng2] at el; done) | skip
    cases ry <;> first | (simp [dRng2] at el; done) | skip
    rename_i i j
    simp only [dRng2] at el
    split at el
    · rename_i hsm
      cases el
      simp only [smallR, Bool.and_eq_true, decide_eq_true_eq] at hsm
      refine ⟨i, j, rfl, rfl, ⟨by omega, by omega, by omega, by omega, by omega⟩, ?_⟩
      have hz : (rgV i j).length ≤ sizeLine := by rw [rgV_length, line_eq]; omega
      exact KN.laid k2 rel2 (rgV_rd i j) hz
    · cases el
/-! ### x += e, of ints -/
theorem s_aug {i : Nat} {y : Str} {q : Pos} (hp : i ∉ pin) (hN : X.N.Nodup) (hi : X.N[i]? = some y) (hx : Loc X.env.scope y) (hf : X.fn y = true ∨ X.env.scope.names.lookup y = some .local) (he : PE X e (tE T G g W false ie)) :
    PS X (.AugAssign (.Name y q) .Add e pos) (tS g W pin fun σ => augR σ i (evE T G ie σ)) :=
  (ps_aug hN hi hx he ip_add hf).imp fun E σ H ⟨σd, F, Os, rel, k⟩ => by
    dsimp only at k
    unfold augR at k
    split at k
    · rename_i u e0
      obtain ⟨v, h1, h2⟩ := rel.get e0
      cases h2 with
      | d r =>
        cases r
        refine ⟨_, h1, σd, F, Os, rel, KS.to k fun yd σ1 yv H1 F1 Os1 rel1 ry l1 gr1 k1 => ?_⟩
        obtain ⟨w, ew, k2⟩ := KS.ofO k1
        cases ry <;> first | (simp [asI] at ew; done) | skip
        cases ew
        refine ⟨_, _, rfl, rfl, k2 _ H1 F1 _ (rel1.asgn (i := i) (.int _)) ⟨by simp, fun j hj => ?_⟩ ⟨LeH.refl _, fun _ _ e _ => e, fun _ h => h, fun a ⟨j, z⟩ => .inl ⟨j, z.2⟩, fun _ h => .inl h⟩⟩
        have hne : i ≠ j := fun e => hp (e ▸ hj)
        rw [List.getElem?_set_ne hne]
    · exact k.elim
/-! ### x = {} -/
theorem s_asgN {i : Nat} {y : Str} {q : Pos} (hp : i ∉ pin) (hN : X.N.Nodup) (hi : X.N[i]? = some y) (hx : Loc X.env.scope y) (hf : X.fn y = true ∨ X.env.scope.names.lookup y = some .local) :
    PS X (.Assign [.Name y q] (.Dict [] [] p2) pos) (tS g W pin fun σ => if false = true then .stuck else .nx (σ.set i (some (.dk [] [])))) :=
  (ps_asg pe_dnewK (pg_name hN hi hx hf) rfl rfl rfl).imp fun E σ H ⟨σd, F, Os, rel, k⟩ => by
    intro z nz
    have fz : F z = none := by
      cases e : F z with
      | none => rfl
      | some o => rw [rel.le z o e] at nz; cases nz
    have nO : ¬ Own Os z := fun ⟨j, w⟩ => rel.al j z w nz
    have hh : LeH H (upd H z (.dK [])) := fun a o e => by rw [upd_ne (ne_of_none e nz)]; exact e
    have le : LeH F (upd H z (.dK [])) := rel.le.trans hh
    refine k _ _ F (fun j a => (j = i ∧ a = z) ∨ (j ≠ i ∧ Os j a)) ⟨le, by simpa using rel.len, fun j m e => ?_, fun j l a x y => ?_, fun j a x => ?_, fun j a x => ?_⟩ ⟨by simp, fun j hj => ?_⟩ ⟨LeH.refl _, fun a o e _ => hh a o e, fun a h => ?_, fun a ⟨j, x⟩ => ?_, fun _ h => .inl h⟩
    · by_cases hj : j = i
      · subst hj
        have hlt : j < σd.length := by
          by_cases hlt : j < σd.length
          · exact hlt
          · rw [List.getElem?_eq_none (by simpa using hlt)] at e; cases e
        rw [List.getElem?_set_self hlt] at e
        cases e
        exact ⟨.ref z, by rw [List.getElem?_set_self (by rw [← rel.len]; exact hlt)], .dk (.inl ⟨rfl, rfl⟩) upd_same rfl .nil⟩
      · rw [List.getElem?_set_ne (Ne.symm hj)] at e ⊢
        obtain ⟨v', e1, qq⟩ := rel.sl j m e
        exact ⟨v', e1, (qq.frame (LeH.refl F) fun a o _ e => hh a o e).wide fun a w => .inr ⟨hj, w⟩⟩
    · rcases x with ⟨x1, x2⟩ | ⟨x1, x2⟩ <;> rcases y with ⟨y1, y2⟩ | ⟨y1, y2⟩
      · rw [x1, y1]
      · subst x2; exact absurd ⟨l, y2⟩ nO
      · subst y2; exact absurd ⟨j, x2⟩ nO
      · exact rel.dj j l a x2 y2
    · rcases x with ⟨x1, x2⟩ | ⟨x1, x2⟩
      · subst x2; exact fz
      · exact rel.nf j a x2
    · rcases x with ⟨x1, x2⟩ | ⟨x1, x2⟩
      · subst x2; rw [upd_same]; simp
      · have := rel.al j a x2
        cases e : H a with
        | none => exact absurd e this
        | some o => rw [hh a o e]; simp
    · have hne : i ≠ j := fun e => hp (e ▸ hj)
      rw [List.getElem?_set_ne hne]
    · cases e : H a with
      | none => exact absurd e h
      | some o => rw [hh a o e]; simp
    · rcases x with ⟨_, x2⟩ | ⟨_, x2⟩
      · subst x2; exact .inr nz
      · exact .inl ⟨j, x2⟩
/-! ### x, y = e, f -/
theorem s_par {i j : Nat} {x y : Str} {px py pt : Pos} {kt k2 pt2} (hp : i ∉ pin ∧ j ∉ pin) (hc : X.calm = true) (hN : X.N.Nodup) (hi : X.N[i]? = some x) (hj : X.N[j]? = some y) (hij : i ≠ j) (hx : X.env.scope.names.lookup x = some .local) (hy : X.env.scope.names.lookup y = some .local)
    (hs : nStar a = true) (hs2 : nStar b = true) (ha : PE X a (tE T G g W false ia)) (hb : PE X b (tE T G g W false ib)) (hw : swappedStores [.Tuple [.Name x px, .Name y py] kt pt] (.Tuple [a, b] k2 pt2) X.env = pure (some [x, y]))
    (hsw : swapsWithSole [.Tuple [.Name x px, .Name y py] kt pt] (.Tuple [a, b] k2 pt2) pos.line X.env = pure false) :
    PS X (.Assign [.Tuple [.Name x px, .Name y py] kt pt] (.Tuple [a, b] k2 pt2) pos) (tS g W pin fun σ => (evE T G ia σ).to fun x σ1 => (evE T G ib σ1).to fun y σ2 => .nx ((σ2.set i (some (.d x))).set j (some (.d y)))) :=
  (ps_par hc hN hi hj hij hx hy (pa_cons ha (pa_cons hb pa_nil (starEach_of hs2 [] X.env)) (starEach_of hs [b] X.env)) hw hsw).imp fun E σ H ⟨σd, F, Os, rel, k⟩ => by
    refine ⟨σd, F, Os, rel, KS.to k fun xd σ1 xv H1 F1 Os1 rel1 rx l1 gr1 k1 => ⟨σ1, F1, Os1, rel1, KS.to k1 fun yd σ2 yv H2 F2 Os2 rel2 ry l2 gr2 k2 => ?_⟩⟩
    refine ⟨xv, yv, rfl, k2 _ H2 F2 _ ((rel2.asgn (i := i) (rx.mono l2)).asgn (i := j) ry) ⟨by simp, fun q hq => ?_⟩ ⟨LeH.refl _, fun _ _ e _ => e, fun _ h => h, fun a ⟨q, z⟩ => .inl ⟨q, z.2.2⟩, fun _ h => .inl h⟩⟩
    have h1 : i ≠ q := fun e => hp.1 (e ▸ hq)
    have h2 : j ≠ q := fun e => hp.2 (e ▸ hq)
    rw [List.getElem?_set_ne h2, List.getElem?_set_ne h1]
end
end JH

/-! JO1: own classes: fields, methods, new objects; displays of dicts; k in d; what is never run. -/
namespace JH
open PySem PySem.Spec PyProof.Rows L2
/-- built-ins that run in a suite as they run elsewhere -/
def B1.cool : B1 → Bool
  | .int => true | .abs => true | .sorted => true | .str => true | .bool => true | .len => true | .tuple => true | .list => true
  | _ => false
section
variable {X : Cx} {a b : Expr} {pos p : Pos} {T : Tab} {G : Nat → Option D} {g : SG} {W : WX} {pu : Bool} {ia : IE}
theorem e_b1rawc {f : B1} {x : Str} {ta : TE} (hx : x = f.nm) (hK : X.K = g.K) (hc : X.calm = true ∨ f.cool = true) (hs : nStar a = true) (hg : Gl X x) (hm : X.mg x = none) (ha : PE X a ta) : PE X (.Call (.Name x p) [a] [] pos) (tCB (rF1 g (dB1 f)) (tCons ta tNil)) := by
  subst hx
  have hs' := starEach_of hs [] X.env
  have pa : PA X [a] (tCons ta tNil) := pa_cons ha pa_nil hs'
  cases f
  · exact pe_callB (f_len hK) hg hm PySem.boot_len pa (by decide) (by decide) hs' rfl
  · exact pe_callTy (f_tuple hK) hg hm (by decide +kernel) pa (by decide) (by decide) hs' rfl
  · exact pe_callTy (f_list hK) hg hm (by decide +kernel) pa (by decide) (by decide) hs' rfl
  · exact pe_callTy f_int hg hm (by decide +kernel) pa (by decide) (by decide) hs' rfl
  · exact pe_callB f_abs hg hm (by decide +kernel) pa (by decide) (by decide) hs' rfl
  · exact pe_callB (f_sum (hc.resolve_right (by decide))) hg hm (by decide +kernel) pa (by decide) (by decide) hs' rfl
  · exact pe_callB (f_all (hc.resolve_right (by decide))) hg hm (by decide +kernel) pa (by decide) (by decide) hs' rfl
  · exact pe_callB (f_any (hc.resolve_right (by decide))) hg hm (by decide +kernel) pa (by decide) (by decide) hs' rfl
  · exact pe_callB f_sorted hg hm (by decide +kernel) pa (by decide) (by decide) hs' rfl
  · exact pe_callB (f_min1 hK (hc.resolve_right (by decide))) hg hm (by decide +kernel) pa (by decide) (by decide) hs' rfl
  · exact pe_callB (f_max1 hK (hc.resolve_right (by decide))) hg hm (by decide +kernel) pa (by decide) (by decide) hs' rfl
  · exact pe_callTy (T := "bool") (rF1_none fun d => by cases d <;> rfl) hg hm (by decide +kernel) pa (by decide) (by decide) hs' rfl
  · exact pe_callTy f_str hg hm (by decide +kernel) pa (by decide) (by decide) hs' rfl
theorem e_b1c {f : B1} {x : Str} (hx : x = f.nm) (hK : X.K = g.K) (hc : X.calm = true ∨ f.cool = true) (hs : nStar a = true) (hg : Gl X x) (hm : X.mg x = none) (ha : PE X a (tE T G g W pu ia)) : PE X (.Call (.Name x p) [a] [] pos) (tE T G g W pu (.b1 f ia)) :=
  (e_b1rawc hx hK hc hs hg hm ha).imp fun σ H Q ⟨σd, F, Os, rel, k⟩ => by
    simp only [evE] at k
    refine ⟨σd, F, Os, rel, KE.bind k fun x σ1 v H1 F1 Os1 rel1 rx l1 gr1 k1 => ?_⟩
    obtain ⟨d, ed, q⟩ := KE.ofO k1
    exact ⟨v, F1, x, d, rfl, rel1.le, rx, ed, fun w H' F' xt rw => q w H' F' Os1 (rel1.ext xt) rw (xt.gr pu)⟩
end
section
open PySem PySem.Spec PyProof.Rows L2
theorem pt_ifExp {X : Cx} {tA ta tb : TT} {c a b : Expr} {pos : Pos} (hc : PT X c tA) (ha : PT X a ta) (hb : PT X b tb) : PT X (.IfExp c a b pos) (fun σ H Q => tA σ H fun k H1 => if k = true then ta σ H1 Q else tb σ H1 Q) := by
  refine ⟨fun pins s σ H Q I h => ?_⟩
  refine isTrue_IfExp (thn (hc.run pins s σ H _ I h) fun d s1 ⟨H1, I1, q1⟩ => ?_)
  cases d with
  | true => exact ha.run pins s1 σ H1 Q I1 q1
  | false => exact hb.run pins s1 σ H1 Q I1 q1
theorem t_ite {T : Tab} {G : Nat → Option D} {g : SG} {W : WX} {pu : Bool} {X : Cx} {a b c : Expr} {ia ib ic : IE} {pos : Pos} (hi : ic ≠ .nil) (h1 : ia ≠ .nil) (h2 : ib ≠ .nil) (hc : PT X c (tT T G g W pu ic)) (ha : PT X a (tT T G g W pu ia)) (hb : PT X b (tT T G g W pu ib)) : PT X (.IfExp c a b pos) (tT T G g W pu (.ite ic ia ib)) :=
  (pt_ifExp hc ha hb).imp fun σ H Q ⟨σd, F, Os, rel, k⟩ => by
    rw [evT_of T G (by simp)] at k
    simp only [evE] at k
    have e : (((evE T G ic σd).bind fun x σ1 => (ofO (asB x) σ1).bind fun k σ2 => if k = true then evE T G ia σ2 else evE T G ib σ2).bind fun x σ1 => ofO (asB x) σ1) = (evT T G ic σd).bind fun k σ2 => if k = true then evT T G ia σ2 else evT T G ib σ2 := by
      rw [evT_of T G hi, ER.bind_assoc, ER.bind_assoc]
      congr 1
      funext x σ1
      rw [ER.bind_assoc]
      congr 1
      funext k σ2
      cases k
      · exact (evT_of T G h2 σ2).symm
      · exact (evT_of T G h1 σ2).symm
    rw [e] at k
    refine ⟨σd, F, Os, rel, KE.bind k fun x σ1 v H1 F1 Os1 rel1 rx l1 gr1 k1 => ?_⟩
    subst rx
    cases x with
    | true => exact ⟨σ1, F1, Os1, rel1, k1⟩
    | false => exact ⟨σ1, F1, Os1, rel1, k1⟩
end
/-- the fields' names -/
structure FN (g : SG) (fld : List Str) : Prop where
  at_ : ∀ i, g.fnm i = (fld[i]?).getD ""
  nd : fld.Nodup
  ne : ("" : Str) ∉ fld
theorem FN.inj {g : SG} {fld : List Str} (h : FN g fld) {f : Nat} {x : Str} (e : fld[f]? = some x) : g.fnm f = x ∧ ∀ i, g.fnm i = x → i = f := by
  refine ⟨by rw [h.at_, e]; rfl, fun i hi => ?_⟩
  rw [h.at_] at hi
  cases q : fld[i]? with
  | none =>
    rw [q] at hi
    have hi : ("" : Str) = x := hi
    rw [← hi] at e
    exact absurd (List.mem_of_getElem? e) h.ne
  | some y =>
    rw [q] at hi
    have hi : y = x := hi
    subst hi
    obtain ⟨a1, a2⟩ := List.getElem?_eq_some_iff.mp q
    obtain ⟨b1, b2⟩ := List.getElem?_eq_some_iff.mp e
    exact (List.getElem_inj h.nd).mp (a2.trans b2.symm)
section
variable {g : SG}
theorem lookup_fld {x : Str} {f : Nat} (h1 : g.fnm f = x) (h2 : ∀ i, g.fnm i = x → i = f) : ∀ {fs : List Nat} {fvs : List (Str × V)} {k : Nat}, fvs.map (·.1) = fs.map g.fnm → fIx f fs = some k → fvs.lookup x = (fvs[k]?).map (·.2)
  | [], _, _, _, e => by simp [fIx] at e
  | a :: fs, [], _, h, _ => by simp at h
  | a :: fs, (y, v) :: fvs, k, h, e => by
    simp only [List.map_cons, List.cons.injEq] at h
    unfold fIx at e
    by_cases ha : a = f
    · rw [if_pos ha] at e
      cases e
      have : (x == y) = true := by rw [h.1, ha, h1]; exact beq_self_eq_true x
      simp only [List.lookup, this]
      rfl
    · rw [if_neg ha] at e
      obtain ⟨j, e1, rfl⟩ := Option.map_eq_some_iff.mp e
      have : (x == y) = false := by
        rw [beq_eq_false_iff_ne]
        intro q
        exact ha (h2 a (by rw [← h.1, ← q]))
      simp only [List.lookup, this]
      rw [lookup_fld h1 h2 h.2 e1]
      simp
theorem lookup_no {x : Str} : ∀ {fs : List Nat} {fvs : List (Str × V)}, (∀ i ∈ fs, g.fnm i ≠ x) → fvs.map (·.1) = fs.map g.fnm → fvs.lookup x = none
  | [], [], _, _ => rfl
  | [], _ :: _, _, h => by simp at h
  | a :: fs, [], _, h => by simp at h
  | a :: fs, (y, v) :: fvs, hn, h => by
    simp only [List.map_cons, List.cons.injEq] at h
    have : (x == y) = false := by
      rw [beq_eq_false_iff_ne]
      intro q
      exact hn a List.mem_cons_self (by rw [← h.1, ← q])
    simp only [List.lookup, this]
    exact lookup_no (fun i hi => hn i (List.mem_cons_of_mem _ hi)) h.2
theorem putF_at {x : Str} {f : Nat} {v : V} (h1 : g.fnm f = x) (h2 : ∀ i, g.fnm i = x → i = f) : ∀ {fs : List Nat} {fvs : List (Str × V)} {k : Nat}, fvs.map (·.1) = fs.map g.fnm → fIx f fs = some k → (putF x v fvs).map (·.1) = fs.map g.fnm ∧ (putF x v fvs).map (·.2) = (fvs.map (·.2)).set k v
  | [], _, _, _, e => by simp [fIx] at e
  | a :: fs, [], _, h, _ => by simp at h
  | a :: fs, (y, w) :: fvs, k, h, e => by
    have h0 := h
    simp only [List.map_cons, List.cons.injEq] at h
    unfold fIx at e
    unfold putF
    by_cases ha : a = f
    · rw [if_pos ha] at e
      cases e
      rw [if_pos (show y = x by rw [h.1, ha, h1])]
      exact ⟨by simpa using h0, by simp⟩
    · rw [if_neg ha] at e
      obtain ⟨j, e1, rfl⟩ := Option.map_eq_some_iff.mp e
      rw [if_neg (fun q => ha (h2 a (by rw [← h.1]; exact q)))]
      obtain ⟨i1, i2⟩ := putF_at (v := v) h1 h2 h.2 e1
      exact ⟨by simp [h.1, i1], by simp [i2]⟩
theorem putF_new {x : Str} {f : Nat} {v : V} (h1 : g.fnm f = x) (h2 : ∀ i, g.fnm i = x → i = f) : ∀ {fs : List Nat} {fvs : List (Str × V)}, fvs.map (·.1) = fs.map g.fnm → fIx f fs = none → (putF x v fvs).map (·.1) = (fs ++ [f]).map g.fnm ∧ (putF x v fvs).map (·.2) = fvs.map (·.2) ++ [v]
  | [], [], _, _ => by
    unfold putF
    simp [h1]
  | [], _ :: _, h, _ => by simp at h
  | a :: fs, [], h, _ => by simp at h
  | a :: fs, (y, w) :: fvs, h, e => by
    simp only [List.map_cons, List.cons.injEq] at h
    unfold fIx at e
    unfold putF
    by_cases ha : a = f
    · rw [if_pos ha] at e; cases e
    · rw [if_neg ha] at e
      rw [if_neg (fun q => ha (h2 a (by rw [← h.1]; exact q)))]
      obtain ⟨i1, i2⟩ := putF_new (v := v) h1 h2 h.2 (Option.map_eq_none_iff.mp e)
      exact ⟨by rw [List.map_cons, i1]; simp [h.1], by rw [List.map_cons, i2]; rfl⟩
end
section
variable {T : Tab} {G : Nat → Option D} {g : SG} {W : WX} {pu : Bool} {pin : List Nat} {X : Cx} {a b c d e o : Expr} {ia ib ic ie io r : IE} {es : List Expr} {pos p2 p apos : Pos}
/-! ### what is never run -/
theorem e_stk : PE X e (tE T G g W pu .stk) := ⟨fun pins s σ H Q I ⟨σd, F, Os, rel, k⟩ => by simp only [evE] at k; exact k.elim⟩
theorem t_stk : PT X e (tT T G g W pu .stk) := ⟨fun pins s σ H Q I ⟨σd, F, Os, rel, k⟩ => by
  rw [evT_of T G (by simp)] at k
  simp only [evE] at k
  exact k.elim⟩
theorem i_stk {tg : Expr} : PI X tg e (tI T G g W pu .stk) := ⟨fun pins s σ H Q I ⟨σd, F, Os, rel, k⟩ => by
  rw [evI_of rfl] at k
  simp only [evE] at k
  exact k.elim⟩
theorem s_stk {ss : List Stmt} {f : Env → SR} (h : ∀ σ, f σ = .stuck) : PSs X ss (tS g W pin f) := ⟨fun pins s σ H D I ⟨σd, F, Os, rel, k⟩ => by rw [h] at k; exact k.elim⟩
/-! ### a field -/
theorem e_ofd {x : Str} {f : Nat} {cs : List Nat} (hcl : ∀ c ∈ cs, Cls X.K (g.cad c) ∧ NoAttr X.K (g.cad c) x) (hx : g.fnm f = x ∧ ∀ i, g.fnm i = x → i = f) (hb : pBase a = true) (ha : PE X a (tE T G g W pu ia)) :
    PE X (.Attribute a x pos) (tE T G g W pu (.ofd ia f cs)) :=
  (pe_fld ha (base_of hb x X.env _)).imp fun σ H Q ⟨σd, F, Os, rel, k⟩ => by
    simp only [evE] at k
    refine ⟨σd, F, Os, rel, KE.bind k fun x1 σ1 v H1 F1 Os1 rel1 rx l1 gr1 k1 => ?_⟩
    obtain ⟨d, ed, q⟩ := KE.ofO k1
    unfold ofdD at ed
    split at ed
    · rename_i c fs vs
      split at ed
      · rename_i hc
        obtain ⟨j, e1, e2⟩ := Option.bind_eq_some_iff.mp ed
        cases rx with
        | obj h z rs =>
          rename_i a' dx fvs
          obtain ⟨v', e3, rd⟩ := rs.get e2
          have hcs := hcl c (by simpa using hc)
          refine ⟨a', _, dx, fvs, v', rfl, rel1.le _ _ h, hcs.1, hcs.2, ?_, q _ _ _ _ rel1 rd (Gr.refl pu _ _ _)⟩
          rw [lookup_fld hx.1 hx.2 z e1]
          simpa using e3
      · cases ed
    · cases ed
/-! ### a method of an object that never changes -/
theorem CR_res {vs : List V} {H F : Hp} {O : Addr → Prop} {Q : VK} {E : XK} {r : CR} {σ : L2.St} {σd : Env} (h : KE g W pu (RD g) σ H F O Q (methR r σd)) : ∃ d os, r = .ret d os ∧ KE g W pu (RD g) σ H F O Q (.ok d σd) := by
  cases r with
  | ret d os => exact ⟨d, os, rfl, h⟩
  | retM _ _ => exact h.elim
  | exc _ => exact h.elim
  | stuck => exact h.elim
theorem RDs.rms {H F : Hp} : ∀ {ds : List D} {vs : List V}, RDs g F ds vs → ∀ (i : Nat) (m : M), ((ds.map M.d).map some)[i]? = some (some m) → ∃ v, (vs.map some)[i]? = some (some v) ∧ RM g H F m v (fun _ => False)
  | _, _, .nil, i, m, e => by simp at e
  | _, _, .cons r t, 0, m, e => by
    simp at e
    subst e
    exact ⟨_, rfl, .d r⟩
  | _, _, .cons r t, i + 1, m, e => by
    obtain ⟨v, h1, h2⟩ := RDs.rms (H := H) t i m (by simpa using e)
    exact ⟨v, by simpa using h1, h2⟩
theorem meth_fin {σ : L2.St} {H F : Hp} {σd : Env} {Os : Nat → Addr → Prop} {xs : List D} {vs : List V} {f : Nat} {Q : VK} (rel : Rel g H F σd σ Os) (rx : RDs g F xs vs) (k : KE g W pu (RD g) σ H F (Own Os) Q (methR (T f (xs.map M.d)) σd)) :
    spF g T f vs H Q (fun _ _ _ => False) := by
  obtain ⟨d, os, e, k⟩ := CR_res (E := fun _ _ _ => False) (vs := vs) k
  refine ⟨xs.map M.d, F, fun _ _ => False, ⟨rel.le, by simp [rx.length], fun i m e => rx.rms i m e, fun _ _ _ z => z.elim, fun _ _ z => z.elim, fun _ _ z => z.elim⟩, ?_⟩
  rw [e]
  intro v H' F' Os' rel2 rd gr
  refine k v H' F' Os ⟨rel2.le, rel.len, fun i m e => ?_, rel.dj, fun i a z => ?_, fun i a z => gr.al a (rel.al i a z)⟩ rd ⟨gr.ff, fun a o e _ => gr.fr a o e (fun z => z.2.choose_spec.elim), gr.al, fun _ z => .inl z, fun a z => ?_⟩
  · obtain ⟨v', e1, q⟩ := rel.sl i m e
    exact ⟨v', e1, q.frame gr.ff fun a o _ e => gr.fr a o e (fun z => z.2.choose_spec.elim)⟩
  · cases e : F' a with
    | none => rfl
    | some o =>
      exfalso
      rcases gr.fz a (by rw [e]; simp) with w | w | w
      · exact w (rel.nf i a z)
      · exact w.2.choose_spec.elim
      · exact rel.al i a z w
  · rcases gr.fz a z with w | w | w
    · exact .inl w
    · exact w.2.choose_spec.elim
    · exact .inr (.inr w)
theorem passF {CX : Unit} : Passes (L2N.CX X.prog X.w) X (fun _ _ _ => False) := fun pins σ H s e s' I c => L2N.passAt (takesN0 (X := X)) σ pins H s e s' I c
theorem meth_tree {o : Expr} {m : Str} {args : List Expr} {env : PySem.Env} (hb : pBase o = true) (hs : args.all nStar = true) (hn : args.length < 30) (hl : (apos.endLine == pos.line) = true) :
    eval (.Call (.Attribute o m apos) args [] pos) env = (do
      let ov ← eval o env
      standAt apos.atName
      let (f, first) ← holding [ov] (getMethod ov m (plainOf o env))
      PySem.callWith pos f first (backTo pos (starEach args env)) (backToKw pos (keywordEach [] env))) := by
  have hf : methodCallForm (args.length + ([] : List Keyword).length) (backTo pos (starEach args env)) (backToKw pos (keywordEach [] env)) = true := by
    unfold methodCallForm
    rw [noStars' env pos args hs]
    show (true && true && decide (args.length + 0 + 0 < 30)) = true
    rw [decide_eq_true (show args.length + 0 + 0 < 30 by omega)]
    rfl
  have e0 : eval (.Call (.Attribute o m apos) args [] pos) env = (do
      let ov ← attributeBase o m env (eval o env)
      standAt apos.atName
      methodCall o m apos pos env ov (args.length + ([] : List Keyword).length) (backTo pos (starEach args env)) (backToKw pos (keywordEach [] env))) := by
    cases o <;> first | rfl | (simp [pBase] at hb)
  rw [e0, base_of hb]
  congr 1
  funext ov
  congr 1
  funext _
  exact mcall_line hf hl
theorem e_meth {k f bad C : Nat} {ad : Addr} {fd : FuncData} {ps : List Str} {m y : Str} {q : Pos} (hline : (apos.endLine == pos.line) = true) (hc : Cls X.K (g.cad C)) (hm : Meth X.K (g.cad C) m ad) (hbad : ∀ i, g.fnm i = m → i = bad) (F : FnOk X.prog X.w X.K X.mg X.base (L2N.CX X.prog X.w) k ad fd ps (spF g T f)) (hr : Room k X.A)
    (hb : L2.Binds X.K fd ps []) (ho : PE X (.Name y q) (tE T G g W pu io)) (hs : nStar a = true) (hss : es.all nStar = true) (hn : es.length < 29) (hl : PA X (a :: es) (tL T G g W pu r)) :
    PE X (.Call (.Attribute (.Name y q) m apos) (a :: es) [] pos) (tE T G g W pu (.meth bad C f io r)) :=
  (pe_meth ho hc hm F hr hb .nil (passF (CX := ())) hl (starEach_of hs es X.env) (noStars _ _ _ hss) (meth_tree rfl (by rw [List.all_cons, hs, hss]; rfl) (by rw [List.length_cons]; omega) hline)).imp fun σ H Q ⟨σd, F, Os, rel, k⟩ => by
    simp only [evE] at k
    refine ⟨σd, F, Os, rel, KE.bind k fun x1 σ1 v H1 F1 Os1 rel1 rx l1 gr1 k1 => ?_⟩
    cases em : methD bad C x1 with
    | none => rw [em] at k1; exact k1.elim
    | some u =>
      rw [em] at k1
      unfold methD at em
      split at em
      · rename_i c' fs vs
        split at em
        · rename_i hcc
          obtain ⟨rfl, hnb⟩ := hcc
          have rx0 := rx
          cases rx with
          | obj h z rs =>
            rename_i a' dx fvs
            refine ⟨a', dx, fvs, rfl, rel1.le _ _ h, lookup_no (fun i hi q => ?_) z, σ1, F1, Os1, rel1, ?_⟩
            · have := hbad i q
              subst this
              have : fs.contains i = true := by simpa using hi
              rw [hnb] at this
              cases this
            · have k1 := k1
              simp only [ofO_some, ER.bind_ok] at k1
              refine KE.bind k1 fun xs σ2 us H2 F2 Os2 rel2 rxs l2 gr2 k2 => ?_
              rw [List.append_nil]
              exact meth_fin (xs := .obj c' fs vs :: xs) rel2 (.cons (rx0.mono l2) rxs) k2
        · cases em
      · cases em
theorem e_meth0 {k f bad C : Nat} {ad : Addr} {fd : FuncData} {ps : List Str} {m y : Str} {q : Pos} (hline : (apos.endLine == pos.line) = true) (hc : Cls X.K (g.cad C)) (hm : Meth X.K (g.cad C) m ad) (hbad : ∀ i, g.fnm i = m → i = bad) (F : FnOk X.prog X.w X.K X.mg X.base (L2N.CX X.prog X.w) k ad fd ps (spF g T f)) (hr : Room k X.A)
    (hb : L2.Binds X.K fd ps []) (ho : PE X (.Name y q) (tE T G g W pu io)) :
    PE X (.Call (.Attribute (.Name y q) m apos) [] [] pos) (tE T G g W pu (.meth bad C f io .nil)) :=
  (pe_meth0 ho hc hm F hr hb .nil (passF (CX := ())) (meth_tree (args := []) rfl rfl (by decide) hline)).imp fun σ H Q ⟨σd, F, Os, rel, k⟩ => by
    simp only [evE, evL] at k
    refine ⟨σd, F, Os, rel, KE.bind k fun x1 σ1 v H1 F1 Os1 rel1 rx l1 gr1 k1 => ?_⟩
    cases em : methD bad C x1 with
    | none => rw [em] at k1; exact k1.elim
    | some u =>
      rw [em] at k1
      unfold methD at em
      split at em
      · rename_i c' fs vs
        split at em
        · rename_i hcc
          obtain ⟨rfl, hnb⟩ := hcc
          have rx0 := rx
          cases rx with
          | obj h z rs =>
            rename_i a' dx fvs
            refine ⟨a', dx, fvs, rfl, rel1.le _ _ h, lookup_no (fun i hi q => ?_) z, ?_⟩
            · have := hbad i q
              subst this
              have : fs.contains i = true := by simpa using hi
              rw [hnb] at this
              cases this
            · have k1 := k1
              simp only [ofO_some, ER.bind_ok, List.map_nil] at k1
              exact meth_fin (xs := [.obj c' fs vs]) rel1 (.cons rx0 .nil) k1
        · cases em
      · cases em
/-! ### a new object that never changes -/
theorem make_fin {σ : L2.St} {H F : Hp} {σd : Env} {Os : Nat → Addr → Prop} {xs : List D} {vs : List V} {f C : Nat} {Q : VK} {x dx : Addr} (rel : Rel g H F σd σ Os) (rx : RDs g F xs vs) (hx : H x = none) (hdx : H dx = none) (hne : dx ≠ x)
    (k : KE g W pu (RD g) σ H F (Own Os) Q (mkR (T f (.obj C [] [] :: xs.map M.d)) σd)) :
    spF g T f (.ref x :: vs) (upd (upd H dx (.own x)) x (.ins (g.cad C) dx [])) (fun v H2 => v = .non ∧ Q (.ref x) H2) (fun _ _ _ => False) := by
  have hH : LeH H (upd (upd H dx (.own x)) x (.ins (g.cad C) dx [])) := fun a o e => by
    rw [upd_ne (ne_of_none e hx), upd_ne (ne_of_none e hdx)]
    exact e
  have fx : F x = none := by
    cases e : F x with
    | none => rfl
    | some o => rw [rel.le x o e] at hx; cases hx
  have nn : ∀ a, upd (upd H dx (.own x)) x (.ins (g.cad C) dx []) a = none → H a = none := fun a e => by
    cases q : H a with
    | none => rfl
    | some o => rw [hH a o q] at e; cases e
  refine ⟨.obj C [] [] :: xs.map M.d, F, fun k a => k = 0 ∧ a = x, ⟨rel.le.trans hH, by simp [rx.length], fun i m e => ?_, fun i j a z w => by rw [z.1, w.1], fun i a z => by rw [z.2]; exact fx, fun i a z => by rw [z.2, upd_same]; simp⟩, ?_⟩
  · cases i with
    | zero =>
      simp at e
      subst e
      exact ⟨.ref x, rfl, .obj ⟨rfl, rfl⟩ upd_same rfl .nil⟩
    | succ i =>
      obtain ⟨v, h1, h2⟩ := rx.rms (H := upd (upd H dx (.own x)) x (.ins (g.cad C) dx [])) i m (by simpa using e)
      exact ⟨v, by simpa using h1, h2.wide fun _ z => z.elim⟩
  cases er : T f (.obj C [] [] :: xs.map M.d) with
  | retM _ _ => rw [er] at k; exact k.elim
  | exc _ => rw [er] at k; exact k.elim
  | stuck => rw [er] at k; exact k.elim
  | ret d os =>
    rw [er] at k
    unfold mkR at k
    split at k
    · rename_i m os' eq
      cases eq
      intro v H' F' Os' rel2 rd gr
      cases rd
      refine ⟨rfl, ?_⟩
      obtain ⟨v', F3, h1, rel3, rd3, gr3⟩ := rel2.freeze (i := 0) (m := m) rfl
      cases h1
      have gr12 := gr.trans gr3
      have own0 : ∀ a, Own (fun (k : Nat) (a : Addr) => k = 0 ∧ a = x) a → a = x := fun a ⟨_, z⟩ => z.2
      have nx : ∀ {a o}, H a = some o → a ≠ x := fun {a o} e q => by rw [q, hx] at e; cases e
      refine k (.ref x) H' F3 Os ⟨rel3.le, rel.len, fun i m e => ?_, rel.dj, fun i a z => ?_, fun i a z => ?_⟩ rd3 ⟨gr12.ff, fun a o e _ => gr12.fr a o (hH a o e) fun z => nx e (own0 a z.2), fun a e => ?_, fun _ z => .inl z, fun a z => ?_⟩
      · obtain ⟨v', e1, q⟩ := rel.sl i m e
        exact ⟨v', e1, q.frame gr12.ff fun a o _ e => gr12.fr a o (hH a o e) fun z => nx e (own0 a z.2)⟩
      · cases e : F3 a with
        | none => rfl
        | some o =>
          exfalso
          rcases gr12.fz a (by rw [e]; simp) with w | w | w
          · exact w (rel.nf i a z)
          · have := own0 a w.2
            subst this
            exact rel.al i a z hx
          · exact rel.al i a z (nn a w)
      · cases e : H a with
        | none => exact absurd e (rel.al i a z)
        | some o => rw [gr12.fr a o (hH a o e) fun z => nx e (own0 a z.2)]; simp
      · cases q : H a with
        | none => exact absurd q e
        | some o => rw [gr12.fr a o (hH a o q) fun z => nx q (own0 a z.2)]; simp
      · rcases gr12.fz a z with w | w | w
        · exact .inl w
        · exact .inr (.inr (by rw [own0 a w.2]; exact hx))
        · exact .inr (.inr (nn a w))
    · exact k.elim
theorem e_mk {k f C : Nat} {ad : Addr} {fd : FuncData} {ps : List Str} {y : Str} (M : Mk X.K (g.cad C) ad) (F : FnOk X.prog X.w X.K X.mg X.base (L2N.CX X.prog X.w) k ad fd ps (spF g T f)) (hr : Room (k + 1) X.A) (hg : Gl X y) (hm : X.mg y = some (.ref (g.cad C)))
    (hb : L2.Binds X.K fd ps []) (hs : nStar a = true) (hss : es.all nStar = true) (hdb : (y == ("__debug__" : Str)) = false) (hl : PA X (a :: es) (tL T G g W pu r)) :
    PE X (.Call (.Name y p) (a :: es) [] pos) (tE T G g W pu (.mk C f r)) :=
  (pe_make M F hr hg hm hb .nil (passF (CX := ())) hl hdb (starEach_of hs es X.env) (noStars _ _ _ hss)).imp fun σ H Q ⟨σd, F, Os, rel, k⟩ => by
    simp only [evE] at k
    refine ⟨σd, F, Os, rel, KE.bind k fun xs σ1 vs H1 F1 Os1 rel1 rx l1 gr1 k1 => fun x dx hx hdx hne => ?_⟩
    rw [List.append_nil]
    exact make_fin rel1 rx hx hdx hne k1
/-! ### o.f = e -/
theorem swap_att {o : Expr} {x : Str} {q : Pos} (e : Expr) (l : Nat) (env : PySem.Env) : swapsWith e (some (.Attribute o x q)) l env = pure false := by
  cases e <;> rfl
theorem s_setf {i f : Nat} {cs : List Nat} {y x : Str} {q : Pos} (hcl : ∀ c ∈ cs, Cls X.K (g.cad c) ∧ NoAttr X.K (g.cad c) x) (hx : g.fnm f = x ∧ ∀ i, g.fnm i = x → i = f) (hN : X.N[i]? = some y) (hv : Vis X.env.scope y) (hd : (y == ("__debug__" : Str)) = false) (hcd : (y == ("__classdict__" : Str)) = false)
    (he : PE X e (tE T G g W false ie)) :
    PS X (.Assign [.Attribute (.Name y q) x p] e pos) (tS g W pin fun σ => (evE T G ie σ).to fun y σ1 => (ofO (setfM f cs y ((σ1[i]?).bind id)) σ1).to fun m σ2 => .nx (σ2.set i (some m))) :=
  (ps_fld (pe_var hN hv hd hcd) he (swap_att e pos.line X.env)).imp fun E σ H ⟨σd, F, Os, rel, k⟩ => by
    refine ⟨σd, F, Os, rel, KS.to k fun yd σ1 yv H1 F1 Os1 rel1 ry l1 gr1 k1 => ?_⟩
    obtain ⟨m', em, k2⟩ := KS.ofO k1
    unfold setfM at em
    split at em
    · rename_i c fs vs e0
      split at em
      · rename_i hc
        obtain ⟨v, h1, h2⟩ := rel1.get e0
        cases h2 with
        | obj sa h z r =>
          rename_i a' dx fvs
          have hcs := hcl c (by simpa using hc.1)
          have hlen : fvs.length = fs.length := by have := congrArg List.length z; simpa using this
          refine ⟨_, h1, a', _, dx, fvs, rfl, h, hcs.1, hcs.2, by rw [hlen]; exact hc.2, ?_⟩
          have fin : ∀ (m2 : M), m' = m2 → RM g (upd H1 a' (.ins (g.cad c) dx (putF x yv fvs))) F1 m2 (.ref a') (Os1 i) → E.nx σ (upd H1 a' (.ins (g.cad c) dx (putF x yv fvs))) := fun m2 em2 rm => by
            subst em2
            obtain ⟨rel3, gr3⟩ := rel1.write (o := .ins (g.cad c) dx (putF x yv fvs)) (m' := m') e0 h1 sa (by rw [h]; simp) rm
            exact k2 σ _ _ _ rel3 (PinEq.refl _ _) gr3
          cases ek : fIx f fs with
          | some j =>
            rw [ek] at em
            obtain ⟨p1, p2⟩ := putF_at (v := yv) hx.1 hx.2 z ek
            exact fin _ (Option.some.inj em).symm (.obj sa upd_same p1 (by rw [p2]; exact (r.setD ry j).frame (LeH.refl F1) upd_out))
          | none =>
            rw [ek] at em
            obtain ⟨p1, p2⟩ := putF_new (v := yv) hx.1 hx.2 z ek
            refine fin _ (Option.some.inj em).symm (.obj sa upd_same p1 ?_)
            rw [p2]
            refine RMs.append (S1 := fun b => Os1 i b ∧ b ≠ a') (S2 := fun _ => False) (r.frame (LeH.refl F1) upd_out) (.cons (S1 := fun _ => False) (S2 := fun _ => False) (fun _ z => z) (fun _ z => z) (fun _ z => z.elim) (.d ry) .nil) (fun _ z => z) (fun _ z => z.elim) (fun _ _ z => z)
      · cases em
    · cases em
end
end JH

/-! JO2: displays of dicts; k in d. -/
namespace JH
open PySem PySem.Spec PyProof.Rows L2
section
variable {T : Tab} {G : Nat → Option D} {g : SG} {W : WX} {pu : Bool} {pin : List Nat} {X : Cx} {a b c d e o : Expr} {ia ib ic ie io r : IE} {es : List Expr} {pos p2 p apos : Pos}
/-! ### k in d -/
theorem has_of {F H : Hp} {x y : D} {v u : V} {k : Bool} (rx : RD g F x v) (ry : RD g F y u) (le : LeH F H) (h : dHas x y = some k) : ∃ a o, u = .ref a ∧ DGet H a v o ∧ o.isSome = k := by
  unfold dHas at h
  split at h
  · rename_i ks vs
    obtain ⟨q, eq, rfl⟩ := Option.map_eq_some_iff.mp h
    cases ry with
    | dk h1 z1 q1 =>
      rename_i a0 kvs0
      refine ⟨a0, valV kvs0 (toKey q), rfl, ?_, ?_⟩
      · have := DGet.k (k := toKey q) (le _ _ h1)
        rw [key_of_d rx eq]
        exact this
      · rw [kIdx_valV (fun a b => toKey_inj) z1 q]
        cases ej : kIdx ks q with
        | none => rfl
        | some j =>
          have hj : j < ks.length := kIdx_lt ej
          have := congrArg List.length z1
          simp only [List.length_map] at this
          rw [Option.isSome_some, Option.bind_some]
          rw [List.getElem?_map, List.getElem?_eq_getElem (show j < kvs0.length by omega)]
          rfl
  · cases h
theorem e_dhasI (hu : X.A.units + 64 < cLine) (ha : PE X a (tE T G g W pu ia)) (hb : PE X b (tE T G g W pu ib)) (hm : behindInMarks .In b = false) : PE X (.Compare a [.In] [b] pos) (tE T G g W pu (.dhas false ia ib)) :=
  (pe_cmp (pc_din (by omega) ha hb) hm).imp fun σ H Q ⟨σd, F, Os, rel, k⟩ => by
    simp only [evE] at k
    refine ⟨σd, F, Os, rel, KE.bind k fun x σ1 v H1 F1 Os1 rel1 rx l1 gr1 k1 => ⟨σ1, F1, Os1, rel1, KE.bind k1 fun y σ2 u H2 F2 Os2 rel2 ry l2 gr2 k2 => ?_⟩⟩
    obtain ⟨dd, ed, q⟩ := KE.ofO k2
    obtain ⟨kb, ek, rfl⟩ := Option.map_eq_some_iff.mp ed
    obtain ⟨a', o', e1, e2, rfl⟩ := has_of (rx.mono l2) ry rel2.le ek
    exact ⟨a', o', e1, e2, q _ _ _ _ rel2 (by cases o'.isSome <;> exact .bl _) (Gr.refl pu _ _ _)⟩
theorem e_dhasN (hu : X.A.units + 64 < cLine) (ha : PE X a (tE T G g W pu ia)) (hb : PE X b (tE T G g W pu ib)) (hm : behindInMarks .NotIn b = false) : PE X (.Compare a [.NotIn] [b] pos) (tE T G g W pu (.dhas true ia ib)) :=
  (pe_cmp (pc_dnotin (by omega) ha hb) hm).imp fun σ H Q ⟨σd, F, Os, rel, k⟩ => by
    simp only [evE] at k
    refine ⟨σd, F, Os, rel, KE.bind k fun x σ1 v H1 F1 Os1 rel1 rx l1 gr1 k1 => ⟨σ1, F1, Os1, rel1, KE.bind k1 fun y σ2 u H2 F2 Os2 rel2 ry l2 gr2 k2 => ?_⟩⟩
    obtain ⟨dd, ed, q⟩ := KE.ofO k2
    obtain ⟨kb, ek, rfl⟩ := Option.map_eq_some_iff.mp ed
    obtain ⟨a', o', e1, e2, rfl⟩ := has_of (rx.mono l2) ry rel2.le ek
    exact ⟨a', o', e1, e2, q _ _ _ _ rel2 (by cases o'.isSome <;> exact .bl _) (Gr.refl pu _ _ _)⟩
theorem t_dhasI (hu : X.A.units + 64 < cLine) (ha : PE X a (tE T G g W pu ia)) (hb : PE X b (tE T G g W pu ib)) (hm : behindInMarks .In b = false) : PT X (.Compare a [.In] [b] pos) (tT T G g W pu (.dhas false ia ib)) :=
  (pt_cmp (pc_din (by omega) ha hb) hm).imp fun σ H Q ⟨σd, F, Os, rel, k⟩ => by
    rw [evT_of T G (by simp)] at k
    simp only [evE] at k
    refine ⟨σd, F, Os, rel, KE.bind (KE.bind_assoc k) fun x σ1 v H1 F1 Os1 rel1 rx l1 gr1 k1 => ⟨σ1, F1, Os1, rel1, KE.bind (KE.bind_assoc k1) fun y σ2 u H2 F2 Os2 rel2 ry l2 gr2 k2 => ?_⟩⟩
    cases ek : dHas x y with
    | none => rw [ek] at k2; exact k2.elim
    | some kb =>
      rw [ek] at k2
      obtain ⟨a', o', e1, e2, rfl⟩ := has_of (rx.mono l2) ry rel2.le ek
      exact ⟨a', o', e1, e2, o'.isSome, rfl, k2 _ _ _ _ rel2 (by cases o'.isSome <;> rfl) (Gr.refl pu _ _ _)⟩
theorem t_dhasN (hu : X.A.units + 64 < cLine) (ha : PE X a (tE T G g W pu ia)) (hb : PE X b (tE T G g W pu ib)) (hm : behindInMarks .NotIn b = false) : PT X (.Compare a [.NotIn] [b] pos) (tT T G g W pu (.dhas true ia ib)) :=
  (pt_cmp (pc_dnotin (by omega) ha hb) hm).imp fun σ H Q ⟨σd, F, Os, rel, k⟩ => by
    rw [evT_of T G (by simp)] at k
    simp only [evE] at k
    refine ⟨σd, F, Os, rel, KE.bind (KE.bind_assoc k) fun x σ1 v H1 F1 Os1 rel1 rx l1 gr1 k1 => ⟨σ1, F1, Os1, rel1, KE.bind (KE.bind_assoc k1) fun y σ2 u H2 F2 Os2 rel2 ry l2 gr2 k2 => ?_⟩⟩
    cases ek : dHas x y with
    | none => rw [ek] at k2; exact k2.elim
    | some kb =>
      rw [ek] at k2
      obtain ⟨a', o', e1, e2, rfl⟩ := has_of (rx.mono l2) ry rel2.le ek
      exact ⟨a', o', e1, e2, !o'.isSome, rfl, k2 _ _ _ _ rel2 (by cases o'.isSome <;> rfl) (Gr.refl pu _ _ _)⟩
/-! ### {k: v, ..} -/
def kE : Sum Int (List Nat) → IE
  | .inl i => .cI i
  | .inr s => .cS s
def tPs (T : Tab) (G : Nat → Option D) (g : SG) (W : WX) (pu : Bool) : List (Sum Int (List Nat)) → IE → List (TE × TE)
  | k :: ks, .cons a r => (tE T G g W pu (kE k), tE T G g W pu a) :: tPs T G g W pu ks r
  | _, _ => []
def zipK : List (Sum Int (List Nat)) → List V → List (Key × V)
  | k :: ks, v :: vs => (toKey k, v) :: zipK ks vs
  | _, _ => []
theorem zipK_fst : ∀ {ks : List (Sum Int (List Nat))} {vs : List V}, vs.length = ks.length → (zipK ks vs).map (·.1) = ks.map toKey
  | [], [], _ => rfl
  | [], _ :: _, h => by simp at h
  | _ :: _, [], h => by simp at h
  | k :: ks, v :: vs, h => by simp only [zipK, List.map_cons, zipK_fst (ks := ks) (vs := vs) (by simpa using h)]
theorem zipK_snd : ∀ {ks : List (Sum Int (List Nat))} {vs : List V}, vs.length = ks.length → (zipK ks vs).map (·.2) = vs
  | [], [], _ => rfl
  | [], _ :: _, h => by simp at h
  | _ :: _, [], h => by simp at h
  | k :: ks, v :: vs, h => by simp only [zipK, List.map_cons, zipK_snd (ks := ks) (vs := vs) (by simpa using h)]
theorem zipK_len : ∀ {ks : List (Sum Int (List Nat))} {vs : List V}, (zipK ks vs).length ≤ ks.length
  | [], _ => by simp [zipK]
  | _ :: _, [] => by simp [zipK]
  | k :: ks, v :: vs => by simp only [zipK, List.length_cons]; have := zipK_len (ks := ks) (vs := vs); omega
theorem kE_ev {k : Sum Int (List Nat)} {σ : L2.St} {H F : Hp} {σd : Env} {Os : Nat → Addr → Prop} {Q : VK} (rel : Rel g H F σd σ Os) (h : ∀ v H' F' Os', Rel g H' F' σd σ Os' → v = kV (toKey k) → Gr pu H F (Own Os) H' F' (Own Os') → Q v H') : tE T G g W pu (kE k) σ H Q := by
  refine ⟨σd, F, Os, rel, ?_⟩
  cases k with
  | inl i =>
    simp only [kE, evE]
    intro v H' F' Os' rel' rd gr
    cases rd
    exact h _ H' F' Os' rel' rfl gr
  | inr s =>
    simp only [kE, evE]
    intro v H' F' Os' rel' rd gr
    cases rd
    exact h _ H' F' Os' rel' rfl gr
theorem pairs_tr {σ : L2.St} : ∀ (l : IE) (ks : List (Sum Int (List Nat))) (H F : Hp) (σd : Env) (Os : Nat → Addr → Prop) (Q : List V → Hp → Prop) (R : List (V × V) → Hp → Prop), ks.length = l.len → Rel g H F σd σ Os → KE g W pu (RDs g) σ H F (Own Os) Q (evL T G l σd) →
    (∀ vs H', vs.length = ks.length → Q vs H' → R ((zipK ks vs).map (fun kv => (kV kv.1, kv.2))) H') → tPairs (tPs T G g W pu ks l) σ H R := fun l => by
  induction l with
  | nil =>
    intro ks H F σd Os Q R hl rel k hR
    simp only [IE.len, List.length_eq_zero_iff] at hl
    subst hl
    simp only [evL] at k
    exact hR [] H rfl (k [] H F Os rel .nil (Gr.refl pu _ _ _))
  | cons a r _ ih =>
    intro ks H F σd Os Q R hl rel k hR
    cases ks with
    | nil => simp [IE.len] at hl
    | cons q ks =>
      simp only [IE.len, List.length_cons, Nat.add_right_cancel_iff] at hl
      simp only [evL] at k
      refine kE_ev rel fun v1 H1 F1 Os1 rel1 ev gr1 => ?_
      subst ev
      have k := KE.later k gr1
      refine ⟨σd, F1, Os1, rel1, KE.bind k fun x σ1 v H2 F2 Os2 rel2 rx l2 gr2 k2 => ?_⟩
      have k3 : KE g W pu (RDs g) σ H2 F2 (Own Os2) (fun vs H' => Q (v :: vs) H') (evL T G r σ1) := by
        refine KE.bind k2 fun xs σ2 vs H3 F3 Os3 rel3 rxs l3 gr3 k3 => ?_
        exact k3 (v :: vs) H3 F3 Os3 rel3 (.cons (rx.mono l3) rxs) (Gr.refl pu _ _ _)
      exact ih ks H2 F2 σ1 Os2 _ _ hl rel2 k3 fun vs H' h1 h2 => hR (v :: vs) H' (by simp [h1]) h2
  | _ =>
    intro ks H F σd Os Q R hl rel k
    simp only [evL] at k
    exact k.elim
theorem putK_new {kvs : List (Key × V)} {k : Key} {v : V} (h : k ∉ kvs.map (·.1)) : putK kvs k v = kvs ++ [(k, v)] := by
  unfold putK
  rw [if_neg]
  intro z
  obtain ⟨p, hp, e⟩ := List.any_eq_true.mp z
  exact h (List.mem_map.mpr ⟨p, hp, of_decide_eq_true e⟩)
theorem merge_new : ∀ {more acc : List (Key × V)}, ((acc ++ more).map (·.1)).Nodup → mergeK acc more = acc ++ more
  | [], acc, _ => by simp [mergeK]
  | p :: more, acc, h => by
    have hp : p.1 ∉ acc.map (·.1) := fun z => by
      rw [List.map_append, List.nodup_append] at h
      exact h.2.2 _ z _ (by simp) rfl
    show mergeK (putK acc p.1 p.2) more = _
    rw [putK_new hp]
    have : (acc ++ [(p.1, p.2)]) ++ more = acc ++ p :: more := by simp
    rw [merge_new (more := more) (acc := acc ++ [(p.1, p.2)]) (by rw [this]; exact h), this]
theorem toKeys_nodup {ks : List (Sum Int (List Nat))} (h : ks.Nodup) : (ks.map toKey).Nodup := by
  rw [List.Nodup, List.pairwise_map]
  exact h.imp fun hne e => hne (toKey_inj e)
theorem e_dct {keys : List (Option Expr)} {values : List Expr} {ks : List (Sum Int (List Nat))} {l : IE} (h : PPs X pos keys values (tPs T G g W pu ks l)) (hall : keys.all (·.isSome) = true) (hl : keys.length = values.length) (h0 : keys ≠ []) (h15 : ks.length ≤ 15) (hk15 : keys.length ≤ 15) (hlen : ks.length = l.len) (nd : ks.Nodup) :
    PE X (.Dict keys values pos) (tE T G g W pu (.dct ks l)) :=
  (pe_disp h hall hl h0 hk15).imp fun σ H Q ⟨σd, F, Os, rel, k⟩ => by
    simp only [evE] at k
    intro p np
    have fp : ∀ {F' H' : Hp}, LeH F' H' → H' p = none → F' p = none := fun {F' H'} le e => by
      cases q : F' p with
      | none => rfl
      | some o => rw [le p o q] at e; cases e
    have f1 := fp rel.le np
    have xt : Ext H F (upd H p (.dK [])) F := ⟨LeH.refl F, fun a o e => by
      rw [upd_ne (fun z => by subst z; rw [f1] at e; cases e)]
      exact rel.le a o e, fun a o e => by rw [upd_ne (ne_of_none e np)]; exact e, fun _ h => .inl h⟩
    have rel1 := rel.ext xt
    have nO : ¬ Own Os p := fun ⟨i, z⟩ => rel.al i p z np
    have k2 : KE g W pu (RDs g) σ (upd H p (.dK [])) F (Own Os) (fun vs H2 => vs.length = ks.length → H2 p = some (.dK []) ∧ Q (.ref p) (upd H2 p (.dK (zipK ks vs)))) (evL T G l σd) := by
      cases er : evL T G l σd with
      | stuck => rw [er] at k; exact k
      | exc x σe => rw [er] at k; exact KE.later (r := .exc x σe) k (xt.gr pu)
      | ok xs σ1 =>
        rw [er] at k
        rw [ER.bind_ok] at k
        intro vs H2 F2 Os2 rel2 rxs gr2 hvl
        have h2 : H2 p = some (.dK []) := gr2.fr p _ upd_same fun z => nO z.2
        have f2 : F2 p = none := by
          cases q : F2 p with
          | none => rfl
          | some o =>
            exfalso
            rcases gr2.fz p (by rw [q]; simp) with w | w | w
            · exact w f1
            · exact nO w.2
            · rw [upd_same] at w; cases w
        have nO2 : ¬ Own Os2 p := fun z => by
          rcases gr2.ow p z with w | w
          · exact nO w
          · rw [upd_same] at w; cases w
        have un : ∀ a, upd H p (.dK []) a = none → H a = none := fun a e => by
          rw [upd_ne (fun z => by subst z; rw [upd_same] at e; cases e)] at e
          exact e
        refine ⟨h2, ?_⟩
        split at k
        · have hz := zipK_fst hvl
          have hz2 := zipK_snd hvl
          have le2 : LeH F2 (upd H2 p (.dK (zipK ks vs))) := fun a o e => by
            rw [upd_ne (fun z => by subst z; rw [f2] at e; cases e)]
            exact rel2.le a o e
          have rel3 : Rel g (upd H2 p (.dK (zipK ks vs))) F2 σ1 σ Os2 := by
            refine ⟨le2, rel2.len, fun i m e => ?_, rel2.dj, rel2.nf, fun i a z => ?_⟩
            · obtain ⟨v', e1, q⟩ := rel2.sl i m e
              exact ⟨v', e1, q.frame (LeH.refl F2) fun a o sa e => by rw [upd_ne (fun z => nO2 ⟨i, by rw [← z]; exact sa⟩)]; exact e⟩
            · rw [upd_ne (fun w => nO2 ⟨i, by rw [← w]; exact z⟩)]
              exact rel2.al i a z
          obtain ⟨rel4, ff⟩ := frz1 rel3 (o := .dK (zipK ks vs)) upd_same f2 nO2
          refine k (.ref p) _ _ Os2 rel4 (.dk upd_same hz (by rw [hz2]; exact rxs.mono ff)) ⟨gr2.ff.trans ff, fun a o e n => ?_, fun a e => ?_, fun a z => ?_, fun a z => ?_⟩
          · have hne : a ≠ p := ne_of_none e np
            rw [upd_ne hne]
            exact gr2.fr a o (by rw [upd_ne hne]; exact e) n
          · by_cases z : a = p
            · subst z; rw [upd_same]; simp
            · rw [upd_ne z]; exact gr2.al a (by rw [upd_ne z]; exact e)
          · exact (gr2.ow a z).imp id (un a)
          · by_cases z' : a = p
            · subst z'; exact .inr (.inr np)
            · rw [upd_ne z'] at z
              exact (gr2.fz a z).imp id fun w => w.imp id (un a)
        · exact k.elim
    refine pairs_tr l ks _ F σd Os _ _ hlen rel1 k2 fun vs H2 hv q => ?_
    obtain ⟨q1, q2⟩ := q hv
    refine ⟨q1, zipK ks vs, rfl, Nat.le_trans zipK_len h15, ?_⟩
    rw [merge_new (acc := []) (by rw [List.nil_append, zipK_fst hv]; exact toKeys_nodup nd)]
    exact q2
end
end JH

/-! JO3: comprehensions of two clauses. -/
namespace JH
open PySem PySem.Spec PyProof.Rows L2
section
variable {T : Tab} {G : Nat → Option D} {g : SG} {W : WX} {pu : Bool} {X : Cx} {i1 i2 ie : IE} {pos : Pos}
/-- the list at D is being made -/
structure LS (g : SG) (pu : Bool) (D : Addr) (H1 F1 : Hp) (O1 : Addr → Prop) (σw : L2.St) (ds : List JH.D) (H F : Hp) (σd : Env) (Os : Nat → Addr → Prop) : Prop where
  acc : ∃ acc, H D = some (.lst acc) ∧ RDs g F ds acc
  rel : Rel g H F σd σw Os
  fd : F D = none
  nO : ¬ Own Os D
  gr : Gr pu H1 F1 O1 H F (Own Os)
section
variable {D : Addr} {H1 F1 H F H' F' : Hp} {O1 : Addr → Prop} {σw σw' : L2.St} {ds : List JH.D} {σd σd' : Env} {Os Os' : Nat → Addr → Prop}
theorem LS.step (h : LS g pu D H1 F1 O1 σw ds H F σd Os) (r : Rel g H' F' σd' σw' Os') (x : Gr pu H F (Own Os) H' F' (Own Os')) : LS g pu D H1 F1 O1 σw' ds H' F' σd' Os' := by
  obtain ⟨acc, h1, h2⟩ := h.acc
  refine ⟨⟨acc, x.fr D _ h1 fun z => h.nO z.2, h2.mono x.ff⟩, r, ?_, fun z => ?_, h.gr.trans x⟩
  · cases e : F' D with
    | none => rfl
    | some o =>
      rcases x.fz D (by rw [e]; simp) with w | w | w
      · exact absurd h.fd w
      · exact absurd w.2 h.nO
      · rw [h1] at w; cases w
  · rcases x.ow D z with w | w
    · exact h.nO w
    · rw [h1] at w; cases w
theorem LS.less (h : LS g pu D H1 F1 O1 σw ds H F σd Os) (r : Rel g H F σd' σw' Os') (ho : ∀ a, Own Os' a → Own Os a) : LS g pu D H1 F1 O1 σw' ds H F σd' Os' :=
  ⟨h.acc, r, h.fd, fun z => h.nO (ho D z), ⟨h.gr.ff, h.gr.fr, h.gr.al, fun a z => h.gr.ow a (ho a z), h.gr.fz⟩⟩
theorem LS.app (h : LS g pu D H1 F1 O1 σw ds H F σd Os) (nD : H1 D = none) {acc : List V} (hD : H D = some (.lst acc)) (rds : RDs g F ds acc) {yd : JH.D} {yv : V} (ry : RD g F yd yv) : LS g pu D H1 F1 O1 σw (ds ++ [yd]) (upd H D (.lst (acc ++ [yv]))) F σd Os := by
  have al7 : ∀ a, H a ≠ none → upd H D (.lst (acc ++ [yv])) a ≠ none := fun a h => by
    by_cases z : a = D
    · subst z; rw [upd_same]; simp
    · rw [upd_ne z]; exact h
  refine ⟨⟨_, upd_same, rds.append (.cons ry .nil)⟩, ⟨fun a o e => ?_, h.rel.len, fun j m e => ?_, h.rel.dj, h.rel.nf, fun j a z => al7 a (h.rel.al j a z)⟩, h.fd, h.nO, ⟨h.gr.ff, fun a o e n => ?_, fun a e => al7 a (h.gr.al a e), h.gr.ow, h.gr.fz⟩⟩
  · rw [upd_ne (fun z => by subst z; rw [h.fd] at e; cases e)]
    exact h.rel.le a o e
  · obtain ⟨v, e1, q⟩ := h.rel.sl j m e
    refine ⟨v, e1, q.frame (LeH.refl F) fun a o z e => ?_⟩
    rw [upd_ne (fun w => by subst w; exact h.nO ⟨j, z⟩)]
    exact e
  · rw [upd_ne (fun z => by subst z; rw [nD] at e; cases e)]
    exact h.gr.fr a o e n
/-- the comprehension's end -/
theorem LS.fin {σ : L2.St} {σ1 : Env} {Os1 : Nat → Addr → Prop} {own : List Nat} {Q : VK} (h : LS g pu D H1 F1 (Own fun i a => i ∉ own ∧ Os1 i a) (wipe σ own) ds H F σd Os) (nD : H1 D = none) (rel1 : Rel g H1 F1 σ1 σ Os1) (hz : ds.length ≤ 16777216)
    (k2 : KN g W pu σ H1 F1 (Own Os1) Q (.ok ds (backD σ1 σd own))) : Q (.ref D) H := by
  obtain ⟨acc, hD, rds⟩ := h.acc
  have gr2 := h.gr
  have rel2 := h.rel
  have hacc : acc.length ≤ sizeLine := by rw [← rds.length, line_eq]; exact hz
  refine k2 D acc H F (fun j a => (j ∈ own ∧ Os1 j a) ∨ (j ∉ own ∧ Os j a)) ⟨rel2.le, ?_, fun j m e => ?_, fun j l a x y => ?_, fun j a x => ?_, fun j a x => ?_⟩ hD h.fd (fun ⟨j, x⟩ => ?_) (.inl nD) rds hacc ⟨gr2.ff, fun a o e n => ?_, gr2.al, fun a ⟨j, x⟩ => ?_, fun a e => ?_⟩
  · rw [backD_len, rel2.len, wipe_length]
  · by_cases hjo : j ∈ own
    · have hl : j < σd.length := by
        by_cases hl : j < σd.length
        · exact hl
        · rw [List.getElem?_eq_none (by rw [backD_len]; omega)] at e; cases e
      rw [backD_in hjo hl] at e
      have e' : (σ1[j]?).bind id = some m := Option.some.inj e
      obtain ⟨v, e1, q⟩ := rel1.get e'
      refine ⟨v, e1, (q.frame gr2.ff fun a o z e => gr2.fr a o e fun w => ?_).wide fun a z => .inl ⟨hjo, z⟩⟩
      obtain ⟨_, l, w1, w2⟩ := w
      have := rel1.dj j l a z w2
      subst this
      exact w1 hjo
    · rw [backD_out hjo] at e
      obtain ⟨v, e1, q⟩ := rel2.sl j m e
      rw [L2.wipe_out hjo] at e1
      exact ⟨v, e1, q.wide fun a z => .inr ⟨hjo, z⟩⟩
  · rcases x with ⟨x1, x2⟩ | ⟨x1, x2⟩ <;> rcases y with ⟨y1, y2⟩ | ⟨y1, y2⟩
    · exact rel1.dj j l a x2 y2
    · exfalso
      rcases gr2.ow a ⟨l, y2⟩ with ⟨q, w1, w2⟩ | w
      · have := rel1.dj j q a x2 w2
        subst this
        exact w1 x1
      · exact rel1.al j a x2 w
    · exfalso
      rcases gr2.ow a ⟨j, x2⟩ with ⟨q, w1, w2⟩ | w
      · have := rel1.dj l q a y2 w2
        subst this
        exact w1 y1
      · exact rel1.al l a y2 w
    · exact rel2.dj j l a x2 y2
  · rcases x with ⟨x1, x2⟩ | ⟨x1, x2⟩
    · cases e : F a with
      | none => rfl
      | some o =>
        exfalso
        rcases gr2.fz a (by rw [e]; simp) with w | w | w
        · exact w (rel1.nf j a x2)
        · obtain ⟨_, q, w1, w2⟩ := w
          have := rel1.dj j q a x2 w2
          subst this
          exact w1 x1
        · exact rel1.al j a x2 w
    · exact rel2.nf j a x2
  · rcases x with ⟨x1, x2⟩ | ⟨x1, x2⟩
    · exact gr2.al a (rel1.al j a x2)
    · exact rel2.al j a x2
  · rcases x with ⟨x1, x2⟩ | ⟨x1, x2⟩
    · exact rel1.al j D x2 nD
    · exact h.nO ⟨j, x2⟩
  · exact gr2.fr a o e fun ⟨w1, l, w2⟩ => n ⟨w1, l, w2.2⟩
  · rcases x with ⟨x1, x2⟩ | ⟨x1, x2⟩
    · exact .inl ⟨j, x2⟩
    · exact (gr2.ow a ⟨j, x2⟩).imp (fun ⟨l, w⟩ => ⟨l, w.2⟩) id
  · exact (gr2.fz a e).imp id fun w => w.imp (fun ⟨w1, l, w2⟩ => ⟨w1, l, w2.2⟩) id
end
/-! ### the loops -/
theorem compL_nox {f : JH.D → Env → ER (Option JH.D)} : ∀ {xs : List JH.D} {σ : Env} {e : EX} {σ' : Env}, compL f xs σ ≠ .exc e σ'
  | [], _, _, _, h => by simp [compL] at h
  | x :: xs, σ, e, σ', h => by
    unfold compL at h
    cases q : f x σ with
    | ok o σ1 =>
      rw [q] at h
      cases o with
      | none => exact compL_nox h
      | some y =>
        cases q2 : compL f xs σ1 with
        | ok _ _ => simp only [q2, ER.bind_ok] at h; cases h
        | exc _ _ => exact compL_nox q2
        | stuck => simp only [q2, ER.bind_stuck] at h; cases h
    | exc _ _ => rw [q] at h; cases h
    | stuck => rw [q] at h; cases h
theorem compC_nox {f : JH.D → Env → ER (List JH.D)} : ∀ {xs : List JH.D} {σ : Env} {e : EX} {σ' : Env}, compC f xs σ ≠ .exc e σ'
  | [], _, _, _, h => by simp [compC] at h
  | x :: xs, σ, e, σ', h => by
    unfold compC at h
    cases q : f x σ with
    | ok o σ1 =>
      rw [q] at h
      cases q2 : compC f xs σ1 with
      | ok _ _ => simp only [q2, ER.bind_ok] at h; cases h
      | exc _ _ => exact compC_nox q2
      | stuck => simp only [q2, ER.bind_stuck] at h; cases h
    | exc _ _ => rw [q] at h; cases h
    | stuck => rw [q] at h; cases h
/-- the inner turn, the outer turn -/
def compG (T : Tab) (G : Nat → Option D) (ie : IE) (t2 : Tg) (own2 : List Nat) : JH.D → Env → ER (Option JH.D) := fun y σ5 => match asgT t2 y σ5 with
  | some σ6 => (evE T G ie σ6).bind fun z σ7 => .ok (some z) (wipeD σ7 own2)
  | none => .stuck
def compO (T : Tab) (G : Nat → Option D) (ie : IE) (t1 t2 : Tg) (i2 : IE) (own own2 : List Nat) : JH.D → Env → ER (List JH.D) := fun x σ2 => match asgT t1 x σ2 with
  | some σ3 => (evI T G i2 σ3).bind fun ys σ4 => (compL (compG T G ie t2 own2) ys (wipeD σ4 own2)).bind fun zs σ8 => .ok zs (wipeD σ8 own)
  | none => .stuck
def finC (σ1 : Env) (own : List Nat) (ys : List JH.D) (σ2 : Env) : ER (List JH.D) := if ys.length ≤ 16777216 then .ok ys (backD σ1 σ2 own) else .stuck
/-- what is left of the outer loop, ds made -/
def leftO (T : Tab) (G : Nat → Option D) (ie : IE) (t1 t2 : Tg) (i2 : IE) (own own2 : List Nat) (σ1 : Env) (xs : List JH.D) (ds : List JH.D) (σ : Env) : ER (List JH.D) := (compC (compO T G ie t1 t2 i2 own own2) xs σ).bind fun ys σ2 => finC σ1 own (ds ++ ys) σ2
def leftI (T : Tab) (G : Nat → Option D) (ie : IE) (t1 t2 : Tg) (i2 : IE) (own own2 : List Nat) (σ1 : Env) (xs ys : List JH.D) (ds : List JH.D) (σ : Env) : ER (List JH.D) := (compL (compG T G ie t2 own2) ys σ).bind fun zs σ8 => leftO T G ie t1 t2 i2 own own2 σ1 xs (ds ++ zs) (wipeD σ8 own)
section
variable {t1 t2 : Tg} {own own2 : List Nat} {σ1 : Env}
theorem leftO_len {xs ds : List JH.D} {σ : Env} (h : leftO T G ie t1 t2 i2 own own2 σ1 xs ds σ ≠ .stuck) : ds.length ≤ 16777216 := by
  unfold leftO at h
  cases q : compC (compO T G ie t1 t2 i2 own own2) xs σ with
  | stuck => rw [q] at h; exact absurd rfl h
  | exc _ _ => exact absurd q compC_nox
  | ok ys σ2 =>
    rw [q, ER.bind_ok] at h
    unfold finC at h
    split at h
    · rename_i hz
      rw [List.length_append] at hz
      omega
    · exact absurd rfl h
theorem leftI_len {xs ys ds : List JH.D} {σ : Env} (h : leftI T G ie t1 t2 i2 own own2 σ1 xs ys ds σ ≠ .stuck) : ds.length ≤ 16777216 := by
  unfold leftI at h
  cases q : compL (compG T G ie t2 own2) ys σ with
  | stuck => rw [q] at h; exact absurd rfl h
  | exc _ _ => exact absurd q compL_nox
  | ok zs σ8 =>
    rw [q, ER.bind_ok] at h
    have := leftO_len h
    rw [List.length_append] at this
    omega
theorem KN.ns {σ : L2.St} {H F : Hp} {O : Addr → Prop} {Q : VK} {r : ER (List JH.D)} (k : KN g W pu σ H F O Q r) : r ≠ .stuck := by
  rintro rfl
  exact k
theorem leftO_step {x : JH.D} {xs ds : List JH.D} {σ σ3 : Env} (ea : asgT t1 x σ = some σ3) {ys : List JH.D} {σ4 : Env} (ei : evI T G i2 σ3 = .ok ys σ4) : leftO T G ie t1 t2 i2 own own2 σ1 (x :: xs) ds σ = leftI T G ie t1 t2 i2 own own2 σ1 xs ys ds (wipeD σ4 own2) := by
  unfold leftO leftI compC compO
  simp only [ea, ei, ER.bind_ok]
  cases q : compL (compG T G ie t2 own2) ys (wipeD σ4 own2) with
  | stuck => rfl
  | exc _ _ => exact absurd q compL_nox
  | ok zs σ8 =>
    simp only [ER.bind_ok]
    unfold leftO compO
    rw [ER.bind_assoc]
    simp only [ER.bind_ok, List.append_assoc]
theorem leftO_stuck {x : JH.D} {xs ds : List JH.D} {σ : Env} (h : ∀ ys σ', compO T G ie t1 t2 i2 own own2 x σ ≠ .ok ys σ') : leftO T G ie t1 t2 i2 own own2 σ1 (x :: xs) ds σ = .stuck := by
  unfold leftO compC
  cases q : compO T G ie t1 t2 i2 own own2 x σ with
  | ok ys σ' => exact absurd q (h ys σ')
  | exc _ _ => rfl
  | stuck => rfl
theorem leftI_step {y z : JH.D} {xs ys ds : List JH.D} {σ σ' : Env} (e : compG T G ie t2 own2 y σ = .ok (some z) σ') : leftI T G ie t1 t2 i2 own own2 σ1 xs (y :: ys) ds σ = leftI T G ie t1 t2 i2 own own2 σ1 xs ys (ds ++ [z]) σ' := by
  unfold leftI
  rw [compL_some e, ER.bind_assoc]
  simp only [ER.bind_ok]
  congr 1
  funext zs σ8
  rw [List.append_assoc]
  rfl
theorem leftI_stuck {y : JH.D} {xs ys ds : List JH.D} {σ : Env} (h : ∀ o σ', compG T G ie t2 own2 y σ ≠ .ok o σ') : leftI T G ie t1 t2 i2 own own2 σ1 xs (y :: ys) ds σ = .stuck := by
  unfold leftI compL
  cases q : compG T G ie t2 own2 y σ with
  | ok ys σ' => exact absurd q (h ys σ')
  | exc _ _ => rfl
  | stuck => rfl
end
theorem none_wiped {σ : Env} {own : List Nat} : ∀ j ∈ own, (((wipeD σ own)[j]?).bind id) = none := fun j hj => by
  cases e : (wipeD σ own)[j]? with
  | none => rfl
  | some o =>
    cases o with
    | none => rfl
    | some m => exact absurd hj (wipeD_some e).2
theorem e_comp2_tr {t1 t2 : Tg} {own own2 : List Nat} {σ : L2.St} {H : Hp} {Q : VK} (hto1 : ∀ j ∈ tgS t1, j ∈ own) (hto2 : ∀ j ∈ tgS t2, j ∈ own2) (h12 : ∀ j ∈ own2, j ∈ own) (h : tN T G g W pu (.comp2 ie t1 i1 t2 i2 own own2) σ H Q) :
    tLc2 (tI T G g W pu i1) (tG g t1) (tT T G g W0 pu .nil) (tI T G g W0 pu i2) (tG g t2) (tT T G g W0 pu .nil) (tE T G g W0 pu ie) own own2 σ H Q := by
  obtain ⟨σd, F, Os, rel, k⟩ := h
  have ev : ((evE T G (.comp2 ie t1 i1 t2 i2 own own2) σd).bind fun d σ1 => ofO (asL d) σ1) = (evI T G i1 σd).bind fun xs σ1 => leftO T G ie t1 t2 i2 own own2 σ1 xs [] (wipeD σ1 own) := by
    simp only [evE]
    rw [ER.bind_assoc]
    congr 1
    funext xs σ1
    unfold leftO
    rw [ER.bind_assoc]
    show (compC (compO T G ie t1 t2 i2 own own2) xs (wipeD σ1 own)).bind _ = _
    congr 1
    funext ys σ2
    unfold finC
    rw [List.nil_append]
    split <;> rfl
  rw [ev] at k
  refine ⟨σd, F, Os, rel, KN.bind k fun items σ1 J H1 F1 Os1 _ rel1 wk l1 gr1 k1 => fun D nD => ?_⟩
  have k1 : KN g W pu σ H1 F1 (Own Os1) Q (leftO T G ie t1 t2 i2 own own2 σ1 items [] (wipeD σ1 own)) := k1
  let Ow : Nat → Addr → Prop := fun i a => i ∉ own ∧ Os1 i a
  have relw : Rel g H1 F1 (wipeD σ1 own) (wipe σ own) Ow := rel1.wiped own
  let Inv : Nat → Hp → Prop := fun i H2 => ∃ σd2 F2 Os2 ds, LS g pu D H1 F1 (Own Ow) (wipe σ own) ds H2 F2 σd2 Os2 ∧ LeH F1 F2 ∧ KN g W pu σ H1 F1 (Own Os1) Q (leftO T G ie t1 t2 i2 own own2 σ1 (items.drop i) ds σd2)
  have f1 : F1 D = none := by
    cases e : F1 D with
    | none => rfl
    | some o => rw [relw.le D o e] at nD; cases nD
  have start : Inv 0 (upd H1 D (.lst [])) := by
    have le : LeH F1 (upd H1 D (.lst [])) := fun a o e => by
      rw [upd_ne (fun z => by subst z; rw [f1] at e; cases e)]
      exact relw.le a o e
    have hh : LeH H1 (upd H1 D (.lst [])) := fun a o e => by
      rw [upd_ne (ne_of_none e nD)]
      exact e
    have xt : Ext H1 F1 (upd H1 D (.lst [])) F1 := ⟨LeH.refl F1, le, hh, fun _ h => .inl h⟩
    exact ⟨wipeD σ1 own, F1, Ow, [], ⟨⟨[], upd_same, .nil⟩, relw.ext xt, f1, fun ⟨i, z⟩ => relw.al i D z nD, xt.gr pu⟩, LeH.refl _, by rw [List.drop_zero]; exact k1⟩
  refine ⟨fun i m H2 => m = items.length - i ∧ i ≤ items.length ∧ Inv i H2, ⟨_, rfl, Nat.zero_le _, start⟩, ?_⟩
  rintro i m H2 ⟨rfl, hi, σd2, F2, Os2, ds, ls, lf, k2⟩
  by_cases hlt : i < items.length
  · have hx : items[i]? = some items[i] := List.getElem?_eq_getElem hlt
    refine .inr ⟨wk.go i H2 (lf.trans ls.rel.le) hlt, fun H3 => i + 1 ≤ items.length ∧ Inv (i + 1) H3, fun H3 q => ⟨items.length - (i + 1), by omega, rfl, q.1, q.2⟩, fun x H3 y => ?_⟩
    obtain ⟨F3, xt, rx⟩ := wk.yl i H2 F2 x H3 _ lf ls.rel.le hx y
    have ls3 := ls.step (ls.rel.ext xt) (xt.gr pu)
    rw [drop_get hx] at k2
    cases ea : asgT t1 items[i] σd2 with
    | none =>
      exact absurd (leftO_stuck (fun ys σ' => by unfold compO; rw [ea]; exact nofun)) k2.ns
    | some σd3 =>
      refine ⟨σd2, F3, Os2, items[i], σd3, ls3.rel, rx, ea, fun σ4 Os4 rel4 hl hj ho => ?_⟩
      have wp : wipe σ4 own = wipe σ own := by
        have := wipe_eq (vs := own) (σ := wipe σ own) (σ' := σ4) hl fun j hjj => hj j fun z => hjj (hto1 j z)
        rw [this]
        exact wipe_eq (by rw [wipe_length]) fun j hjj => L2.wipe_out hjj
      refine ⟨wp, ?_⟩
      have ls4 := ls3.less rel4 ho
      refine ⟨σd3, F3, Os4, rel4, ?_⟩
      simp only [evT]
      intro b H5 F5 Os5 rel5 eb gr5
      subst eb
      rw [if_pos rfl]
      have ls5 := ls4.step rel5 gr5
      refine ⟨σd3, F5, Os5, rel5, ?_⟩
      cases ei : evI T G i2 σd3 with
      | stuck => exact absurd (leftO_stuck (fun ys σ' => by unfold compO; rw [ea]; simp only [ei, ER.bind_stuck]; exact nofun)) k2.ns
      | exc _ _ => exact absurd (leftO_stuck (fun ys σ' => by unfold compO; rw [ea]; simp only [ei, ER.bind_exc]; exact nofun)) k2.ns
      | ok ys σd6 =>
        intro J1 H6 F6 Os6 rel6 wk6 gr6
        have ls6 := ls5.step rel6 gr6
        rw [leftO_step ea ei] at k2
        let Inv1 : Nat → Hp → Prop := fun j H7 => ∃ σd7 F7 Os7 ds', LS g pu D H1 F1 (Own Ow) (wipe σ4 own2) ds' H7 F7 σd7 Os7 ∧ LeH F6 F7 ∧ KN g W pu σ H1 F1 (Own Os1) Q (leftI T G ie t1 t2 i2 own own2 σ1 (items.drop (i + 1)) (ys.drop j) ds' σd7)
        have start1 : Inv1 0 H6 := ⟨wipeD σd6 own2, F6, _, ds, ls6.less (rel6.wiped own2) (fun a ⟨j, z⟩ => ⟨j, z.2⟩), LeH.refl _, by rw [List.drop_zero]; exact k2⟩
        have l16 : LeH F1 F6 := ls6.gr.ff
        refine ⟨fun j k H7 => k = ys.length - j ∧ j ≤ ys.length ∧ Inv1 j H7, ⟨_, rfl, Nat.zero_le _, start1⟩, ?_⟩
        rintro j k H7 ⟨rfl, hj7, σd7, F7, Os7, ds', ls7, l67, k7⟩
        by_cases hlt7 : j < ys.length
        · have hy : ys[j]? = some ys[j] := List.getElem?_eq_getElem hlt7
          refine .inr ⟨wk6.go j H7 (l67.trans ls7.rel.le) hlt7, fun H8 => j + 1 ≤ ys.length ∧ Inv1 (j + 1) H8, fun H8 q => ⟨ys.length - (j + 1), by omega, rfl, q.1, q.2⟩, fun x1 H8 y1 => ?_⟩
          obtain ⟨F8, xt8, rx8⟩ := wk6.yl j H7 F7 x1 H8 _ l67 ls7.rel.le hy y1
          have ls8 := ls7.step (ls7.rel.ext xt8) (xt8.gr pu)
          rw [drop_get hy] at k7
          cases ea2 : asgT t2 ys[j] σd7 with
          | none => exact absurd (leftI_stuck (fun o σ' => by unfold compG; rw [ea2]; exact nofun)) k7.ns
          | some σd8 =>
            refine ⟨σd7, F8, Os7, ys[j], σd8, ls8.rel, rx8, ea2, fun σ9 Os9 rel9 hl9 hj9 ho9 => ?_⟩
            have wp9 : wipe σ9 own2 = wipe σ4 own2 := by
              have := wipe_eq (vs := own2) (σ := wipe σ4 own2) (σ' := σ9) hl9 fun j hjj => hj9 j fun z => hjj (hto2 j z)
              rw [this]
              exact wipe_eq (by rw [wipe_length]) fun j hjj => L2.wipe_out hjj
            refine ⟨wp9, ?_⟩
            have ls9 := ls8.less rel9 ho9
            refine ⟨σd8, F8, Os9, rel9, ?_⟩
            simp only [evT]
            intro b H10 F10 Os10 rel10 eb gr10
            subst eb
            rw [if_pos rfl]
            have ls10 := ls9.step rel10 gr10
            refine ⟨σd8, F10, Os10, rel10, ?_⟩
            cases ee : evE T G ie σd8 with
            | stuck => exact absurd (leftI_stuck (fun o σ' => by unfold compG; rw [ea2]; simp only [ee, ER.bind_stuck]; exact nofun)) k7.ns
            | exc _ _ => exact absurd (leftI_stuck (fun o σ' => by unfold compG; rw [ea2]; simp only [ee, ER.bind_exc]; exact nofun)) k7.ns
            | ok yd σd11 =>
              intro yv H11 F11 Os11 rel11 ry gr11
              have ls11 := ls10.step rel11 gr11
              have eG : compG T G ie t2 own2 ys[j] σd7 = .ok (some yd) (wipeD σd11 own2) := by
                unfold compG
                rw [ea2]
                simp only [ee, ER.bind_ok]
              rw [leftI_step eG] at k7
              have hz := leftI_len k7.ns
              obtain ⟨acc, hD, rds⟩ := ls11.acc
              have hacc : acc.length < sizeLine := by
                rw [← rds.length, line_eq]
                rw [List.length_append, List.length_singleton] at hz
                omega
              refine ⟨acc, hD, hacc, hlt7, ?_⟩
              have rw12 := rel11.wiped own2
              rw [wp9] at rw12
              have ls12 := (ls11.less rw12 (fun a ⟨j, z⟩ => ⟨j, z.2⟩)).app nD hD rds ry
              exact ⟨wipeD σd11 own2, F11, _, _, ls12, l67.trans (xt8.ff.trans (gr10.ff.trans gr11.ff)), k7⟩
        · have e : j = ys.length := by omega
          subst e
          refine .inl ⟨wk6.st _ H7 (l67.trans ls7.rel.le) (Nat.le_refl _), hlt, ?_⟩
          rw [List.drop_length] at k7
          unfold leftI at k7
          simp only [compL, ER.bind_ok, List.append_nil] at k7
          have rw8 := ls7.rel.wiped own
          have ww : wipe (wipe σ4 own2) own = wipe σ own := by
            rw [← wp]
            exact wipe_eq (by rw [wipe_length]) fun j hjj => L2.wipe_out fun z => hjj (h12 j z)
          rw [ww] at rw8
          exact ⟨wipeD σd7 own, F7, _, ds', ls7.less rw8 (fun a ⟨j, z⟩ => ⟨j, z.2⟩), l16.trans l67, k7⟩
  · have e : i = items.length := by omega
    subst e
    refine .inl ⟨wk.st _ H2 (lf.trans ls.rel.le) (Nat.le_refl _), ?_⟩
    rw [List.drop_length] at k2
    have hz := leftO_len k2.ns
    unfold leftO at k2
    simp only [compC, ER.bind_ok, List.append_nil] at k2
    unfold finC at k2
    rw [if_pos hz] at k2
    exact ls.fin nD rel1 hz k2
theorem comp2_lst {t1 t2 : Tg} {own own2 : List Nat} (σ : Env) (d : JH.D) (σ' : Env) (h : evE T G (.comp2 ie t1 i1 t2 i2 own own2) σ = .ok d σ') : ∃ ds, d = .lst ds := by
  simp only [evE] at h
  cases e : evI T G i1 σ with
  | stuck => rw [e] at h; cases h
  | exc _ _ => rw [e] at h; cases h
  | ok xs σ1 =>
    rw [e, ER.bind_ok] at h
    generalize compC _ _ _ = q at h
    cases q with
    | stuck => cases h
    | exc _ _ => cases h
    | ok ys σ2 =>
      rw [ER.bind_ok] at h
      split at h
      · cases h; exact ⟨_, rfl⟩
      · cases h
section
variable {elt tg1 it1 tg2 it2 : Expr} {scope : Scope} {own : List (Str × Nat)} {own2 : List Nat} {t1 t2 : Tg}
theorem e_comp2 (hc : X.calm = true) (hN : X.N.Nodup) (hi : PI X tg1 it1 (tI T G g W pu i1)) (ok : BlkOk X.N X.env.scope scope own) (hv : ∀ i ∈ own2, i ∈ own.map (·.2)) (hto1 : ∀ j ∈ tgS t1, j ∈ own.map (·.2)) (hto2 : ∀ j ∈ tgS t2, j ∈ own2)
    (hg : ∀ (s : Shared) (H : Hp) (C : Addr) (cl : List (Str × Addr)) (fp : List Addr), PG (X.blk s H scope (compEnvC scope cl C X.env) fp) tg1 (tG g t1))
    (hi1 : ∀ (s : Shared) (H : Hp) (C : Addr) (cl : List (Str × Addr)) (fp : List Addr), PI (X.blk s H scope (compEnvC scope cl C X.env) fp) tg2 it2 (tI T G g W0 pu i2))
    (hg1 : ∀ (s : Shared) (H : Hp) (C : Addr) (cl : List (Str × Addr)) (fp : List Addr), PG (X.blk s H scope (compEnvC scope cl C X.env) fp) tg2 (tG g t2))
    (he : ∀ (s : Shared) (H : Hp) (C : Addr) (cl : List (Str × Addr)) (fp : List Addr), PE (X.blk s H scope (compEnvC scope cl C X.env) fp) elt (tE T G g W0 pu ie)) (hs : ∀ x, foldedSetIterable it1 X.env x = pure x) (hs1 : ∀ env x, foldedSetIterable it2 env x = pure x) :
    PE X (.ListComp elt [⟨tg1, it1, [], 0⟩, ⟨tg2, it2, [], 0⟩] scope pos) (tE T G g W pu (.comp2 ie t1 i1 t2 i2 (own.map (·.2)) own2)) :=
  (pe_lc2 hc hN hi ok hv hg (fun s H C cl fp => ts_nil) hi1 hg1 (fun s H C cl fp => ts_nil) he hs hs1).imp fun σ H Q h => e_comp2_tr hto1 hto2 hv (tN_of comp2_lst h)
theorem n_comp2 (hc : X.calm = true) (hN : X.N.Nodup) (hi : PI X tg1 it1 (tI T G g W pu i1)) (ok : BlkOk X.N X.env.scope scope own) (hv : ∀ i ∈ own2, i ∈ own.map (·.2)) (hto1 : ∀ j ∈ tgS t1, j ∈ own.map (·.2)) (hto2 : ∀ j ∈ tgS t2, j ∈ own2)
    (hg : ∀ (s : Shared) (H : Hp) (C : Addr) (cl : List (Str × Addr)) (fp : List Addr), PG (X.blk s H scope (compEnvC scope cl C X.env) fp) tg1 (tG g t1))
    (hi1 : ∀ (s : Shared) (H : Hp) (C : Addr) (cl : List (Str × Addr)) (fp : List Addr), PI (X.blk s H scope (compEnvC scope cl C X.env) fp) tg2 it2 (tI T G g W0 pu i2))
    (hg1 : ∀ (s : Shared) (H : Hp) (C : Addr) (cl : List (Str × Addr)) (fp : List Addr), PG (X.blk s H scope (compEnvC scope cl C X.env) fp) tg2 (tG g t2))
    (he : ∀ (s : Shared) (H : Hp) (C : Addr) (cl : List (Str × Addr)) (fp : List Addr), PE (X.blk s H scope (compEnvC scope cl C X.env) fp) elt (tE T G g W0 pu ie)) (hs : ∀ x, foldedSetIterable it1 X.env x = pure x) (hs1 : ∀ env x, foldedSetIterable it2 env x = pure x) :
    PE X (.ListComp elt [⟨tg1, it1, [], 0⟩, ⟨tg2, it2, [], 0⟩] scope pos) (tN T G g W pu (.comp2 ie t1 i1 t2 i2 (own.map (·.2)) own2)) :=
  (pe_lc2 hc hN hi ok hv hg (fun s H C cl fp => ts_nil) hi1 hg1 (fun s H C cl fp => ts_nil) he hs hs1).imp fun σ H Q h => e_comp2_tr hto1 hto2 hv h
theorem s_asgLc2 {pin : List Nat} {i : Nat} {y : Str} {py spos : Pos} (hp : i ∉ pin) (hc : X.calm = true) (hN : X.N.Nodup) (hy : X.N[i]? = some y) (hyl : X.env.scope.names.lookup y = some .local)
    (hsw : swapsWith (.ListComp elt [⟨tg1, it1, [], 0⟩, ⟨tg2, it2, [], 0⟩] scope pos) (some (.Name y py)) spos.line X.env = pure true) (hi : PI X tg1 it1 (tI T G g W false i1)) (ok : BlkOk X.N X.env.scope scope own) (hv : ∀ i ∈ own2, i ∈ own.map (·.2)) (hto1 : ∀ j ∈ tgS t1, j ∈ own.map (·.2)) (hto2 : ∀ j ∈ tgS t2, j ∈ own2)
    (hg : ∀ (s : Shared) (H : Hp) (C : Addr) (cl : List (Str × Addr)) (fp : List Addr), PG (X.blk s H scope (compEnvC scope cl C X.env) fp) tg1 (tG g t1))
    (hi1 : ∀ (s : Shared) (H : Hp) (C : Addr) (cl : List (Str × Addr)) (fp : List Addr), PI (X.blk s H scope (compEnvC scope cl C X.env) fp) tg2 it2 (tI T G g W0 false i2))
    (hg1 : ∀ (s : Shared) (H : Hp) (C : Addr) (cl : List (Str × Addr)) (fp : List Addr), PG (X.blk s H scope (compEnvC scope cl C X.env) fp) tg2 (tG g t2))
    (he : ∀ (s : Shared) (H : Hp) (C : Addr) (cl : List (Str × Addr)) (fp : List Addr), PE (X.blk s H scope (compEnvC scope cl C X.env) fp) elt (tE T G g W0 false ie)) (hs : ∀ x, foldedSetIterable it1 X.env x = pure x) (hs1 : ∀ env x, foldedSetIterable it2 env x = pure x) :
    PS X (.Assign [.Name y py] (.ListComp elt [⟨tg1, it1, [], 0⟩, ⟨tg2, it2, [], 0⟩] scope pos) spos) (tS g W pin fun σ => (evE T G (.comp2 ie t1 i1 t2 i2 (own.map (·.2)) own2) σ).to fun x σ1 => (ofO (asgT (.nm i) x σ1) σ1).to fun σ2 _ => .nx σ2) :=
  (ps_setLc2 hc hN hy hyl hsw hi ok hv hg (fun s H C cl fp => ts_nil) hi1 hg1 (fun s H C cl fp => ts_nil) he hs hs1).imp fun E σ H hh => by
    exact asg_nm hp (fun Q h => e_comp2_tr hto1 hto2 hv (tN_of comp2_lst h)) hh
theorem s_asgMLc2 {pin : List Nat} {i : Nat} {y : Str} {py spos : Pos} (hp : i ∉ pin) (hc : X.calm = true) (hN : X.N.Nodup) (hy : X.N[i]? = some y) (hyl : X.env.scope.names.lookup y = some .local)
    (hsw : swapsWith (.ListComp elt [⟨tg1, it1, [], 0⟩, ⟨tg2, it2, [], 0⟩] scope pos) (some (.Name y py)) spos.line X.env = pure true) (hi : PI X tg1 it1 (tI T G g W false i1)) (ok : BlkOk X.N X.env.scope scope own) (hv : ∀ i ∈ own2, i ∈ own.map (·.2)) (hto1 : ∀ j ∈ tgS t1, j ∈ own.map (·.2)) (hto2 : ∀ j ∈ tgS t2, j ∈ own2)
    (hg : ∀ (s : Shared) (H : Hp) (C : Addr) (cl : List (Str × Addr)) (fp : List Addr), PG (X.blk s H scope (compEnvC scope cl C X.env) fp) tg1 (tG g t1))
    (hi1 : ∀ (s : Shared) (H : Hp) (C : Addr) (cl : List (Str × Addr)) (fp : List Addr), PI (X.blk s H scope (compEnvC scope cl C X.env) fp) tg2 it2 (tI T G g W0 false i2))
    (hg1 : ∀ (s : Shared) (H : Hp) (C : Addr) (cl : List (Str × Addr)) (fp : List Addr), PG (X.blk s H scope (compEnvC scope cl C X.env) fp) tg2 (tG g t2))
    (he : ∀ (s : Shared) (H : Hp) (C : Addr) (cl : List (Str × Addr)) (fp : List Addr), PE (X.blk s H scope (compEnvC scope cl C X.env) fp) elt (tE T G g W0 false ie)) (hs : ∀ x, foldedSetIterable it1 X.env x = pure x) (hs1 : ∀ env x, foldedSetIterable it2 env x = pure x) :
    PS X (.Assign [.Name y py] (.ListComp elt [⟨tg1, it1, [], 0⟩, ⟨tg2, it2, [], 0⟩] scope pos) spos) (tS g W pin fun σ => (evE T G (.comp2 ie t1 i1 t2 i2 (own.map (·.2)) own2) σ).to fun x σ1 => (ofO (thaw x) σ1).to fun m σ2 => .nx (σ2.set i (some m))) :=
  (ps_setLc2 hc hN hy hyl hsw hi ok hv hg (fun s H C cl fp => ts_nil) hi1 hg1 (fun s H C cl fp => ts_nil) he hs hs1).imp fun E σ H hh => asgM_tr hp (fun Q h => e_comp2_tr hto1 hto2 hv h) hh
end
theorem ps_stk {st : Stmt} {pin : List Nat} {f : Env → SR} (h : ∀ σ, f σ = .stuck) : PS X st (tS g W pin f) := ⟨fun pins s σ H D I ⟨σd, F, Os, rel, k⟩ => by rw [h] at k; exact k.elim⟩
end
end JH

/-! JC1: the checker of expressions, and what it warrants. -/
namespace JH
open PySem PySem.Spec PyProof.Rows L2
/-- names, scope, the names whose cells are the block's own -/
structure CK where
  N : List Str
  sc : Scope
  fn : Str → Bool
  md : Nat := 0
  pu : Bool := false
/-- the text's defs by number; the built-ins that stand free -/
structure Pg where
  fname : List Str
  blts : List Str
  gls : List (Str × Int) := []
  ecl : List EC := []
  fld : List Str := []
  sbs : List (Option Nat × List Nat) := []
  hots : List Nat := []
  ofl : List (Nat × Nat) := []
  mth : List (Nat × Str × Nat) := []
  oin : List (Nat × Str × Nat) := []
def isR1 : IE → Bool
  | .rng1 _ => true
  | _ => false
abbrev visB := visB0
theorem visB_ok {sc : Scope} {x : Str} (h : visB sc x = true) : Vis sc x := visB0_ok h
def dbg (x : Str) : Bool := x == ("__debug__" : Str)
def cdb (x : Str) : Bool := x == ("__classdict__" : Str)
def nmB (c : CK) (i : Nat) (x : Str) : Bool := decide (c.N[i]? = some x) && visB c.sc x && !dbg x && !cdb x
def glB (c : CK) (x : Str) : Bool := decide (c.sc.names.lookup x = some .globalImplicit)
def blB (P : Pg) (c : CK) (x : Str) : Bool := glB c x && decide (x ∈ P.blts)
def locB (c : CK) (x : Str) : Bool := decide (c.sc.names.lookup x = some .local) || (decide (c.sc.names.lookup x = some .cell) && c.fn x)
def IE.isNil : IE → Bool
  | .nil => true
  | _ => false
/-- what a test may be -/
def tOk : IE → Expr → Bool
  | .cmp .., _ => true | .chn .., _ => true | .chn4 .., _ => true | .isN _, _ => true | .notN _, _ => true
  | .and _, _ => true | .or _, _ => true | .not _, _ => true
  | .nil, _ => false
  | .stk, _ => true | .dhas .., _ => true
  | .ite _ a b, e => match e with
    | .IfExp _ y z _ => tOk a y && tOk b z && !a.isIt && !b.isIt
    | _ => false
  | .bor _ a, e => tOk a e
  | .notV _, e => match e with
    | .UnaryOp _ x _ => pTest x
    | _ => false
  | _, e => pTest e
def chkG (c : CK) : Tg → Expr ⊕ List Expr → Bool
  | .nm i, m => match m with
    | .inl (.Name x _) => decide (c.N[i]? = some x) && locB c x
    | _ => false
  | .nil, m => match m with
    | .inr [] => true
    | _ => false
  | .cons a r, m => match m with
    | .inl (.Tuple (e :: es) _ _) => (c.md == 0) && nStar e && chkG c a (.inl e) && chkG c r (.inr es)
    | .inr (e :: es) => nStar e && chkG c a (.inl e) && chkG c r (.inr es)
    | _ => false
def isTup : Expr → Bool
  | .Tuple .. => true
  | _ => false
def nSet : Expr → Bool
  | .Set .. => false
  | _ => true
theorem nSet_ok {e : Expr} (h : nSet e = true) (env : PySem.Env) : ∀ x, foldedSetIterable e env x = pure x := by
  intro x
  cases e <;> first | rfl | (cases h)
def itOk (ie : IE) (tg : Expr) : Bool := match ie with
  | .enm _ => isTup tg
  | .zp _ _ => isTup tg
  | _ => true
def ownOf (N : List Str) (scope : Scope) : List (Str × Nat) := scope.names.filterMap fun y => if decide (y.2 = .local) || decide (y.2 = .cell) then (N.findIdx? fun z => decide (z = y.1)).map fun i => (y.1, i) else none
def blkB (N : List Str) (sc scope : Scope) (own : List (Str × Nat)) : Bool :=
  decide (scope.kind = .function) && scope.names.all (fun y => decide (scope.names.lookup y.1 = some y.2)) && own.all (fun p => decide (N[p.2]? = some p.1))
    && scope.names.all (fun y => !decide (y.2 = .free) || (decide (sc.names.lookup y.1 = some .cell) || decide (sc.names.lookup y.1 = some .free)))
    && scope.names.all (fun y => !(decide (y.2 = .local) || decide (y.2 = .cell)) || (decide (y.1 ∈ own.map (·.1)) || !decide (y.1 ∈ N)))
theorem blkB_ok {N : List Str} {sc scope : Scope} {own : List (Str × Nat)} (h : blkB N sc scope own = true) : BlkOk N sc scope own := by
  unfold blkB at h
  simp only [Bool.and_eq_true, decide_eq_true_eq, List.all_eq_true, Bool.or_eq_true, Bool.not_eq_true', decide_eq_false_iff_not] at h
  obtain ⟨⟨⟨⟨h1, h2⟩, h3⟩, h4⟩, h5⟩ := h
  refine ⟨h1, h2, h3, fun y hy e => ?_, fun y hy e => ?_⟩
  · rcases h4 y hy with z | z
    · exact absurd e z
    · exact z
  · rcases h5 y hy with z | z
    · rcases e with e | e <;> simp [e] at z
    · exact z
def CK.blk (c : CK) (scope : Scope) : CK := ⟨c.N, relS scope c.sc, fun x => scope.names.lookup x == some .cell, if c.md = 0 then 0 else 2, c.pu⟩
def nLC : Expr → Bool
  | .ListComp .. => false
  | _ => true
def opB (op : BOp) (o : Operator) : Bool := match op, o with
  | .add, .Add => true | .sub, .Sub => true | .mul, .Mult => true | .fdiv, .FloorDiv => true | .mod, .Mod => true | .pow, .Pow => true
  | _, _ => false
theorem opB_ok {op : BOp} {o : Operator} (h : opB op o = true) : o = op.py := by
  cases op <;> cases o <;> first | rfl | (cases h)
def coB (op : COp) (o : CmpOp) : Bool := match op, o with
  | .eq, .Eq => true | .ne, .NotEq => true | .lt, .Lt => true | .le, .LtE => true | .gt, .Gt => true | .ge, .GtE => true | .isin, .In => true | .notin, .NotIn => true
  | _, _ => false
theorem coB_ok {op : COp} {o : CmpOp} (h : coB op o = true) : o = op.py := by
  cases op <;> cases o <;> first | rfl | (cases h)
/-- the keys of a display -/
def chkKs : List (Sum Int (List Nat)) → List (Option Expr) → Bool
  | [], es => match es with
    | [] => true
    | _ => false
  | .inl i :: ks, es => match es with
    | some (.Constant (.int k) _ _) :: es => decide (i = k) && chkKs ks es
    | _ => false
  | .inr s :: ks, es => match es with
    | some (.Constant (.str x) _ _) :: es => decide (x.cps.toList = s) && chkKs ks es
    | _ => false
/-- no field but bad has the method's name -/
def badB (fld : List Str) (m : Str) (bad : Nat) : Bool := !decide (m = "") && (List.range fld.length).all fun i => !decide (fld[i]? = some m) || decide (i = bad)
section
variable (P : Pg)
mutual
def chkE (c : CK) : IE → Expr → Bool
  | .cN, e => match e with
    | .Constant .none _ _ => true
    | _ => false
  | .cB b, e => match e with
    | .Constant (.bool k) _ _ => b == k
    | _ => false
  | .cI i, e => match e with
    | .Constant (.int k) _ _ => decide (i = k)
    | _ => false
  | .cS s, e => match e with
    | .Constant (.str x) _ _ => decide (x.cps.toList = s)
    | _ => false
  | .rd i, e => match e with
    | .Name x _ => nmB c i x
    | _ => false
  | .fz (.root i), e => match e with
    | .Name x _ => !c.pu && nmB c i x
    | _ => false
  | .gl k, e => match e with
    | .Name x _ => decide ((P.gls[k]?).map (·.1) = some x) && glB c x && !dbg x
    | _ => false
  | .bin op a b, e => match e with
    | .BinOp x o y _ => opB op o && chkE c a x && chkE c b y && !a.isIt && !b.isIt
    | _ => false
  | .neg a, e => match e with
    | .UnaryOp .USub x _ => chkE c a x && !a.isIt
    | _ => false
  | .cmp op a b, e => match e with
    | .Compare x [o] [y] _ => coB op o && chkE c a x && chkE c b y && !behindInMarks o y && !a.isIt && !b.isIt
    | _ => false
  | .chn o1 o2 a b d, e => match e with
    | .Compare x [p, q] [y, z] _ => coB o1 p && coB o2 q && chkE c a x && chkE c b y && chkE c d z && !behindInMarks q z && !a.isIt && !b.isIt && !d.isIt
    | _ => false
  | .isN a, e => match e with
    | .Compare x [.Is] [.Constant .none _ _] _ => chkE c a x && !a.isIt
    | _ => false
  | .notN a, e => match e with
    | .Compare x [.IsNot] [.Constant .none _ _] _ => chkE c a x && !a.isIt
    | _ => false
  | .and l, e => match e with
    | .BoolOp .And es _ => chkB c l es
    | _ => false
  | .or l, e => match e with
    | .BoolOp .Or es _ => chkB c l es
    | _ => false
  | .not a, e => match e with
    | .UnaryOp .Not x _ => chkE c a x && !a.isIt && tOk a x
    | _ => false
  | .ite k a b, e => match e with
    | .IfExp x y z _ => chkE c k x && chkE c a y && chkE c b z && !k.isIt && !a.isIt && !b.isIt && tOk k x
    | _ => false
  | .idx a b, e => match e with
    | .Subscript x y _ => chkE c a x && chkE c b y && pIx y && !a.isIt && !b.isIt
    | _ => false
  | .midx (.root i) b, e => match e with
    | .Subscript (.Name x _) y _ => nmB c i x && chkE c b y && pIx y && !b.isIt
    | _ => false
  | .slc a lo hi, e => match e with
    | .Subscript x (.Slice l h none _) _ => chkE c a x && !a.isIt && !lo.isIt && !hi.isIt && (match l with
        | none => lo.isNil
        | some y => chkE c lo y) && (match h with
        | none => hi.isNil
        | some y => chkE c hi y)
    | _ => false
  | .tup l, e => match e with
    | .Tuple es _ _ => chkL c l es && decide (l.len ≤ 1000)
    | _ => false
  | .lst l, e => match e with
    | .List es _ => chkL c l es && decide (l.len ≤ 1000)
    | _ => false
  | .call f l, e => match e with
    | .Call (.Name x _) (a :: es) [] _ => ((c.md == 0) || ((c.md == 1) && decide (f ∈ P.hots))) && (!c.pu || l.noM) && chkA c l (a :: es) && decide (P.fname[f]? = some x ∧ x ≠ "") && glB c x && nStar a && es.all nStar && !dbg x
    | _ => false
  | .b1 f a, e => match e with
    | .Call (.Name x _) [y] [] _ => ((c.md == 0) || f.cool) && decide (x = f.nm) && blB P c x && nStar y && chkE c a y && !a.isIt
    | _ => false
  | .pb1 f (.root i), e => match e with
    | .Call (.Name x _) [.Name y _] [] _ => (c.md == 0) && f.pk && decide (x = f.nm) && blB P c x && nmB c i y
    | _ => false
  | .b2 f a b, e => match e with
    | .Call (.Name x _) [y, z] [] _ => (c.md == 0) && decide (x = f.nm) && blB P c x && nStar y && nStar z && chkE c a y && chkE c b z && !a.isIt && !b.isIt
    | _ => false
  | .isi a t, e => match e with
    | .Call (.Name x _) [y, .Name z _] [] _ => decide (x = ("isinstance" : Str)) && decide (z = Str.ofString t.py) && blB P c x && blB P c z && nStar y && chkE c a y && !a.isIt
    | _ => false
  | .isi2 a t u, e => match e with
    | .Call (.Name x _) [y, .Tuple [.Name z _, .Name v _] _ _] [] _ => decide (x = ("isinstance" : Str)) && decide (z = Str.ofString t.py) && decide (v = Str.ofString u.py) && blB P c x && blB P c z && blB P c v && nStar y && chkE c a y && !a.isIt
    | _ => false
  | .comp a tg it k own, e => match e with
    | .ListComp elt [⟨tgt, iter, ifs, 0⟩] scope _ =>
      ((c.md == 0) || ((c.md == 1) && isR1 it)) && decide ((ownOf c.N scope).map (·.2) = own) && blkB c.N c.sc scope (ownOf c.N scope) && (tgS tg).all (fun j => decide (j ∈ own)) && chkG (c.blk scope) tg (.inl tgt)
        && chkE (c.blk scope) a elt && !a.isIt && chkE c it iter && nSet iter && itOk it tgt && !k.isIt && (match ifs with
        | [] => k.isNil
        | [q] => chkE (c.blk scope) k q && tOk k q
        | _ => false)
    | _ => false
  | .pop (.root i), e => match e with
    | .Call (.Attribute (.Name y _) m apos) [] [] pos => !c.pu && decide (m = ("pop" : Str)) && (apos.endLine == pos.line) && nmB c i y
    | _ => false
  | .popi (.root i) a, e => match e with
    | .Call (.Attribute (.Name y _) m apos) [z] [] pos => !c.pu && decide (m = ("pop" : Str)) && (apos.endLine == pos.line) && nmB c i y && nStar z && chkE c a z && !a.isIt
    | _ => false
  | .rng1 a, e => match e with
    | .Call (.Name x _) [y] [] _ => decide (x = ("range" : Str)) && blB P c x && nStar y && chkE c a y && !a.isIt
    | _ => false
  | .rng2 a b, e => match e with
    | .Call (.Name x _) [y, z] [] _ => decide (x = ("range" : Str)) && blB P c x && nStar y && nStar z && chkE c a y && chkE c b z && !a.isIt && !b.isIt
    | _ => false
  | .enm a, e => match e with
    | .Call (.Name x _) [y] [] _ => decide (x = ("enumerate" : Str)) && blB P c x && nStar y && chkE c a y && !a.isIt
    | _ => false
  | .zp a b, e => match e with
    | .Call (.Name x _) [y, z] [] _ => decide (x = ("zip" : Str)) && blB P c x && nStar y && nStar z && chkE c a y && chkE c b z && !a.isIt && !b.isIt
    | _ => false
  | .chn4 o1 o2 o3 a b d f, e => match e with
    | .Compare x [p, q, r] [y, z, w] _ => coB o1 p && (coB o2 q && (coB o3 r && (chkE c a x && (chkE c b y && (chkE c d z && (chkE c f w && (!behindInMarks r w && (!a.isIt && (!b.isIt && (!d.isIt && !f.isIt))))))))))
    | _ => false
  | .cv1 t a, e => match e with
    | .Call (.Name x _) [.Call (.Name z _) [y] [] _] [] _ => (c.md == 0) && (decide (x = if t = true then ("tuple" : Str) else ("list" : Str)) && (blB P c x && (decide (z = ("range" : Str)) && (blB P c z && (nStar y && (chkE c a y && !a.isIt))))))
    | _ => false
  | .cv2 t a b, e => match e with
    | .Call (.Name x _) [.Call (.Name z _) [y, w] [] _] [] _ => (c.md == 0) && (decide (x = if t = true then ("tuple" : Str) else ("list" : Str)) && (blB P c x && (decide (z = ("range" : Str)) && (blB P c z && (nStar y && (nStar w && (chkE c a y && (chkE c b w && (!a.isIt && !b.isIt)))))))))
    | _ => false
  | .stk, _ => true
  | .ofd a f cs, e => match e with
    | .Attribute y x _ => cs.all (fun k => decide ((k, f) ∈ P.ofl)) && (decide (P.fld[f]? = some x) && (pBase y && (chkE c a y && !a.isIt)))
    | _ => false
  | .meth bad k f o l, e => match e with
    | .Call (.Attribute (.Name y q) m apos) es [] pos => (c.md == 0) && ((apos.endLine == pos.line) && (decide ((k, m, f) ∈ P.mth) && (badB P.fld m bad && (chkE c o (.Name y q) && (!o.isIt && (es.all nStar && (decide (es.length < 29) && chkL c l es)))))))
    | _ => false
  | .mk k f l, e => match e with
    | .Call (.Name x _) (a :: es) [] _ => (c.md == 0) && (decide ((k, x, f) ∈ P.oin) && (glB c x && (nStar a && (es.all nStar && (!dbg x && chkL c l (a :: es))))))
    | _ => false
  | .dct ks l, e => match e with
    | .Dict keys vs _ => chkKs ks keys && (chkL c l vs && (decide (keys.length = vs.length) && (decide (ks.length = l.len) && (decide ks.Nodup && (!ks.isEmpty && decide (ks.length ≤ 15))))))
    | _ => false
  | .dhas neg a b, e => match e with
    | .Compare x [o] [y] _ => (match o with
      | .In => !neg
      | .NotIn => neg
      | _ => false) && (chkE c a x && (chkE c b y && (!behindInMarks o y && (!a.isIt && !b.isIt))))
    | _ => false
  | .comp2 a t1 i1 t2 i2 own own2, e => match e with
    | .ListComp elt [⟨g1, r1, [], 0⟩, ⟨g2, r2, [], 0⟩] scope _ => (c.md == 0) && (decide ((ownOf c.N scope).map (·.2) = own) && (blkB c.N c.sc scope (ownOf c.N scope) && (own2.all (fun j => decide (j ∈ own)) && ((tgS t1).all (fun j => decide (j ∈ own)) && ((tgS t2).all (fun j => decide (j ∈ own2)) &&
      (chkG (c.blk scope) t1 (.inl g1) && (chkG (c.blk scope) t2 (.inl g2) && (chkE (c.blk scope) a elt && (!a.isIt && (chkE c i1 r1 && (nSet r1 && (itOk i1 g1 && (chkE (c.blk scope) i2 r2 && (nSet r2 && itOk i2 g2))))))))))))))
    | _ => false
  | .bor i a, e => chkE { c with pu := true } a e && !a.isIt && nLC e
  | .notV a, e => match e with
    | .UnaryOp .Not x _ => chkE c a x && !a.isIt
    | _ => false
  | .tupR a b, e => match e with
    | .Call (.Name x _) [.Call (.Name z _) [y, w] [] _] [] _ => (c.md == 0) && (decide (x = ("tuple" : Str)) && (blB P c x && (decide (z = ("range" : Str)) && (blB P c z && (nStar y && (nStar w && (chkE c a y && (chkE c b w && (!a.isIt && !b.isIt)))))))))
    | _ => false
  | .isc a l, e => match e with
    | .Call (.Name x _) [y, .Name z _] [] _ => ((c.md == 1) || (c.md == 0)) && decide (x = ("isinstance" : Str)) && blB P c x && nStar y && chkE c a y && !a.isIt && !dbg z && (P.sbs.any fun q => decide (q.2 = l) && (match q.1 with
        | some j => decide ((P.ecl[j]?).map (·.name) = some z) && glB c z
        | none => decide (z = ("ValueError" : Str)) && blB P c z))
    | _ => false
  | .ef a f, e => match e with
    | .Attribute y z _ => ((c.md == 1) || (c.md == 0)) && decide (P.fld[f]? = some z) && pBase y && chkE c a y && !a.isIt
    | _ => false
  | _, _ => false
/-- a list of values -/
def chkL (c : CK) : IE → List Expr → Bool
  | .nil, es => match es with
    | [] => true
    | _ => false
  | .cons a r, es => match es with
    | x :: xs => nStar x && chkE c a x && !a.isIt && chkL c r xs
    | [] => false
  | _, _ => false
/-- arguments -/
def chkA (c : CK) : IE → List Expr → Bool
  | .nil, es => match es with
    | [] => true
    | _ => false
  | .cons a r, es => (match a with
    | .marg i => (match es with
      | .Name x _ :: xs => nmB c i x
      | _ => false)
    | _ => false) && (match es with
      | _ :: xs => chkA c r xs
      | [] => false) || (match es with
    | x :: xs => nStar x && chkE c a x && !a.isIt && chkA c r xs
    | [] => false)
  | _, _ => false
/-- tests, one behind another -/
def chkB (c : CK) : IE → List Expr → Bool
  | .cons a r, es => match es with
    | [x] => chkE c a x && !a.isIt && tOk a x && r.isNil
    | x :: y :: xs => chkE c a x && !a.isIt && tOk a x && chkB c r (y :: xs)
    | [] => false
  | _, _ => false
end
mutual
/-- a test of a statement -/
def chkT (c : CK) : IE → Expr → Bool
  | .tru a, t => chkE P c a t && (!a.isIt && pTest t)
  | .and l, t => (chkE P c (.and l) t && tOk (.and l) t) || (match t with
    | .BoolOp .And es _ => chkTs c l es
    | _ => false)
  | .or l, t => (chkE P c (.or l) t && tOk (.or l) t) || (match t with
    | .BoolOp .Or es _ => chkTs c l es
    | _ => false)
  | k, t => chkE P c k t && (!k.isIt && tOk k t)
/-- tests, one behind another, of values' truth too -/
def chkTs (c : CK) : IE → List Expr → Bool
  | .cons a r, es => match es with
    | [x] => chkT c a x && r.isNil
    | x :: y :: xs => chkT c a x && chkTs c r (y :: xs)
    | [] => false
  | _, _ => false
end
end
end JH

/-! JC2: what the checker of expressions warrants. -/
namespace JH
open PySem PySem.Spec PyProof.Rows L2
/-- the class that the table of isinstance tests means -/
def cvOf (K : PySem.W.Frag) (P : Pg) : Option Nat → Option Value
  | some j => (P.ecl[j]?).map fun c => .ref (He.ga K c.name)
  | none => some (.type "ValueError")
/-- what the written part says of the own exception classes -/
def ecB (K : PySem.W.Frag) (P : Pg) (c : EC) : Bool := xcB K (He.ga K c.name) && (PySem.W.hasDictIn K (He.ga K c.name) && ((P.fld.all fun x => He.eqO (PySem.W.findIn K (.ref (He.ga K c.name)) x) (some none)) && (He.eqO (PySem.W.nsIn K mainGlobals c.name) (some (some (.ref (He.ga K c.name)))) && (match c.ini with
  | none => PySem.W.excIn K (He.ga K c.name) He.veBase "ValueError.__new__"
  | some _ => oexB K (He.ga K c.name)))))
def sbB (K : PySem.W.Frag) (P : Pg) (q : Option Nat × List Nat) : Bool := match cvOf K P q.1 with
  | some cv => (List.range P.ecl.length).all fun i => match P.ecl[i]? with
    | some c => decide (PySem.W.kitOne K (.ref (He.ga K c.name)) cv = some (q.2.contains i)) && (q.1.isNone || decide (PySem.W.exmOne K (.ref (He.ga K c.name)) cv = some (q.2.contains i)))
    | none => false
  | none => false
def xfB (K : PySem.W.Frag) (P : Pg) : Bool := P.ecl.all (ecB K P) && P.sbs.all (sbB K P)
/-- the own exception classes, as g numbers them -/
structure XF (g : SG) (P : Pg) (mg : Str → Option Value) : Prop where
  nec : g.nec = P.ecl.length
  cad : ∀ (i : Nat) (c : EC), P.ecl[i]? = some c → g.cad i = He.ga g.K c.name ∧ mg c.name = some (.ref (g.cad i))
  fnm : ∀ (i : Nat) (x : Str), P.fld[i]? = some x → g.fnm i = x
  xf : xfB g.K P = true
theorem XF.ec {g : SG} {P : Pg} {mg : Str → Option Value} (h : XF g P mg) {i : Nat} (hi : i < g.nec) : ∃ c, P.ecl[i]? = some c ∧ g.cad i = He.ga g.K c.name ∧ mg c.name = some (.ref (g.cad i)) ∧ ecB g.K P c = true := by
  rw [h.nec] at hi
  have e := List.getElem?_eq_getElem hi
  obtain ⟨h1, h2⟩ := h.cad i _ e
  exact ⟨_, e, h1, h2, List.all_eq_true.mp (bands h.xf).1 _ (List.getElem_mem hi)⟩
theorem XF.xc {g : SG} {P : Pg} {mg : Str → Option Value} (h : XF g P mg) (i : Nat) (hi : i < g.nec) : XcF g.K (g.cad i) := by
  obtain ⟨c, _, e, _, q⟩ := h.ec hi
  rw [e]
  exact xcB_ok (bands q).1
theorem XF.fl {g : SG} {P : Pg} {mg : Str → Option Value} (h : XF g P mg) {f : Str} (hf : f ∈ P.fld) (i : Nat) (hi : i < g.nec) : PySem.W.hasDictIn g.K (g.cad i) = true ∧ PySem.W.findIn g.K (.ref (g.cad i)) f = some none := by
  obtain ⟨c, _, e, _, q⟩ := h.ec hi
  rw [e]
  obtain ⟨q1, q2⟩ := bands q
  obtain ⟨q3, q4⟩ := bands q2
  exact ⟨q3, He.eqO_ok (List.all_eq_true.mp (bands q4).1 f hf)⟩
theorem XF.sb {g : SG} {P : Pg} {mg : Str → Option Value} (h : XF g P mg) {q : Option Nat × List Nat} (hq : q ∈ P.sbs) : ∃ cv, cvOf g.K P q.1 = some cv ∧ ∀ i, i < g.nec → PySem.W.kitOne g.K (.ref (g.cad i)) cv = some (q.2.contains i) ∧ (q.1.isSome = true → PySem.W.exmOne g.K (.ref (g.cad i)) cv = some (q.2.contains i)) := by
  have z := List.all_eq_true.mp (bands h.xf).2 q hq
  unfold sbB at z
  cases e : cvOf g.K P q.1 with
  | none => rw [e] at z; cases z
  | some cv =>
    rw [e] at z
    refine ⟨cv, rfl, fun i hi => ?_⟩
    obtain ⟨c, e1, e2, _⟩ := h.ec hi
    have w := List.all_eq_true.mp z i (List.mem_range.mpr (by rw [← h.nec]; exact hi))
    rw [e1] at w
    obtain ⟨w1, w2⟩ := bands w
    rw [e2]
    refine ⟨of_decide_eq_true w1, fun s => ?_⟩
    rcases Bool.or_eq_true_iff.mp w2 with w2 | w2
    · cases hq1 : q.1 with
      | none => rw [hq1] at s; cases s
      | some j => rw [hq1] at w2; cases w2
    · exact of_decide_eq_true w2
/-- the context of a piece of a def: T, the table of what the defs do -/
structure Good (T : Tab) (G : Nat → Option D) (g : SG) (P : Pg) (n : Nat) (c : CK) (W : WX) (X : Cx) : Prop where
  hK : X.K = g.K
  hN : X.N = c.N
  nd : c.N.Nodup
  sc : X.env.scope = c.sc
  fk : X.fn = c.fn
  calm : c.md = 0 → X.calm = true
  room : c.md = 0 → Room (3 * n + 2) X.A
  roomH : c.md = 1 → L2H.RoomH (3 * n + 2) X.A
  hot : c.md = 1 → HotG g X
  hp : c.md = 0 → g.hp = none
  un : X.A.units + 64 < cLine
  tk : L2N.Takes X W
  po : PassesOwn (model X.prog X.w) X.A X.env X.xe
  blt : ∀ x ∈ P.blts, X.mg x = none
  gls : ∀ (k : Nat) (x : Str) (i : Int), P.gls[k]? = some (x, i) → G k = some (.int i) ∧ ∃ t, X.mg x = some (.int i t)
  xf : XF g P X.mg
  ini : ∀ (j : Nat) (c : EC) (f : Nat) (x : Str), P.ecl[j]? = some c → c.ini = some f → P.fld[f]? = some x → ∃ (fI : Addr) (fd : FuncData) (ps : List Str), PySem.W.findIn X.K (.ref (g.cad j)) "__init__" = some (some (.ref fI)) ∧ PySem.W.typeIn X.K (.ref fI) = some (.type "function") ∧ Binds X.K fd ps [] ∧
    FnOk X.prog X.w X.K X.mg X.base (L2N.CX X.prog X.w) 1 fI fd ps (spI X.K x)
  fnm : FN g P.fld
  ofs : ∀ (k f : Nat) (x : Str), (k, f) ∈ P.ofl → P.fld[f]? = some x → Cls X.K (g.cad k) ∧ NoAttr X.K (g.cad k) x
  mts : c.md = 0 → ∀ (k : Nat) (m : Str) (f : Nat), (k, m, f) ∈ P.mth → Cls X.K (g.cad k) ∧ ∃ (ad : Addr) (fd : FuncData) (ps : List Str), Meth X.K (g.cad k) m ad ∧ Binds X.K fd ps [] ∧ FnOk X.prog X.w X.K X.mg X.base (L2N.CX X.prog X.w) (3 * n) ad fd ps (spF g T f)
  mks : c.md = 0 → ∀ (k : Nat) (x : Str) (f : Nat), (k, x, f) ∈ P.oin → X.mg x = some (.ref (g.cad k)) ∧ ∃ (ad : Addr) (fd : FuncData) (ps : List Str), Mk X.K (g.cad k) ad ∧ Binds X.K fd ps [] ∧ FnOk X.prog X.w X.K X.mg X.base (L2N.CX X.prog X.w) (3 * n) ad fd ps (spF g T f)
  fns : c.md = 0 → ∀ (f : Nat) (x : Str), P.fname[f]? = some x → x ≠ "" → ∃ (ad : Addr) (fd : FuncData) (ps : List Str), X.mg x = some (.ref ad) ∧ PySem.W.keepIn X.K (.ref ad) = true ∧ Binds X.K fd ps [] ∧ FnOk X.prog X.w X.K X.mg X.base (L2N.CX X.prog X.w) (3 * n) ad fd ps (spF g T f)
  fnsH : ∀ (hp : Option (Addr × Value × Option Addr)) (f : Nat) (x : Str), P.fname[f]? = some x → x ≠ "" → f ∈ P.hots → ∃ (ad : Addr) (fd : FuncData) (ps : List Str), X.mg x = some (.ref ad) ∧ PySem.W.keepIn X.K (.ref ad) = true ∧ Binds X.K fd ps [] ∧
    FnP (ZG { g with hp := hp }) X.prog X.w X.K X.mg X.base (L2N.CX X.prog X.w) (3 * n) ad fd ps (spF { g with hp := hp } T f)
section
variable {T : Tab} {G : Nat → Option D} {g : SG} {P : Pg} {n : Nat} {c : CK} {W : WX} {X : Cx}
theorem blk0 {scope : Scope} (q : (c.blk scope).md = 0) : c.md = 0 := by
  by_cases e : c.md = 0
  · exact e
  · have q : (if c.md = 0 then 0 else 2) = 0 := q
    rw [if_neg e] at q
    cases q
theorem blk1 {scope : Scope} (q : (c.blk scope).md = 1) : False := by
  have q : (if c.md = 0 then 0 else 2) = 1 := q
  split at q <;> cases q
theorem Good.blk (h : Good T G g P n c W X) (s : Shared) (H : Hp) (scope : Scope) (C : Addr) (cl : List (Str × Addr)) (fp : List Addr) : Good T G g P n (c.blk scope) (fun _ _ _ _ => False) (X.blk s H scope (compEnvC scope cl C X.env) fp) where
  hK := h.hK
  hN := h.hN
  nd := h.nd
  sc := by
    show relS scope X.env.scope = relS scope c.sc
    rw [h.sc]
  fk := rfl
  calm := fun q => h.calm (blk0 q)
  room := fun q => h.room (blk0 q)
  roomH := fun q => (blk1 q).elim
  hot := fun q => (blk1 q).elim
  hp := fun q => h.hp (blk0 q)
  un := h.un
  tk := takesN0
  po := .never
  blt := h.blt
  gls := h.gls
  xf := h.xf
  ini := h.ini
  fnm := h.fnm
  ofs := h.ofs
  mts := fun q => h.mts (blk0 q)
  mks := fun q => h.mks (blk0 q)
  fns := fun q => h.fns (blk0 q)
  fnsH := h.fnsH
theorem Good.pure (h : Good T G g P n c W X) : Good T G g P n { c with pu := true } W X where
  hK := h.hK
  hN := h.hN
  nd := h.nd
  sc := h.sc
  fk := h.fk
  calm := h.calm
  room := h.room
  roomH := h.roomH
  hot := h.hot
  hp := h.hp
  un := h.un
  tk := h.tk
  po := h.po
  blt := h.blt
  gls := h.gls
  xf := h.xf
  ini := h.ini
  fnm := h.fnm
  ofs := h.ofs
  mts := h.mts
  mks := h.mks
  fns := h.fns
  fnsH := h.fnsH
theorem Good.hotOr (h : Good T G g P n c W X) (q : ((c.md == 1) || (c.md == 0)) = true) : HotG g X ∨ g.hp = none := by
  rcases Bool.or_eq_true_iff.mp q with q | q
  · exact .inl (h.hot (eq_of_beq q))
  · exact .inr (h.hp (eq_of_beq q))
theorem Good.nm (h : Good T G g P n c W X) {i : Nat} {x : Str} (k : nmB c i x = true) : X.N[i]? = some x ∧ Vis X.env.scope x ∧ (x == ("__debug__" : Str)) = false ∧ (x == ("__classdict__" : Str)) = false := by
  unfold nmB at k
  simp only [Bool.and_eq_true, decide_eq_true_eq, Bool.not_eq_true'] at k
  obtain ⟨⟨⟨h1, h2⟩, h3⟩, h4⟩ := k
  rw [h.hN, h.sc]
  exact ⟨h1, visB_ok h2, h3, h4⟩
theorem Good.gl (h : Good T G g P n c W X) {x : Str} (k : glB c x = true) : Gl X x := by
  show X.env.scope.names.lookup x = _
  rw [h.sc]
  exact of_decide_eq_true k
theorem Good.bl (h : Good T G g P n c W X) {x : Str} (k : blB P c x = true) : Gl X x ∧ X.mg x = none := by
  unfold blB at k
  simp only [Bool.and_eq_true, decide_eq_true_eq] at k
  exact ⟨h.gl k.1, h.blt x k.2⟩
theorem Good.loc (h : Good T G g P n c W X) {x : Str} (k : locB c x = true) : Loc X.env.scope x ∧ (X.fn x = true ∨ X.env.scope.names.lookup x = some .local) := by
  unfold locB at k
  simp only [Bool.or_eq_true, Bool.and_eq_true, decide_eq_true_eq] at k
  rw [h.sc, h.fk]
  rcases k with k | k
  · exact ⟨.inl k, .inr k⟩
  · exact ⟨.inr k.1, .inl k.2⟩
theorem Good.nd' (h : Good T G g P n c W X) : X.N.Nodup := by rw [h.hN]; exact h.nd
/-! ### targets -/
theorem assign_len : ∀ (es : List Expr) (env : PySem.Env), es.all nStar = true → (assignEach es env).length = es.length ∧ (assignEach es env).findIdx? (·.1) = none
  | [], _, _ => ⟨rfl, rfl⟩
  | e :: es, env, h => by
    simp only [List.all_cons, Bool.and_eq_true] at h
    obtain ⟨i1, i2⟩ := assign_len es env h.2
    rw [assignEach_of h.1]
    refine ⟨by simp [i1], ?_⟩
    rw [List.findIdx?_cons]
    simp [i2]
theorem g_sound (h : Good T G g P n c W X) : ∀ tg : Tg, (∀ e, chkG c tg (.inl e) = true → PG X e (tG g tg)) ∧ (∀ es, chkG c tg (.inr es) = true → PGs X es (tGs g tg) ∧ es.all nStar = true ∧ es.length = tgLen tg) := fun tg => by
  induction tg with
  | nm i =>
    refine ⟨fun e k => ?_, fun es k => by simp [chkG] at k⟩
    unfold chkG at k
    split at k
    · rename_i heq
      cases heq
      simp only [Bool.and_eq_true, decide_eq_true_eq] at k
      have := h.loc k.2
      exact g_nm h.nd' (by rw [h.hN]; exact k.1) this.1 this.2
    · cases k
  | nil =>
    refine ⟨fun e k => by simp [chkG] at k, fun es k => ?_⟩
    unfold chkG at k
    split at k
    · rename_i heq
      cases heq
      exact ⟨gs_nil, rfl, rfl⟩
    · cases k
  | cons a r ha hr =>
    refine ⟨fun e k => ?_, fun es k => ?_⟩
    · unfold chkG at k
      split at k
      · rename_i heq
        cases heq
        simp only [Bool.and_eq_true] at k
        obtain ⟨⟨⟨k0, k1⟩, k2⟩, k3⟩ := k
        obtain ⟨r1, r2, r3⟩ := hr.2 _ k3
        rename_i e es _ _
        have ha' : (e :: es).all nStar = true := by simp only [List.all_cons, k1, r2, Bool.and_self]
        obtain ⟨l1, l2⟩ := assign_len (e :: es) X.env ha'
        refine g_tup h.hK (h.calm (eq_of_beq k0)) (by rw [l1]; simp [tgLen, r3]) l2 (gs_cons k1 (ha.1 _ k2) r1)
      · rename_i heq; cases heq
      · cases k
    · unfold chkG at k
      split at k
      · rename_i heq; cases heq
      · rename_i heq
        cases heq
        simp only [Bool.and_eq_true] at k
        obtain ⟨⟨k1, k2⟩, k3⟩ := k
        obtain ⟨r1, r2, r3⟩ := hr.2 _ k3
        exact ⟨gs_cons k1 (ha.1 _ k2) r1, by simp only [List.all_cons, k1, r2, Bool.and_self], by simp [tgLen, r3]⟩
      · cases k
end
end JH

/-! JC3: expressions: the checker warrants. -/
namespace JH
open PySem PySem.Spec PyProof.Rows L2
section
variable (T : Tab) (G : Nat → Option D) (g : SG) (P : Pg) (n : Nat)
def SE (ie : IE) : Prop := ∀ (c : CK) (W : WX) (X : Cx), Good T G g P n c W X → ∀ e, chkE P c ie e = true →
  (ie.isIt = false → PE X e (tE T G g W c.pu ie) ∧ (tOk ie e = true → PT X e (tT T G g W c.pu ie))) ∧ (∀ tg, itOk ie tg = true → PI X tg e (tI T G g W c.pu ie)) ∧ (isR1 ie = true → ∀ tg, L2H.PIH X tg e (tI T G g W c.pu ie))
def SL (ie : IE) : Prop := ∀ (c : CK) (W : WX) (X : Cx), Good T G g P n c W X → ∀ es, chkL P c ie es = true → PA X es (tL T G g W c.pu ie) ∧ ∀ ks keys pos, chkKs ks keys = true → keys.length = es.length → PPs X pos keys es (tPs T G g W c.pu ks ie)
def SA (ie : IE) : Prop := ∀ (c : CK) (W : WX) (X : Cx), Good T G g P n c W X → ∀ es, chkA P c ie es = true → PA X es (tAr T G g W c.pu ie)
def SB (ie : IE) : Prop := ∀ (c : CK) (W : WX) (X : Cx), Good T G g P n c W X → ∀ es, chkB P c ie es = true → ∀ pos,
  PE X (.BoolOp .And es pos) (tAnd T G g W c.pu ie) ∧ PE X (.BoolOp .Or es pos) (tOr T G g W c.pu ie) ∧ PW X (.BoolOp .And es pos) (tAndT T G g W c.pu ie) ∧ PW X (.BoolOp .Or es pos) (tOrT T G g W c.pu ie)
def SAll (ie : IE) : Prop := SE T G g P n ie ∧ SL T G g P n ie ∧ SA T G g P n ie ∧ SB T G g P n ie
end
section
variable {T : Tab} {G : Nat → Option D} {g : SG} {P : Pg} {n : Nat} {c : CK} {W : WX} {X : Cx}
theorem noR1 {ie : IE} (h : ie.isIt = false) (q : isR1 ie = true) : False := by
  cases ie <;> first | (cases q; done) | (cases h; done)
/-- a value that is tested by its truth -/
theorem mkV (h : Good T G g P n c W X) {ie : IE} {e : Expr} (hi : ie ≠ .nil) (hit : ie.isIt = false) (he : PE X e (tE T G g W c.pu ie)) (ht : tOk ie e = true → pTest e = true) :
    (ie.isIt = false → PE X e (tE T G g W c.pu ie) ∧ (tOk ie e = true → PT X e (tT T G g W c.pu ie))) ∧ (∀ tg, itOk ie tg = true → PI X tg e (tI T G g W c.pu ie)) ∧ (isR1 ie = true → ∀ tg, L2H.PIH X tg e (tI T G g W c.pu ie)) :=
  ⟨fun _ => ⟨he, fun q => t_val hi he (ht q)⟩, fun tg _ => i_seq hit h.hK he, fun q => (noR1 hit q).elim⟩
theorem mkT (h : Good T G g P n c W X) {ie : IE} {e : Expr} (hit : ie.isIt = false) (he : PE X e (tE T G g W c.pu ie)) (ht : PT X e (tT T G g W c.pu ie)) :
    (ie.isIt = false → PE X e (tE T G g W c.pu ie) ∧ (tOk ie e = true → PT X e (tT T G g W c.pu ie))) ∧ (∀ tg, itOk ie tg = true → PI X tg e (tI T G g W c.pu ie)) ∧ (isR1 ie = true → ∀ tg, L2H.PIH X tg e (tI T G g W c.pu ie)) :=
  ⟨fun _ => ⟨he, fun _ => ht⟩, fun tg _ => i_seq hit h.hK he, fun q => (noR1 hit q).elim⟩
theorem mkI {ie : IE} {e : Expr} (hit : ie.isIt = true) (he : ∀ tg, itOk ie tg = true → PI X tg e (tI T G g W c.pu ie)) (hh : isR1 ie = true → ∀ tg, L2H.PIH X tg e (tI T G g W c.pu ie)) :
    (ie.isIt = false → PE X e (tE T G g W c.pu ie) ∧ (tOk ie e = true → PT X e (tT T G g W c.pu ie))) ∧ (∀ tg, itOk ie tg = true → PI X tg e (tI T G g W c.pu ie)) ∧ (isR1 ie = true → ∀ tg, L2H.PIH X tg e (tI T G g W c.pu ie)) :=
  ⟨fun q => absurd (hit.symm.trans q) (by decide), he, hh⟩
theorem SE.pe {ie : IE} (h : SE T G g P n ie) (k : Good T G g P n c W X) {e : Expr} (q : chkE P c ie e = true) (hi : ie.isIt = false) : PE X e (tE T G g W c.pu ie) := ((h c W X k e q).1 hi).1
theorem SE.pt {ie : IE} (h : SE T G g P n ie) (k : Good T G g P n c W X) {e : Expr} (q : chkE P c ie e = true) (hi : ie.isIt = false) (ht : tOk ie e = true) : PT X e (tT T G g W c.pu ie) := ((h c W X k e q).1 hi).2 ht
theorem SE.pi {ie : IE} (h : SE T G g P n ie) (k : Good T G g P n c W X) {e : Expr} (q : chkE P c ie e = true) {tg : Expr} (ht : itOk ie tg = true) : PI X tg e (tI T G g W c.pu ie) := (h c W X k e q).2.1 tg ht
theorem SE.pih {ie : IE} (h : SE T G g P n ie) (k : Good T G g P n c W X) {e : Expr} (q : chkE P c ie e = true) (ht : isR1 ie = true) {tg : Expr} : L2H.PIH X tg e (tI T G g W c.pu ie) := (h c W X k e q).2.2 ht tg
theorem chk_ne {ie : IE} {e : Expr} (q : chkE P c ie e = true) : ie ≠ .nil := by
  rintro rfl
  simp [chkE] at q
theorem isNil_ok {ie : IE} (h : ie.isNil = true) : ie = .nil := by
  cases ie <;> first | rfl | (cases h)
theorem chk_marg {i : Nat} {e : Expr} (q : chkE P c (.marg i) e = true) : False := by simp [chkE] at q
end
end JH

/-! JC4: expressions: the induction. -/
namespace JH
open PySem PySem.Spec PyProof.Rows L2
section
variable {T : Tab} {G : Nat → Option D} {g : SG} {P : Pg} {n : Nat}
theorem no_L {ie : IE} (h : ∀ c es, chkL P c ie es = true → False) : SL T G g P n ie := fun c W X _ es q => (h c es q).elim
theorem no_A {ie : IE} (h : ∀ c es, chkA P c ie es = true → False) : SA T G g P n ie := fun c W X _ es q => (h c es q).elim
theorem no_B {ie : IE} (h : ∀ c es, chkB P c ie es = true → False) : SB T G g P n ie := fun c W X _ es q => (h c es q).elim
theorem no_E {ie : IE} (h : ∀ c e, chkE P c ie e = true → False) : SE T G g P n ie := fun c W X _ e q => (h c e q).elim
theorem one_E {ie : IE} (h : SE T G g P n ie) (h1 : ∀ c es, chkL P c ie es = true → False) (h2 : ∀ c es, chkA P c ie es = true → False) (h3 : ∀ c es, chkB P c ie es = true → False) : SAll T G g P n ie := ⟨h, no_L h1, no_A h2, no_B h3⟩
/-! ### leaves -/
theorem SE_cN : SE T G g P n .cN := fun c W X h e q => by
  simp only [chkE] at q
  split at q
  · exact mkV h (by simp) rfl e_cN fun _ => rfl
  · cases q
theorem SE_cB {b : Bool} : SE T G g P n (.cB b) := fun c W X h e q => by
  simp only [chkE] at q
  split at q
  · obtain rfl := eq_of_beq q
    exact mkV h (by simp) rfl e_cB fun _ => rfl
  · cases q
theorem SE_cI {b : Int} : SE T G g P n (.cI b) := fun c W X h e q => by
  simp only [chkE] at q
  split at q
  · obtain rfl := of_decide_eq_true q
    exact mkV h (by simp) rfl e_cI fun _ => rfl
  · cases q
theorem SE_cS {b : List Nat} : SE T G g P n (.cS b) := fun c W X h e q => by
  simp only [chkE] at q
  split at q
  · exact mkV h (by simp) rfl (e_cS (of_decide_eq_true q)) fun _ => rfl
  · cases q
theorem SE_rd {i : Nat} : SE T G g P n (.rd i) := fun c W X h e q => by
  simp only [chkE] at q
  split at q
  · obtain ⟨h1, h2, h3, h4⟩ := h.nm q
    exact mkV h (by simp) rfl (e_rd h1 h2 h3 h4) fun _ => rfl
  · cases q
theorem SE_fz {p : Pl} : SE T G g P n (.fz p) := fun c W X h e q => by
  cases p with
  | fld _ _ => simp only [chkE] at q; cases q
  | root i =>
  simp only [chkE] at q
  split at q
  · simp only [Bool.and_eq_true, Bool.not_eq_true'] at q
    obtain ⟨q0, q⟩ := q
    obtain ⟨h1, h2, h3, h4⟩ := h.nm q
    exact mkV h (by simp) rfl (by rw [q0]; exact e_fz h1 h2 h3 h4) fun _ => rfl
  · cases q
theorem SE_gl {k : Nat} : SE T G g P n (.gl k) := fun c W X h e q => by
  simp only [chkE] at q
  split at q
  · simp only [Bool.and_eq_true, decide_eq_true_eq, Bool.not_eq_true'] at q
    obtain ⟨⟨q1, q2⟩, q3⟩ := q
    obtain ⟨⟨x, i⟩, e1, rfl⟩ := Option.map_eq_some_iff.mp q1
    obtain ⟨eG, t, em⟩ := h.gls k x i e1
    exact mkV h (by simp) rfl (e_const (d := .int i) (pe_glob (v := .int i) (h.gl q2) em ⟨t, rfl⟩ q3) (fun _ => .int i) fun σ => by simp only [evE, eG]; rfl) fun _ => rfl
  · cases q
/-! ### one or two operands -/
theorem SE_bin {op : BOp} {a b : IE} (ha : SE T G g P n a) (hb : SE T G g P n b) : SE T G g P n (.bin op a b) := fun c W X h e q => by
  simp only [chkE] at q
  split at q
  · simp only [Bool.and_eq_true, Bool.not_eq_true'] at q
    obtain ⟨⟨⟨⟨q1, q2⟩, q3⟩, q4⟩, q5⟩ := q
    cases opB_ok q1
    exact mkV h (by simp) rfl (e_bin h.hK (ha.pe h q2 q4) (hb.pe h q3 q5)) fun _ => rfl
  · cases q
theorem SE_neg {a : IE} (ha : SE T G g P n a) : SE T G g P n (.neg a) := fun c W X h e q => by
  simp only [chkE] at q
  split at q
  · simp only [Bool.and_eq_true, Bool.not_eq_true'] at q
    exact mkV h (by simp) rfl (e_neg (ha.pe h q.1 q.2)) fun _ => rfl
  · cases q
theorem SE_cmp {op : COp} {a b : IE} (ha : SE T G g P n a) (hb : SE T G g P n b) : SE T G g P n (.cmp op a b) := fun c W X h e q => by
  simp only [chkE] at q
  split at q
  · simp only [Bool.and_eq_true, Bool.not_eq_true'] at q
    obtain ⟨⟨⟨⟨⟨q1, q2⟩, q3⟩, q6⟩, q4⟩, q5⟩ := q
    cases coB_ok q1
    exact mkT h rfl (e_cmp h.hK h.un (ha.pe h q2 q4) (hb.pe h q3 q5) q6) (t_cmp h.hK h.un (ha.pe h q2 q4) (hb.pe h q3 q5) q6)
  · cases q
theorem SE_chn {o1 o2 : COp} {a b d : IE} (ha : SE T G g P n a) (hb : SE T G g P n b) (hd : SE T G g P n d) : SE T G g P n (.chn o1 o2 a b d) := fun c W X h e q => by
  simp only [chkE] at q
  split at q
  · simp only [Bool.and_eq_true, Bool.not_eq_true'] at q
    obtain ⟨⟨⟨⟨⟨⟨⟨⟨q1, q2⟩, q3⟩, q4⟩, q5⟩, q6⟩, q7⟩, q8⟩, q9⟩ := q
    cases coB_ok q1
    cases coB_ok q2
    exact mkT h rfl (e_chn h.hK h.un (ha.pe h q3 q7) (hb.pe h q4 q8) (hd.pe h q5 q9) q6) (t_chn h.hK h.un (ha.pe h q3 q7) (hb.pe h q4 q8) (hd.pe h q5 q9) q6)
  · cases q
theorem SE_chn4 {o1 o2 o3 : COp} {a b d f : IE} (ha : SE T G g P n a) (hb : SE T G g P n b) (hd : SE T G g P n d) (hf : SE T G g P n f) : SE T G g P n (.chn4 o1 o2 o3 a b d f) := fun c W X h e q => by
  simp only [chkE] at q
  split at q
  · simp only [Bool.and_eq_true, Bool.not_eq_true'] at q
    obtain ⟨q1, q2, q3, q4, q5, q6, q7, q8, q9, qa, qb, qc⟩ := q
    cases coB_ok q1
    cases coB_ok q2
    cases coB_ok q3
    exact mkT h rfl (e_chn4 h.hK h.un (ha.pe h q4 q9) (hb.pe h q5 qa) (hd.pe h q6 qb) (hf.pe h q7 qc) q8) (t_chn4 h.hK h.un (ha.pe h q4 q9) (hb.pe h q5 qa) (hd.pe h q6 qb) (hf.pe h q7 qc) q8)
  · cases q
theorem SE_cv1 {t : Bool} {a : IE} (ha : SE T G g P n a) : SE T G g P n (.cv1 t a) := fun c W X h e q => by
  simp only [chkE] at q
  split at q
  · simp only [Bool.and_eq_true, decide_eq_true_eq, Bool.not_eq_true'] at q
    obtain ⟨q0, q1, q2, q3, q4, q5, q6, q7⟩ := q
    subst q3
    exact mkV h (by simp) rfl (e_cv1 q1 (h.calm (eq_of_beq q0)) q5 (h.bl q2).1 (h.bl q2).2 (h.bl q4).1 (h.bl q4).2 (ha.pe h q6 q7)) fun _ => rfl
  · cases q
theorem SE_cv2 {t : Bool} {a b : IE} (ha : SE T G g P n a) (hb : SE T G g P n b) : SE T G g P n (.cv2 t a b) := fun c W X h e q => by
  simp only [chkE] at q
  split at q
  · simp only [Bool.and_eq_true, decide_eq_true_eq, Bool.not_eq_true'] at q
    obtain ⟨q0, q1, q2, q3, q4, q5, q6, q7, q8, q9, qa⟩ := q
    subst q3
    exact mkV h (by simp) rfl (e_cv2 q1 (h.calm (eq_of_beq q0)) q5 q6 (h.bl q2).1 (h.bl q2).2 (h.bl q4).1 (h.bl q4).2 (ha.pe h q7 q9) (hb.pe h q8 qa)) fun _ => rfl
  · cases q
theorem SE_isN {a : IE} (ha : SE T G g P n a) : SE T G g P n (.isN a) := fun c W X h e q => by
  simp only [chkE] at q
  split at q
  · simp only [Bool.and_eq_true, Bool.not_eq_true'] at q
    exact mkT h rfl (e_isN (ha.pe h q.1 q.2)) (t_isN (ha.pe h q.1 q.2))
  · cases q
theorem SE_notN {a : IE} (ha : SE T G g P n a) : SE T G g P n (.notN a) := fun c W X h e q => by
  simp only [chkE] at q
  split at q
  · simp only [Bool.and_eq_true, Bool.not_eq_true'] at q
    exact mkT h rfl (e_notN (ha.pe h q.1 q.2)) (t_notN (ha.pe h q.1 q.2))
  · cases q
theorem SE_not {a : IE} (ha : SE T G g P n a) : SE T G g P n (.not a) := fun c W X h e q => by
  simp only [chkE] at q
  split at q
  · simp only [Bool.and_eq_true, Bool.not_eq_true'] at q
    obtain ⟨⟨q1, q2⟩, q3⟩ := q
    exact mkT h rfl (e_not (ha.pe h q1 q2)) (t_not (chk_ne q1) (ha.pt h q1 q2 q3))
  · cases q
theorem SE_and {a : IE} (ha : SB T G g P n a) : SE T G g P n (.and a) := fun c W X h e q => by
  simp only [chkE] at q
  split at q
  · exact mkT h rfl (e_and (ha c W X h _ q _).1) (t_and (ha c W X h _ q _).2.2.1)
  · cases q
theorem SE_or {a : IE} (ha : SB T G g P n a) : SE T G g P n (.or a) := fun c W X h e q => by
  simp only [chkE] at q
  split at q
  · exact mkT h rfl (e_or (ha c W X h _ q _).2.1) (t_or (ha c W X h _ q _).2.2.2)
  · cases q
theorem SE_ite {k a b : IE} (hk : SE T G g P n k) (ha : SE T G g P n a) (hb : SE T G g P n b) : SE T G g P n (.ite k a b) := fun c W X h e q => by
  simp only [chkE] at q
  split at q
  · simp only [Bool.and_eq_true, Bool.not_eq_true'] at q
    obtain ⟨⟨⟨⟨⟨⟨q1, q2⟩, q3⟩, q4⟩, q5⟩, q6⟩, q7⟩ := q
    exact ⟨fun _ => ⟨e_ite (chk_ne q1) (hk.pt h q1 q4 q7) (ha.pe h q2 q5) (hb.pe h q3 q6), fun z => by
      simp only [tOk, Bool.and_eq_true, Bool.not_eq_true'] at z
      exact t_ite (chk_ne q1) (chk_ne q2) (chk_ne q3) (hk.pt h q1 q4 q7) (ha.pt h q2 q5 z.1.1.1) (hb.pt h q3 q6 z.1.1.2)⟩, fun tg _ => i_seq rfl h.hK (e_ite (chk_ne q1) (hk.pt h q1 q4 q7) (ha.pe h q2 q5) (hb.pe h q3 q6)), fun q => (noR1 rfl q).elim⟩
  · cases q
theorem SE_idx {a b : IE} (ha : SE T G g P n a) (hb : SE T G g P n b) : SE T G g P n (.idx a b) := fun c W X h e q => by
  simp only [chkE] at q
  split at q
  · simp only [Bool.and_eq_true, Bool.not_eq_true'] at q
    obtain ⟨⟨⟨⟨q1, q2⟩, q3⟩, q4⟩, q5⟩ := q
    exact mkV h (by simp) rfl (e_idx h.hK h.un (ha.pe h q1 q4) (hb.pe h q2 q5) q3) fun _ => rfl
  · cases q
theorem SE_midx {p : Pl} {b : IE} (hb : SE T G g P n b) : SE T G g P n (.midx p b) := fun c W X h e q => by
  cases p with
  | fld _ _ => simp only [chkE] at q; cases q
  | root i =>
  simp only [chkE] at q
  split at q
  · simp only [Bool.and_eq_true, Bool.not_eq_true'] at q
    obtain ⟨⟨⟨q1, q2⟩, q3⟩, q4⟩ := q
    obtain ⟨h1, h2, h3, h4⟩ := h.nm q1
    exact mkV h (by simp) rfl (e_midx h.hK h.un h1 h2 h3 h4 (hb.pe h q2 q4) q3) fun _ => rfl
  · cases q
theorem SE_slc {a lo hi : IE} (ha : SE T G g P n a) (hl : SE T G g P n lo) (hh : SE T G g P n hi) : SE T G g P n (.slc a lo hi) := fun c W X h e q => by
  simp only [chkE] at q
  split at q
  · simp only [Bool.and_eq_true, Bool.not_eq_true'] at q
    obtain ⟨⟨⟨⟨⟨q1, q2⟩, q3⟩, q4⟩, q5⟩, q6⟩ := q
    rename_i l r _ _
    have ol : PO X l (tOf T G g W c.pu lo) := by
      cases l with
      | none => rw [isNil_ok q5]; exact o_nil
      | some y => exact o_some (chk_ne q5) (hl.pe h q5 q3)
    have oh : PO X r (tOf T G g W c.pu hi) := by
      cases r with
      | none => rw [isNil_ok q6]; exact o_nil
      | some y => exact o_some (chk_ne q6) (hh.pe h q6 q4)
    exact mkV h (by simp) rfl (e_slc h.hK (ha.pe h q1 q2) ol oh) fun _ => rfl
  · cases q
theorem SE_tup {l : IE} (hl : SL T G g P n l) : SE T G g P n (.tup l) := fun c W X h e q => by
  simp only [chkE] at q
  split at q
  · simp only [Bool.and_eq_true, decide_eq_true_eq] at q
    exact mkV h (by simp) rfl (e_tup q.2 (hl c W X h _ q.1).1) fun _ => rfl
  · cases q
theorem SE_lst {l : IE} (hl : SL T G g P n l) : SE T G g P n (.lst l) := fun c W X h e q => by
  simp only [chkE] at q
  split at q
  · simp only [Bool.and_eq_true, decide_eq_true_eq] at q
    exact mkV h (by simp) rfl (e_lst q.2 (hl c W X h _ q.1).1) fun _ => rfl
  · cases q
theorem SE_call {f : Nat} {l : IE} (hl : SA T G g P n l) : SE T G g P n (.call f l) := fun c W X h e q => by
  simp only [chkE] at q
  split at q
  · simp only [Bool.and_eq_true, decide_eq_true_eq, Bool.not_eq_true'] at q
    obtain ⟨⟨⟨⟨⟨⟨⟨q0, qp⟩, q1⟩, q2⟩, q3⟩, q4⟩, q5⟩, q6⟩ := q
    have hpm : c.pu = true → l.noM = true := fun z => by simpa [z] using qp
    rcases Bool.or_eq_true_iff.mp q0 with q0 | q0
    · obtain ⟨ad, fd, ps, hm, hk, hb, F⟩ := h.fns (eq_of_beq q0) f _ q2.1 q2.2
      exact mkV h (by simp) rfl (e_call F ((h.room (eq_of_beq q0)).mono (by omega)) (h.gl q3) hm hk hb h.tk q4 q5 q6 hpm (hl c W X h _ q1)) fun _ => rfl
    · obtain ⟨q7, q8⟩ := bands q0
      obtain ⟨ad, fd, ps, hm, hk, hb, F⟩ := h.fnsH g.hp f _ q2.1 q2.2 (of_decide_eq_true q8)
      exact mkV h (by simp) rfl (e_callP F ((h.roomH (eq_of_beq q7)).mono (by omega)) (h.hot (eq_of_beq q7)) (h.gl q3) hm hk hb h.tk q4 q5 q6 hpm (hl c W X h _ q1)) fun _ => rfl
  · cases q
theorem SE_b1 {f : B1} {a : IE} (ha : SE T G g P n a) : SE T G g P n (.b1 f a) := fun c W X h e q => by
  simp only [chkE] at q
  split at q
  · simp only [Bool.and_eq_true, decide_eq_true_eq, Bool.not_eq_true'] at q
    obtain ⟨⟨⟨⟨⟨q0, q1⟩, q2⟩, q3⟩, q4⟩, q5⟩ := q
    exact mkV h (by simp) rfl (e_b1c q1 h.hK ((Bool.or_eq_true _ _ ▸ q0).elim (fun z => .inl (h.calm (eq_of_beq z))) .inr) q3 (h.bl q2).1 (h.bl q2).2 (ha.pe h q4 q5)) fun _ => rfl
  · cases q
theorem SE_pb1 {f : B1} {p : Pl} : SE T G g P n (.pb1 f p) := fun c W X h e q => by
  cases p with
  | fld _ _ => simp only [chkE] at q; cases q
  | root i =>
  simp only [chkE] at q
  split at q
  · simp only [Bool.and_eq_true, decide_eq_true_eq, Bool.not_eq_true'] at q
    obtain ⟨⟨⟨⟨q0, q1⟩, q2⟩, q3⟩, q4⟩ := q
    obtain ⟨h1, h2, h3, h4⟩ := h.nm q4
    exact mkV h (by simp) rfl (e_pb1 h.hK q1 q2 (h.calm (eq_of_beq q0)) (h.bl q3).1 (h.bl q3).2 h1 h2 h3 h4) fun _ => rfl
  · cases q
theorem SE_b2 {f : B2} {a b : IE} (ha : SE T G g P n a) (hb : SE T G g P n b) : SE T G g P n (.b2 f a b) := fun c W X h e q => by
  simp only [chkE] at q
  split at q
  · simp only [Bool.and_eq_true, decide_eq_true_eq, Bool.not_eq_true'] at q
    obtain ⟨⟨⟨⟨⟨⟨⟨⟨q0, q1⟩, q2⟩, q3⟩, q4⟩, q5⟩, q6⟩, q7⟩, q8⟩ := q
    exact mkV h (by simp) rfl (e_b2 q1 (h.calm (eq_of_beq q0)) q3 q4 (h.bl q2).1 (h.bl q2).2 (ha.pe h q5 q7) (hb.pe h q6 q8)) fun _ => rfl
  · cases q
theorem SE_isi {a : IE} {t : Ty} (ha : SE T G g P n a) : SE T G g P n (.isi a t) := fun c W X h e q => by
  simp only [chkE] at q
  split at q
  · simp only [Bool.and_eq_true, decide_eq_true_eq, Bool.not_eq_true'] at q
    obtain ⟨⟨⟨⟨⟨⟨q1, q2⟩, q3⟩, q4⟩, q5⟩, q6⟩, q7⟩ := q
    subst q1
    exact mkV h (by simp) rfl (e_isi q2 h.hK q5 (h.bl q3).1 (h.bl q3).2 (h.bl q4).1 (h.bl q4).2 (ha.pe h q6 q7)) fun _ => rfl
  · cases q
theorem SE_isi2 {a : IE} {t u : Ty} (ha : SE T G g P n a) : SE T G g P n (.isi2 a t u) := fun c W X h e q => by
  simp only [chkE] at q
  split at q
  · simp only [Bool.and_eq_true, decide_eq_true_eq, Bool.not_eq_true'] at q
    obtain ⟨⟨⟨⟨⟨⟨⟨⟨q1, q2⟩, q2'⟩, q3⟩, q4⟩, q4'⟩, q5⟩, q6⟩, q7⟩ := q
    subst q1
    exact mkV h (by simp) rfl (e_isi2 q2 q2' h.hK q5 (h.bl q3).1 (h.bl q3).2 (h.bl q4).1 (h.bl q4).2 (h.bl q4').1 (h.bl q4').2 (ha.pe h q6 q7)) fun _ => rfl
  · cases q
theorem SE_pop {p : Pl} : SE T G g P n (.pop p) := fun c W X h e q => by
  cases p with
  | fld _ _ => simp only [chkE] at q; cases q
  | root i =>
  simp only [chkE] at q
  split at q
  · simp only [Bool.and_eq_true, decide_eq_true_eq, Bool.not_eq_true'] at q
    obtain ⟨⟨⟨q0, q1⟩, q2⟩, q3⟩ := q
    obtain ⟨h1, h2, h3, h4⟩ := h.nm q3
    subst q1
    exact mkV h (by simp) rfl (by rw [q0]; exact e_pop q2 h1 h2 h3 h4) fun _ => rfl
  · cases q
theorem SE_popi {p : Pl} {a : IE} (ha : SE T G g P n a) : SE T G g P n (.popi p a) := fun c W X h e q => by
  cases p with
  | fld _ _ => simp only [chkE] at q; cases q
  | root i =>
  simp only [chkE] at q
  split at q
  · simp only [Bool.and_eq_true, decide_eq_true_eq, Bool.not_eq_true'] at q
    obtain ⟨⟨⟨⟨⟨⟨q0, q1⟩, q2⟩, q3⟩, q4⟩, q5⟩, q6⟩ := q
    obtain ⟨h1, h2, h3, h4⟩ := h.nm q3
    subst q1
    have pa := ha.pe h q5 q6
    rw [q0] at pa
    exact mkV h (by simp) rfl (by rw [q0]; exact e_popi q2 q4 h1 h2 h3 h4 pa) fun _ => rfl
  · cases q
/-! ### what loops walk -/
theorem SE_rng1 {a : IE} (ha : SE T G g P n a) : SE T G g P n (.rng1 a) := fun c W X h e q => by
  simp only [chkE] at q
  split at q
  · simp only [Bool.and_eq_true, decide_eq_true_eq, Bool.not_eq_true'] at q
    obtain ⟨⟨⟨⟨q1, q2⟩, q3⟩, q4⟩, q5⟩ := q
    subst q1
    exact mkI rfl (fun tg _ => i_rng1 q3 (h.bl q2).1 (h.bl q2).2 (ha.pe h q4 q5)) fun _ tg => i_rng1H q3 (h.bl q2).1 (h.bl q2).2 (ha.pe h q4 q5)
  · cases q
theorem SE_rng2 {a b : IE} (ha : SE T G g P n a) (hb : SE T G g P n b) : SE T G g P n (.rng2 a b) := fun c W X h e q => by
  simp only [chkE] at q
  split at q
  · simp only [Bool.and_eq_true, decide_eq_true_eq, Bool.not_eq_true'] at q
    obtain ⟨⟨⟨⟨⟨⟨⟨q1, q2⟩, q3⟩, q4⟩, q5⟩, q6⟩, q7⟩, q8⟩ := q
    subst q1
    exact mkI rfl (fun tg _ => i_rng2 q3 q4 (h.bl q2).1 (h.bl q2).2 (ha.pe h q5 q7) (hb.pe h q6 q8)) fun z => nomatch z
  · cases q
theorem isTup_ok {e : Expr} (h : isTup e = true) : ∃ es k p, e = .Tuple es k p := by
  cases e <;> first | exact ⟨_, _, _, rfl⟩ | (cases h)
theorem SE_enm {a : IE} (ha : SE T G g P n a) : SE T G g P n (.enm a) := fun c W X h e q => by
  simp only [chkE] at q
  split at q
  · simp only [Bool.and_eq_true, decide_eq_true_eq, Bool.not_eq_true'] at q
    obtain ⟨⟨⟨⟨q1, q2⟩, q3⟩, q4⟩, q5⟩ := q
    subst q1
    refine mkI rfl (fun tg ht => ?_) fun z => nomatch z
    obtain ⟨es, k, p, rfl⟩ := isTup_ok ht
    exact i_enm h.hK q3 (h.bl q2).1 (h.bl q2).2 (ha.pe h q4 q5)
  · cases q
theorem SE_zp {a b : IE} (ha : SE T G g P n a) (hb : SE T G g P n b) : SE T G g P n (.zp a b) := fun c W X h e q => by
  simp only [chkE] at q
  split at q
  · simp only [Bool.and_eq_true, decide_eq_true_eq, Bool.not_eq_true'] at q
    obtain ⟨⟨⟨⟨⟨⟨⟨q1, q2⟩, q3⟩, q4⟩, q5⟩, q6⟩, q7⟩, q8⟩ := q
    subst q1
    refine mkI rfl (fun tg ht => ?_) fun z => nomatch z
    obtain ⟨es, k, p, rfl⟩ := isTup_ok ht
    exact i_zp h.hK q3 q4 (h.bl q2).1 (h.bl q2).2 (ha.pe h q5 q7) (hb.pe h q6 q8)
  · cases q
/-! ### comprehensions -/
/-- the parts of a comprehension, as its rules want them -/
theorem comp_parts {a it k : IE} {tg : Tg} {own : List Nat} {c : CK} {W : WX} {X : Cx} {elt tgt iter : Expr} {ifs : List Expr} {scope : Scope} {pos : Pos} (ha : SE T G g P n a) (hi : SE T G g P n it) (hk : SE T G g P n k) (h : Good T G g P n c W X)
    (q : chkE P c (.comp a tg it k own) (.ListComp elt [⟨tgt, iter, ifs, 0⟩] scope pos) = true) :
    ((c.md == 0) || ((c.md == 1) && isR1 it)) = true ∧ (ownOf c.N scope).map (·.2) = own ∧ (PI X tgt iter (tI T G g W c.pu it) ∧ (isR1 it = true → L2H.PIH X tgt iter (tI T G g W c.pu it))) ∧ BlkOk X.N X.env.scope scope (ownOf c.N scope) ∧ (∀ j ∈ tgS tg, j ∈ (ownOf c.N scope).map (·.2)) ∧
      (∀ (s : Shared) (H : Hp) (C : Addr) (cl : List (Str × Addr)) (fp : List Addr), PG (X.blk s H scope (compEnvC scope cl C X.env) fp) tgt (tG g tg)) ∧
      (∀ (s : Shared) (H : Hp) (C : Addr) (cl : List (Str × Addr)) (fp : List Addr), PTs (X.blk s H scope (compEnvC scope cl C X.env) fp) ifs (tT T G g W0 c.pu k)) ∧
      (∀ (s : Shared) (H : Hp) (C : Addr) (cl : List (Str × Addr)) (fp : List Addr), PE (X.blk s H scope (compEnvC scope cl C X.env) fp) elt (tE T G g W0 c.pu a)) ∧ (∀ x, foldedSetIterable iter X.env x = pure x) := by
  simp only [chkE] at q
  simp only [Bool.and_eq_true, decide_eq_true_eq, Bool.not_eq_true', List.all_eq_true] at q
  obtain ⟨⟨⟨⟨⟨⟨⟨⟨⟨⟨⟨q0, q1⟩, q2⟩, q3⟩, q4⟩, q5⟩, q6⟩, q7⟩, q7'⟩, q8⟩, q9⟩, q10⟩ := q
  refine ⟨by simpa using q0, q1, ⟨hi.pi h q7 q8, fun z => hi.pih h q7 z⟩, by rw [h.hN, h.sc]; exact blkB_ok q2, by rw [q1]; exact q3, fun s H C cl fp => (g_sound (h.blk s H scope C cl fp) tg).1 _ q4, fun s H C cl fp => ?_, fun s H C cl fp => ha.pe (h.blk s H scope C cl fp) q5 q6, nSet_ok q7' _⟩
  split at q10
  · rw [isNil_ok q10]
    exact ts_nil
  · simp only [Bool.and_eq_true] at q10
    exact pts_one (hk.pt (h.blk s H scope C cl fp) q10.1 q9 q10.2)
  · cases q10
theorem SE_comp {a it k : IE} {tg : Tg} {own : List Nat} (ha : SE T G g P n a) (hi : SE T G g P n it) (hk : SE T G g P n k) : SE T G g P n (.comp a tg it k own) := fun c W X h e q => by
  have q0 := q
  simp only [chkE] at q
  split at q
  · obtain ⟨h0, h1, h2, h3, h4, h5, h6, h7, h8⟩ := comp_parts ha hi hk h q0
    subst h1
    rcases Bool.or_eq_true_iff.mp h0 with h0 | h0
    · exact mkV h (by simp) rfl (e_comp (h.calm (eq_of_beq h0)) h.nd' h2.1 h3 h4 h5 h6 h7 h8) fun _ => rfl
    · obtain ⟨h9, h10⟩ := bands h0
      exact mkV h (by simp) rfl (e_compH (h.hot (eq_of_beq h9)).hot h.nd' (h2.2 h10) h3 h4 h5 h6 h7 h8) fun _ => rfl
  · cases q
/-! ### the error that an except suite holds -/
theorem SE_isc {a : IE} {l : List Nat} (ha : SE T G g P n a) : SE T G g P n (.isc a l) := fun c W X h e q => by
  simp only [chkE] at q
  split at q
  · simp only [Bool.and_eq_true, decide_eq_true_eq, Bool.not_eq_true'] at q
    obtain ⟨⟨⟨⟨⟨⟨⟨q0, q1⟩, q2⟩, q3⟩, q4⟩, q5⟩, q6⟩, q7⟩ := q
    subst q1
    obtain ⟨⟨o, l'⟩, hq, q8⟩ := List.any_eq_true.mp q7
    obtain ⟨q8, q9⟩ := bands q8
    obtain rfl := of_decide_eq_true q8
    obtain ⟨cv, e1, e2⟩ := h.xf.sb hq
    have hot := h.hotOr q0
    have hx : ∀ i, i < g.nec → XcF X.K (g.cad i) ∧ PySem.W.kitOne X.K (.ref (g.cad i)) cv = some (l'.contains i) := fun i hi => by
      rw [h.hK]
      exact ⟨h.xf.xc i hi, (e2 i hi).1⟩
    cases o with
    | none =>
      obtain ⟨q10, q11⟩ := bands q9
      obtain rfl := of_decide_eq_true q10
      cases e1
      exact mkV h (by simp) rfl (e_isc hot hx (pe_bltn (v := .ty "ValueError") (h.bl q11).1 (h.bl q11).2 PyProof.Rows.Boot.«ValueError» rfl (by decide) (by decide)) (.ty _) (h.bl q2).1 (h.bl q2).2 q3 (ha.pe h q4 q5)) fun _ => rfl
    | some j =>
      obtain ⟨q10, q11⟩ := bands q9
      have q10 := of_decide_eq_true q10
      obtain ⟨ec, e3, rfl⟩ := Option.map_eq_some_iff.mp q10
      have e1 : (P.ecl[j]?).map (fun c => Value.ref (He.ga g.K c.name)) = some cv := e1
      rw [e3] at e1
      cases e1
      obtain ⟨e4, e5⟩ := h.xf.cad j ec e3
      rw [e4] at e5
      exact mkV h (by simp) rfl (e_isc hot hx (pe_glob (v := .ref (He.ga g.K ec.name)) (h.gl q11) e5 rfl q6) (.own _) (h.bl q2).1 (h.bl q2).2 q3 (ha.pe h q4 q5)) fun _ => rfl
  · cases q
theorem SE_ef {a : IE} {f : Nat} (ha : SE T G g P n a) : SE T G g P n (.ef a f) := fun c W X h e q => by
  simp only [chkE] at q
  split at q
  · simp only [Bool.and_eq_true, decide_eq_true_eq, Bool.not_eq_true'] at q
    obtain ⟨⟨⟨⟨q0, q1⟩, q2⟩, q3⟩, q4⟩ := q
    exact mkV h (by simp) rfl (e_ef (h.hotOr q0) (h.xf.fnm _ _ q1) (fun i hi => by rw [h.hK]; exact h.xf.xc i hi) (fun i hi => by rw [h.hK]; exact h.xf.fl (List.mem_of_getElem? q1) i hi) q2 (ha.pe h q3 q4)) fun _ => rfl
  · cases q
/-! ### own classes, dicts, two fors -/
theorem SE_stk : SE T G g P n .stk := fun c W X h e q => ⟨fun _ => ⟨e_stk, fun _ => t_stk⟩, fun tg _ => i_stk, fun q => by cases q⟩
theorem SE_ofd {a : IE} {f : Nat} {cs : List Nat} (ha : SE T G g P n a) : SE T G g P n (.ofd a f cs) := fun c W X h e q => by
  simp only [chkE] at q
  split at q
  · simp only [Bool.and_eq_true, decide_eq_true_eq, Bool.not_eq_true', List.all_eq_true] at q
    obtain ⟨q1, q2, q3, q4, q5⟩ := q
    exact mkV h (by simp) rfl (e_ofd (fun k hk => h.ofs k f _ (q1 k hk) q2) (h.fnm.inj q2) q3 (ha.pe h q4 q5)) fun _ => rfl
  · cases q
theorem bad_ok {m : Str} {bad : Nat} (h : FN g P.fld) (q : badB P.fld m bad = true) : ∀ i, g.fnm i = m → i = bad := fun i e => by
  unfold badB at q
  simp only [Bool.and_eq_true, Bool.not_eq_true', decide_eq_false_iff_not, List.all_eq_true, List.mem_range, Bool.or_eq_true, decide_eq_true_eq] at q
  rw [h.at_] at e
  cases q1 : P.fld[i]? with
  | none =>
    rw [q1] at e
    exact absurd e.symm q.1
  | some y =>
    rw [q1] at e
    have e : y = m := e
    subst e
    have hi := (List.getElem?_eq_some_iff.mp q1).1
    exact (q.2 i hi).resolve_left fun z => z q1
theorem SE_meth {bad k f : Nat} {o l : IE} (ho : SE T G g P n o) (hl : SL T G g P n l) : SE T G g P n (.meth bad k f o l) := fun c W X h e q => by
  simp only [chkE] at q
  split at q
  · simp only [Bool.and_eq_true, decide_eq_true_eq, Bool.not_eq_true'] at q
    obtain ⟨q0, q1, q2, q3, q4, q5, q6, q7, q8⟩ := q
    obtain ⟨hc, ad, fd, ps, hm, hb, F⟩ := h.mts (eq_of_beq q0) _ _ _ q2
    have hr := (h.room (eq_of_beq q0)).mono (show 3 * n ≤ 3 * n + 2 by omega)
    rename_i _ _ _ _ es _
    cases es with
    | nil =>
      have : l = .nil := by
        cases l <;> first | rfl | (simp [chkL] at q8)
      subst this
      exact mkV h (by simp) rfl (e_meth0 q1 hc hm (bad_ok h.fnm q3) F hr hb (ho.pe h q4 q5)) fun _ => rfl
    | cons a es =>
      simp only [List.all_cons, Bool.and_eq_true] at q6
      exact mkV h (by simp) rfl (e_meth q1 hc hm (bad_ok h.fnm q3) F hr hb (ho.pe h q4 q5) q6.1 q6.2 (by rw [List.length_cons] at q7; omega) (hl c W X h _ q8).1) fun _ => rfl
  · cases q
theorem SE_mk {k f : Nat} {l : IE} (hl : SL T G g P n l) : SE T G g P n (.mk k f l) := fun c W X h e q => by
  simp only [chkE] at q
  split at q
  · simp only [Bool.and_eq_true, decide_eq_true_eq, Bool.not_eq_true'] at q
    obtain ⟨q0, q1, q2, q3, q4, q5, q6⟩ := q
    obtain ⟨hm, ad, fd, ps, M, hb, F⟩ := h.mks (eq_of_beq q0) _ _ _ q1
    exact mkV h (by simp) rfl (e_mk M F ((h.room (eq_of_beq q0)).mono (by omega)) (h.gl q2) hm hb q3 q4 q5 (hl c W X h _ q6).1) fun _ => rfl
  · cases q
theorem ks_some : ∀ {ks : List (Sum Int (List Nat))} {keys : List (Option Expr)}, chkKs ks keys = true → keys.all (·.isSome) = true ∧ keys.length = ks.length
  | [], keys, h => by
    unfold chkKs at h
    split at h
    · exact ⟨rfl, rfl⟩
    · cases h
  | .inl i :: ks, keys, h => by
    unfold chkKs at h
    split at h
    · simp only [Bool.and_eq_true] at h
      have := ks_some h.2
      exact ⟨by rw [List.all_cons, this.1]; rfl, by simp [this.2]⟩
    · cases h
  | .inr i :: ks, keys, h => by
    unfold chkKs at h
    split at h
    · simp only [Bool.and_eq_true] at h
      have := ks_some h.2
      exact ⟨by rw [List.all_cons, this.1]; rfl, by simp [this.2]⟩
    · cases h
theorem SE_dct {ks : List (Sum Int (List Nat))} {l : IE} (hl : SL T G g P n l) : SE T G g P n (.dct ks l) := fun c W X h e q => by
  simp only [chkE] at q
  split at q
  · simp only [Bool.and_eq_true, decide_eq_true_eq, Bool.not_eq_true'] at q
    obtain ⟨q1, q2, q3, q4, q5, q6, q7⟩ := q
    obtain ⟨k1, k2⟩ := ks_some q1
    rename_i keys vs pos
    exact mkV h (by simp) rfl (e_dct ((hl c W X h _ q2).2 ks keys pos q1 q3) k1 q3 (fun z => by
      subst z
      simp only [List.length_nil] at k2
      have : ks = [] := List.length_eq_zero_iff.mp k2.symm
      subst this
      cases q6) q7 (by omega) q4 q5) fun _ => rfl
  · cases q
theorem SE_dhas {neg : Bool} {a b : IE} (ha : SE T G g P n a) (hb : SE T G g P n b) : SE T G g P n (.dhas neg a b) := fun c W X h e q => by
  simp only [chkE] at q
  split at q
  · simp only [Bool.and_eq_true, Bool.not_eq_true'] at q
    obtain ⟨q1, q2, q3, q4, q5, q6⟩ := q
    split at q1
    · have : neg = false := by simpa using q1
      subst this
      exact mkT h rfl (e_dhasI h.un (ha.pe h q2 q5) (hb.pe h q3 q6) q4) (t_dhasI h.un (ha.pe h q2 q5) (hb.pe h q3 q6) q4)
    · subst q1
      exact mkT h rfl (e_dhasN h.un (ha.pe h q2 q5) (hb.pe h q3 q6) q4) (t_dhasN h.un (ha.pe h q2 q5) (hb.pe h q3 q6) q4)
    · cases q1
  · cases q
theorem comp2_parts {a i1 i2 : IE} {t1 t2 : Tg} {own own2 : List Nat} {c : CK} {W : WX} {X : Cx} {elt g1 r1 g2 r2 : Expr} {scope : Scope} {pos : Pos} (ha : SE T G g P n a) (h1 : SE T G g P n i1) (h2 : SE T G g P n i2) (h : Good T G g P n c W X)
    (q : chkE P c (.comp2 a t1 i1 t2 i2 own own2) (.ListComp elt [⟨g1, r1, [], 0⟩, ⟨g2, r2, [], 0⟩] scope pos) = true) :
    X.calm = true ∧ (ownOf c.N scope).map (·.2) = own ∧ PI X g1 r1 (tI T G g W c.pu i1) ∧ BlkOk X.N X.env.scope scope (ownOf c.N scope) ∧ (∀ i ∈ own2, i ∈ (ownOf c.N scope).map (·.2)) ∧ (∀ j ∈ tgS t1, j ∈ (ownOf c.N scope).map (·.2)) ∧ (∀ j ∈ tgS t2, j ∈ own2) ∧
      (∀ (s : Shared) (H : Hp) (C : Addr) (cl : List (Str × Addr)) (fp : List Addr), PG (X.blk s H scope (compEnvC scope cl C X.env) fp) g1 (tG g t1)) ∧
      (∀ (s : Shared) (H : Hp) (C : Addr) (cl : List (Str × Addr)) (fp : List Addr), PI (X.blk s H scope (compEnvC scope cl C X.env) fp) g2 r2 (tI T G g W0 c.pu i2)) ∧
      (∀ (s : Shared) (H : Hp) (C : Addr) (cl : List (Str × Addr)) (fp : List Addr), PG (X.blk s H scope (compEnvC scope cl C X.env) fp) g2 (tG g t2)) ∧
      (∀ (s : Shared) (H : Hp) (C : Addr) (cl : List (Str × Addr)) (fp : List Addr), PE (X.blk s H scope (compEnvC scope cl C X.env) fp) elt (tE T G g W0 c.pu a)) ∧ (∀ x, foldedSetIterable r1 X.env x = pure x) ∧ (∀ env x, foldedSetIterable r2 env x = pure x) := by
  simp only [chkE] at q
  simp only [Bool.and_eq_true, decide_eq_true_eq, Bool.not_eq_true', List.all_eq_true] at q
  obtain ⟨q0, q1, q2, q3, q4, q5, q6, q7, q8, q9, qa, qb, qc, qd, qe, qf⟩ := q
  exact ⟨h.calm (eq_of_beq q0), q1, h1.pi h qa qc, by rw [h.hN, h.sc]; exact blkB_ok q2, by rw [q1]; exact q3, by rw [q1]; exact q4, q5, fun s H C cl fp => (g_sound (h.blk s H scope C cl fp) t1).1 _ q6,
    fun s H C cl fp => h2.pi (h.blk s H scope C cl fp) qd qf, fun s H C cl fp => (g_sound (h.blk s H scope C cl fp) t2).1 _ q7, fun s H C cl fp => ha.pe (h.blk s H scope C cl fp) q8 q9, nSet_ok qb _, fun env => nSet_ok qe env⟩
theorem SE_comp2 {a i1 i2 : IE} {t1 t2 : Tg} {own own2 : List Nat} (ha : SE T G g P n a) (h1 : SE T G g P n i1) (h2 : SE T G g P n i2) : SE T G g P n (.comp2 a t1 i1 t2 i2 own own2) := fun c W X h e q => by
  have q0 := q
  simp only [chkE] at q
  split at q
  · obtain ⟨k0, k1, k2, k3, k4, k5, k6, k7, k8, k9, ka, kb, kc⟩ := comp2_parts ha h1 h2 h q0
    subst k1
    exact mkV h (by simp) rfl (e_comp2 k0 h.nd' k2 k3 k4 k5 k6 k7 k8 k9 ka kb kc) fun _ => rfl
  · cases q
/-! ### looking -/
theorem SE_bor {i : Nat} {a : IE} (ha : SE T G g P n a) : SE T G g P n (.bor i a) := fun c W X h e q => by
  simp only [chkE] at q
  simp only [Bool.and_eq_true, Bool.not_eq_true'] at q
  have h' : Good T G g P n { c with pu := true } W X := h.pure
  have pe : PE X e (tE T G g W c.pu (.bor i a)) := e_bor (ha.pe h' q.1.1 q.1.2)
  exact ⟨fun _ => ⟨pe, fun z => t_bor (chk_ne q.1.1) (ha.pt h' q.1.1 q.1.2 z)⟩, fun tg _ => i_seq rfl h.hK pe, fun z => nomatch z⟩
theorem SE_notV {a : IE} (ha : SE T G g P n a) : SE T G g P n (.notV a) := fun c W X h e q => by
  simp only [chkE] at q
  split at q
  · simp only [Bool.and_eq_true, Bool.not_eq_true'] at q
    exact ⟨fun _ => ⟨e_notV h.hK (ha.pe h q.1 q.2), fun z => t_notV h.hK (ha.pe h q.1 q.2) z⟩, fun tg _ => i_seq rfl h.hK (e_notV h.hK (ha.pe h q.1 q.2)), fun z => nomatch z⟩
  · cases q
theorem SE_tupR {a b : IE} (ha : SE T G g P n a) (hb : SE T G g P n b) : SE T G g P n (.tupR a b) := fun c W X h e q => by
  simp only [chkE] at q
  split at q
  · simp only [Bool.and_eq_true, decide_eq_true_eq, Bool.not_eq_true'] at q
    obtain ⟨q0, q1, q2, q3, q4, q5, q6, q7, q8, q9, q10⟩ := q
    subst q1
    subst q3
    exact mkV h (by simp) rfl (e_tupR (h.calm (eq_of_beq q0)) q5 q6 (h.bl q2).1 (h.bl q2).2 (h.bl q4).1 (h.bl q4).2 (ha.pe h q7 q9) (hb.pe h q8 q10)) fun _ => rfl
  · cases q
/-! ### lists -/
theorem SL_nil : SL T G g P n .nil := fun c W X h es q => by
  simp only [chkL] at q
  split at q
  · refine ⟨l_nil, fun ks keys pos k1 k2 => ?_⟩
    have : keys = [] := List.length_eq_zero_iff.mp k2
    subst this
    have : ks = [] := by
      cases ks with
      | nil => rfl
      | cons k ks => cases k <;> simp [chkKs] at k1
    subst this
    exact pps_nil
  · cases q
theorem SA_nil : SA T G g P n .nil := fun c W X h es q => by
  simp only [chkA] at q
  split at q
  · exact a_nil
  · cases q
theorem SL_cons {a r : IE} (ha : SE T G g P n a) (hr : SL T G g P n r) : SL T G g P n (.cons a r) := fun c W X h es q => by
  simp only [chkL] at q
  split at q
  · simp only [Bool.and_eq_true, Bool.not_eq_true'] at q
    obtain ⟨⟨⟨q1, q2⟩, q3⟩, q4⟩ := q
    refine ⟨l_cons q1 (ha.pe h q2 q3) (hr c W X h _ q4).1, fun ks keys pos k1 k2 => ?_⟩
    cases ks with
    | nil =>
      unfold chkKs at k1
      split at k1
      · simp at k2
      · cases k1
    | cons k ks =>
      cases k with
      | inl i =>
        unfold chkKs at k1
        split at k1
        · simp only [Bool.and_eq_true, decide_eq_true_eq] at k1
          obtain ⟨rfl, k3⟩ := k1
          exact pps_cons e_cI (ha.pe h q2 q3) ((hr c W X h _ q4).2 ks _ pos k3 (by simpa using k2))
        · cases k1
      | inr s =>
        unfold chkKs at k1
        split at k1
        · simp only [Bool.and_eq_true, decide_eq_true_eq] at k1
          obtain ⟨rfl, k3⟩ := k1
          exact pps_cons (e_cS rfl) (ha.pe h q2 q3) ((hr c W X h _ q4).2 ks _ pos k3 (by simpa using k2))
        · cases k1
  · cases q
theorem SA_cons {a r : IE} (ha : SE T G g P n a) (hr : SA T G g P n r) : SA T G g P n (.cons a r) := fun c W X h es q => by
  simp only [chkA] at q
  simp only [Bool.or_eq_true, Bool.and_eq_true] at q
  rcases q with ⟨q1, q2⟩ | q
  · split at q1
    · split at q1
      · obtain ⟨h1, h2, h3, h4⟩ := h.nm q1
        exact a_marg h1 h2 h3 h4 (hr c W X h _ q2)
      · cases q1
    · cases q1
  · split at q
    · simp only [Bool.and_eq_true, Bool.not_eq_true'] at q
      obtain ⟨⟨⟨q1, q2⟩, q3⟩, q4⟩ := q
      have hm : a.isMarg = false := by
        cases e : a.isMarg with
        | false => rfl
        | true => cases a <;> first | (cases e; done) | exact (chk_marg q2).elim
      exact a_cons hm q1 (ha.pe h q2 q3) (hr c W X h _ q4)
    · cases q
theorem SB_cons {a r : IE} (ha : SE T G g P n a) (hr : SB T G g P n r) : SB T G g P n (.cons a r) := fun c W X h es q pos => by
  simp only [chkB] at q
  split at q
  · simp only [Bool.and_eq_true, Bool.not_eq_true'] at q
    obtain ⟨⟨⟨q1, q2⟩, q3⟩, q4⟩ := q
    rw [isNil_ok q4]
    have pe := ha.pe h q1 q2
    have pt := ha.pt h q1 q2 q3
    exact ⟨e_and1 pe, e_or1 pe, w_and1 (chk_ne q1) pt, w_or1 (chk_ne q1) pt⟩
  · simp only [Bool.and_eq_true, Bool.not_eq_true'] at q
    obtain ⟨⟨⟨q1, q2⟩, q3⟩, q4⟩ := q
    have pe := ha.pe h q1 q2
    have pt := ha.pt h q1 q2 q3
    have hn : r ≠ .nil := by
      rintro rfl
      simp only [chkB] at q4
      cases q4
    obtain ⟨r1, r2, r3, r4⟩ := hr c W X h _ q4 pos
    exact ⟨e_andc hn pe r1, e_orc hn pe r2, w_andc (chk_ne q1) hn pt r3, w_orc (chk_ne q1) hn pt r4⟩
  · cases q
theorem e_sound : ∀ ie : IE, SAll T G g P n ie := fun ie => by
  induction ie with
  | nil => exact ⟨no_E (fun c e q => by simp only [chkE] at q; cases q), SL_nil, SA_nil, no_B (fun c es q => by simp only [chkB] at q; cases q)⟩
  | cons a r ha hr => exact ⟨no_E (fun c e q => by simp only [chkE] at q; cases q), SL_cons ha.1 hr.2.1, SA_cons ha.1 hr.2.2.1, SB_cons ha.1 hr.2.2.2⟩
  | cN => exact one_E SE_cN (fun c e q => by simp only [chkL] at q; cases q) (fun c e q => by simp only [chkA] at q; cases q) (fun c e q => by simp only [chkB] at q; cases q)
  | cB b => exact one_E SE_cB (fun c e q => by simp only [chkL] at q; cases q) (fun c e q => by simp only [chkA] at q; cases q) (fun c e q => by simp only [chkB] at q; cases q)
  | cI i => exact one_E SE_cI (fun c e q => by simp only [chkL] at q; cases q) (fun c e q => by simp only [chkA] at q; cases q) (fun c e q => by simp only [chkB] at q; cases q)
  | cS s => exact one_E SE_cS (fun c e q => by simp only [chkL] at q; cases q) (fun c e q => by simp only [chkA] at q; cases q) (fun c e q => by simp only [chkB] at q; cases q)
  | rd i => exact one_E SE_rd (fun c e q => by simp only [chkL] at q; cases q) (fun c e q => by simp only [chkA] at q; cases q) (fun c e q => by simp only [chkB] at q; cases q)
  | fz p => exact one_E SE_fz (fun c e q => by simp only [chkL] at q; cases q) (fun c e q => by simp only [chkA] at q; cases q) (fun c e q => by simp only [chkB] at q; cases q)
  | gl k => exact one_E SE_gl (fun c e q => by simp only [chkL] at q; cases q) (fun c e q => by simp only [chkA] at q; cases q) (fun c e q => by simp only [chkB] at q; cases q)
  | bin op a b ha hb => exact one_E (SE_bin ha.1 hb.1) (fun c e q => by simp only [chkL] at q; cases q) (fun c e q => by simp only [chkA] at q; cases q) (fun c e q => by simp only [chkB] at q; cases q)
  | neg a ha => exact one_E (SE_neg ha.1) (fun c e q => by simp only [chkL] at q; cases q) (fun c e q => by simp only [chkA] at q; cases q) (fun c e q => by simp only [chkB] at q; cases q)
  | cmp op a b ha hb => exact one_E (SE_cmp ha.1 hb.1) (fun c e q => by simp only [chkL] at q; cases q) (fun c e q => by simp only [chkA] at q; cases q) (fun c e q => by simp only [chkB] at q; cases q)
  | chn o1 o2 a b d ha hb hd => exact one_E (SE_chn ha.1 hb.1 hd.1) (fun c e q => by simp only [chkL] at q; cases q) (fun c e q => by simp only [chkA] at q; cases q) (fun c e q => by simp only [chkB] at q; cases q)
  | chn4 o1 o2 o3 a b d f ha hb hd hf => exact one_E (SE_chn4 ha.1 hb.1 hd.1 hf.1) (fun c e q => by simp only [chkL] at q; cases q) (fun c e q => by simp only [chkA] at q; cases q) (fun c e q => by simp only [chkB] at q; cases q)
  | cv1 t a ha => exact one_E (SE_cv1 ha.1) (fun c e q => by simp only [chkL] at q; cases q) (fun c e q => by simp only [chkA] at q; cases q) (fun c e q => by simp only [chkB] at q; cases q)
  | cv2 t a b ha hb => exact one_E (SE_cv2 ha.1 hb.1) (fun c e q => by simp only [chkL] at q; cases q) (fun c e q => by simp only [chkA] at q; cases q) (fun c e q => by simp only [chkB] at q; cases q)
  | isN a ha => exact one_E (SE_isN ha.1) (fun c e q => by simp only [chkL] at q; cases q) (fun c e q => by simp only [chkA] at q; cases q) (fun c e q => by simp only [chkB] at q; cases q)
  | notN a ha => exact one_E (SE_notN ha.1) (fun c e q => by simp only [chkL] at q; cases q) (fun c e q => by simp only [chkA] at q; cases q) (fun c e q => by simp only [chkB] at q; cases q)
  | and a ha => exact one_E (SE_and ha.2.2.2) (fun c e q => by simp only [chkL] at q; cases q) (fun c e q => by simp only [chkA] at q; cases q) (fun c e q => by simp only [chkB] at q; cases q)
  | or a ha => exact one_E (SE_or ha.2.2.2) (fun c e q => by simp only [chkL] at q; cases q) (fun c e q => by simp only [chkA] at q; cases q) (fun c e q => by simp only [chkB] at q; cases q)
  | not a ha => exact one_E (SE_not ha.1) (fun c e q => by simp only [chkL] at q; cases q) (fun c e q => by simp only [chkA] at q; cases q) (fun c e q => by simp only [chkB] at q; cases q)
  | ite k a b hk ha hb => exact one_E (SE_ite hk.1 ha.1 hb.1) (fun c e q => by simp only [chkL] at q; cases q) (fun c e q => by simp only [chkA] at q; cases q) (fun c e q => by simp only [chkB] at q; cases q)
  | idx a b ha hb => exact one_E (SE_idx ha.1 hb.1) (fun c e q => by simp only [chkL] at q; cases q) (fun c e q => by simp only [chkA] at q; cases q) (fun c e q => by simp only [chkB] at q; cases q)
  | midx p b hb => exact one_E (SE_midx hb.1) (fun c e q => by simp only [chkL] at q; cases q) (fun c e q => by simp only [chkA] at q; cases q) (fun c e q => by simp only [chkB] at q; cases q)
  | slc a lo hi ha hl hh => exact one_E (SE_slc ha.1 hl.1 hh.1) (fun c e q => by simp only [chkL] at q; cases q) (fun c e q => by simp only [chkA] at q; cases q) (fun c e q => by simp only [chkB] at q; cases q)
  | tup l hl => exact one_E (SE_tup hl.2.1) (fun c e q => by simp only [chkL] at q; cases q) (fun c e q => by simp only [chkA] at q; cases q) (fun c e q => by simp only [chkB] at q; cases q)
  | lst l hl => exact one_E (SE_lst hl.2.1) (fun c e q => by simp only [chkL] at q; cases q) (fun c e q => by simp only [chkA] at q; cases q) (fun c e q => by simp only [chkB] at q; cases q)
  | call f l hl => exact one_E (SE_call hl.2.2.1) (fun c e q => by simp only [chkL] at q; cases q) (fun c e q => by simp only [chkA] at q; cases q) (fun c e q => by simp only [chkB] at q; cases q)
  | b1 f a ha => exact one_E (SE_b1 ha.1) (fun c e q => by simp only [chkL] at q; cases q) (fun c e q => by simp only [chkA] at q; cases q) (fun c e q => by simp only [chkB] at q; cases q)
  | pb1 f p => exact one_E SE_pb1 (fun c e q => by simp only [chkL] at q; cases q) (fun c e q => by simp only [chkA] at q; cases q) (fun c e q => by simp only [chkB] at q; cases q)
  | b2 f a b ha hb => exact one_E (SE_b2 ha.1 hb.1) (fun c e q => by simp only [chkL] at q; cases q) (fun c e q => by simp only [chkA] at q; cases q) (fun c e q => by simp only [chkB] at q; cases q)
  | isi a t ha => exact one_E (SE_isi ha.1) (fun c e q => by simp only [chkL] at q; cases q) (fun c e q => by simp only [chkA] at q; cases q) (fun c e q => by simp only [chkB] at q; cases q)
  | isi2 a t u ha => exact one_E (SE_isi2 ha.1) (fun c e q => by simp only [chkL] at q; cases q) (fun c e q => by simp only [chkA] at q; cases q) (fun c e q => by simp only [chkB] at q; cases q)
  | comp a tg it k own ha hi hk => exact one_E (SE_comp ha.1 hi.1 hk.1) (fun c e q => by simp only [chkL] at q; cases q) (fun c e q => by simp only [chkA] at q; cases q) (fun c e q => by simp only [chkB] at q; cases q)
  | bor i a ha => exact one_E (SE_bor ha.1) (fun c e q => by simp only [chkL] at q; cases q) (fun c e q => by simp only [chkA] at q; cases q) (fun c e q => by simp only [chkB] at q; cases q)
  | notV a ha => exact one_E (SE_notV ha.1) (fun c e q => by simp only [chkL] at q; cases q) (fun c e q => by simp only [chkA] at q; cases q) (fun c e q => by simp only [chkB] at q; cases q)
  | tupR a b ha hb => exact one_E (SE_tupR ha.1 hb.1) (fun c e q => by simp only [chkL] at q; cases q) (fun c e q => by simp only [chkA] at q; cases q) (fun c e q => by simp only [chkB] at q; cases q)
  | isc a l ha => exact one_E (SE_isc ha.1) (fun c e q => by simp only [chkL] at q; cases q) (fun c e q => by simp only [chkA] at q; cases q) (fun c e q => by simp only [chkB] at q; cases q)
  | ef a f ha => exact one_E (SE_ef ha.1) (fun c e q => by simp only [chkL] at q; cases q) (fun c e q => by simp only [chkA] at q; cases q) (fun c e q => by simp only [chkB] at q; cases q)
  | pop p => exact one_E SE_pop (fun c e q => by simp only [chkL] at q; cases q) (fun c e q => by simp only [chkA] at q; cases q) (fun c e q => by simp only [chkB] at q; cases q)
  | popi p a ha => exact one_E (SE_popi ha.1) (fun c e q => by simp only [chkL] at q; cases q) (fun c e q => by simp only [chkA] at q; cases q) (fun c e q => by simp only [chkB] at q; cases q)
  | rng1 a ha => exact one_E (SE_rng1 ha.1) (fun c e q => by simp only [chkL] at q; cases q) (fun c e q => by simp only [chkA] at q; cases q) (fun c e q => by simp only [chkB] at q; cases q)
  | rng2 a b ha hb => exact one_E (SE_rng2 ha.1 hb.1) (fun c e q => by simp only [chkL] at q; cases q) (fun c e q => by simp only [chkA] at q; cases q) (fun c e q => by simp only [chkB] at q; cases q)
  | enm a ha => exact one_E (SE_enm ha.1) (fun c e q => by simp only [chkL] at q; cases q) (fun c e q => by simp only [chkA] at q; cases q) (fun c e q => by simp only [chkB] at q; cases q)
  | zp a b ha hb => exact one_E (SE_zp ha.1 hb.1) (fun c e q => by simp only [chkL] at q; cases q) (fun c e q => by simp only [chkA] at q; cases q) (fun c e q => by simp only [chkB] at q; cases q)
  | stk => exact one_E SE_stk (fun c e q => by simp only [chkL] at q; cases q) (fun c e q => by simp only [chkA] at q; cases q) (fun c e q => by simp only [chkB] at q; cases q)
  | ofd a f cs ha => exact one_E (SE_ofd ha.1) (fun c e q => by simp only [chkL] at q; cases q) (fun c e q => by simp only [chkA] at q; cases q) (fun c e q => by simp only [chkB] at q; cases q)
  | meth bad k f o l ho hl => exact one_E (SE_meth ho.1 hl.2.1) (fun c e q => by simp only [chkL] at q; cases q) (fun c e q => by simp only [chkA] at q; cases q) (fun c e q => by simp only [chkB] at q; cases q)
  | mk k f l hl => exact one_E (SE_mk hl.2.1) (fun c e q => by simp only [chkL] at q; cases q) (fun c e q => by simp only [chkA] at q; cases q) (fun c e q => by simp only [chkB] at q; cases q)
  | dct ks l hl => exact one_E (SE_dct hl.2.1) (fun c e q => by simp only [chkL] at q; cases q) (fun c e q => by simp only [chkA] at q; cases q) (fun c e q => by simp only [chkB] at q; cases q)
  | dhas neg a b ha hb => exact one_E (SE_dhas ha.1 hb.1) (fun c e q => by simp only [chkL] at q; cases q) (fun c e q => by simp only [chkA] at q; cases q) (fun c e q => by simp only [chkB] at q; cases q)
  | comp2 a t1 i1 t2 i2 own own2 ha h1 h2 => exact one_E (SE_comp2 ha.1 h1.1 h2.1) (fun c e q => by simp only [chkL] at q; cases q) (fun c e q => by simp only [chkA] at q; cases q) (fun c e q => by simp only [chkB] at q; cases q)
  | _ => exact one_E (no_E fun c e q => by simp only [chkE] at q; cases q) (fun c e q => by simp only [chkL] at q; cases q) (fun c e q => by simp only [chkA] at q; cases q) (fun c e q => by simp only [chkB] at q; cases q)
theorem chkT_ne {c : CK} {k : IE} {t : Expr} (q : chkT P c k t = true) : k ≠ .nil := by
  rintro rfl
  simp [chkT, chkE] at q
theorem chkTs_ne {c : CK} {k : IE} {t : Expr} {ts : List Expr} (q : chkTs P c k (t :: ts) = true) : k ≠ .nil := by
  rintro rfl
  simp [chkTs] at q
/-- a statement's test -/
def ST (T : Tab) (G : Nat → Option D) (g : SG) (P : Pg) (n : Nat) (k : IE) : Prop := ∀ (c : CK) (W : WX) (X : Cx), Good T G g P n c W X → ∀ t, chkT P c k t = true → PT X t (tT T G g W c.pu k)
def STs (T : Tab) (G : Nat → Option D) (g : SG) (P : Pg) (n : Nat) (k : IE) : Prop := ∀ (c : CK) (W : WX) (X : Cx), Good T G g P n c W X → ∀ es, chkTs P c k es = true → ∀ pos, PW X (.BoolOp .And es pos) (tAndT T G g W c.pu k) ∧ PW X (.BoolOp .Or es pos) (tOrT T G g W c.pu k)
theorem st_of : ∀ k : IE, ST T G g P n k ∧ STs T G g P n k := by
  intro k
  induction k with
  | cons a r ha hr =>
    refine ⟨fun c W X h t q => ?_, fun c W X h es q pos => ?_⟩
    · simp [chkT, chkE] at q
    · unfold chkTs at q
      split at q
      · simp only [Bool.and_eq_true] at q
        obtain rfl := isNil_ok q.2
        exact ⟨w_and1 (chkT_ne q.1) (ha.1 c W X h _ q.1), w_or1 (chkT_ne q.1) (ha.1 c W X h _ q.1)⟩
      · simp only [Bool.and_eq_true] at q
        have z := hr.2 c W X h _ q.2 pos
        exact ⟨w_andc (chkT_ne q.1) (chkTs_ne q.2) (ha.1 c W X h _ q.1) z.1, w_orc (chkT_ne q.1) (chkTs_ne q.2) (ha.1 c W X h _ q.1) z.2⟩
      · cases q
  | tru a ha =>
    refine ⟨fun c W X h t q => ?_, fun c W X h es q pos => by simp [chkTs] at q⟩
    simp only [chkT, Bool.and_eq_true, Bool.not_eq_true'] at q
    exact t_tru h.hK ((e_sound _).1.pe h q.1 q.2.1) q.2.2
  | and l hl =>
    refine ⟨fun c W X h t q => ?_, fun c W X h es q pos => by simp [chkTs] at q⟩
    simp only [chkT] at q
    rcases Bool.or_eq_true_iff.mp q with q | q
    · simp only [Bool.and_eq_true] at q
      exact (e_sound _).1.pt h q.1 rfl q.2
    · split at q
      · exact t_and (hl.2 c W X h _ q _).1
      · cases q
  | or l hl =>
    refine ⟨fun c W X h t q => ?_, fun c W X h es q pos => by simp [chkTs] at q⟩
    simp only [chkT] at q
    rcases Bool.or_eq_true_iff.mp q with q | q
    · simp only [Bool.and_eq_true] at q
      exact (e_sound _).1.pt h q.1 rfl q.2
    · split at q
      · exact t_or (hl.2 c W X h _ q _).2
      · cases q
  | _ =>
    refine ⟨fun c W X h t q => ?_, fun c W X h es q pos => by simp [chkTs] at q⟩
    simp only [chkT, Bool.and_eq_true, Bool.not_eq_true'] at q
    exact (e_sound _).1.pt h q.1 q.2.1 q.2.2
theorem pt_of {c : CK} {W : WX} {X : Cx} (h : Good T G g P n c W X) {k : IE} {t : Expr} (q : chkT P c k t = true) : PT X t (tT T G g W c.pu k) := (st_of k).1 c W X h t q
end
end JH

/-! JC5: statements: the checker, the induction. -/
namespace JH
open PySem PySem.Spec PyProof.Rows L2
def isFresh : IE → Bool
  | .lst _ => true
  | .b1 .list _ => true | .b1 .sorted _ => true
  | .pb1 .list (.root _) => true | .pb1 .sorted (.root _) => true
  | .slc .. => true | .bin .add _ _ => true | .comp .. => true | .comp2 .. => true
  | .cv1 t _ => !t | .cv2 t _ _ => !t
  | _ => false
def nSD : Expr → Bool
  | .SetComp .. => false | .DictComp .. => false
  | _ => true
def swF (c : CK) (y v : Expr) : Bool := match y, v with
  | .Name x xp, .ListComp _ _ scope vp => decide (c.sc.names.lookup x = some .local) && (xp.line == vp.line) && !(scope.names.any fun (n, k) => n == x && (k == .local || k == .cell))
  | _, _ => false
def nloc (c : CK) : Expr → Bool
  | .Name x _ => !(c.sc.names.lookup x == some .local)
  | _ => true
/-- the names are stored to one after another -/
def pStC (c : CK) (t v : Expr) : Bool := match t, v with
  | .Tuple ts _ _, .Tuple vs _ _ => vs.all (foldedForSure 8) || ts.any (nloc c)
  | .List .., .Tuple .. => false
  | _, _ => true
theorem fm_lt {α β : Type} (f : α → Option β) : ∀ (l : List α), (l.filterMap f).length ≤ l.length ∧ ((∃ x ∈ l, f x = none) → (l.filterMap f).length < l.length)
  | [] => ⟨Nat.le_refl _, fun ⟨x, h, _⟩ => by cases h⟩
  | x :: l => by
    obtain ⟨h1, h2⟩ := fm_lt f l
    cases e : f x with
    | none => rw [List.filterMap_cons_none e]; exact ⟨Nat.le_succ_of_le h1, fun _ => Nat.lt_succ_of_le h1⟩
    | some y =>
      rw [List.filterMap_cons_some e]
      refine ⟨Nat.succ_le_succ h1, fun ⟨z, hz, ez⟩ => ?_⟩
      rcases List.mem_cons.mp hz with q | q
      · subst q; rw [e] at ez; cases ez
      · exact Nat.succ_lt_succ (h2 ⟨z, q, ez⟩)
theorem stC_of {c : CK} {X : Cx} (hs : X.env.scope = c.sc) {t v : Expr} (h : pStC c t v = true) : swappedStores [t] v X.env = pure none := by
  cases t <;> cases v <;> first | rfl | (cases h; done) | skip
  rename_i ts k1 p1 vs k2 p2
  unfold swappedStores
  dsimp only
  simp only [pStC, Bool.or_eq_true] at h
  split
  · rfl
  split
  · rfl
  split
  · rfl
  rename_i hneg
  rcases h with h | h
  · rw [if_pos h] <;> rfl
  · exfalso
    obtain ⟨x, hx, hn⟩ := List.any_eq_true.mp h
    simp only [Bool.or_eq_true, bne_iff_ne, ne_eq, not_or, Decidable.not_not] at hneg
    refine absurd hneg.1 (Nat.ne_of_lt ((fm_lt _ ts).2 ⟨x, hx, ?_⟩))
    cases x <;> first | rfl | skip
    rename_i id pos
    have e : (X.env.kindOf id == some .local) = false := by
      have : X.env.kindOf id = c.sc.names.lookup id := by rw [← hs]; rfl
      rw [this]
      simpa [nloc] using hn
    dsimp only
    rw [e]
    rfl
/-- two names are stored to at once -/
def parB (px py : Pos) (v w : Expr) : Bool := (py.line == px.line) && !([v, w].all (foldedForSure 8)) && !([v, w].all (constantsAlone 8))
theorem par_w {c : CK} {X : Cx} (hs : X.env.scope = c.sc) (hk : c.sc.kind = .function) {x y : Str} {px py pt : Pos} {kt k2 pt2} {v w : Expr} (hx : c.sc.names.lookup x = some .local) (hy : c.sc.names.lookup y = some .local) (hxy : x ≠ y) (hv : nStar v = true) (hw : nStar w = true) (hb : parB px py v w = true) :
    swappedStores [.Tuple [.Name x px, .Name y py] kt pt] (.Tuple [v, w] k2 pt2) X.env = pure (some [x, y]) := by
  simp only [parB, Bool.and_eq_true, Bool.not_eq_true'] at hb
  obtain ⟨⟨h1, h2⟩, h3⟩ := hb
  have hbk : X.env.blockKind = .function := by unfold Env.blockKind; rw [hs, hk]; rfl
  have kx : X.env.kindOf x = some .local := by rw [← hx, ← hs]; rfl
  have ky : X.env.kindOf y = some .local := by rw [← hy, ← hs]; rfl
  unfold swappedStores
  dsimp only
  split
  · rename_i z
    rw [hbk] at z
    exact nomatch (show false = true from z)
  split
  · rename_i z
    simp only [List.any_cons, List.any_nil, Bool.or_false, Bool.or_eq_true] at z
    rcases z with z | z
    · cases v <;> first | (cases hv; done) | (cases z; done)
    · cases w <;> first | (cases hw; done) | (cases z; done)
  have ll : ((some NameKind.local : Option NameKind) == some .local) = true := by decide
  simp only [List.filterMap_cons, List.filterMap_nil, kx, ky, List.head?_cons, Option.map_some, Option.getD_some, Expr.pos, h1, ll, beq_self_eq_true, Bool.and_self, if_true]
  have d : ([x, y] : List Str).eraseDups = [x, y] := by
    have : (y == x) = false := by
      cases q : y == x with
      | false => rfl
      | true => exact absurd (eq_of_beq q).symm hxy
    simp [List.eraseDups_cons, this]
  rw [d]
  split
  · rename_i z
    exact nomatch (show false = true from z)
  rw [if_neg (by rw [h2]; decide), if_neg (by rw [h3]; decide)] <;> rfl
def pinB (pin : List Nat) (t : Tg) : Bool := pin.all fun i => !decide (i ∈ tgS t)
def IS.isSeq : IS → Bool
  | .seq _ _ => true
  | _ => false
def isName : Expr → Bool
  | .Name .. => true
  | _ => false
/-- the class k is called x, with such an __init__ -/
def rsB (P : Pg) (k : Nat) (x : Str) (f : Option Nat) : Bool := match P.ecl[k]? with
  | some c => decide (c.name = x) && decide (c.ini = f)
  | none => false
/-- the clause 'except x' catches l -/
def hdB (P : Pg) (x : Str) (l : List Nat) : Bool := P.sbs.any fun q => decide (q.2 = l) && (match q.1 with
  | some j => decide ((P.ecl[j]?).map (·.name) = some x)
  | none => false)
def slB (c : CK) (s : Option Nat) (o : Option Str) : Bool := match s, o with
  | none, none => true
  | some i, some n => decide (c.N[i]? = some n) && decide (c.sc.names.lookup n = some .local)
  | _, _ => false
def chkS (P : Pg) (c : CK) (pin : List Nat) : IS → List Stmt → Bool
  | .skip, sts => match sts with
    | [] => true
    | [.Pass _] => true
    | [.Expr (.Constant (.str _) _ _) _] => true
    | _ => false
  | .seq a b, sts => match sts with
    | s1 :: s2 :: r => chkS P c pin a [s1] && chkS P c pin b (s2 :: r)
    | _ => false
  | .asg t e, sts => match sts with
    | [.Assign [y] v _] => ((c.md == 0) || !swF c y v) && chkG c t (.inl y) && chkE P c e v && !e.isIt && nStar y && pStC c y v && pinB pin t && nSD v
    | _ => false
  | .asgM i e, sts => match sts with
    | [.Assign [.Name y yp] v _] => (c.md == 0) && decide (c.N[i]? = some y) && locB c y && isFresh e && chkE P c e v && !e.isIt && pStore (.Name y yp) v && !decide (i ∈ pin) && nSD v
    | _ => false
  | .sto (.root i) k e, sts => match sts with
    | [.Assign [.Subscript (.Name y _) b _] v _] => nmB c i y && chkE P c k b && !k.isIt && pIx b && chkE P c e v && !e.isIt
    | _ => false
  | .app (.root i) e, sts => match sts with
    | [.Expr (.Call (.Attribute (.Name y _) m apos) [v] [] cpos) _] => decide (m = ("append" : Str)) && (apos.endLine == cpos.line) && nStar v && nmB c i y && chkE P c e v && !e.isIt
    | _ => false
  | .ext (.root i) e, sts => match sts with
    | [.Expr (.Call (.Attribute (.Name y _) m apos) [v] [] cpos) _] => decide (m = ("extend" : Str)) && (apos.endLine == cpos.line) && nStar v && nmB c i y && chkE P c e v && !e.isIt
    | _ => false
  | .ex e, sts => match sts with
    | [.Expr v _] => chkE P c e v && !e.isIt && pSwap v
    | _ => false
  | .ite k a b, sts => match sts with
    | [.If t u w _] => chkT P c k t && chkS P c pin a u && chkS P c pin b w
    | _ => false
  | .wh k b, sts => match sts with
    | [.While t u [] _] => chkT P c k t && chkS P c pin b u
    | _ => false
  | .for t it b, sts => match sts with
    | [.For y iter u [] _] => (c.md == 0) && chkE P c it iter && itOk it y && nSet iter && chkG c t (.inl y) && pinB pin t && chkS P c pin b u
    | _ => false
  | .forO t p b, sts => match sts with
    | [.For y (.Name x _) u [] _] => (c.md == 0) && (nmB c p x && (chkG c t (.inl y) && (pinB (p :: pin) t && chkS P c (p :: pin) b u)))
    | _ => false
  | .ret e, sts => match sts with
    | [.Return (some v) _] => chkE P c e v && !e.isIt
    | _ => false
  | .retO i, sts => match sts with
    | [.Return (some (.Name y _)) _] => nmB c i y
    | _ => false
  | .retC f l, sts => match sts with
    | [.Return (some (.Call (.Name x _) (a :: es) [] _)) _] => (c.md == 0) && (chkA P c l (a :: es) && (decide (P.fname[f]? = some x ∧ x ≠ "") && (glB c x && (nStar a && (es.all nStar && !dbg x)))))
    | _ => false
  | .retN, sts => match sts with
    | [.Return none _] => true
    | _ => false
  | .brk, sts => match sts with
    | [.Break _] => true
    | _ => false
  | .cont, sts => match sts with
    | [.Continue _] => true
    | _ => false
  | .asgC i f l, sts => match sts with
    | [.Assign [.Name y _] (.Call (.Name x _) (a :: es) [] _) _] => (c.md == 0) && (decide (c.N[i]? = some y) && (locB c y && (!decide (i ∈ pin) && (chkA P c l (a :: es) && (decide (P.fname[f]? = some x ∧ x ≠ "") && (glB c x && (nStar a && (es.all nStar && !dbg x))))))))
    | _ => false
  | .retM e, sts => match sts with
    | [.Return (some v) _] => (c.md == 0) && (isFresh e && chkE P c e v)
    | _ => false
  | .rse k, sts => match sts with
    | [.Raise (some (.Call (.Name x _) [.Constant (.str _) _ _] [] _)) none _] => (c.md == 0) && (rsB P k x none && (glB c x && !dbg x))
    | _ => false
  | .rsi k f e, sts => match sts with
    | [.Raise (some (.Call (.Name x _) [v] [] _)) none _] => (c.md == 0) && (rsB P k x (some f) && ((P.fld[f]?).isSome && (glB c x && (!dbg x && (nStar v && (chkE P c e v && !e.isIt))))))
    | _ => false
  | .aug i e, sts => match sts with
    | [.AugAssign (.Name y _) .Add v _] => decide (c.N[i]? = some y) && (locB c y && (!decide (i ∈ pin) && (chkE P c e v && !e.isIt)))
    | _ => false
  | .asgN i t, sts => match sts with
    | [.Assign [.Name y _] (.Dict [] [] _) _] => !t && (decide (c.N[i]? = some y) && (locB c y && !decide (i ∈ pin)))
    | _ => false
  | .stk, _ => true
  | .setf i f cs e, sts => match sts with
    | [.Assign [.Attribute (.Name y _) x _] v _] => cs.all (fun k => decide ((k, f) ∈ P.ofl)) && (decide (P.fld[f]? = some x) && (nmB c i y && (chkE P c e v && !e.isIt)))
    | _ => false
  | .par i j a b, sts => match sts with
    | [.Assign [.Tuple [.Name x px, .Name y py] _ _] (.Tuple [v, w] _ _) _] => parB px py v w && (!decide (x = y) && ((c.md == 0) && (decide (c.N[i]? = some x) && (decide (c.N[j]? = some y) && (!decide (i = j) && (decide (c.sc.names.lookup x = some .local) && (decide (c.sc.names.lookup y = some .local) && (!decide (i ∈ pin) && (!decide (j ∈ pin) && (nStar v && (nStar w && (chkE P c a v && (chkE P c b w && (!a.isIt && !b.isIt))))))))))))))
    | _ => false
  | .tryE b l s h, sts => match sts with
    | [.Try body [.ExceptHandler (some (.Name x _)) o (b0 :: suite) _] [] [] _] => (c.md == 0) && (chkS P c pin b body && (chkS P { c with md := 1 } [] h (b0 :: suite) && (glB c x && (!dbg x && (hdB P x l && slB c s o)))))
    | _ => false
  | _, _ => false
section
variable {T : Tab} {G : Nat → Option D} {g : SG} {P : Pg} {n : Nat} {c : CK} {W : WX} {X : Cx} {pin : List Nat} {wf : Nat}
theorem SE.pe0 {ie : IE} (hpu : c.pu = false) (h : SE T G g P n ie) (k : Good T G g P n c W X) {e : Expr} (q : chkE P c ie e = true) (hi : ie.isIt = false) : PE X e (tE T G g W false ie) := by
  have := h.pe k q hi
  rwa [hpu] at this
theorem SE.pi0 {ie : IE} (hpu : c.pu = false) (h : SE T G g P n ie) (k : Good T G g P n c W X) {e : Expr} (q : chkE P c ie e = true) {tg : Expr} (ht : itOk ie tg = true) : PI X tg e (tI T G g W false ie) := by
  have := h.pi k q ht
  rwa [hpu] at this
theorem SA.a0 {ie : IE} (hpu : c.pu = false) (h : SA T G g P n ie) (k : Good T G g P n c W X) {es : List Expr} (q : chkA P c ie es = true) : PA X es (tAr T G g W false ie) := by
  have := h c W X k es q
  rwa [hpu] at this
theorem SL.l0 {ie : IE} (hpu : c.pu = false) (h : SL T G g P n ie) (k : Good T G g P n c W X) {es : List Expr} (q : chkL P c ie es = true) : PA X es (tL T G g W false ie) := by
  have := (h c W X k es q).1
  rwa [hpu] at this
theorem comp_parts0 {a it k : IE} {tg : Tg} {own : List Nat} {elt tgt iter : Expr} {ifs : List Expr} {scope : Scope} {pos : Pos} (hpu : c.pu = false) (ha : SE T G g P n a) (hi : SE T G g P n it) (hk : SE T G g P n k) (h : Good T G g P n c W X)
    (q : chkE P c (.comp a tg it k own) (.ListComp elt [⟨tgt, iter, ifs, 0⟩] scope pos) = true) :
    ((c.md == 0) || ((c.md == 1) && isR1 it)) = true ∧ (ownOf c.N scope).map (·.2) = own ∧ (PI X tgt iter (tI T G g W false it) ∧ (isR1 it = true → L2H.PIH X tgt iter (tI T G g W false it))) ∧ BlkOk X.N X.env.scope scope (ownOf c.N scope) ∧ (∀ j ∈ tgS tg, j ∈ (ownOf c.N scope).map (·.2)) ∧
      (∀ (s : Shared) (H : Hp) (C : Addr) (cl : List (Str × Addr)) (fp : List Addr), PG (X.blk s H scope (compEnvC scope cl C X.env) fp) tgt (tG g tg)) ∧
      (∀ (s : Shared) (H : Hp) (C : Addr) (cl : List (Str × Addr)) (fp : List Addr), PTs (X.blk s H scope (compEnvC scope cl C X.env) fp) ifs (tT T G g W0 false k)) ∧
      (∀ (s : Shared) (H : Hp) (C : Addr) (cl : List (Str × Addr)) (fp : List Addr), PE (X.blk s H scope (compEnvC scope cl C X.env) fp) elt (tE T G g W0 false a)) ∧ (∀ x, foldedSetIterable iter X.env x = pure x) := by
  have := comp_parts ha hi hk h q
  rwa [hpu] at this
theorem comp2_parts0 {a i1 i2 : IE} {t1 t2 : Tg} {own own2 : List Nat} {elt g1 r1 g2 r2 : Expr} {scope : Scope} {pos : Pos} (hpu : c.pu = false) (ha : SE T G g P n a) (h1 : SE T G g P n i1) (h2 : SE T G g P n i2) (h : Good T G g P n c W X)
    (q : chkE P c (.comp2 a t1 i1 t2 i2 own own2) (.ListComp elt [⟨g1, r1, [], 0⟩, ⟨g2, r2, [], 0⟩] scope pos) = true) :
    X.calm = true ∧ (ownOf c.N scope).map (·.2) = own ∧ PI X g1 r1 (tI T G g W false i1) ∧ BlkOk X.N X.env.scope scope (ownOf c.N scope) ∧ (∀ i ∈ own2, i ∈ (ownOf c.N scope).map (·.2)) ∧ (∀ j ∈ tgS t1, j ∈ (ownOf c.N scope).map (·.2)) ∧ (∀ j ∈ tgS t2, j ∈ own2) ∧
      (∀ (s : Shared) (H : Hp) (C : Addr) (cl : List (Str × Addr)) (fp : List Addr), PG (X.blk s H scope (compEnvC scope cl C X.env) fp) g1 (tG g t1)) ∧
      (∀ (s : Shared) (H : Hp) (C : Addr) (cl : List (Str × Addr)) (fp : List Addr), PI (X.blk s H scope (compEnvC scope cl C X.env) fp) g2 r2 (tI T G g W0 false i2)) ∧
      (∀ (s : Shared) (H : Hp) (C : Addr) (cl : List (Str × Addr)) (fp : List Addr), PG (X.blk s H scope (compEnvC scope cl C X.env) fp) g2 (tG g t2)) ∧
      (∀ (s : Shared) (H : Hp) (C : Addr) (cl : List (Str × Addr)) (fp : List Addr), PE (X.blk s H scope (compEnvC scope cl C X.env) fp) elt (tE T G g W0 false a)) ∧ (∀ x, foldedSetIterable r1 X.env x = pure x) ∧ (∀ env x, foldedSetIterable r2 env x = pure x) := by
  have := comp2_parts ha h1 h2 h q
  rwa [hpu] at this
theorem pinB_ok {t : Tg} (h : pinB pin t = true) : ∀ i ∈ pin, i ∉ tgS t := by
  intro i hi
  have := List.all_eq_true.mp h i hi
  simpa using this
theorem sw_false {c : CK} {X : Cx} (hs : X.env.scope = c.sc) (hk : c.sc.kind = .function) {y v : Expr} (hd : nSD v = true) (h : swF c y v = false) (l : Nat) : swapsWith v (some y) l X.env = pure false := by
  cases v <;> first | rfl | (cases hd; done) | skip
  cases y <;> first | rfl | skip
  rename_i elt gs scope vp x xp
  have hb : X.env.blockKind = .function := by unfold Env.blockKind; rw [hs, hk]; rfl
  have hkk : X.env.kindOf x = c.sc.names.lookup x := by rw [← hs]; rfl
  unfold swF at h
  unfold swapsWith
  simp only [hb, hkk, Expr.pos]
  have e : (c.sc.names.lookup x == some .local) = decide (c.sc.names.lookup x = some .local) := by
    cases h1 : c.sc.names.lookup x with
    | none => rfl
    | some k => cases k <;> rfl
  rw [e]
  show pure ((true && decide (c.sc.names.lookup x = some .local)) && xp.line == vp.line && _) = _
  rw [Bool.true_and]
  exact congrArg pure h
theorem sw_tr {c : CK} {X : Cx} (hs : X.env.scope = c.sc) (hk : c.sc.kind = .function) {y v : Expr} (h : swF c y v = true) : ∃ x xp elt gs scope vp, y = .Name x xp ∧ v = .ListComp elt gs scope vp ∧ X.env.scope.names.lookup x = some .local ∧ ∀ l, swapsWith v (some y) l X.env = pure true := by
  unfold swF at h
  split at h
  · simp only [Bool.and_eq_true, decide_eq_true_eq, Bool.not_eq_true'] at h
    obtain ⟨⟨h1, h2⟩, h3⟩ := h
    refine ⟨_, _, _, _, _, _, rfl, rfl, by rw [hs]; exact h1, fun l => sw_true (by rw [hs]; exact hk) (by rw [hs]; exact h1) h2 h3⟩
  · cases h
theorem chk_comp {ie : IE} {elt : Expr} {gs : List Comprehension} {scope : Scope} {p : Pos} (q : chkE P c ie (.ListComp elt gs scope p) = true) : (∃ a tg it k own tgt iter ifs, ie = .comp a tg it k own ∧ gs = [⟨tgt, iter, ifs, 0⟩]) ∨ (∃ a t1 i1 t2 i2 own own2 g1 r1 g2 r2, ie = .comp2 a t1 i1 t2 i2 own own2 ∧ gs = [⟨g1, r1, [], 0⟩, ⟨g2, r2, [], 0⟩]) ∨ ie = .stk := by
  cases ie with
  | comp a tg it k own =>
    simp only [chkE] at q
    split at q
    · rename_i heq
      cases heq
      exact .inl ⟨_, _, _, _, _, _, _, _, rfl, rfl⟩
    · cases q
  | comp2 a t1 i1 t2 i2 own own2 =>
    simp only [chkE] at q
    split at q
    · rename_i heq
      cases heq
      exact .inr (.inl ⟨_, _, _, _, _, _, _, _, _, _, _, rfl, rfl⟩)
    · cases q
  | stk => exact .inr (.inr rfl)
  | fz pl => cases pl <;> (simp only [chkE] at q; cases q)
  | midx pl _ => cases pl <;> (simp only [chkE] at q; cases q)
  | pb1 _ pl => cases pl <;> (simp only [chkE] at q; cases q)
  | bor i a =>
    simp only [chkE, nLC, Bool.and_false] at q
    cases q
  | pop pl => cases pl <;> (simp only [chkE] at q; cases q)
  | popi pl _ => cases pl <;> (simp only [chkE] at q; cases q)
  | _ => simp only [chkE] at q; cases q
/-- a fresh list -/
theorem n_sound (hpu : c.pu = false) (h : Good T G g P n c W X) (hm : c.md = 0) {ie : IE} {e : Expr} (hf : isFresh ie = true) (q : chkE P c ie e = true) : PE X e (tN T G g W false ie) := by
  have S := fun ie => e_sound (T := T) (G := G) (g := g) (P := P) (n := n) ie
  cases ie with
  | lst l =>
    simp only [chkE] at q
    split at q
    · simp only [Bool.and_eq_true, decide_eq_true_eq] at q
      exact n_lst q.2 (SL.l0 hpu (S l).2.1 h q.1)
    · cases q
  | b1 f a =>
    simp only [chkE] at q
    split at q
    · simp only [Bool.and_eq_true, decide_eq_true_eq, Bool.not_eq_true'] at q
      obtain ⟨⟨⟨⟨⟨q0, q1⟩, q2⟩, q3⟩, q4⟩, q5⟩ := q
      cases f <;> first | (cases hf; done) | skip
      · exact n_list q1 h.hK (h.calm hm) q3 (h.bl q2).1 (h.bl q2).2 ((S a).1.pe0 hpu h q4 q5)
      · exact n_sorted q1 q3 (h.bl q2).1 (h.bl q2).2 ((S a).1.pe0 hpu h q4 q5)
    · cases q
  | pb1 f p =>
    cases p with
    | fld _ _ => cases f <;> cases hf
    | root i =>
    simp only [chkE] at q
    split at q
    · simp only [Bool.and_eq_true, decide_eq_true_eq, Bool.not_eq_true'] at q
      obtain ⟨⟨⟨⟨q0, q1⟩, q2⟩, q3⟩, q4⟩ := q
      obtain ⟨h1, h2, h3, h4⟩ := h.nm q4
      refine n_pb1 h.hK ?_ q2 (h.bl q3).1 (h.bl q3).2 h1 h2 h3 h4
      cases f <;> first | exact .inl rfl | exact .inr rfl | cases hf
    · cases q
  | slc a lo hi =>
    simp only [chkE] at q
    split at q
    · simp only [Bool.and_eq_true, Bool.not_eq_true'] at q
      obtain ⟨⟨⟨⟨⟨q1, q2⟩, q3⟩, q4⟩, q5⟩, q6⟩ := q
      rename_i l r _ _
      have ol : PO X l (tOf T G g W false lo) := by
        cases l with
        | none => rw [isNil_ok q5]; exact o_nil
        | some y => exact o_some (chk_ne q5) ((S lo).1.pe0 hpu h q5 q3)
      have oh : PO X r (tOf T G g W false hi) := by
        cases r with
        | none => rw [isNil_ok q6]; exact o_nil
        | some y => exact o_some (chk_ne q6) ((S hi).1.pe0 hpu h q6 q4)
      exact n_slc h.hK ((S a).1.pe0 hpu h q1 q2) ol oh
    · cases q
  | bin op a b =>
    simp only [chkE] at q
    split at q
    · simp only [Bool.and_eq_true, Bool.not_eq_true'] at q
      obtain ⟨⟨⟨⟨q1, q2⟩, q3⟩, q4⟩, q5⟩ := q
      cases op <;> first | (cases hf; done) | skip
      cases opB_ok q1
      exact n_add ((S a).1.pe0 hpu h q2 q4) ((S b).1.pe0 hpu h q3 q5)
    · cases q
  | cv1 t a =>
    simp only [chkE] at q
    split at q
    · simp only [Bool.and_eq_true, decide_eq_true_eq, Bool.not_eq_true'] at q
      obtain ⟨q0, q1, q2, q3, q4, q5, q6, q7⟩ := q
      subst q3
      cases t with
      | true => cases hf
      | false => exact n_cv1 q1 (h.calm hm) q5 (h.bl q2).1 (h.bl q2).2 (h.bl q4).1 (h.bl q4).2 ((S a).1.pe0 hpu h q6 q7)
    · cases q
  | cv2 t a b =>
    simp only [chkE] at q
    split at q
    · simp only [Bool.and_eq_true, decide_eq_true_eq, Bool.not_eq_true'] at q
      obtain ⟨q0, q1, q2, q3, q4, q5, q6, q7, q8, q9, qa⟩ := q
      subst q3
      cases t with
      | true => cases hf
      | false => exact n_cv2 q1 (h.calm hm) q5 q6 (h.bl q2).1 (h.bl q2).2 (h.bl q4).1 (h.bl q4).2 ((S a).1.pe0 hpu h q7 q9) ((S b).1.pe0 hpu h q8 qa)
    · cases q
  | comp a tg it k own =>
    have q0 := q
    simp only [chkE] at q
    split at q
    · obtain ⟨_, h1, h2, h3, h4, h5, h6, h7, h8⟩ := comp_parts0 hpu (S a).1 (S it).1 (S k).1 h q0
      subst h1
      exact n_comp (h.calm hm) h.nd' h2.1 h3 h4 h5 h6 h7 h8
    · cases q
  | comp2 a t1 i1 t2 i2 own own2 =>
    have q0 := q
    simp only [chkE] at q
    split at q
    · obtain ⟨k0, h1, h2, h3, h4, h5, h6, h7, h8, h9, ha, hb, hc⟩ := comp2_parts0 hpu (S a).1 (S i1).1 (S i2).1 h q0
      subst h1
      exact n_comp2 k0 h.nd' h2 h3 h4 h5 h6 h7 h8 h9 ha hb hc
    · cases q
  | _ => cases hf
def SSt (T : Tab) (G : Nat → Option D) (P : Pg) (n wf : Nat) (s : IS) : Prop :=
  ∀ (c : CK) (W : WX) (X : Cx) (g : SG) (pin : List Nat), c.sc.kind = .function → c.pu = false → Good T G g P n c W X → (c.md = 0 → X.stack = X.env :: X.outer ∧ X.env.frame = some X.env.locals) →
    ∀ sts, chkS P c pin s sts = true → (∀ st, sts = [st] → PS X st (tS g W pin (evS T G wf s))) ∧ PSs X sts (tS g W pin (evS T G wf s))
theorem Good.tr (h : Good T G g P n c W X) (hm : c.md = 0) {W' : WX} {pn : List (Addr × Obj)} {xe : Value → Shared → Prop} (tk : L2N.Takes (X.tr pn xe) W') (po : PassesOwn (model X.prog X.w) X.A X.env xe) : Good T G g P n c W' (X.tr pn xe) where
  hK := h.hK
  hN := h.hN
  nd := h.nd
  sc := h.sc
  fk := h.fk
  calm := h.calm
  room := h.room
  roomH := h.roomH
  hot := fun q => absurd (q.symm.trans hm) (by decide)
  hp := h.hp
  un := h.un
  tk := tk
  po := po
  blt := h.blt
  gls := h.gls
  xf := h.xf
  ini := h.ini
  fnm := h.fnm
  ofs := h.ofs
  mts := h.mts
  mks := h.mks
  fns := h.fns
  fnsH := h.fnsH
theorem Good.suite (h : Good T G g P n c W X) (hm : c.md = 0) {a : Addr} {oe : Obj} {cls : Value} {dd : Option Addr} {pn : List (Addr × Obj)} (hz : L2N.Zn cls dd oe) (hf : ∃ vs, oe.data = .fields vs) :
    Good T G (g.hot a cls dd) P n { c with md := 1 } (fun _ _ _ _ => False) (X.suite a ((a, oe) :: pn)) where
  hK := h.hK
  hN := h.hN
  nd := h.nd
  sc := h.sc
  fk := h.fk
  calm := fun q => (Nat.succ_ne_zero 0 q).elim
  room := fun q => (Nat.succ_ne_zero 0 q).elim
  roomH := fun _ => L2H.roomH_mark (h.room hm) _
  hot := fun _ => ⟨a, cls, dd, oe, rfl, List.mem_cons_self, rfl, hz, hf⟩
  hp := fun q => (Nat.succ_ne_zero 0 q).elim
  un := h.un
  tk := takesN0
  po := .never
  blt := h.blt
  gls := h.gls
  xf := ⟨h.xf.nec, h.xf.cad, h.xf.fnm, h.xf.xf⟩
  ini := h.ini
  fnm := ⟨h.fnm.at_, h.fnm.nd, h.fnm.ne⟩
  ofs := h.ofs
  mts := fun q => (Nat.succ_ne_zero 0 q).elim
  mks := fun q => (Nat.succ_ne_zero 0 q).elim
  fns := fun q => (Nat.succ_ne_zero 0 q).elim
  fnsH := h.fnsH
theorem rsB_ok {k : Nat} {x : Str} {f : Option Nat} (h : rsB P k x f = true) : ∃ c, P.ecl[k]? = some c ∧ c.name = x ∧ c.ini = f := by
  unfold rsB at h
  split at h
  · rename_i c e
    obtain ⟨h1, h2⟩ := bands h
    exact ⟨c, e, of_decide_eq_true h1, of_decide_eq_true h2⟩
  · cases h
theorem one_S {s : IS} {st : Stmt} (h : PS X st (tS g W pin (evS T G wf s))) : (∀ st', [st] = [st'] → PS X st' (tS g W pin (evS T G wf s))) ∧ PSs X [st] (tS g W pin (evS T G wf s)) :=
  ⟨fun st' e => by cases e; exact h, s_one h⟩
theorem tS_eq {f f' : Env → SR} {st : Stmt} (h : PS X st (tS g W pin f)) (e : ∀ σ, f' σ = f σ) : PS X st (tS g W pin f') := by
  have : f' = f := funext e
  rw [this]
  exact h
theorem s_sound : ∀ s : IS, SSt T G P n wf s := fun s => by
  have S := fun {g : SG} ie => e_sound (T := T) (G := G) (g := g) (P := P) (n := n) ie
  induction s with
  | skip =>
    intro c W X g pin hk hpu h hst sts q
    simp only [chkS] at q
    have e : evS T G wf .skip = SR.nx := by funext σ; simp only [evS]
    split at q
    · exact ⟨fun st z => (nomatch z), by rw [e]; exact s_nil⟩
    · exact one_S (by rw [e]; exact s_pass)
    · exact one_S (by rw [e]; exact s_doc)
    · cases q
  | seq a b ha hb =>
    intro c W X g pin hk hpu h hst sts q
    simp only [chkS] at q
    split at q
    · simp only [Bool.and_eq_true] at q
      refine ⟨fun st z => (nomatch z), ?_⟩
      have := s_cons ((ha c W X g pin hk hpu h hst _ q.1).1 _ rfl) (hb c W X g pin hk hpu h hst _ q.2).2
      have e : evS T G wf (.seq a b) = fun σ => (evS T G wf a σ).andThen (evS T G wf b) := by funext σ; simp only [evS]
      rw [e]
      exact this
    · cases q
  | asg t e =>
    intro c W X g pin hk hpu h hst sts q
    simp only [chkS] at q
    split at q
    · simp only [Bool.and_eq_true, Bool.not_eq_true'] at q
      obtain ⟨⟨⟨⟨⟨⟨⟨q0, q1⟩, q2⟩, q3⟩, q4⟩, q5⟩, q6⟩, q7⟩ := q
      rename_i y v p
      refine one_S (tS_eq (f := fun σ => (evE T G e σ).to fun x σ1 => (ofO (asgT t x σ1) σ1).to fun σ2 _ => .nx σ2) ?_ fun σ => by simp only [evS])
      cases hsw : swF c y v with
      | false => exact s_asg (pinB_ok q6) ((S e).1.pe0 hpu h q2 q3) ((g_sound h t).1 _ q1) (sw_false h.sc hk q7 hsw _) (stC_of h.sc q5) q4
      | true =>
        obtain ⟨x, xp, elt, gs, scope, vp, rfl, rfl, hl, hs⟩ := sw_tr h.sc hk hsw
        rcases chk_comp q2 with ⟨a, tg, it, k, own, tgt, iter, ifs, rfl, rfl⟩ | ⟨a, t1, i1, t2, i2, own, own2, g1, r1, g2, r2, rfl, rfl⟩ | rfl
        rotate_left
        · obtain ⟨k0, h1, h2, h3, h4, h5, h6, h7, h8, h9, ha, hb, hc⟩ := comp2_parts0 hpu (S a).1 (S i1).1 (S i2).1 h q2
          subst h1
          cases t with
          | nm i =>
            simp only [chkG] at q1
            simp only [Bool.and_eq_true, decide_eq_true_eq] at q1
            have hp : i ∉ pin := fun z => pinB_ok q6 i z (by simp [tgS])
            exact s_asgLc2 hp k0 h.nd' (by rw [h.hN]; exact q1.1) hl (hs _) h2 h3 h4 h5 h6 h7 h8 h9 ha hb hc
          | nil => simp [chkG] at q1
          | cons _ _ => simp [chkG] at q1
        · exact ps_stk fun σ => by simp only [evE, ER.to_stuck]
        obtain ⟨_, h1, h2, h3, h4, h5, h6, h7, h8⟩ := comp_parts0 hpu (S a).1 (S it).1 (S k).1 h q2
        subst h1
        have hm : c.md = 0 := by
          rcases Bool.or_eq_true_iff.mp q0 with z | z
          · exact eq_of_beq z
          · rw [hsw] at z; cases z
        cases t with
        | nm i =>
          simp only [chkG] at q1
          simp only [Bool.and_eq_true, decide_eq_true_eq] at q1
          have hp : i ∉ pin := fun z => pinB_ok q6 i z (by simp [tgS])
          exact s_asgLc hp (h.calm hm) h.nd' (by rw [h.hN]; exact q1.1) hl (hs _) h2.1 h3 h4 h5 h6 h7 h8
        | nil => simp [chkG] at q1
        | cons _ _ => simp [chkG] at q1
    · cases q
  | asgM i e =>
    intro c W X g pin hk hpu h hst sts q
    simp only [chkS] at q
    split at q
    · simp only [Bool.and_eq_true, decide_eq_true_eq, Bool.not_eq_true', decide_eq_false_iff_not] at q
      obtain ⟨⟨⟨⟨⟨⟨⟨⟨q0, q1⟩, q2⟩, q3⟩, q4⟩, q5⟩, q6⟩, q7⟩, q8⟩ := q
      have hm : c.md = 0 := eq_of_beq q0
      rename_i y yp v p
      refine one_S (tS_eq (f := fun σ => (evE T G e σ).to fun x σ1 => (ofO (thaw x) σ1).to fun m σ2 => .nx (σ2.set i (some m))) ?_ fun σ => by simp only [evS])
      have hi : X.N[i]? = some y := by rw [h.hN]; exact q1
      cases hsw : swF c (.Name y yp) v with
      | false => exact s_asgM q7 h.nd' hi (h.loc q2).1 (h.loc q2).2 (n_sound hpu h hm q3 q4) (sw_false h.sc hk q8 hsw _) q6
      | true =>
        obtain ⟨x, xp, elt, gs, scope, vp, e1, rfl, hl, hs⟩ := sw_tr h.sc hk hsw
        cases e1
        rcases chk_comp q4 with ⟨a, tg, it, k, own, tgt, iter, ifs, rfl, rfl⟩ | ⟨a, t1, i1, t2, i2, own, own2, g1, r1, g2, r2, rfl, rfl⟩ | rfl
        rotate_left
        · obtain ⟨k0, h1, h2, h3, h4, h5, h6, h7, h8, h9, ha, hb, hc⟩ := comp2_parts0 hpu (S a).1 (S i1).1 (S i2).1 h q4
          subst h1
          exact s_asgMLc2 q7 k0 h.nd' hi hl (hs _) h2 h3 h4 h5 h6 h7 h8 h9 ha hb hc
        · cases q3
        obtain ⟨_, h1, h2, h3, h4, h5, h6, h7, h8⟩ := comp_parts0 hpu (S a).1 (S it).1 (S k).1 h q4
        subst h1
        exact s_asgMLc q7 (h.calm hm) h.nd' hi hl (hs _) h2.1 h3 h4 h5 h6 h7 h8
    · cases q
  | sto pl k e =>
    intro c W X g pin hk hpu h hst sts q
    cases pl with
    | fld _ _ => simp only [chkS] at q; cases q
    | root i =>
    simp only [chkS] at q
    split at q
    · simp only [Bool.and_eq_true, Bool.not_eq_true'] at q
      obtain ⟨⟨⟨⟨⟨q1, q2⟩, q3⟩, q4⟩, q5⟩, q6⟩ := q
      obtain ⟨h1, h2, h3, h4⟩ := h.nm q1
      exact one_S (tS_eq (s_sto (o := .Constant .none 0 ⟨0, 0, 0, 0⟩) h.un h1 h2 h3 h4 ((S k).1.pe0 hpu h q2 q3) ((S e).1.pe0 hpu h q5 q6) q4) fun σ => by simp only [evS])
    · cases q
  | app pl e =>
    intro c W X g pin hk hpu h hst sts q
    cases pl with
    | fld _ _ => simp only [chkS] at q; cases q
    | root i =>
    simp only [chkS] at q
    split at q
    · simp only [Bool.and_eq_true, Bool.not_eq_true', decide_eq_true_eq] at q
      obtain ⟨⟨⟨⟨⟨q1, q2⟩, q3⟩, q4⟩, q5⟩, q6⟩ := q
      obtain ⟨h1, h2, h3, h4⟩ := h.nm q4
      subst q1
      exact one_S (tS_eq (s_app q2 q3 h1 h2 h3 h4 ((S e).1.pe0 hpu h q5 q6)) fun σ => by simp only [evS])
    · cases q
  | ext pl e =>
    intro c W X g pin hk hpu h hst sts q
    cases pl with
    | fld _ _ => simp only [chkS] at q; cases q
    | root i =>
    simp only [chkS] at q
    split at q
    · simp only [Bool.and_eq_true, Bool.not_eq_true', decide_eq_true_eq] at q
      obtain ⟨⟨⟨⟨⟨q1, q2⟩, q3⟩, q4⟩, q5⟩, q6⟩ := q
      obtain ⟨h1, h2, h3, h4⟩ := h.nm q4
      subst q1
      exact one_S (tS_eq (s_ext q2 q3 h1 h2 h3 h4 ((S e).1.pe0 hpu h q5 q6)) fun σ => by simp only [evS])
    · cases q
  | ex e =>
    intro c W X g pin hk hpu h hst sts q
    simp only [chkS] at q
    split at q
    · simp only [Bool.and_eq_true, Bool.not_eq_true'] at q
      exact one_S (tS_eq (s_ex ((S e).1.pe0 hpu h q.1.1 q.1.2) q.2) fun σ => by simp only [evS])
    · cases q
  | ite k a b ha hb =>
    intro c W X g pin hk hpu h hst sts q
    simp only [chkS] at q
    split at q
    · simp only [Bool.and_eq_true, Bool.not_eq_true'] at q
      obtain ⟨⟨q1, q4⟩, q5⟩ := q
      have pt := pt_of h q1
      rw [hpu] at pt
      exact one_S (tS_eq (s_ite pt (ha c W X g pin hk hpu h hst _ q4).2 (hb c W X g pin hk hpu h hst _ q5).2) fun σ => by simp only [evS])
    · cases q
  | wh k b hb =>
    intro c W X g pin hk hpu h hst sts q
    simp only [chkS] at q
    split at q
    · simp only [Bool.and_eq_true, Bool.not_eq_true'] at q
      obtain ⟨q1, q4⟩ := q
      have pt := pt_of h q1
      rw [hpu] at pt
      exact one_S (tS_eq (s_wh (wf := wf) h.po pt (hb c W X g pin hk hpu h hst _ q4).2) fun σ => by simp only [evS])
    · cases q
  | «for» t it b hb =>
    intro c W X g pin hk hpu h hst sts q
    simp only [chkS] at q
    split at q
    · simp only [Bool.and_eq_true, Bool.not_eq_true'] at q
      obtain ⟨⟨⟨⟨⟨⟨q0, q1⟩, q2⟩, q3⟩, q4⟩, q5⟩, q6⟩ := q
      exact one_S (tS_eq (s_for (pinB_ok q5) h.po (h.calm (eq_of_beq q0)) ((S it).1.pi0 hpu h q1 q2) ((g_sound h t).1 _ q4) (hb c W X g pin hk hpu h hst _ q6).2 (nSet_ok q3 _)) fun σ => by simp only [evS])
    · cases q
  | forO t p b hb =>
    intro c W X g pin hk hpu h hst sts q
    simp only [chkS] at q
    split at q
    · simp only [Bool.and_eq_true] at q
      obtain ⟨q0, q1, q2, q3, q4⟩ := q
      obtain ⟨h1, h2, h3, h4⟩ := h.nm q1
      exact one_S (tS_eq (s_forO h1 h2 h3 h4 (pinB_ok q3) h.po (h.calm (eq_of_beq q0)) ((g_sound h t).1 _ q2) (hb c W X g (p :: pin) hk hpu h hst _ q4).2) fun σ => by simp only [evS])
    · cases q
  | retO i =>
    intro c W X g pin hk hpu h hst sts q
    simp only [chkS] at q
    split at q
    · obtain ⟨h1, h2, h3, h4⟩ := h.nm q
      exact one_S (tS_eq (s_retO h1 h2 h3 h4) fun σ => by simp only [evS])
    · cases q
  | retC f l =>
    intro c W X g pin hk hpu h hst sts q
    simp only [chkS] at q
    split at q
    · simp only [Bool.and_eq_true, decide_eq_true_eq, Bool.not_eq_true'] at q
      obtain ⟨q0, q4, q5, q6, q7, q8, q9⟩ := q
      obtain ⟨ad, fd, ps, hm, hk', hb, F⟩ := h.fns (eq_of_beq q0) f _ q5.1 q5.2
      exact one_S (tS_eq (s_retC F ((h.room (eq_of_beq q0)).mono (by omega)) (h.gl q6) hm hk' hb h.tk q7 q8 q9 (SA.a0 hpu (S l).2.2.1 h q4)) fun σ => by simp only [evS])
    · cases q
  | ret e =>
    intro c W X g pin hk hpu h hst sts q
    simp only [chkS] at q
    split at q
    · simp only [Bool.and_eq_true, Bool.not_eq_true'] at q
      exact one_S (tS_eq (s_ret ((S e).1.pe0 hpu h q.1 q.2)) fun σ => by simp only [evS])
    · cases q
  | retN =>
    intro c W X g pin hk hpu h hst sts q
    simp only [chkS] at q
    split at q
    · exact one_S (tS_eq s_retN fun σ => by simp only [evS])
    · cases q
  | brk =>
    intro c W X g pin hk hpu h hst sts q
    simp only [chkS] at q
    split at q
    · exact one_S (tS_eq s_brk fun σ => by simp only [evS])
    · cases q
  | cont =>
    intro c W X g pin hk hpu h hst sts q
    simp only [chkS] at q
    split at q
    · exact one_S (tS_eq s_cont fun σ => by simp only [evS])
    · cases q
  | asgC i f l =>
    intro c W X g pin hk hpu h hst sts q
    simp only [chkS] at q
    split at q
    · simp only [Bool.and_eq_true, decide_eq_true_eq, Bool.not_eq_true', decide_eq_false_iff_not] at q
      obtain ⟨q0, q1, q2, q3, q4, q5, q6, q7, q8, q9⟩ := q
      have hm : c.md = 0 := eq_of_beq q0
      obtain ⟨ad, fd, ps, em, hkp, hb, F⟩ := h.fns hm f _ q5.1 q5.2
      exact one_S (tS_eq (s_asgC q3 h.nd' (by rw [h.hN]; exact q1) (h.loc q2).1 (h.loc q2).2 F ((h.room hm).mono (by omega)) (h.gl q6) em hkp hb h.tk q7 q8 q9 (SA.a0 hpu (S l).2.2.1 h q4)) fun σ => by simp only [evS])
    · cases q
  | retM e =>
    intro c W X g pin hk hpu h hst sts q
    simp only [chkS] at q
    split at q
    · simp only [Bool.and_eq_true] at q
      obtain ⟨q0, q1, q2⟩ := q
      exact one_S (tS_eq (s_retM (n_sound hpu h (eq_of_beq q0) q1 q2)) fun σ => by simp only [evS])
    · cases q
  | rse k =>
    intro c W X g pin hk hpu h hst sts q
    simp only [chkS] at q
    split at q
    · simp only [Bool.and_eq_true, Bool.not_eq_true'] at q
      obtain ⟨q0, q1, q2, q3⟩ := q
      obtain ⟨ec, e1, rfl, e2⟩ := rsB_ok q1
      have hlt : k < g.nec := by rw [h.xf.nec]; exact (List.getElem?_eq_some_iff.mp e1).1
      obtain ⟨ec', f1, f2, f3, f4⟩ := h.xf.ec hlt
      rw [e1] at f1
      cases f1
      have q4 := (bands (bands (bands (bands f4).2).2).2).2
      rw [e2] at q4
      exact one_S (tS_eq (s_rse (h.calm (eq_of_beq q0)) h.tk (by rw [h.hK]; exact h.xf.xc k hlt) hlt (by rw [h.hK, f2]; exact q4) f3 (h.gl q2) q3) fun σ => by simp only [evS])
    · cases q
  | rsi k f e =>
    intro c W X g pin hk hpu h hst sts q
    simp only [chkS] at q
    split at q
    · simp only [Bool.and_eq_true, Bool.not_eq_true'] at q
      obtain ⟨q0, q1, q4, q2, q3, q5, q6, q7⟩ := q
      have hm : c.md = 0 := eq_of_beq q0
      obtain ⟨ec, e1, rfl, e2⟩ := rsB_ok q1
      have hlt : k < g.nec := by rw [h.xf.nec]; exact (List.getElem?_eq_some_iff.mp e1).1
      obtain ⟨ec', f1, f2, f3, f4⟩ := h.xf.ec hlt
      rw [e1] at f1
      cases f1
      have q8 := (bands (bands (bands (bands f4).2).2).2).2
      rw [e2] at q8
      obtain ⟨x, hx⟩ := Option.isSome_iff_exists.mp q4
      obtain ⟨fI, fd, ps, g1, g2, g3, g4⟩ := h.ini k ec f x e1 e2 hx
      have hxc : XcF X.K (g.cad k) := by rw [h.hK]; exact h.xf.xc k hlt
      have ox : OexC X.K (g.cad k) := oexB_ok (by rw [h.hK, f2]; exact q8) hxc
      have en := h.xf.fnm f x hx
      refine one_S (tS_eq (s_rsi (h.calm hm) h.tk hlt ox (by rw [h.hK, en]; exact (h.xf.fl (List.mem_of_getElem? hx) k hlt).2) g1 g2 (by rw [en]; exact g4) ((h.room hm).mono (by omega)) g3 ?_ (h.gl q2) f3 q5 q3 ((S e).1.pe0 hpu h q6 q7)) fun σ => by simp only [evS])
      exact fun pins σ H s e s' I ⟨_, _, _, _, _, _, _, _, _, _, _, _, z⟩ => z.elim
    · cases q
  | aug i e =>
    intro c W X g pin hk hpu h hst sts q
    simp only [chkS] at q
    split at q
    · simp only [Bool.and_eq_true, decide_eq_true_eq, Bool.not_eq_true', decide_eq_false_iff_not] at q
      obtain ⟨q1, q2, q3, q4, q5⟩ := q
      exact one_S (tS_eq (s_aug q3 h.nd' (by rw [h.hN]; exact q1) (h.loc q2).1 (h.loc q2).2 ((S e).1.pe0 hpu h q4 q5)) fun σ => by simp only [evS])
    · cases q
  | asgN i t =>
    intro c W X g pin hk hpu h hst sts q
    simp only [chkS] at q
    split at q
    · simp only [Bool.and_eq_true, decide_eq_true_eq, Bool.not_eq_true', decide_eq_false_iff_not] at q
      obtain ⟨q0, q1, q2, q3⟩ := q
      subst q0
      exact one_S (tS_eq (s_asgN q3 h.nd' (by rw [h.hN]; exact q1) (h.loc q2).1 (h.loc q2).2) fun σ => by simp only [evS])
    · cases q
  | stk =>
    intro c W X g pin hk hpu h hst sts q
    exact ⟨fun st _ => ps_stk fun σ => by simp only [evS], s_stk fun σ => by simp only [evS]⟩
  | setf i f cs e =>
    intro c W X g pin hk hpu h hst sts q
    simp only [chkS] at q
    split at q
    · simp only [Bool.and_eq_true, decide_eq_true_eq, Bool.not_eq_true', List.all_eq_true] at q
      obtain ⟨q1, q2, q3, q4, q5⟩ := q
      obtain ⟨h1, h2, h3, h4⟩ := h.nm q3
      exact one_S (tS_eq (s_setf (fun k hk => h.ofs k f _ (q1 k hk) q2) (h.fnm.inj q2) h1 h2 h3 h4 ((S e).1.pe0 hpu h q4 q5)) fun σ => by simp only [evS])
    · cases q
  | par i j a b =>
    intro c W X g pin hk hpu h hst sts q
    simp only [chkS] at q
    split at q
    · simp only [Bool.and_eq_true, decide_eq_true_eq, Bool.not_eq_true', decide_eq_false_iff_not] at q
      obtain ⟨w1, w2, q0, q1, q2, q3, q4, q5, q6, q7, q8, q9, qa, qb, qc, qd⟩ := q
      have q4' := q4
      have q5' := q5
      rw [← h.sc] at q4' q5'
      exact one_S (tS_eq (s_par ⟨q6, q7⟩ (h.calm (eq_of_beq q0)) h.nd' (by rw [h.hN]; exact q1) (by rw [h.hN]; exact q2) q3 q4' q5' q8 q9 ((S a).1.pe0 hpu h qa qc) ((S b).1.pe0 hpu h qb qd) (par_w h.sc hk q4 q5 w2 q8 q9 w1) rfl) fun σ => by simp only [evS])
    · cases q
  | tryE b l s hd hb hh =>
    intro c W X g pin hk hpu h hst sts q
    simp only [chkS] at q
    split at q
    · rename_i body x xp o b0 suite p1 p2
      simp only [Bool.and_eq_true, Bool.not_eq_true'] at q
      obtain ⟨q0, q1, q2, q3, q4, q5, q6⟩ := q
      have hm : c.md = 0 := eq_of_beq q0
      obtain ⟨⟨o1, l'⟩, hq, q7⟩ := List.any_eq_true.mp q5
      obtain ⟨q7, q8⟩ := bands q7
      obtain rfl := of_decide_eq_true q7
      cases o1 with
      | none => cases q8
      | some j =>
        have q8 := of_decide_eq_true q8
        obtain ⟨ec, e3, rfl⟩ := Option.map_eq_some_iff.mp q8
        obtain ⟨cv, e1, e2⟩ := h.xf.sb hq
        have e1 : (P.ecl[j]?).map (fun c => Value.ref (He.ga g.K c.name)) = some cv := e1
        rw [e3] at e1
        cases e1
        obtain ⟨e4, e5⟩ := h.xf.cad j ec e3
        rw [e4] at e5
        have nms : Names X ec.name (.ref (He.ga g.K ec.name)) := ⟨h.gl q3, q4, .inl e5⟩
        have hx : ∀ i, i < g.nec → PySem.W.exmOne X.K (.ref (g.cad i)) (.ref (He.ga g.K ec.name)) = some (l'.contains i) := fun i hi => by
          rw [h.hK]
          exact (e2 i hi).2 rfl
        obtain ⟨st1, st2⟩ := hst hm
        cases s with
        | none =>
          cases o with
          | some _ => cases q6
          | none =>
            exact one_S (tS_eq (s_tryOnly st1 st2 nms h.tk h.hK (h.hp hm) hx (fun W' pn xe tk po => (hb c W' _ g pin hk hpu (h.tr hm tk po) (fun _ => ⟨st1, st2⟩) _ q1).2) fun a oe cls d pn hz hf => (hh { c with md := 1 } _ _ _ [] hk hpu (h.suite hm hz hf) (fun z => (Nat.succ_ne_zero 0 z).elim) _ q2).2) fun σ => by simp only [evS])
        | some i =>
          cases o with
          | none => cases q6
          | some nm =>
            simp only [slB, Bool.and_eq_true, decide_eq_true_eq] at q6
            exact one_S (tS_eq (s_tryAs st1 st2 h.nd' (by rw [h.hN]; exact q6.1) (by show X.env.scope.names.lookup nm = _; rw [h.sc]; exact q6.2) nms h.tk h.hK (h.hp hm) hx (fun W' pn xe tk po => (hb c W' _ g pin hk hpu (h.tr hm tk po) (fun _ => ⟨st1, st2⟩) _ q1).2) fun a oe cls d pn hz hf => (hh { c with md := 1 } _ _ _ [] hk hpu (h.suite hm hz hf) (fun z => (Nat.succ_ne_zero 0 z).elim) _ q2).2) fun σ => by simp only [evS])
    · cases q
end
end JH

/-! JC6: defs: the promise of each, by fuel; the law's. -/
namespace JH
open PySem PySem.Spec PyProof.Rows L2
/-- a def's text -/
structure FD where
  name : Str
  qual : Str
  cls : Option Str
  params : Arguments
  ps : List Str
  N : List Str
  body : List Stmt
  scope : Scope
def FD.ck (d : FD) : CK := ⟨d.N, d.scope, fun _ => true, 0, false⟩
def chkF (P : Pg) (fi : FI) (d : FD) : Bool := decide (fi.np = d.ps.length) && decide (fi.ns = d.N.length) && C8.scC d.N d.ps d.scope && fi.pin.all (fun i => decide (i < fi.np)) && chkS P d.ck fi.pin fi.body d.body
section
variable {g : SG} {P : Pg} {W : WX}
theorem start_eq {N : List Str} {vs : List V} {i : Nat} (h : i < vs.length) : (L2.start N vs)[i]? = (vs.map some)[i]? := by
  unfold L2.start
  rw [List.getElem?_append_left (by simpa using h)]
theorem Rel.starts {H F : Hp} {ms : List M} {vs : List V} {Os : Nat → Addr → Prop} {N : List Str} (rel : Rel g H F (ms.map some) (vs.map some) Os) : Rel g H F (ms.map some ++ List.replicate (N.length - ms.length) none) (L2.start N vs) Os := by
  have hl : ms.length = vs.length := by have := rel.len; simpa using this
  refine ⟨rel.le, by unfold L2.start; simp [hl], fun i m e => ?_, rel.dj, rel.nf, rel.al⟩
  by_cases hi : i < ms.length
  · rw [List.getElem?_append_left (by simpa using hi)] at e
    obtain ⟨v, hv, r⟩ := rel.sl i m e
    exact ⟨v, by rw [start_eq (by omega)]; exact hv, r⟩
  · rw [List.getElem?_append_right (by simpa using hi), List.getElem?_replicate] at e
    split at e <;> cases e
theorem outs_get {pin : List Nat} {np i : Nat} {σ : Env} {m : M} (h : (outs pin np σ)[i]? = some (some m)) : i < np ∧ i ∈ pin ∧ σ[i]? = some (some m) := by
  unfold outs at h
  rw [List.getElem?_map] at h
  obtain ⟨k, e, h⟩ := Option.map_eq_some_iff.mp h
  have hi : i < np := by
    have := (List.getElem?_eq_some_iff.mp e).1
    simpa using this
  rw [List.getElem?_range hi] at e
  cases e
  split at h
  · rename_i hc
    refine ⟨hi, by simpa using hc, ?_⟩
    cases e : σ[i]? with
    | none => rw [e] at h; cases h
    | some o => rw [e] at h; exact congrArg some h
  · cases h
/-- what comes out: the parameters that the def changes -/
theorem Rel.out {H F : Hp} {σd : Env} {σ : L2.St} {Os : Nat → Addr → Prop} {pin : List Nat} {np : Nat} {N : List Str} {vs : List V} (rel : Rel g H F σd σ Os) (hp : PinEq pin (L2.start N vs) σ) (hn : np = vs.length) :
    Rel g H F (outs pin np σd) (vs.map some) (fun i a => (i < np ∧ i ∈ pin) ∧ Os i a) := by
  refine ⟨rel.le, by simp [outs, hn], fun i m e => ?_, fun i j a h1 h2 => rel.dj i j a h1.2 h2.2, fun i a h => rel.nf i a h.2, fun i a h => rel.al i a h.2⟩
  obtain ⟨h1, h2, h3⟩ := outs_get e
  obtain ⟨v, hv, r⟩ := rel.sl i m h3
  refine ⟨v, ?_, r.wide fun a z => ⟨⟨h1, h2⟩, z⟩⟩
  rw [hp.2 i h2, start_eq (by omega)] at hv
  exact hv
theorem Gr.cut {pu : Bool} {H F H' F' : Hp} {O O' O'' : Addr → Prop} (x : Gr pu H F O H' F' O') (h : ∀ a, O'' a → O' a) : Gr pu H F O H' F' O'' := ⟨x.ff, x.fr, x.al, fun a z => x.ow a (h a z), x.fz⟩
/-- the body's end is the def's -/
theorem KC_KS {N : List Str} {vs : List V} {H F : Hp} {O : Addr → Prop} {Q : VK} {E : XK} {fi : FI} {r : SR} (hn : fi.np = vs.length) (k : KC g vs H F O Q E (fnRes fi r)) :
    KS g (fun cls d _ H => E cls d H) fi.pin (L2.start N vs) H F O { nx := fun _ H' => Q .non H', rt := Q } r := by
  cases r with
  | nx σd => exact fun σ' H' F' Os' rel hp gr => k .non H' F' _ (rel.out hp hn) .non (gr.cut fun a ⟨i, z⟩ => ⟨i, z.2⟩)
  | ret d σd => exact fun σ' v H' F' Os' rel hp rd gr => k v H' F' _ (rel.out hp hn) rd (gr.cut fun a ⟨i, z⟩ => ⟨i, z.2⟩)
  | retM ds σd => exact fun σ' p vs' H' F' Os' rel hp e1 e2 nO np rs hz gr => k p vs' H' F' _ (rel.out hp hn) e1 e2 (fun ⟨i, z⟩ => nO ⟨i, z.2⟩) np rs hz (gr.cut fun a ⟨i, z⟩ => ⟨i, z.2⟩)
  | exc e σd => exact fun σ' cls dd H' F' Os' rel hp rx gr => k cls dd H' F' rel.le rx (gr.cut fun a z => z.elim)
  | brk _ => exact k.elim
  | cont _ => exact k.elim
  | stuck => exact k.elim
end
section
variable {p : Program} {w : World} {K : PySem.W.Frag} {mg : Str → Option Value} {base : Heap} {g : SG} {P : Pg} {G : Nat → Option D} {wf : Nat} {L : List FI}
/-- a def as it stands -/
structure FnAt (K : PySem.W.Frag) (mg : Str → Option Value) (d : FD) : Prop where
  ex : ∃ (ad : Addr) (fd : FuncData), FunD K d.name d.qual d.params d.body d.scope [] [] ad fd ∧ mg d.name = some (.ref ad) ∧ Binds K fd d.ps []
/-- the defs that may be called where an error is handled -/
def hotAll (P : Pg) (L : List FI) (ds : List FD) : Bool := P.hots.all fun f => match L[f]?, ds[f]? with
  | some fi, some d => chkS P { d.ck with md := 1 } fi.pin fi.body d.body
  | _, _ => false
theorem hotAll_ok {P : Pg} {L : List FI} {ds : List FD} (h : hotAll P L ds = true) {f : Nat} {fi : FI} {d : FD} (hf : f ∈ P.hots) (h1 : L[f]? = some fi) (h2 : ds[f]? = some d) : chkS P { d.ck with md := 1 } fi.pin fi.body d.body = true := by
  have := List.all_eq_true.mp h f hf
  rw [h1, h2] at this
  exact this
/-- each def keeps its promise, in the open and where an error is handled -/
theorem fn_sound (hK : g.K = K) (hp0 : g.hp = none) (hb : ∀ x ∈ P.blts, mg x = none) (hgl : ∀ (k : Nat) (x : Str) (i : Int), P.gls[k]? = some (x, i) → G k = some (.int i) ∧ ∃ t, mg x = some (.int i t)) (hxf : XF g P mg)
    (hini : ∀ (j : Nat) (c : EC) (f : Nat) (x : Str), P.ecl[j]? = some c → c.ini = some f → P.fld[f]? = some x → ∃ (fI : Addr) (fd : FuncData) (ps : List Str), PySem.W.findIn K (.ref (g.cad j)) "__init__" = some (some (.ref fI)) ∧ PySem.W.typeIn K (.ref fI) = some (.type "function") ∧ Binds K fd ps [] ∧
      FnOk p w K mg base (L2N.CX p w) 1 fI fd ps (spI K x)) (ds : List FD) (hd : ∀ (f : Nat) (x : Str), P.fname[f]? = some x → x ≠ "" → ∃ d fi, ds[f]? = some d ∧ L[f]? = some fi ∧ d.name = x ∧ chkF P fi d = true ∧ FnAt K mg d) (hfn : FN g P.fld) (hof : ∀ (k f : Nat) (x : Str), (k, f) ∈ P.ofl → P.fld[f]? = some x → Cls K (g.cad k) ∧ NoAttr K (g.cad k) x)
    (hmt : ∀ (k : Nat) (m : Str) (f : Nat), (k, m, f) ∈ P.mth → Cls K (g.cad k) ∧ ∃ (d : FD) (fi : FI) (ad : Addr) (fd : FuncData), ds[f]? = some d ∧ L[f]? = some fi ∧ chkF P fi d = true ∧ FunD K d.name d.qual d.params d.body d.scope [] [] ad fd ∧ Meth K (g.cad k) m ad ∧ Binds K fd d.ps [])
    (hmk : ∀ (k : Nat) (x : Str) (f : Nat), (k, x, f) ∈ P.oin → mg x = some (.ref (g.cad k)) ∧ ∃ (d : FD) (fi : FI) (ad : Addr) (fd : FuncData), ds[f]? = some d ∧ L[f]? = some fi ∧ chkF P fi d = true ∧ FunD K d.name d.qual d.params d.body d.scope [] [] ad fd ∧ Mk K (g.cad k) ad ∧ Binds K fd d.ps [])
    (hh : hotAll P L ds = true) : ∀ n : Nat,
    (∀ (f : Nat) (d : FD) (fi : FI) (ad : Addr) (fd : FuncData), ds[f]? = some d → L[f]? = some fi → chkF P fi d = true → FunD K d.name d.qual d.params d.body d.scope [] [] ad fd →
      FnOk p w K mg base (L2N.CX p w) (3 * n) ad fd d.ps (spF g (callF L G wf n) f)) ∧
    (∀ (hp : Option (Addr × Value × Option Addr)) (f : Nat) (d : FD) (fi : FI) (ad : Addr) (fd : FuncData), f ∈ P.hots → ds[f]? = some d → L[f]? = some fi → chkF P fi d = true → FunD K d.name d.qual d.params d.body d.scope [] [] ad fd →
      FnP (ZG { g with hp := hp }) p w K mg base (L2N.CX p w) (3 * n) ad fd d.ps (spF { g with hp := hp } (callF L G wf n) f)) := fun n => by
  induction n with
  | zero =>
    exact ⟨fun f d fi ad fd h1 h2 h4 F => ⟨fun vs H Q E ⟨ms, F', Os, rel, k⟩ => k.elim, fun A outer s H args us vs Q E hr he hbi hv ⟨ms, F', Os, rel, k⟩ => k.elim⟩,
      fun hp f d fi ad fd h0 h1 h2 h4 F => ⟨fun vs H Q E ⟨ms, F', Os, rel, k⟩ => k.elim, fun A outer s H args us vs Q E q z hr hot pin he hbi hv ⟨ms, F', Os, rel, k⟩ => k.elim⟩⟩
  | succ n ih =>
    have len : ∀ (g' : SG) (f : Nat) (d : FD) (fi : FI), L[f]? = some fi → fi.np = d.ps.length → ∀ vs H Q E, spF g' (callF L G wf (n + 1)) f vs H Q E → ∃ (ms : List M) (F' : Hp) (Os : Nat → Addr → Prop), ms.length = vs.length ∧ vs.length = d.ps.length ∧ Rel g' H F' (ms.map some) (vs.map some) Os ∧ KC g' vs H F' (Own Os) Q E (fnRes fi (evS (callF L G wf n) G wf fi.body (ms.map some ++ List.replicate (fi.ns - fi.np) none))) := by
      rintro g' f d fi h2 c1 vs H Q E ⟨ms, F', Os, rel, k⟩
      simp only [callF, h2] at k
      split at k
      · rename_i hl
        have e : ms.length = vs.length := by have := rel.len; simpa using this
        exact ⟨ms, F', Os, e, by omega, rel, k⟩
      · exact k.elim
    have fns : ∀ (f : Nat) (x : Str), P.fname[f]? = some x → x ≠ "" → ∃ (ad : Addr) (fd : FuncData) (ps : List Str), mg x = some (.ref ad) ∧ PySem.W.keepIn K (.ref ad) = true ∧ Binds K fd ps [] ∧ FnOk p w K mg base (L2N.CX p w) (3 * n) ad fd ps (spF g (callF L G wf n) f) := fun f x hx hne => by
      obtain ⟨d, fi, a1, a2, a3, a4, ⟨ad, fd, a5, a6, a7⟩⟩ := hd f x hx hne
      exact ⟨ad, fd, d.ps, by rw [← a3]; exact a6, a5.kp, a7, ih.1 f d fi ad fd a1 a2 a4 a5⟩
    have fnsH : ∀ (hp : Option (Addr × Value × Option Addr)) (f : Nat) (x : Str), P.fname[f]? = some x → x ≠ "" → f ∈ P.hots → ∃ (ad : Addr) (fd : FuncData) (ps : List Str), mg x = some (.ref ad) ∧ PySem.W.keepIn K (.ref ad) = true ∧ Binds K fd ps [] ∧
        FnP (ZG { g with hp := hp }) p w K mg base (L2N.CX p w) (3 * n) ad fd ps (spF { g with hp := hp } (callF L G wf n) f) := fun hp f x hx hne hf => by
      obtain ⟨d, fi, a1, a2, a3, a4, ⟨ad, fd, a5, a6, a7⟩⟩ := hd f x hx hne
      exact ⟨ad, fd, d.ps, by rw [← a3]; exact a6, a5.kp, a7, ih.2 hp f d fi ad fd hf a1 a2 a4 a5⟩
    have mts : ∀ (k : Nat) (m : Str) (f : Nat), (k, m, f) ∈ P.mth → Cls K (g.cad k) ∧ ∃ (ad : Addr) (fd : FuncData) (ps : List Str), Meth K (g.cad k) m ad ∧ Binds K fd ps [] ∧ FnOk p w K mg base (L2N.CX p w) (3 * n) ad fd ps (spF g (callF L G wf n) f) := fun k m f hm => by
      obtain ⟨c1, d, fi, ad, fd, a1, a2, a3, a4, a5, a6⟩ := hmt k m f hm
      exact ⟨c1, ad, fd, d.ps, a5, a6, ih.1 f d fi ad fd a1 a2 a3 a4⟩
    have mks : ∀ (k : Nat) (x : Str) (f : Nat), (k, x, f) ∈ P.oin → mg x = some (.ref (g.cad k)) ∧ ∃ (ad : Addr) (fd : FuncData) (ps : List Str), Mk K (g.cad k) ad ∧ Binds K fd ps [] ∧ FnOk p w K mg base (L2N.CX p w) (3 * n) ad fd ps (spF g (callF L G wf n) f) := fun k x f hm => by
      obtain ⟨c1, d, fi, ad, fd, a1, a2, a3, a4, a5, a6⟩ := hmk k x f hm
      exact ⟨c1, ad, fd, d.ps, a5, a6, ih.1 f d fi ad fd a1 a2 a3 a4⟩
    constructor
    · intro f d fi ad fd h1 h2 h4 F
      unfold chkF at h4
      simp only [Bool.and_eq_true, decide_eq_true_eq, List.all_eq_true] at h4
      obtain ⟨⟨⟨⟨c1, c2⟩, c3⟩, c4⟩, c5⟩ := h4
      have S := C8.fnScope_by c3
      refine F.ok (k := 3 * n + 2) S (fun vs H Q E q => by obtain ⟨ms, F', Os, _, e, _⟩ := len g f d fi h2 c1 vs H Q E q; exact e) fun cdv A outer s H vs Q E hr q => ?_
      obtain ⟨ms, F', Os, e1, e2, rel, k⟩ := len g f d fi h2 c1 vs H Q E q
      refine ⟨tS g (fun cls d _ H => E cls d H) fi.pin (evS (callF L G wf n) G wf fi.body), (s_sound (T := callF L G wf n) (P := P) (n := n) fi.body d.ck _ _ g fi.pin S.kind rfl ?_ (fun _ => ⟨rfl, rfl⟩) d.body c5).2, ?_⟩
      · exact {
          hK := hK.symm
          hN := rfl
          nd := S.nd
          sc := rfl
          fk := rfl
          calm := fun _ => rfl
          room := fun _ => hr
          roomH := fun q => absurd (show (0 : Nat) = 1 from q) (by decide)
          hot := fun q => absurd (show (0 : Nat) = 1 from q) (by decide)
          hp := fun _ => hp0
          un := hr.units
          tk := L2N.takes_of rfl rfl rfl rfl
          po := passes_of rfl
          blt := hb
          gls := hgl
          xf := hxf
          ini := hini
          fnm := hfn
          ofs := hof
          mts := fun _ => mts
          mks := fun _ => mks
          fns := fun _ => fns
          fnsH := fnsH }
      · have hnp : fi.np = vs.length := by omega
        refine ⟨_, F', Os, ?_, KC_KS hnp k⟩
        have e3 : fi.ns - fi.np = d.N.length - ms.length := by omega
        rw [e3]
        exact rel.starts
    · intro hp f d fi ad fd hf h1 h2 h4 F
      unfold chkF at h4
      simp only [Bool.and_eq_true, decide_eq_true_eq, List.all_eq_true] at h4
      obtain ⟨⟨⟨⟨c1, c2⟩, c3⟩, c4⟩, c5⟩ := h4
      have c6 := hotAll_ok hh hf h2 h1
      have S := C8.fnScope_by c3
      refine fn_ofP (k := 3 * n + 2) F S (fun vs H Q E q => by obtain ⟨ms, F', Os, _, e, _⟩ := len _ f d fi h2 c1 vs H Q E q; exact e) fun cdv A outer s H vs Q E q0 hz hot hr q => ?_
      obtain ⟨ms, F', Os, e1, e2, rel, k⟩ := len _ f d fi h2 c1 vs H Q E q
      refine ⟨tS { g with hp := hp } (fun cls d _ H => E cls d H) fi.pin (evS (callF L G wf n) G wf fi.body), (s_sound (T := callF L G wf n) (P := P) (n := n) fi.body { d.ck with md := 1 } _ _ { g with hp := hp } fi.pin S.kind rfl ?_ (fun z => (Nat.succ_ne_zero 0 z).elim) d.body c6).2, ?_⟩
      · exact {
          hK := hK.symm
          hN := rfl
          nd := S.nd
          sc := rfl
          fk := rfl
          calm := fun q => (Nat.succ_ne_zero 0 q).elim
          room := fun q => (Nat.succ_ne_zero 0 q).elim
          roomH := fun _ => hr
          hot := fun _ => hotG_of hz hot (List.mem_singleton.mpr rfl)
          hp := fun q => (Nat.succ_ne_zero 0 q).elim
          un := by have := hr.un; show (A.deeper _).units + 64 < cLine; omega
          tk := L2N.takes_of rfl rfl rfl rfl
          po := passes_of rfl
          blt := hb
          gls := hgl
          xf := ⟨hxf.nec, hxf.cad, hxf.fnm, hxf.xf⟩
          ini := hini
          fnm := ⟨hfn.at_, hfn.nd, hfn.ne⟩
          ofs := hof
          mts := fun q => (Nat.succ_ne_zero 0 q).elim
          mks := fun q => (Nat.succ_ne_zero 0 q).elim
          fns := fun q => (Nat.succ_ne_zero 0 q).elim
          fnsH := fnsH }
      · have hnp : fi.np = vs.length := by omega
        refine ⟨_, F', Os, ?_, KC_KS hnp k⟩
        have e3 : fi.ns - fi.np = d.N.length - ms.length := by omega
        rw [e3]
        exact rel.starts
/-- the law's promise at the script -/
theorem law_spec {f : Nat} {n : Nat} {ns : List Int} {H : Hp} {a : Addr} {os : Env} (hO : Only H) (hS : SqL g.K H a (ns.map V.int)) (hl : ns.length ≤ 63) (h : callF L G wf n f [.d (.scr ns)] = .ret (.bl true) os) :
    spF g (callF L G wf n) f [.ref a] H (fun v _ => v = .bl true) fun _ _ _ => False := by
  refine ⟨[.d (.scr ns)], H, fun _ _ => False, ⟨LeH.refl H, rfl, fun i m e => ?_, fun _ _ _ z => z.elim, fun _ _ z => z.elim, fun _ _ z => z.elim⟩, ?_⟩
  · cases i with
    | zero => cases e; exact ⟨_, rfl, .d (.scr hS (Nat.le_trans hl (by rw [line_eq]; decide)))⟩
    | succ i => simp at e
  · rw [h]
    exact fun v H' F' Os' rel rd gr => by cases rd; rfl
end
end JH

/-! JC7: from the head's facts to the law. -/
namespace JH
open PySem PySem.Spec PyProof.Rows L2
/-- the i-th top statement's def -/
def fdOf (p : Program) (i : Nat) (N : List Str) : FD := match p.main.body[i]? with
  | some (.FunctionDef n a b _ _ _ sc _ _ _) => ⟨n, n, none, a, a.args.map (·.arg), N, b, sc⟩
  | _ => ⟨"", "", none, ⟨[], [], none, [], [], none, []⟩, [], N, [], ⟨.function, [], false, false, []⟩⟩
/-- the j-th statement of the i-th top statement, a class -/
def fdIn (p : Program) (i j : Nat) (N : List Str) : FD := match p.main.body[i]? with
  | some (.ClassDef _ _ _ bd _ _ _ _ _ _ _) => (match bd[j]? with
    | some (.FunctionDef n a b _ _ _ sc _ _ _) => ⟨n, n, none, a, a.args.map (·.arg), N, b, sc⟩
    | _ => ⟨"", "", none, ⟨[], [], none, [], [], none, []⟩, [], N, [], ⟨.function, [], false, false, []⟩⟩)
  | _ => ⟨"", "", none, ⟨[], [], none, [], [], none, []⟩, [], N, [], ⟨.function, [], false, false, []⟩⟩
/-- a method -/
def fdMt (p : Program) (i j : Nat) (cls qual : Str) (N : List Str) : FD := { fdIn p i j N with cls := some cls, qual := qual }
def FD.key (d : FD) : Str × Option Str := (d.cls.getD d.name, d.cls.map fun _ => d.name)
def FD.he (d : FD) : He.DefD := ⟨d.key, d.name, d.qual, d.params, d.body, d.scope, [], []⟩
def FD.ad (K : PySem.W.Frag) (d : FD) : Addr := He.fAd K d.key
/-- an __init__: its class, its class's name, its text -/
structure IN where
  j : Nat
  cls : Str
  qual : Str
  fd : FD
def IN.he (q : IN) : He.DefD := ⟨(q.cls, some "__init__"), "__init__", q.qual, q.fd.params, q.fd.body, q.fd.scope, [], []⟩
/-- a law's tables -/
structure LW where
  ds : List FD
  bs : List Str
  gs : List (Str × Int)
  ecl : List EC
  fld : List Str
  sbs : List (Option Nat × List Nat)
  hots : List Nat
  ins : List IN
  ocl : List Str := []
  ofl : List (Nat × Nat) := []
  mth : List (Nat × Str × Nat) := []
  oin : List (Nat × Str × Nat) := []
def LW.pg (l : LW) : Pg := ⟨l.ds.map (fun d => if d.cls.isNone = true then d.name else ""), l.bs, l.gs, l.ecl, l.fld, l.sbs, l.hots, l.ofl, l.mth, l.oin⟩
/-- an own class's name, by its number -/
def LW.clN (l : LW) (k : Nat) : Str := (l.ocl[k - l.ecl.length]?).getD ""
def LW.fn (l : LW) : List He.DefD := l.ds.map FD.he ++ l.ins.map IN.he
/-- the globals' values -/
def glOf (gs : List (Str × Int)) (k : Nat) : Option D := (gs[k]?).map fun q => .int q.2
def LW.fa (l : LW) : List He.Fa := l.ds.map (fun d => .glo (d.cls.getD d.name)) ++ (l.bs.map .free ++ l.gs.map fun q => .int q.1 q.2)
/-- the further facts: own exception classes -/
def inB (K : PySem.W.Frag) (q : IN) : Bool := He.eqO (PySem.W.findIn K (.ref (He.ga K q.cls)) "__init__") (some (some (.ref (He.fAd K (q.cls, some "__init__"))))) && decide (PySem.W.typeIn K (.ref (He.fAd K (q.cls, some "__init__"))) = some (.type "function"))
/-- .. own classes -/
def ofB (l : LW) (K : PySem.W.Frag) (q : Nat × Nat) : Bool := decide (l.ecl.length ≤ q.1) && (match l.fld[q.2]? with
  | some x => (He.Fa.cls (l.clN q.1)).ok K && (He.Fa.noat (l.clN q.1) x).ok K
  | none => false)
def mtB (l : LW) (K : PySem.W.Frag) (q : Nat × Str × Nat) : Bool := decide (l.ecl.length ≤ q.1) && ((He.Fa.cls (l.clN q.1)).ok K && (match l.ds[q.2.2]? with
  | some d => He.eqO (PySem.W.findIn K (.ref (He.ga K (l.clN q.1))) q.2.1) (some (some (.ref (d.ad K)))) && (PySem.W.isFn K (.ref (d.ad K)) && PySem.W.keepIn K (.ref (d.ad K)))
  | none => false))
def mkB (l : LW) (K : PySem.W.Frag) (q : Nat × Str × Nat) : Bool := decide (l.ecl.length ≤ q.1) && (decide (l.clN q.1 = q.2.1) && ((He.Fa.glo q.2.1).ok K && (PySem.W.makesIn K (He.ga K q.2.1) && (PySem.W.keepIn K (.ref (He.ga K q.2.1)) && (match l.ds[q.2.2]? with
  | some d => He.eqO (PySem.W.findIn K (.ref (He.ga K q.2.1)) "__init__") (some (some (.ref (d.ad K)))) && PySem.W.isFn K (.ref (d.ad K))
  | none => false)))))
def LW.fx (l : LW) (K : PySem.W.Frag) : Bool := xfB K l.pg && (l.ins.all (inB K) && (l.ofl.all (ofB l K) && (l.mth.all (mtB l K) && l.oin.all (mkB l K))))
/-! ### the hook -/
def obsX (l : LW) (n : Nat) (g : Addr → Option Obj) : He.AlD × Bool := (He.obsD l.fa l.fn (He.frG g (He.asD g n)), l.fx (He.frG g (He.asD g n)))
def hookX (l : LW) (n : Nat) : PySem.W.Hook where
  α := He.AlD × Bool
  obs := fun s => obsX l n s.heap.get?
  val := fun _ => (He.valD l.fn, true)
  says := fun _ h => ∃ K : PySem.W.Frag, K.In h ∧ He.SaysD l.fa l.fn K ∧ l.fx K = true
  of := fun s _ e => ⟨_, He.frG_in, congrArg Prod.fst e, congrArg Prod.snd e⟩
  keeps := fun _ _ _ ⟨K, hK, c, d⟩ k => ⟨K, PySem.W.Frag.In.keeps hK k, c, d⟩
theorem obsX_eq {l : LW} {n : Nat} {g : Addr → Option Obj} {s : Shared} (h : ∀ a, g a = s.heap.get? a) : obsX l n g = (hookX l n).obs s := by
  have e : g = s.heap.get? := funext h
  rw [e] <;> rfl
/-! ### tables that are checked -/
def chkAll (P : Pg) : List FI → List FD → Bool
  | [], [] => true
  | fi :: L, d :: ds => chkF P fi d && chkAll P L ds
  | _, _ => false
theorem chkAll_get {P : Pg} : ∀ {L : List FI} {ds : List FD} {i : Nat} {d : FD}, chkAll P L ds = true → ds[i]? = some d → ∃ fi, L[i]? = some fi ∧ chkF P fi d = true
  | fi :: L, d :: ds, 0, d', h, e => by
    simp only [chkAll, Bool.and_eq_true] at h
    cases e
    exact ⟨fi, rfl, h.1⟩
  | fi :: L, d :: ds, i + 1, d', h, e => by
    simp only [chkAll, Bool.and_eq_true] at h
    exact chkAll_get (L := L) (ds := ds) (i := i) h.2 e
  | [], d :: ds, _, _, h, _ => by simp [chkAll] at h
  | [], [], i, _, _, e => by simp at e
  | _ :: _, [], i, _, _, e => by simp at e
/-- an __init__ that keeps its argument in the class's field -/
def chkI (l : LW) (q : IN) : Bool := match l.ecl[q.j]?, q.fd.body with
  | some c, [.Assign [.Attribute (.Name s _) f _] (.Name v _) _] => (match c.ini with
    | some k => decide (l.fld[k]? = some f)
    | none => false) && (decide (c.name = q.cls) && (decide (q.fd.ps = [s, v]) && (C8.scC [s, v] [s, v] q.fd.scope && (visB q.fd.scope s && (visB q.fd.scope v && (!dbg s && (!cdb s && (!dbg v && !cdb v))))))))
  | _, _ => false
/-- every class with an __init__ has it in the list -/
def chkJ (l : LW) : Bool := (decide l.fld.Nodup && !l.fld.contains "") && (l.ins.all (chkI l) && (List.range l.ecl.length).all fun j => match l.ecl[j]? with
  | some c => c.ini.isNone || l.ins.any fun q => decide (q.j = j)
  | none => true)
def BndQ (nm q : Str) (d : FD) : Prop := ∀ (kV doc pm : Value) (an : Option Addr) (cdv ct : Value) (us : List Value), us.length = d.ps.length → bindArgs (PySem.W.fnOf nm q d.params d.body d.scope .none kV doc pm an cdv ct) ⟨us, []⟩ = pure (d.ps.zip us)
abbrev Bnd (d : FD) : Prop := BndQ d.name d.qual d
inductive AllB : List FD → Prop
  | nil : AllB []
  | cons {d : FD} {ds : List FD} : Bnd d → AllB ds → AllB (d :: ds)
theorem AllB.get : ∀ {ds : List FD} {i : Nat} {d : FD}, AllB ds → ds[i]? = some d → Bnd d
  | _ :: _, 0, _, .cons h _, e => by cases e; exact h
  | _ :: _, i + 1, _, .cons _ t, e => AllB.get t (i := i) e
inductive AllI : List IN → Prop
  | nil : AllI []
  | cons {d : IN} {ds : List IN} : BndQ "__init__" d.qual d.fd → AllI ds → AllI (d :: ds)
theorem AllI.get : ∀ {ds : List IN} {i : Nat} {d : IN}, AllI ds → ds[i]? = some d → BndQ "__init__" d.qual d.fd
  | _ :: _, 0, _, .cons h _, e => by cases e; exact h
  | _ :: _, i + 1, _, .cons _ t, e => AllI.get t (i := i) e
/-- the fixed tables -/
def LW.sg (l : LW) (K : PySem.W.Frag) : SG := ⟨K, fun i => (l.fld[i]?).getD "", fun i => match l.ecl[i]? with
  | some c => He.ga K c.name
  | none => He.ga K (l.clN i), l.ecl.length, none⟩
section
variable {l : LW} {L : List FI} {wf n f : Nat} {d : FD}
theorem xf_of {K : PySem.W.Frag} {h : Heap} {mg : Str → Option Value} (KX : K.In h) (GN : h.Ns mainGlobals mg) (hx : xfB K l.pg = true) : XF (l.sg K) l.pg mg := by
  refine ⟨rfl, fun i c e => ?_, fun i x e => ?_, hx⟩
  · have e' : l.ecl[i]? = some c := e
    have e1 : (l.sg K).cad i = He.ga K c.name := by
      show (match l.ecl[i]? with
        | some c => He.ga K c.name
        | none => He.ga K (l.clN i)) = _
      rw [e']
    refine ⟨e1, ?_⟩
    rw [e1]
    have q := List.all_eq_true.mp (bands hx).1 c (List.mem_of_getElem? e')
    exact PySem.W.mg_of KX GN (He.eqO_ok (bands (bands (bands (bands q).2).2).2).1)
  · have e' : l.fld[i]? = some x := e
    show (l.fld[i]?).getD "" = x
    rw [e']
    rfl
/-- the law's walk: every script, from the table of what the defs do -/
theorem law_walk {ol : PySem.W.OpenLaw} {q : Program} {loose : List Str} {XP : (Str → Option Value) → Heap → Prop} {dr : DefRec} {x : Str}
    (hn : ol.most = some 63) (hdf : dr.params.defaults = []) (hr : Room (3 * n) callerA) (hd : l.ds[f]? = some d) (hname : dr.name = d.name) (hps : d.ps = [x]) (hcl : d.cls = none) (hc : chkAll l.pg L l.ds = true) (hh : hotAll l.pg L l.ds = true) (hj : chkJ l = true) (hb : AllB l.ds) (hbi : AllI l.ins)
    (h : ∀ ns : List Int, ns.length ≤ 63 → ∃ os, callF L (glOf l.gs) wf n f [.d (.scr ns)] = .ret (.bl true) os) :
    PySem.W.WalkO q loose XP (hookX l 4).says ol.row.toRowW dr [] (fun f vs => PySem.call f vs) := by
  refine Att.attach_call hn hdf fun w s₀ s₁ mg mb fa o pm cd doc a vs ns Gr Y ho hd' hcd hmg hobj hints hlen hg => ?_
  obtain ⟨K, KX, c, cx⟩ := Y
  have GN := Gr.T.g
  obtain ⟨cx1, cx2⟩ := bands cx
  obtain ⟨cx2, cx3⟩ := bands cx2
  obtain ⟨cx3, cx4⟩ := bands cx3
  obtain ⟨cx4, cx5⟩ := bands cx4
  obtain ⟨hjn, hj⟩ := bands hj
  have fal : ∀ {i : Nat} {fc : He.Fa}, l.fa[i]? = some fc → fc.ok K = true := fun {i fc} e => c.fact i e
  have glo : ∀ {i : Nat} {d : FD}, l.ds[i]? = some d → mg (d.cls.getD d.name) = some (.ref (He.ga K (d.cls.getD d.name))) := fun {i d} e =>
    He.glo_ok KX GN (fal (i := i) (fc := .glo (d.cls.getD d.name)) (by
      unfold LW.fa
      rw [List.getElem?_append_left (by rw [List.length_map]; exact (List.getElem?_eq_some_iff.mp e).1), List.getElem?_map, e]
      rfl))
  have fun' : ∀ {i : Nat} {d : FD}, l.ds[i]? = some d → ∃ fd, FunD K d.name d.qual d.params d.body d.scope [] [] (d.ad K) fd := fun {i d} e =>
    c.def_ i (d := d.he) (by
      unfold LW.fn
      rw [List.getElem?_append_left (by rw [List.length_map]; exact (List.getElem?_eq_some_iff.mp e).1), List.getElem?_map, e]
      rfl)
  have funI : ∀ {i : Nat} {q : IN}, l.ins[i]? = some q → ∃ fd, FunD K "__init__" q.qual q.fd.params q.fd.body q.fd.scope [] [] (He.fAd K (q.cls, some "__init__")) fd := fun {i q} e =>
    c.def_ (l.ds.length + i) (d := q.he) (by
      unfold LW.fn
      rw [List.getElem?_append_right (by rw [List.length_map]; omega), List.length_map, Nat.add_sub_cancel_left, List.getElem?_map, e]
      rfl)
  have glo0 : ∀ {i : Nat} {d : FD}, l.ds[i]? = some d → d.cls = none → mg d.name = some (.ref (d.ad K)) := fun {i d} e z => by
    have := glo e
    rw [z] at this
    have e2 : d.ad K = He.ga K d.name := by unfold FD.ad FD.key; rw [z]; rfl
    rw [e2]
    exact this
  have cadO : ∀ {k : Nat}, l.ecl.length ≤ k → (l.sg K).cad k = He.ga K (l.clN k) := fun {k} hk => by
    show (match l.ecl[k]? with
      | some c => He.ga K c.name
      | none => He.ga K (l.clN k)) = _
    rw [List.getElem?_eq_none hk]
  obtain ⟨fd, F⟩ := fun' hd
  have efa : fa = d.ad K := by
    have e := hmg
    rw [hname, glo0 hd hcl] at e
    cases e
    rfl
  subst efa
  obtain ⟨fi, h1, h2⟩ := chkAll_get hc hd
  have bnd : ∀ (s : Shared) (u : Value), BindsTo s fd ⟨[u], []⟩ [(x, u)] := fun s u => by
    have := FunD.bindsA (ps := d.ps) F (hb.get hd) s [u] (by rw [hps]; rfl)
    rw [hps] at this
    exact this
  have FO : ∀ base : Heap, K.In base → base.Ns mainGlobals mg → FnOk ol.prog w K mg base (L2N.CX ol.prog w) (3 * n) (d.ad K) fd [x] (spF (l.sg K) (callF L (glOf l.gs) wf n) f) := fun base _ _ => by
    rw [← hps]
    have xf := xf_of (l := l) KX GN cx1
    refine (fn_sound (g := l.sg K) (P := l.pg) (L := L) (G := glOf l.gs) (wf := wf) rfl rfl (fun y hy => ?_) (fun k y i e1 => ?_) xf (fun j c f x e1 e2 e3 => ?_) l.ds (fun i y hy hne => ?_) ⟨fun i => rfl, of_decide_eq_true (bands hjn).1, fun z => by have := (bands hjn).2; rw [show l.fld.contains ("" : Str) = true from List.contains_iff_mem.mpr z] at this; cases this⟩ (fun k f x hk hx => ?_) (fun k m f hk => ?_) (fun k x f hk => ?_) hh n).1 f d fi _ fd hd h1 h2 F
    · obtain ⟨j, hj⟩ := List.getElem?_of_mem hy
      have hj : l.bs[j]? = some y := hj
      refine He.free_ok KX GN (fal (i := l.ds.length + j) (fc := .free y) ?_)
      unfold LW.fa
      rw [List.getElem?_append_right (by rw [List.length_map]; omega), List.length_map, Nat.add_sub_cancel_left, List.getElem?_append_left (by rw [List.length_map]; exact (List.getElem?_eq_some_iff.mp hj).1), List.getElem?_map, hj]
      rfl
    · have e1 : l.gs[k]? = some (y, i) := e1
      refine ⟨by unfold glOf; rw [e1]; rfl, He.int_ok KX GN (fal (i := l.ds.length + (l.bs.length + k)) (fc := .int y i) ?_)⟩
      unfold LW.fa
      rw [List.getElem?_append_right (by rw [List.length_map]; omega), List.length_map, Nat.add_sub_cancel_left, List.getElem?_append_right (by rw [List.length_map]; omega), List.length_map, Nat.add_sub_cancel_left, List.getElem?_map, e1]
      rfl
    · have e1 : l.ecl[j]? = some c := e1
      obtain ⟨j1, j2⟩ := bands hj
      have j3 := List.all_eq_true.mp j2 j (List.mem_range.mpr (List.getElem?_eq_some_iff.mp e1).1)
      rw [e1] at j3
      have j3 : (c.ini.isNone || l.ins.any fun q => decide (q.j = j)) = true := j3
      rw [e2] at j3
      obtain ⟨q, hq, hqj⟩ := List.any_eq_true.mp (show (l.ins.any fun q => decide (q.j = j)) = true by simpa using j3)
      have hqj := of_decide_eq_true hqj
      have ci := List.all_eq_true.mp j1 q hq
      have ib := List.all_eq_true.mp cx2 q hq
      obtain ⟨i, hi⟩ := List.getElem?_of_mem hq
      obtain ⟨fdI, FI'⟩ := funI hi
      obtain ⟨ib1, ib2⟩ := bands ib
      unfold chkI at ci
      rw [hqj, e1] at ci
      obtain ⟨qj, qc, qq, qf⟩ := q
      obtain ⟨fn, fqu, fcl, fp, fps, fN, fb, fs⟩ := qf
      dsimp only at hqj ci ib1 ib2 FI'
      subst hqj
      split at ci
      · rename_i c' s p1 f1 p2 v p3 p4 ec
        cases ec
        rw [e2] at ci
        obtain ⟨k1, k2⟩ := bands ci
        obtain ⟨k3, k4⟩ := bands k2
        obtain ⟨k5, k6⟩ := bands k4
        obtain ⟨k7, k8⟩ := bands k6
        obtain ⟨k9, k10⟩ := bands k8
        obtain ⟨k11, k12⟩ := bands k10
        obtain ⟨k13, k14⟩ := bands k12
        obtain ⟨k15, k16⟩ := bands k14
        obtain ⟨k17, k18⟩ := bands k16
        have m1 : l.fld[f]? = some f1 := of_decide_eq_true k1
        have m3 : c.name = qc := of_decide_eq_true k3
        have m5 : fps = [s, v] := of_decide_eq_true k5
        have m4 : l.fld[f]? = some x := e3
        rw [m4] at m1
        cases m1
        subst m3
        subst m5
        have ec := (xf.cad qj c e1).1
        refine ⟨_, fdI, [s, v], by rw [ec]; exact He.eqO_ok ib1, of_decide_eq_true ib2, FI'.bindsN (hbi.get hi), fn_ini FI' k7 (by simpa [dbg] using k13) (by simpa [cdb] using k15) (by simpa [dbg] using k17) (by simpa [cdb] using k18) k9 k11⟩
      · cases ci
    · have hy : (l.ds.map (fun d => if d.cls.isNone = true then d.name else ("" : Str)))[i]? = some y := hy
      rw [List.getElem?_map] at hy
      obtain ⟨d1, e1, ey⟩ := Option.map_eq_some_iff.mp hy
      have ecn : d1.cls = none := by
        cases q : d1.cls with
        | none => rfl
        | some c =>
          rw [q] at ey
          exact absurd ey.symm hne
      have ey : d1.name = y := by
        rw [ecn] at ey
        exact ey
      subst ey
      obtain ⟨fi1, e2, e3⟩ := chkAll_get hc e1
      obtain ⟨fd1, F1⟩ := fun' e1
      exact ⟨d1, fi1, e1, e2, rfl, e3, ⟨_, fd1, F1, glo0 e1 ecn, F1.bindsN (hb.get e1)⟩⟩
    · have q := List.all_eq_true.mp cx3 _ hk
      unfold ofB at q
      obtain ⟨q1, q2⟩ := bands q
      have hx : l.fld[f]? = some x := hx
      rw [hx] at q2
      obtain ⟨q3, q4⟩ := bands q2
      have ec := cadO (of_decide_eq_true q1)
      rw [ec]
      exact ⟨He.cls_ok q3, He.noat_ok q4⟩
    · have q := List.all_eq_true.mp cx4 _ hk
      unfold mtB at q
      obtain ⟨q1, q2⟩ := bands q
      obtain ⟨q3, q4⟩ := bands q2
      have ec := cadO (of_decide_eq_true q1)
      rw [ec]
      refine ⟨He.cls_ok q3, ?_⟩
      split at q4
      · rename_i d1 e1
        obtain ⟨q5, q6⟩ := bands q4
        obtain ⟨q7, q8⟩ := bands q6
        obtain ⟨fi1, e2, e3⟩ := chkAll_get hc e1
        obtain ⟨fd1, F1⟩ := fun' e1
        exact ⟨d1, fi1, _, fd1, e1, e2, e3, F1, ⟨He.eqO_ok q5, q7, q8⟩, F1.bindsN (hb.get e1)⟩
      · cases q4
    · have q := List.all_eq_true.mp cx5 _ hk
      unfold mkB at q
      obtain ⟨q1, q2⟩ := bands q
      obtain ⟨q3, q4⟩ := bands q2
      obtain ⟨q5, q6⟩ := bands q4
      obtain ⟨q7, q8⟩ := bands q6
      obtain ⟨q9, q10⟩ := bands q8
      have ec := cadO (of_decide_eq_true q1)
      have en : l.clN k = x := of_decide_eq_true q3
      rw [ec, en]
      refine ⟨He.glo_ok KX GN q5, ?_⟩
      split at q10
      · rename_i d1 e1
        obtain ⟨q11, q12⟩ := bands q10
        obtain ⟨fi1, e2, e3⟩ := chkAll_get hc e1
        obtain ⟨fd1, F1⟩ := fun' e1
        exact ⟨d1, fi1, _, fd1, e1, e2, e3, F1, ⟨q7, He.eqO_ok q11, q12, q9⟩, F1.bindsN (hb.get e1)⟩
      · cases q10
  refine law_call KX GN Gr.T.b Gr.T.builtins Gr.T.nolimit hg hobj hints (Nat.le_trans hlen (by rw [line_eq]; decide)) hr FO bnd (fun H hO hS => ?_) fun H e s' hC => ?_
  · obtain ⟨os, e⟩ := h ns hlen
    exact law_spec (g := l.sg K) hO hS hlen e
  · obtain ⟨_, _, _, _, _, _, _, _, _, _, _, _, z⟩ := hC
    exact z
end
end JH

/-! JD1: plain laws: running the evaluator. -/
namespace JH
theorem compL_seq {f : D → Env → ER (Option D)} (S : Nat → Env) (v : Nat → D) : ∀ (xs : List D) (k : Nat), (∀ i x, xs[i]? = some x → f x (S (k + i)) = .ok (some (v (k + i))) (S (k + i + 1))) → compL f xs (S k) = .ok ((List.range' k xs.length).map v) (S (k + xs.length))
  | [], k, _ => rfl
  | x :: xs, k, h => by
    have h0 := h 0 x rfl
    rw [Nat.add_zero] at h0
    have ih := compL_seq S v xs (k + 1) fun i y e => by
      have := h (i + 1) y (by simpa using e)
      rw [show k + 1 + i = k + (i + 1) from by omega]
      exact this
    rw [compL_some h0, ih]
    simp only [ER.bind_ok, List.range'_succ, List.map_cons, List.length_cons]
    rw [show k + 1 + xs.length = k + (xs.length + 1) from by omega]
theorem compL_run {f : D → Env → ER (Option D)} {xs : List D} (S : Nat → Env) (v : Nat → D) {σ : Env} (h0 : σ = S 0) (h : ∀ i x, xs[i]? = some x → f x (S i) = .ok (some (v i)) (S (i + 1))) : compL f xs σ = .ok ((List.range xs.length).map v) (S xs.length) := by
  have := compL_seq S v xs 0 (by simpa using h)
  rw [h0, this, List.range_eq_range', Nat.zero_add]
theorem forL_seq {t : Tg} {f : Env → SR} (S : Nat → Env) : ∀ (xs : List D) (k : Nat), (∀ i x, xs[i]? = some x → ∃ σ1, asgT t x (S (k + i)) = some σ1 ∧ (f σ1 = .nx (S (k + i + 1)) ∨ f σ1 = .cont (S (k + i + 1)))) → forL t f xs (S k) = .nx (S (k + xs.length))
  | [], k, _ => rfl
  | x :: xs, k, h => by
    obtain ⟨σ1, e1, e2⟩ := h 0 x rfl
    rw [Nat.add_zero] at e1 e2
    have ih := forL_seq S xs (k + 1) fun i y e => by
      have := h (i + 1) y (by simpa using e)
      rw [show k + 1 + i = k + (i + 1) from by omega]
      exact this
    unfold forL
    simp only [e1]
    have e3 : k + 1 + xs.length = k + (x :: xs).length := by simp only [List.length_cons]; omega
    rcases e2 with e2 | e2
    · rw [e2]; dsimp only; rw [ih, e3]
    · rw [e2]; dsimp only; rw [ih, e3]
theorem forL_run {t : Tg} {f : Env → SR} {xs : List D} (S : Nat → Env) {σ : Env} (h0 : σ = S 0) (h : ∀ i x, xs[i]? = some x → ∃ σ1, asgT t x (S i) = some σ1 ∧ (f σ1 = .nx (S (i + 1)) ∨ f σ1 = .cont (S (i + 1)))) : forL t f xs σ = .nx (S xs.length) := by
  have := forL_seq S xs 0 (by simpa using h)
  rw [h0, this, Nat.zero_add]
/-- a loop by its invariant: it may return -/
def SR.sat (r : SR) (N : Env → Prop) (R : D → Env → Prop) : Prop := match r with
  | .nx σ => N σ
  | .ret d σ => R d σ
  | _ => False
def SR.bsat (r : SR) (N : Env → Prop) (B : Env → Prop) (R : D → Env → Prop) : Prop := match r with
  | .nx σ => N σ
  | .cont σ => N σ
  | .brk σ => B σ
  | .ret d σ => R d σ
  | _ => False
theorem forL_seqI {t : Tg} {f : Env → SR} {N : Env → Prop} {R : D → Env → Prop} (I : Nat → Env → Prop) : ∀ (xs : List D) (k : Nat) (σ : Env), I k σ → (∀ i x σ, xs[i]? = some x → I (k + i) σ → ∃ σ1, asgT t x σ = some σ1 ∧ (f σ1).bsat (I (k + i + 1)) N R) → (∀ σ, I (k + xs.length) σ → N σ) → (forL t f xs σ).sat N R
  | [], k, σ, h0, _, h2 => h2 σ h0
  | x :: xs, k, σ, h0, h, h2 => by
    obtain ⟨σ1, e1, e2⟩ := h 0 x σ rfl h0
    have ih : ∀ σ, I (k + 1) σ → (forL t f xs σ).sat N R := fun σ hI => forL_seqI I xs (k + 1) σ hI (fun i y σ e hI => by
      have := h (i + 1) y σ (by simpa using e) (by rw [show k + (i + 1) = k + 1 + i from by omega]; exact hI)
      rw [show k + 1 + i = k + (i + 1) from by omega]
      exact this) fun σ hI => h2 σ (by rw [show k + (x :: xs).length = k + 1 + xs.length from by simp only [List.length_cons]; omega]; exact hI)
    unfold forL
    simp only [e1]
    rw [Nat.add_zero] at e2
    cases e : f σ1 with
    | nx σ2 => rw [e] at e2; exact ih σ2 e2
    | cont σ2 => rw [e] at e2; exact ih σ2 e2
    | brk σ2 => rw [e] at e2; exact e2
    | ret d σ2 => rw [e] at e2; exact e2
    | retM _ _ => rw [e] at e2; exact e2
    | exc _ _ => rw [e] at e2; exact e2
    | stuck => rw [e] at e2; exact e2
theorem forL_inv {t : Tg} {f : Env → SR} {xs : List D} {σ : Env} {N : Env → Prop} {R : D → Env → Prop} (I : Nat → Env → Prop) (h0 : I 0 σ) (h : ∀ i x σ, xs[i]? = some x → I i σ → ∃ σ1, asgT t x σ = some σ1 ∧ (f σ1).bsat (I (i + 1)) N R) (h2 : ∀ σ, I xs.length σ → N σ) : (forL t f xs σ).sat N R :=
  forL_seqI I xs 0 σ h0 (by simpa using h) (by simpa using h2)
theorem SR.sat_to {r : SR} {N : Env → Prop} {R : D → Env → Prop} (h : r.sat N R) : (∃ σ, r = .nx σ ∧ N σ) ∨ (∃ d σ, r = .ret d σ ∧ R d σ) := by
  cases r <;> first | exact h.elim | exact .inl ⟨_, rfl, h⟩ | exact .inr ⟨_, _, rfl, h⟩
/-- enter a def -/
theorem call_eq {L : List FI} {G : Nat → Option D} {wf n f : Nat} {fi : FI} {ms : List M} (h : L[f]? = some fi) (hl : ms.length = fi.np) : callF L G wf (n + 1) f ms = fnRes fi (evS (callF L G wf n) G wf fi.body (ms.map some ++ List.replicate (fi.ns - fi.np) none)) := by
  simp only [callF, h, hl, if_true]
/-! ### draws -/
def take (ds : List Int) (a : Nat) (m : Int) : Int := if a < ds.length then ds.getD a 0 / 7 % m else 0
/-- the hand: draws, the place -/
def hand (ds : List Int) (a : Nat) : M := .lst [.d (.lst (ds.map .int)), .d (.int a)]
end JH

/-! JD2: what a run of the evaluator must show: rules backwards. -/
namespace JH
def ER.sat {α : Type} (r : ER α) (Q : α → Env → Prop) (X : EX → Env → Prop) : Prop := match r with
  | .ok a σ => Q a σ
  | .exc e σ => X e σ
  | .stuck => False
def CR.sat (r : CR) (Q : D → Env → Prop) (X : EX → Prop) : Prop := match r with
  | .ret d os => Q d os
  | .retM _ _ => False
  | .exc e => X e
  | .stuck => False
/-- the ends that a statement may come to -/
structure KQ where
  nx : Env → Prop
  ret : D → Env → Prop
  brk : Env → Prop
  cont : Env → Prop
  exc : EX → Env → Prop
  retM : List D → Env → Prop := fun _ _ => False
def SR.satK (r : SR) (k : KQ) : Prop := match r with
  | .nx σ => k.nx σ
  | .ret d σ => k.ret d σ
  | .brk σ => k.brk σ
  | .cont σ => k.cont σ
  | .exc e σ => k.exc e σ
  | .retM ds σ => k.retM ds σ
  | .stuck => False
section
variable {α β : Type} {T : Tab} {G : Nat → Option D} {wf : Nat} {σ : Env} {a b c e l it k : IE} {Q : D → Env → Prop} {X : EX → Env → Prop} {i f : Nat} {K : KQ}
theorem ER.sat_bind {r : ER α} {f : α → Env → ER β} {Q : β → Env → Prop} (h : r.sat (fun x σ1 => (f x σ1).sat Q X) X) : (r.bind f).sat Q X := by
  cases r with
  | ok a σ => exact h
  | exc e σ => exact h
  | stuck => exact h.elim
theorem ER.sat_to {r : ER α} {f : α → Env → SR} (h : r.sat (fun x σ1 => (f x σ1).satK K) K.exc) : (r.to f).satK K := by
  cases r with
  | ok a σ => exact h
  | exc e σ => exact h
  | stuck => exact h.elim
theorem ER.sat_imp {r : ER α} {Q Q' : α → Env → Prop} (h : r.sat Q X) (hq : ∀ a σ, Q a σ → Q' a σ) : r.sat Q' X := by
  cases r with
  | ok a σ => exact hq _ _ h
  | exc e σ => exact h
  | stuck => exact h.elim
theorem sat_ofO {o : Option α} {Q : α → Env → Prop} {x : α} (e : o = some x) (h : Q x σ) : (ofO o σ).sat Q X := by rw [e]; exact h
abbrev wE (T : Tab) (G : Nat → Option D) (e : IE) (σ : Env) (Q : D → Env → Prop) (X : EX → Env → Prop) : Prop := (evE T G e σ).sat Q X
theorem wE_def {Q : D → Env → Prop} : wE T G e σ Q X = (evE T G e σ).sat Q X := rfl
theorem r_cN (h : Q .non σ) : (evE T G .cN σ).sat Q X := by simp only [evE]; exact h
theorem r_cB {v : Bool} (h : Q (.bl v) σ) : (evE T G (.cB v) σ).sat Q X := by simp only [evE]; exact h
theorem r_cI {v : Int} (h : Q (.int v) σ) : (evE T G (.cI v) σ).sat Q X := by simp only [evE]; exact h
theorem r_cS {v : List Nat} (h : Q (.str v) σ) : (evE T G (.cS v) σ).sat Q X := by simp only [evE]; exact h
theorem r_rd {x : D} (e : (σ[i]?).bind id = some (.d x)) (h : Q x σ) : (evE T G (.rd i) σ).sat Q X := by simp only [evE, e]; exact h
theorem r_fz {m : M} {p : Pl} (e : getPl σ p = some m) (h : Q m.toD (setPl σ p (.d m.toD))) : (evE T G (.fz p) σ).sat Q X := by simp only [evE, e]; exact h
/-- dBin, so that no unifier looks into it -/
@[irreducible] def xB (op : BOp) (x y : D) : Option D := dBin op x y
theorem xB_eq {op : BOp} {x y : D} : xB op x y = dBin op x y := by unfold xB; rfl
theorem xB_add {u v : Int} : xB .add (.int u) (.int v) = some (.int (u + v)) := by rw [xB_eq]; simp only [dBin]
theorem xB_sub {u v : Int} : xB .sub (.int u) (.int v) = some (.int (u - v)) := by rw [xB_eq]; simp only [dBin]
theorem xB_mul {u v : Int} (h : (small64 u || small64 v) = true) : xB .mul (.int u) (.int v) = some (.int (u * v)) := by rw [xB_eq]; simp only [dBin]; rw [if_pos (by rw [h]; rfl)]
theorem xB_mulW {u v : Int} (h : u.natAbs.log2 + v.natAbs.log2 < 1000000) : xB .mul (.int u) (.int v) = some (.int (u * v)) := by rw [xB_eq]; simp only [dBin]; rw [if_pos (by rw [decide_eq_true h, Bool.or_true])]
theorem xB_mod {u v : Int} (h : 0 < v) : xB .mod (.int u) (.int v) = some (.int (u % v)) := by rw [xB_eq]; simp only [dBin]; rw [if_pos h]
theorem xB_fdiv {u v : Int} (h : 0 < v ∧ v < 1073741824) : xB .fdiv (.int u) (.int v) = some (.int (u / v)) := by rw [xB_eq]; simp only [dBin]; rw [if_pos ⟨h.1, .inl h.2⟩]
theorem xB_fdivW {u v : Int} (h : 0 < v ∧ v.natAbs.log2 < 9000) : xB .fdiv (.int u) (.int v) = some (.int (u / v)) := by rw [xB_eq]; simp only [dBin]; rw [if_pos ⟨h.1, .inr h.2⟩]
theorem xB_pow {u v : Int} (h : 0 ≤ v ∧ v ≤ 1000 ∧ small64 u = true) : xB .pow (.int u) (.int v) = some (.int (u ^ v.toNat)) := by rw [xB_eq]; simp only [dBin]; rw [if_pos h]
theorem xB_addT {xs ys : List D} (h : xs.length + ys.length ≤ 16777216) : xB .add (.tup xs) (.tup ys) = some (.tup (xs ++ ys)) := by rw [xB_eq]; simp only [dBin]; rw [if_pos h]
theorem xB_addL {xs ys : List D} (h : xs.length + ys.length ≤ 16777216) : xB .add (.lst xs) (.lst ys) = some (.lst (xs ++ ys)) := by rw [xB_eq]; simp only [dBin]; rw [if_pos h]
theorem r_bin {op : BOp} (h : (evE T G a σ).sat (fun x σ1 => (evE T G b σ1).sat (fun y σ2 => ∃ z, xB op x y = some z ∧ Q z σ2) X) X) : (evE T G (.bin op a b) σ).sat Q X := by
  simp only [xB_eq] at h
  simp only [evE]
  exact ER.sat_bind (ER.sat_imp h fun x σ1 h => ER.sat_bind (ER.sat_imp h fun y σ2 ⟨z, e, q⟩ => sat_ofO e q))
theorem r_neg (h : (evE T G a σ).sat (fun x σ1 => ∃ v, x = .int v ∧ Q (.int (-v)) σ1) X) : (evE T G (.neg a) σ).sat Q X := by
  simp only [evE]
  exact ER.sat_bind (ER.sat_imp h fun x σ1 ⟨v, e, q⟩ => sat_ofO (by rw [e]; rfl) q)
theorem r_cmp {op : COp} (h : (evE T G a σ).sat (fun x σ1 => (evE T G b σ1).sat (fun y σ2 => ∃ z, dCmp op x y = some z ∧ Q (.bl z) σ2) X) X) : (evE T G (.cmp op a b) σ).sat Q X := by
  simp only [evE]
  exact ER.sat_bind (ER.sat_imp h fun x σ1 h => ER.sat_bind (ER.sat_imp h fun y σ2 ⟨z, e, q⟩ => sat_ofO (by rw [e]; rfl) q))
theorem r_isN (h : (evE T G a σ).sat (fun x σ1 => Q (.bl (isNone x)) σ1) X) : (evE T G (.isN a) σ).sat Q X := by
  simp only [evE]
  exact ER.sat_bind (ER.sat_imp h fun x σ1 q => q)
theorem r_notN (h : (evE T G a σ).sat (fun x σ1 => Q (.bl (!isNone x)) σ1) X) : (evE T G (.notN a) σ).sat Q X := by
  simp only [evE]
  exact ER.sat_bind (ER.sat_imp h fun x σ1 q => q)
theorem r_not (h : (evE T G a σ).sat (fun x σ1 => ∃ v, x = .bl v ∧ Q (.bl (!v)) σ1) X) : (evE T G (.not a) σ).sat Q X := by
  simp only [evE]
  exact ER.sat_bind (ER.sat_imp h fun x σ1 ⟨v, e, q⟩ => sat_ofO (by rw [e]; rfl) q)
theorem r_and (h : (evAnd T G l σ).sat Q X) : (evE T G (.and l) σ).sat Q X := by simp only [evE]; exact h
theorem r_or (h : (evOr T G l σ).sat Q X) : (evE T G (.or l) σ).sat Q X := by simp only [evE]; exact h
theorem r_and1 (h : (evE T G a σ).sat Q X) : (evAnd T G (.cons a .nil) σ).sat Q X := by simp only [evAnd]; exact h
theorem r_or1 (h : (evE T G a σ).sat Q X) : (evOr T G (.cons a .nil) σ).sat Q X := by simp only [evOr]; exact h
theorem r_andc {r : IE} (h : (evE T G a σ).sat (fun x σ1 => ∃ v, x = .bl v ∧ (if v = true then (evAnd T G (.cons b r) σ1).sat Q X else Q (.bl false) σ1)) X) : (evAnd T G (.cons a (.cons b r)) σ).sat Q X := by
  rw [evAnd_cons (by simp)]
  refine ER.sat_bind (ER.sat_imp h fun x σ1 ⟨v, e, q⟩ => ?_)
  rw [e]
  show (if v = true then _ else _ : ER D).sat Q X
  split <;> rename_i hv
  · rw [if_pos hv] at q; exact q
  · rw [if_neg hv] at q; exact q
theorem r_orc {r : IE} (h : (evE T G a σ).sat (fun x σ1 => ∃ v, x = .bl v ∧ (if v = true then Q (.bl true) σ1 else (evOr T G (.cons b r) σ1).sat Q X)) X) : (evOr T G (.cons a (.cons b r)) σ).sat Q X := by
  rw [evOr_cons (by simp)]
  refine ER.sat_bind (ER.sat_imp h fun x σ1 ⟨v, e, q⟩ => ?_)
  rw [e]
  show (if v = true then _ else _ : ER D).sat Q X
  split <;> rename_i hv
  · rw [if_pos hv] at q; exact q
  · rw [if_neg hv] at q; exact q
theorem r_ite (h : (evE T G c σ).sat (fun x σ1 => ∃ v, x = .bl v ∧ (if v = true then (evE T G a σ1).sat Q X else (evE T G b σ1).sat Q X)) X) : (evE T G (.ite c a b) σ).sat Q X := by
  simp only [evE]
  refine ER.sat_bind (ER.sat_imp h fun x σ1 ⟨v, e, q⟩ => ?_)
  rw [e]
  show (if v = true then _ else _ : ER D).sat Q X
  split <;> rename_i hv
  · rw [if_pos hv] at q; exact q
  · rw [if_neg hv] at q; exact q
theorem r_chn {o1 o2 : COp} (h : (evE T G a σ).sat (fun x σ1 => (evE T G b σ1).sat (fun y σ2 => ∃ v, dCmp o1 x y = some v ∧ (if v = true then (evE T G c σ2).sat (fun z σ3 => ∃ u, dCmp o2 y z = some u ∧ Q (.bl u) σ3) X else Q (.bl false) σ2)) X) X) : (evE T G (.chn o1 o2 a b c) σ).sat Q X := by
  simp only [evE]
  refine ER.sat_bind (ER.sat_imp h fun x σ1 h => ER.sat_bind (ER.sat_imp h fun y σ2 ⟨v, e, q⟩ => ?_))
  rw [e]
  show (if v = true then _ else _ : ER D).sat Q X
  split <;> rename_i hv
  · rw [if_pos hv] at q; exact ER.sat_bind (ER.sat_imp q fun z σ3 ⟨u, e, q⟩ => sat_ofO (by rw [e]; rfl) q)
  · rw [if_neg hv] at q; exact q
theorem r_idx (h : (evE T G a σ).sat (fun x σ1 => (evE T G b σ1).sat (fun y σ2 => ∃ z, dIdx x y = some z ∧ Q z σ2) X) X) : (evE T G (.idx a b) σ).sat Q X := by
  simp only [evE]
  exact ER.sat_bind (ER.sat_imp h fun x σ1 h => ER.sat_bind (ER.sat_imp h fun y σ2 ⟨z, e, q⟩ => sat_ofO e q))
theorem sat_there {p : Pl} {m : M} {Q : Unit → Env → Prop} (e : getPl σ p = some m) (e2 : m.isL = some ()) (h : Q () σ) : (there p σ).sat Q X := by
  unfold there
  rw [e]
  exact sat_ofO (x := ()) e2 h
theorem sat_has {p : Pl} {m : M} {Q : Unit → Env → Prop} (e : getPl σ p = some m) (h : Q () σ) : (has p σ).sat Q X := by
  unfold has
  rw [e]
  exact h
theorem r_midx {p : Pl} {m : M} (e : getPl σ p = some m) (h : (evE T G b σ).sat (fun y σ2 => ∃ m z, getPl σ2 p = some m ∧ mIdx m y = some z ∧ Q z σ2) X) : (evE T G (.midx p b) σ).sat Q X := by
  simp only [evE]
  exact ER.sat_bind (sat_has e (ER.sat_bind (ER.sat_imp h fun y σ2 ⟨m, z, e3, e4, q⟩ => sat_ofO (by rw [e3]; exact e4) q)))
theorem r_slc {lo hi : IE} (h : (evE T G a σ).sat (fun x σ1 => (evO T G lo σ1).sat (fun u σ2 => (evO T G hi σ2).sat (fun v σ3 => ∃ z, dSlc x u v = some z ∧ Q z σ3) X) X) X) : (evE T G (.slc a lo hi) σ).sat Q X := by
  simp only [evE]
  exact ER.sat_bind (ER.sat_imp h fun x σ1 h => ER.sat_bind (ER.sat_imp h fun y σ2 h => ER.sat_bind (ER.sat_imp h fun v σ3 ⟨z, e, q⟩ => sat_ofO e q)))
theorem r_oN {Q : Option Int → Env → Prop} (h : Q none σ) : (evO T G .nil σ).sat Q X := by simp only [evO]; exact h
theorem r_oS {Q : Option Int → Env → Prop} (hn : a.isNil = false) (h : (evE T G a σ).sat (fun x σ1 => ∃ v, x = .int v ∧ Q (some v) σ1) X) : (evO T G a σ).sat Q X := by
  rw [evO_of _ _ (by rintro rfl; cases hn)]
  exact ER.sat_bind (ER.sat_imp h fun x σ1 ⟨v, e, q⟩ => sat_ofO (by rw [e]; rfl) q)
theorem r_tup (h : (evL T G l σ).sat (fun xs σ1 => Q (.tup xs) σ1) X) : (evE T G (.tup l) σ).sat Q X := by
  simp only [evE]
  exact ER.sat_bind (ER.sat_imp h fun x σ1 q => q)
theorem r_lst (h : (evL T G l σ).sat (fun xs σ1 => Q (.lst xs) σ1) X) : (evE T G (.lst l) σ).sat Q X := by
  simp only [evE]
  exact ER.sat_bind (ER.sat_imp h fun x σ1 q => q)
theorem r_nil {Q : List D → Env → Prop} (h : Q [] σ) : (evL T G .nil σ).sat Q X := by simp only [evL]; exact h
theorem r_cons {r : IE} {Q : List D → Env → Prop} (h : (evE T G a σ).sat (fun x σ1 => (evL T G r σ1).sat (fun xs σ2 => Q (x :: xs) σ2) X) X) : (evL T G (.cons a r) σ).sat Q X := by
  simp only [evL]
  exact ER.sat_bind (ER.sat_imp h fun x σ1 h => ER.sat_bind (ER.sat_imp h fun xs σ2 q => q))
theorem r_anil {Q : List AV → Env → Prop} (h : Q [] σ) : (evA T G .nil σ).sat Q X := by simp only [evA]; exact h
theorem r_amarg {r : IE} {Q : List AV → Env → Prop} {m : M} (e : (σ[i]?).bind id = some m) (h : (evA T G r σ).sat (fun xs σ2 => Q (.m i :: xs) σ2) X) : (evA T G (.cons (.marg i) r) σ).sat Q X := by
  simp only [evA, e]
  exact ER.sat_bind (sat_ofO (x := ()) rfl (ER.sat_bind (ER.sat_imp h fun xs σ2 q => q)))
theorem r_acons {r : IE} {Q : List AV → Env → Prop} (hm : a.isMarg = false) (h : (evE T G a σ).sat (fun x σ1 => (evA T G r σ1).sat (fun xs σ2 => Q (.d x :: xs) σ2) X) X) : (evA T G (.cons a r) σ).sat Q X := by
  rw [evA_cons hm]
  exact ER.sat_bind (ER.sat_imp h fun x σ1 h => ER.sat_bind (ER.sat_imp h fun xs σ2 q => q))
theorem r_call (h : (evA T G l σ).sat (fun avs σ1 => (callWith T f avs σ1).sat Q X) X) : (evE T G (.call f l) σ).sat Q X := by
  simp only [evE]
  exact ER.sat_bind h
theorem r_cw {avs : List AV} {ms : List M} (hn : nodupB (avSlots avs) = true) (hm : avMs σ avs = some ms) (h : (T f ms).sat (fun d os => Q d (putOuts σ avs os)) (fun e => X e (dropOuts σ avs))) : (callWith T f avs σ).sat Q X := by
  unfold callWith
  rw [if_pos hn, hm]
  dsimp only
  cases e : T f ms with
  | ret d os => rw [e] at h; exact h
  | retM _ _ => rw [e] at h; exact h.elim
  | exc x => rw [e] at h; exact h
  | stuck => rw [e] at h; exact h.elim
/-- the values that are handed over, one by one -/
inductive AVs (σ : Env) : List AV → List M → Prop
  | nil : AVs σ [] []
  | d {x : D} {r : List AV} {ms : List M} : AVs σ r ms → AVs σ (.d x :: r) (.d x :: ms)
  | m {i : Nat} {m : M} {r : List AV} {ms : List M} : (σ[i]?).bind id = some m → AVs σ r ms → AVs σ (.m i :: r) (m :: ms)
theorem AVs.eq {avs : List AV} {ms : List M} (h : AVs σ avs ms) : avMs σ avs = some ms := by
  induction h with
  | nil => rfl
  | d _ ih => simp only [avMs, avM, ih]; rfl
  | m e _ ih => simp only [avMs, avM, e, ih]; rfl
theorem r_cv {avs : List AV} {ms : List M} (hn : nodupB (avSlots avs) = true) (hm : AVs σ avs ms) (h : (T f ms).sat (fun d os => Q d (putOuts σ avs os)) (fun e => X e (dropOuts σ avs))) : (callWith T f avs σ).sat Q X := r_cw hn hm.eq h
theorem CR.sat_imp {r : CR} {Q Q' : D → Env → Prop} {X X' : EX → Prop} (h : r.sat Q X) (hq : ∀ a σ, Q a σ → Q' a σ) (hx : ∀ e, X e → X' e) : r.sat Q' X' := by
  cases r with
  | ret a σ => exact hq _ _ h
  | retM _ _ => exact h.elim
  | exc e => exact hx _ h
  | stuck => exact h.elim
theorem CR.sat_eq {r : CR} {Q : D → Env → Prop} {X : EX → Prop} {d : D} {os : Env} (e : r = .ret d os) (h : Q d os) : r.sat Q X := by rw [e]; exact h
theorem r_b1 {g : B1} (h : (evE T G a σ).sat (fun x σ1 => ∃ z, dB1 g x = some z ∧ Q z σ1) X) : (evE T G (.b1 g a) σ).sat Q X := by
  simp only [evE]
  exact ER.sat_bind (ER.sat_imp h fun x σ1 ⟨z, e, q⟩ => sat_ofO e q)
theorem r_pb1 {g : B1} {p : Pl} {m : M} {x z : D} (e : getPl σ p = some m) (e2 : peekB m = some x) (e3 : dB1 g x = some z) (h : Q z σ) : (evE T G (.pb1 g p) σ).sat Q X := by
  simp only [evE]
  exact sat_ofO (by rw [e]; show (peekB m).bind _ = _; rw [e2]; exact e3) h
theorem r_b2 {g : B2} (h : (evE T G a σ).sat (fun x σ1 => (evE T G b σ1).sat (fun y σ2 => ∃ z, dB2 g x y = some z ∧ Q z σ2) X) X) : (evE T G (.b2 g a b) σ).sat Q X := by
  simp only [evE]
  exact ER.sat_bind (ER.sat_imp h fun x σ1 h => ER.sat_bind (ER.sat_imp h fun y σ2 ⟨z, e, q⟩ => sat_ofO e q))
theorem r_isi {t : Ty} (h : (evE T G a σ).sat (fun x σ1 => x.tyOk = true ∧ Q (.bl (x.isTy t)) σ1) X) : (evE T G (.isi a t) σ).sat Q X := by
  simp only [evE]
  exact ER.sat_bind (ER.sat_imp h fun x σ1 ⟨e, q⟩ => by rw [if_pos e]; exact q)
theorem r_isi2 {t u : Ty} (h : (evE T G a σ).sat (fun x σ1 => x.tyOk = true ∧ Q (.bl (x.isTy t || x.isTy u)) σ1) X) : (evE T G (.isi2 a t u) σ).sat Q X := by
  simp only [evE]
  exact ER.sat_bind (ER.sat_imp h fun x σ1 ⟨e, q⟩ => by rw [if_pos e]; exact q)
theorem r_pop {p : Pl} {m m' : M} {x : D} (e : getPl σ p = some m) (e2 : mPop m = some (x, m')) (h : Q x (setPl σ p m')) : (evE T G (.pop p) σ).sat Q X := by
  simp only [evE]
  exact ER.sat_bind (sat_ofO (x := (x, m')) (by rw [e]; exact e2) h)
/-! ### tests, what loops walk -/
theorem r_tN {Q : Bool → Env → Prop} (h : Q true σ) : (evT T G .nil σ).sat Q X := by simp only [evT]; exact h
theorem r_t {Q : Bool → Env → Prop} (hn : a.isNil = false) (h : (evE T G a σ).sat (fun x σ1 => ∃ v, x = .bl v ∧ Q v σ1) X) : (evT T G a σ).sat Q X := by
  rw [evT_of _ _ (by rintro rfl; cases hn)]
  exact ER.sat_bind (ER.sat_imp h fun x σ1 ⟨v, e, q⟩ => sat_ofO (by rw [e]; rfl) q)
theorem r_rng1 {Q : List D → Env → Prop} (h : (evE T G a σ).sat (fun x σ1 => ∃ n : Nat, x = .int (n : Int) ∧ n ≤ 16777216 ∧ Q (rangeD 0 n) σ1) X) : (evI T G (.rng1 a) σ).sat Q X := by
  simp only [evI]
  refine ER.sat_bind (ER.sat_imp h fun x σ1 ⟨n, e, hn, q⟩ => sat_ofO (x := rangeD 0 n) ?_ q)
  rw [e]
  have hs : smallR (n : Int) = true := by unfold smallR; simp only [Bool.and_eq_true, decide_eq_true_eq]; omega
  show (if smallR (n : Int) = true then some (rangeD 0 (n : Int).toNat) else none) = _
  rw [if_pos hs]
  rfl
theorem r_rng2 {Q : List D → Env → Prop} (h : (evE T G a σ).sat (fun x σ1 => (evE T G b σ1).sat (fun y σ2 => ∃ xs, dRng2 x y = some xs ∧ Q xs σ2) X) X) : (evI T G (.rng2 a b) σ).sat Q X := by
  simp only [evI]
  exact ER.sat_bind (ER.sat_imp h fun x σ1 h => ER.sat_bind (ER.sat_imp h fun y σ2 ⟨z, e, q⟩ => sat_ofO e q))
theorem r_enm {Q : List D → Env → Prop} (h : (evE T G a σ).sat (fun x σ1 => ∃ xs, dEnm x = some xs ∧ Q xs σ1) X) : (evI T G (.enm a) σ).sat Q X := by
  simp only [evI]
  exact ER.sat_bind (ER.sat_imp h fun x σ1 ⟨z, e, q⟩ => sat_ofO e q)
theorem r_zp {Q : List D → Env → Prop} (h : (evE T G a σ).sat (fun x σ1 => (evE T G b σ1).sat (fun y σ2 => ∃ xs, dZip x y = some xs ∧ Q xs σ2) X) X) : (evI T G (.zp a b) σ).sat Q X := by
  simp only [evI]
  exact ER.sat_bind (ER.sat_imp h fun x σ1 h => ER.sat_bind (ER.sat_imp h fun y σ2 ⟨z, e, q⟩ => sat_ofO e q))
theorem r_it {Q : List D → Env → Prop} (hn : a.isIt = false) (h : (evE T G a σ).sat (fun x σ1 => ∃ xs, D.items x = some xs ∧ Q xs σ1) X) : (evI T G a σ).sat Q X := by
  rw [evI_of hn]
  exact ER.sat_bind (ER.sat_imp h fun x σ1 ⟨z, e, q⟩ => sat_ofO e q)
/-- a comprehension: its loop, over compF -/
theorem r_comp {tg : Tg} {own : List Nat} (h : (evI T G it σ).sat (fun xs σ1 => (compL (compF T G e tg c own) xs (wipeD σ1 own)).sat (fun ys σ2 => Q (.lst ys) (backD σ1 σ2 own)) X) X) : (evE T G (.comp e tg it c own) σ).sat Q X := by
  simp only [evE]
  exact ER.sat_bind (ER.sat_imp h fun x σ1 h => ER.sat_bind (ER.sat_imp h fun ys σ2 q => q))
theorem compF_sat {tg : Tg} {own : List Nat} {x : D} {σ1 : Env} {Q : Option D → Env → Prop} (ha : asgT tg x σ = some σ1) (h : (evT T G c σ1).sat (fun k σ2 => if k = true then (evE T G e σ2).sat (fun y σ3 => Q (some y) (wipeD σ3 own)) X else Q none (wipeD σ2 own)) X) : (compF T G e tg c own x σ).sat Q X := by
  unfold compF
  rw [ha]
  refine ER.sat_bind (ER.sat_imp h fun k σ2 h => ?_)
  cases k with
  | true => exact ER.sat_bind h
  | false => exact h
theorem sat_ok {α : Type} {r : ER α} {Q : α → Env → Prop} (h : r.sat Q fun _ _ => False) : ∃ a σ, r = .ok a σ ∧ Q a σ := by
  cases r with
  | ok a σ => exact ⟨a, σ, rfl, h⟩
  | exc _ _ => exact h.elim
  | stuck => exact h.elim
theorem ok_sat {α : Type} {r : ER α} {Q : α → Env → Prop} {x : α} {σ : Env} (e : r = .ok x σ) (h : Q x σ) : r.sat Q X := by rw [e]; exact h
/-! ### statements: over irreducible names, so that no unifier looks into them -/
@[irreducible] def xS (T : Tab) (G : Nat → Option D) (wf : Nat) (s : IS) (σ : Env) : SR := evS T G wf s σ
theorem xS_eq {s : IS} : xS T G wf s σ = evS T G wf s σ := by unfold xS; rfl
@[irreducible] def xF (P : List FI) (G : Nat → Option D) (wf n : Nat) : Tab := callF P G wf n
theorem xF_eq {P : List FI} {n : Nat} : xF P G wf n = callF P G wf n := by unfold xF; rfl
theorem xS_fn {s : IS} : xS T G wf s = evS T G wf s := by funext σ; exact xS_eq
theorem r_skip (h : K.nx σ) : (xS T G wf .skip σ).satK K := by
  simp only [xS_fn] at *
  simp only [evS]
  exact h
theorem satK_imp {r : SR} {K K' : KQ} (h : r.satK K) (h1 : ∀ σ, K.nx σ → K'.nx σ) (h2 : ∀ d σ, K.ret d σ → K'.ret d σ) (h3 : ∀ σ, K.brk σ → K'.brk σ) (h4 : ∀ σ, K.cont σ → K'.cont σ) (h5 : ∀ d σ, K.exc d σ → K'.exc d σ) (h6 : ∀ d σ, K.retM d σ → K'.retM d σ) : r.satK K' := by
  cases r with
  | nx σ => exact h1 _ h
  | ret d σ => exact h2 _ _ h
  | brk σ => exact h3 _ h
  | cont σ => exact h4 _ h
  | exc d σ => exact h5 _ _ h
  | retM d σ => exact h6 _ _ h
  | stuck => exact h.elim
theorem r_seq {s t : IS} (h : (xS T G wf s σ).satK { K with nx := fun σ1 => (xS T G wf t σ1).satK K }) : (xS T G wf (.seq s t) σ).satK K := by
  simp only [xS_fn] at *
  simp only [evS]
  cases e : evS T G wf s σ with
  | nx σ1 => rw [e] at h; exact h
  | ret d σ1 => rw [e] at h; exact h
  | brk σ1 => rw [e] at h; exact h
  | cont σ1 => rw [e] at h; exact h
  | exc d σ1 => rw [e] at h; exact h
  | retM d σ1 => rw [e] at h; exact h
  | stuck => rw [e] at h; exact h.elim
theorem r_asg {t : Tg} (h : (evE T G e σ).sat (fun x σ1 => ∃ σ2, asgT t x σ1 = some σ2 ∧ K.nx σ2) K.exc) : (xS T G wf (.asg t e) σ).satK K := by
  simp only [xS_fn] at *
  simp only [evS]
  exact ER.sat_to (ER.sat_imp h fun x σ1 ⟨σ2, e, q⟩ => ER.sat_to (sat_ofO e q))
theorem r_asgM (h : (evE T G e σ).sat (fun x σ1 => ∃ m, thaw x = some m ∧ K.nx (σ1.set i (some m))) K.exc) : (xS T G wf (.asgM i e) σ).satK K := by
  simp only [xS_fn] at *
  simp only [evS]
  exact ER.sat_to (ER.sat_imp h fun x σ1 ⟨σ2, e, q⟩ => ER.sat_to (sat_ofO e q))
theorem r_sto {p : Pl} (h : (evE T G e σ).sat (fun y σ1 => ∃ m, getPl σ1 p = some m ∧ (evE T G k σ1).sat (fun z σ2 => ∃ m m', getPl σ2 p = some m ∧ mSet m z y = some m' ∧ K.nx (setPl σ2 p m')) K.exc) K.exc) : (xS T G wf (.sto p k e) σ).satK K := by
  simp only [xS_fn] at *
  simp only [evS]
  exact ER.sat_to (ER.sat_imp h fun y σ1 ⟨m, e1, h⟩ => ER.sat_to (sat_has e1 (ER.sat_to (ER.sat_imp h fun z σ2 ⟨m, m', e3, e4, q⟩ => ER.sat_to (sat_ofO (by rw [e3]; exact e4) q)))))
theorem r_app {p : Pl} {m : M} (e1 : getPl σ p = some m) (e2 : m.isL = some ()) (h : (evE T G e σ).sat (fun y σ1 => ∃ m m', getPl σ1 p = some m ∧ mApp m y = some m' ∧ K.nx (setPl σ1 p m')) K.exc) : (xS T G wf (.app p e) σ).satK K := by
  simp only [xS_fn] at *
  simp only [evS]
  exact ER.sat_to (sat_there e1 e2 (ER.sat_to (ER.sat_imp h fun z σ2 ⟨m, m', e3, e4, q⟩ => ER.sat_to (sat_ofO (by rw [e3]; exact e4) q))))
theorem r_ext {p : Pl} {m : M} (e1 : getPl σ p = some m) (e2 : m.isL = some ()) (h : (evE T G e σ).sat (fun y σ1 => ∃ m m', getPl σ1 p = some m ∧ mExt m y = some m' ∧ K.nx (setPl σ1 p m')) K.exc) : (xS T G wf (.ext p e) σ).satK K := by
  simp only [xS_fn] at *
  simp only [evS]
  exact ER.sat_to (sat_there e1 e2 (ER.sat_to (ER.sat_imp h fun z σ2 ⟨m, m', e3, e4, q⟩ => ER.sat_to (sat_ofO (by rw [e3]; exact e4) q))))
theorem r_ex (h : (evE T G e σ).sat (fun _ σ1 => K.nx σ1) K.exc) : (xS T G wf (.ex e) σ).satK K := by
  simp only [xS_fn] at *
  simp only [evS]
  exact ER.sat_to h
theorem r_if {s t : IS} (h : (evT T G c σ).sat (fun v σ1 => if v = true then (xS T G wf s σ1).satK K else (xS T G wf t σ1).satK K) K.exc) : (xS T G wf (.ite c s t) σ).satK K := by
  simp only [xS_fn] at *
  simp only [evS]
  refine ER.sat_to (ER.sat_imp h fun v σ1 h => ?_)
  cases v with
  | true => exact h
  | false => exact h
theorem r_ret (h : (evE T G e σ).sat (fun x σ1 => K.ret x σ1) K.exc) : (xS T G wf (.ret e) σ).satK K := by
  simp only [xS_fn] at *
  simp only [evS]
  exact ER.sat_to h
theorem r_retN (h : K.ret .non σ) : (xS T G wf .retN σ).satK K := by
  simp only [xS_fn] at *
  simp only [evS]
  exact h
theorem r_brk (h : K.brk σ) : (xS T G wf .brk σ).satK K := by
  simp only [xS_fn] at *
  simp only [evS]
  exact h
theorem r_cont (h : K.cont σ) : (xS T G wf .cont σ).satK K := by
  simp only [xS_fn] at *
  simp only [evS]
  exact h
theorem r_for {t : Tg} {s : IS} (h : (evI T G it σ).sat (fun xs σ1 => (forL t (xS T G wf s) xs σ1).satK K) K.exc) : (xS T G wf (.for t it s) σ).satK K := by
  simp only [xS_fn] at *
  simp only [evS]
  exact ER.sat_to h
theorem r_wh {s : IS} (h : (whL (evT T G c) (xS T G wf s) wf σ).satK K) : (xS T G wf (.wh c s) σ).satK K := by
  simp only [xS_fn] at *
  simp only [evS]
  exact h
/-- a for loop, by an invariant over the number of turns that are done -/
theorem forL_K0 {t : Tg} {g : Env → SR} (I : Nat → Env → Prop) : ∀ (xs : List D) (k : Nat) (σ : Env), I k σ → (∀ i x σ, xs[i]? = some x → I (k + i) σ → ∃ σ1, asgT t x σ = some σ1 ∧ (g σ1).satK { K with nx := I (k + i + 1), cont := I (k + i + 1), brk := K.nx }) → (∀ σ, I (k + xs.length) σ → K.nx σ) → (forL t g xs σ).satK K
  | [], k, σ, h0, _, h2 => h2 σ h0
  | x :: xs, k, σ, h0, h, h2 => by
    obtain ⟨σ1, e1, e2⟩ := h 0 x σ rfl h0
    have ih : ∀ σ, I (k + 1) σ → (forL t g xs σ).satK K := fun σ hI => forL_K0 I xs (k + 1) σ hI (fun i y σ e hI => by
      have := h (i + 1) y σ (by simpa using e) (by rw [show k + (i + 1) = k + 1 + i from by omega]; exact hI)
      rw [show k + 1 + i = k + (i + 1) from by omega]
      exact this) fun σ hI => h2 σ (by rw [show k + (x :: xs).length = k + 1 + xs.length from by simp only [List.length_cons]; omega]; exact hI)
    unfold forL
    simp only [e1]
    rw [Nat.add_zero] at e2
    cases e : g σ1 with
    | nx σ2 => rw [e] at e2; exact ih σ2 e2
    | cont σ2 => rw [e] at e2; exact ih σ2 e2
    | brk σ2 => rw [e] at e2; exact e2
    | ret d σ2 => rw [e] at e2; exact e2
    | exc _ _ => rw [e] at e2; exact e2
    | retM _ _ => rw [e] at e2; exact e2
    | stuck => rw [e] at e2; exact e2
theorem forL_K {t : Tg} {g : Env → SR} {xs : List D} (I : Nat → Env → Prop) (h0 : I 0 σ) (h : ∀ i x σ, xs[i]? = some x → I i σ → ∃ σ1, asgT t x σ = some σ1 ∧ (g σ1).satK { K with nx := I (i + 1), cont := I (i + 1), brk := K.nx }) (h2 : ∀ σ, I xs.length σ → K.nx σ) : (forL t g xs σ).satK K :=
  forL_K0 I xs 0 σ h0 (by simpa using h) (by simpa using h2)
/-- .. over a range -/
theorem forL_rng {i0 : Nat} {g : Env → SR} {n : Nat} (I : Nat → Env → Prop) (h0 : I 0 σ) (h : ∀ i σ, i < n → I i σ → (g (σ.set i0 (some (.d (.int (i : Int)))))).satK { K with nx := I (i + 1), cont := I (i + 1), brk := K.nx }) (h2 : ∀ σ, I n σ → K.nx σ) : (forL (.nm i0) g (rangeD 0 n) σ).satK K := by
  refine forL_K I h0 (fun i x σ e hI => ?_) (by rw [rangeD_len]; exact h2)
  obtain ⟨hi, rfl⟩ := rangeD_get e
  refine ⟨_, rfl, ?_⟩
  rw [Int.zero_add]
  exact h i σ hi hI
/-- a while loop, by a measure -/
theorem whL_K {tc : Env → ER Bool} {g : Env → SR} (I : Nat → Env → Prop) (h : ∀ m σ, I m σ → (tc σ).sat (fun v σ1 => if v = true then ∃ m', m = m' + 1 ∧ (g σ1).satK { K with nx := I m', cont := I m', brk := K.nx } else K.nx σ1) K.exc) : ∀ (m n : Nat) (σ : Env), I m σ → m < n → (whL tc g n σ).satK K
  | m, 0, σ, _, hn => by omega
  | m, n + 1, σ, hI, hn => by
    unfold whL
    refine ER.sat_to (ER.sat_imp (h m σ hI) fun v σ1 hv => ?_)
    cases v with
    | false => exact hv
    | true =>
      obtain ⟨m', rfl, e2⟩ := hv
      show SR.satK (match g σ1 with
        | .nx σ2 => whL tc g n σ2
        | .cont σ2 => whL tc g n σ2
        | .brk σ2 => .nx σ2
        | r => r) K
      cases e : g σ1 with
      | nx σ2 => rw [e] at e2; exact whL_K I h m' n σ2 e2 (by omega)
      | cont σ2 => rw [e] at e2; exact whL_K I h m' n σ2 e2 (by omega)
      | brk σ2 => rw [e] at e2; exact e2
      | ret d σ2 => rw [e] at e2; exact e2
      | exc _ _ => rw [e] at e2; exact e2
      | retM _ _ => rw [e] at e2; exact e2
      | stuck => rw [e] at e2; exact e2
theorem r_aug {u : Int} (e0 : (σ[i]?).bind id = some (.d (.int u))) (h : (evE T G e σ).sat (fun y σ1 => ∃ w, y = .int w ∧ K.nx (σ1.set i (some (.d (.int (u + w)))))) K.exc) : (xS T G wf (.aug i e) σ).satK K := by
  simp only [xS_fn] at *
  simp only [evS, augR, e0]
  exact ER.sat_to (ER.sat_imp h fun y σ1 ⟨w, ew, q⟩ => ER.sat_to (sat_ofO (x := w) (by rw [ew]; rfl) q))
theorem r_asgN (h : K.nx (σ.set i (some (.dk [] [])))) : (xS T G wf (.asgN i false) σ).satK K := by
  simp only [xS_fn] at *
  simp only [evS]
  exact h
theorem r_par {j : Nat} (h : (evE T G a σ).sat (fun x σ1 => (evE T G b σ1).sat (fun y σ2 => K.nx ((σ2.set i (some (.d x))).set j (some (.d y)))) K.exc) K.exc) : (xS T G wf (.par i j a b) σ).satK K := by
  simp only [xS_fn] at *
  simp only [evS]
  exact ER.sat_to (ER.sat_imp h fun x σ1 h => ER.sat_to (ER.sat_imp h fun y σ2 q => q))
theorem r_chn4 {o1 o2 o3 : COp} {d : IE} (h : (evE T G a σ).sat (fun x σ1 => (evE T G b σ1).sat (fun y σ2 => ∃ v, dCmp o1 x y = some v ∧ (if v = true then (evE T G c σ2).sat (fun z σ3 => ∃ u, dCmp o2 y z = some u ∧ (if u = true then (evE T G d σ3).sat (fun w σ4 => ∃ t, dCmp o3 z w = some t ∧ Q (.bl t) σ4) X else Q (.bl false) σ3)) X else Q (.bl false) σ2)) X) X) : (evE T G (.chn4 o1 o2 o3 a b c d) σ).sat Q X := by
  simp only [evE]
  refine ER.sat_bind (ER.sat_imp h fun x σ1 h => ER.sat_bind (ER.sat_imp h fun y σ2 ⟨v, e, q⟩ => ?_))
  rw [e]
  show (if v = true then _ else _ : ER D).sat Q X
  split <;> rename_i hv
  · rw [if_pos hv] at q
    refine ER.sat_bind (ER.sat_imp q fun z σ3 ⟨u, e2, q2⟩ => ?_)
    rw [e2]
    show (if u = true then _ else _ : ER D).sat Q X
    split <;> rename_i hu
    · rw [if_pos hu] at q2
      exact ER.sat_bind (ER.sat_imp q2 fun w σ4 ⟨t, e3, q3⟩ => sat_ofO (by rw [e3]; rfl) q3)
    · rw [if_neg hu] at q2; exact q2
  · rw [if_neg hv] at q; exact q
theorem r_cv1 {t : Bool} (h : (evE T G a σ).sat (fun x σ1 => ∃ l, dRng1 x = some l ∧ Q (if t = true then .tup l else .lst l) σ1) X) : (evE T G (.cv1 t a) σ).sat Q X := by
  simp only [evE]
  exact ER.sat_bind (ER.sat_imp h fun x σ1 ⟨l, e, q⟩ => sat_ofO (by rw [e]; rfl) q)
theorem r_cv2 {t : Bool} (h : (evE T G a σ).sat (fun x σ1 => (evE T G b σ1).sat (fun y σ2 => ∃ l, dRng2 x y = some l ∧ Q (if t = true then .tup l else .lst l) σ2) X) X) : (evE T G (.cv2 t a b) σ).sat Q X := by
  simp only [evE]
  exact ER.sat_bind (ER.sat_imp h fun x σ1 h => ER.sat_bind (ER.sat_imp h fun y σ2 ⟨l, e, q⟩ => sat_ofO (by rw [e]; rfl) q))
/-- a def, by its body -/
theorem call_sat {L : List FI} {n f : Nat} {fi : FI} {ms : List M} {Q : D → Env → Prop} {X : EX → Prop} (h : L[f]? = some fi) (hl : ms.length = fi.np)
    (hb : (xS (xF L G wf n) G wf fi.body (ms.map some ++ List.replicate (fi.ns - fi.np) none)).satK { nx := fun σ => Q .non (outs fi.pin fi.np σ), ret := fun d σ => Q d (outs fi.pin fi.np σ), brk := fun _ => False, cont := fun _ => False, exc := fun e _ => X e }) : (xF L G wf (n + 1) f ms).sat Q X := by
  simp only [xS_fn, xF_eq] at *
  rw [call_eq h hl]
  cases e : evS (callF L G wf n) G wf fi.body (ms.map some ++ List.replicate (fi.ns - fi.np) none) with
  | nx σ => rw [e] at hb; exact hb
  | ret d σ => rw [e] at hb; exact hb
  | brk σ => rw [e] at hb; exact hb
  | cont σ => rw [e] at hb; exact hb
  | exc x σ => rw [e] at hb; exact hb
  | retM _ _ => rw [e] at hb; exact hb
  | stuck => rw [e] at hb; exact hb
/-- .. its parts by name -/
theorem call_satB {L : List FI} {n f np ns : Nat} {pin : List Nat} {body : IS} {ms : List M} {Q : D → Env → Prop} {X : EX → Prop} (h : L[f]? = some ⟨np, ns, pin, body⟩) (hl : ms.length = np) (σ0 : Env) (h0 : ms.map some ++ List.replicate (ns - np) none = σ0)
    (hb : (xS (xF L G wf n) G wf body σ0).satK { nx := fun σ => Q .non (outs pin np σ), ret := fun d σ => Q d (outs pin np σ), brk := fun _ => False, cont := fun _ => False, exc := fun e _ => X e }) : (xF L G wf (n + 1) f ms).sat Q X :=
  call_sat h hl (by rw [h0]; exact hb)
/-- a comprehension's loop, by an invariant over what is made -/
theorem compL_K0 {g : D → Env → ER (Option D)} {Q : List D → Env → Prop} (I : Nat → List D → Env → Prop) : ∀ (xs : List D) (k : Nat) (ys : List D) (σ : Env), I k ys σ → (∀ i x ys σ, xs[i]? = some x → I (k + i) ys σ → (g x σ).sat (fun o σ' => match o with | some y => I (k + i + 1) (ys ++ [y]) σ' | none => I (k + i + 1) ys σ') fun _ _ => False) →
    (∀ zs σ, I (k + xs.length) (ys ++ zs) σ → Q zs σ) → (compL g xs σ).sat Q X
  | [], k, ys, σ, h0, _, h2 => h2 [] σ (by simpa using h0)
  | x :: xs, k, ys, σ, h0, h, h2 => by
    have e1 := h 0 x ys σ rfl h0
    have step : ∀ (ys : List D) (σ : Env), I (k + 1) ys σ → ∀ Q' : List D → Env → Prop, (∀ zs σ, I (k + (x :: xs).length) (ys ++ zs) σ → Q' zs σ) → (compL g xs σ).sat Q' X := fun ys σ hI Q' h2 => compL_K0 I xs (k + 1) ys σ hI (fun i y ys σ e hI => by
      have := h (i + 1) y ys σ (by simpa using e) (by rw [show k + (i + 1) = k + 1 + i from by omega]; exact hI)
      rw [show k + 1 + i = k + (i + 1) from by omega]
      exact this) fun zs σ hI => h2 zs σ (by rw [show k + (x :: xs).length = k + 1 + xs.length from by simp only [List.length_cons]; omega]; exact hI)
    cases e : g x σ with
    | ok o σ1 =>
      rw [e] at e1
      cases o with
      | none =>
        rw [compL_none e]
        exact step ys σ1 e1 Q h2
      | some y =>
        rw [compL_some e]
        exact ER.sat_bind (step (ys ++ [y]) σ1 e1 _ fun zs σ hI => h2 (y :: zs) σ (by simpa using hI))
    | exc _ _ => rw [e] at e1; exact e1.elim
    | stuck => rw [e] at e1; exact e1.elim
theorem compL_K {g : D → Env → ER (Option D)} {xs : List D} {Q : List D → Env → Prop} (I : Nat → List D → Env → Prop) (h0 : I 0 [] σ) (h : ∀ i x ys σ, xs[i]? = some x → I i ys σ → (g x σ).sat (fun o σ' => match o with | some y => I (i + 1) (ys ++ [y]) σ' | none => I (i + 1) ys σ') fun _ _ => False)
    (h2 : ∀ ys σ, I xs.length ys σ → Q ys σ) : (compL g xs σ).sat Q X := compL_K0 I xs 0 [] σ h0 (by simpa using h) (by simpa using h2)
theorem compL_rng {g : D → Env → ER (Option D)} {n : Nat} {Q : List D → Env → Prop} (I : Nat → List D → Env → Prop) (h0 : I 0 [] σ) (h : ∀ i ys σ, i < n → I i ys σ → (g (.int (i : Int)) σ).sat (fun o σ' => match o with | some y => I (i + 1) (ys ++ [y]) σ' | none => I (i + 1) ys σ') fun _ _ => False)
    (h2 : ∀ ys σ, I n ys σ → Q ys σ) : (compL g (rangeD 0 n) σ).sat Q X := compL_K I h0 (fun i x ys σ e hI => by
  obtain ⟨hi, rfl⟩ := rangeD_get e
  rw [Int.zero_add]
  exact h i ys σ hi hI) (by rw [rangeD_len]; exact h2)
theorem r_dec {p : Prop} [Decidable p] {A B : Prop} (h1 : p → A) (h2 : ¬ p → B) : if decide p = true then A else B := by
  by_cases h : p
  · rw [if_pos (decide_eq_true h)]; exact h1 h
  · rw [if_neg (by simpa using h)]; exact h2 h
theorem r_bool {v : Bool} {A B : Prop} (h1 : v = true → A) (h2 : v = false → B) : if v = true then A else B := by
  cases v
  · exact h2 rfl
  · exact h1 rfl
theorem r_true {A B : Prop} (h : A) : if true = true then A else B := h
theorem r_false {A B : Prop} (h : B) : if false = true then A else B := h
/-! ### operations on concrete data -/
theorem ixD_nat {n i : Nat} (h : i < n) : ixD n (i : Int) = some i := by
  unfold ixD
  rw [if_pos (by omega), if_pos (by omega)]
  rfl
theorem dIdx_tup {xs : List D} {i : Nat} {d : D} (h : xs[i]? = some d) : dIdx (.tup xs) (.int (i : Int)) = some d := by
  have hi := (List.getElem?_eq_some_iff.mp h).1
  simp only [dIdx]
  rw [ixD_nat hi]
  exact h
theorem dIdx_lst {xs : List D} {i : Nat} {d : D} (h : xs[i]? = some d) : dIdx (.lst xs) (.int (i : Int)) = some d := by
  have hi := (List.getElem?_eq_some_iff.mp h).1
  simp only [dIdx]
  rw [ixD_nat hi]
  exact h
theorem dIdx_scr {ns : List Int} {i : Nat} (h : i < ns.length) : dIdx (.scr ns) (.int (i : Int)) = some (.int ns[i]) := by
  simp only [dIdx]
  rw [ixD_nat h]
  show ns[i]?.map D.int = _
  rw [List.getElem?_eq_getElem h]
  rfl
theorem mIdx_nat {xs : List M} {i : Nat} {d : D} (h : xs[i]? = some (.d d)) : mIdx (.lst xs) (.int (i : Int)) = some d := by
  have hi := (List.getElem?_eq_some_iff.mp h).1
  simp only [mIdx]
  rw [ixD_nat hi]
  show (xs[i]?).bind M.leaf = _
  rw [h]
  rfl
theorem mSet_nat {xs : List M} {i : Nat} {y : D} (hi : i < xs.length) : mSet (.lst xs) (.int (i : Int)) y = some (.lst (xs.set i (.d y))) := by
  simp only [mSet]
  rw [ixD_nat hi]
  rfl
theorem mApp_ok {xs : List M} {y : D} (h : xs.length < 16777216) : mApp (.lst xs) y = some (.lst (xs ++ [.d y])) := by
  simp only [mApp]
  rw [if_pos h]
/-- a comprehension that changes nothing -/
theorem compL_map {g : D → Env → ER (Option D)} {xs : List D} {Q : List D → Env → Prop} (v : D → D) (h : ∀ x ∈ xs, (g x σ).sat (fun o σ' => o = some (v x) ∧ σ' = σ) fun _ _ => False) (h2 : Q (xs.map v) σ) : (compL g xs σ).sat Q X := by
  refine compL_K (fun i ys σ' => ys = (xs.take i).map v ∧ σ' = σ) ⟨rfl, rfl⟩ ?_ ?_
  · rintro i x ys _ e ⟨rfl, rfl⟩
    refine ER.sat_imp (h x (List.mem_of_getElem? e)) ?_
    rintro o _ ⟨rfl, rfl⟩
    refine ⟨?_, rfl⟩
    have hi := (List.getElem?_eq_some_iff.mp e).1
    rw [List.take_succ, e]
    simp
  · rintro ys _ ⟨rfl, rfl⟩
    rw [List.take_length]
    exact h2
theorem small_lit {i j : Int} (h : small64 j = true) : (small64 i || small64 j) = true := by rw [h, Bool.or_true]
theorem small_lit1 {i j : Int} (h : small64 i = true) : (small64 i || small64 j) = true := by rw [h, Bool.true_or]
theorem small_of {i : Int} (h0 : -18446744073709551616 < i) (h : i < 18446744073709551616) : small64 i = true := by
  unfold small64
  simp only [Bool.and_eq_true, decide_eq_true_eq]
  exact ⟨h0, h⟩
theorem small_mod {y k : Int} (h : 0 < k) (h2 : k < 18446744073709551616) : small64 (y % k) = true := by
  have h3 := Int.emod_nonneg y (show k ≠ 0 by omega)
  have h4 := Int.emod_lt_of_pos y h
  exact small_of (by omega) (by omega)
theorem sat_ret {r : CR} {d : D} {os : Env} (h : r.sat (fun x o => x = d ∧ o = os) fun _ => False) : r = .ret d os := by
  cases r with
  | ret a σ => obtain ⟨rfl, rfl⟩ := h; rfl
  | retM _ _ => exact h.elim
  | exc e => exact h.elim
  | stuck => exact h.elim
/-- the same of an error -/
theorem sat_exc {r : CR} {x : EX} (h : r.sat (fun _ _ => False) fun e => e = x) : r = .exc x := by
  cases r with
  | ret a σ => exact h.elim
  | retM _ _ => exact h.elim
  | exc e => obtain rfl := h; rfl
  | stuck => exact h.elim
/-! ### errors -/
theorem r_rse {c : Nat} (h : K.exc ⟨c, none⟩ σ) : (xS T G wf (.rse c) σ).satK K := by
  simp only [xS_fn] at *
  simp only [evS]
  exact h
theorem r_rsi {c f : Nat} (h : (evE T G e σ).sat (fun x σ1 => ∃ i, x = .int i ∧ K.exc ⟨c, some (f, i)⟩ σ1) K.exc) : (xS T G wf (.rsi c f e) σ).satK K := by
  simp only [xS_fn] at *
  simp only [evS]
  exact ER.sat_to (ER.sat_imp h fun x σ1 ⟨i, ex, q⟩ => ER.sat_to (sat_ofO (x := i) (by rw [ex]; rfl) q))
theorem r_isc {l : List Nat} (h : (evE T G a σ).sat (fun x σ1 => ∃ e, x = .err e ∧ Q (.bl (l.contains e.c)) σ1) X) : (evE T G (.isc a l) σ).sat Q X := by
  simp only [evE]
  exact ER.sat_bind (ER.sat_imp h fun x σ1 ⟨e, ex, q⟩ => sat_ofO (by rw [ex]; rfl) q)
theorem r_ef {f : Nat} (h : (evE T G a σ).sat (fun x σ1 => ∃ e z, x = .err e ∧ efOf e f = some z ∧ Q z σ1) X) : (evE T G (.ef a f) σ).sat Q X := by
  simp only [evE]
  exact ER.sat_bind (ER.sat_imp h fun x σ1 ⟨e, z, ex, ez, q⟩ => sat_ofO (by rw [ex]; exact ez) q)
theorem r_try {b h : IS} {l : List Nat} {s : Option Nat} (hb : (xS T G wf b σ).satK { K with exc := fun e σ1 => if l.contains e.c = true then (xS T G wf h (hotEnv σ1 s e)).satK { nx := fun _ => False, ret := fun d _ => d.flatR = true ∧ K.ret d (backE σ1 s), brk := fun _ => False, cont := fun _ => False, exc := fun _ _ => False } else K.exc e σ1 }) :
    (xS T G wf (.tryE b l s h) σ).satK K := by
  simp only [xS_fn] at *
  simp only [evS]
  cases e : evS T G wf b σ with
  | exc x σ1 =>
    rw [e] at hb
    have hb : if l.contains x.c = true then (evS T G wf h (hotEnv σ1 s x)).satK { nx := fun _ => False, ret := fun d _ => d.flatR = true ∧ K.ret d (backE σ1 s), brk := fun _ => False, cont := fun _ => False, exc := fun _ _ => False } else K.exc x σ1 := hb
    simp only [tryR]
    by_cases hl : l.contains x.c = true
    · rw [if_pos hl] at hb ⊢
      cases e2 : evS T G wf h (hotEnv σ1 s x) with
      | ret d σ2 =>
        rw [e2] at hb
        dsimp only
        rw [if_pos hb.1]
        exact hb.2
      | _ => rw [e2] at hb; exact hb.elim
    · rw [if_neg hl] at hb ⊢
      exact hb
  | nx _ => rw [e] at hb; exact hb
  | ret _ _ => rw [e] at hb; exact hb
  | retM _ _ => rw [e] at hb; exact hb
  | brk _ => rw [e] at hb; exact hb
  | cont _ => rw [e] at hb; exact hb
  | stuck => rw [e] at hb; exact hb
/-! ### a list that nothing else knows -/
theorem r_retM (h : (evE T G e σ).sat (fun x σ1 => ∃ ds, x = .lst ds ∧ K.retM ds σ1) K.exc) : (xS T G wf (.retM e) σ).satK K := by
  simp only [xS_fn] at *
  simp only [evS]
  exact ER.sat_to (ER.sat_imp h fun x σ1 ⟨i, ex, q⟩ => ER.sat_to (sat_ofO (x := i) (by rw [ex]; rfl) q))
theorem r_asgC (h : (evA T G l σ).sat (fun avs σ1 => ∃ ms ds os, nodupB (avSlots avs) = true ∧ AVs σ1 avs ms ∧ T f ms = .retM ds os ∧ K.nx ((putOuts σ1 avs os).set i (some (.lst (ds.map M.d))))) K.exc) : (xS T G wf (.asgC i f l) σ).satK K := by
  simp only [xS_fn] at *
  simp only [evS]
  refine ER.sat_to (ER.sat_imp h fun avs σ1 ⟨ms, ds, os, hn, hm, ht, q⟩ => ?_)
  unfold callN
  rw [if_pos hn, hm.eq]
  dsimp only
  rw [ht]
  exact q
theorem call_satM {L : List FI} {n f np ns : Nat} {pin : List Nat} {body : IS} {ms : List M} {ds : List D} {os : Env} (h : L[f]? = some ⟨np, ns, pin, body⟩) (hl : ms.length = np) (σ0 : Env) (h0 : ms.map some ++ List.replicate (ns - np) none = σ0)
    (hb : (xS (xF L G wf n) G wf body σ0).satK { nx := fun _ => False, ret := fun _ _ => False, brk := fun _ => False, cont := fun _ => False, exc := fun _ _ => False, retM := fun d σ => d = ds ∧ outs pin np σ = os }) : xF L G wf (n + 1) f ms = .retM ds os := by
  simp only [xS_fn, xF_eq] at *
  rw [call_eq h hl, h0]
  cases e : evS (callF L G wf n) G wf body σ0 with
  | retM d σ => rw [e] at hb; obtain ⟨rfl, rfl⟩ := hb; rfl
  | _ => rw [e] at hb; exact hb.elim
end
end JH

/-! JD3: more rules for plain laws. -/
namespace JH
section
variable {α β : Type} {T : Tab} {G : Nat → Option D} {wf : Nat} {σ : Env} {a b c e l it k : IE} {Q : D → Env → Prop} {X : EX → Env → Prop} {i f : Nat} {K : KQ}
/-- a statement, what is true behind it, the rest -/
theorem r_cut {s t : IS} (I : Env → Prop) (h1 : (xS T G wf s σ).satK { K with nx := I }) (h2 : ∀ σ, I σ → (xS T G wf t σ).satK K) : (xS T G wf (.seq s t) σ).satK K :=
  r_seq (satK_imp h1 h2 (fun _ _ h => h) (fun _ h => h) (fun _ h => h) (fun _ _ h => h) (fun _ _ h => h))
theorem r_cutE {e : IE} (I : D → Env → Prop) (h1 : (evE T G e σ).sat I X) (h2 : ∀ x σ, I x σ → Q x σ) : (evE T G e σ).sat Q X := ER.sat_imp h1 h2
/-- a state of the drawing: script, place, what is left, how often, the mixed number -/
def st (ns : List Int) (p : Nat) (a c x : Int) : M := .lst [.d (.lst (ns.map .int)), .d (.int p), .d (.int a), .d (.int c), .d (.int x)]
def St (m : M) : Prop := ∃ ns p a c x, m = st ns p a c x
theorem St.isL {m : M} (h : St m) : m.isL = some () := by
  obtain ⟨ns, p, a, c, x, rfl⟩ := h
  rfl
/-- data of the plain kinds -/
inductive PD : D → Prop
  | non : PD .non
  | bl (b : Bool) : PD (.bl b)
  | int (i : Int) : PD (.int i)
  | str (s : List Nat) : PD (.str s)
  | tup {xs : List D} : (∀ x ∈ xs, PD x) → PD (.tup xs)
  | lst {xs : List D} : (∀ x ∈ xs, PD x) → PD (.lst xs)
theorem PD.tyOk {d : D} (h : PD d) : d.tyOk = true := by cases h <;> rfl
theorem PD.ofInts (ns : List Int) : ∀ x ∈ ns.map D.int, PD x := fun x hx => by
  obtain ⟨i, _, rfl⟩ := List.mem_map.mp hx
  exact .int i
theorem dB1_len {xs : List D} : dB1 .len (.tup xs) = some (.int xs.length) := rfl
theorem mem_app {P : D → Prop} {xs ys : List D} (h1 : ∀ x ∈ xs, P x) (h2 : ∀ x ∈ ys, P x) : ∀ x ∈ xs ++ ys, P x := fun x hx => (List.mem_append.mp hx).elim (h1 x) (h2 x)
theorem mem_one {P : D → Prop} {x : D} (h : P x) : ∀ y ∈ [x], P y := fun y hy => by
  cases List.mem_singleton.mp hy
  exact h
theorem mem_nil {P : D → Prop} : ∀ y ∈ ([] : List D), P y := fun y hy => by cases hy
theorem mem_two {P : D → Prop} {x y : D} (h : P x) (h2 : P y) : ∀ z ∈ [x, y], P z := fun z hz => by
  rcases List.mem_cons.mp hz with rfl | hz
  · exact h
  · exact mem_one h2 z hz
theorem mem_three {P : D → Prop} {x y w : D} (h : P x) (h2 : P y) (h3 : P w) : ∀ z ∈ [x, y, w], P z := fun z hz => by
  rcases List.mem_cons.mp hz with rfl | hz
  · exact h
  · exact mem_two h2 h3 z hz
theorem leaves_map : ∀ ds : List D, M.leaves (ds.map M.d) = some ds
  | [] => rfl
  | d :: ds => by
    show (M.leaves (ds.map M.d)).map (d :: ·) = _
    rw [leaves_map ds]
    rfl
theorem peek_map {ds : List D} : peek (.lst (ds.map M.d)) = some (.lst ds) := by
  show (M.leaves (ds.map M.d)).map D.lst = _
  rw [leaves_map]
  rfl
theorem peekB_map {ds : List D} : peekB (.lst (ds.map M.d)) = some (.lst ds) := by
  show (M.leaves (ds.map M.d)).map D.lst = _
  rw [leaves_map]
  rfl
theorem toDs_map : ∀ ds : List D, M.toDs (ds.map M.d) = ds
  | [] => by simp [M.toDs]
  | d :: ds => by
    simp only [List.map_cons, M.toDs, M.toD]
    rw [toDs_map ds]
theorem toD_map {ds : List D} : (M.lst (ds.map M.d)).toD = .lst ds := by
  simp only [M.toD]
  rw [toDs_map]
theorem dIdx_inL {xs : List D} {v : Nat} (h : v < xs.length) : dIdx (.lst xs) (.int (v : Int)) = some xs[v] := dIdx_lst (List.getElem?_eq_getElem h)
theorem dIdx_inT {xs : List D} {v : Nat} (h : v < xs.length) : dIdx (.tup xs) (.int (v : Int)) = some xs[v] := dIdx_tup (List.getElem?_eq_getElem h)
theorem mIdx_in {ds : List D} {v : Nat} (h : v < ds.length) : mIdx (.lst (ds.map M.d)) (.int (v : Int)) = some ds[v] := mIdx_nat (by rw [List.getElem?_map, List.getElem?_eq_getElem h]; rfl)
theorem mSet_in {ds : List D} {v : Nat} {y : D} (h : v < ds.length) : mSet (.lst (ds.map M.d)) (.int (v : Int)) y = some (.lst ((ds.set v y).map M.d)) := by
  rw [mSet_nat (by rw [List.length_map]; exact h), List.map_set]
theorem mApp_in {ds : List D} {y : D} (h : ds.length < 16777216) : mApp (.lst (ds.map M.d)) y = some (.lst ((ds ++ [y]).map M.d)) := by
  rw [mApp_ok (by rw [List.length_map]; exact h), List.map_append]
  rfl
theorem cut_mem {xs : List D} {lo hi : Option Int} {x : D} (h : x ∈ cutD xs lo hi) : x ∈ xs := List.mem_of_mem_drop (List.mem_of_mem_take h)
theorem cut_len {xs : List D} {lo hi : Option Int} : (cutD xs lo hi).length ≤ xs.length := by
  unfold cutD
  rw [List.length_take, List.length_drop]
  omega
theorem dRng2_ok {i j : Int} (h1 : -16777216 ≤ i) (h2 : i ≤ 16777216) (h3 : -16777216 ≤ j) (h4 : j ≤ 16777216) (h5 : -16777216 ≤ j - i) (h6 : j - i ≤ 16777216) : dRng2 (.int i) (.int j) = some (rangeD i (j - i).toNat) := by
  show (if smallR i && smallR j && smallR (j - i) then some (rangeD i (j - i).toNat) else none) = _
  unfold smallR
  rw [if_pos]
  simp only [Bool.and_eq_true, decide_eq_true_eq]
  omega
theorem dRng1_ok {j : Int} (h3 : -16777216 ≤ j) (h4 : j ≤ 16777216) : dRng1 (.int j) = some (rangeD 0 j.toNat) := by
  show (if smallR j then some (rangeD 0 j.toNat) else none) = _
  unfold smallR
  rw [if_pos]
  simp only [Bool.and_eq_true, decide_eq_true_eq]
  omega
theorem set_mem {P : D → Prop} {xs : List D} {i : Nat} {y : D} (h : ∀ x ∈ xs, P x) (hy : P y) : ∀ x ∈ xs.set i y, P x := fun x hx => by
  rcases List.mem_or_eq_of_mem_set hx with z | z
  · exact h x z
  · rw [z]; exact hy
/-- a power's bits -/
theorem log2_of {i : Int} {k : Nat} (h0 : 0 ≤ i) (h : i < 2 ^ k) (hk : 0 < k) : i.natAbs.log2 < k := by
  obtain ⟨m, rfl⟩ := Int.eq_ofNat_of_zero_le h0
  have : m < 2 ^ k := by exact_mod_cast h
  by_cases hm : m = 0
  · subst hm
    simpa using hk
  · exact (Nat.log2_lt hm).mpr this
theorem dIdx_t0 {x : D} {r : List D} : dIdx (.tup (x :: r)) (.int 0) = some x := dIdx_tup (i := 0) rfl
theorem dIdx_t1 {x y : D} {r : List D} : dIdx (.tup (x :: y :: r)) (.int 1) = some y := dIdx_tup (i := 1) rfl
theorem dIdx_t2 {x y z : D} {r : List D} : dIdx (.tup (x :: y :: z :: r)) (.int 2) = some z := dIdx_tup (i := 2) rfl
theorem r_ndec {p : Prop} [Decidable p] {A B : Prop} (h1 : ¬ p → A) (h2 : p → B) : if (!decide p) = true then A else B := by
  by_cases h : p
  · rw [decide_eq_true h]; exact h2 h
  · rw [decide_eq_false h]; exact h1 h
theorem r_nbool {v : Bool} {A B : Prop} (h1 : v = false → A) (h2 : v = true → B) : if (!v) = true then A else B := by
  cases v
  · exact h1 rfl
  · exact h2 rfl
theorem r_gl {k : Nat} {x : D} (e : G k = some x) (h : Q x σ) : (evE T G (.gl k) σ).sat Q X := by simp only [evE, e]; exact h
theorem r_int {x : Int} {n : Nat} (h : x = n) : D.int x = D.int (n : Int) := by rw [h]
end
end JH

/-! JD4: rules for what only looks, truth, loops over owned lists. -/
namespace JH
section
variable {α β : Type} {T : Tab} {G : Nat → Option D} {wf : Nat} {σ : Env} {a b c e l it k : IE} {Q : D → Env → Prop} {X : EX → Env → Prop} {i f : Nat} {K : KQ}
theorem r_notV (h : (evE T G a σ).sat (fun x σ1 => ∃ v, truD x = some v ∧ Q (.bl (!v)) σ1) X) : (evE T G (.notV a) σ).sat Q X := by
  simp only [evE]
  refine ER.sat_bind (ER.sat_imp h fun x σ1 ⟨v, e1, q⟩ => ?_)
  exact sat_ofO (by rw [e1]; rfl) q
theorem r_tru {Q : Bool → Env → Prop} (h : (evE T G a σ).sat (fun x σ1 => ∃ v, truD x = some v ∧ Q v σ1) X) : (evT T G (.tru a) σ).sat Q X := by
  simp only [evT, evE]
  rw [ER.bind_assoc]
  refine ER.sat_bind (ER.sat_imp h fun x σ1 ⟨v, e1, q⟩ => ?_)
  rw [e1]
  exact q
theorem r_tupR (h : (evE T G a σ).sat (fun x σ1 => (evE T G b σ1).sat (fun y σ2 => ∃ xs, dRng2 x y = some xs ∧ Q (.tup xs) σ2) X) X) : (evE T G (.tupR a b) σ).sat Q X := by
  simp only [evE]
  refine ER.sat_bind (ER.sat_imp h fun x σ1 h => ?_)
  refine ER.sat_bind (ER.sat_imp h fun y σ2 ⟨v, e1, q⟩ => ?_)
  exact sat_ofO (by rw [e1]; rfl) q
theorem r_bor {m : M} (e1 : (σ[i]?).bind id = some m) (h : (evE T G a (σ.set i (some (.d m.toD)))).sat (fun x _ => x.flat = true ∧ Q x σ) fun _ _ => False) : (evE T G (.bor i a) σ).sat Q X := by
  simp only [evE, e1]
  obtain ⟨x, σ1, e2, h1, h2⟩ := sat_ok h
  rw [e2]
  unfold borR
  dsimp only
  rw [if_pos h1]
  exact h2
/-- a for over an owned list that stays as it is -/
theorem forP_K0 {t : Tg} {p : Nat} {g : Env → SR} {ds : List D} (I : Nat → Env → Prop) (hp : ∀ i σ, I i σ → (σ[p]?).bind id = some (.lst (ds.map M.d))) (h : ∀ i x σ, ds[i]? = some x → I i σ → ∃ σ1, asgT t x σ = some σ1 ∧ (g σ1).satK { K with nx := I (i + 1), cont := I (i + 1), brk := K.nx })
    (h2 : ∀ σ, I ds.length σ → K.nx σ) : ∀ (n i : Nat) (σ : Env), i + n = ds.length → I i σ → (forP t p g ds.length n σ).satK K
  | 0, i, σ, e, hi => by
    simp only [forP, hp i σ hi, List.length_map, if_true]
    have : i = ds.length := by omega
    subst this
    exact h2 σ hi
  | n + 1, i, σ, e, hi => by
    have hlt : i < ds.length := by omega
    have hj : ds.length - (n + 1) = i := by omega
    have hx : ds[i]? = some ds[i] := List.getElem?_eq_getElem hlt
    simp only [forP, hp i σ hi, List.length_map, if_true, hj]
    rw [List.getElem?_map, hx]
    simp only [Option.map_some, Option.bind_some, M.leaf]
    obtain ⟨σ1, e1, q⟩ := h i _ σ hx hi
    rw [e1]
    dsimp only
    cases er : g σ1 with
    | nx σ2 => rw [er] at q; exact forP_K0 I hp h h2 n (i + 1) σ2 (by omega) q
    | cont σ2 => rw [er] at q; exact forP_K0 I hp h h2 n (i + 1) σ2 (by omega) q
    | brk σ2 => rw [er] at q; exact q
    | ret d σ2 => rw [er] at q; exact q
    | retM d σ2 => rw [er] at q; exact q
    | exc d σ2 => rw [er] at q; exact q
    | stuck => rw [er] at q; exact q
theorem r_forO {t : Tg} {p : Nat} {s : IS} {ds : List D} (e1 : (σ[p]?).bind id = some (.lst (ds.map M.d))) (h : (forP t p (xS T G wf s) ds.length ds.length σ).satK K) : (xS T G wf (.forO t p s) σ).satK K := by
  rw [xS_eq]
  simp only [evS]
  have : lenAt p σ = some ds.length := by
    unfold lenAt
    rw [e1]
    simp
  rw [this]
  rw [xS_fn] at h
  exact h
theorem forP_K {t : Tg} {p : Nat} {g : Env → SR} {ds : List D} (I : Nat → Env → Prop) (h0 : I 0 σ) (hp : ∀ i σ, I i σ → (σ[p]?).bind id = some (.lst (ds.map M.d))) (h : ∀ i x σ, ds[i]? = some x → I i σ → ∃ σ1, asgT t x σ = some σ1 ∧ (g σ1).satK { K with nx := I (i + 1), cont := I (i + 1), brk := K.nx })
    (h2 : ∀ σ, I ds.length σ → K.nx σ) : (forP t p g ds.length ds.length σ).satK K := forP_K0 I hp h h2 _ 0 σ (by omega) h0
theorem r_retO {ds : List D} (e1 : (σ[i]?).bind id = some (.lst (ds.map M.d))) (h : K.retM ds (σ.set i none)) : (xS T G wf (.retO i) σ).satK K := by
  rw [xS_eq]
  simp only [evS, e1, Option.bind_some, peek_map, asL, ofO_some, ER.to_ok]
  exact h
theorem r_retC (h : (evA T G l σ).sat (fun avs σ1 => ∃ ms ds os, nodupB (avSlots avs) = true ∧ AVs σ1 avs ms ∧ T f ms = .retM ds os ∧ K.retM ds (putOuts σ1 avs os)) K.exc) : (xS T G wf (.retC f l) σ).satK K := by
  rw [xS_eq]
  simp only [evS]
  refine ER.sat_to (ER.sat_imp h fun avs σ1 ⟨ms, ds, os, hn, hm, ht, q⟩ => ?_)
  unfold callN
  rw [if_pos hn, hm.eq]
  dsimp only
  rw [ht]
  exact q
/-- .. where the def may raise -/
theorem r_retCX (h : (evA T G l σ).sat (fun avs σ1 => ∃ ms, nodupB (avSlots avs) = true ∧ AVs σ1 avs ms ∧ (match T f ms with
    | .retM ds os => K.retM ds (putOuts σ1 avs os)
    | .exc x => K.exc x (dropOuts σ1 avs)
    | _ => False)) K.exc) : (xS T G wf (.retC f l) σ).satK K := by
  rw [xS_eq]
  simp only [evS]
  refine ER.sat_to (ER.sat_imp h fun avs σ1 ⟨ms, hn, hm, ht⟩ => ?_)
  unfold callN
  rw [if_pos hn, hm.eq]
  dsimp only
  cases e : T f ms <;> rw [e] at ht <;> first | exact ht | exact ht.elim
theorem r_asgCX (h : (evA T G l σ).sat (fun avs σ1 => ∃ ms, nodupB (avSlots avs) = true ∧ AVs σ1 avs ms ∧ (match T f ms with
    | .retM ds os => K.nx ((putOuts σ1 avs os).set i (some (.lst (ds.map M.d))))
    | .exc x => K.exc x (dropOuts σ1 avs)
    | _ => False)) K.exc) : (xS T G wf (.asgC i f l) σ).satK K := by
  rw [xS_eq]
  simp only [evS]
  refine ER.sat_to (ER.sat_imp h fun avs σ1 ⟨ms, hn, hm, ht⟩ => ?_)
  unfold callN
  rw [if_pos hn, hm.eq]
  dsimp only
  cases e : T f ms <;> rw [e] at ht <;> first | exact ht | exact ht.elim
/-- a comprehension that keeps some of the items -/
theorem compL_filter {g : D → Env → ER (Option D)} {xs : List D} {Q : List D → Env → Prop} (p : D → Bool) (h : ∀ x ∈ xs, (g x σ).sat (fun o σ' => o = (if p x = true then some x else none) ∧ σ' = σ) fun _ _ => False) (h2 : Q (xs.filter p) σ) : (compL g xs σ).sat Q X := by
  refine compL_K (fun i ys σ' => ys = (xs.take i).filter p ∧ σ' = σ) ⟨by simp, rfl⟩ ?_ ?_
  · rintro i x ys _ e ⟨h1, rfl⟩
    refine ER.sat_imp (h x (List.mem_of_getElem? e)) ?_
    rintro o σ' ⟨e1, e2⟩
    have et : xs.take (i + 1) = xs.take i ++ [x] := by rw [List.take_succ, e]; rfl
    cases hp : p x with
    | true =>
      rw [if_pos hp] at e1
      subst e1
      exact ⟨by rw [et, List.filter_append, h1, List.filter_cons_of_pos hp, List.filter_nil], e2⟩
    | false =>
      rw [if_neg (by rw [hp]; exact Bool.false_ne_true)] at e1
      subst e1
      exact ⟨by rw [et, List.filter_append, h1, List.filter_cons_of_neg (by rw [hp]; exact Bool.false_ne_true), List.filter_nil, List.append_nil], e2⟩
  · rintro ys _ ⟨h1, rfl⟩
    rw [List.take_length] at h1
    subst h1
    exact h2
/-- in, not in: flat data -/
def dAny (x : D) (zs : List D) : Bool := zs.any fun y => D.eqv y x
theorem dNotin {x : D} {zs : List D} (h1 : x.flat = true) (h2 : zs.all D.flat = true) : dCmp .notin x (.tup zs) = some (!dAny x zs) := by
  simp only [dCmp, D.items, Option.bind_some, dIn, h1, h2, Bool.and_self, if_true, Option.map_some]
  rfl
theorem dIsin {x : D} {zs : List D} (h1 : x.flat = true) (h2 : zs.all D.flat = true) : dCmp .isin x (.tup zs) = some (dAny x zs) := by
  simp only [dCmp, D.items, Option.bind_some, dIn, h1, h2, Bool.and_self, if_true]
  rfl
theorem dNotinL {x : D} {zs : List D} (h1 : x.flat = true) (h2 : zs.all D.flat = true) : dCmp .notin x (.lst zs) = some (!dAny x zs) := by
  simp only [dCmp, D.items, Option.bind_some, dIn, h1, h2, Bool.and_self, if_true, Option.map_some]
  rfl
theorem dIsinL {x : D} {zs : List D} (h1 : x.flat = true) (h2 : zs.all D.flat = true) : dCmp .isin x (.lst zs) = some (dAny x zs) := by
  simp only [dCmp, D.items, Option.bind_some, dIn, h1, h2, Bool.and_self, if_true]
  rfl
theorem take_succ' {α : Type} {xs : List α} {i : Nat} {x : α} (e : xs[i]? = some x) : xs.take (i + 1) = xs.take i ++ [x] := by rw [List.take_succ, e]; rfl
theorem sIx_nat {n d i : Nat} : sIx n d (some (i : Int)) = min i n := by
  show (if (i : Int) < 0 then ((i : Int) + (n : Int)).toNat else min (i : Int).toNat n) = _
  rw [if_neg (by omega), Int.toNat_natCast]
theorem cut_pre {xs : List D} {i : Nat} (h : i ≤ xs.length) : cutD xs none (some (i : Int)) = xs.take i := by
  unfold cutD
  rw [sIx_nat, Nat.min_eq_left h]
  rfl
theorem cut_suf {xs : List D} {i : Nat} : cutD xs (some (i : Int)) none = xs.drop i := by
  unfold cutD
  rw [sIx_nat]
  show List.take (xs.length - min i xs.length) (List.drop (min i xs.length) xs) = _
  by_cases h : i ≤ xs.length
  · rw [Nat.min_eq_left h, List.take_of_length_le (by rw [List.length_drop]; omega)]
  · rw [Nat.min_eq_right (by omega), List.drop_of_length_le (by omega), List.drop_of_length_le (by omega), List.take_nil]
/-- short lists -/
def Sm (xs : List D) : Prop := xs.length ≤ 1000
theorem xB_addS {xs ys : List D} (h1 : Sm xs) (h2 : Sm ys) : xB .add (.tup xs) (.tup ys) = some (.tup (xs ++ ys)) := xB_addT (by unfold Sm at h1 h2; omega)
theorem xB_addSL {xs ys : List D} (h1 : Sm xs) (h2 : Sm ys) : xB .add (.lst xs) (.lst ys) = some (.lst (xs ++ ys)) := xB_addL (by unfold Sm at h1 h2; omega)
theorem cutS {xs : List D} {lo hi : Option Int} (h : Sm xs) : Sm (cutD xs lo hi) := Nat.le_trans cut_len h
theorem cut_len' {xs : List D} {lo hi : Option Int} {k : Nat} (h : xs.length ≤ k) : (cutD xs lo hi).length ≤ k := Nat.le_trans cut_len h
theorem oneS {x : D} : Sm [x] := by unfold Sm; simp
theorem appS {xs ys : List D} {k : Nat} (h1 : xs.length ≤ k) (h2 : Sm ys) (hk : k + ys.length ≤ 1000 := by simp <;> omega) : Sm (xs ++ ys) := by
  unfold Sm at *
  rw [List.length_append]
  omega
end
end JH

/-! JD5: more for plain laws: first hits, ranges, sets of ints, dicts. -/
namespace JH
section
variable {α β : Type} {T : Tab} {G : Nat → Option D} {wf : Nat} {σ : Env} {a b c e l it k : IE} {Q : D → Env → Prop} {X : EX → Env → Prop} {i f : Nat} {K : KQ}
/-- .. over a range from lo -/
theorem forL_rng2 {i0 : Nat} {g : Env → SR} {n : Nat} {lo : Int} (I : Nat → Env → Prop) (h0 : I 0 σ) (h : ∀ i σ, i < n → I i σ → (g (σ.set i0 (some (.d (.int (lo + (i : Int))))))).satK { K with nx := I (i + 1), cont := I (i + 1), brk := K.nx }) (h2 : ∀ σ, I n σ → K.nx σ) : (forL (.nm i0) g (rangeD lo n) σ).satK K := by
  refine forL_K I h0 (fun i x σ e hI => ?_) (by rw [rangeD_len]; exact h2)
  obtain ⟨hi, rfl⟩ := rangeD_get e
  exact ⟨_, rfl, h i σ hi hI⟩
theorem compL_rng2 {g : D → Env → ER (Option D)} {n : Nat} {lo : Int} {Q : List D → Env → Prop} (I : Nat → List D → Env → Prop) (h0 : I 0 [] σ) (h : ∀ i ys σ, i < n → I i ys σ → (g (.int (lo + (i : Int))) σ).sat (fun o σ' => match o with | some y => I (i + 1) (ys ++ [y]) σ' | none => I (i + 1) ys σ') fun _ _ => False)
    (h2 : ∀ ys σ, I n ys σ → Q ys σ) : (compL g (rangeD lo n) σ).sat Q X := compL_K I h0 (fun i x ys σ e hI => by
  obtain ⟨hi, rfl⟩ := rangeD_get e
  exact h i ys σ hi hI) (by rw [rangeD_len]; exact h2)
theorem fs_hit {F : α → Option β} {xs : List α} {i : Nat} {x : α} {v : β} (h : (xs.take i).findSome? F = none) (e : xs[i]? = some x) (hv : F x = some v) : xs.findSome? F = some v := by
  have : xs = xs.take i ++ x :: xs.drop (i + 1) := by
    obtain ⟨hi, rfl⟩ := List.getElem?_eq_some_iff.mp e
    rw [← List.drop_eq_getElem_cons hi, List.take_append_drop]
  rw [this, List.findSome?_append, h, List.findSome?_cons, hv]
  rfl
theorem fs_next {F : α → Option β} {xs : List α} {i : Nat} {x : α} (h : (xs.take i).findSome? F = none) (e : xs[i]? = some x) (hv : F x = none) : (xs.take (i + 1)).findSome? F = none := by
  rw [List.take_succ, e, List.findSome?_append, h]
  simp [hv]
/-- a loop over a range that returns at the first hit -/
theorem forL_find {i0 : Nat} {g : Env → SR} {n : Nat} {lo : Int} (F : Nat → Option D) (I : Env → Prop) (R : D → Env → Prop) (h0 : I σ)
    (h : ∀ i σ, i < n → I σ → (g (σ.set i0 (some (.d (.int (lo + (i : Int))))))).satK { K with nx := fun σ => I σ ∧ F i = none, cont := fun σ => I σ ∧ F i = none, brk := fun _ => False, ret := fun d σ => F i = some d ∧ R d σ })
    (h2 : ∀ σ, I σ → (List.range n).findSome? F = none → K.nx σ) (h3 : ∀ d σ, (List.range n).findSome? F = some d → R d σ → K.ret d σ) : (forL (.nm i0) g (rangeD lo n) σ).satK K := by
  refine forL_rng2 (fun i σ => I σ ∧ ((List.range n).take i).findSome? F = none) ⟨h0, rfl⟩ ?_ ?_
  · rintro i σ hi ⟨hI, hn⟩
    have e : (List.range n)[i]? = some i := List.getElem?_range hi
    exact satK_imp (h i σ hi hI) (fun σ ⟨a, b⟩ => ⟨a, fs_next hn e b⟩) (fun d σ ⟨a, b⟩ => h3 d σ (fs_hit hn e a) b) (fun _ h => h.elim) (fun σ ⟨a, b⟩ => ⟨a, fs_next hn e b⟩) (fun _ _ h => h) (fun _ _ h => h)
  · rintro σ ⟨hI, hn⟩
    rw [List.take_of_length_le (by simp)] at hn
    exact h2 σ hI hn
/-- ints without doubles, among others -/
theorem nodup_le [DecidableEq α] : ∀ {l s : List α}, l.Nodup → (∀ x ∈ l, x ∈ s) → l.length ≤ s.length
  | [], _, _, _ => Nat.zero_le _
  | x :: l, s, h, hs => by
    rw [List.nodup_cons] at h
    have hx : x ∈ s := hs x List.mem_cons_self
    have := nodup_le (s := s.erase x) h.2 fun y hy => (List.mem_erase_of_ne (fun e => h.1 (by rw [← e]; exact hy))).mpr (hs y (List.mem_cons_of_mem _ hy))
    have e := List.length_erase_of_mem hx
    have hp : 0 < s.length := List.length_pos_of_mem hx
    rw [List.length_cons]
    omega
theorem nodup_all [DecidableEq α] {l s : List α} (h : l.Nodup) (hs : ∀ x ∈ l, x ∈ s) (hd : s.Nodup) : l.length = s.length ↔ ∀ x ∈ s, x ∈ l := by
  constructor
  · intro e x hx
    by_cases hl : x ∈ l
    · exact hl
    · have := nodup_le (l := x :: l) (s := s) (List.nodup_cons.mpr ⟨hl, h⟩) (fun y hy => (List.mem_cons.mp hy).elim (fun e => e ▸ hx) (hs y))
      rw [List.length_cons] at this
      omega
  · intro hb
    exact Nat.le_antisymm (nodup_le h hs) (nodup_le hd hb)
/-! ### dicts -/
theorem kIdx_none {κ : Type} [DecidableEq κ] : ∀ {ks : List κ} {k : κ}, kIdx ks k = none ↔ k ∉ ks
  | [], k => by simp [kIdx]
  | a :: ks, k => by
    unfold kIdx
    by_cases e : a = k
    · rw [if_pos e]
      simp [e]
    · rw [if_neg e, Option.map_eq_none_iff, kIdx_none]
      simp [Ne.symm e]
theorem kPut_len {κ : Type} [DecidableEq κ] {y : β} : ∀ (ks : List κ) (ms : List β) (k : κ), (kPut ks ms k y).length = ms.length
  | [], ms, k => by simp [kPut]
  | a :: ks, [], k => by simp [kPut]
  | a :: ks, m :: ms, k => by simp only [kPut, List.length_cons, kPut_len ks ms k]
theorem toD_dk {ks : List (Sum Int (List Nat))} {ms : List M} : (M.dk ks ms).toD = .dk ks (M.toDs ms) := by simp only [M.toD]
theorem r_ieq {a b : Int} {A B : Prop} (h1 : a = b → A) (h2 : a ≠ b → B) : if D.eqv (.int a) (.int b) = true then A else B := by
  show if (a == b) = true then A else B
  by_cases h : a = b
  · rw [if_pos (by simpa using h)]; exact h1 h
  · rw [if_neg (by simpa using h)]; exact h2 h
theorem r_ine {a b : Int} {A B : Prop} (h1 : a ≠ b → A) (h2 : a = b → B) : if (!D.eqv (.int a) (.int b)) = true then A else B := by
  show if (!(a == b)) = true then A else B
  by_cases h : a = b
  · rw [if_neg (by simpa using h)]; exact h2 h
  · rw [if_pos (by simpa using h)]; exact h1 h
/-! ### plain lists of ints -/
theorem plains_int : ∀ ns : List Int, D.plains (ns.map .int) = true
  | [] => rfl
  | n :: ns => by rw [List.map_cons]; simp only [D.plains, D.plain, plains_int ns, Bool.and_self]
theorem depths_int : ∀ ns : List Int, D.depths (ns.map .int) = 0
  | [] => rfl
  | n :: ns => by rw [List.map_cons]; simp only [D.depths, D.depth, depths_int ns, Nat.max_self]
theorem eqvs_int : ∀ ns : List Int, D.eqvs (ns.map .int) (ns.map .int) = true
  | [] => rfl
  | n :: ns => by rw [List.map_cons]; simp only [D.eqvs, D.eqv, eqvs_int ns, beq_self_eq_true, Bool.and_self]
theorem cmpOk_lst (ns : List Int) : D.cmpOk (.lst (ns.map .int)) = true := by
  unfold D.cmpOk
  simp only [D.plain, plains_int, D.depth, depths_int, Bool.true_and]
  decide
theorem cmpOk_tup (ns : List Int) : D.cmpOk (.tup (ns.map .int)) = true := by
  unfold D.cmpOk
  simp only [D.plain, plains_int, D.depth, depths_int, Bool.true_and]
  decide
theorem dEq_lst (ns : List Int) : dEq (.lst (ns.map .int)) (.lst (ns.map .int)) = some true := by
  unfold dEq
  rw [if_pos (by rw [cmpOk_lst]; simp)]
  simp only [D.eqv, eqvs_int]
theorem dNe_lst (ns : List Int) : dCmp .ne (.lst (ns.map .int)) (.lst (ns.map .int)) = some false := by
  show (dEq _ _).map not = _
  rw [dEq_lst]
  rfl
theorem ints_of {P : D → Prop} (hP : ∀ d, P d → ∃ i, d = .int i) : ∀ {ds : List D}, (∀ d ∈ ds, P d) → ∃ ns : List Int, ds = ns.map .int
  | [], _ => ⟨[], rfl⟩
  | d :: ds, h => by
    obtain ⟨i, rfl⟩ := hP d (h d List.mem_cons_self)
    obtain ⟨ns, e⟩ := ints_of hP (ds := ds) fun x hx => h x (List.mem_cons_of_mem _ hx)
    exact ⟨i :: ns, by rw [e]; rfl⟩
theorem Dints_map : ∀ ns : List Int, D.ints (ns.map .int) = some ns
  | [] => rfl
  | n :: ns => by simp only [List.map_cons, D.ints, Dints_map ns, Option.map_some]
theorem Dbls_map {xs : List α} (v : α → Bool) : D.bls (xs.map fun x => .bl (v x)) = some (xs.map v) := by
  induction xs with
  | nil => rfl
  | cons x xs ih => simp only [List.map_cons, D.bls, ih, Option.map_some]
theorem call_satMX {L : List FI} {n f np ns : Nat} {pin : List Nat} {body : IS} {ms : List M} {x : EX} (h : L[f]? = some ⟨np, ns, pin, body⟩) (hl : ms.length = np) (σ0 : Env) (h0 : ms.map some ++ List.replicate (ns - np) none = σ0)
    (hb : (xS (xF L G wf n) G wf body σ0).satK { nx := fun _ => False, ret := fun _ _ => False, brk := fun _ => False, cont := fun _ => False, exc := fun e _ => e = x, retM := fun _ _ => False }) : xF L G wf (n + 1) f ms = .exc x := by
  simp only [xS_fn, xF_eq] at *
  rw [call_eq h hl, h0]
  cases e : evS (callF L G wf n) G wf body σ0 with
  | exc y σ => rw [e] at hb; obtain rfl := hb; rfl
  | _ => rw [e] at hb; exact hb.elim
end
end JH

/-! JD6: more for plain laws: calls that give a fresh list as a value, all and any over pure tests, lists of ints. -/
namespace JH
section
variable {α β : Type} {T : Tab} {G : Nat → Option D} {wf : Nat} {σ : Env} {a b c e l it k : IE} {Q : D → Env → Prop} {X : EX → Env → Prop} {i f : Nat} {K : KQ}
theorem gdS {r : SR} {K : KQ} (h : r.satK K) : r.satK K := h
theorem gdE {r : ER α} {Q : α → Env → Prop} {X : EX → Env → Prop} (h : r.sat Q X) : r.sat Q X := h
theorem gdI {c : Prop} [Decidable c] {A B : Prop} (h : if c then A else B) : if c then A else B := h
theorem gdX {p : α → Prop} (h : ∃ x, p x) : ∃ x, p x := h
theorem gdA {A B : Prop} (h : A ∧ B) : A ∧ B := h
theorem r_eqT {v : Bool} {A B : Prop} (hv : v = true) (h : A) : if v = true then A else B := by rw [if_pos hv]; exact h
theorem r_eqF {v : Bool} {A B : Prop} (hv : v = false) (h : B) : if v = true then A else B := by rw [if_neg (by rw [hv]; decide)]; exact h
/-- a def's end, a fresh list as a value too -/
def CR.satA (r : CR) (Q : D → Env → Prop) (X : EX → Prop) : Prop := match r with
  | .ret d os => Q d os
  | .retM ds os => Q (.lst ds) os
  | .exc e => X e
  | .stuck => False
theorem CR.satA_M {r : CR} {Q : D → Env → Prop} {X : EX → Prop} {ds : List D} {os : Env} (e : r = .retM ds os) (h : Q (.lst ds) os) : r.satA Q X := by rw [e]; exact h
theorem CR.satA_x {r : CR} {Q : D → Env → Prop} {X : EX → Prop} {x : EX} (e : r = .exc x) (h : X x) : r.satA Q X := by rw [e]; exact h
theorem CR.sat_x {r : CR} {Q : D → Env → Prop} {X : EX → Prop} {x : EX} (e : r = .exc x) (h : X x) : r.sat Q X := by rw [e]; exact h
theorem r_cvA {avs : List AV} {ms : List M} (hn : nodupB (avSlots avs) = true) (hm : AVs σ avs ms) (h : (T f ms).satA (fun d os => Q d (putOuts σ avs os)) (fun e => X e (dropOuts σ avs))) : (callWith T f avs σ).sat Q X := by
  unfold callWith
  rw [if_pos hn, hm.eq]
  dsimp only
  cases e : T f ms with
  | ret d os => rw [e] at h; exact h
  | retM _ _ => rw [e] at h; exact h
  | exc x => rw [e] at h; exact h
  | stuck => rw [e] at h; exact h.elim
/-- .. a call whose fresh list is the value -/
theorem r_callM {avs : List AV} {ms : List M} {ds : List D} {os : Env} (hn : nodupB (avSlots avs) = true) (hm : AVs σ avs ms) (e : T f ms = .retM ds os) (h : Q (.lst ds) (putOuts σ avs os)) : (callWith T f avs σ).sat Q X :=
  r_cvA hn hm (CR.satA_M e h)
theorem r_callX {avs : List AV} {ms : List M} {x : EX} (hn : nodupB (avSlots avs) = true) (hm : AVs σ avs ms) (e : T f ms = .exc x) (h : X x (dropOuts σ avs)) : (callWith T f avs σ).sat Q X :=
  r_cvA hn hm (CR.satA_x e h)
theorem r_truE (h : (evE T G a σ).sat (fun x σ1 => ∃ v, truD x = some v ∧ Q (.bl v) σ1) X) : (evE T G (.tru a) σ).sat Q X := by
  simp only [evE]
  refine ER.sat_bind (ER.sat_imp h fun x σ1 ⟨v, e1, q⟩ => ?_)
  exact sat_ofO (by rw [e1]; rfl) q
theorem dB1_all {xs : List α} (p : α → Bool) : dB1 .all (.lst (xs.map fun x => .bl (p x))) = some (.bl (xs.all p)) := by
  simp only [dB1, Dbls_map, Option.map_some, List.all_map]
  rfl
theorem dB1_any {xs : List α} (p : α → Bool) : dB1 .any (.lst (xs.map fun x => .bl (p x))) = some (.bl (xs.any p)) := by
  simp only [dB1, Dbls_map, Option.map_some, List.any_map]
  rfl
theorem all_take_succ {xs : List α} {p : α → Bool} {i : Nat} {x : α} (e : xs[i]? = some x) (h : (xs.take i).all p = true) (hp : p x = true) : (xs.take (i + 1)).all p = true := by
  rw [take_succ' e, List.all_append, h, List.all_cons, hp]
  rfl
theorem all_no {xs : List α} {p : α → Bool} {i : Nat} {x : α} (e : xs[i]? = some x) (hp : p x = false) : xs.all p = false := by
  rw [Bool.eq_false_iff]
  intro z
  rw [List.all_eq_true.mp z x (List.mem_of_getElem? e)] at hp
  cases hp
theorem map_get {xs : List α} {g : α → β} {i : Nat} {y : β} (e : (xs.map g)[i]? = some y) : ∃ x, xs[i]? = some x ∧ y = g x := by
  rw [List.getElem?_map] at e
  obtain ⟨x, h1, h2⟩ := Option.map_eq_some_iff.mp e
  exact ⟨x, h1, h2.symm⟩
theorem dIdx_intL {ns : List Int} {i : Nat} (h : i < ns.length) : dIdx (.lst (ns.map .int)) (.int (i : Int)) = some (.int ns[i]) :=
  dIdx_lst (by rw [List.getElem?_map, List.getElem?_eq_getElem h]; rfl)
theorem dIdx_intT {ns : List Int} {i : Nat} (h : i < ns.length) : dIdx (.tup (ns.map .int)) (.int (i : Int)) = some (.int ns[i]) :=
  dIdx_tup (by rw [List.getElem?_map, List.getElem?_eq_getElem h]; rfl)
theorem mIdx_int {ns : List Int} {i : Nat} (h : i < ns.length) : mIdx (.lst ((ns.map D.int).map M.d)) (.int (i : Int)) = some (.int ns[i]) :=
  mIdx_nat (by rw [List.getElem?_map, List.getElem?_map, List.getElem?_eq_getElem h]; rfl)
theorem snoc_int {ns : List Int} {v : Int} : ns.map D.int ++ [.int v] = (ns ++ [v]).map D.int := by rw [List.map_append]; rfl
theorem mApp_int {ns : List Int} {v : Int} (h : ns.length < 16777216) : mApp (.lst ((ns.map D.int).map M.d)) (.int v) = some (.lst (((ns ++ [v]).map D.int).map M.d)) := by
  rw [mApp_in (by rw [List.length_map]; exact h), ← snoc_int]
theorem len_int {ns : List Int} : (ns.map D.int).length = ns.length := List.length_map _
end
end JH

/-! JD7: rules for plain laws: own objects, displays of dicts, in of dicts, two fors, truth values as numbers. -/
namespace JH
open PySem (Str)
section
variable {α β : Type} {T : Tab} {G : Nat → Option D} {wf : Nat} {σ : Env} {a b c e l it k : IE} {Q : D → Env → Prop} {X : EX → Env → Prop} {i f : Nat} {K : KQ}
theorem r_negB (h : (evE T G a σ).sat (fun x σ1 => ∃ z, negD x = some z ∧ Q z σ1) X) : (evE T G (.neg a) σ).sat Q X := by
  simp only [evE]
  exact ER.sat_bind (ER.sat_imp h fun x σ1 ⟨z, e, q⟩ => sat_ofO e q)
theorem r_ofd {cs : List Nat} (h : (evE T G a σ).sat (fun x σ1 => ∃ z, ofdD f cs x = some z ∧ Q z σ1) X) : (evE T G (.ofd a f cs) σ).sat Q X := by
  simp only [evE]
  exact ER.sat_bind (ER.sat_imp h fun x σ1 ⟨z, e, q⟩ => sat_ofO e q)
theorem r_dct {ks : List (Sum Int (List Nat))} (h : (evL T G l σ).sat (fun xs σ1 => xs.length = ks.length ∧ Q (.dk ks xs) σ1) X) : (evE T G (.dct ks l) σ).sat Q X := by
  simp only [evE]
  refine ER.sat_bind (ER.sat_imp h fun xs σ1 ⟨e, q⟩ => ?_)
  rw [if_pos e]
  exact q
theorem r_dhas {neg : Bool} (h : (evE T G a σ).sat (fun x σ1 => (evE T G b σ1).sat (fun y σ2 => ∃ z, dHas x y = some z ∧ Q (.bl (z != neg)) σ2) X) X) : (evE T G (.dhas neg a b) σ).sat Q X := by
  simp only [evE]
  exact ER.sat_bind (ER.sat_imp h fun x σ1 h => ER.sat_bind (ER.sat_imp h fun y σ2 ⟨z, e, q⟩ => sat_ofO (by rw [e]; rfl) q))
theorem xB_addB {b : Bool} {v : Int} : xB .add (.bl b) (.int v) = some (.int ((if b then 1 else 0) + v)) := by rw [xB_eq]; simp only [dBin]
theorem xB_subB {b : Bool} {v : Int} : xB .sub (.bl b) (.int v) = some (.int ((if b then 1 else 0) - v)) := by rw [xB_eq]; simp only [dBin]
theorem xB_addStr {xs ys : List Nat} (h : xs.length + ys.length ≤ 16777216) : xB .add (.str xs) (.str ys) = some (.str (xs ++ ys)) := by rw [xB_eq]; simp only [dBin]; rw [if_pos h]
/-- the text of a number -/
theorem str_ok {i : Int} {k : Nat} (hk : 0 < k) (h : i.natAbs < 10 ^ k) : ((Str.ofString (toString i)).cps.toList.all fun c => decide (c < 0x110000)) = true ∧ (Str.ofString (toString i)).cps.toList.length ≤ k + 1 := by
  refine ⟨?_, ?_⟩
  · rw [Str.ofString_eq_toList, List.all_eq_true]
    intro c hc
    simp only [List.mem_map] at hc
    obtain ⟨x, _, rfl⟩ := hc
    have := x.valid
    refine decide_eq_true ?_
    show x.val.toNat < 0x110000
    rcases this with h | h
    · have : x.val.toNat < 0xd800 := h
      omega
    · exact h.2
  · have h1 := PySem.int_text_length_le10 hk h
    rw [Str.ofString_eq_toList]
    simp only [List.length_map]
    have : (toString i).toList.length = (toString i).length := by first | exact String.length_toList | rfl | simp [String.length]
    rw [this]
    exact h1
/-- what a method gives -/
def CR.isR (r : CR) (Q : D → Prop) : Prop := match r with
  | .ret d _ => Q d
  | _ => False
theorem CR.isR_of {r : CR} {Q : D → Env → Prop} {P : D → Prop} (h : r.sat Q fun _ => False) (hq : ∀ d os, Q d os → P d) : r.isR P := by
  cases r with
  | ret d os => exact hq d os h
  | retM _ _ => exact h.elim
  | exc _ => exact h.elim
  | stuck => exact h.elim
theorem r_meth {bad c' : Nat} {o : IE} (h : (evE T G o σ).sat (fun x σ1 => methD bad c' x = some () ∧ (evL T G l σ1).sat (fun xs σ2 => (T f (.d x :: xs.map M.d)).isR fun d => Q d σ2) X) X) : (evE T G (.meth bad c' f o l) σ).sat Q X := by
  simp only [evE]
  refine ER.sat_bind (ER.sat_imp h fun x σ1 ⟨e, q⟩ => ER.sat_bind (sat_ofO e (ER.sat_bind (ER.sat_imp q fun xs σ2 q => ?_))))
  unfold methR
  cases e2 : T f (.d x :: xs.map M.d) with
  | ret d os => rw [e2] at q; exact q
  | retM _ _ => rw [e2] at q; exact q.elim
  | exc _ => rw [e2] at q; exact q.elim
  | stuck => rw [e2] at q; exact q.elim
theorem r_mk {c' : Nat} (h : (evL T G l σ).sat (fun xs σ1 => ∃ m r, T f (.obj c' [] [] :: xs.map M.d) = .ret .non (some m :: r) ∧ Q m.toD σ1) X) : (evE T G (.mk c' f l) σ).sat Q X := by
  simp only [evE]
  refine ER.sat_bind (ER.sat_imp h fun xs σ1 ⟨m, r, e, q⟩ => ?_)
  rw [e]
  exact q
theorem r_setf {cs : List Nat} (h : (evE T G e σ).sat (fun y σ1 => ∃ m, setfM f cs y ((σ1[i]?).bind id) = some m ∧ K.nx (σ1.set i (some m))) K.exc) : (xS T G wf (.setf i f cs e) σ).satK K := by
  simp only [xS_fn] at *
  simp only [evS]
  exact ER.sat_to (ER.sat_imp h fun y σ1 ⟨m, e, q⟩ => ER.sat_to (sat_ofO e q))
/-- the turn of the inner for -/
def compF2 (T : Tab) (G : Nat → Option D) (e : IE) (tg : Tg) (own : List Nat) (x : D) (σ : Env) : ER (Option D) := match asgT tg x σ with
  | some σ1 => (evE T G e σ1).bind fun y σ2 => .ok (some y) (wipeD σ2 own)
  | none => .stuck
theorem compF2_sat {tg : Tg} {own : List Nat} {x : D} {σ1 : Env} {Q : Option D → Env → Prop} (ha : asgT tg x σ = some σ1) (h : (evE T G e σ1).sat (fun y σ3 => Q (some y) (wipeD σ3 own)) X) : (compF2 T G e tg own x σ).sat Q X := by
  unfold compF2
  rw [ha]
  exact ER.sat_bind h
/-- .. of the outer one -/
def compF1 (T : Tab) (G : Nat → Option D) (e : IE) (t1 : Tg) (t2 : Tg) (i2 : IE) (own own2 : List Nat) (x : D) (σ : Env) : ER (List D) := match asgT t1 x σ with
  | some σ3 => (evI T G i2 σ3).bind fun ys σ4 => (compL (compF2 T G e t2 own2) ys (wipeD σ4 own2)).bind fun zs σ8 => .ok zs (wipeD σ8 own)
  | none => .stuck
theorem compF1_sat {t1 t2 : Tg} {i2 : IE} {own own2 : List Nat} {x : D} {σ1 : Env} {Q : List D → Env → Prop} (ha : asgT t1 x σ = some σ1) (h : (evI T G i2 σ1).sat (fun ys σ2 => (compL (compF2 T G e t2 own2) ys (wipeD σ2 own2)).sat (fun zs σ3 => Q zs (wipeD σ3 own)) X) X) : (compF1 T G e t1 t2 i2 own own2 x σ).sat Q X := by
  unfold compF1
  rw [ha]
  exact ER.sat_bind (ER.sat_imp h fun ys σ2 h => ER.sat_bind h)
theorem r_comp2 {t1 t2 : Tg} {i1 i2 : IE} {own own2 : List Nat} (h : (evI T G i1 σ).sat (fun xs σ1 => (compC (compF1 T G e t1 t2 i2 own own2) xs (wipeD σ1 own)).sat (fun ys σ2 => ys.length ≤ 16777216 ∧ Q (.lst ys) (backD σ1 σ2 own)) X) X) : (evE T G (.comp2 e t1 i1 t2 i2 own own2) σ).sat Q X := by
  simp only [evE]
  refine ER.sat_bind (ER.sat_imp h fun x σ1 h => ER.sat_bind (ER.sat_imp h fun ys σ2 q => ?_))
  rw [if_pos q.1]
  exact q.2
theorem compC_K0 {g : D → Env → ER (List D)} {Q : List D → Env → Prop} (I : Nat → List D → Env → Prop) : ∀ (xs : List D) (k : Nat) (ys : List D) (σ : Env), I k ys σ → (∀ i x ys σ, xs[i]? = some x → I (k + i) ys σ → (g x σ).sat (fun zs σ' => I (k + i + 1) (ys ++ zs) σ') fun _ _ => False) →
    (∀ zs σ, I (k + xs.length) (ys ++ zs) σ → Q zs σ) → (compC g xs σ).sat Q X
  | [], k, ys, σ, h0, _, h2 => h2 [] σ (by simpa using h0)
  | x :: xs, k, ys, σ, h0, h, h2 => by
    have e1 := h 0 x ys σ rfl h0
    unfold compC
    cases e : g x σ with
    | ok o σ1 =>
      rw [e] at e1
      refine ER.sat_bind (compC_K0 I xs (k + 1) (ys ++ o) σ1 e1 (fun i y ys σ e hI => ?_) fun zs σ hI => h2 (o ++ zs) σ ?_)
      · have := h (i + 1) y ys σ (by simpa using e) (by rw [show k + (i + 1) = k + 1 + i from by omega]; exact hI)
        rw [show k + 1 + i = k + (i + 1) from by omega]
        exact this
      · rw [show k + (x :: xs).length = k + 1 + xs.length from by simp only [List.length_cons]; omega, ← List.append_assoc]
        exact hI
    | exc _ _ => rw [e] at e1; exact e1.elim
    | stuck => rw [e] at e1; exact e1.elim
theorem compC_K {g : D → Env → ER (List D)} {xs : List D} {Q : List D → Env → Prop} (I : Nat → List D → Env → Prop) (h0 : I 0 [] σ) (h : ∀ i x ys σ, xs[i]? = some x → I i ys σ → (g x σ).sat (fun zs σ' => I (i + 1) (ys ++ zs) σ') fun _ _ => False) (h2 : ∀ ys σ, I xs.length ys σ → Q ys σ) : (compC g xs σ).sat Q X :=
  compC_K0 I xs 0 [] σ h0 (by simpa using h) (by simpa using h2)
end
end JH

namespace K02
open PySem JH
/-- is_integer: 0 value -/
def B0 : IS := (.ret (.and (.cons (.isi (.rd 0) .int) (.cons (.not (.isi (.rd 0) .bool)) .nil))))
def f0 : FI := ⟨1, 1, [], B0⟩
/-- is_listed: 0 values, 1 value -/
def B1 : IS := (.ret (.and (.cons (.isi2 (.rd 0) .list .tuple) (.cons (.b1 .all (.comp (.call 0 (.cons (.rd 1) .nil)) (.nm 1) (.rd 0) .nil [1])) .nil))))
def f1 : FI := ⟨1, 2, [], B1⟩
/-- is_between: 0 value, 1 least, 2 most -/
def B2 : IS := (.ret (.and (.cons (.call 0 (.cons (.rd 0) .nil)) (.cons (.chn .le .le (.rd 1) (.rd 0) (.rd 2)) .nil))))
def f2 : FI := ⟨3, 3, [], B2⟩
/-- check_table: 0 table, 1 row -/
def B3 : IS := (.seq (.ite (.or (.cons (.not (.isi (.rd 0) .tuple)) (.cons (.not (.chn .le .le (.cI 1) (.b1 .len (.rd 0)) (.gl 2))) (.cons (.not (.isi (.idx (.rd 0) (.cI 0)) .tuple)) .nil)))) (.rse 2) .skip) (.for (.nm 1) (.rd 0) (.seq (.ite (.or (.cons (.not (.isi (.rd 1) .tuple)) (.cons (.not (.chn .le .le (.cI 1) (.b1 .len (.rd 1)) (.gl 2))) (.cons (.cmp .ne (.b1 .len (.rd 1)) (.b1 .len (.idx (.rd 0) (.cI 0)))) .nil)))) (.rse 2) .skip) (.ite (.not (.call 1 (.cons (.rd 1) .nil))) (.rse 2) .skip))))
def f3 : FI := ⟨1, 2, [], B3⟩
/-- are_told: 0 value, 1 many, 2 coins, 3 one -/
def B4 : IS := (.seq (.ite (.or (.cons (.not (.isi (.rd 0) .tuple)) (.cons (.cmp .ne (.b1 .len (.rd 0)) (.rd 1)) .nil))) (.ret (.cB false)) .skip) (.ret (.b1 .all (.comp (.and (.cons (.isi (.rd 3) .tuple) (.cons (.cmp .eq (.b1 .len (.rd 3)) (.rd 2)) (.cons (.call 1 (.cons (.rd 3) .nil)) .nil)))) (.nm 3) (.rd 0) .nil [3]))))
def f4 : FI := ⟨3, 4, [], B4⟩
/-- are_bits: 0 value, 1 many, 2 coins, 3 one, 4 bit -/
def B5 : IS := (.ret (.and (.cons (.call 4 (.cons (.rd 0) (.cons (.rd 1) (.cons (.rd 2) .nil)))) (.cons (.b1 .all (.comp2 (.or (.cons (.cmp .eq (.rd 4) (.cI 0)) (.cons (.cmp .eq (.rd 4) (.cI 1)) .nil))) (.nm 3) (.rd 0) (.nm 4) (.rd 3) [3, 4] [4])) .nil))))
def f5 : FI := ⟨3, 5, [], B5⟩
/-- check_tree: 0 shape, 1 tree, 2 of_people, 3 waiting, 4 seen, 5 one, 6 depth -/
def B6 : IS := (.seq (.asgM 3 (.lst (.cons (.tup (.cons (.rd 1) (.cons (.cI 1) .nil))) .nil))) (.seq (.asg (.nm 4) (.cI 0)) (.wh (.cmp .gt (.pb1 .len (.root 3)) (.cI 0)) (.seq (.asg (.cons (.nm 5) (.cons (.nm 6) .nil)) (.pop (.root 3))) (.seq (.asg (.nm 4) (.bin .add (.rd 4) (.cI 1))) (.seq (.ite (.or (.cons (.cmp .gt (.rd 6) (.gl 1)) (.cons (.cmp .gt (.rd 4) (.ite (.rd 2) (.gl 3) (.gl 4))) .nil))) (.rse 1) .skip) (.ite (.meth 2 3 26 (.rd 0) (.cons (.rd 5) .nil)) (.seq (.app (.root 3) (.tup (.cons (.idx (.rd 5) (.cI 4)) (.cons (.bin .add (.rd 6) (.cI 1)) .nil)))) (.app (.root 3) (.tup (.cons (.idx (.rd 5) (.cI 3)) (.cons (.bin .add (.rd 6) (.cI 1)) .nil))))) (.ite (.not (.ite (.rd 2) (.meth 2 3 28 (.rd 0) (.cons (.rd 5) .nil)) (.meth 2 3 27 (.rd 0) (.cons (.rd 5) .nil)))) (.rse 1) .skip))))))))
def f6 : FI := ⟨3, 7, [], B6⟩
/-- check_talk: 0 talk, 1 table, 2 shape -/
def B7 : IS := (.seq (.ex (.call 3 (.cons (.rd 1) .nil))) (.seq (.ite (.or (.cons (.not (.isi (.rd 0) .tuple)) (.cons (.cmp .ne (.b1 .len (.rd 0)) (.cI 4)) (.cons (.cmp .ne (.idx (.rd 0) (.cI 0)) (.cS [116, 97, 108, 107])) .nil)))) (.rse 1) .skip) (.seq (.ite (.or (.cons (.not (.call 2 (.cons (.idx (.rd 0) (.cI 1)) (.cons (.cI 1) (.cons (.gl 0) .nil))))) (.cons (.not (.call 2 (.cons (.idx (.rd 0) (.cI 2)) (.cons (.cI 1) (.cons (.gl 0) .nil))))) .nil))) (.rse 1) .skip) (.seq (.asg (.nm 2) (.mk 3 25 (.cons (.dct [.inl 0, .inl 1] (.cons (.b1 .len (.rd 1)) (.cons (.b1 .len (.idx (.rd 1) (.cI 0))) .nil))) (.cons (.dct [.inl 0, .inl 1] (.cons (.idx (.rd 0) (.cI 1)) (.cons (.idx (.rd 0) (.cI 2)) .nil))) .nil)))) (.ex (.call 6 (.cons (.rd 2) (.cons (.idx (.rd 0) (.cI 3)) (.cons (.cB false) .nil)))))))))
def f7 : FI := ⟨2, 3, [], B7⟩
/-- _law_draws: 0 _law_script, 1 _law_many, 2 _law_rests, 3 _law_cell, 4 _law_draws_here, 5 _law_k, 6 _law_at, 7 _law_mixed -/
def B8 : IS := (.seq (.asgM 2 (.comp (.b1 .abs (.b1 .int (.rd 3))) (.nm 3) (.rd 0) .nil [3])) (.seq (.asgM 4 (.lst .nil)) (.seq (.for (.nm 5) (.rng1 (.rd 1)) (.seq (.asg (.nm 3) (.rd 5)) (.seq (.ite (.cmp .gt (.b1 .len (.rd 0)) (.cI 0)) (.seq (.asg (.nm 6) (.bin .mod (.rd 5) (.b1 .len (.rd 0)))) (.seq (.asg (.nm 3) (.b1 .int (.idx (.rd 0) (.rd 6)))) (.ite (.and (.cons (.cmp .ge (.rd 3) (.bin .pow (.cI 10) (.cI 18))) (.cons (.cmp .gt (.midx (.root 2) (.rd 6)) (.cI 0)) .nil))) (.seq (.app (.root 4) (.bin .mod (.b1 .int (.midx (.root 2) (.rd 6))) (.cI 1000003))) (.seq (.sto (.root 2) (.rd 6) (.bin .fdiv (.b1 .int (.midx (.root 2) (.rd 6))) (.cI 1000003))) .cont)) .skip))) .skip) (.seq (.asg (.nm 7) (.bin .mod (.b1 .int (.bin .add (.bin .add (.bin .mul (.rd 3) (.cI 48271)) (.bin .mul (.rd 5) (.cI 69621))) (.cI 11))) (.cI 2147483647))) (.seq (.asg (.nm 7) (.bin .mod (.b1 .int (.bin .add (.bin .fdiv (.bin .mul (.rd 7) (.rd 7)) (.cI 4096)) (.rd 7))) (.cI 2147483629))) (.app (.root 4) (.bin .mod (.b1 .int (.bin .add (.bin .fdiv (.bin .mul (.rd 7) (.rd 7)) (.cI 4096)) (.bin .mul (.rd 5) (.cI 7919)))) (.cI 2147483629)))))))) (.ret (.fz (.root 4))))))
def f8 : FI := ⟨2, 8, [], B8⟩
/-- _law_take: 0 _law_hand, 1 _law_many, 2 _law_at, 3 _law_draws_here -/
def B9 : IS := (.seq (.asg (.nm 2) (.midx (.root 0) (.cI 1))) (.seq (.sto (.root 0) (.cI 1) (.bin .add (.rd 2) (.cI 1))) (.seq (.asg (.nm 3) (.midx (.root 0) (.cI 0))) (.seq (.ite (.cmp .ge (.rd 2) (.b1 .len (.rd 3))) (.ret (.cI 0)) .skip) (.ret (.bin .mod (.bin .fdiv (.b1 .int (.idx (.rd 3) (.rd 2))) (.cI 7)) (.rd 1)))))))
def f9 : FI := ⟨2, 4, [0], B9⟩
/-- _law_table: 0 _law_hand, 1 _law_rows, 2 _law_columns, 3 _law_answers, 4 _law_y, 5 _law_x -/
def B10 : IS := (.ret (.b1 .tuple (.comp (.b1 .tuple (.comp (.call 9 (.cons (.marg 0) (.cons (.rd 3) .nil))) (.nm 4) (.rng1 (.rd 2)) .nil [4])) (.nm 5) (.rng1 (.rd 1)) .nil [5])))
def f10 : FI := ⟨4, 6, [0], B10⟩
/-- _law_bits: 0 _law_hand, 1 _law_inputs, 2 _law_coins, 3 _law_most, 4 _law_r, 5 _law_x -/
def B11 : IS := (.ret (.b1 .tuple (.comp (.b1 .tuple (.comp (.call 9 (.cons (.marg 0) (.cons (.rd 3) .nil))) (.nm 4) (.rng1 (.rd 2)) .nil [4])) (.nm 5) (.rng1 (.rd 1)) .nil [5])))
def f11 : FI := ⟨4, 6, [0], B11⟩
/-- _law_tree: 0 _law_hand, 1 _law_sizes, 2 _law_coins, 3 _law_depth, 4 _law_answers, 5 _law_ends, 6 _law_side, 7 _law_bits_here, 8 _law_first -/
def B12 : IS := (.seq (.ite (.or (.cons (.cmp .eq (.rd 3) (.cI 0)) (.cons (.cmp .eq (.call 9 (.cons (.marg 0) (.cons (.cI 5) .nil))) (.cI 0)) .nil))) (.seq (.asg (.nm 5) (.comp (.call 11 (.cons (.marg 0) (.cons (.idx (.rd 1) (.rd 6)) (.cons (.idx (.rd 2) (.rd 6)) (.cons (.rd 4) .nil))))) (.nm 6) (.rng1 (.cI 2)) .nil [6])) (.ret (.tup (.cons (.cS [101, 110, 100]) (.cons (.idx (.rd 5) (.cI 0)) (.cons (.idx (.rd 5) (.cI 1)) .nil)))))) .skip) (.seq (.asg (.nm 6) (.call 9 (.cons (.marg 0) (.cons (.cI 2) .nil)))) (.seq (.asg (.nm 7) (.call 11 (.cons (.marg 0) (.cons (.idx (.rd 1) (.rd 6)) (.cons (.idx (.rd 2) (.rd 6)) (.cons (.cI 2) .nil)))))) (.seq (.asg (.nm 8) (.call 12 (.cons (.marg 0) (.cons (.rd 1) (.cons (.rd 2) (.cons (.bin .sub (.rd 3) (.cI 1)) (.cons (.rd 4) .nil))))))) (.ret (.tup (.cons (.cS [115, 97, 121]) (.cons (.rd 6) (.cons (.rd 7) (.cons (.rd 8) (.cons (.call 12 (.cons (.marg 0) (.cons (.rd 1) (.cons (.rd 2) (.cons (.bin .sub (.rd 3) (.cI 1)) (.cons (.rd 4) .nil)))))) .nil)))))))))))
def f12 : FI := ⟨5, 9, [0], B12⟩
/-- _law_talk: 0 _law_hand, 1 _law_sizes, 2 _law_answers, 3 _law_coins -/
def B13 : IS := (.seq (.asg (.nm 3) (.tup (.cons (.bin .add (.cI 1) (.call 9 (.cons (.marg 0) (.cons (.cI 3) .nil)))) (.cons (.bin .add (.cI 1) (.call 9 (.cons (.marg 0) (.cons (.cI 3) .nil)))) .nil)))) (.ret (.tup (.cons (.cS [116, 97, 108, 107]) (.cons (.idx (.rd 3) (.cI 0)) (.cons (.idx (.rd 3) (.cI 1)) (.cons (.call 12 (.cons (.marg 0) (.cons (.rd 1) (.cons (.rd 3) (.cons (.bin .add (.cI 1) (.call 9 (.cons (.marg 0) (.cons (.cI 3) .nil)))) (.cons (.rd 2) .nil)))))) .nil)))))))
def f13 : FI := ⟨3, 4, [0], B13⟩
/-- _law_within: 0 _law_value, 1 _law_least, 2 _law_most -/
def B14 : IS := (.ret (.and (.cons (.isi (.rd 0) .int) (.cons (.not (.isi (.rd 0) .bool)) (.cons (.cmp .ge (.rd 0) (.rd 1)) (.cons (.cmp .le (.rd 0) (.rd 2)) .nil))))))
def f14 : FI := ⟨3, 3, [], B14⟩
/-- _law_is_integer: 0 _law_value -/
def B15 : IS := (.ret (.and (.cons (.isi (.rd 0) .int) (.cons (.not (.isi (.rd 0) .bool)) .nil))))
def f15 : FI := ⟨1, 1, [], B15⟩
/-- _law_table_good: 0 _law_value, 1 _law_row, 2 _law_one -/
def B16 : IS := (.seq (.ite (.or (.cons (.not (.isi (.rd 0) .tuple)) (.cons (.not (.call 14 (.cons (.b1 .len (.rd 0)) (.cons (.cI 1) (.cons (.cI 100) .nil))))) .nil))) (.ret (.cB false)) .skip) (.seq (.for (.nm 1) (.rd 0) (.seq (.ite (.or (.cons (.not (.isi (.rd 1) .tuple)) (.cons (.not (.call 14 (.cons (.b1 .len (.rd 1)) (.cons (.cI 1) (.cons (.cI 100) .nil))))) (.cons (.cmp .ne (.b1 .len (.rd 1)) (.b1 .len (.idx (.rd 0) (.cI 0)))) .nil)))) (.ret (.cB false)) .skip) (.for (.nm 2) (.rd 1) (.ite (.not (.call 15 (.cons (.rd 2) .nil))) (.ret (.cB false)) .skip)))) (.ret (.cB true))))
def f16 : FI := ⟨1, 3, [], B16⟩
/-- _law_told_good: 0 _law_value, 1 _law_inputs, 2 _law_coins, 3 _law_bits_here, 4 _law_row, 5 _law_one -/
def B17 : IS := (.seq (.ite (.or (.cons (.not (.isi (.rd 0) .tuple)) (.cons (.cmp .ne (.b1 .len (.rd 0)) (.rd 1)) .nil))) (.ret (.cB false)) .skip) (.seq (.for (.nm 4) (.rd 0) (.seq (.ite (.or (.cons (.not (.isi (.rd 4) .tuple)) (.cons (.cmp .ne (.b1 .len (.rd 4)) (.rd 2)) .nil))) (.ret (.cB false)) .skip) (.for (.nm 5) (.rd 4) (.ite (.or (.cons (.not (.call 15 (.cons (.rd 5) .nil))) (.cons (.and (.cons (.rd 3) (.cons (.cmp .ne (.rd 5) (.cI 0)) (.cons (.cmp .ne (.rd 5) (.cI 1)) .nil)))) .nil))) (.ret (.cB false)) .skip)))) (.ret (.cB true))))
def f17 : FI := ⟨4, 6, [], B17⟩
/-- _law_talk_good: 0 _law_value, 1 _law_sizes, 2 _law_coins, 3 _law_level, 4 _law_depth, 5 _law_below, 6 _law_tree_here -/
def B18 : IS := (.seq (.ite (.or (.cons (.not (.isi (.rd 0) .tuple)) (.cons (.cmp .ne (.b1 .len (.rd 0)) (.cI 4)) (.cons (.not (.isi (.idx (.rd 0) (.cI 0)) .str)) (.cons (.cmp .ne (.idx (.rd 0) (.cI 0)) (.cS [116, 97, 108, 107])) .nil))))) (.ret (.cB false)) .skip) (.seq (.ite (.or (.cons (.not (.call 14 (.cons (.idx (.rd 0) (.cI 1)) (.cons (.cI 1) (.cons (.cI 256) .nil))))) (.cons (.not (.call 14 (.cons (.idx (.rd 0) (.cI 2)) (.cons (.cI 1) (.cons (.cI 256) .nil))))) .nil))) (.ret (.cB false)) .skip) (.seq (.asg (.nm 2) (.slc (.rd 0) (.cI 1) (.cI 3))) (.seq (.asg (.nm 3) (.lst (.cons (.idx (.rd 0) (.cI 3)) .nil))) (.seq (.for (.nm 4) (.rng1 (.cI 250)) (.seq (.asg (.nm 5) (.lst .nil)) (.seq (.for (.nm 6) (.rd 3) (.seq (.ite (.or (.cons (.not (.isi (.rd 6) .tuple)) (.cons (.cmp .eq (.b1 .len (.rd 6)) (.cI 0)) (.cons (.not (.isi (.idx (.rd 6) (.cI 0)) .str)) .nil)))) (.ret (.cB false)) .skip) (.seq (.ite (.and (.cons (.cmp .eq (.idx (.rd 6) (.cI 0)) (.cS [101, 110, 100])) (.cons (.cmp .eq (.b1 .len (.rd 6)) (.cI 3)) .nil))) (.seq (.ite (.or (.cons (.not (.call 17 (.cons (.idx (.rd 6) (.cI 1)) (.cons (.idx (.rd 1) (.cI 0)) (.cons (.idx (.rd 2) (.cI 0)) (.cons (.cB false) .nil)))))) (.cons (.not (.call 17 (.cons (.idx (.rd 6) (.cI 2)) (.cons (.idx (.rd 1) (.cI 1)) (.cons (.idx (.rd 2) (.cI 1)) (.cons (.cB false) .nil)))))) .nil))) (.ret (.cB false)) .skip) .cont) .skip) (.seq (.ite (.or (.cons (.cmp .ne (.idx (.rd 6) (.cI 0)) (.cS [115, 97, 121])) (.cons (.cmp .ne (.b1 .len (.rd 6)) (.cI 5)) (.cons (.not (.call 14 (.cons (.idx (.rd 6) (.cI 1)) (.cons (.cI 0) (.cons (.cI 1) .nil))))) .nil)))) (.ret (.cB false)) .skip) (.seq (.ite (.not (.call 17 (.cons (.idx (.rd 6) (.cI 2)) (.cons (.idx (.rd 1) (.idx (.rd 6) (.cI 1))) (.cons (.idx (.rd 2) (.idx (.rd 6) (.cI 1))) (.cons (.cB true) .nil)))))) (.ret (.cB false)) .skip) (.asg (.nm 5) (.bin .add (.rd 5) (.b1 .list (.slc (.rd 6) (.cI 3) .nil))))))))) (.seq (.ite (.cmp .eq (.b1 .len (.rd 5)) (.cI 0)) (.ret (.cB true)) .skip) (.asg (.nm 3) (.rd 5)))))) (.ret (.cB false)))))))
def f18 : FI := ⟨2, 7, [], B18⟩
/-- _law_odd: 0 _law_hand, 1 _law_depth, 2 _law_kind, 3 _law_parts, 4 _law_k, 5 _law_values -/
def B19 : IS := (.seq (.asg (.nm 2) (.call 9 (.cons (.marg 0) (.cons (.cI 9) .nil)))) (.seq (.ite (.and (.cons (.cmp .gt (.rd 1) (.cI 0)) (.cons (.cmp .gt (.rd 2) (.cI 6)) .nil))) (.seq (.asg (.nm 3) (.comp (.call 19 (.cons (.marg 0) (.cons (.bin .sub (.rd 1) (.cI 1)) .nil))) (.nm 4) (.rng1 (.call 9 (.cons (.marg 0) (.cons (.cI 4) .nil)))) .nil [4])) (.ret (.idx (.lst (.cons (.rd 3) (.cons (.b1 .tuple (.rd 3)) .nil))) (.bin .sub (.rd 2) (.cI 7))))) .skip) (.seq (.asg (.nm 5) (.lst (.cons (.cB true) (.cons (.cB false) (.cons .cN (.cons (.cS []) (.cons (.cS [48]) (.cons (.cS [101, 110, 100]) (.cons (.cS [115, 97, 121]) (.cons (.cS [116, 97, 108, 107]) (.cons (.cI 0) (.cons (.cI 1) (.cons (.cI 2) (.cons (.neg (.cI 1)) (.cons (.cI 257) (.cons (.bin .pow (.cI 10) (.cI 20)) (.cons (.tup .nil) (.cons (.lst .nil) (.cons (.tup (.cons (.cI 0) .nil)) (.cons (.tup (.cons (.tup (.cons (.cI 0) .nil)) .nil)) .nil)))))))))))))))))))) (.ret (.idx (.rd 5) (.call 9 (.cons (.marg 0) (.cons (.cI 18) .nil))))))))
def f19 : FI := ⟨2, 6, [0], B19⟩
/-- _law_bent: 0 _law_hand, 1 _law_value, 2 _law_depth, 3 _law_kind, 4 _law_at -/
def B20 : IS := (.seq (.asg (.nm 3) (.call 9 (.cons (.marg 0) (.cons (.cI 10) .nil)))) (.seq (.ite (.and (.cons (.isi (.rd 1) .int) (.cons (.cmp .lt (.rd 3) (.cI 7)) .nil))) (.ret (.idx (.lst (.cons (.bin .add (.rd 1) (.cI 1)) (.cons (.bin .sub (.rd 1) (.cI 1)) (.cons (.cmp .eq (.rd 1) (.cI 1)) (.cons (.neg (.rd 1)) (.cons (.b1 .str (.rd 1)) (.cons (.cI 2) (.cons (.cI 257) (.cons (.lst (.cons (.rd 1) .nil)) .nil))))))))) (.call 9 (.cons (.marg 0) (.cons (.cI 8) .nil))))) .skip) (.seq (.ite (.and (.cons (.isi (.rd 1) .str) (.cons (.cmp .lt (.rd 3) (.cI 7)) .nil))) (.ret (.idx (.lst (.cons (.cS [115, 97, 121]) (.cons (.cS [101, 110, 100]) (.cons (.cS [116, 97, 108, 107]) (.cons (.cS []) (.cons (.bin .add (.rd 1) (.cS [115])) (.cons (.cS [119, 114, 111, 110, 103]) .nil))))))) (.call 9 (.cons (.marg 0) (.cons (.cI 6) .nil))))) .skip) (.seq (.ite (.or (.cons (.not (.isi (.rd 1) .tuple)) (.cons (.cmp .eq (.b1 .len (.rd 1)) (.cI 0)) (.cons (.cmp .eq (.rd 3) (.cI 0)) (.cons (.cmp .eq (.rd 2) (.cI 0)) .nil))))) (.ret (.call 19 (.cons (.marg 0) (.cons (.cI 2) .nil)))) .skip) (.seq (.asg (.nm 4) (.call 9 (.cons (.marg 0) (.cons (.b1 .len (.rd 1)) .nil)))) (.seq (.ite (.cmp .eq (.rd 3) (.cI 1)) (.ret (.bin .add (.slc (.rd 1) .nil (.rd 4)) (.slc (.rd 1) (.bin .add (.rd 4) (.cI 1)) .nil))) .skip) (.seq (.ite (.cmp .eq (.rd 3) (.cI 2)) (.ret (.bin .add (.bin .add (.slc (.rd 1) .nil (.rd 4)) (.slc (.rd 1) (.rd 4) (.bin .add (.rd 4) (.cI 1)))) (.slc (.rd 1) (.rd 4) .nil))) .skip) (.seq (.ite (.cmp .eq (.rd 3) (.cI 3)) (.ret (.b1 .list (.rd 1))) .skip) (.ret (.bin .add (.bin .add (.slc (.rd 1) .nil (.rd 4)) (.tup (.cons (.call 20 (.cons (.marg 0) (.cons (.idx (.rd 1) (.rd 4)) (.cons (.bin .sub (.rd 2) (.cI 1)) .nil)))) .nil))) (.slc (.rd 1) (.bin .add (.rd 4) (.cI 1)) .nil)))))))))))
def f20 : FI := ⟨3, 5, [0], B20⟩
/-- _law_told: 0 _law_which, 1 _law_talk_here, 2 _law_table_here, 3 _law_found, 4 e -/
def B21 : IS := (.seq (.tryE (.ite (.cmp .eq (.rd 0) (.cI 0)) (.asg (.nm 3) (.call 3 (.cons (.rd 2) .nil))) (.asg (.nm 3) (.call 7 (.cons (.rd 1) (.cons (.rd 2) .nil))))) [0, 1, 2] (some 4) (.seq (.ite (.not (.isc (.rd 4) [0, 1, 2])) (.ret (.cS [111, 116, 104, 101, 114])) .skip) (.seq (.ite (.and (.cons (.isc (.rd 4) [2]) (.cons (.not (.isc (.rd 4) [1])) .nil))) (.ret (.cS [116, 97, 98, 108, 101])) .skip) (.ret (.idx (.lst (.cons (.cS [111, 116, 104, 101, 114]) (.cons (.cS [116, 97, 108, 107]) .nil))) (.b1 .int (.and (.cons (.isc (.rd 4) [1]) (.cons (.not (.isc (.rd 4) [2])) .nil))))))))) (.ret (.idx (.lst (.cons (.cS [111, 116, 104, 101, 114]) (.cons (.cS [102, 105, 110, 101]) .nil))) (.b1 .int (.isN (.rd 3))))))
def f21 : FI := ⟨3, 5, [], B21⟩
/-- _law_is_right: 0 _law_talk_here, 1 _law_table_here, 2 _law_good -/
def B22 : IS := (.seq (.asg (.nm 2) (.call 16 (.cons (.rd 1) .nil))) (.seq (.ite (.cmp .ne (.call 21 (.cons (.cI 0) (.cons .cN (.cons (.rd 1) .nil)))) (.idx (.lst (.cons (.cS [116, 97, 98, 108, 101]) (.cons (.cS [102, 105, 110, 101]) .nil))) (.b1 .int (.rd 2)))) (.ret (.cB false)) .skip) (.seq (.ite (.not (.rd 2)) (.ret (.cmp .eq (.call 21 (.cons (.cI 1) (.cons (.rd 0) (.cons (.rd 1) .nil)))) (.cS [116, 97, 98, 108, 101]))) .skip) (.ret (.cmp .eq (.call 21 (.cons (.cI 1) (.cons (.rd 0) (.cons (.rd 1) .nil)))) (.idx (.lst (.cons (.cS [116, 97, 108, 107]) (.cons (.cS [102, 105, 110, 101]) .nil))) (.b1 .int (.call 18 (.cons (.rd 0) (.cons (.tup (.cons (.b1 .len (.rd 1)) (.cons (.b1 .len (.idx (.rd 1) (.cI 0))) .nil))) .nil))))))))))
def f22 : FI := ⟨2, 3, [], B22⟩
/-- _law_edge: 0 _law_hand, 1 _law_kind, 2 _law_many, 3 _law_coins, 4 _law_pair, 5 _law_told_here, 6 _law_side, 7 _law_end, 8 _law_tree_here, 9 _law_k -/
def B23 : IS := (.seq (.asg (.nm 1) (.call 9 (.cons (.marg 0) (.cons (.cI 6) .nil)))) (.seq (.asg (.nm 2) (.bin .add (.cI 99) (.call 9 (.cons (.marg 0) (.cons (.cI 3) .nil))))) (.seq (.ite (.cmp .eq (.rd 1) (.cI 4)) (.ret (.lst (.cons (.tup (.cons (.cS [116, 97, 108, 107]) (.cons (.cI 256) (.cons (.cI 256) (.cons (.tup (.cons (.cS [101, 110, 100]) (.cons (.bin .mul (.tup (.cons (.bin .mul (.tup (.cons (.cI 0) .nil)) (.cI 256)) .nil)) (.cI 4)) (.cons (.tup (.cons (.bin .mul (.tup (.cons (.cI 0) .nil)) (.cI 256)) .nil)) .nil)))) .nil))))) (.cons (.bin .mul (.tup (.cons (.tup (.cons (.cI 0) .nil)) .nil)) (.cI 4)) .nil)))) .skip) (.seq (.ite (.cmp .eq (.rd 1) (.cI 5)) (.ret (.lst (.cons (.tup (.cons (.cS [116, 97, 108, 107]) (.cons (.cI 1) (.cons (.cI 1) (.cons (.tup (.cons (.cS [101, 110, 100]) (.cons (.bin .mul (.tup (.cons (.tup (.cons (.cI 0) .nil)) .nil)) (.rd 2)) (.cons (.bin .mul (.tup (.cons (.tup (.cons (.cI 0) .nil)) .nil)) (.cI 20)) .nil)))) .nil))))) (.cons (.bin .mul (.tup (.cons (.bin .mul (.tup (.cons (.cI 2) .nil)) (.cI 20)) .nil)) (.rd 2)) .nil)))) .skip) (.seq (.ite (.cmp .eq (.rd 1) (.cI 0)) (.ret (.lst (.cons (.tup (.cons (.cS [116, 97, 108, 107]) (.cons (.cI 1) (.cons (.cI 1) (.cons (.tup (.cons (.cS [101, 110, 100]) (.cons (.bin .mul (.tup (.cons (.tup (.cons (.cI 0) .nil)) .nil)) (.rd 2)) (.cons (.tup (.cons (.tup (.cons (.cI 0) .nil)) .nil)) .nil)))) .nil))))) (.cons (.bin .mul (.tup (.cons (.tup (.cons (.cI 1) .nil)) .nil)) (.rd 2)) .nil)))) .skip) (.seq (.ite (.cmp .eq (.rd 1) (.cI 1)) (.ret (.lst (.cons (.tup (.cons (.cS [116, 97, 108, 107]) (.cons (.cI 1) (.cons (.cI 1) (.cons (.tup (.cons (.cS [101, 110, 100]) (.cons (.tup (.cons (.tup (.cons (.cI 0) .nil)) .nil)) (.cons (.bin .mul (.tup (.cons (.tup (.cons (.cI 0) .nil)) .nil)) (.rd 2)) .nil)))) .nil))))) (.cons (.tup (.cons (.bin .mul (.tup (.cons (.cI 1) .nil)) (.rd 2)) .nil)) .nil)))) .skip) (.seq (.ite (.cmp .eq (.rd 1) (.cI 2)) (.seq (.asg (.nm 3) (.idx (.lst (.cons (.bin .add (.cI 255) (.call 9 (.cons (.marg 0) (.cons (.cI 3) .nil)))) (.cons (.cI 1) (.cons (.cI 0) (.cons (.neg (.cI 1)) .nil))))) (.call 9 (.cons (.marg 0) (.cons (.cI 4) .nil))))) (.seq (.asg (.nm 4) (.idx (.lst (.cons (.tup (.cons (.rd 3) (.cons (.cI 2) .nil))) (.cons (.tup (.cons (.cI 2) (.cons (.rd 3) .nil))) .nil))) (.call 9 (.cons (.marg 0) (.cons (.cI 2) .nil))))) (.seq (.asg (.nm 5) (.comp (.tup (.cons (.bin .mul (.tup (.cons (.cI 0) .nil)) (.idx (.rd 4) (.rd 6))) .nil)) (.nm 6) (.rng1 (.cI 2)) .nil [6])) (.ret (.lst (.cons (.tup (.cons (.cS [116, 97, 108, 107]) (.cons (.idx (.rd 4) (.cI 0)) (.cons (.idx (.rd 4) (.cI 1)) (.cons (.tup (.cons (.cS [115, 97, 121]) (.cons (.cI 0) (.cons (.idx (.rd 5) (.cI 0)) (.cons (.tup (.cons (.cS [101, 110, 100]) (.cons (.idx (.rd 5) (.cI 0)) (.cons (.idx (.rd 5) (.cI 1)) .nil)))) (.cons (.tup (.cons (.cS [101, 110, 100]) (.cons (.idx (.rd 5) (.cI 0)) (.cons (.idx (.rd 5) (.cI 1)) .nil)))) .nil)))))) .nil))))) (.cons (.tup (.cons (.tup (.cons (.cI 3) .nil)) .nil)) .nil))))))) .skip) (.seq (.asg (.nm 7) (.tup (.cons (.cS [101, 110, 100]) (.cons (.tup (.cons (.tup (.cons (.cI 0) .nil)) .nil)) (.cons (.tup (.cons (.tup (.cons (.cI 0) .nil)) .nil)) .nil))))) (.seq (.asg (.nm 8) (.rd 7)) (.seq (.for (.nm 9) (.rng1 (.bin .add (.cI 248) (.call 9 (.cons (.marg 0) (.cons (.cI 3) .nil))))) (.asg (.nm 8) (.idx (.lst (.cons (.tup (.cons (.cS [115, 97, 121]) (.cons (.cI 0) (.cons (.tup (.cons (.tup (.cons (.cI 0) .nil)) .nil)) (.cons (.rd 8) (.cons (.rd 7) .nil)))))) (.cons (.tup (.cons (.cS [115, 97, 121]) (.cons (.cI 1) (.cons (.tup (.cons (.tup (.cons (.cI 1) .nil)) .nil)) (.cons (.rd 7) (.cons (.rd 8) .nil)))))) .nil))) (.bin .mod (.b1 .int (.rd 9)) (.cI 2))))) (.ret (.lst (.cons (.tup (.cons (.cS [116, 97, 108, 107]) (.cons (.cI 1) (.cons (.cI 1) (.cons (.rd 8) .nil))))) (.cons (.tup (.cons (.tup (.cons (.cI 3) .nil)) .nil)) .nil))))))))))))))
def f23 : FI := ⟨1, 10, [0], B23⟩
/-- law: 0 _law_script, 1 _law_hand, 2 _law_sizes, 3 _law_table_here, 4 _law_talk_here, 5 _law_other, 6 _law_step, 7 _law_bent_here, 8 _law_wrong, 9 _law_one, 10 _law_edge_here -/
def B24 : IS := (.seq (.asgM 1 (.lst (.cons (.call 8 (.cons (.rd 0) (.cons (.cI 700) .nil))) (.cons (.cI 0) .nil)))) (.seq (.asg (.nm 2) (.tup (.cons (.bin .add (.cI 1) (.call 9 (.cons (.marg 1) (.cons (.cI 4) .nil)))) (.cons (.bin .add (.cI 1) (.call 9 (.cons (.marg 1) (.cons (.cI 4) .nil)))) .nil)))) (.seq (.asg (.nm 3) (.call 10 (.cons (.marg 1) (.cons (.idx (.rd 2) (.cI 0)) (.cons (.idx (.rd 2) (.cI 1)) (.cons (.cI 4) .nil)))))) (.seq (.asg (.nm 4) (.call 13 (.cons (.marg 1) (.cons (.rd 2) (.cons (.cI 4) .nil))))) (.seq (.asg (.nm 5) (.call 13 (.cons (.marg 1) (.cons (.tup (.cons (.bin .add (.cI 1) (.call 9 (.cons (.marg 1) (.cons (.cI 4) .nil)))) (.cons (.idx (.rd 2) (.cI 1)) .nil))) (.cons (.cI 4) .nil))))) (.seq (.ite (.or (.cons (.not (.call 22 (.cons (.rd 4) (.cons (.rd 3) .nil)))) (.cons (.not (.call 22 (.cons (.rd 5) (.cons (.rd 3) .nil)))) .nil))) (.ret (.cB false)) .skip) (.seq (.for (.nm 6) (.rng1 (.cI 3)) (.seq (.asg (.nm 7) (.call 20 (.cons (.marg 1) (.cons (.rd 4) (.cons (.cI 8) .nil))))) (.seq (.asg (.nm 8) (.call 20 (.cons (.marg 1) (.cons (.rd 3) (.cons (.cI 3) .nil))))) (.seq (.ite (.or (.cons (.not (.call 22 (.cons (.rd 7) (.cons (.rd 3) .nil)))) (.cons (.not (.call 22 (.cons (.rd 4) (.cons (.rd 8) .nil)))) (.cons (.not (.call 22 (.cons (.rd 7) (.cons (.rd 8) .nil)))) .nil)))) (.ret (.cB false)) .skip) (.ite (.not (.call 22 (.cons (.call 20 (.cons (.marg 1) (.cons (.rd 7) (.cons (.cI 8) .nil)))) (.cons (.rd 3) .nil)))) (.ret (.cB false)) .skip))))) (.seq (.for (.nm 9) (.lst (.cons (.call 19 (.cons (.marg 1) (.cons (.cI 3) .nil))) (.cons (.tup .nil) (.cons (.tup (.cons (.tup .nil) .nil)) (.cons (.tup (.cons (.tup (.cons (.cI 1) (.cons (.cI 2) .nil))) (.cons (.tup (.cons (.cI 3) .nil)) .nil))) (.cons (.tup (.cons (.tup (.cons (.cI 1) .nil)) (.cons (.lst (.cons (.cI 2) .nil)) .nil))) (.cons (.lst (.cons (.tup (.cons (.cI 1) .nil)) .nil)) (.cons (.tup (.cons (.tup (.cons (.cB true) .nil)) .nil)) .nil)))))))) (.ite (.or (.cons (.not (.call 22 (.cons (.rd 4) (.cons (.rd 9) .nil)))) (.cons (.not (.call 22 (.cons (.rd 9) (.cons (.rd 3) .nil)))) .nil))) (.ret (.cB false)) .skip)) (.seq (.ite (.cmp .gt (.call 9 (.cons (.marg 1) (.cons (.cI 5) .nil))) (.cI 0)) (.ret (.cB true)) .skip) (.seq (.asg (.nm 10) (.call 23 (.cons (.marg 1) .nil))) (.ret (.call 22 (.cons (.idx (.rd 10) (.cI 0)) (.cons (.idx (.rd 10) (.cI 1)) .nil))))))))))))))
def f24 : FI := ⟨1, 11, [], B24⟩
/-- Shape.__init__: 0 self, 1 inputs, 2 coins -/
def B25 : IS := (.seq (.setf 0 0 [3] (.rd 1)) (.setf 0 1 [3] (.rd 2)))
def f25 : FI := ⟨3, 3, [0], B25⟩
/-- Shape.is_say: 0 self, 1 tree, 2 side -/
def B26 : IS := (.seq (.ite (.or (.cons (.not (.isi (.rd 1) .tuple)) (.cons (.cmp .ne (.b1 .len (.rd 1)) (.cI 5)) (.cons (.cmp .ne (.idx (.rd 1) (.cI 0)) (.cS [115, 97, 121])) .nil)))) (.ret (.cB false)) .skip) (.seq (.asg (.nm 2) (.idx (.rd 1) (.cI 1))) (.ret (.and (.cons (.call 0 (.cons (.rd 2) .nil)) (.cons (.dhas false (.rd 2) (.ofd (.rd 0) 0 [3])) (.cons (.call 5 (.cons (.idx (.rd 1) (.cI 2)) (.cons (.idx (.ofd (.rd 0) 0 [3]) (.rd 2)) (.cons (.idx (.ofd (.rd 0) 1 [3]) (.rd 2)) .nil)))) .nil)))))))
def f26 : FI := ⟨2, 3, [], B26⟩
/-- Shape.is_end: 0 self, 1 tree, 2 side -/
def B27 : IS := (.seq (.ite (.or (.cons (.not (.isi (.rd 1) .tuple)) (.cons (.cmp .ne (.b1 .len (.rd 1)) (.cI 3)) (.cons (.cmp .ne (.idx (.rd 1) (.cI 0)) (.cS [101, 110, 100])) .nil)))) (.ret (.cB false)) .skip) (.ret (.b1 .all (.comp (.call 4 (.cons (.idx (.rd 1) (.bin .add (.rd 2) (.cI 1))) (.cons (.idx (.ofd (.rd 0) 0 [3]) (.rd 2)) (.cons (.idx (.ofd (.rd 0) 1 [3]) (.rd 2)) .nil)))) (.nm 2) (.tup (.cons (.cI 0) (.cons (.cI 1) .nil))) .nil [2]))))
def f27 : FI := ⟨2, 3, [], B27⟩
/-- Shape.is_end_of_people: 0 self, 1 tree, 2 one -/
def B28 : IS := (.seq (.ite (.or (.cons (.not (.isi (.rd 1) .tuple)) (.cons (.cmp .ne (.b1 .len (.rd 1)) (.cI 2)) (.cons (.cmp .ne (.idx (.rd 1) (.cI 0)) (.cS [101, 110, 100])) .nil)))) (.ret (.cB false)) .skip) (.seq (.ite (.or (.cons (.not (.isi (.idx (.rd 1) (.cI 1)) .tuple)) (.cons (.cmp .ne (.b1 .len (.idx (.rd 1) (.cI 1))) (.b1 .len (.ofd (.rd 0) 0 [3]))) .nil))) (.ret (.cB false)) .skip) (.ret (.b1 .all (.comp (.call 4 (.cons (.idx (.idx (.rd 1) (.cI 1)) (.bin .sub (.rd 2) (.cI 1))) (.cons (.idx (.ofd (.rd 0) 0 [3]) (.rd 2)) (.cons (.idx (.ofd (.rd 0) 1 [3]) (.rd 2)) .nil)))) (.nm 2) (.ofd (.rd 0) 0 [3]) .nil [2])))))
def f28 : FI := ⟨2, 3, [], B28⟩
def L : List FI := [f0, f1, f2, f3, f4, f5, f6, f7, f8, f9, f10, f11, f12, f13, f14, f15, f16, f17, f18, f19, f20, f21, f22, f23, f24, f25, f26, f27, f28]
def d0 : FD := fdOf PySem.Challenge.pw_jointhands_k02_tables_and_talks_that_are 5 ["value"]
def d1 : FD := fdOf PySem.Challenge.pw_jointhands_k02_tables_and_talks_that_are 6 ["values", "value"]
def d2 : FD := fdOf PySem.Challenge.pw_jointhands_k02_tables_and_talks_that_are 13 ["value", "least", "most"]
def d3 : FD := fdOf PySem.Challenge.pw_jointhands_k02_tables_and_talks_that_are 14 ["table", "row"]
def d4 : FD := fdOf PySem.Challenge.pw_jointhands_k02_tables_and_talks_that_are 15 ["value", "many", "coins", "one"]
def d5 : FD := fdOf PySem.Challenge.pw_jointhands_k02_tables_and_talks_that_are 16 ["value", "many", "coins", "one", "bit"]
def d6 : FD := fdOf PySem.Challenge.pw_jointhands_k02_tables_and_talks_that_are 18 ["shape", "tree", "of_people", "waiting", "seen", "one", "depth"]
def d7 : FD := fdOf PySem.Challenge.pw_jointhands_k02_tables_and_talks_that_are 19 ["talk", "table", "shape"]
def d8 : FD := fdOf PySem.Challenge.pw_jointhands_k02_tables_and_talks_that_are 21 ["_law_script", "_law_many", "_law_rests", "_law_cell", "_law_draws_here", "_law_k", "_law_at", "_law_mixed"]
def d9 : FD := fdOf PySem.Challenge.pw_jointhands_k02_tables_and_talks_that_are 22 ["_law_hand", "_law_many", "_law_at", "_law_draws_here"]
def d10 : FD := fdOf PySem.Challenge.pw_jointhands_k02_tables_and_talks_that_are 23 ["_law_hand", "_law_rows", "_law_columns", "_law_answers", "_law_y", "_law_x"]
def d11 : FD := fdOf PySem.Challenge.pw_jointhands_k02_tables_and_talks_that_are 24 ["_law_hand", "_law_inputs", "_law_coins", "_law_most", "_law_r", "_law_x"]
def d12 : FD := fdOf PySem.Challenge.pw_jointhands_k02_tables_and_talks_that_are 25 ["_law_hand", "_law_sizes", "_law_coins", "_law_depth", "_law_answers", "_law_ends", "_law_side", "_law_bits_here", "_law_first"]
def d13 : FD := fdOf PySem.Challenge.pw_jointhands_k02_tables_and_talks_that_are 26 ["_law_hand", "_law_sizes", "_law_answers", "_law_coins"]
def d14 : FD := fdOf PySem.Challenge.pw_jointhands_k02_tables_and_talks_that_are 27 ["_law_value", "_law_least", "_law_most"]
def d15 : FD := fdOf PySem.Challenge.pw_jointhands_k02_tables_and_talks_that_are 28 ["_law_value"]
def d16 : FD := fdOf PySem.Challenge.pw_jointhands_k02_tables_and_talks_that_are 29 ["_law_value", "_law_row", "_law_one"]
def d17 : FD := fdOf PySem.Challenge.pw_jointhands_k02_tables_and_talks_that_are 30 ["_law_value", "_law_inputs", "_law_coins", "_law_bits_here", "_law_row", "_law_one"]
def d18 : FD := fdOf PySem.Challenge.pw_jointhands_k02_tables_and_talks_that_are 31 ["_law_value", "_law_sizes", "_law_coins", "_law_level", "_law_depth", "_law_below", "_law_tree_here"]
def d19 : FD := fdOf PySem.Challenge.pw_jointhands_k02_tables_and_talks_that_are 32 ["_law_hand", "_law_depth", "_law_kind", "_law_parts", "_law_k", "_law_values"]
def d20 : FD := fdOf PySem.Challenge.pw_jointhands_k02_tables_and_talks_that_are 33 ["_law_hand", "_law_value", "_law_depth", "_law_kind", "_law_at"]
def d21 : FD := fdOf PySem.Challenge.pw_jointhands_k02_tables_and_talks_that_are 34 ["_law_which", "_law_talk_here", "_law_table_here", "_law_found", "e"]
def d22 : FD := fdOf PySem.Challenge.pw_jointhands_k02_tables_and_talks_that_are 35 ["_law_talk_here", "_law_table_here", "_law_good"]
def d23 : FD := fdOf PySem.Challenge.pw_jointhands_k02_tables_and_talks_that_are 36 ["_law_hand", "_law_kind", "_law_many", "_law_coins", "_law_pair", "_law_told_here", "_law_side", "_law_end", "_law_tree_here", "_law_k"]
def d24 : FD := fdOf PySem.Challenge.pw_jointhands_k02_tables_and_talks_that_are 37 ["_law_script", "_law_hand", "_law_sizes", "_law_table_here", "_law_talk_here", "_law_other", "_law_step", "_law_bent_here", "_law_wrong", "_law_one", "_law_edge_here"]
def d25 : FD := fdMt PySem.Challenge.pw_jointhands_k02_tables_and_talks_that_are 17 0 "Shape" "Shape.__init__" ["self", "inputs", "coins"]
def d26 : FD := fdMt PySem.Challenge.pw_jointhands_k02_tables_and_talks_that_are 17 1 "Shape" "Shape.is_say" ["self", "tree", "side"]
def d27 : FD := fdMt PySem.Challenge.pw_jointhands_k02_tables_and_talks_that_are 17 2 "Shape" "Shape.is_end" ["self", "tree", "side"]
def d28 : FD := fdMt PySem.Challenge.pw_jointhands_k02_tables_and_talks_that_are 17 3 "Shape" "Shape.is_end_of_people" ["self", "tree", "one"]
def ds : List FD := [d0, d1, d2, d3, d4, d5, d6, d7, d8, d9, d10, d11, d12, d13, d14, d15, d16, d17, d18, d19, d20, d21, d22, d23, d24, d25, d26, d27, d28]
def W : LW := ⟨ds, ["ValueError", "abs", "all", "bool", "int", "isinstance", "len", "list", "range", "str", "tuple"], [("MOST_COINS", 256), ("MOST_DEPTH", 250), ("MOST_LINES", 100), ("MOST_PEOPLE_TREES", 200), ("MOST_TREES", 40000)], [⟨"JointError", none⟩, ⟨"BadTalk", none⟩, ⟨"BadTable", none⟩], ["inputs", "coins"], [(none, [0, 1, 2]), (some 2, [2]), (some 1, [1]), (some 0, [0, 1, 2])], [], [], ["Shape"], [(3, 0), (3, 1)], [(3, "is_say", 26), (3, "is_end_of_people", 28), (3, "is_end", 27)], [(3, "Shape", 25)]⟩
theorem c0 : chkF W.pg f0 d0 = true := by decide +kernel
theorem c1 : chkF W.pg f1 d1 = true := by decide +kernel
theorem c2 : chkF W.pg f2 d2 = true := by decide +kernel
theorem c3 : chkF W.pg f3 d3 = true := by decide +kernel
theorem c4 : chkF W.pg f4 d4 = true := by decide +kernel
theorem c5 : chkF W.pg f5 d5 = true := by decide +kernel
theorem c6 : chkF W.pg f6 d6 = true := by decide +kernel
theorem c7 : chkF W.pg f7 d7 = true := by decide +kernel
theorem c8 : chkF W.pg f8 d8 = true := by decide +kernel
theorem c9 : chkF W.pg f9 d9 = true := by decide +kernel
theorem c10 : chkF W.pg f10 d10 = true := by decide +kernel
theorem c11 : chkF W.pg f11 d11 = true := by decide +kernel
theorem c12 : chkF W.pg f12 d12 = true := by decide +kernel
theorem c13 : chkF W.pg f13 d13 = true := by decide +kernel
theorem c14 : chkF W.pg f14 d14 = true := by decide +kernel
theorem c15 : chkF W.pg f15 d15 = true := by decide +kernel
theorem c16 : chkF W.pg f16 d16 = true := by decide +kernel
theorem c17 : chkF W.pg f17 d17 = true := by decide +kernel
theorem c18 : chkF W.pg f18 d18 = true := by decide +kernel
theorem c19 : chkF W.pg f19 d19 = true := by decide +kernel
theorem c20 : chkF W.pg f20 d20 = true := by decide +kernel
theorem c21 : chkF W.pg f21 d21 = true := by decide +kernel
theorem c22 : chkF W.pg f22 d22 = true := by decide +kernel
theorem c23 : chkF W.pg f23 d23 = true := by decide +kernel
theorem c24 : chkF W.pg f24 d24 = true := by decide +kernel
theorem c25 : chkF W.pg f25 d25 = true := by decide +kernel
theorem c26 : chkF W.pg f26 d26 = true := by decide +kernel
theorem c27 : chkF W.pg f27 d27 = true := by decide +kernel
theorem c28 : chkF W.pg f28 d28 = true := by decide +kernel
theorem call : chkAll W.pg L ds = true := by
  show (chkF W.pg f0 d0 && (chkF W.pg f1 d1 && (chkF W.pg f2 d2 && (chkF W.pg f3 d3 && (chkF W.pg f4 d4 && (chkF W.pg f5 d5 && (chkF W.pg f6 d6 && (chkF W.pg f7 d7 && (chkF W.pg f8 d8 && (chkF W.pg f9 d9 && (chkF W.pg f10 d10 && (chkF W.pg f11 d11 && (chkF W.pg f12 d12 && (chkF W.pg f13 d13 && (chkF W.pg f14 d14 && (chkF W.pg f15 d15 && (chkF W.pg f16 d16 && (chkF W.pg f17 d17 && (chkF W.pg f18 d18 && (chkF W.pg f19 d19 && (chkF W.pg f20 d20 && (chkF W.pg f21 d21 && (chkF W.pg f22 d22 && (chkF W.pg f23 d23 && (chkF W.pg f24 d24 && (chkF W.pg f25 d25 && (chkF W.pg f26 d26 && (chkF W.pg f27 d27 && (chkF W.pg f28 d28 && true))))))))))))))))))))))))))))) = true
  rw [c0, c1, c2, c3, c4, c5, c6, c7, c8, c9, c10, c11, c12, c13, c14, c15, c16, c17, c18, c19, c20, c21, c22, c23, c24, c25, c26, c27, c28]; rfl
theorem hot : hotAll W.pg L ds = true := by decide +kernel
theorem chj : chkJ W = true := by decide +kernel
theorem b0 : Bnd d0 := fun _ _ _ _ _ _ us hl => match us, hl with | [_], _ => rfl
theorem b1 : Bnd d1 := fun _ _ _ _ _ _ us hl => match us, hl with | [_], _ => rfl
theorem b2 : Bnd d2 := fun _ _ _ _ _ _ us hl => match us, hl with | [_, _, _], _ => rfl
theorem b3 : Bnd d3 := fun _ _ _ _ _ _ us hl => match us, hl with | [_], _ => rfl
theorem b4 : Bnd d4 := fun _ _ _ _ _ _ us hl => match us, hl with | [_, _, _], _ => rfl
theorem b5 : Bnd d5 := fun _ _ _ _ _ _ us hl => match us, hl with | [_, _, _], _ => rfl
theorem b6 : Bnd d6 := fun _ _ _ _ _ _ us hl => match us, hl with | [_, _, _], _ => rfl
theorem b7 : Bnd d7 := fun _ _ _ _ _ _ us hl => match us, hl with | [_, _], _ => rfl
theorem b8 : Bnd d8 := fun _ _ _ _ _ _ us hl => match us, hl with | [_, _], _ => rfl
theorem b9 : Bnd d9 := fun _ _ _ _ _ _ us hl => match us, hl with | [_, _], _ => rfl
theorem b10 : Bnd d10 := fun _ _ _ _ _ _ us hl => match us, hl with | [_, _, _, _], _ => rfl
theorem b11 : Bnd d11 := fun _ _ _ _ _ _ us hl => match us, hl with | [_, _, _, _], _ => rfl
theorem b12 : Bnd d12 := fun _ _ _ _ _ _ us hl => match us, hl with | [_, _, _, _, _], _ => rfl
theorem b13 : Bnd d13 := fun _ _ _ _ _ _ us hl => match us, hl with | [_, _, _], _ => rfl
theorem b14 : Bnd d14 := fun _ _ _ _ _ _ us hl => match us, hl with | [_, _, _], _ => rfl
theorem b15 : Bnd d15 := fun _ _ _ _ _ _ us hl => match us, hl with | [_], _ => rfl
theorem b16 : Bnd d16 := fun _ _ _ _ _ _ us hl => match us, hl with | [_], _ => rfl
theorem b17 : Bnd d17 := fun _ _ _ _ _ _ us hl => match us, hl with | [_, _, _, _], _ => rfl
theorem b18 : Bnd d18 := fun _ _ _ _ _ _ us hl => match us, hl with | [_, _], _ => rfl
theorem b19 : Bnd d19 := fun _ _ _ _ _ _ us hl => match us, hl with | [_, _], _ => rfl
theorem b20 : Bnd d20 := fun _ _ _ _ _ _ us hl => match us, hl with | [_, _, _], _ => rfl
theorem b21 : Bnd d21 := fun _ _ _ _ _ _ us hl => match us, hl with | [_, _, _], _ => rfl
theorem b22 : Bnd d22 := fun _ _ _ _ _ _ us hl => match us, hl with | [_, _], _ => rfl
theorem b23 : Bnd d23 := fun _ _ _ _ _ _ us hl => match us, hl with | [_], _ => rfl
theorem b24 : Bnd d24 := fun _ _ _ _ _ _ us hl => match us, hl with | [_], _ => rfl
theorem b25 : Bnd d25 := fun _ _ _ _ _ _ us hl => match us, hl with | [_, _, _], _ => rfl
theorem b26 : Bnd d26 := fun _ _ _ _ _ _ us hl => match us, hl with | [_, _], _ => rfl
theorem b27 : Bnd d27 := fun _ _ _ _ _ _ us hl => match us, hl with | [_, _], _ => rfl
theorem b28 : Bnd d28 := fun _ _ _ _ _ _ us hl => match us, hl with | [_, _], _ => rfl
theorem allB : AllB ds := .cons b0 (.cons b1 (.cons b2 (.cons b3 (.cons b4 (.cons b5 (.cons b6 (.cons b7 (.cons b8 (.cons b9 (.cons b10 (.cons b11 (.cons b12 (.cons b13 (.cons b14 (.cons b15 (.cons b16 (.cons b17 (.cons b18 (.cons b19 (.cons b20 (.cons b21 (.cons b22 (.cons b23 (.cons b24 (.cons b25 (.cons b26 (.cons b27 (.cons b28 (.nil)))))))))))))))))))))))))))))
theorem allI : AllI W.ins := .nil
end K02

namespace K02
open PySem JH
abbrev R : PySem.W.OpenRow := PySem.W.OpenLaw.row PySem.Challenge.rw_jointhands_k02_tables_and_talks_that_are
abbrev hk : PySem.W.Hook := hookX W 4
def ob (s : PySem.W.SharedT) : He.AlD × Bool := obsX W 4 (HandSHeadRun.getT s)
theorem ob_eq (s : PySem.W.SharedT) : ob s = hk.obs s.abs := obsX_eq (HandSHeadRun.getT_eq s)
def loose1 : List Str := [("JointError" : Str), ("BadTalk" : Str), ("BadTable" : Str), ("is_integer" : Str), ("is_listed" : Str), ("MOST_LINES" : Str), ("MOST_COINS" : Str), ("MOST_DEPTH" : Str), ("MOST_TREES" : Str), ("MOST_PEOPLE_TREES" : Str), ("is_between" : Str), ("check_table" : Str), ("are_told" : Str), ("are_bits" : Str), ("Shape" : Str), ("check_tree" : Str), ("check_talk" : Str), ("_law_draws" : Str)]
def loose2 : List Str := [("_law_take" : Str), ("_law_table" : Str), ("_law_bits" : Str), ("_law_tree" : Str), ("_law_talk" : Str), ("_law_within" : Str), ("_law_is_integer" : Str), ("_law_table_good" : Str), ("_law_told_good" : Str), ("_law_talk_good" : Str), ("_law_odd" : Str), ("_law_bent" : Str), ("_law_told" : Str), ("_law_is_right" : Str), ("_law_edge" : Str)]
def loose : List Str := loose1 ++ loose2
theorem run1 (w : World) (os : OsState) : (HandSHeadRun.endF (HandSHeadRun.stepQ (HandSHeadRun.denQ HandSHeadRun.tabQ) R.prog w) 6000 R.prog w os).map (fun s => (ob s).1.1) = some true := by kernel_rfl
theorem run (w : World) : HandSHeadRun.RunEq R (PySem.W.view R.prog [37]) hk ob 6000 loose w := by
  intro os
  kernel_rfl
end K02

namespace K02
open PySem JH
local macro_rules | `(tactic| trivial) => `(tactic| first
  | ((with_reducible refine gdS ?_); first | refine r_seq ?_ | refine r_asg ?_ | refine r_if ?_ | refine r_ret ?_ | refine r_skip ?_ | refine r_asgM ?_ | refine r_for ?_ | refine r_app rfl rfl ?_ | refine r_sto ?_ | refine r_ex ?_ | refine r_retN ?_ | refine r_rse ?_ | refine r_rsi ?_ | refine r_aug rfl ?_ | refine r_asgN ?_ | refine r_par ?_ | refine r_brk ?_ | refine r_cont ?_ | refine r_wh ?_ | refine r_setf ?_)
  | ((with_reducible refine gdE ?_); first | refine r_rd rfl ?_ | refine r_cI ?_ | refine r_call ?_ | refine r_acons rfl ?_ | refine r_amarg rfl ?_ | refine r_anil ?_ | (apply r_cv rfl; focus (repeat (first | exact AVs.nil | apply AVs.d | (apply AVs.m; rfl)))) | refine r_tru ?_ | refine r_t rfl ?_ | refine r_cmp ?_ | refine r_bin ?_ | refine r_idx ?_ | refine r_cS ?_ | refine r_tup ?_ | refine r_cons ?_ | refine r_nil ?_ | refine r_lst ?_ | refine r_cB ?_ | refine r_cN ?_ | refine r_midx rfl ?_ | refine r_b1 ?_ | refine r_and ?_ | refine r_or ?_ | refine r_andc ?_ | refine r_orc ?_ | refine r_and1 ?_ | refine r_or1 ?_ | refine r_not ?_ | refine r_chn ?_ | refine r_truE ?_ | refine r_pb1 rfl peekB_map rfl ?_ | refine r_isN ?_ | refine r_notN ?_ | refine r_rng2 ?_ | refine r_rng1 ?_ | refine r_fz rfl ?_ | refine r_b2 ?_ | refine r_notV ?_ | refine r_tupR ?_ | refine r_neg ?_ | refine r_chn4 ?_ | refine r_gl (by assumption) ?_ | refine r_isc ?_ | refine r_cv1 ?_ | refine r_cv2 ?_ | refine r_isi ?_ | refine r_isi2 ?_ | refine r_slc ?_ | refine r_oN ?_ | refine r_oS rfl ?_ | refine r_tN ?_ | refine r_comp ?_ | refine r_ofd ?_ | refine r_dct ?_ | refine r_dhas ?_ | refine r_meth ?_ | refine r_mk ?_ | refine r_it rfl ?_)
  | ((with_reducible refine gdI ?_); first | refine r_eqT rfl ?_ | refine r_eqF rfl ?_)
  | ((with_reducible refine gdX ?_); first | refine ⟨_, xB_add, ?_⟩ | refine ⟨_, xB_sub, ?_⟩ | refine ⟨_, xB_mul (by first | exact small_lit (by decide +kernel) | exact small_lit1 (by decide +kernel) | exact small_lit1 (small_of (by omega) (by omega)) | exact small_lit (small_of (by omega) (by omega))), ?_⟩ | refine ⟨_, xB_mod (by first | assumption | omega), ?_⟩ | refine ⟨_, xB_fdiv (by omega), ?_⟩ | refine ⟨_, xB_pow (by decide +kernel), ?_⟩ | refine ⟨_, xB_addS (by first | assumption | exact cutS (by assumption) | exact oneS) (by first | assumption | exact cutS (by assumption) | exact oneS), ?_⟩ | refine ⟨_, xB_addSL (by first | assumption | exact cutS (by assumption) | exact oneS) (by first | assumption | exact cutS (by assumption) | exact oneS), ?_⟩ | refine ⟨_, xB_addL (by first | decide | (simp; done) | (simp; omega)), ?_⟩ | refine ⟨_, xB_addT (by first | decide | (simp; done) | (simp; omega)), ?_⟩ | refine ⟨_, dIdx_t0, ?_⟩ | refine ⟨_, dIdx_t1, ?_⟩ | refine ⟨_, dIdx_t2, ?_⟩ | refine ⟨_, rfl, ?_⟩ | refine ⟨_, rfl, rfl, ?_⟩ | refine ⟨_, _, rfl, rfl, ?_⟩ | refine ⟨_, if_pos (by first | decide | assumption | omega), ?_⟩)
  | ((with_reducible refine gdA ?_); first | refine And.intro (by first | assumption | decide | omega | rfl) ?_))
variable {n wf : Nat} {G : Nat → Option D}
theorem s9 {ds : List Int} {a : Nat} {m : Int} (hm : 0 < m) : xF L G wf (n + 1) 9 [hand ds a, .d (.int m)] = .ret (.int (take ds a m)) [some (hand ds (a + 1)), none] := by
  refine sat_ret (call_satB rfl rfl [some (hand ds a), some (.d (.int m)), none, none] rfl ?_)
  unfold B9 hand
  repeat trivial
  refine r_dec (fun h => ?_) (fun h => ?_)
  · repeat trivial
    rw [List.length_map] at h
    refine ⟨?_, rfl⟩
    unfold take
    rw [if_neg (by omega)]
  · repeat trivial
    rw [List.length_map] at h
    have h : a < ds.length := by omega
    refine ⟨_, dIdx_lst (d := .int (ds[a])) (by rw [List.getElem?_map, List.getElem?_eq_getElem h]; rfl), ?_⟩
    repeat trivial
    refine ⟨?_, rfl⟩
    unfold take
    rw [if_pos h, List.getD_eq_getElem?_getD, List.getElem?_eq_getElem h]
    rfl
theorem take_lt {ds : List Int} {a : Nat} {m : Int} (hm : 0 < m) : 0 ≤ take ds a m ∧ take ds a m < m := by
  unfold take
  split
  · exact ⟨Int.emod_nonneg _ (by omega), Int.emod_lt_of_pos _ hm⟩
  · exact ⟨Int.le_refl _, hm⟩
/-- a draw below m: a number of some place -/
theorem take_nat {ds : List Int} {a m : Nat} (hm : 0 < m) : ∃ v : Nat, take ds a m = v ∧ v < m := by
  have := take_lt (ds := ds) (a := a) (m := m) (by omega)
  exact ⟨(take ds a m).toNat, by omega, by omega⟩
/-! ### bits -/
def dRow (r : List Int) : D := .tup (r.map .int)
def dBits (b : List (List Int)) : D := .tup (b.map dRow)
/-- k rows of c numbers below m -/
structure Bits (k c : Nat) (m : Int) (b : List (List Int)) : Prop where
  len : b.length = k
  row : ∀ r ∈ b, r.length = c ∧ ∀ v ∈ r, 0 ≤ v ∧ v < m
theorem s11 {ds : List Int} {a k c : Nat} {m : Int} (hm : 0 < m) (hk : k ≤ 16777216) (hc : c ≤ 16777216) : (xF L G wf (n + 2) 11 [hand ds a, .d (.int (k : Int)), .d (.int (c : Int)), .d (.int m)]).sat (fun x os => ∃ b a', Bits k c m b ∧ x = dBits b ∧ os = [some (hand ds a'), none, none, none]) fun _ => False := by
  refine call_satB rfl rfl [some (hand ds a), some (.d (.int (k : Int))), some (.d (.int (c : Int))), some (.d (.int m)), none, none] rfl ?_
  unfold B11
  repeat trivial
  refine compL_rng (fun i ys σ => ∃ b a', ys = b.map dRow ∧ Bits i c m b ∧ σ = [some (hand ds a'), some (.d (.int (k : Int))), some (.d (.int (c : Int))), some (.d (.int m)), none, none]) ⟨[], a, rfl, ⟨rfl, by simp⟩, rfl⟩ ?_ ?_
  · rintro i ys σ hi ⟨b, a1, rfl, hb, rfl⟩
    refine compF_sat rfl ?_
    repeat trivial
    refine compL_rng (fun j ys σ => ∃ r a', ys = r.map D.int ∧ (r.length = j ∧ ∀ v ∈ r, 0 ≤ v ∧ v < m) ∧ σ = [some (hand ds a'), some (.d (.int (k : Int))), some (.d (.int (c : Int))), some (.d (.int m)), none, some (.d (.int (i : Int)))]) ⟨[], a1, rfl, ⟨rfl, by simp⟩, rfl⟩ ?_ ?_
    · rintro j ys σ hj ⟨r, a2, rfl, hr, rfl⟩
      refine compF_sat rfl ?_
      repeat trivial
      refine CR.sat_eq (s9 hm) ?_
      refine ⟨r ++ [take ds a2 m], a2 + 1, by simp, ⟨by simp [hr.1], fun v hv => ?_⟩, rfl⟩
      rcases List.mem_append.mp hv with hv | hv
      · exact hr.2 v hv
      · cases List.mem_singleton.mp hv
        exact take_lt hm
    · rintro ys σ ⟨r, a2, rfl, hr, rfl⟩
      repeat trivial
      refine ⟨b ++ [r], a2, by simp [dRow], ⟨by simp [hb.len], fun v hv => ?_⟩, rfl⟩
      rcases List.mem_append.mp hv with hv | hv
      · exact hb.row v hv
      · cases List.mem_singleton.mp hv
        exact hr
  · rintro ys σ ⟨b, a1, rfl, hb, rfl⟩
    exact ⟨_, rfl, b, a1, hb, rfl, rfl⟩
end K02

namespace K02
open PySem JH
local macro_rules | `(tactic| trivial) => `(tactic| first
  | ((with_reducible refine gdS ?_); first | refine r_seq ?_ | refine r_asg ?_ | refine r_if ?_ | refine r_ret ?_ | refine r_skip ?_ | refine r_asgM ?_ | refine r_for ?_ | refine r_app rfl rfl ?_ | refine r_sto ?_ | refine r_ex ?_ | refine r_retN ?_ | refine r_rse ?_ | refine r_rsi ?_ | refine r_aug rfl ?_ | refine r_asgN ?_ | refine r_par ?_ | refine r_brk ?_ | refine r_cont ?_ | refine r_wh ?_ | refine r_setf ?_)
  | ((with_reducible refine gdE ?_); first | refine r_rd rfl ?_ | refine r_cI ?_ | refine r_call ?_ | refine r_acons rfl ?_ | refine r_amarg rfl ?_ | refine r_anil ?_ | (apply r_cv rfl; focus (repeat (first | exact AVs.nil | apply AVs.d | (apply AVs.m; rfl)))) | refine r_tru ?_ | refine r_t rfl ?_ | refine r_cmp ?_ | refine r_bin ?_ | refine r_idx ?_ | refine r_cS ?_ | refine r_tup ?_ | refine r_cons ?_ | refine r_nil ?_ | refine r_lst ?_ | refine r_cB ?_ | refine r_cN ?_ | refine r_midx rfl ?_ | refine r_b1 ?_ | refine r_and ?_ | refine r_or ?_ | refine r_andc ?_ | refine r_orc ?_ | refine r_and1 ?_ | refine r_or1 ?_ | refine r_not ?_ | refine r_chn ?_ | refine r_truE ?_ | refine r_pb1 rfl peekB_map rfl ?_ | refine r_isN ?_ | refine r_notN ?_ | refine r_rng2 ?_ | refine r_rng1 ?_ | refine r_fz rfl ?_ | refine r_b2 ?_ | refine r_notV ?_ | refine r_tupR ?_ | refine r_neg ?_ | refine r_chn4 ?_ | refine r_gl (by assumption) ?_ | refine r_isc ?_ | refine r_cv1 ?_ | refine r_cv2 ?_ | refine r_isi ?_ | refine r_isi2 ?_ | refine r_slc ?_ | refine r_oN ?_ | refine r_oS rfl ?_ | refine r_tN ?_ | refine r_comp ?_ | refine r_ofd ?_ | refine r_dct ?_ | refine r_dhas ?_ | refine r_meth ?_ | refine r_mk ?_ | refine r_it rfl ?_)
  | ((with_reducible refine gdI ?_); first | refine r_eqT rfl ?_ | refine r_eqF rfl ?_)
  | ((with_reducible refine gdX ?_); first | refine ⟨_, xB_add, ?_⟩ | refine ⟨_, xB_sub, ?_⟩ | refine ⟨_, xB_mul (by first | exact small_lit (by decide +kernel) | exact small_lit1 (by decide +kernel) | exact small_lit1 (small_of (by omega) (by omega)) | exact small_lit (small_of (by omega) (by omega))), ?_⟩ | refine ⟨_, xB_mod (by first | assumption | omega), ?_⟩ | refine ⟨_, xB_fdiv (by omega), ?_⟩ | refine ⟨_, xB_pow (by decide +kernel), ?_⟩ | refine ⟨_, xB_addS (by first | assumption | exact cutS (by assumption) | exact oneS) (by first | assumption | exact cutS (by assumption) | exact oneS), ?_⟩ | refine ⟨_, xB_addSL (by first | assumption | exact cutS (by assumption) | exact oneS) (by first | assumption | exact cutS (by assumption) | exact oneS), ?_⟩ | refine ⟨_, xB_addL (by first | decide | (simp; done) | (simp; omega)), ?_⟩ | refine ⟨_, xB_addT (by first | decide | (simp; done) | (simp; omega)), ?_⟩ | refine ⟨_, dIdx_t0, ?_⟩ | refine ⟨_, dIdx_t1, ?_⟩ | refine ⟨_, dIdx_t2, ?_⟩ | refine ⟨_, rfl, ?_⟩ | refine ⟨_, rfl, rfl, ?_⟩ | refine ⟨_, _, rfl, rfl, ?_⟩ | refine ⟨_, if_pos (by first | decide | assumption | omega), ?_⟩)
  | ((with_reducible refine gdA ?_); first | refine And.intro (by first | assumption | decide | omega | rfl) ?_))
variable {n wf : Nat} {G : Nat → Option D}
/-! ### trees -/
def pair (K : Nat → Nat) : D := .tup [.int (K 0 : Nat), .int (K 1 : Nat)]
theorem pair_ix {K : Nat → Nat} {s : Nat} (h : s < 2) : dIdx (pair K) (.int (s : Int)) = some (.int (K s : Nat)) := by
  match s, h with
  | 0, _ => rfl
  | 1, _ => rfl
inductive Tr where
  | fin (e f : List (List Int))
  | say (s : Nat) (b : List (List Int)) (t u : Tr)
def Tr.toD : Tr → D
  | .fin e f => .tup [.str [101, 110, 100], dBits e, dBits f]
  | .say s b t u => .tup [.str [115, 97, 121], .int (s : Int), dBits b, t.toD, u.toD]
def Tr.dep : Tr → Nat
  | .fin _ _ => 0
  | .say _ _ t u => max t.dep u.dep + 1
structure Shape (k c : Nat) (b : List (List Int)) : Prop where
  len : b.length = k
  row : ∀ r ∈ b, r.length = c
  lim : ∀ r ∈ b, ∀ v ∈ r, 0 ≤ v ∧ v < 4
theorem Bits.shape {k c : Nat} {m : Int} {b : List (List Int)} (h : Bits k c m b) (hm : m ≤ 4) : Shape k c b := ⟨h.len, fun r hr => (h.row r hr).1, fun r hr v hv => by have := (h.row r hr).2 v hv; omega⟩
inductive Good (K C : Nat → Nat) : Tr → Prop
  | fin {e f : List (List Int)} : Shape (K 0) (C 0) e → Shape (K 1) (C 1) f → Good K C (.fin e f)
  | say {s : Nat} {b : List (List Int)} {t u : Tr} : s < 2 → Bits (K s) (C s) 2 b → Good K C t → Good K C u → Good K C (.say s b t u)
theorem eqv_int {i j : Int} : D.eqv (.int i) (.int j) = true → i = j := fun h => eq_of_beq h
theorem eqv_ne {i j : Int} : D.eqv (.int i) (.int j) = false → i ≠ j := fun h e => by
  subst e
  have : (i == i) = false := h
  simp at this
section
variable {K C : Nat → Nat} {ds : List Int} {m : Int}
def E4 : IS := match B12 with
  | .seq (.ite _ e _) _ => e
  | _ => .skip
theorem ends (hK : ∀ i, i < 2 → K i ≤ 16777216) (hC : ∀ i, i < 2 → C i ≤ 16777216) (hm : 0 < m) (h4 : m ≤ 4) {dd : D} {k : KQ} {a : Nat} (h : ∀ e f a' s13, Shape (K 0) (C 0) e → Shape (K 1) (C 1) f → k.ret (Tr.fin e f).toD [some (hand ds a'), some (.d (pair K)), some (.d (pair C)), some (.d dd), some (.d (.int m)), s13, none, none, none]) :
    (xS (xF L G wf (n + 2)) G wf E4 [some (hand ds a), some (.d (pair K)), some (.d (pair C)), some (.d dd), some (.d (.int m)), none, none, none, none]).satK k := by
  unfold E4 B12
  repeat trivial
  refine compL_rng (fun i ys σ => ∃ bs a', ys = bs.map dBits ∧ bs.length = i ∧ (∀ j b, bs[j]? = some b → Bits (K j) (C j) m b) ∧ σ = [some (hand ds a'), some (.d (pair K)), some (.d (pair C)), some (.d dd), some (.d (.int m)), none, none, none, none]) ⟨[], a, rfl, rfl, by simp, rfl⟩ ?_ ?_
  · rintro i ys σ hi ⟨bs, a1, rfl, hl, hb, rfl⟩
    refine compF_sat rfl ?_
    repeat trivial
    refine ⟨_, pair_ix hi, ?_⟩
    repeat trivial
    refine ⟨_, pair_ix hi, ?_⟩
    repeat trivial
    refine CR.sat_imp (s11 hm (hK i hi) (hC i hi)) (fun x os ⟨b, a', h1, h2, h3⟩ => ?_) fun _ z => z
    subst h2 h3
    refine ⟨bs ++ [b], a', by simp, by simp [hl], fun j b' e => ?_, rfl⟩
    rcases Nat.lt_or_ge j bs.length with hj | hj
    · rw [List.getElem?_append_left hj] at e
      exact hb j b' e
    · rw [List.getElem?_append_right hj] at e
      have : j - bs.length = 0 := by
        have := (List.getElem?_eq_some_iff.mp e).1
        simpa using this
      rw [this] at e
      cases e
      have : j = i := by omega
      subst this
      exact h1
  · rintro ys σ ⟨bs, a1, rfl, hl, hb, rfl⟩
    match bs, hl with
    | [e, f], _ =>
      repeat trivial
      exact h e f a1 _ ((hb 0 e rfl).shape h4) ((hb 1 f rfl).shape h4)
theorem s12 (hK : ∀ i, i < 2 → K i ≤ 16777216) (hC : ∀ i, i < 2 → C i ≤ 16777216) (hm : 0 < m) (h4 : m ≤ 4) : ∀ d n a : Nat, (xF L G wf (n + d + 3) 12 [hand ds a, .d (pair K), .d (pair C), .d (.int (d : Int)), .d (.int m)]).sat (fun x os => ∃ t a', Good K C t ∧ t.dep ≤ d ∧ x = t.toD ∧ os = [some (hand ds a'), none, none, none, none]) fun _ => False := fun d => by
  induction d with
  | zero =>
    intro n a
    refine call_satB rfl rfl [some (hand ds a), some (.d (pair K)), some (.d (pair C)), some (.d (.int ((0 : Nat) : Int))), some (.d (.int m)), none, none, none, none] rfl ?_
    unfold B12
    refine r_seq (r_if (r_t rfl (r_or (r_orc (r_cmp (r_rd rfl (r_cI ⟨_, rfl, _, rfl, r_true ⟨_, rfl, r_true ?_⟩⟩)))))))
    refine ends hK hC hm h4 fun e f a' s13 h1 h2 => ?_
    exact ⟨.fin e f, a', .fin h1 h2, Nat.le_refl _, rfl, rfl⟩
  | succ d ih =>
    intro n a
    refine call_satB rfl rfl [some (hand ds a), some (.d (pair K)), some (.d (pair C)), some (.d (.int ((d + 1 : Nat) : Int))), some (.d (.int m)), none, none, none, none] rfl ?_
    rw [show n + (d + 1) + 2 = n + d + 3 from by omega]
    unfold B12
    repeat trivial
    refine CR.sat_eq (s9 (by decide)) ?_
    repeat trivial
    refine r_bool (fun h => ?_) (fun h => ?_)
    · refine ends (n := n + d + 1) hK hC hm h4 fun e f a' s13 h1 h2 => ?_
      exact ⟨.fin e f, a', .fin h1 h2, Nat.zero_le _, rfl, rfl⟩
    · repeat trivial
      refine CR.sat_eq (s9 (by decide)) ?_
      obtain ⟨s, es, hs⟩ := take_nat (ds := ds) (a := a + 1) (m := 2) (by decide)
      rw [show (2 : Int) = ((2 : Nat) : Int) from rfl, es]
      repeat trivial
      refine ⟨_, pair_ix hs, ?_⟩
      repeat trivial
      refine ⟨_, pair_ix hs, ?_⟩
      repeat trivial
      refine CR.sat_imp (s11 (n := n + d + 1) (by decide) (hK s hs) (hC s hs)) (fun x os ⟨b, a', h1, h2, h3⟩ => ?_) fun _ z => z
      subst h2 h3
      repeat trivial
      have e1 : ((d + 1 : Nat) : Int) - 1 = (d : Int) := by omega
      rw [e1]
      dsimp only [putOuts, List.set]
      refine CR.sat_imp (ih n a') (fun x os ⟨t, a2, h4, h5, h6, h7⟩ => ?_) fun _ z => z
      subst h6 h7
      repeat trivial
      rw [e1]
      refine CR.sat_imp (ih n a2) (fun x os ⟨u, a3, h8, h9, h10, h11⟩ => ?_) fun _ z => z
      subst h10 h11
      repeat trivial
      exact ⟨.say s b t u, a3, .say hs h1 h4 h8, by simp only [Tr.dep]; omega, rfl, rfl⟩
end
end K02

/-! the data of the law, with no program in sight: sizes, plain data, what the two sides ask of a table and of a talk -/
namespace K02
open PySem JH
mutual
def sz : D → Nat
  | .tup xs => szs xs + 1
  | .lst xs => szs xs + 1
  | _ => 1
def szs : List D → Nat
  | [] => 0
  | x :: xs => sz x + szs xs
end
theorem sz_pos (x : D) : 1 ≤ sz x := by cases x <;> simp [sz]
theorem sz_tup {xs : List D} : sz (.tup xs) = szs xs + 1 := by simp only [sz]
theorem sz_lst {xs : List D} : sz (.lst xs) = szs xs + 1 := by simp only [sz]
theorem szs_app : ∀ xs ys : List D, szs (xs ++ ys) = szs xs + szs ys
  | [], ys => by simp [szs]
  | x :: xs, ys => by simp only [List.cons_append, szs, szs_app xs ys]; omega
theorem szs_mem : ∀ {xs : List D} {x : D}, x ∈ xs → sz x ≤ szs xs
  | y :: ys, x, h => by
    simp only [szs]
    rcases List.mem_cons.mp h with rfl | h
    · omega
    · have := szs_mem h; omega
theorem szs_len : ∀ xs : List D, xs.length ≤ szs xs
  | [] => Nat.le_refl _
  | x :: xs => by
    have := szs_len xs
    have := sz_pos x
    simp only [szs, List.length_cons]
    omega
theorem szs_le {s : Nat} : ∀ {xs : List D}, (∀ x ∈ xs, sz x ≤ s) → szs xs ≤ xs.length * s
  | [], _ => by simp [szs]
  | x :: xs, h => by
    have h1 := szs_le (s := s) (xs := xs) fun y hy => h y (List.mem_cons_of_mem _ hy)
    have h2 := h x List.mem_cons_self
    simp only [szs, List.length_cons, Nat.succ_mul]
    omega
mutual
def okD (b : Nat) : D → Bool
  | .non => true | .bl _ => true | .int i => decide (i.natAbs ≤ 100000000000000000000 + b)
  | .str s => s.all (fun c => decide (c < 0x110000)) && decide (s.length ≤ 100 + b)
  | .tup xs => okDs b xs
  | .lst xs => okDs b xs
  | _ => false
def okDs (b : Nat) : List D → Bool
  | [] => true
  | x :: xs => okD b x && okDs b xs
end
theorem okDs_iff {b : Nat} : ∀ {xs : List D}, okDs b xs = true ↔ ∀ x ∈ xs, okD b x = true
  | [] => by simp [okDs]
  | x :: xs => by
    simp only [okDs, Bool.and_eq_true, List.mem_cons, forall_eq_or_imp]
    rw [okDs_iff]
theorem ok_tup {b : Nat} {xs : List D} : okD b (.tup xs) = true ↔ ∀ x ∈ xs, okD b x = true := by simp only [okD]; exact okDs_iff
theorem ok_lst {b : Nat} {xs : List D} : okD b (.lst xs) = true ↔ ∀ x ∈ xs, okD b x = true := by simp only [okD]; exact okDs_iff
theorem plains_iff : ∀ {xs : List D}, D.plains xs = true ↔ ∀ x ∈ xs, D.plain x = true
  | [] => by simp [D.plains]
  | x :: xs => by
    simp only [D.plains, Bool.and_eq_true, List.mem_cons, forall_eq_or_imp]
    rw [plains_iff]
theorem depths_le {d : Nat} : ∀ {xs : List D}, D.depths xs ≤ d ↔ ∀ x ∈ xs, D.depth x ≤ d
  | [] => by simp [D.depths]
  | x :: xs => by
    simp only [D.depths, List.mem_cons, forall_eq_or_imp, Nat.max_le]
    rw [depths_le]
theorem depth_tup {xs : List D} {d : Nat} : D.depth (.tup xs) ≤ d + 1 ↔ ∀ x ∈ xs, D.depth x ≤ d := by
  simp only [D.depth]
  rw [Nat.add_le_add_iff_right, depths_le]
theorem depth_lst {xs : List D} {d : Nat} : D.depth (.lst xs) ≤ d + 1 ↔ ∀ x ∈ xs, D.depth x ≤ d := by
  simp only [D.depth]
  rw [Nat.add_le_add_iff_right, depths_le]
/-- data of small ints and short texts, not deep, not large -/
structure Sml (b d s : Nat) (x : D) : Prop where
  ok : okD b x = true
  dep : D.depth x ≤ d
  sz : sz x ≤ s
theorem ok_mono {b b' : Nat} (h : b ≤ b') : ∀ (k : Nat) (x : D), D.depth x ≤ k → okD b x = true → okD b' x = true := fun k => by
  induction k with
  | zero =>
    intro x hd ho
    cases x <;> first | (simp only [okD] at ho; done) | rfl | skip
    · simp only [okD, decide_eq_true_eq] at ho ⊢; omega
    · simp only [okD, Bool.and_eq_true, decide_eq_true_eq] at ho ⊢; exact ⟨ho.1, by omega⟩
    all_goals first | (simp only [D.depth] at hd; omega) | (simp only [okD] at ho; cases ho)
  | succ k ih =>
    intro x hd ho
    cases x <;> first | (simp only [okD] at ho; done) | rfl | skip
    · simp only [okD, decide_eq_true_eq] at ho ⊢; omega
    · simp only [okD, Bool.and_eq_true, decide_eq_true_eq] at ho ⊢; exact ⟨ho.1, by omega⟩
    all_goals first | (simp only [okD] at ho; cases ho; done) | skip
    · exact ok_lst.mpr fun y hy => ih y (depth_lst.mp hd y hy) (ok_lst.mp ho y hy)
    · exact ok_tup.mpr fun y hy => ih y (depth_tup.mp hd y hy) (ok_tup.mp ho y hy)
theorem ok_plain {b : Nat} : ∀ (k : Nat) (x : D), D.depth x ≤ k → okD b x = true → D.plain x = true := fun k => by
  induction k with
  | zero =>
    intro x hd ho
    cases x <;> first | rfl | skip
    · simp only [okD, Bool.and_eq_true] at ho; simp only [D.plain]; exact ho.1
    all_goals first | (simp only [D.depth] at hd; omega) | (simp only [okD] at ho; cases ho)
  | succ k ih =>
    intro x hd ho
    cases x <;> first | rfl | skip
    · simp only [okD, Bool.and_eq_true] at ho; simp only [D.plain]; exact ho.1
    all_goals first | (simp only [okD] at ho; cases ho; done) | skip
    · simp only [D.plain]; exact plains_iff.mpr fun y hy => ih y (depth_lst.mp hd y hy) (ok_lst.mp ho y hy)
    · simp only [D.plain]; exact plains_iff.mpr fun y hy => ih y (depth_tup.mp hd y hy) (ok_tup.mp ho y hy)
/-- data whose tuples' heads may be compared -/
inductive HD : D → Prop
  | non : HD .non
  | bl (b : Bool) : HD (.bl b)
  | int (i : Int) : HD (.int i)
  | str (s : List Nat) : HD (.str s)
  | lst {xs : List D} : (∀ x ∈ xs, HD x) → HD (.lst xs)
  | tup {xs : List D} : (∀ x ∈ xs, HD x) → (∀ x, xs.head? = some x → D.cmpOk x = true) → HD (.tup xs)
theorem HD.tyOk {x : D} (h : HD x) : x.tyOk = true := by cases h <;> rfl
theorem HD_of {b : Nat} : ∀ (k : Nat) (x : D), k ≤ 64 → D.depth x ≤ k → okD b x = true → HD x := fun k => by
  induction k with
  | zero =>
    intro x hk hd ho
    cases x <;> first | exact .non | exact .bl _ | exact .int _ | exact .str _ | skip
    all_goals first | (simp only [D.depth] at hd; omega) | (simp only [okD] at ho; cases ho)
  | succ k ih =>
    intro x hk hd ho
    cases x <;> first | exact .non | exact .bl _ | exact .int _ | exact .str _ | skip
    all_goals first | (simp only [okD] at ho; cases ho; done) | skip
    · refine .tup (fun y hy => ih y (by omega) (depth_tup.mp hd y hy) (ok_tup.mp ho y hy)) fun y e => ?_
      have hy := List.mem_of_mem_head? e
      have h1 := depth_tup.mp hd y hy
      unfold D.cmpOk
      rw [ok_plain k y h1 (ok_tup.mp ho y hy), decide_eq_true (by omega : D.depth y ≤ 64)]
      rfl
    · exact .lst fun y hy => ih y (by omega) (depth_lst.mp hd y hy) (ok_lst.mp ho y hy)
/-- a value that the law may hand over -/
structure Fit (x : D) : Prop where
  hd : HD x
  sz : sz x ≤ 40000
theorem Sml.fit {b d s : Nat} {x : D} (h : Sml b d s x) (hd : d ≤ 64) (hs : s ≤ 40000) : Fit x := ⟨HD_of d x hd h.dep h.ok, Nat.le_trans h.sz hs⟩
theorem Sml.mono {b d s b' d' s' : Nat} {x : D} (h : Sml b d s x) (hb : b ≤ b') (hd : d ≤ d') (hs : s ≤ s') : Sml b' d' s' x := ⟨ok_mono hb d x h.dep h.ok, Nat.le_trans h.dep hd, Nat.le_trans h.sz hs⟩
/-! ### what is asked -/
def cell (bits : Bool) : D → Bool
  | .int i => !bits || (decide (i = 0) || decide (i = 1))
  | _ => false
def row (c : Int) (bits : Bool) : D → Bool
  | .tup ys => decide ((ys.length : Int) = c) && ys.all (cell bits)
  | _ => false
def told (x : D) (k c : Int) (bits : Bool) : Bool := match x with
  | .tup xs => decide ((xs.length : Int) = k) && xs.all (row c bits)
  | _ => false
theorem told_tup {xs : List D} {k c : Int} {b : Bool} : told (.tup xs) k c b = (decide ((xs.length : Int) = k) && xs.all (row c b)) := rfl
theorem row_tup {ys : List D} {c : Int} {b : Bool} : row c b (.tup ys) = (decide ((ys.length : Int) = c) && ys.all (cell b)) := rfl
theorem cell_bit {i : Int} : cell true (.int i) = (decide (i = 0) || decide (i = 1)) := rfl
def tabD (x : D) : Bool := match x with
  | .tup xs => decide (1 ≤ xs.length ∧ xs.length ≤ 100) && (match xs with
    | .tup y :: _ => decide (1 ≤ y.length ∧ y.length ≤ 100) && xs.all (row (y.length : Int) false)
    | _ => false)
  | _ => false
abbrev sSay : List Nat := [115, 97, 121]
abbrev sEnd : List Nat := [101, 110, 100]
abbrev sTalk : List Nat := [116, 97, 108, 107]
def isS (s : List Nat) : D → Bool
  | .str t => t == s
  | _ => false
theorem eqv_isS {x : D} {s : List Nat} : D.eqv x (.str s) = isS s x := by cases x <;> simp [D.eqv, isS]
theorem isS_eq {x : D} {s : List Nat} (h : isS s x = true) : x = .str s := by
  cases x <;> first | (simp [isS] at h; done) | skip
  simp only [isS, beq_iff_eq] at h
  rw [h]
section
variable (k0 k1 c0 c1 : Int)
def say (s b : D) : Bool := match s with
  | .int i => if i = 0 then told b k0 c0 true else if i = 1 then told b k1 c1 true else false
  | _ => false
def good : Nat → D → Bool
  | 0, _ => false
  | n + 1, x => match x with
    | .tup [a, x, y] => isS sEnd a && (told x k0 c0 false && told y k1 c1 false)
    | .tup [a, s, b, l, r] => isS sSay a && (say k0 k1 c0 c1 s b && (good n l && good n r))
    | _ => false
end
def inr (m : Int) : D → Option Int
  | .int i => if 1 ≤ i ∧ i ≤ m then some i else none
  | _ => none
def talkOk (x : D) (k0 k1 : Int) : Bool := match x with
  | .tup [a, c0, c1, t] => isS sTalk a && (match inr 256 c0, inr 256 c1 with
    | some c0, some c1 => good k0 k1 c0 c1 250 t
    | _, _ => false)
  | _ => false
/-- a table's sizes -/
def rowsOf : D → Int
  | .tup xs => xs.length
  | _ => 0
def colsOf : D → Int
  | .tup (.tup y :: _) => y.length
  | _ => 0
end K02

namespace K02
open PySem JH
local macro_rules | `(tactic| trivial) => `(tactic| first
  | ((with_reducible refine gdS ?_); first | refine r_seq ?_ | refine r_asg ?_ | refine r_if ?_ | refine r_ret ?_ | refine r_skip ?_ | refine r_asgM ?_ | refine r_for ?_ | refine r_app rfl rfl ?_ | refine r_sto ?_ | refine r_ex ?_ | refine r_retN ?_ | refine r_rse ?_ | refine r_rsi ?_ | refine r_aug rfl ?_ | refine r_asgN ?_ | refine r_par ?_ | refine r_brk ?_ | refine r_cont ?_ | refine r_wh ?_ | refine r_setf ?_)
  | ((with_reducible refine gdE ?_); first | refine r_rd rfl ?_ | refine r_cI ?_ | refine r_call ?_ | refine r_acons rfl ?_ | refine r_amarg rfl ?_ | refine r_anil ?_ | (apply r_cv rfl; focus (repeat (first | exact AVs.nil | apply AVs.d | (apply AVs.m; rfl)))) | refine r_tru ?_ | refine r_t rfl ?_ | refine r_cmp ?_ | refine r_bin ?_ | refine r_idx ?_ | refine r_cS ?_ | refine r_tup ?_ | refine r_cons ?_ | refine r_nil ?_ | refine r_lst ?_ | refine r_cB ?_ | refine r_cN ?_ | refine r_midx rfl ?_ | refine r_b1 ?_ | refine r_and ?_ | refine r_or ?_ | refine r_andc ?_ | refine r_orc ?_ | refine r_and1 ?_ | refine r_or1 ?_ | refine r_not ?_ | refine r_chn ?_ | refine r_truE ?_ | refine r_pb1 rfl peekB_map rfl ?_ | refine r_isN ?_ | refine r_notN ?_ | refine r_rng2 ?_ | refine r_rng1 ?_ | refine r_fz rfl ?_ | refine r_b2 ?_ | refine r_notV ?_ | refine r_tupR ?_ | refine r_neg ?_ | refine r_chn4 ?_ | refine r_gl (by assumption) ?_ | refine r_isc ?_ | refine r_cv1 ?_ | refine r_cv2 ?_ | refine r_isi ?_ | refine r_isi2 ?_ | refine r_slc ?_ | refine r_oN ?_ | refine r_oS rfl ?_ | refine r_tN ?_ | refine r_comp ?_ | refine r_ofd ?_ | refine r_dct ?_ | refine r_dhas ?_ | refine r_meth ?_ | refine r_mk ?_ | refine r_it rfl ?_)
  | ((with_reducible refine gdI ?_); first | refine r_eqT rfl ?_ | refine r_eqF rfl ?_)
  | ((with_reducible refine gdX ?_); first | refine ⟨_, xB_add, ?_⟩ | refine ⟨_, xB_sub, ?_⟩ | refine ⟨_, xB_mul (by first | exact small_lit (by decide +kernel) | exact small_lit1 (by decide +kernel) | exact small_lit1 (small_of (by omega) (by omega)) | exact small_lit (small_of (by omega) (by omega))), ?_⟩ | refine ⟨_, xB_mod (by first | assumption | omega), ?_⟩ | refine ⟨_, xB_fdiv (by omega), ?_⟩ | refine ⟨_, xB_pow (by decide +kernel), ?_⟩ | refine ⟨_, xB_addS (by first | assumption | exact cutS (by assumption) | exact oneS) (by first | assumption | exact cutS (by assumption) | exact oneS), ?_⟩ | refine ⟨_, xB_addSL (by first | assumption | exact cutS (by assumption) | exact oneS) (by first | assumption | exact cutS (by assumption) | exact oneS), ?_⟩ | refine ⟨_, xB_addL (by first | decide | (simp; done) | (simp; omega)), ?_⟩ | refine ⟨_, xB_addT (by first | decide | (simp; done) | (simp; omega)), ?_⟩ | refine ⟨_, dIdx_t0, ?_⟩ | refine ⟨_, dIdx_t1, ?_⟩ | refine ⟨_, dIdx_t2, ?_⟩ | refine ⟨_, rfl, ?_⟩ | refine ⟨_, rfl, rfl, ?_⟩ | refine ⟨_, _, rfl, rfl, ?_⟩ | refine ⟨_, if_pos (by first | decide | assumption | omega), ?_⟩)
  | ((with_reducible refine gdA ?_); first | refine And.intro (by first | assumption | decide | omega | rfl) ?_))
variable {n wf : Nat} {G : Nat → Option D}
def isI (d : D) : Bool := cell false d
theorem s0 {d : D} (h : d.tyOk = true) : xF L G wf (n + 1) 0 [.d d] = .ret (.bl (isI d)) [none] := by
  refine sat_ret (call_satB rfl rfl [some (.d d)] rfl ?_)
  unfold B0
  repeat trivial
  refine r_bool (fun h => ?_) (fun h => ?_)
  · repeat trivial
    refine ⟨?_, rfl⟩
    cases d <;> first | rfl | cases h
  · repeat trivial
    refine ⟨?_, rfl⟩
    cases d <;> first | rfl | cases h
theorem s15 {d : D} (h : d.tyOk = true) : xF L G wf (n + 1) 15 [.d d] = .ret (.bl (isI d)) [none] := by
  refine sat_ret (call_satB rfl rfl [some (.d d)] rfl ?_)
  unfold B15
  repeat trivial
  refine r_bool (fun h => ?_) (fun h => ?_)
  · repeat trivial
    refine ⟨?_, rfl⟩
    cases d <;> first | rfl | cases h
  · repeat trivial
    refine ⟨?_, rfl⟩
    cases d <;> first | rfl | cases h
/-- is_listed of a tuple -/
theorem s1 {xs : List D} (h : ∀ x ∈ xs, HD x) : xF L G wf (n + 2) 1 [.d (.tup xs)] = .ret (.bl (xs.all isI)) [none] := by
  refine sat_ret (call_satB rfl rfl [some (.d (.tup xs)), none] rfl ?_)
  unfold B1
  repeat trivial
  refine compL_map (fun x => .bl (isI x)) (fun x hx' => ?_) ?_
  · refine compF_sat rfl ?_
    repeat trivial
    refine CR.sat_eq (s0 (h x hx').tyOk) ?_
    exact ⟨rfl, rfl⟩
  · exact ⟨_, dB1_all _, rfl, rfl⟩
theorem s2 {i a b : Int} : xF L G wf (n + 2) 2 [.d (.int i), .d (.int a), .d (.int b)] = .ret (.bl (decide (a ≤ i ∧ i ≤ b))) [none, none, none] := by
  refine sat_ret (call_satB rfl rfl [some (.d (.int i)), some (.d (.int a)), some (.d (.int b))] rfl ?_)
  unfold B2
  repeat trivial
  refine CR.sat_eq (s0 rfl) ?_
  repeat trivial
  refine r_dec (fun h1 => ?_) (fun h1 => ?_)
  · repeat trivial
    refine ⟨?_, rfl⟩
    simp [h1]
  · repeat trivial
    refine ⟨?_, rfl⟩
    simp [h1]
theorem s2n {d : D} {a b : Int} (h : d.tyOk = true) (hi : isI d = false) : xF L G wf (n + 2) 2 [.d d, .d (.int a), .d (.int b)] = .ret (.bl false) [none, none, none] := by
  refine sat_ret (call_satB rfl rfl [some (.d d), some (.d (.int a)), some (.d (.int b))] rfl ?_)
  unfold B2
  repeat trivial
  refine CR.sat_eq (s0 h) ?_
  rw [hi]
  repeat trivial
/-- are_told -/
theorem s4 {d : D} {k c : Int} (h : HD d) : xF L G wf (n + 3) 4 [.d d, .d (.int k), .d (.int c)] = .ret (.bl (told d k c false)) [none, none, none] := by
  refine sat_ret (call_satB rfl rfl [some (.d d), some (.d (.int k)), some (.d (.int c)), none] rfl ?_)
  unfold B4
  have ty := h.tyOk
  cases h with
  | tup hx hc =>
    rename_i xs
    repeat trivial
    refine r_ine (fun h1 => ?_) (fun h1 => ?_)
    · repeat trivial
      refine ⟨?_, rfl⟩
      rw [told_tup, decide_eq_false h1]
      rfl
    · repeat trivial
      refine compL_map (fun x => .bl (row c false x)) (fun x hx' => ?_) ?_
      · refine compF_sat rfl ?_
        have hh := hx x hx'
        have ty := hh.tyOk
        cases hh with
        | tup hy _ =>
          rename_i ys
          repeat trivial
          refine r_ieq (fun h2 => ?_) (fun h2 => ?_)
          · repeat trivial
            refine CR.sat_eq (s1 hy) ?_
            repeat trivial
            refine ⟨?_, rfl⟩
            rw [row_tup, decide_eq_true h2]
            rfl
          · repeat trivial
            refine ⟨?_, rfl⟩
            rw [row_tup, decide_eq_false h2]
            rfl
        | _ =>
          repeat trivial
          try exact ⟨rfl, rfl⟩
      · refine ⟨_, dB1_all _, ?_, rfl⟩
        rw [told_tup, decide_eq_true h1]
        rfl
  | _ =>
    repeat trivial
    try exact ⟨rfl, rfl⟩
theorem row_bits {x : D} {c : Int} : row c true x = (row c false x && (match x with | .tup ys => ys.all (cell true) | _ => true)) := by
  cases x <;> first | rfl | skip
  rename_i ys
  simp only [row]
  cases decide ((ys.length : Int) = c)
  · rfl
  · have : ys.all (cell true) = (ys.all (cell false) && ys.all (cell true)) := by
      rw [Bool.eq_iff_iff, Bool.and_eq_true, List.all_eq_true, List.all_eq_true]
      refine ⟨fun h => ⟨fun y hy => ?_, h⟩, fun h => h.2⟩
      have := h y hy
      cases y <;> first | rfl | cases this
    simpa using this
theorem told_ok {xs : List D} {k c : Int} (h : told (.tup xs) k c false = true) : ∀ x ∈ xs, ∃ ys, x = .tup ys ∧ (ys.length : Int) = c ∧ ∀ y ∈ ys, ∃ i, y = .int i := fun x hx => by
  rw [told_tup] at h
  have h := List.all_eq_true.mp (Bool.and_eq_true_iff.mp h).2 x hx
  cases x <;> first | (cases h; done) | skip
  rename_i ys
  rw [row_tup] at h
  obtain ⟨h1, h2⟩ := Bool.and_eq_true_iff.mp h
  refine ⟨ys, rfl, of_decide_eq_true h1, fun y hy => ?_⟩
  have := List.all_eq_true.mp h2 y hy
  cases y <;> first | (cases this; done) | exact ⟨_, rfl⟩
theorem told_bits {xs : List D} {k c : Int} (h : told (.tup xs) k c false = true) : told (.tup xs) k c true = xs.all (fun x => match x with | .tup ys => ys.all (cell true) | _ => true) := by
  rw [told_tup] at h ⊢
  obtain ⟨h1, h2⟩ := Bool.and_eq_true_iff.mp h
  rw [h1, Bool.true_and]
  rw [Bool.eq_iff_iff, List.all_eq_true, List.all_eq_true]
  refine ⟨fun q x hx => ?_, fun q x hx => ?_⟩
  · have := q x hx
    rw [row_bits, Bool.and_eq_true] at this
    exact this.2
  · rw [row_bits, Bool.and_eq_true]
    exact ⟨List.all_eq_true.mp h2 x hx, q x hx⟩
/-- the inner bits, as they stand in a row -/
def bitsOf (x : D) : List D := match x with
  | .tup ys => ys.map fun y => .bl (cell true y)
  | _ => []
theorem bits_all : ∀ {xs : List D}, dB1 .all (.lst (xs.flatMap bitsOf)) = some (.bl (xs.all (fun x => match x with | .tup ys => ys.all (cell true) | _ => true))) := fun {xs} => by
  have e : ∀ xs : List D, D.bls (xs.flatMap bitsOf) = some (xs.flatMap fun x => match x with | .tup ys => ys.map (cell true) | _ => []) := fun xs => by
    induction xs with
    | nil => rfl
    | cons x xs ih =>
      have app : ∀ (as bs : List D) (u v : List Bool), D.bls as = some u → D.bls bs = some v → D.bls (as ++ bs) = some (u ++ v) := fun as => by
        induction as with
        | nil => intro bs u v h1 h2; cases h1; exact h2
        | cons a as iha =>
          intro bs u v h1 h2
          cases a <;> first | (cases h1; done) | skip
          simp only [D.bls] at h1
          obtain ⟨w, hw, rfl⟩ := Option.map_eq_some_iff.mp h1
          show (D.bls (as ++ bs)).map _ = _
          rw [iha bs w v hw h2]
          rfl
      rw [List.flatMap_cons, List.flatMap_cons]
      refine app _ _ _ _ ?_ ih
      cases x <;> first | rfl | exact Dbls_map _
  simp only [dB1, e, Option.map_some]
  congr 2
  induction xs with
  | nil => rfl
  | cons x xs ih =>
    rw [List.flatMap_cons, List.all_append, List.all_cons, ih]
    congr 1
    cases x <;> first | rfl | (rw [List.all_map]; rfl)
/-- are_bits -/
theorem s5 {d : D} {k c : Int} (h : HD d) (hs : sz d ≤ 40000) : xF L G wf (n + 4) 5 [.d d, .d (.int k), .d (.int c)] = .ret (.bl (told d k c true)) [none, none, none] := by
  refine sat_ret (call_satB rfl rfl [some (.d d), some (.d (.int k)), some (.d (.int c)), none, none] rfl ?_)
  unfold B5
  repeat trivial
  refine CR.sat_eq (s4 h) ?_
  refine ⟨_, rfl, ?_⟩
  cases ht : told d k c false with
  | false =>
    repeat trivial
    refine ⟨?_, rfl⟩
    cases d <;> first | rfl | skip
    rename_i xs
    rw [told_tup] at ht ⊢
    cases e1 : decide ((xs.length : Int) = k)
    · rfl
    · rw [e1] at ht
      refine congrArg D.bl ?_
      show false = xs.all (row c true)
      have ht : xs.all (row c false) = false := ht
      rw [eq_comm, Bool.eq_false_iff]
      intro q
      rw [Bool.eq_false_iff] at ht
      refine ht (List.all_eq_true.mpr fun x hx => ?_)
      have := List.all_eq_true.mp q x hx
      rw [row_bits, Bool.and_eq_true] at this
      exact this.1
  | true =>
    have hd : ∃ xs, d = .tup xs := by
      cases d <;> first | (cases ht; done) | exact ⟨_, rfl⟩
    obtain ⟨xs, rfl⟩ := hd
    have hok := told_ok ht
    repeat trivial
    refine r_comp2 ?_
    repeat trivial
    refine compC_K (fun i ys σ => ys = (xs.take i).flatMap bitsOf ∧ σ = [some (.d (.tup xs)), some (.d (.int k)), some (.d (.int c)), none, none]) ⟨rfl, rfl⟩ ?_ ?_
    · rintro i x ys σ e ⟨rfl, rfl⟩
      obtain ⟨zs, rfl, hl, hz⟩ := hok x (List.mem_of_getElem? e)
      refine compF1_sat rfl ?_
      repeat trivial
      refine compL_map (fun y => .bl (cell true y)) (fun y hy => ?_) ?_
      · obtain ⟨v, rfl⟩ := hz y hy
        refine compF2_sat rfl ?_
        repeat trivial
        refine r_ieq (fun h2 => ?_) (fun h2 => ?_)
        · repeat trivial
          refine ⟨?_, rfl⟩
          subst h2
          rfl
        · repeat trivial
          refine ⟨?_, rfl⟩
          rw [cell_bit, decide_eq_false h2]
          rfl
      · refine ⟨?_, rfl⟩
        rw [take_succ' e, List.flatMap_append, List.flatMap_singleton]
        rfl
    · rintro ys σ ⟨rfl, rfl⟩
      rw [List.take_length]
      have hlen : (xs.flatMap bitsOf).length ≤ 16777216 := by
        have : ∀ xs : List D, (xs.flatMap bitsOf).length ≤ szs xs := fun xs => by
          induction xs with
          | nil => exact Nat.le_refl _
          | cons x xs ih =>
            rw [List.flatMap_cons, List.length_append]
            simp only [szs]
            have : (bitsOf x).length ≤ sz x := by
              cases x <;> first | exact Nat.zero_le _ | skip
              rename_i ys
              simp only [bitsOf, List.length_map, sz]
              have := szs_len ys
              omega
            omega
        have := this xs
        rw [sz_tup] at hs
        omega
      refine ⟨hlen, ?_⟩
      refine ⟨_, bits_all, ?_, rfl⟩
      rw [told_bits ht]
end K02

namespace K02
open PySem JH
local macro_rules | `(tactic| trivial) => `(tactic| first
  | ((with_reducible refine gdS ?_); first | refine r_seq ?_ | refine r_asg ?_ | refine r_if ?_ | refine r_ret ?_ | refine r_skip ?_ | refine r_asgM ?_ | refine r_for ?_ | refine r_app rfl rfl ?_ | refine r_sto ?_ | refine r_ex ?_ | refine r_retN ?_ | refine r_rse ?_ | refine r_rsi ?_ | refine r_aug rfl ?_ | refine r_asgN ?_ | refine r_par ?_ | refine r_brk ?_ | refine r_cont ?_ | refine r_wh ?_ | refine r_setf ?_)
  | ((with_reducible refine gdE ?_); first | refine r_rd rfl ?_ | refine r_cI ?_ | refine r_call ?_ | refine r_acons rfl ?_ | refine r_amarg rfl ?_ | refine r_anil ?_ | (apply r_cv rfl; focus (repeat (first | exact AVs.nil | apply AVs.d | (apply AVs.m; rfl)))) | refine r_tru ?_ | refine r_t rfl ?_ | refine r_cmp ?_ | refine r_bin ?_ | refine r_idx ?_ | refine r_cS ?_ | refine r_tup ?_ | refine r_cons ?_ | refine r_nil ?_ | refine r_lst ?_ | refine r_cB ?_ | refine r_cN ?_ | refine r_midx rfl ?_ | refine r_b1 ?_ | refine r_and ?_ | refine r_or ?_ | refine r_andc ?_ | refine r_orc ?_ | refine r_and1 ?_ | refine r_or1 ?_ | refine r_not ?_ | refine r_chn ?_ | refine r_truE ?_ | refine r_pb1 rfl peekB_map rfl ?_ | refine r_isN ?_ | refine r_notN ?_ | refine r_rng2 ?_ | refine r_rng1 ?_ | refine r_fz rfl ?_ | refine r_b2 ?_ | refine r_notV ?_ | refine r_tupR ?_ | refine r_neg ?_ | refine r_chn4 ?_ | refine r_gl (by assumption) ?_ | refine r_isc ?_ | refine r_cv1 ?_ | refine r_cv2 ?_ | refine r_isi ?_ | refine r_isi2 ?_ | refine r_slc ?_ | refine r_oN ?_ | refine r_oS rfl ?_ | refine r_tN ?_ | refine r_comp ?_ | refine r_ofd ?_ | refine r_dct ?_ | refine r_dhas ?_ | refine r_meth ?_ | refine r_mk ?_ | refine r_it rfl ?_)
  | ((with_reducible refine gdI ?_); first | refine r_eqT rfl ?_ | refine r_eqF rfl ?_)
  | ((with_reducible refine gdX ?_); first | refine ⟨_, xB_add, ?_⟩ | refine ⟨_, xB_sub, ?_⟩ | refine ⟨_, xB_mul (by first | exact small_lit (by decide +kernel) | exact small_lit1 (by decide +kernel) | exact small_lit1 (small_of (by omega) (by omega)) | exact small_lit (small_of (by omega) (by omega))), ?_⟩ | refine ⟨_, xB_mod (by first | assumption | omega), ?_⟩ | refine ⟨_, xB_fdiv (by omega), ?_⟩ | refine ⟨_, xB_pow (by decide +kernel), ?_⟩ | refine ⟨_, xB_addS (by first | assumption | exact cutS (by assumption) | exact oneS) (by first | assumption | exact cutS (by assumption) | exact oneS), ?_⟩ | refine ⟨_, xB_addSL (by first | assumption | exact cutS (by assumption) | exact oneS) (by first | assumption | exact cutS (by assumption) | exact oneS), ?_⟩ | refine ⟨_, xB_addL (by first | decide | (simp; done) | (simp; omega)), ?_⟩ | refine ⟨_, xB_addT (by first | decide | (simp; done) | (simp; omega)), ?_⟩ | refine ⟨_, dIdx_t0, ?_⟩ | refine ⟨_, dIdx_t1, ?_⟩ | refine ⟨_, dIdx_t2, ?_⟩ | refine ⟨_, rfl, ?_⟩ | refine ⟨_, rfl, rfl, ?_⟩ | refine ⟨_, _, rfl, rfl, ?_⟩ | refine ⟨_, if_pos (by first | decide | assumption | omega), ?_⟩)
  | ((with_reducible refine gdA ?_); first | refine And.intro (by first | assumption | decide | omega | rfl) ?_))
variable {n wf : Nat} {G : Nat → Option D} {K C X R : Nat → Nat} {t : Tr} {ds : List Int}
/-! ### draws -/
def ab (v : D) : D := match v with
  | .int i => .int (if i < 0 then -i else i)
  | x => x
def mI (l : List Int) : M := .lst (l.map fun v => M.d (.int v))
theorem thaw_ints : ∀ l : List Int, thaw (.lst (l.map D.int)) = some (mI l) := fun l => by
  simp only [thaw, mI, List.map_map]
  rfl
theorem mI_get {l : List Int} {i : Nat} (h : i < l.length) : mIdx (mI l) (.int (i : Int)) = some (.int l[i]) := by
  refine mIdx_nat ?_
  rw [List.getElem?_map, List.getElem?_eq_getElem h]
  rfl
theorem mI_set {l : List Int} {i : Nat} {v : Int} (h : i < l.length) : mSet (mI l) (.int (i : Int)) (.int v) = some (mI (l.set i v)) := by
  unfold mI
  rw [mSet_nat (by simpa using h), List.map_set]
theorem mI_app {l : List Int} {v : Int} (h : l.length < 16777216) : mApp (mI l) (.int v) = some (mI (l ++ [v])) := by
  unfold mI
  rw [mApp_ok (by simpa using h), List.map_append]
  rfl
theorem mod_nat {i k : Nat} (h : 0 < k) : dBin .mod (.int (i : Int)) (.int (k : Int)) = some (.int ((i % k : Nat) : Int)) := by
  simp only [dBin]
  rw [if_pos (by omega), Int.natCast_emod]
theorem toDs_ints : ∀ l : List Int, M.toDs (l.map fun v => M.d (.int v)) = l.map D.int
  | [] => rfl
  | v :: l => by
    show D.int v :: M.toDs (l.map fun v => M.d (.int v)) = _
    rw [toDs_ints l]
    rfl
def M1 : IS := match B8 with | .seq _ (.seq _ (.seq (.for _ _ (.seq _ (.seq _ s))) _)) => s | _ => .skip
theorem s8 {ns : List Int} (hz : ns.length ≤ 16777216) {many : Nat} (hm : many ≤ 16777216) : (xF L G wf (n + 1) 8 [.d (.scr ns), .d (.int (many : Int))]).sat (fun x os => ∃ ds : List Int, x = .lst (ds.map D.int) ∧ os = [none, none]) fun _ => False := by
  refine call_satB rfl rfl [some (.d (.scr ns)), some (.d (.int (many : Int))), none, none, none, none, none, none] rfl ?_
  unfold B8
  repeat trivial
  repeat trivial
  refine compL_map ab (fun x hx => ?_) ?_
  · obtain ⟨v, _, rfl⟩ := List.mem_map.mp hx
    refine compF_sat rfl ?_
    repeat trivial
  have er : (ns.map D.int).map ab = (ns.map fun i => if i < 0 then -i else i).map D.int := by
    rw [List.map_map, List.map_map]
    rfl
  rw [er]
  refine ⟨_, thaw_ints _, ?_⟩
  repeat trivial
  refine forL_rng (fun i σ => ∃ rs dr c a m k, σ = [some (.d (.scr ns)), some (.d (.int (many : Int))), some (mI rs), c, some (mI dr), k, a, m] ∧ rs.length = ns.length ∧ dr.length = i) ⟨ns.map fun i => if i < 0 then -i else i, [], _, _, _, _, rfl, by simp, rfl⟩ ?_ ?_
  · rintro i σ hi ⟨rs, dr, c, a, m, k, rfl, hr, hd⟩
    have mix : ∀ (cell : Int) (a : Option M), (xS (xF L G wf n) G wf M1 [some (.d (.scr ns)), some (.d (.int (many : Int))), some (mI rs), some (.d (.int cell)), some (mI dr), some (.d (.int (i : Int))), a, m]).satK { nx := fun σ => ∃ rs dr c a m k, σ = [some (.d (.scr ns)), some (.d (.int (many : Int))), some (mI rs), c, some (mI dr), k, a, m] ∧ rs.length = ns.length ∧ dr.length = i + 1, cont := fun _ => False, brk := fun _ => False, ret := fun _ _ => False, exc := fun _ _ => False } := by
      intro cell a
      unfold M1 B8
      dsimp only
      repeat trivial
      refine ⟨_, _, rfl, mI_app (by omega), ?_⟩
      exact ⟨rs, _, _, _, _, _, rfl, hr, by simp [hd]⟩
    repeat trivial
    refine r_dec (fun hp => ?_) (fun hp => ?_)
    · have hp : 0 < ns.length := by omega
      repeat trivial
      have hlt := Nat.mod_lt i hp
      rw [← Int.natCast_emod]
      refine ⟨_, dIdx_scr hlt, ?_⟩
      repeat trivial
      refine r_dec (fun h1 => ?_) (fun h1 => ?_)
      · repeat trivial
        refine ⟨_, _, rfl, mI_get (l := rs) (by omega), ?_⟩
        repeat trivial
        refine r_dec (fun h2 => ?_) (fun h2 => ?_)
        · repeat trivial
          refine ⟨_, _, rfl, mI_get (l := rs) (by omega), ?_⟩
          repeat trivial
          refine ⟨_, _, rfl, mI_app (by omega), ?_⟩
          repeat trivial
          refine ⟨_, _, rfl, mI_get (l := rs) (by omega), ?_⟩
          repeat trivial
          refine ⟨_, _, rfl, mI_set (l := rs) (by omega), ?_⟩
          repeat trivial
          exact ⟨_, _, _, _, _, _, rfl, by simp [hr], by simp [hd]⟩
        · first | refine r_skip ?_ | refine ⟨_, rfl, r_false (r_skip ?_)⟩
          exact satK_imp (mix _ _) (fun _ z => z) (fun _ _ z => z.elim) (fun _ z => z.elim) (fun _ z => z.elim) (fun _ _ z => z.elim) (fun _ _ z => z.elim)
      · first | refine r_skip ?_ | refine ⟨_, rfl, r_false (r_skip ?_)⟩
        exact satK_imp (mix _ _) (fun _ z => z) (fun _ _ z => z.elim) (fun _ z => z.elim) (fun _ z => z.elim) (fun _ _ z => z.elim) (fun _ _ z => z.elim)
    · refine r_skip ?_
      exact satK_imp (mix _ _) (fun _ z => z) (fun _ _ z => z.elim) (fun _ z => z.elim) (fun _ z => z.elim) (fun _ _ z => z.elim) (fun _ _ z => z.elim)
  · rintro σ ⟨rs, dr, c, a, m, k, rfl, hr, hd⟩
    repeat trivial
    exact ⟨dr, congrArg D.lst (toDs_ints dr), rfl⟩
end K02

namespace K02
open PySem JH
local macro_rules | `(tactic| trivial) => `(tactic| first
  | ((with_reducible refine gdS ?_); first | refine r_seq ?_ | refine r_asg ?_ | refine r_if ?_ | refine r_ret ?_ | refine r_skip ?_ | refine r_asgM ?_ | refine r_for ?_ | refine r_app rfl rfl ?_ | refine r_sto ?_ | refine r_ex ?_ | refine r_retN ?_ | refine r_rse ?_ | refine r_rsi ?_ | refine r_aug rfl ?_ | refine r_asgN ?_ | refine r_par ?_ | refine r_brk ?_ | refine r_cont ?_ | refine r_wh ?_ | refine r_setf ?_)
  | ((with_reducible refine gdE ?_); first | refine r_rd rfl ?_ | refine r_cI ?_ | refine r_call ?_ | refine r_acons rfl ?_ | refine r_amarg rfl ?_ | refine r_anil ?_ | (apply r_cv rfl; focus (repeat (first | exact AVs.nil | apply AVs.d | (apply AVs.m; rfl)))) | refine r_tru ?_ | refine r_t rfl ?_ | refine r_cmp ?_ | refine r_bin ?_ | refine r_idx ?_ | refine r_cS ?_ | refine r_tup ?_ | refine r_cons ?_ | refine r_nil ?_ | refine r_lst ?_ | refine r_cB ?_ | refine r_cN ?_ | refine r_midx rfl ?_ | refine r_b1 ?_ | refine r_and ?_ | refine r_or ?_ | refine r_andc ?_ | refine r_orc ?_ | refine r_and1 ?_ | refine r_or1 ?_ | refine r_not ?_ | refine r_chn ?_ | refine r_truE ?_ | refine r_pb1 rfl peekB_map rfl ?_ | refine r_isN ?_ | refine r_notN ?_ | refine r_rng2 ?_ | refine r_rng1 ?_ | refine r_fz rfl ?_ | refine r_b2 ?_ | refine r_notV ?_ | refine r_tupR ?_ | refine r_neg ?_ | refine r_chn4 ?_ | refine r_gl (by assumption) ?_ | refine r_isc ?_ | refine r_cv1 ?_ | refine r_cv2 ?_ | refine r_isi ?_ | refine r_isi2 ?_ | refine r_slc ?_ | refine r_oN ?_ | refine r_oS rfl ?_ | refine r_tN ?_ | refine r_comp ?_ | refine r_ofd ?_ | refine r_dct ?_ | refine r_dhas ?_ | refine r_meth ?_ | refine r_mk ?_ | refine r_it rfl ?_)
  | ((with_reducible refine gdI ?_); first | refine r_eqT rfl ?_ | refine r_eqF rfl ?_)
  | ((with_reducible refine gdX ?_); first | refine ⟨_, xB_add, ?_⟩ | refine ⟨_, xB_sub, ?_⟩ | refine ⟨_, xB_mul (by first | exact small_lit (by decide +kernel) | exact small_lit1 (by decide +kernel) | exact small_lit1 (small_of (by omega) (by omega)) | exact small_lit (small_of (by omega) (by omega))), ?_⟩ | refine ⟨_, xB_mod (by first | assumption | omega), ?_⟩ | refine ⟨_, xB_fdiv (by omega), ?_⟩ | refine ⟨_, xB_pow (by decide +kernel), ?_⟩ | refine ⟨_, xB_addS (by first | assumption | exact cutS (by assumption) | exact oneS) (by first | assumption | exact cutS (by assumption) | exact oneS), ?_⟩ | refine ⟨_, xB_addSL (by first | assumption | exact cutS (by assumption) | exact oneS) (by first | assumption | exact cutS (by assumption) | exact oneS), ?_⟩ | refine ⟨_, xB_addL (by first | decide | (simp; done) | (simp; omega)), ?_⟩ | refine ⟨_, xB_addT (by first | decide | (simp; done) | (simp; omega)), ?_⟩ | refine ⟨_, dIdx_t0, ?_⟩ | refine ⟨_, dIdx_t1, ?_⟩ | refine ⟨_, dIdx_t2, ?_⟩ | refine ⟨_, rfl, ?_⟩ | refine ⟨_, rfl, rfl, ?_⟩ | refine ⟨_, _, rfl, rfl, ?_⟩ | refine ⟨_, if_pos (by first | decide | assumption | omega), ?_⟩)
  | ((with_reducible refine gdA ?_); first | refine And.intro (by first | assumption | decide | omega | rfl) ?_))
variable {n wf : Nat} {G : Nat → Option D}
theorem cmp_str {s : List Nat} (h : s.all (fun c => decide (c < 0x110000)) = true) : D.cmpOk (.str s) = true := by
  unfold D.cmpOk
  simp only [D.plain, D.depth, h]
  rfl
theorem ne_str {x : D} {s : List Nat} (h : D.cmpOk x = true) (hs : D.cmpOk (.str s) = true) : dCmp .ne x (.str s) = some (!isS s x) := by
  simp only [dCmp, dEq]
  rw [if_pos (by rw [h, hs]; simp), eqv_isS]
  rfl
theorem eq_strS {t s : List Nat} : dCmp .eq (.str t) (.str s) = some (isS s (.str t)) := by
  simp only [dCmp, dEq]
  rw [if_pos (by simp [D.scal]), eqv_isS]
theorem ne_strS {t s : List Nat} : dCmp .ne (.str t) (.str s) = some (!isS s (.str t)) := by
  simp only [dCmp, dEq]
  rw [if_pos (by simp [D.scal]), eqv_isS]
  rfl
def shp (k0 k1 c0 c1 : Int) : D := .obj 3 [0, 1] [.dk [.inl 0, .inl 1] [.int k0, .int k1], .dk [.inl 0, .inl 1] [.int c0, .int c1]]
theorem has_no {i a b : Int} (h0 : i ≠ 0) (h1 : i ≠ 1) : dHas (.int i) (.dk [.inl 0, .inl 1] [.int a, .int b]) = some false := by
  have : kIdx [(Sum.inl 0 : Sum Int (List Nat)), .inl 1] (.inl i) = none := kIdx_none.mpr (by simp [h0, h1])
  simp only [dHas, toK, Option.map_some, this]
  rfl
theorem CR_ok {r : CR} {Q : D → JH.Env → Prop} (h : r.sat Q fun _ => False) : ∃ d os, r = .ret d os ∧ Q d os := by
  cases r with
  | ret d os => exact ⟨d, os, rfl, h⟩
  | retM _ _ => exact h.elim
  | exc _ => exact h.elim
  | stuck => exact h.elim
theorem s25 {x y : D} : xF L G wf (n + 1) 25 [.obj 3 [] [], .d x, .d y] = .ret .non [some (.obj 3 [0, 1] [.d x, .d y]), none, none] := by
  refine sat_ret (call_satB rfl rfl [some (.obj 3 [] []), some (.d x), some (.d y)] rfl ?_)
  unfold B25
  repeat trivial
  try exact ⟨rfl, rfl⟩
section
variable {k0 k1 c0 c1 : Int}
def sayN (k0 k1 c0 c1 : Int) : D → Bool
  | .tup [a, s, b, _, _] => isS sSay a && say k0 k1 c0 c1 s b
  | _ => false
def endN (k0 k1 c0 c1 : Int) : D → Bool
  | .tup [a, x, y] => isS sEnd a && (told x k0 c0 false && told y k1 c1 false)
  | _ => false
theorem sayN_len {xs : List D} (h : xs.length ≠ 5) : sayN k0 k1 c0 c1 (.tup xs) = false := by
  unfold sayN
  split
  · rename_i e; cases e; exact absurd rfl h
  · rfl
theorem endN_len {xs : List D} (h : xs.length ≠ 3) : endN k0 k1 c0 c1 (.tup xs) = false := by
  unfold endN
  split
  · rename_i e; cases e; exact absurd rfl h
  · rfl
theorem s26 {t : D} (h : HD t) (hs : sz t ≤ 40000) : ∃ os, xF L G wf (n + 5) 26 [.d (shp k0 k1 c0 c1), .d t] = .ret (.bl (sayN k0 k1 c0 c1 t)) os := by
  have key : (xF L G wf (n + 5) 26 [.d (shp k0 k1 c0 c1), .d t]).sat (fun x os => x = .bl (sayN k0 k1 c0 c1 t)) fun _ => False := by
    refine call_satB rfl rfl [some (.d (shp k0 k1 c0 c1)), some (.d t), none] rfl ?_
    unfold B26
    have ty := h.tyOk
    cases h with
    | tup hx hc =>
      rename_i xs
      repeat trivial
      refine r_ine (fun h1 => ?_) (fun h1 => ?_)
      · repeat trivial
        rw [sayN_len (by omega)]
      · have h1 : xs.length = 5 := by omega
        match xs, h1 with
        | [a, s, b, l, r], _ =>
          repeat trivial
          refine ⟨_, ne_str (hc a rfl) rfl, ?_⟩
          cases ha : isS sSay a with
          | false =>
            repeat trivial
            show D.bl false = D.bl (isS sSay a && _)
            rw [ha]
            rfl
          | true =>
            have e1 : sayN k0 k1 c0 c1 (.tup [a, s, b, l, r]) = say k0 k1 c0 c1 s b := by
              show (isS sSay a && _) = _
              rw [ha]
              rfl
            rw [e1]
            have hss := hx s (by simp)
            have hb := hx b (by simp)
            have hsb : sz b ≤ 40000 := by
              have : sz b ≤ szs [a, s, b, l, r] := szs_mem (by simp)
              rw [sz_tup] at hs
              omega
            repeat trivial
            refine CR.sat_eq (s0 hss.tyOk) ?_
            cases hss with
            | int i =>
              repeat trivial
              by_cases h0 : i = 0
              · subst h0
                repeat trivial
                refine CR.sat_eq (s5 hb hsb) ?_
                rfl
              · by_cases h2 : i = 1
                · subst h2
                  repeat trivial
                  refine CR.sat_eq (s5 hb hsb) ?_
                  rfl
                · refine r_eqF (by
                    show ((kIdx [(Sum.inl 0 : Sum Int (List Nat)), .inl 1] (.inl i)).isSome != false) = false
                    rw [kIdx_none.mpr (by simp [h0, h2])]
                    rfl) ?_
                  show D.bl false = D.bl (if i = 0 then _ else if i = 1 then _ else false)
                  rw [if_neg h0, if_neg h2]
            | _ =>
              repeat trivial
              try rfl
    | _ =>
      repeat trivial
      try rfl
  obtain ⟨d, os, e, rfl⟩ := CR_ok key
  exact ⟨os, e⟩
theorem s27 {t : D} (h : HD t) : ∃ os, xF L G wf (n + 4) 27 [.d (shp k0 k1 c0 c1), .d t] = .ret (.bl (endN k0 k1 c0 c1 t)) os := by
  have key : (xF L G wf (n + 4) 27 [.d (shp k0 k1 c0 c1), .d t]).sat (fun x os => x = .bl (endN k0 k1 c0 c1 t)) fun _ => False := by
    refine call_satB rfl rfl [some (.d (shp k0 k1 c0 c1)), some (.d t), none] rfl ?_
    unfold B27
    have ty := h.tyOk
    cases h with
    | tup hx hc =>
      rename_i xs
      repeat trivial
      refine r_ine (fun h1 => ?_) (fun h1 => ?_)
      · repeat trivial
        rw [endN_len (by omega)]
      · have h1 : xs.length = 3 := by omega
        match xs, h1 with
        | [a, x, y], _ =>
          repeat trivial
          refine ⟨_, ne_str (hc a rfl) rfl, ?_⟩
          cases ha : isS sEnd a with
          | false =>
            repeat trivial
            show D.bl false = D.bl (isS sEnd a && _)
            rw [ha]
            rfl
          | true =>
            have e1 : endN k0 k1 c0 c1 (.tup [a, x, y]) = (told x k0 c0 false && told y k1 c1 false) := by
              show (isS sEnd a && _) = _
              rw [ha]
              rfl
            rw [e1]
            repeat trivial
            refine compL_map (fun d => match d with | .int 0 => .bl (told x k0 c0 false) | _ => .bl (told y k1 c1 false)) (fun d hd => ?_) ?_
            · rcases List.mem_cons.mp hd with rfl | hd
              · refine compF_sat rfl ?_
                repeat trivial
                refine CR.sat_eq (s4 (hx x (by simp))) ?_
                exact ⟨rfl, rfl⟩
              · cases List.mem_singleton.mp hd
                refine compF_sat rfl ?_
                repeat trivial
                refine CR.sat_eq (s4 (hx y (by simp))) ?_
                exact ⟨rfl, rfl⟩
            · refine ⟨_, rfl, ?_⟩
              show D.bl (told x k0 c0 false && (told y k1 c1 false && true)) = _
              rw [Bool.and_true]
    | _ =>
      repeat trivial
      try rfl
  obtain ⟨d, os, e, rfl⟩ := CR_ok key
  exact ⟨os, e⟩
theorem good_say {m : Nat} {t : D} (h : sayN k0 k1 c0 c1 t = true) : ∃ a s b l r, t = .tup [a, s, b, l, r] ∧ good k0 k1 c0 c1 (m + 1) t = (good k0 k1 c0 c1 m l && good k0 k1 c0 c1 m r) := by
  unfold sayN at h
  split at h
  · rename_i a s b l r
    refine ⟨a, s, b, l, r, rfl, ?_⟩
    obtain ⟨h1, h2⟩ := Bool.and_eq_true_iff.mp h
    show (isS sSay a && (say k0 k1 c0 c1 s b && (good k0 k1 c0 c1 m l && good k0 k1 c0 c1 m r))) = _
    rw [h1, h2]
    rfl
  · cases h
theorem good_end {m : Nat} {t : D} (h : endN k0 k1 c0 c1 t = true) : good k0 k1 c0 c1 (m + 1) t = true := by
  unfold endN at h
  split at h
  · exact h
  · cases h
theorem good_no {m : Nat} {t : D} (h1 : sayN k0 k1 c0 c1 t = false) (h2 : endN k0 k1 c0 c1 t = false) : good k0 k1 c0 c1 (m + 1) t = false := by
  unfold good
  split
  · exact h2
  · rename_i a s b l r
    have h1 : (isS sSay a && say k0 k1 c0 c1 s b) = false := h1
    rw [← Bool.and_assoc, h1]
    rfl
  · rfl
end
end K02

namespace K02
open PySem JH
local macro_rules | `(tactic| trivial) => `(tactic| first
  | ((with_reducible refine gdS ?_); first | refine r_seq ?_ | refine r_asg ?_ | refine r_if ?_ | refine r_ret ?_ | refine r_skip ?_ | refine r_asgM ?_ | refine r_for ?_ | refine r_app rfl rfl ?_ | refine r_sto ?_ | refine r_ex ?_ | refine r_retN ?_ | refine r_rse ?_ | refine r_rsi ?_ | refine r_aug rfl ?_ | refine r_asgN ?_ | refine r_par ?_ | refine r_brk ?_ | refine r_cont ?_ | refine r_wh ?_ | refine r_setf ?_)
  | ((with_reducible refine gdE ?_); first | refine r_rd rfl ?_ | refine r_cI ?_ | refine r_call ?_ | refine r_acons rfl ?_ | refine r_amarg rfl ?_ | refine r_anil ?_ | (apply r_cv rfl; focus (repeat (first | exact AVs.nil | apply AVs.d | (apply AVs.m; rfl)))) | refine r_tru ?_ | refine r_t rfl ?_ | refine r_cmp ?_ | refine r_bin ?_ | refine r_idx ?_ | refine r_cS ?_ | refine r_tup ?_ | refine r_cons ?_ | refine r_nil ?_ | refine r_lst ?_ | refine r_cB ?_ | refine r_cN ?_ | refine r_midx rfl ?_ | refine r_b1 ?_ | refine r_and ?_ | refine r_or ?_ | refine r_andc ?_ | refine r_orc ?_ | refine r_and1 ?_ | refine r_or1 ?_ | refine r_not ?_ | refine r_chn ?_ | refine r_truE ?_ | refine r_pb1 rfl peekB_map rfl ?_ | refine r_isN ?_ | refine r_notN ?_ | refine r_rng2 ?_ | refine r_rng1 ?_ | refine r_fz rfl ?_ | refine r_b2 ?_ | refine r_notV ?_ | refine r_tupR ?_ | refine r_neg ?_ | refine r_chn4 ?_ | refine r_gl (by assumption) ?_ | refine r_isc ?_ | refine r_cv1 ?_ | refine r_cv2 ?_ | refine r_isi ?_ | refine r_isi2 ?_ | refine r_slc ?_ | refine r_oN ?_ | refine r_oS rfl ?_ | refine r_tN ?_ | refine r_comp ?_ | refine r_ofd ?_ | refine r_dct ?_ | refine r_dhas ?_ | refine r_meth ?_ | refine r_mk ?_ | refine r_it rfl ?_)
  | ((with_reducible refine gdI ?_); first | refine r_eqT rfl ?_ | refine r_eqF rfl ?_)
  | ((with_reducible refine gdX ?_); first | refine ⟨_, xB_add, ?_⟩ | refine ⟨_, xB_sub, ?_⟩ | refine ⟨_, xB_mul (by first | exact small_lit (by decide +kernel) | exact small_lit1 (by decide +kernel) | exact small_lit1 (small_of (by omega) (by omega)) | exact small_lit (small_of (by omega) (by omega))), ?_⟩ | refine ⟨_, xB_mod (by first | assumption | omega), ?_⟩ | refine ⟨_, xB_fdiv (by omega), ?_⟩ | refine ⟨_, xB_pow (by decide +kernel), ?_⟩ | refine ⟨_, xB_addS (by first | assumption | exact cutS (by assumption) | exact oneS) (by first | assumption | exact cutS (by assumption) | exact oneS), ?_⟩ | refine ⟨_, xB_addSL (by first | assumption | exact cutS (by assumption) | exact oneS) (by first | assumption | exact cutS (by assumption) | exact oneS), ?_⟩ | refine ⟨_, xB_addL (by first | decide | (simp; done) | (simp; omega)), ?_⟩ | refine ⟨_, xB_addT (by first | decide | (simp; done) | (simp; omega)), ?_⟩ | refine ⟨_, dIdx_t0, ?_⟩ | refine ⟨_, dIdx_t1, ?_⟩ | refine ⟨_, dIdx_t2, ?_⟩ | refine ⟨_, rfl, ?_⟩ | refine ⟨_, rfl, rfl, ?_⟩ | refine ⟨_, _, rfl, rfl, ?_⟩ | refine ⟨_, if_pos (by first | decide | assumption | omega), ?_⟩)
  | ((with_reducible refine gdA ?_); first | refine And.intro (by first | assumption | decide | omega | rfl) ?_))
variable {n wf : Nat} {G : Nat → Option D}
section
variable {k0 k1 c0 c1 : Int}
def pr (w : D × Nat) : D := .tup [w.1, .int (w.2 : Int)]
def wsum (ws : List (D × Nat)) : Nat := (ws.map fun w => sz w.1).sum
theorem wsum_len : ∀ ws : List (D × Nat), ws.length ≤ wsum ws
  | [] => Nat.le_refl _
  | w :: ws => by
    have := wsum_len ws
    have := sz_pos w.1
    simp only [wsum, List.map_cons, List.sum_cons, List.length_cons] at *
    omega
theorem wsum_cons {w : D × Nat} {ws : List (D × Nat)} : wsum (w :: ws) = sz w.1 + wsum ws := by simp [wsum]
def stk (ws : List (D × Nat)) : M := .lst ((ws.reverse.map pr).map M.d)
theorem stk_pop {w : D × Nat} {ws : List (D × Nat)} : mPop (stk (w :: ws)) = some (pr w, stk ws) := by
  unfold stk mPop
  rw [List.reverse_cons, List.map_append, List.map_append]
  simp [M.leaf]
theorem stk_app {w : D × Nat} {ws : List (D × Nat)} (h : ws.length < 16777216) : mApp (stk ws) (pr w) = some (stk (w :: ws)) := by
  unfold stk
  rw [mApp_in (by rw [List.length_map, List.length_reverse]; exact h), List.reverse_cons, List.map_append (l₁ := ws.reverse)]
  rfl
theorem s6 {t : D} (h : HD t) (hs : sz t ≤ 40000) (hwf : 40001 ≤ wf) (hG1 : G 1 = some (.int 250)) (hG4 : G 4 = some (.int 40000)) :
    (xF L G wf (n + 6) 6 [.d (shp k0 k1 c0 c1), .d t, .d (.bl false)]).sat (fun x os => x = .non ∧ os = [none, none, none] ∧ good k0 k1 c0 c1 250 t = true) fun e => e = ⟨1, none⟩ ∧ good k0 k1 c0 c1 250 t = false := by
  refine call_satB rfl rfl [some (.d (shp k0 k1 c0 c1)), some (.d t), some (.d (.bl false)), none, none, none, none] rfl ?_
  unfold B6
  repeat trivial
  refine whL_K (fun m σ => ∃ (ws : List (D × Nat)) (s : Nat) (o5 o6 : Option M), σ = [some (.d (shp k0 k1 c0 c1)), some (.d t), some (.d (.bl false)), some (stk ws), some (.d (.int (s : Int))), o5, o6] ∧ (∀ w ∈ ws, HD w.1 ∧ 1 ≤ w.2 ∧ w.2 ≤ 251) ∧ good k0 k1 c0 c1 250 t = (ws.all fun w => good k0 k1 c0 c1 (251 - w.2) w.1) ∧ s + wsum ws ≤ 40000 ∧ wsum ws ≤ m) ?_ (sz t) _ _ ⟨[(t, 1)], 0, none, none, rfl, ?_, ?_, ?_, ?_⟩ (by omega)
  rotate_left
  · intro w hw
    cases List.mem_singleton.mp hw
    exact ⟨h, Nat.le_refl 1, (by decide : (1 : Nat) ≤ 251)⟩
  · simp
  · simp only [wsum, List.map_cons, List.map_nil, List.sum_cons, List.sum_nil]; omega
  · simp only [wsum, List.map_cons, List.map_nil, List.sum_cons, List.sum_nil]; omega
  rintro m σ ⟨ws, s, o5, o6, rfl, hw, hg, h1, h2⟩
  cases ws with
  | nil =>
    unfold stk
    repeat trivial
  | cons w ws =>
    obtain ⟨x, d⟩ := w
    rw [wsum_cons] at h1 h2
    obtain ⟨hx, hd1, hd2⟩ := hw _ List.mem_cons_self
    have hxp := sz_pos x
    have h1 : s + (sz x + wsum ws) ≤ 40000 := h1
    have h2 : sz x + wsum ws ≤ m := h2
    have hx : HD x := hx
    have hd1 : 1 ≤ d := hd1
    have hd2 : d ≤ 251 := hd2
    have hlw := wsum_len ws
    refine r_t rfl (r_cmp (r_pb1 (x := .lst (((x, d) :: ws).reverse.map pr)) rfl (peekB_map (ds := (((x, d) :: ws).reverse.map pr))) rfl ?_))
    repeat trivial
    refine r_eqT ?_ ?_
    · rw [List.length_map, List.length_reverse, List.length_cons]
      exact decide_eq_true (by omega)
    refine ⟨m - 1, by omega, ?_⟩
    refine r_seq (r_asg (r_pop rfl stk_pop ?_))
    repeat trivial
    refine r_dec (fun hd => ?_) (fun hd => ?_)
    · have hd : 250 < d := by omega
      repeat trivial
      rw [hg, List.all_cons]
      have : 251 - d = 0 := by omega
      show (good k0 k1 c0 c1 (251 - d) x && _) = false
      rw [this]
      rfl
    · have hd : d ≤ 250 := by omega
      obtain ⟨q, hq⟩ : ∃ q, 251 - d = q + 1 := ⟨250 - d, by omega⟩
      have hg : good k0 k1 c0 c1 250 t = (good k0 k1 c0 c1 (q + 1) x && ws.all fun w => good k0 k1 c0 c1 (251 - w.2) w.1) := by
        rw [hg, List.all_cons, ← hq]
      repeat trivial
      refine r_ite ?_
      repeat trivial
      refine r_eqF (decide_eq_false (by omega)) ?_
      obtain ⟨os26, e26⟩ := s26 (n := n) (wf := wf) (G := G) (k0 := k0) (k1 := k1) (c0 := c0) (c1 := c1) hx (by omega)
      obtain ⟨os27, e27⟩ := s27 (n := n + 1) (wf := wf) (G := G) (k0 := k0) (k1 := k1) (c0 := c0) (c1 := c1) hx
      cases hsay : sayN k0 k1 c0 c1 x with
      | true =>
        obtain ⟨a, u, b, l, r, rfl, e⟩ := good_say (m := q) hsay
        rw [hsay] at e26
        repeat trivial
        refine CR.isR_of (CR.sat_eq e26 rfl : CR.sat _ (fun d _ => d = .bl true) fun _ => False) fun _ _ z => ?_
        subst z
        repeat trivial
        have hk := sz_tup (xs := [a, u, b, l, r])
        simp only [szs] at hk
        have := sz_pos l
        have := sz_pos r
        cases hx with
        | tup hx' _ =>
        refine ⟨_, _, rfl, stk_app (w := (r, d + 1)) (by omega), ?_⟩
        repeat trivial
        refine ⟨_, _, rfl, stk_app (w := (l, d + 1)) (by rw [List.length_cons]; omega), ?_⟩
        refine ⟨(l, d + 1) :: (r, d + 1) :: ws, s + 1, _, _, rfl, ?_, ?_, ?_, ?_⟩
        · intro w hw'
          rcases List.mem_cons.mp hw' with rfl | hw'
          · exact ⟨hx' l (by simp), by simp, by simp; omega⟩
          rcases List.mem_cons.mp hw' with rfl | hw'
          · exact ⟨hx' r (by simp), by simp, by simp; omega⟩
          · exact hw w (List.mem_cons_of_mem _ hw')
        · rw [hg, e, List.all_cons, List.all_cons]
          have : 251 - (d + 1) = q := by omega
          show _ = (good k0 k1 c0 c1 (251 - (d + 1)) l && (good k0 k1 c0 c1 (251 - (d + 1)) r && _))
          rw [this, Bool.and_assoc]
        · rw [wsum_cons, wsum_cons]
          show s + 1 + (sz l + (sz r + wsum ws)) ≤ 40000
          omega
        · rw [wsum_cons, wsum_cons]
          show sz l + (sz r + wsum ws) ≤ m - 1
          omega
      | false =>
        rw [hsay] at e26
        repeat trivial
        refine CR.isR_of (CR.sat_eq e26 rfl : CR.sat _ (fun d _ => d = .bl false) fun _ => False) fun _ _ z => ?_
        subst z
        repeat trivial
        refine r_ite ?_
        repeat trivial
        refine CR.isR_of (CR.sat_eq e27 rfl : CR.sat _ (fun d _ => d = .bl (endN k0 k1 c0 c1 x)) fun _ => False) fun _ _ z => ?_
        subst z
        cases hend : endN k0 k1 c0 c1 x with
        | true =>
          repeat trivial
          refine ⟨ws, s + 1, _, _, rfl, fun w hw' => hw w (List.mem_cons_of_mem _ hw'), ?_, by omega, by omega⟩
          rw [hg, good_end hend, Bool.true_and]
        | false =>
          repeat trivial
          rw [hg, good_no hsay hend]
          rfl
end
end K02

namespace K02
open PySem JH
local macro_rules | `(tactic| trivial) => `(tactic| first
  | ((with_reducible refine gdS ?_); first | refine r_seq ?_ | refine r_asg ?_ | refine r_if ?_ | refine r_ret ?_ | refine r_skip ?_ | refine r_asgM ?_ | refine r_for ?_ | refine r_app rfl rfl ?_ | refine r_sto ?_ | refine r_ex ?_ | refine r_retN ?_ | refine r_rse ?_ | refine r_rsi ?_ | refine r_aug rfl ?_ | refine r_asgN ?_ | refine r_par ?_ | refine r_brk ?_ | refine r_cont ?_ | refine r_wh ?_ | refine r_setf ?_)
  | ((with_reducible refine gdE ?_); first | refine r_rd rfl ?_ | refine r_cI ?_ | refine r_call ?_ | refine r_acons rfl ?_ | refine r_amarg rfl ?_ | refine r_anil ?_ | (apply r_cv rfl; focus (repeat (first | exact AVs.nil | apply AVs.d | (apply AVs.m; rfl)))) | refine r_tru ?_ | refine r_t rfl ?_ | refine r_cmp ?_ | refine r_bin ?_ | refine r_idx ?_ | refine r_cS ?_ | refine r_tup ?_ | refine r_cons ?_ | refine r_nil ?_ | refine r_lst ?_ | refine r_cB ?_ | refine r_cN ?_ | refine r_midx rfl ?_ | refine r_b1 ?_ | refine r_and ?_ | refine r_or ?_ | refine r_andc ?_ | refine r_orc ?_ | refine r_and1 ?_ | refine r_or1 ?_ | refine r_not ?_ | refine r_chn ?_ | refine r_truE ?_ | refine r_pb1 rfl peekB_map rfl ?_ | refine r_isN ?_ | refine r_notN ?_ | refine r_rng2 ?_ | refine r_rng1 ?_ | refine r_fz rfl ?_ | refine r_b2 ?_ | refine r_notV ?_ | refine r_tupR ?_ | refine r_neg ?_ | refine r_chn4 ?_ | refine r_gl (by assumption) ?_ | refine r_isc ?_ | refine r_cv1 ?_ | refine r_cv2 ?_ | refine r_isi ?_ | refine r_isi2 ?_ | refine r_slc ?_ | refine r_oN ?_ | refine r_oS rfl ?_ | refine r_tN ?_ | refine r_comp ?_ | refine r_ofd ?_ | refine r_dct ?_ | refine r_dhas ?_ | refine r_meth ?_ | refine r_mk ?_ | refine r_it rfl ?_)
  | ((with_reducible refine gdI ?_); first | refine r_eqT rfl ?_ | refine r_eqF rfl ?_)
  | ((with_reducible refine gdX ?_); first | refine ⟨_, xB_add, ?_⟩ | refine ⟨_, xB_sub, ?_⟩ | refine ⟨_, xB_mul (by first | exact small_lit (by decide +kernel) | exact small_lit1 (by decide +kernel) | exact small_lit1 (small_of (by omega) (by omega)) | exact small_lit (small_of (by omega) (by omega))), ?_⟩ | refine ⟨_, xB_mod (by first | assumption | omega), ?_⟩ | refine ⟨_, xB_fdiv (by omega), ?_⟩ | refine ⟨_, xB_pow (by decide +kernel), ?_⟩ | refine ⟨_, xB_addS (by first | assumption | exact cutS (by assumption) | exact oneS) (by first | assumption | exact cutS (by assumption) | exact oneS), ?_⟩ | refine ⟨_, xB_addSL (by first | assumption | exact cutS (by assumption) | exact oneS) (by first | assumption | exact cutS (by assumption) | exact oneS), ?_⟩ | refine ⟨_, xB_addL (by first | decide | (simp; done) | (simp; omega)), ?_⟩ | refine ⟨_, xB_addT (by first | decide | (simp; done) | (simp; omega)), ?_⟩ | refine ⟨_, dIdx_t0, ?_⟩ | refine ⟨_, dIdx_t1, ?_⟩ | refine ⟨_, dIdx_t2, ?_⟩ | refine ⟨_, rfl, ?_⟩ | refine ⟨_, rfl, rfl, ?_⟩ | refine ⟨_, _, rfl, rfl, ?_⟩ | refine ⟨_, if_pos (by first | decide | assumption | omega), ?_⟩)
  | ((with_reducible refine gdA ?_); first | refine And.intro (by first | assumption | decide | omega | rfl) ?_))
variable {n wf : Nat} {G : Nat → Option D}
theorem tabD_cons {y r : List D} : tabD (.tup (.tup y :: r)) = (decide (1 ≤ (D.tup y :: r).length ∧ (D.tup y :: r).length ≤ 100) && (decide (1 ≤ y.length ∧ y.length ≤ 100) && (D.tup y :: r).all (row (y.length : Int) false))) := rfl
theorem tabD_nil : tabD (.tup []) = false := rfl
theorem tabD_long {xs : List D} (h : ¬ (1 ≤ xs.length ∧ xs.length ≤ 100)) : tabD (.tup xs) = false := by
  show (decide (1 ≤ xs.length ∧ xs.length ≤ 100) && _) = false
  rw [decide_eq_false h]
  rfl
theorem tabD_head {x : D} {r : List D} (h : ∀ y, x ≠ .tup y) : tabD (.tup (x :: r)) = false := by
  show (_ && (match x :: r with | .tup y :: _ => _ | _ => false)) = false
  cases x <;> first | exact Bool.and_false _ | exact absurd rfl (h _)
theorem row_not {x : D} {c : Int} {b : Bool} (h : ∀ y, x ≠ .tup y) : row c b x = false := by
  cases x <;> first | rfl | exact absurd rfl (h _)
theorem s3 {t : D} (h : HD t) (hG2 : G 2 = some (.int 100)) :
    (xF L G wf (n + 3) 3 [.d t]).sat (fun x os => x = .non ∧ os = [none] ∧ tabD t = true) fun e => e = ⟨2, none⟩ ∧ tabD t = false := by
  refine call_satB rfl rfl [some (.d t), none] rfl ?_
  unfold B3
  have ty := h.tyOk
  cases h with
  | tup hx hc =>
    rename_i xs
    repeat trivial
    refine r_dec (fun h1 => ?_) (fun h1 => ?_)
    rotate_left
    · repeat trivial
      exact tabD_long (by omega)
    repeat trivial
    refine r_ndec (fun h2 => ?_) (fun h2 => ?_)
    · repeat trivial
      exact tabD_long (by omega)
    repeat trivial
    cases xs with
    | nil => exact absurd h1 (by decide)
    | cons x r =>
    have hhx := hx x List.mem_cons_self
    have tyx := hhx.tyOk
    cases hhx with
    | tup hy hyc =>
      rename_i y
      repeat trivial
      refine forL_K (fun i σ => ∃ o, σ = [some (.d (.tup (.tup y :: r))), o] ∧ ((D.tup y :: r).take i).all (row (y.length : Int) false) = true ∧ (0 < i → 1 ≤ y.length ∧ y.length ≤ 100)) ⟨none, rfl, rfl, fun h => absurd h (by decide)⟩ ?_ ?_
      · rintro i z σ e ⟨o, rfl, ha, hl⟩
        have hz := hx z (List.mem_of_getElem? e)
        have no : row (y.length : Int) false z = false → tabD (.tup (.tup y :: r)) = false := fun q => by
          rw [tabD_cons, all_no e q]
          simp
        refine ⟨_, rfl, ?_⟩
        have tyz := hz.tyOk
        cases hz with
        | tup hw hwc =>
          rename_i w
          have bad : ¬ (1 ≤ w.length ∧ w.length ≤ 100) → tabD (.tup (.tup y :: r)) = false := fun q => by
            by_cases el : (w.length : Int) = (y.length : Int)
            · rw [tabD_cons, decide_eq_false (p := 1 ≤ y.length ∧ y.length ≤ 100) (by omega)]
              simp
            · exact no (by rw [row_tup, decide_eq_false el]; rfl)
          repeat trivial
          refine r_dec (fun h3 => ?_) (fun h3 => ?_)
          rotate_left
          · repeat trivial
            exact bad (by omega)
          repeat trivial
          refine r_ndec (fun h4 => ?_) (fun h4 => ?_)
          · repeat trivial
            exact bad (by omega)
          repeat trivial
          refine r_ine (fun h5 => ?_) (fun h5 => ?_)
          · repeat trivial
            exact no (by rw [row_tup, decide_eq_false h5]; rfl)
          repeat trivial
          refine CR.sat_eq (s1 hw) ?_
          cases hi : w.all isI with
          | false =>
            repeat trivial
            refine no ?_
            rw [row_tup, show w.all (cell false) = false from hi]
            exact Bool.and_false _
          | true =>
            repeat trivial
            refine ⟨all_take_succ e ha ?_, fun _ => ?_⟩
            · rw [row_tup, decide_eq_true h5, show w.all (cell false) = true from hi]
              rfl
            · omega
        | _ =>
          repeat trivial
          try exact no (row_not fun _ q => by cases q)
      · rintro σ ⟨o, rfl, ha, hl⟩
        rw [List.take_length] at ha
        have hl := hl (by simp)
        refine ⟨rfl, rfl, ?_⟩
        rw [tabD_cons, ha, decide_eq_true hl, decide_eq_true (p := 1 ≤ (D.tup y :: r).length ∧ (D.tup y :: r).length ≤ 100) (by omega)]
        rfl
    | _ =>
      repeat trivial
      try exact tabD_head fun _ q => by cases q
  | _ =>
    repeat trivial
    try rfl
theorem inr_not {m : Int} {x : D} (h : isI x = false) : inr m x = none := by
  cases x <;> first | rfl | cases h
theorem talkOk_len {xs : List D} {k0 k1 : Int} (h : xs.length ≠ 4) : talkOk (.tup xs) k0 k1 = false := by
  unfold talkOk
  split
  · rename_i e; cases e; exact absurd rfl h
  · rfl
theorem talkOk_c {a t u v : D} {k0 k1 : Int} (ha : isS sTalk a = true) : talkOk (.tup [a, u, v, t]) k0 k1 = (match inr 256 u, inr 256 v with
    | some c0, some c1 => good k0 k1 c0 c1 250 t
    | _, _ => false) := by
  show (isS sTalk a && _) = _
  rw [ha]
  rfl
/-- is_between for a coin number -/
theorem s2c {d : D} (h : d.tyOk = true) : xF L G wf (n + 2) 2 [.d d, .d (.int 1), .d (.int 256)] = .ret (.bl (inr 256 d).isSome) [none, none, none] := by
  cases hi : isI d with
  | false => rw [s2n h hi, inr_not hi]; rfl
  | true =>
    cases d <;> first | (cases hi; done) | skip
    rename_i i
    rw [s2]
    unfold inr
    dsimp only
    by_cases q : 1 ≤ i ∧ i ≤ 256
    · rw [if_pos q, decide_eq_true q]; rfl
    · rw [if_neg q, decide_eq_false q]; rfl
theorem inr_int {m : Int} {d : D} (h : (inr m d).isSome = true) : ∃ i, d = .int i ∧ inr m d = some i ∧ 1 ≤ i ∧ i ≤ m := by
  cases d <;> first | (cases h; done) | skip
  rename_i i
  unfold inr at h ⊢
  dsimp only at h ⊢
  by_cases q : 1 ≤ i ∧ i ≤ m
  · exact ⟨i, rfl, if_pos q, q.1, q.2⟩
  · rw [if_neg q] at h; cases h
theorem s7 {x t : D} (hx : Fit x) (ht : HD t) (hwf : 40001 ≤ wf) (hG0 : G 0 = some (.int 256)) (hG1 : G 1 = some (.int 250)) (hG2 : G 2 = some (.int 100)) (hG4 : G 4 = some (.int 40000)) :
    (xF L G wf (n + 7) 7 [.d x, .d t]).sat (fun y os => y = .non ∧ os = [none, none] ∧ tabD t = true ∧ talkOk x (rowsOf t) (colsOf t) = true)
      fun e => (e = ⟨2, none⟩ ∧ tabD t = false) ∨ (e = ⟨1, none⟩ ∧ tabD t = true ∧ talkOk x (rowsOf t) (colsOf t) = false) := by
  obtain ⟨hx, hs⟩ := hx
  refine call_satB rfl rfl [some (.d x), some (.d t), none] rfl ?_
  unfold B7
  repeat trivial
  refine CR.sat_imp (s3 ht hG2) (fun d os ⟨e1, e2, htab⟩ => ?_) (fun e q => .inl q)
  subst e1 e2
  have hshape : ∃ y r, t = .tup (.tup y :: r) := by
    unfold tabD at htab
    split at htab
    · split at htab
      · exact ⟨_, _, rfl⟩
      · simp at htab
    · cases htab
  obtain ⟨y, r, rfl⟩ := hshape
  repeat trivial
  have ty := hx.tyOk
  cases hx with
  | tup hxs hc =>
    rename_i xs
    repeat trivial
    refine r_ine (fun h1 => ?_) (fun h1 => ?_)
    · repeat trivial
      exact .inr ⟨rfl, htab, talkOk_len (by omega)⟩
    have h1 : xs.length = 4 := by omega
    match xs, h1 with
    | [a, u, v, tr], _ =>
      repeat trivial
      refine ⟨_, ne_str (hc a rfl) rfl, ?_⟩
      cases ha : isS sTalk a with
      | false =>
        repeat trivial
        refine .inr ⟨rfl, htab, ?_⟩
        show (isS sTalk a && _) = false
        rw [ha]
        rfl
      | true =>
        repeat trivial
        refine CR.sat_eq (s2c (hxs u (by simp)).tyOk) ?_
        cases hu : (inr 256 u).isSome with
        | false =>
          repeat trivial
          refine .inr ⟨rfl, htab, ?_⟩
          rw [talkOk_c ha]
          have : inr 256 u = none := by cases q : inr 256 u with | none => rfl | some _ => rw [q] at hu; cases hu
          rw [this]
        | true =>
          repeat trivial
          refine CR.sat_eq (s2c (hxs v (by simp)).tyOk) ?_
          obtain ⟨i, rfl, ei, _⟩ := inr_int hu
          cases hv : (inr 256 v).isSome with
          | false =>
            repeat trivial
            refine .inr ⟨rfl, htab, ?_⟩
            rw [talkOk_c ha]
            have : inr 256 v = none := by cases q : inr 256 v with | none => rfl | some _ => rw [q] at hv; cases hv
            rw [this, ei]
          | true =>
            obtain ⟨j, rfl, ej, _⟩ := inr_int hv
            repeat trivial
            refine ⟨_, _, s25, ?_⟩
            repeat trivial
            have eo : talkOk (.tup [a, .int i, .int j, tr]) (rowsOf (.tup (.tup y :: r))) (colsOf (.tup (.tup y :: r))) = good ((D.tup y :: r).length : Int) (y.length : Int) i j 250 tr := by
              rw [talkOk_c ha, ei, ej]
              rfl
            have hstr : sz tr ≤ 40000 := by
              have : sz tr ≤ szs [a, .int i, .int j, tr] := szs_mem (by simp)
              rw [sz_tup] at hs
              omega
            refine CR.sat_imp (s6 (k0 := ((D.tup y :: r).length : Int)) (k1 := (y.length : Int)) (c0 := i) (c1 := j) (hxs tr (by simp)) hstr hwf hG1 hG4) (fun d os ⟨e1, e2, e3⟩ => ?_) (fun e ⟨e1, e2⟩ => .inr ⟨e1, htab, by rw [eo]; exact e2⟩)
            subst e1 e2
            exact ⟨rfl, rfl, htab, by rw [eo]; exact e3⟩
  | _ =>
    repeat trivial
    try exact .inr ⟨rfl, htab, rfl⟩
end K02

namespace K02
open PySem JH
local macro_rules | `(tactic| trivial) => `(tactic| first
  | ((with_reducible refine gdS ?_); first | refine r_seq ?_ | refine r_asg ?_ | refine r_if ?_ | refine r_ret ?_ | refine r_skip ?_ | refine r_asgM ?_ | refine r_for ?_ | refine r_app rfl rfl ?_ | refine r_sto ?_ | refine r_ex ?_ | refine r_retN ?_ | refine r_rse ?_ | refine r_rsi ?_ | refine r_aug rfl ?_ | refine r_asgN ?_ | refine r_par ?_ | refine r_brk ?_ | refine r_cont ?_ | refine r_wh ?_ | refine r_setf ?_)
  | ((with_reducible refine gdE ?_); first | refine r_rd rfl ?_ | refine r_cI ?_ | refine r_call ?_ | refine r_acons rfl ?_ | refine r_amarg rfl ?_ | refine r_anil ?_ | (apply r_cv rfl; focus (repeat (first | exact AVs.nil | apply AVs.d | (apply AVs.m; rfl)))) | refine r_tru ?_ | refine r_t rfl ?_ | refine r_cmp ?_ | refine r_bin ?_ | refine r_idx ?_ | refine r_cS ?_ | refine r_tup ?_ | refine r_cons ?_ | refine r_nil ?_ | refine r_lst ?_ | refine r_cB ?_ | refine r_cN ?_ | refine r_midx rfl ?_ | refine r_b1 ?_ | refine r_and ?_ | refine r_or ?_ | refine r_andc ?_ | refine r_orc ?_ | refine r_and1 ?_ | refine r_or1 ?_ | refine r_not ?_ | refine r_chn ?_ | refine r_truE ?_ | refine r_pb1 rfl peekB_map rfl ?_ | refine r_isN ?_ | refine r_notN ?_ | refine r_rng2 ?_ | refine r_rng1 ?_ | refine r_fz rfl ?_ | refine r_b2 ?_ | refine r_notV ?_ | refine r_tupR ?_ | refine r_neg ?_ | refine r_chn4 ?_ | refine r_gl (by assumption) ?_ | refine r_isc ?_ | refine r_cv1 ?_ | refine r_cv2 ?_ | refine r_isi ?_ | refine r_isi2 ?_ | refine r_slc ?_ | refine r_oN ?_ | refine r_oS rfl ?_ | refine r_tN ?_ | refine r_comp ?_ | refine r_ofd ?_ | refine r_dct ?_ | refine r_dhas ?_ | refine r_meth ?_ | refine r_mk ?_ | refine r_it rfl ?_)
  | ((with_reducible refine gdI ?_); first | refine r_eqT rfl ?_ | refine r_eqF rfl ?_)
  | ((with_reducible refine gdX ?_); first | refine ⟨_, xB_add, ?_⟩ | refine ⟨_, xB_sub, ?_⟩ | refine ⟨_, xB_mul (by first | exact small_lit (by decide +kernel) | exact small_lit1 (by decide +kernel) | exact small_lit1 (small_of (by omega) (by omega)) | exact small_lit (small_of (by omega) (by omega))), ?_⟩ | refine ⟨_, xB_mod (by first | assumption | omega), ?_⟩ | refine ⟨_, xB_fdiv (by omega), ?_⟩ | refine ⟨_, xB_pow (by decide +kernel), ?_⟩ | refine ⟨_, xB_addS (by first | assumption | exact cutS (by assumption) | exact oneS) (by first | assumption | exact cutS (by assumption) | exact oneS), ?_⟩ | refine ⟨_, xB_addSL (by first | assumption | exact cutS (by assumption) | exact oneS) (by first | assumption | exact cutS (by assumption) | exact oneS), ?_⟩ | refine ⟨_, xB_addL (by first | decide | (simp; done) | (simp; omega)), ?_⟩ | refine ⟨_, xB_addT (by first | decide | (simp; done) | (simp; omega)), ?_⟩ | refine ⟨_, dIdx_t0, ?_⟩ | refine ⟨_, dIdx_t1, ?_⟩ | refine ⟨_, dIdx_t2, ?_⟩ | refine ⟨_, rfl, ?_⟩ | refine ⟨_, rfl, rfl, ?_⟩ | refine ⟨_, _, rfl, rfl, ?_⟩ | refine ⟨_, if_pos (by first | decide | assumption | omega), ?_⟩)
  | ((with_reducible refine gdA ?_); first | refine And.intro (by first | assumption | decide | omega | rfl) ?_))
variable {n wf : Nat} {G : Nat → Option D}
theorem s14 {i a b : Int} : xF L G wf (n + 1) 14 [.d (.int i), .d (.int a), .d (.int b)] = .ret (.bl (decide (a ≤ i ∧ i ≤ b))) [none, none, none] := by
  refine sat_ret (call_satB rfl rfl [some (.d (.int i)), some (.d (.int a)), some (.d (.int b))] rfl ?_)
  unfold B14
  repeat trivial
  refine r_dec (fun h1 => ?_) (fun h1 => ?_)
  · repeat trivial
    refine ⟨?_, rfl⟩
    simp [h1]
  · repeat trivial
    refine ⟨?_, rfl⟩
    simp [h1]
theorem s14n {d : D} {a b : Int} (h : d.tyOk = true) (hi : isI d = false) : xF L G wf (n + 1) 14 [.d d, .d (.int a), .d (.int b)] = .ret (.bl false) [none, none, none] := by
  refine sat_ret (call_satB rfl rfl [some (.d d), some (.d (.int a)), some (.d (.int b))] rfl ?_)
  unfold B14
  cases d <;> first | (cases hi; done) | (cases h; done) | (repeat trivial)
theorem s14c {d : D} (h : d.tyOk = true) : xF L G wf (n + 1) 14 [.d d, .d (.int 1), .d (.int 256)] = .ret (.bl (inr 256 d).isSome) [none, none, none] := by
  cases hi : isI d with
  | false => rw [s14n h hi, inr_not hi]; rfl
  | true =>
    cases d <;> first | (cases hi; done) | skip
    rename_i i
    rw [s14]
    unfold inr
    dsimp only
    by_cases q : 1 ≤ i ∧ i ≤ 256
    · rw [if_pos q, decide_eq_true q]; rfl
    · rw [if_neg q, decide_eq_false q]; rfl
/-- _law_told_good -/
theorem s17 {d : D} {k c : Int} {b : Bool} (h : HD d) : xF L G wf (n + 2) 17 [.d d, .d (.int k), .d (.int c), .d (.bl b)] = .ret (.bl (told d k c b)) [none, none, none, none] := by
  refine sat_ret (call_satB rfl rfl [some (.d d), some (.d (.int k)), some (.d (.int c)), some (.d (.bl b)), none, none] rfl ?_)
  unfold B17
  have ty := h.tyOk
  cases h with
  | tup hx hc =>
    rename_i xs
    repeat trivial
    refine r_ine (fun h1 => ?_) (fun h1 => ?_)
    · repeat trivial
      refine ⟨?_, rfl⟩
      rw [told_tup, decide_eq_false h1]
      rfl
    have hno : ∀ {i : Nat} {x : D}, xs[i]? = some x → row c b x = false → told (.tup xs) k c b = false := fun e q => by
      rw [told_tup, all_no e q, Bool.and_false]
    repeat trivial
    refine forL_K (fun i σ => ∃ o4 o5, σ = [some (.d (.tup xs)), some (.d (.int k)), some (.d (.int c)), some (.d (.bl b)), o4, o5] ∧ (xs.take i).all (row c b) = true) ⟨none, none, rfl, rfl⟩ ?_ ?_
    · rintro i x σ e ⟨o4, o5, rfl, ha⟩
      refine ⟨_, rfl, ?_⟩
      have hh := hx x (List.mem_of_getElem? e)
      have ty := hh.tyOk
      cases hh with
      | tup hy hyc =>
        rename_i ys
        repeat trivial
        refine r_ine (fun h2 => ?_) (fun h2 => ?_)
        · repeat trivial
          refine ⟨?_, rfl⟩
          rw [hno e (by rw [row_tup, decide_eq_false h2]; rfl)]
        repeat trivial
        refine forL_K (fun j σ => ∃ o5, σ = [some (.d (.tup xs)), some (.d (.int k)), some (.d (.int c)), some (.d (.bl b)), some (.d (.tup ys)), o5] ∧ (ys.take j).all (cell b) = true) ⟨_, rfl, rfl⟩ ?_ ?_
        · rintro j y σ e2 ⟨o5, rfl, hb⟩
          refine ⟨_, rfl, ?_⟩
          have hcy : cell b y = false → told (.tup xs) k c b = false := fun q => hno e (by rw [row_tup, all_no e2 q, Bool.and_false])
          have hyy := hy y (List.mem_of_getElem? e2)
          repeat trivial
          refine CR.sat_eq (s15 hyy.tyOk) ?_
          cases hyy with
          | int v =>
            repeat trivial
            cases b with
            | false =>
              repeat trivial
              exact all_take_succ e2 hb rfl
            | true =>
              repeat trivial
              refine r_ine (fun h3 => ?_) (fun h3 => ?_)
              · repeat trivial
                refine r_ine (fun h4 => ?_) (fun h4 => ?_)
                · repeat trivial
                  refine ⟨?_, rfl⟩
                  rw [hcy (by rw [cell_bit, decide_eq_false h3, decide_eq_false h4]; rfl)]
                · repeat trivial
                  exact all_take_succ e2 hb (by rw [cell_bit, decide_eq_true h4, Bool.or_true])
              · repeat trivial
                exact all_take_succ e2 hb (by rw [cell_bit, decide_eq_true h3]; rfl)
          | _ =>
            repeat trivial
            refine ⟨?_, rfl⟩
            rw [hcy rfl]
        · rintro σ ⟨o5, rfl, hb⟩
          rw [List.take_length] at hb
          refine ⟨_, _, rfl, all_take_succ e ha ?_⟩
          rw [row_tup, decide_eq_true h2, hb]
          rfl
      | _ =>
        repeat trivial
        refine ⟨?_, rfl⟩
        rw [hno e rfl]
    · rintro σ ⟨o4, o5, rfl, ha⟩
      rw [List.take_length] at ha
      repeat trivial
      refine ⟨?_, rfl⟩
      rw [told_tup, decide_eq_true h1, ha]
      rfl
  | _ =>
    repeat trivial
    try exact ⟨rfl, rfl⟩
/-- _law_table_good -/
theorem s16 {t : D} (h : HD t) : xF L G wf (n + 2) 16 [.d t] = .ret (.bl (tabD t)) [none] := by
  refine sat_ret (call_satB rfl rfl [some (.d t), none, none] rfl ?_)
  unfold B16
  have ty := h.tyOk
  cases h with
  | tup hx hc =>
    rename_i xs
    repeat trivial
    refine CR.sat_eq s14 ?_
    repeat trivial
    refine r_ndec (fun h1 => ?_) (fun h1 => ?_)
    · repeat trivial
      refine ⟨?_, rfl⟩
      rw [tabD_long (by omega)]
    cases xs with
    | nil => exact absurd h1.1 (by decide)
    | cons x r =>
    have hhx := hx x List.mem_cons_self
    by_cases hxt : ∃ y, x = .tup y
    rotate_left
    · repeat trivial
      refine forL_K (fun i σ => i = 0 ∧ ∃ o, σ = [some (.d (.tup (x :: r))), o, none]) ⟨rfl, none, rfl⟩ ?_ ?_
      · rintro i z σ e ⟨rfl, o, rfl⟩
        cases e
        refine ⟨_, rfl, ?_⟩
        have tyx := hhx.tyOk
        have nt : tabD (.tup (x :: r)) = false := tabD_head fun y q => hxt ⟨y, q⟩
        cases hhx with
        | tup _ _ => exact absurd ⟨_, rfl⟩ hxt
        | _ =>
          repeat trivial
          refine ⟨?_, rfl⟩
          rw [nt]
      · rintro σ ⟨q, _⟩
        cases q
    obtain ⟨y, rfl⟩ := hxt
    repeat trivial
    refine forL_K (fun i σ => ∃ o o2, σ = [some (.d (.tup (.tup y :: r))), o, o2] ∧ ((D.tup y :: r).take i).all (row (y.length : Int) false) = true ∧ (0 < i → 1 ≤ y.length ∧ y.length ≤ 100)) ⟨none, none, rfl, rfl, fun h => absurd h (by decide)⟩ ?_ ?_
    · rintro i z σ e ⟨o, o2, rfl, ha, hl⟩
      have hz := hx z (List.mem_of_getElem? e)
      have no : row (y.length : Int) false z = false → tabD (.tup (.tup y :: r)) = false := fun q => by
        rw [tabD_cons, all_no e q]
        simp
      refine ⟨_, rfl, ?_⟩
      have tyz := hz.tyOk
      cases hz with
      | tup hw hwc =>
        rename_i w
        have bad : ¬ (1 ≤ w.length ∧ w.length ≤ 100) → tabD (.tup (.tup y :: r)) = false := fun q => by
          by_cases el : (w.length : Int) = (y.length : Int)
          · rw [tabD_cons, decide_eq_false (p := 1 ≤ y.length ∧ y.length ≤ 100) (by omega)]
            simp
          · exact no (by rw [row_tup, decide_eq_false el]; rfl)
        repeat trivial
        refine CR.sat_eq s14 ?_
        repeat trivial
        refine r_ndec (fun h3 => ?_) (fun h3 => ?_)
        · repeat trivial
          refine ⟨?_, rfl⟩
          rw [bad (by omega)]
        repeat trivial
        refine r_ine (fun h5 => ?_) (fun h5 => ?_)
        · repeat trivial
          refine ⟨?_, rfl⟩
          rw [no (by rw [row_tup, decide_eq_false h5]; rfl)]
        repeat trivial
        refine forL_K (fun j σ => ∃ o2, σ = [some (.d (.tup (.tup y :: r))), some (.d (.tup w)), o2] ∧ (w.take j).all (cell false) = true) ⟨_, rfl, rfl⟩ ?_ ?_
        · rintro j v σ e2 ⟨o2, rfl, hb⟩
          refine ⟨_, rfl, ?_⟩
          repeat trivial
          refine CR.sat_eq (s15 (hw v (List.mem_of_getElem? e2)).tyOk) ?_
          cases hi : isI v with
          | false =>
            repeat trivial
            refine ⟨?_, rfl⟩
            rw [no (by rw [row_tup, all_no (p := cell false) e2 hi, Bool.and_false])]
          | true =>
            repeat trivial
            exact all_take_succ e2 hb hi
        · rintro σ ⟨o2, rfl, hb⟩
          rw [List.take_length] at hb
          refine ⟨_, _, rfl, all_take_succ e ha ?_, fun _ => ?_⟩
          · rw [row_tup, decide_eq_true h5, hb]
            rfl
          · omega
      | _ =>
        repeat trivial
        refine ⟨?_, rfl⟩
        rw [no (row_not fun _ q => by cases q)]
    · rintro σ ⟨o, o2, rfl, ha, hl⟩
      rw [List.take_length] at ha
      have hl := hl (by simp)
      repeat trivial
      refine ⟨?_, rfl⟩
      rw [tabD_cons, ha, decide_eq_true hl, decide_eq_true (p := 1 ≤ (D.tup y :: r).length ∧ (D.tup y :: r).length ≤ 100) (by omega)]
      rfl
  | _ =>
    repeat trivial
    try exact ⟨rfl, rfl⟩
end K02

namespace K02
open PySem JH
local macro_rules | `(tactic| trivial) => `(tactic| first
  | ((with_reducible refine gdS ?_); first | refine r_seq ?_ | refine r_asg ?_ | refine r_if ?_ | refine r_ret ?_ | refine r_skip ?_ | refine r_asgM ?_ | refine r_for ?_ | refine r_app rfl rfl ?_ | refine r_sto ?_ | refine r_ex ?_ | refine r_retN ?_ | refine r_rse ?_ | refine r_rsi ?_ | refine r_aug rfl ?_ | refine r_asgN ?_ | refine r_par ?_ | refine r_brk ?_ | refine r_cont ?_ | refine r_wh ?_ | refine r_setf ?_)
  | ((with_reducible refine gdE ?_); first | refine r_rd rfl ?_ | refine r_cI ?_ | refine r_call ?_ | refine r_acons rfl ?_ | refine r_amarg rfl ?_ | refine r_anil ?_ | (apply r_cv rfl; focus (repeat (first | exact AVs.nil | apply AVs.d | (apply AVs.m; rfl)))) | refine r_tru ?_ | refine r_t rfl ?_ | refine r_cmp ?_ | refine r_bin ?_ | refine r_idx ?_ | refine r_cS ?_ | refine r_tup ?_ | refine r_cons ?_ | refine r_nil ?_ | refine r_lst ?_ | refine r_cB ?_ | refine r_cN ?_ | refine r_midx rfl ?_ | refine r_b1 ?_ | refine r_and ?_ | refine r_or ?_ | refine r_andc ?_ | refine r_orc ?_ | refine r_and1 ?_ | refine r_or1 ?_ | refine r_not ?_ | refine r_chn ?_ | refine r_truE ?_ | refine r_pb1 rfl peekB_map rfl ?_ | refine r_isN ?_ | refine r_notN ?_ | refine r_rng2 ?_ | refine r_rng1 ?_ | refine r_fz rfl ?_ | refine r_b2 ?_ | refine r_notV ?_ | refine r_tupR ?_ | refine r_neg ?_ | refine r_chn4 ?_ | refine r_gl (by assumption) ?_ | refine r_isc ?_ | refine r_cv1 ?_ | refine r_cv2 ?_ | refine r_isi ?_ | refine r_isi2 ?_ | refine r_slc ?_ | refine r_oN ?_ | refine r_oS rfl ?_ | refine r_tN ?_ | refine r_comp ?_ | refine r_ofd ?_ | refine r_dct ?_ | refine r_dhas ?_ | refine r_meth ?_ | refine r_mk ?_ | refine r_it rfl ?_)
  | ((with_reducible refine gdI ?_); first | refine r_eqT rfl ?_ | refine r_eqF rfl ?_)
  | ((with_reducible refine gdX ?_); first | refine ⟨_, xB_add, ?_⟩ | refine ⟨_, xB_sub, ?_⟩ | refine ⟨_, xB_mul (by first | exact small_lit (by decide +kernel) | exact small_lit1 (by decide +kernel) | exact small_lit1 (small_of (by omega) (by omega)) | exact small_lit (small_of (by omega) (by omega))), ?_⟩ | refine ⟨_, xB_mod (by first | assumption | omega), ?_⟩ | refine ⟨_, xB_fdiv (by omega), ?_⟩ | refine ⟨_, xB_pow (by decide +kernel), ?_⟩ | refine ⟨_, xB_addS (by first | assumption | exact cutS (by assumption) | exact oneS) (by first | assumption | exact cutS (by assumption) | exact oneS), ?_⟩ | refine ⟨_, xB_addSL (by first | assumption | exact cutS (by assumption) | exact oneS) (by first | assumption | exact cutS (by assumption) | exact oneS), ?_⟩ | refine ⟨_, xB_addL (by first | decide | (simp; done) | (simp; omega)), ?_⟩ | refine ⟨_, xB_addT (by first | decide | (simp; done) | (simp; omega)), ?_⟩ | refine ⟨_, dIdx_t0, ?_⟩ | refine ⟨_, dIdx_t1, ?_⟩ | refine ⟨_, dIdx_t2, ?_⟩ | refine ⟨_, rfl, ?_⟩ | refine ⟨_, rfl, rfl, ?_⟩ | refine ⟨_, _, rfl, rfl, ?_⟩ | refine ⟨_, if_pos (by first | decide | assumption | omega), ?_⟩)
  | ((with_reducible refine gdA ?_); first | refine And.intro (by first | assumption | decide | omega | rfl) ?_))
variable {n wf : Nat} {G : Nat → Option D}
section
variable {k0 k1 c0 c1 : Int}
theorem head_no {a : D} {r : List D} (h : ∀ s, a ≠ .str s) : sayN k0 k1 c0 c1 (.tup (a :: r)) = false ∧ endN k0 k1 c0 c1 (.tup (a :: r)) = false := by
  have hn : ∀ s, isS s a = false := fun s => by
    cases a <;> first | rfl | exact absurd rfl (h _)
  constructor
  · unfold sayN
    split
    · rename_i e; cases e; rw [hn]; rfl
    · rfl
  · unfold endN
    split
    · rename_i e; cases e; rw [hn]; rfl
    · rfl
theorem say_head {s : List Nat} {r : List D} (h : isS sSay (.str s) = false) : sayN k0 k1 c0 c1 (.tup (.str s :: r)) = false := by
  unfold sayN
  split
  · rename_i e; cases e; rw [h]; rfl
  · rfl
theorem end_head {s : List Nat} {r : List D} (h : isS sEnd (.str s) = false) : endN k0 k1 c0 c1 (.tup (.str s :: r)) = false := by
  unfold endN
  split
  · rename_i e; cases e; rw [h]; rfl
  · rfl
theorem say_not {a s b l r : D} (h : say k0 k1 c0 c1 s b = false) : sayN k0 k1 c0 c1 (.tup [a, s, b, l, r]) = false := by
  show (isS sSay a && _) = false
  rw [h, Bool.and_false]
theorem say_end {s : List Nat} (h : isS sSay (.str s) = true) : isS sEnd (.str s) = false := by
  cases isS_eq h
  rfl
theorem dsz {xs : List D} {j : Nat} {x : D} (e : xs[j]? = some x) : szs (xs.drop j) = sz x + szs (xs.drop (j + 1)) := by
  rw [List.drop_eq_getElem?_toList_append, e]
  simp [szs]
theorem dall {xs : List D} {p : D → Bool} {j : Nat} {x : D} (e : xs[j]? = some x) : (xs.drop j).all p = (p x && (xs.drop (j + 1)).all p) := by
  rw [List.drop_eq_getElem?_toList_append, e]
  simp
/-- _law_talk_good's inner loop -/
def F18 : IS := match B18 with | .seq _ (.seq _ (.seq _ (.seq _ (.seq (.for _ _ (.seq _ (.seq (.for _ _ s) _))) _)))) => s | _ => .skip
theorem s18in {q : Nat} {lv bl : List D} {y tr x : D} {i j : Nat} {o6 : Option M} (e : lv[j]? = some y) (hl : ∀ y ∈ lv, HD y) (hb : ∀ y ∈ bl, HD y) (hs : szs bl + szs (lv.drop j) ≤ 40000)
    (hg : good k0 k1 c0 c1 250 tr = ((lv.drop j).all (good k0 k1 c0 c1 (q + 1)) && bl.all (good k0 k1 c0 c1 q))) :
    (xS (xF L G wf (n + 2)) G wf F18 [some (.d x), some (.d (.tup [.int k0, .int k1])), some (.d (.tup [.int c0, .int c1])), some (.d (.lst lv)), some (.d (.int (i : Int))), some (.d (.lst bl)), some (.d y)]).satK
      { nx := fun σ => ∃ bl, ∃ o6 : Option M, σ = [some (.d x), some (.d (.tup [.int k0, .int k1])), some (.d (.tup [.int c0, .int c1])), some (.d (.lst lv)), some (.d (.int (i : Int))), some (.d (.lst bl)), o6] ∧ (∀ y ∈ bl, HD y) ∧ szs bl + szs (lv.drop (j + 1)) ≤ 40000 ∧ good k0 k1 c0 c1 250 tr = ((lv.drop (j + 1)).all (good k0 k1 c0 c1 (q + 1)) && bl.all (good k0 k1 c0 c1 q)),
        cont := fun σ => ∃ bl, ∃ o6 : Option M, σ = [some (.d x), some (.d (.tup [.int k0, .int k1])), some (.d (.tup [.int c0, .int c1])), some (.d (.lst lv)), some (.d (.int (i : Int))), some (.d (.lst bl)), o6] ∧ (∀ y ∈ bl, HD y) ∧ szs bl + szs (lv.drop (j + 1)) ≤ 40000 ∧ good k0 k1 c0 c1 250 tr = ((lv.drop (j + 1)).all (good k0 k1 c0 c1 (q + 1)) && bl.all (good k0 k1 c0 c1 q)),
        brk := fun _ => False, ret := fun d _ => d = .bl false ∧ good k0 k1 c0 c1 250 tr = false, exc := fun _ _ => False } := by
  unfold F18 B18
  dsimp only
  have hy := hl y (List.mem_of_getElem? e)
  have ty := hy.tyOk
  have hno : sayN k0 k1 c0 c1 y = false → endN k0 k1 c0 c1 y = false → good k0 k1 c0 c1 250 tr = false := fun a b => by
    rw [hg, dall e, good_no a b]
    rfl
  rw [dsz e] at hs
  rw [dall e] at hg
  cases hy with
  | tup hx hc =>
    rename_i ys
    cases ys with
    | nil =>
      repeat trivial
      try exact hno rfl rfl
    | cons a r =>
      have ha := hx a List.mem_cons_self
      have tya := ha.tyOk
      repeat trivial
      by_cases hstr : ∃ s, a = .str s
      rotate_left
      · obtain ⟨n1, n2⟩ := head_no (k0 := k0) (k1 := k1) (c0 := c0) (c1 := c1) (r := r) fun s q => hstr ⟨s, q⟩
        cases ha with
        | str s => exact absurd ⟨_, rfl⟩ hstr
        | _ =>
          repeat trivial
          exact hno n1 n2
      obtain ⟨s, rfl⟩ := hstr
      repeat trivial
      have stage : (hse : endN k0 k1 c0 c1 (.tup (.str s :: r)) = false) → (xS (xF L G wf (n + 2)) G wf (match F18 with | .seq _ (.seq _ t) => t | _ => .skip) [some (.d x), some (.d (.tup [.int k0, .int k1])), some (.d (.tup [.int c0, .int c1])), some (.d (.lst lv)), some (.d (.int (i : Int))), some (.d (.lst bl)), some (.d (.tup (.str s :: r)))]).satK
        { nx := fun σ => ∃ bl, ∃ o6 : Option M, σ = [some (.d x), some (.d (.tup [.int k0, .int k1])), some (.d (.tup [.int c0, .int c1])), some (.d (.lst lv)), some (.d (.int (i : Int))), some (.d (.lst bl)), o6] ∧ (∀ y ∈ bl, HD y) ∧ szs bl + szs (lv.drop (j + 1)) ≤ 40000 ∧ good k0 k1 c0 c1 250 tr = ((lv.drop (j + 1)).all (good k0 k1 c0 c1 (q + 1)) && bl.all (good k0 k1 c0 c1 q)),
          cont := fun σ => ∃ bl, ∃ o6 : Option M, σ = [some (.d x), some (.d (.tup [.int k0, .int k1])), some (.d (.tup [.int c0, .int c1])), some (.d (.lst lv)), some (.d (.int (i : Int))), some (.d (.lst bl)), o6] ∧ (∀ y ∈ bl, HD y) ∧ szs bl + szs (lv.drop (j + 1)) ≤ 40000 ∧ good k0 k1 c0 c1 250 tr = ((lv.drop (j + 1)).all (good k0 k1 c0 c1 (q + 1)) && bl.all (good k0 k1 c0 c1 q)),
          brk := fun _ => False, ret := fun d _ => d = .bl false ∧ good k0 k1 c0 c1 250 tr = false, exc := fun _ _ => False } := fun hse => by
        unfold F18 B18
        dsimp only
        repeat trivial
        refine r_nbool (fun hsay => ?_) (fun hsay => ?_)
        · rw [eqv_isS] at hsay
          repeat trivial
          exact hno (say_head hsay) hse
        · rw [eqv_isS] at hsay
          repeat trivial
          refine r_ine (fun h5 => ?_) (fun h5 => ?_)
          · repeat trivial
            exact hno (sayN_len (by omega)) hse
          have h5 : (D.str s :: r).length = 5 := by omega
          match r, h5 with
          | [u, b, l, w], _ =>
            have hu := hx u (by simp)
            have hbb := hx b (by simp)
            repeat trivial
            by_cases hui : ∃ v, u = .int v
            rotate_left
            · have hi : isI u = false := by cases u <;> first | rfl | exact absurd ⟨_, rfl⟩ hui
              refine CR.sat_eq (s14n hu.tyOk hi) ?_
              repeat trivial
              refine hno (say_not ?_) hse
              cases u <;> first | rfl | exact absurd ⟨_, rfl⟩ hui
            obtain ⟨v, rfl⟩ := hui
            refine CR.sat_eq s14 ?_
            have rest : ∀ tv, say k0 k1 c0 c1 (.int v) b = tv → (tv = true → HD l ∧ HD w) := fun _ _ _ => ⟨hx l (by simp), hx w (by simp)⟩
            have hk := sz_tup (xs := [.str s, .int v, b, l, w])
            simp only [szs] at hk
            have := sz_pos b
            have fin : say k0 k1 c0 c1 (.int v) b = true → (∀ y ∈ bl ++ [l, w], HD y) ∧ szs (bl ++ [l, w]) + szs (lv.drop (j + 1)) ≤ 40000 ∧ good k0 k1 c0 c1 250 tr = ((lv.drop (j + 1)).all (good k0 k1 c0 c1 (q + 1)) && (bl ++ [l, w]).all (good k0 k1 c0 c1 q)) := fun ht => by
              refine ⟨mem_app hb (mem_two (hx l (by simp)) (hx w (by simp))), ?_, ?_⟩
              · rw [szs_app]
                simp only [szs]
                omega
              · have : sayN k0 k1 c0 c1 (.tup [.str s, .int v, b, l, w]) = true := by
                  show (isS sSay (.str s) && _) = true
                  rw [hsay, ht]
                  rfl
                obtain ⟨a', u', b', l', r', e1, e2⟩ := good_say (m := q) this
                cases e1
                rw [hg, e2, List.all_append]
                simp only [List.all_cons, List.all_nil, Bool.and_true]
                cases good k0 k1 c0 c1 q l <;> cases good k0 k1 c0 c1 q w <;> simp
            have hlen := szs_len bl
            by_cases h0 : v = 0
            · subst h0
              repeat trivial
              refine CR.sat_eq (s17 hbb) ?_
              cases ht : told b k0 c0 true with
              | false =>
                repeat trivial
                exact hno (say_not ht) hse
              | true =>
                repeat trivial
                exact ⟨.lst (bl ++ [l, w]), xB_addL (ys := [l, w]) (by simp; omega), _, rfl, bl ++ [l, w], _, rfl, fin ht⟩
            · by_cases h1 : v = 1
              · subst h1
                repeat trivial
                refine CR.sat_eq (s17 hbb) ?_
                cases ht : told b k1 c1 true with
                | false =>
                  repeat trivial
                  exact hno (say_not ht) hse
                | true =>
                  repeat trivial
                  exact ⟨.lst (bl ++ [l, w]), xB_addL (ys := [l, w]) (by simp; omega), _, rfl, bl ++ [l, w], _, rfl, fin ht⟩
              · rw [decide_eq_false (by omega)]
                repeat trivial
                refine hno (say_not ?_) hse
                show (if v = 0 then _ else if v = 1 then _ else false) = false
                rw [if_neg h0, if_neg h1]
      refine r_bool (fun he => ?_) (fun he => ?_)
      · rw [eqv_isS] at he
        repeat trivial
        refine r_ieq (fun h3 => ?_) (fun h3 => ?_)
        · have h3 : (D.str s :: r).length = 3 := by omega
          match r, h3 with
          | [u, w], _ =>
            repeat trivial
            refine CR.sat_eq (s17 (hx u (by simp))) ?_
            have en : endN k0 k1 c0 c1 (.tup [.str s, u, w]) = (told u k0 c0 false && told w k1 c1 false) := by
              show (isS sEnd (.str s) && _) = _
              rw [he]
              rfl
            have sn : sayN k0 k1 c0 c1 (.tup [.str s, u, w]) = false := sayN_len (by simp)
            cases h1 : told u k0 c0 false with
            | false =>
              repeat trivial
              exact hno sn (by rw [en, h1]; rfl)
            | true =>
              repeat trivial
              refine CR.sat_eq (s17 (hx w (by simp))) ?_
              cases h2 : told w k1 c1 false with
              | false =>
                repeat trivial
                exact hno sn (by rw [en, h1, h2]; rfl)
              | true =>
                repeat trivial
                refine ⟨bl, _, rfl, hb, by omega, ?_⟩
                rw [hg, good_end (by rw [en, h1, h2]; rfl), Bool.true_and]
        · exact r_skip (stage (endN_len (by omega)))
      · rw [eqv_isS] at he
        exact ⟨_, rfl, r_false (r_skip (stage (end_head he)))⟩
  | _ =>
    repeat trivial
    try exact hno rfl rfl
end
/-- _law_talk_good -/
theorem s18 {x : D} {k0 k1 : Int} (h : Fit x) : xF L G wf (n + 3) 18 [.d x, .d (.tup [.int k0, .int k1])] = .ret (.bl (talkOk x k0 k1)) [none, none] := by
  obtain ⟨hx, hsx⟩ := h
  refine sat_ret (call_satB rfl rfl [some (.d x), some (.d (.tup [.int k0, .int k1])), none, none, none, none, none] rfl ?_)
  unfold B18
  have ty := hx.tyOk
  cases hx with
  | tup hxs hc =>
    rename_i xs
    repeat trivial
    refine r_ine (fun h1 => ?_) (fun h1 => ?_)
    · repeat trivial
      refine ⟨?_, rfl⟩
      rw [talkOk_len (by omega)]
    have h1 : xs.length = 4 := by omega
    match xs, h1 with
    | [a, u, v, tr], _ =>
      have ha := hxs a (by simp)
      have tya := ha.tyOk
      repeat trivial
      by_cases hstr : ∃ s, a = .str s
      rotate_left
      · have hn : talkOk (.tup [a, u, v, tr]) k0 k1 = false := by
          show (isS sTalk a && _) = false
          cases a <;> first | rfl | exact absurd ⟨_, rfl⟩ hstr
        cases ha with
        | str s => exact absurd ⟨_, rfl⟩ hstr
        | _ =>
          repeat trivial
          try (refine ⟨?_, rfl⟩; rw [hn])
      obtain ⟨s, rfl⟩ := hstr
      repeat trivial
      refine r_nbool (fun he => ?_) (fun he => ?_)
      · rw [eqv_isS] at he
        repeat trivial
        refine ⟨?_, rfl⟩
        show D.bl false = D.bl (isS sTalk (.str s) && _)
        rw [he]
        rfl
      rw [eqv_isS] at he
      rw [talkOk_c he]
      repeat trivial
      refine CR.sat_eq (s14c (hxs u (by simp)).tyOk) ?_
      cases hu : (inr 256 u).isSome with
      | false =>
        have : inr 256 u = none := by cases q : inr 256 u with | none => rfl | some _ => rw [q] at hu; cases hu
        rw [this]
        repeat trivial
        try exact ⟨rfl, rfl⟩
      | true =>
        repeat trivial
        refine CR.sat_eq (s14c (hxs v (by simp)).tyOk) ?_
        obtain ⟨c0, rfl, ei, _⟩ := inr_int hu
        cases hv : (inr 256 v).isSome with
        | false =>
          have : inr 256 v = none := by cases q : inr 256 v with | none => rfl | some _ => rw [q] at hv; cases hv
          rw [this, ei]
          repeat trivial
          try exact ⟨rfl, rfl⟩
        | true =>
          obtain ⟨c1, rfl, ej, _⟩ := inr_int hv
          rw [ei, ej]
          dsimp only
          repeat trivial
          refine forL_rng (fun i σ => ∃ lv o4 o5 o6, σ = [some (.d (.tup [.str s, .int c0, .int c1, tr])), some (.d (.tup [.int k0, .int k1])), some (.d (.tup [.int c0, .int c1])), some (.d (.lst lv)), o4, o5, o6] ∧ lv ≠ [] ∧ (∀ y ∈ lv, HD y) ∧ szs lv ≤ 40000 ∧ good k0 k1 c0 c1 250 tr = lv.all (good k0 k1 c0 c1 (250 - i))) ⟨[tr], none, none, none, rfl, by simp, mem_one (hxs tr (by simp)), ?_, by simp⟩ ?_ ?_
          · have : szs [tr] ≤ szs [.str s, .int c0, .int c1, tr] := by simp only [szs]; omega
            rw [sz_tup] at hsx
            omega
          · rintro i σ hi ⟨lv, o4, o5, o6, rfl, hne, hl, hs, hg⟩
            have hi : i < (250 : Nat) := hi
            obtain ⟨q, hq⟩ : ∃ q, 250 - i = q + 1 := ⟨249 - i, by omega⟩
            rw [hq] at hg
            repeat trivial
            refine forL_K (fun j σ => ∃ bl, ∃ o6 : Option M, σ = [some (.d (.tup [.str s, .int c0, .int c1, tr])), some (.d (.tup [.int k0, .int k1])), some (.d (.tup [.int c0, .int c1])), some (.d (.lst lv)), some (.d (.int (i : Int))), some (.d (.lst bl)), o6] ∧ (∀ y ∈ bl, HD y) ∧ szs bl + szs (lv.drop j) ≤ 40000 ∧ good k0 k1 c0 c1 250 tr = ((lv.drop j).all (good k0 k1 c0 c1 (q + 1)) && bl.all (good k0 k1 c0 c1 q))) ⟨[], _, rfl, mem_nil, by simpa [szs] using hs, by simpa using hg⟩ ?_ ?_
            · rintro j y σ e ⟨bl, o6', rfl, hb, hsb, hgb⟩
              refine ⟨_, rfl, ?_⟩
              refine satK_imp (s18in (o6 := o6') e hl hb hsb hgb) (fun _ z => z) (fun d σ ⟨e1, e2⟩ => ?_) (fun _ z => z.elim) (fun _ z => z) (fun _ _ z => z.elim) (fun _ _ z => z.elim)
              subst e1
              refine ⟨?_, rfl⟩
              rw [e2]
            · rintro σ ⟨bl, o6', rfl, hb, hsb, hgb⟩
              rw [List.drop_length] at hsb hgb
              have hgb : good k0 k1 c0 c1 250 tr = bl.all (good k0 k1 c0 c1 q) := by rw [hgb]; rfl
              repeat trivial
              refine r_ieq (fun h0 => ?_) (fun h0 => ?_)
              · repeat trivial
                refine ⟨?_, rfl⟩
                have : bl = [] := List.eq_nil_of_length_eq_zero (by omega)
                subst this
                rw [hgb]
                rfl
              · repeat trivial
                refine ⟨bl, _, _, _, rfl, fun z => h0 (by rw [z]; rfl), hb, by omega, ?_⟩
                rw [hgb, show 250 - (i + 1) = q from by omega]
          · rintro σ ⟨lv, o4, o5, o6, rfl, hne, hl, hs, hg⟩
            repeat trivial
            refine ⟨?_, rfl⟩
            rw [hg]
            cases lv with
            | nil => exact absurd rfl hne
            | cons y r => rfl
  | _ =>
    repeat trivial
    try exact ⟨rfl, rfl⟩
end K02

namespace K02
open PySem JH
local macro_rules | `(tactic| trivial) => `(tactic| first
  | ((with_reducible refine gdS ?_); first | refine r_seq ?_ | refine r_asg ?_ | refine r_if ?_ | refine r_ret ?_ | refine r_skip ?_ | refine r_asgM ?_ | refine r_for ?_ | refine r_app rfl rfl ?_ | refine r_sto ?_ | refine r_ex ?_ | refine r_retN ?_ | refine r_rse ?_ | refine r_rsi ?_ | refine r_aug rfl ?_ | refine r_asgN ?_ | refine r_par ?_ | refine r_brk ?_ | refine r_cont ?_ | refine r_wh ?_ | refine r_setf ?_)
  | ((with_reducible refine gdE ?_); first | refine r_rd rfl ?_ | refine r_cI ?_ | refine r_call ?_ | refine r_acons rfl ?_ | refine r_amarg rfl ?_ | refine r_anil ?_ | (apply r_cv rfl; focus (repeat (first | exact AVs.nil | apply AVs.d | (apply AVs.m; rfl)))) | refine r_tru ?_ | refine r_t rfl ?_ | refine r_cmp ?_ | refine r_bin ?_ | refine r_idx ?_ | refine r_cS ?_ | refine r_tup ?_ | refine r_cons ?_ | refine r_nil ?_ | refine r_lst ?_ | refine r_cB ?_ | refine r_cN ?_ | refine r_midx rfl ?_ | refine r_b1 ?_ | refine r_and ?_ | refine r_or ?_ | refine r_andc ?_ | refine r_orc ?_ | refine r_and1 ?_ | refine r_or1 ?_ | refine r_not ?_ | refine r_chn ?_ | refine r_truE ?_ | refine r_pb1 rfl peekB_map rfl ?_ | refine r_isN ?_ | refine r_notN ?_ | refine r_rng2 ?_ | refine r_rng1 ?_ | refine r_fz rfl ?_ | refine r_b2 ?_ | refine r_notV ?_ | refine r_tupR ?_ | refine r_neg ?_ | refine r_chn4 ?_ | refine r_gl (by assumption) ?_ | refine r_isc ?_ | refine r_cv1 ?_ | refine r_cv2 ?_ | refine r_isi ?_ | refine r_isi2 ?_ | refine r_slc ?_ | refine r_oN ?_ | refine r_oS rfl ?_ | refine r_tN ?_ | refine r_comp ?_ | refine r_ofd ?_ | refine r_dct ?_ | refine r_dhas ?_ | refine r_meth ?_ | refine r_mk ?_ | refine r_it rfl ?_)
  | ((with_reducible refine gdI ?_); first | refine r_eqT rfl ?_ | refine r_eqF rfl ?_)
  | ((with_reducible refine gdX ?_); first | refine ⟨_, xB_add, ?_⟩ | refine ⟨_, xB_sub, ?_⟩ | refine ⟨_, xB_mul (by first | exact small_lit (by decide +kernel) | exact small_lit1 (by decide +kernel) | exact small_lit1 (small_of (by omega) (by omega)) | exact small_lit (small_of (by omega) (by omega))), ?_⟩ | refine ⟨_, xB_mod (by first | assumption | omega), ?_⟩ | refine ⟨_, xB_fdiv (by omega), ?_⟩ | refine ⟨_, xB_pow (by decide +kernel), ?_⟩ | refine ⟨_, xB_addS (by first | assumption | exact cutS (by assumption) | exact oneS) (by first | assumption | exact cutS (by assumption) | exact oneS), ?_⟩ | refine ⟨_, xB_addSL (by first | assumption | exact cutS (by assumption) | exact oneS) (by first | assumption | exact cutS (by assumption) | exact oneS), ?_⟩ | refine ⟨_, xB_addL (by first | decide | (simp; done) | (simp; omega)), ?_⟩ | refine ⟨_, xB_addT (by first | decide | (simp; done) | (simp; omega)), ?_⟩ | refine ⟨_, dIdx_t0, ?_⟩ | refine ⟨_, dIdx_t1, ?_⟩ | refine ⟨_, dIdx_t2, ?_⟩ | refine ⟨_, rfl, ?_⟩ | refine ⟨_, rfl, rfl, ?_⟩ | refine ⟨_, _, rfl, rfl, ?_⟩ | refine ⟨_, if_pos (by first | decide | assumption | omega), ?_⟩)
  | ((with_reducible refine gdA ?_); first | refine And.intro (by first | assumption | decide | omega | rfl) ?_))
variable {n wf : Nat} {G : Nat → Option D}
abbrev sTable : List Nat := [116, 97, 98, 108, 101]
abbrev sFine : List Nat := [102, 105, 110, 101]
theorem s21a {x t : D} (ht : HD t) (hG2 : G 2 = some (.int 100)) : xF L G wf (n + 8) 21 [.d (.int 0), .d x, .d t] = .ret (.str (if tabD t = true then sFine else sTable)) [none, none, none] := by
  refine sat_ret (call_satB rfl rfl [some (.d (.int 0)), some (.d x), some (.d t), none, none] rfl ?_)
  unfold B21
  refine r_seq (r_try ?_)
  repeat trivial
  refine CR.sat_imp (s3 ht hG2) (fun d os ⟨e1, e2, e3⟩ => ?_) (fun e ⟨e1, e2⟩ => ?_)
  · subst e1 e2
    rw [if_pos e3]
    repeat trivial
    try exact ⟨rfl, rfl⟩
  · subst e1
    rw [if_neg (by rw [e2]; decide)]
    repeat trivial
    try exact ⟨rfl, rfl⟩
theorem s21b {x t : D} (hx : Fit x) (ht : HD t) (hwf : 40001 ≤ wf) (hG0 : G 0 = some (.int 256)) (hG1 : G 1 = some (.int 250)) (hG2 : G 2 = some (.int 100)) (hG4 : G 4 = some (.int 40000)) :
    xF L G wf (n + 8) 21 [.d (.int 1), .d x, .d t] = .ret (.str (if tabD t = true then (if talkOk x (rowsOf t) (colsOf t) = true then sFine else sTalk) else sTable)) [none, none, none] := by
  refine sat_ret (call_satB rfl rfl [some (.d (.int 1)), some (.d x), some (.d t), none, none] rfl ?_)
  unfold B21
  refine r_seq (r_try ?_)
  repeat trivial
  refine CR.sat_imp (s7 hx ht hwf hG0 hG1 hG2 hG4) (fun d os ⟨e1, e2, e3, e4⟩ => ?_) (fun e q => ?_)
  · subst e1 e2
    rw [if_pos e3, if_pos e4]
    repeat trivial
    try exact ⟨rfl, rfl⟩
  · rcases q with ⟨e1, e2⟩ | ⟨e1, e2, e3⟩
    · subst e1
      rw [if_neg (by rw [e2]; decide)]
      repeat trivial
      try exact ⟨rfl, rfl⟩
    · subst e1
      rw [if_pos e2, if_neg (by rw [e3]; decide)]
      repeat trivial
      try exact ⟨rfl, rfl⟩
/-- the two sides agree -/
theorem s22 {x t : D} (hx : Fit x) (ht : Fit t) (hwf : 40001 ≤ wf) (hG0 : G 0 = some (.int 256)) (hG1 : G 1 = some (.int 250)) (hG2 : G 2 = some (.int 100)) (hG4 : G 4 = some (.int 40000)) :
    xF L G wf (n + 9) 22 [.d x, .d t] = .ret (.bl true) [none, none] := by
  refine sat_ret (call_satB rfl rfl [some (.d x), some (.d t), none] rfl ?_)
  unfold B22
  repeat trivial
  refine CR.sat_eq (s16 ht.hd) ?_
  have hs : tabD t = true → ∃ y r, t = .tup (.tup y :: r) := fun htab => by
    unfold tabD at htab
    split at htab
    · split at htab
      · exact ⟨_, _, rfl⟩
      · simp at htab
    · cases htab
  cases htab : tabD t with
  | false =>
    repeat trivial
    refine CR.sat_eq (s21a ht.hd hG2) ?_
    rw [htab]
    repeat trivial
    refine CR.sat_eq (s21b hx ht.hd hwf hG0 hG1 hG2 hG4) ?_
    rw [htab]
    repeat trivial
    try exact ⟨rfl, rfl⟩
  | true =>
    obtain ⟨y, r, rfl⟩ := hs htab
    repeat trivial
    refine CR.sat_eq (s21a ht.hd hG2) ?_
    rw [htab]
    repeat trivial
    refine CR.sat_eq (s21b hx ht.hd hwf hG0 hG1 hG2 hG4) ?_
    rw [htab]
    repeat trivial
    refine CR.sat_eq (s18 (n := n + 5) hx) ?_
    show _
    rw [show talkOk x (rowsOf (.tup (.tup y :: r))) (colsOf (.tup (.tup y :: r))) = talkOk x ((D.tup y :: r).length : Int) (y.length : Int) from rfl]
    cases talkOk x ((D.tup y :: r).length : Int) (y.length : Int) with
    | true =>
      repeat trivial
      try exact ⟨rfl, rfl⟩
    | false =>
      repeat trivial
      try exact ⟨rfl, rfl⟩
end K02

namespace K02
open PySem JH
local macro_rules | `(tactic| trivial) => `(tactic| first
  | ((with_reducible refine gdS ?_); first | refine r_seq ?_ | refine r_asg ?_ | refine r_if ?_ | refine r_ret ?_ | refine r_skip ?_ | refine r_asgM ?_ | refine r_for ?_ | refine r_app rfl rfl ?_ | refine r_sto ?_ | refine r_ex ?_ | refine r_retN ?_ | refine r_rse ?_ | refine r_rsi ?_ | refine r_aug rfl ?_ | refine r_asgN ?_ | refine r_par ?_ | refine r_brk ?_ | refine r_cont ?_ | refine r_wh ?_ | refine r_setf ?_)
  | ((with_reducible refine gdE ?_); first | refine r_rd rfl ?_ | refine r_cI ?_ | refine r_call ?_ | refine r_acons rfl ?_ | refine r_amarg rfl ?_ | refine r_anil ?_ | (apply r_cv rfl; focus (repeat (first | exact AVs.nil | apply AVs.d | (apply AVs.m; rfl)))) | refine r_tru ?_ | refine r_t rfl ?_ | refine r_cmp ?_ | refine r_bin ?_ | refine r_idx ?_ | refine r_cS ?_ | refine r_tup ?_ | refine r_cons ?_ | refine r_nil ?_ | refine r_lst ?_ | refine r_cB ?_ | refine r_cN ?_ | refine r_midx rfl ?_ | refine r_b1 ?_ | refine r_and ?_ | refine r_or ?_ | refine r_andc ?_ | refine r_orc ?_ | refine r_and1 ?_ | refine r_or1 ?_ | refine r_not ?_ | refine r_chn ?_ | refine r_truE ?_ | refine r_pb1 rfl peekB_map rfl ?_ | refine r_isN ?_ | refine r_notN ?_ | refine r_rng2 ?_ | refine r_rng1 ?_ | refine r_fz rfl ?_ | refine r_b2 ?_ | refine r_notV ?_ | refine r_tupR ?_ | refine r_negB ?_ | refine r_chn4 ?_ | refine r_gl (by assumption) ?_ | refine r_isc ?_ | refine r_cv1 ?_ | refine r_cv2 ?_ | refine r_isi ?_ | refine r_isi2 ?_ | refine r_slc ?_ | refine r_oN ?_ | refine r_oS rfl ?_ | refine r_tN ?_ | refine r_comp ?_ | refine r_ofd ?_ | refine r_dct ?_ | refine r_dhas ?_ | refine r_meth ?_ | refine r_mk ?_ | refine r_it rfl ?_)
  | ((with_reducible refine gdI ?_); first | refine r_eqT rfl ?_ | refine r_eqF rfl ?_)
  | ((with_reducible refine gdX ?_); first | refine ⟨_, xB_addB, ?_⟩ | refine ⟨_, xB_subB, ?_⟩ | refine ⟨_, xB_add, ?_⟩ | refine ⟨_, xB_sub, ?_⟩ | refine ⟨_, xB_mul (by first | exact small_lit (by decide +kernel) | exact small_lit1 (by decide +kernel) | exact small_lit1 (small_of (by omega) (by omega)) | exact small_lit (small_of (by omega) (by omega))), ?_⟩ | refine ⟨_, xB_mod (by first | assumption | omega), ?_⟩ | refine ⟨_, xB_fdiv (by omega), ?_⟩ | refine ⟨_, xB_pow (by decide +kernel), ?_⟩ | refine ⟨_, xB_addS (by first | assumption | exact cutS (by assumption) | exact oneS) (by first | assumption | exact cutS (by assumption) | exact oneS), ?_⟩ | refine ⟨_, xB_addSL (by first | assumption | exact cutS (by assumption) | exact oneS) (by first | assumption | exact cutS (by assumption) | exact oneS), ?_⟩ | refine ⟨_, xB_addL (by first | decide | (simp; done) | (simp; omega)), ?_⟩ | refine ⟨_, xB_addT (by first | decide | (simp; done) | (simp; omega)), ?_⟩ | refine ⟨_, dIdx_t0, ?_⟩ | refine ⟨_, dIdx_t1, ?_⟩ | refine ⟨_, dIdx_t2, ?_⟩ | refine ⟨_, rfl, ?_⟩ | refine ⟨_, rfl, rfl, ?_⟩ | refine ⟨_, _, rfl, rfl, ?_⟩ | refine ⟨_, if_pos (by first | decide | assumption | omega), ?_⟩)
  | ((with_reducible refine gdA ?_); first | refine And.intro (by first | assumption | decide | omega | rfl) ?_))
variable {n wf : Nat} {G : Nat → Option D}
theorem s10 {ds : List Int} {a k c : Nat} {m : Int} (hm : 0 < m) (hk : k ≤ 16777216) (hc : c ≤ 16777216) : (xF L G wf (n + 2) 10 [hand ds a, .d (.int (k : Int)), .d (.int (c : Int)), .d (.int m)]).sat (fun x os => ∃ b a', Bits k c m b ∧ x = dBits b ∧ os = [some (hand ds a'), none, none, none]) fun _ => False := by
  refine call_satB rfl rfl [some (hand ds a), some (.d (.int (k : Int))), some (.d (.int (c : Int))), some (.d (.int m)), none, none] rfl ?_
  unfold B10
  repeat trivial
  refine compL_rng (fun i ys σ => ∃ b a', ys = b.map dRow ∧ Bits i c m b ∧ σ = [some (hand ds a'), some (.d (.int (k : Int))), some (.d (.int (c : Int))), some (.d (.int m)), none, none]) ⟨[], a, rfl, ⟨rfl, by simp⟩, rfl⟩ ?_ ?_
  · rintro i ys σ hi ⟨b, a1, rfl, hb, rfl⟩
    refine compF_sat rfl ?_
    repeat trivial
    refine compL_rng (fun j ys σ => ∃ r a', ys = r.map D.int ∧ (r.length = j ∧ ∀ v ∈ r, 0 ≤ v ∧ v < m) ∧ σ = [some (hand ds a'), some (.d (.int (k : Int))), some (.d (.int (c : Int))), some (.d (.int m)), none, some (.d (.int (i : Int)))]) ⟨[], a1, rfl, ⟨rfl, by simp⟩, rfl⟩ ?_ ?_
    · rintro j ys σ hj ⟨r, a2, rfl, hr, rfl⟩
      refine compF_sat rfl ?_
      repeat trivial
      refine CR.sat_eq (s9 hm) ?_
      refine ⟨r ++ [take ds a2 m], a2 + 1, by simp, ⟨by simp [hr.1], fun v hv => ?_⟩, rfl⟩
      rcases List.mem_append.mp hv with hv | hv
      · exact hr.2 v hv
      · cases List.mem_singleton.mp hv
        exact take_lt hm
    · rintro ys σ ⟨r, a2, rfl, hr, rfl⟩
      repeat trivial
      refine ⟨b ++ [r], a2, by simp [dRow], ⟨by simp [hb.len], fun v hv => ?_⟩, rfl⟩
      rcases List.mem_append.mp hv with hv | hv
      · exact hb.row v hv
      · cases List.mem_singleton.mp hv
        exact hr
  · rintro ys σ ⟨b, a1, rfl, hb, rfl⟩
    exact ⟨_, rfl, b, a1, hb, rfl, rfl⟩
theorem ok_int {i : Int} {l : Nat} (h0 : 0 ≤ i) (h : i < 1000) : okD l (.int i) = true := by
  simp only [okD, decide_eq_true_eq]
  omega
theorem sml_row {r : List Int} (h : ∀ v ∈ r, 0 ≤ v ∧ v < 4) : Sml 0 1 (r.length + 1) (dRow r) := by
  refine ⟨ok_tup.mpr fun x hx => ?_, depth_tup.mpr fun x hx => ?_, ?_⟩
  · obtain ⟨v, hv, rfl⟩ := List.mem_map.mp hx
    have := h v hv
    exact ok_int this.1 (by omega)
  · obtain ⟨v, hv, rfl⟩ := List.mem_map.mp hx
    exact Nat.le_refl _
  · unfold dRow
    rw [sz_tup]
    have : szs (r.map D.int) ≤ (r.map D.int).length * 1 := szs_le fun x hx => by
      obtain ⟨v, hv, rfl⟩ := List.mem_map.mp hx
      exact Nat.le_refl _
    rw [List.length_map] at this
    omega
theorem sml_bits {k c : Nat} {b : List (List Int)} (hk : b.length = k) (hc : ∀ r ∈ b, r.length = c) (h : ∀ r ∈ b, ∀ v ∈ r, 0 ≤ v ∧ v < 4) : Sml 0 2 (k * (c + 1) + 1) (dBits b) := by
  have hr : ∀ x ∈ b.map dRow, Sml 0 1 (c + 1) x := fun x hx => by
    obtain ⟨r, hr, rfl⟩ := List.mem_map.mp hx
    have := sml_row (h r hr)
    rwa [hc r hr] at this
  refine ⟨ok_tup.mpr fun x hx => (hr x hx).ok, depth_tup.mpr fun x hx => (hr x hx).dep, ?_⟩
  unfold dBits
  rw [sz_tup]
  have := szs_le fun x hx => (hr x hx).sz
  rw [List.length_map, hk] at this
  omega
theorem Shape.sml {k c : Nat} {b : List (List Int)} (h : Shape k c b) (hk : k ≤ 4) (hc : c ≤ 3) : Sml 0 2 17 (dBits b) := by
  refine (sml_bits h.len h.row h.lim).mono (Nat.le_refl _) (Nat.le_refl _) ?_
  have : k * (c + 1) ≤ 4 * 4 := Nat.mul_le_mul hk (by omega)
  omega
section
variable {K C : Nat → Nat} {ds : List Int} {m : Int}
theorem Tr.sml (hK : ∀ i, i < 2 → K i ≤ 4) (hC : ∀ i, i < 2 → C i ≤ 3) {t : Tr} (h : Good K C t) : ∀ d, t.dep ≤ d → Sml 0 (d + 3) (56 * 2 ^ d - 20) t.toD := by
  induction h with
  | fin h1 h2 =>
    intro d _
    have a := h1.sml (hK 0 (by decide)) (hC 0 (by decide))
    have b := h2.sml (hK 1 (by decide)) (hC 1 (by decide))
    have hp : 1 ≤ 2 ^ d := Nat.one_le_two_pow
    refine Sml.mono (b := 0) (d := 3) (s := 36) ⟨?_, ?_, ?_⟩ (Nat.le_refl _) (by omega) (by omega)
    · exact ok_tup.mpr (mem_three (by decide) a.ok b.ok)
    · exact depth_tup.mpr (mem_three (by decide) a.dep b.dep)
    · show sz (.tup _) ≤ _
      rw [sz_tup]
      have := a.sz
      have := b.sz
      simp only [szs]
      have e : sz (.str [101, 110, 100]) = 1 := by simp only [sz]
      omega
  | @say s b t u hs hb _ _ iht ihu =>
    intro d hd
    simp only [Tr.dep] at hd
    obtain ⟨d, rfl⟩ : ∃ e, d = e + 1 := ⟨d - 1, by omega⟩
    have a := iht d (by omega)
    have c := ihu d (by omega)
    have bb := (hb.shape (by decide)).sml (hK s hs) (hC s hs)
    have hp : 1 ≤ 2 ^ d := Nat.one_le_two_pow
    have hmem : ∀ (P : D → Prop), P (.str [115, 97, 121]) → P (.int (s : Int)) → P (dBits b) → P t.toD → P u.toD → ∀ x ∈ [D.str [115, 97, 121], .int (s : Int), dBits b, t.toD, u.toD], P x := fun P h1 h2 h3 h4 h5 x hx => by
      simp only [List.mem_cons, List.not_mem_nil, or_false] at hx
      rcases hx with rfl | rfl | rfl | rfl | rfl
      · exact h1
      · exact h2
      · exact h3
      · exact h4
      · exact h5
    refine ⟨ok_tup.mpr (hmem _ (by decide) (ok_int (by omega) (by omega)) bb.ok a.ok c.ok), depth_tup.mpr (hmem _ (by simp [D.depth]) (by simp [D.depth]) (Nat.le_trans bb.dep (by omega)) a.dep c.dep), ?_⟩
    show sz (.tup _) ≤ _
    rw [sz_tup]
    have := a.sz
    have := c.sz
    have := bb.sz
    simp only [szs]
    have e1 : sz (.str [115, 97, 121]) = 1 := by simp only [sz]
    have e2 : sz (.int (s : Int)) = 1 := by simp only [sz]
    rw [Nat.pow_succ]
    omega
def talkD (C : Nat → Nat) (t : Tr) : D := .tup [.str [116, 97, 108, 107], .int (C 0 : Nat), .int (C 1 : Nat), t.toD]
/-- a talk of the script -/
theorem s13 {a : Nat} {m : Int} (hK : ∀ i, i < 2 → K i ≤ 4) (hm : 0 < m) (h4 : m ≤ 4) : (xF L G wf (n + 7) 13 [hand ds a, .d (pair K), .d (.int m)]).sat (fun x os => ∃ a', Sml 0 7 432 x ∧ os = [some (hand ds a'), none, none]) fun _ => False := by
  refine call_satB rfl rfl [some (hand ds a), some (.d (pair K)), some (.d (.int m)), none] rfl ?_
  unfold B13
  obtain ⟨c0, e0, h0⟩ := take_nat (ds := ds) (a := a) (m := 3) (by decide)
  obtain ⟨c1, e1, h1⟩ := take_nat (ds := ds) (a := a + 1) (m := 3) (by decide)
  obtain ⟨d, e2, h2⟩ := take_nat (ds := ds) (a := a + 1 + 1) (m := 3) (by decide)
  repeat trivial
  refine CR.sat_eq (s9 (n := n + 5) (m := ((3 : Nat) : Int)) (by decide)) ?_
  rw [e0]
  repeat trivial
  refine CR.sat_eq (s9 (n := n + 5) (m := ((3 : Nat) : Int)) (by decide)) ?_
  rw [e1]
  repeat trivial
  refine CR.sat_eq (s9 (n := n + 5) (m := ((3 : Nat) : Int)) (by decide)) ?_
  rw [e2]
  repeat trivial
  have ec : D.tup [.int (1 + (c0 : Int)), .int (1 + (c1 : Int))] = pair fun i => if i = 0 then 1 + c0 else 1 + c1 := by
    unfold pair
    simp
  have ed : (1 : Int) + (d : Int) = ((1 + d : Nat) : Int) := by omega
  rw [ec, ed]
  have hC : ∀ i, i < 2 → (if i = 0 then 1 + c0 else 1 + c1) ≤ 3 := fun i _ => by split <;> omega
  have hs := s12 (G := G) (wf := wf) (ds := ds) (C := fun i => if i = 0 then 1 + c0 else 1 + c1) (fun i hi => Nat.le_trans (hK i hi) (by decide)) (fun i hi => Nat.le_trans (hC i hi) (by decide)) hm h4 (1 + d) (n + 6 - (1 + d) - 3) (a + 1 + 1 + 1)
  rw [show n + 6 - (1 + d) - 3 + (1 + d) + 3 = n + 6 from by omega] at hs
  refine CR.sat_imp hs (fun x os ⟨t, a', g1, g2, g3, g4⟩ => ?_) fun _ z => z
  subst g3 g4
  repeat trivial
  have st := Tr.sml hK hC g1 3 (by omega)
  refine ⟨a', ?_, rfl⟩
  have hmem : ∀ (P : D → Prop), P (.str [116, 97, 108, 107]) → P (.int (1 + (c0 : Int))) → P (.int (1 + (c1 : Int))) → P t.toD → ∀ x ∈ [D.str [116, 97, 108, 107], .int (1 + (c0 : Int)), .int (1 + (c1 : Int)), t.toD], P x := fun P h1 h2 h3 h4 x hx => by
    simp only [List.mem_cons, List.not_mem_nil, or_false] at hx
    rcases hx with rfl | rfl | rfl | rfl
    · exact h1
    · exact h2
    · exact h3
    · exact h4
  refine ⟨ok_tup.mpr (hmem _ (by decide) (ok_int (by omega) (by omega)) (ok_int (by omega) (by omega)) st.ok), depth_tup.mpr (hmem _ (by simp [D.depth]) (by simp [D.depth]) (by simp [D.depth]) st.dep), ?_⟩
  show sz (.tup _) ≤ _
  rw [sz_tup]
  have := st.sz
  simp only [szs, sz]
  omega
end
end K02

namespace K02
open PySem JH
local macro_rules | `(tactic| trivial) => `(tactic| first
  | ((with_reducible refine gdS ?_); first | refine r_seq ?_ | refine r_asg ?_ | refine r_if ?_ | refine r_ret ?_ | refine r_skip ?_ | refine r_asgM ?_ | refine r_for ?_ | refine r_app rfl rfl ?_ | refine r_sto ?_ | refine r_ex ?_ | refine r_retN ?_ | refine r_rse ?_ | refine r_rsi ?_ | refine r_aug rfl ?_ | refine r_asgN ?_ | refine r_par ?_ | refine r_brk ?_ | refine r_cont ?_ | refine r_wh ?_ | refine r_setf ?_)
  | ((with_reducible refine gdE ?_); first | refine r_rd rfl ?_ | refine r_cI ?_ | refine r_call ?_ | refine r_acons rfl ?_ | refine r_amarg rfl ?_ | refine r_anil ?_ | (apply r_cv rfl; focus (repeat (first | exact AVs.nil | apply AVs.d | (apply AVs.m; rfl)))) | refine r_tru ?_ | refine r_t rfl ?_ | refine r_cmp ?_ | refine r_bin ?_ | refine r_idx ?_ | refine r_cS ?_ | refine r_tup ?_ | refine r_cons ?_ | refine r_nil ?_ | refine r_lst ?_ | refine r_cB ?_ | refine r_cN ?_ | refine r_midx rfl ?_ | refine r_b1 ?_ | refine r_and ?_ | refine r_or ?_ | refine r_andc ?_ | refine r_orc ?_ | refine r_and1 ?_ | refine r_or1 ?_ | refine r_not ?_ | refine r_chn ?_ | refine r_truE ?_ | refine r_pb1 rfl peekB_map rfl ?_ | refine r_isN ?_ | refine r_notN ?_ | refine r_rng2 ?_ | refine r_rng1 ?_ | refine r_fz rfl ?_ | refine r_b2 ?_ | refine r_notV ?_ | refine r_tupR ?_ | refine r_negB ?_ | refine r_chn4 ?_ | refine r_gl (by assumption) ?_ | refine r_isc ?_ | refine r_cv1 ?_ | refine r_cv2 ?_ | refine r_isi ?_ | refine r_isi2 ?_ | refine r_slc ?_ | refine r_oN ?_ | refine r_oS rfl ?_ | refine r_tN ?_ | refine r_comp ?_ | refine r_ofd ?_ | refine r_dct ?_ | refine r_dhas ?_ | refine r_meth ?_ | refine r_mk ?_ | refine r_it rfl ?_)
  | ((with_reducible refine gdI ?_); first | refine r_eqT rfl ?_ | refine r_eqF rfl ?_)
  | ((with_reducible refine gdX ?_); first | refine ⟨_, xB_addB, ?_⟩ | refine ⟨_, xB_subB, ?_⟩ | refine ⟨_, xB_add, ?_⟩ | refine ⟨_, xB_sub, ?_⟩ | refine ⟨_, xB_mul (by first | exact small_lit (by decide +kernel) | exact small_lit1 (by decide +kernel) | exact small_lit1 (small_of (by omega) (by omega)) | exact small_lit (small_of (by omega) (by omega))), ?_⟩ | refine ⟨_, xB_mod (by first | assumption | omega), ?_⟩ | refine ⟨_, xB_fdiv (by omega), ?_⟩ | refine ⟨_, xB_pow (by decide +kernel), ?_⟩ | refine ⟨_, xB_addS (by first | assumption | exact cutS (by assumption) | exact oneS) (by first | assumption | exact cutS (by assumption) | exact oneS), ?_⟩ | refine ⟨_, xB_addSL (by first | assumption | exact cutS (by assumption) | exact oneS) (by first | assumption | exact cutS (by assumption) | exact oneS), ?_⟩ | refine ⟨_, xB_addL (by first | decide | (simp; done) | (simp; omega)), ?_⟩ | refine ⟨_, xB_addT (by first | decide | (simp; done) | (simp; omega)), ?_⟩ | refine ⟨_, dIdx_t0, ?_⟩ | refine ⟨_, dIdx_t1, ?_⟩ | refine ⟨_, dIdx_t2, ?_⟩ | refine ⟨_, rfl, ?_⟩ | refine ⟨_, rfl, rfl, ?_⟩ | refine ⟨_, _, rfl, rfl, ?_⟩ | refine ⟨_, if_pos (by first | decide | assumption | omega), ?_⟩)
  | ((with_reducible refine gdA ?_); first | refine And.intro (by first | assumption | decide | omega | rfl) ?_))
variable {n wf : Nat} {G : Nat → Option D}
section
variable {ds : List Int}
theorem all_get {P : D → Prop} {xs : List D} {i : Nat} (hi : i < xs.length) (h : ∀ x ∈ xs, P x) : P xs[i] := h _ (List.getElem_mem hi)
def oddL : List D := [D.bl true, D.bl false, D.non, D.str [], D.str [48], D.str [101, 110, 100], D.str [115, 97, 121],
  D.str [116, 97, 108, 107], D.int 0, D.int 1, D.int 2, D.int (-1), D.int 257,
  D.int (10 ^ Int.toNat 20), D.tup [], D.lst [], D.tup [D.int 0], D.tup [D.tup [D.int 0]]]
theorem odd_all : ∀ x ∈ oddL, Sml 0 2 4 x := by
  unfold oddL
  repeat refine List.forall_mem_cons.mpr ⟨⟨by decide +kernel, by decide +kernel, by decide +kernel⟩, ?_⟩
  exact mem_nil
theorem odd_get {v : Nat} (hv : v < 18) : ∃ w, dIdx (.lst oddL) (.int (v : Int)) = some w ∧ Sml 0 2 4 w :=
  ⟨_, dIdx_inL (xs := oddL) (v := v) hv, all_get hv odd_all⟩
theorem s19 : ∀ d n a : Nat, (xF L G wf (n + d + 2) 19 [hand ds a, .d (.int (d : Int))]).sat (fun x os => ∃ a', Sml 0 (d + 2) (4 ^ (d + 1)) x ∧ os = [some (hand ds a'), none]) fun _ => False := fun d => by
  induction d with
  | zero =>
    intro n a
    refine call_satB rfl rfl [some (hand ds a), some (.d (.int ((0 : Nat) : Int))), none, none, none, none] rfl ?_
    unfold B19
    repeat trivial
    refine CR.sat_eq (s9 (by decide)) ?_
    repeat trivial
    refine CR.sat_eq (s9 (m := ((18 : Nat) : Int)) (by decide)) ?_
    obtain ⟨v, e, hv⟩ := take_nat (ds := ds) (a := a + 1) (m := 18) (by decide)
    rw [e]
    obtain ⟨w, e1, e2⟩ := odd_get hv
    exact ⟨w, e1, _, e2, rfl⟩
  | succ d ih =>
    intro n a
    refine call_satB rfl rfl [some (hand ds a), some (.d (.int ((d + 1 : Nat) : Int))), none, none, none, none] rfl ?_
    rw [show n + (d + 1) + 1 = n + d + 2 from by omega]
    unfold B19
    repeat trivial
    refine CR.sat_eq (s9 (n := n + d + 1) (m := ((9 : Nat) : Int)) (by decide)) ?_
    obtain ⟨q, eq, hq⟩ := take_nat (ds := ds) (a := a) (m := 9) (by decide)
    rw [eq]
    repeat trivial
    refine r_eqT (decide_eq_true (by omega)) ?_
    repeat trivial
    refine r_dec (fun h1 => ?_) (fun h1 => ?_)
    · repeat trivial
      refine CR.sat_eq (s9 (n := n + d + 1) (m := ((4 : Nat) : Int)) (by decide)) ?_
      obtain ⟨p, ep, hp⟩ := take_nat (ds := ds) (a := a + 1) (m := 4) (by decide)
      rw [ep]
      refine ⟨p, rfl, by omega, ?_⟩
      refine compL_rng (fun i ys σ => ∃ a', ys.length = i ∧ (∀ y ∈ ys, Sml 0 (d + 2) (4 ^ (d + 1)) y) ∧ σ = [some (hand ds a'), some (.d (.int ((d + 1 : Nat) : Int))), some (.d (.int (q : Int))), none, none, none]) ⟨a + 1 + 1, rfl, by simp, rfl⟩ ?_ ?_
      · rintro i ys σ hi ⟨a', hl, hy, rfl⟩
        refine compF_sat rfl ?_
        repeat trivial
        rw [show ((d + 1 : Nat) : Int) - 1 = (d : Int) from by omega]
        refine CR.sat_imp (ih n a') (fun x os ⟨a2, h2, h3⟩ => ?_) fun _ z => z
        subst h3
        repeat trivial
        exact ⟨a2, by rw [List.length_append, hl]; rfl, mem_app hy (mem_one h2), rfl⟩
      · rintro ys σ ⟨a', hl, hy, rfl⟩
        have hsz := szs_le fun y h => (hy y h).sz
        have hpow : 1 ≤ 4 ^ (d + 1) := Nat.one_le_pow _ _ (by decide)
        have hz : szs ys + 1 ≤ 4 ^ (d + 1 + 1) := by
          have : ys.length * 4 ^ (d + 1) ≤ 3 * 4 ^ (d + 1) := Nat.mul_le_mul_right _ (by omega)
          rw [Nat.pow_succ 4 (d + 1)]
          omega
        have r1 : Sml 0 (d + 1 + 2) (4 ^ (d + 1 + 1)) (.lst ys) := ⟨ok_lst.mpr fun y h => (hy y h).ok, depth_lst.mpr fun y h => (hy y h).dep, by rw [sz_lst]; exact hz⟩
        have r2 : Sml 0 (d + 1 + 2) (4 ^ (d + 1 + 1)) (.tup ys) := ⟨ok_tup.mpr fun y h => (hy y h).ok, depth_tup.mpr fun y h => (hy y h).dep, by rw [sz_tup]; exact hz⟩
        repeat trivial
        have hcase : q = 7 ∨ q = 8 := by omega
        rcases hcase with rfl | rfl
        · refine ⟨.lst ys, rfl, ?_⟩
          exact ⟨a', r1, rfl⟩
        · refine ⟨.tup ys, rfl, ?_⟩
          exact ⟨a', r2, rfl⟩
    · repeat trivial
      refine CR.sat_eq (s9 (n := n + d + 1) (m := ((18 : Nat) : Int)) (by decide)) ?_
      obtain ⟨v, e, hv⟩ := take_nat (ds := ds) (a := a + 1) (m := 18) (by decide)
      rw [e]
      obtain ⟨w, e1, hx⟩ := odd_get hv
      exact ⟨w, e1, _, hx.mono (Nat.le_refl _) (by omega) (by
        have : 4 ^ 1 ≤ 4 ^ (d + 1 + 1) := Nat.pow_le_pow_right (by decide) (by omega)
        omega), rfl⟩
end
end K02

namespace K02
open PySem JH
local macro_rules | `(tactic| trivial) => `(tactic| first
  | ((with_reducible refine gdS ?_); first | refine r_seq ?_ | refine r_asg ?_ | refine r_if ?_ | refine r_ret ?_ | refine r_skip ?_ | refine r_asgM ?_ | refine r_for ?_ | refine r_app rfl rfl ?_ | refine r_sto ?_ | refine r_ex ?_ | refine r_retN ?_ | refine r_rse ?_ | refine r_rsi ?_ | refine r_aug rfl ?_ | refine r_asgN ?_ | refine r_par ?_ | refine r_brk ?_ | refine r_cont ?_ | refine r_wh ?_ | refine r_setf ?_)
  | ((with_reducible refine gdE ?_); first | refine r_rd rfl ?_ | refine r_cI ?_ | refine r_call ?_ | refine r_acons rfl ?_ | refine r_amarg rfl ?_ | refine r_anil ?_ | (apply r_cv rfl; focus (repeat (first | exact AVs.nil | apply AVs.d | (apply AVs.m; rfl)))) | refine r_tru ?_ | refine r_t rfl ?_ | refine r_cmp ?_ | refine r_bin ?_ | refine r_idx ?_ | refine r_cS ?_ | refine r_tup ?_ | refine r_cons ?_ | refine r_nil ?_ | refine r_lst ?_ | refine r_cB ?_ | refine r_cN ?_ | refine r_midx rfl ?_ | refine r_b1 ?_ | refine r_and ?_ | refine r_or ?_ | refine r_andc ?_ | refine r_orc ?_ | refine r_and1 ?_ | refine r_or1 ?_ | refine r_not ?_ | refine r_chn ?_ | refine r_truE ?_ | refine r_pb1 rfl peekB_map rfl ?_ | refine r_isN ?_ | refine r_notN ?_ | refine r_rng2 ?_ | refine r_rng1 ?_ | refine r_fz rfl ?_ | refine r_b2 ?_ | refine r_notV ?_ | refine r_tupR ?_ | refine r_negB ?_ | refine r_chn4 ?_ | refine r_gl (by assumption) ?_ | refine r_isc ?_ | refine r_cv1 ?_ | refine r_cv2 ?_ | refine r_isi ?_ | refine r_isi2 ?_ | refine r_slc ?_ | refine r_oN ?_ | refine r_oS rfl ?_ | refine r_tN ?_ | refine r_comp ?_ | refine r_ofd ?_ | refine r_dct ?_ | refine r_dhas ?_ | refine r_meth ?_ | refine r_mk ?_ | refine r_it rfl ?_)
  | ((with_reducible refine gdI ?_); first | refine r_eqT rfl ?_ | refine r_eqF rfl ?_)
  | ((with_reducible refine gdX ?_); first | refine ⟨_, xB_addB, ?_⟩ | refine ⟨_, xB_subB, ?_⟩ | refine ⟨_, xB_add, ?_⟩ | refine ⟨_, xB_sub, ?_⟩ | refine ⟨_, xB_mul (by first | exact small_lit (by decide +kernel) | exact small_lit1 (by decide +kernel) | exact small_lit1 (small_of (by omega) (by omega)) | exact small_lit (small_of (by omega) (by omega))), ?_⟩ | refine ⟨_, xB_mod (by first | assumption | omega), ?_⟩ | refine ⟨_, xB_fdiv (by omega), ?_⟩ | refine ⟨_, xB_pow (by decide +kernel), ?_⟩ | refine ⟨_, xB_addS (by first | assumption | exact cutS (by assumption) | exact oneS) (by first | assumption | exact cutS (by assumption) | exact oneS), ?_⟩ | refine ⟨_, xB_addSL (by first | assumption | exact cutS (by assumption) | exact oneS) (by first | assumption | exact cutS (by assumption) | exact oneS), ?_⟩ | refine ⟨_, xB_addL (by first | decide | (simp; done) | (simp; omega)), ?_⟩ | refine ⟨_, xB_addT (by first | decide | (simp; done) | (simp; omega)), ?_⟩ | refine ⟨_, dIdx_t0, ?_⟩ | refine ⟨_, dIdx_t1, ?_⟩ | refine ⟨_, dIdx_t2, ?_⟩ | refine ⟨_, rfl, ?_⟩ | refine ⟨_, rfl, rfl, ?_⟩ | refine ⟨_, _, rfl, rfl, ?_⟩ | refine ⟨_, if_pos (by first | decide | assumption | omega), ?_⟩)
  | ((with_reducible refine gdA ?_); first | refine And.intro (by first | assumption | decide | omega | rfl) ?_))
variable {n wf : Nat} {G : Nat → Option D}
section
variable {ds : List Int}
theorem szs_take : ∀ (xs : List D) (i : Nat), szs (xs.take i) ≤ szs xs
  | [], i => by simp [szs]
  | x :: xs, 0 => by simp [szs]
  | x :: xs, i + 1 => by
    have := szs_take xs i
    simp only [List.take_succ_cons, szs]
    omega
theorem szs_drop : ∀ (xs : List D) (i : Nat), szs (xs.drop i) ≤ szs xs
  | [], i => by simp [szs]
  | x :: xs, 0 => by simp
  | x :: xs, i + 1 => by
    have := szs_drop xs i
    simp only [List.drop_succ_cons, szs]
    omega
theorem szs_cut {xs : List D} {lo hi : Option Int} : szs (cutD xs lo hi) ≤ szs xs := by
  unfold cutD
  exact Nat.le_trans (szs_take _ _) (szs_drop _ _)
theorem szs_split {xs : List D} {i : Nat} (h : i < xs.length) : szs (xs.take i) + sz xs[i] + szs (xs.drop (i + 1)) = szs xs := by
  have e : xs.take i ++ xs[i] :: xs.drop (i + 1) = xs := by
    rw [← List.drop_eq_getElem_cons h, List.take_append_drop]
  have := congrArg szs e
  rw [szs_app] at this
  simp only [szs] at this
  omega
theorem sml_tup {l d s : Nat} {xs : List D} (h : ∀ x ∈ xs, okD l x = true ∧ D.depth x ≤ d) (hs : szs xs + 1 ≤ s) : Sml l (d + 1) s (.tup xs) :=
  ⟨ok_tup.mpr fun x hx => (h x hx).1, depth_tup.mpr fun x hx => (h x hx).2, by rw [sz_tup]; exact hs⟩
abbrev BentT (ds : List Int) (wf : Nat) (G : Nat → Option D) (k : Nat) : Prop := ∀ n l d s a : Nat, ∀ v : D, Sml l d s v → s ≤ 5000 → l ≤ 5 → (xF L G wf (n + k + 5) 20 [hand ds a, .d v, .d (.int (k : Int))]).sat (fun x os => ∃ a', Sml (l + 1) (d + k + 5) (3 * s + 64) x ∧ os = [some (hand ds a'), none, none]) fun _ => False
theorem bent_step {k : Nat} (ih : ∀ j, k = j + 1 → BentT ds wf G j) : BentT ds wf G k := by
  intro n l d s a v hv hs hl
  refine call_satB rfl rfl [some (hand ds a), some (.d v), some (.d (.int (k : Int))), none, none] rfl ?_
  have fin : ∀ a, (xF L G wf (n + k + 4) 19 [hand ds a, .d (.int 2)]).sat (fun x os => ∃ a', Sml (l + 1) (d + k + 5) (3 * s + 64) x ∧ os = [some (hand ds a'), none]) fun _ => False := fun a =>
    CR.sat_imp (s19 2 (n + k) a) (fun x os ⟨a', h1, h2⟩ => ⟨a', h1.mono (Nat.zero_le _) (by omega) (by omega), h2⟩) fun _ z => z
  obtain ⟨q, eq, hq⟩ := take_nat (ds := ds) (a := a) (m := 10) (by decide)
  have s9q := s9 (n := n + k + 3) (wf := wf) (G := G) (ds := ds) (a := a) (m := ((10 : Nat) : Int)) (by decide)
  rw [eq] at s9q
  have hm1 : ∀ x, okD l x = true → D.depth x ≤ d → okD (l + 1) x = true := fun x h1 h2 => ok_mono (Nat.le_succ l) d x h2 h1
  obtain ⟨ho, hdp, hsz⟩ := hv
  unfold B20
  cases v with
  | int i =>
    have hi : i.natAbs ≤ 100000000000000000000 + l := by simpa [okD] using ho
    have hlog : i.natAbs.log2 < 1920 := by
      have h1 : i.natAbs < 2 ^ 70 := by
        have : (2 : Nat) ^ 70 = 1180591620717411303424 := by decide
        omega
      by_cases h0 : i.natAbs = 0
      · rw [h0]; decide
      · exact Nat.lt_of_lt_of_le ((Nat.log2_lt h0).mpr h1) (by decide)
    have hstr := str_ok (i := i) (k := 30) (by decide) (by
      have : (10 : Nat) ^ 30 = 1000000000000000000000000000000 := by decide
      omega)
    repeat trivial
    refine CR.sat_eq s9q ?_
    repeat trivial
    refine r_dec (fun h1 => ?_) (fun h1 => ?_)
    · repeat trivial
      refine CR.sat_eq (s9 (n := n + k + 3) (m := ((8 : Nat) : Int)) (by decide)) ?_
      obtain ⟨v, ev, hv⟩ := take_nat (ds := ds) (a := a + 1) (m := 8) (by decide)
      rw [ev]
      refine ⟨_, dIdx_inL (v := v) (by simpa using hv), ?_⟩
      refine ⟨_, all_get (P := Sml (l + 1) (d + k + 5) (3 * s + 64)) _ ?_, rfl⟩
      have num : ∀ j : Int, j.natAbs ≤ i.natAbs + 1 ∨ j.natAbs ≤ 257 → Sml (l + 1) (d + k + 5) (3 * s + 64) (.int j) := fun j hj =>
        ⟨by simp only [okD, decide_eq_true_eq]; omega, by simp only [D.depth]; omega, by simp only [sz]; omega⟩
      refine List.forall_mem_cons.mpr ⟨num _ (by omega), ?_⟩
      refine List.forall_mem_cons.mpr ⟨num _ (by omega), ?_⟩
      refine List.forall_mem_cons.mpr ⟨⟨rfl, by simp only [D.depth]; omega, by simp only [sz]; omega⟩, ?_⟩
      refine List.forall_mem_cons.mpr ⟨num _ (by omega), ?_⟩
      refine List.forall_mem_cons.mpr ⟨⟨?_, by simp only [D.depth]; omega, by simp only [sz]; omega⟩, ?_⟩
      · simp only [okD, hstr.1, Bool.true_and, decide_eq_true_eq]
        have := hstr.2
        omega
      refine List.forall_mem_cons.mpr ⟨num _ (by omega), ?_⟩
      refine List.forall_mem_cons.mpr ⟨num _ (by omega), ?_⟩
      refine List.forall_mem_cons.mpr ⟨⟨ok_lst.mpr (mem_one (num i (by omega)).ok), ?_, ?_⟩, mem_nil⟩
      · exact Nat.le_trans (depth_lst.mpr (mem_one (Nat.le_refl 0)) : D.depth (.lst [.int i]) ≤ 1) (by omega)
      · rw [sz_lst]; simp only [szs, sz]; omega
    · repeat trivial
      refine CR.sat_imp (fin _) (fun x os ⟨a', h1, h2⟩ => ?_) fun _ z => z
      subst h2
      exact ⟨a', h1, rfl⟩
  | bl b =>
    repeat trivial
    refine CR.sat_eq s9q ?_
    repeat trivial
    refine r_dec (fun h1 => ?_) (fun h1 => ?_)
    · repeat trivial
      refine CR.sat_eq (s9 (n := n + k + 3) (m := ((8 : Nat) : Int)) (by decide)) ?_
      obtain ⟨v, ev, hv⟩ := take_nat (ds := ds) (a := a + 1) (m := 8) (by decide)
      rw [ev]
      refine ⟨_, dIdx_inL (v := v) (by simpa using hv), ?_⟩
      refine ⟨_, all_get (P := Sml (l + 1) (d + k + 5) (3 * s + 64)) _ ?_, rfl⟩
      have gen : ∀ x, Sml 0 1 2 x → Sml (l + 1) (d + k + 5) (3 * s + 64) x := fun x h => h.mono (Nat.zero_le _) (by omega) (by omega)
      repeat refine List.forall_mem_cons.mpr ⟨gen _ (by cases b <;> exact ⟨by decide +kernel, by decide +kernel, by decide +kernel⟩), ?_⟩
      exact mem_nil
    · repeat trivial
      refine CR.sat_imp (fin _) (fun x os ⟨a', h1, h2⟩ => ?_) fun _ z => z
      subst h2
      exact ⟨a', h1, rfl⟩
  | str t =>
    have ho : (t.all fun c => decide (c < 0x110000)) = true ∧ t.length ≤ 100 + l := by simpa [okD] using ho
    repeat trivial
    refine CR.sat_eq s9q ?_
    repeat trivial
    refine r_dec (fun h1 => ?_) (fun h1 => ?_)
    · repeat trivial
      refine ⟨_, xB_addStr (by have := ho.2; simp only [List.length_cons, List.length_nil]; omega), ?_⟩
      repeat trivial
      refine CR.sat_eq (s9 (n := n + k + 3) (m := ((6 : Nat) : Int)) (by decide)) ?_
      obtain ⟨v, ev, hv⟩ := take_nat (ds := ds) (a := a + 1) (m := 6) (by decide)
      rw [ev]
      refine ⟨_, dIdx_inL (v := v) (by simpa using hv), ?_⟩
      refine ⟨_, all_get (P := Sml (l + 1) (d + k + 5) (3 * s + 64)) _ ?_, rfl⟩
      have gen : ∀ x, Sml 0 1 2 x → Sml (l + 1) (d + k + 5) (3 * s + 64) x := fun x h => h.mono (Nat.zero_le _) (by omega) (by omega)
      repeat refine List.forall_mem_cons.mpr ⟨gen _ ⟨by decide +kernel, by decide +kernel, by decide +kernel⟩, ?_⟩
      refine List.forall_mem_cons.mpr ⟨⟨?_, by simp only [D.depth]; omega, by simp only [sz]; omega⟩, ?_⟩
      · simp only [okD, List.all_append, ho.1, List.length_append, List.length_cons, List.length_nil, Bool.true_and, Bool.and_eq_true, decide_eq_true_eq]
        have := ho.2
        refine ⟨by decide, by omega⟩
      repeat refine List.forall_mem_cons.mpr ⟨gen _ ⟨by decide +kernel, by decide +kernel, by decide +kernel⟩, ?_⟩
      exact mem_nil
    · repeat trivial
      refine CR.sat_imp (fin _) (fun x os ⟨a', h1, h2⟩ => ?_) fun _ z => z
      subst h2
      exact ⟨a', h1, rfl⟩
  | non =>
    repeat trivial
    refine CR.sat_eq s9q ?_
    repeat trivial
    refine CR.sat_imp (fin _) (fun x os ⟨a', h1, h2⟩ => ?_) fun _ z => z
    subst h2
    exact ⟨a', h1, rfl⟩
  | lst xs =>
    repeat trivial
    refine CR.sat_eq s9q ?_
    repeat trivial
    refine CR.sat_imp (fin _) (fun x os ⟨a', h1, h2⟩ => ?_) fun _ z => z
    subst h2
    exact ⟨a', h1, rfl⟩
  | tup xs =>
    obtain ⟨d, rfl⟩ : ∃ e, d = e + 1 := ⟨d - 1, by simp only [D.depth] at hdp; omega⟩
    have he : ∀ x ∈ xs, okD l x = true ∧ D.depth x ≤ d := fun x hx => ⟨ok_tup.mp ho x hx, depth_tup.mp hdp x hx⟩
    have he' : ∀ x ∈ xs, okD (l + 1) x = true ∧ D.depth x ≤ d + k + 5 := fun x hx => ⟨ok_mono (Nat.le_succ l) d x (he x hx).2 (he x hx).1, by have := (he x hx).2; omega⟩
    rw [sz_tup] at hsz
    have hlen := szs_len xs
    have oddE : ∀ (a : Nat) (o4 : Option M), (xF L G wf (n + k + 4) 19 [hand ds a, .d (.int 2)]).sat (fun x os => ∃ a', Sml (l + 1) (d + 1 + k + 5) (3 * s + 64) x ∧ os = [some (hand ds a'), none]) fun _ => False := fun a _ => fin a
    have e4 : d + 1 + k + 5 = d + k + 5 + 1 := by omega
    rw [e4] at oddE ⊢
    repeat trivial
    refine CR.sat_eq s9q ?_
    repeat trivial
    refine r_ieq (fun h0 => ?_) (fun h0 => ?_)
    · repeat trivial
      refine CR.sat_imp (oddE _ none) (fun x os ⟨a', h1, h2⟩ => ?_) fun _ z => z
      subst h2
      exact ⟨a', h1, rfl⟩
    repeat trivial
    refine r_ieq (fun h1 => ?_) (fun h1 => ?_)
    · repeat trivial
      refine CR.sat_imp (oddE _ none) (fun x os ⟨a', h1, h2⟩ => ?_) fun _ z => z
      subst h2
      exact ⟨a', h1, rfl⟩
    repeat trivial
    refine r_ieq (fun h2 => ?_) (fun h2 => ?_)
    · repeat trivial
      refine CR.sat_imp (oddE _ none) (fun x os ⟨a', h1, h2⟩ => ?_) fun _ z => z
      subst h2
      exact ⟨a', h1, rfl⟩
    repeat trivial
    refine CR.sat_eq (s9 (n := n + k + 3) (m := (xs.length : Int)) (by omega)) ?_
    obtain ⟨v, ev, hv⟩ := take_nat (ds := ds) (a := a + 1) (m := xs.length) (by omega)
    rw [ev]
    have c1 : (cutD xs none (some (v : Int))).length ≤ xs.length := cut_len
    have c2 : (cutD xs (some (v : Int)) (some ((v : Int) + 1))).length ≤ xs.length := cut_len
    have c3 : (cutD xs (some (v : Int)) none).length ≤ xs.length := cut_len
    have c4 : (cutD xs (some ((v : Int) + 1)) none).length ≤ xs.length := cut_len
    have z1 : szs (cutD xs none (some (v : Int))) ≤ szs xs := szs_cut
    have z2 : szs (cutD xs (some (v : Int)) (some ((v : Int) + 1))) ≤ szs xs := szs_cut
    have z3 : szs (cutD xs (some (v : Int)) none) ≤ szs xs := szs_cut
    have z4 : szs (cutD xs (some ((v : Int) + 1)) none) ≤ szs xs := szs_cut
    repeat trivial
    refine r_ieq (fun h3 => ?_) (fun h3 => ?_)
    · repeat trivial
      refine ⟨_, xB_addT (by omega), ?_⟩
      refine ⟨_, sml_tup (xs := cutD xs none (some (v : Int)) ++ cutD xs (some ((v : Int) + 1)) none) (fun x hx => ?_) (by rw [szs_app]; omega), rfl⟩
      rcases List.mem_append.mp hx with hx | hx
      · exact he' x (cut_mem hx)
      · exact he' x (cut_mem hx)
    repeat trivial
    refine r_ieq (fun h4 => ?_) (fun h4 => ?_)
    · repeat trivial
      refine ⟨_, xB_addT (by omega), ?_⟩
      repeat trivial
      refine ⟨_, sml_tup (xs := (cutD xs none (some (v : Int)) ++ cutD xs (some (v : Int)) (some ((v : Int) + 1))) ++ cutD xs (some (v : Int)) none) (fun x hx => ?_) (by rw [szs_app, szs_app]; omega), rfl⟩
      rcases List.mem_append.mp hx with hx | hx
      · rcases List.mem_append.mp hx with hx | hx
        · exact he' x (cut_mem hx)
        · exact he' x (cut_mem hx)
      · exact he' x (cut_mem hx)
    repeat trivial
    refine r_ieq (fun h5 => ?_) (fun h5 => ?_)
    · repeat trivial
      refine ⟨_, ⟨ok_lst.mpr fun x hx => (he' x hx).1, depth_lst.mpr fun x hx => (he' x hx).2, by rw [sz_lst]; omega⟩, rfl⟩
    repeat trivial
    obtain ⟨j, rfl⟩ : ∃ j, k = j + 1 := ⟨k - 1, by omega⟩
    refine ⟨_, dIdx_inT hv, ?_⟩
    repeat trivial
    rw [show ((j + 1 : Nat) : Int) - 1 = (j : Int) from by omega, show n + (j + 1) + 4 = n + j + 5 from by omega]
    have hxv := he _ (List.getElem_mem hv)
    have hsp := szs_split hv
    refine CR.sat_imp (ih j rfl n l d (sz xs[v]) _ xs[v] ⟨hxv.1, hxv.2, Nat.le_refl _⟩ (by omega) hl) (fun x os ⟨a', g1, g2⟩ => ?_) fun _ z => z
    subst g2
    repeat trivial
    refine ⟨_, sml_tup (xs := (cutD xs none (some (v : Int)) ++ [x]) ++ cutD xs (some ((v : Int) + 1)) none) (fun y hy => ?_) ?_, rfl⟩
    · rcases List.mem_append.mp hy with hy | hy
      · rcases List.mem_append.mp hy with hy | hy
        · exact he' y (cut_mem hy)
        · cases List.mem_singleton.mp hy
          exact ⟨g1.ok, Nat.le_trans g1.dep (by omega)⟩
      · exact he' y (cut_mem hy)
    · have e1 : szs (cutD xs none (some (v : Int))) = szs (xs.take v) := by rw [cut_pre (by omega)]
      have e2 : szs (cutD xs (some ((v : Int) + 1)) none) = szs (xs.drop (v + 1)) := by
        rw [show ((v : Int) + 1) = ((v + 1 : Nat) : Int) from by omega, cut_suf]
      rw [szs_app, szs_app, e1, e2]
      have := g1.sz
      simp only [szs]
      omega
  | _ => simp [okD] at ho
theorem s20 : ∀ k : Nat, BentT ds wf G k := fun k => by
  induction k with
  | zero => exact bent_step fun j e => by cases e
  | succ k ih => exact bent_step fun j e => by cases e; exact ih
end
end K02

namespace K02
open PySem JH
local macro_rules | `(tactic| trivial) => `(tactic| first
  | ((with_reducible refine gdS ?_); first | refine r_seq ?_ | refine r_asg ?_ | refine r_if ?_ | refine r_ret ?_ | refine r_skip ?_ | refine r_asgM ?_ | refine r_for ?_ | refine r_app rfl rfl ?_ | refine r_sto ?_ | refine r_ex ?_ | refine r_retN ?_ | refine r_rse ?_ | refine r_rsi ?_ | refine r_aug rfl ?_ | refine r_asgN ?_ | refine r_par ?_ | refine r_brk ?_ | refine r_cont ?_ | refine r_wh ?_ | refine r_setf ?_)
  | ((with_reducible refine gdE ?_); first | refine r_rd rfl ?_ | refine r_cI ?_ | refine r_call ?_ | refine r_acons rfl ?_ | refine r_amarg rfl ?_ | refine r_anil ?_ | (apply r_cv rfl; focus (repeat (first | exact AVs.nil | apply AVs.d | (apply AVs.m; rfl)))) | refine r_tru ?_ | refine r_t rfl ?_ | refine r_cmp ?_ | refine r_bin ?_ | refine r_idx ?_ | refine r_cS ?_ | refine r_tup ?_ | refine r_cons ?_ | refine r_nil ?_ | refine r_lst ?_ | refine r_cB ?_ | refine r_cN ?_ | refine r_midx rfl ?_ | refine r_b1 ?_ | refine r_and ?_ | refine r_or ?_ | refine r_andc ?_ | refine r_orc ?_ | refine r_and1 ?_ | refine r_or1 ?_ | refine r_not ?_ | refine r_chn ?_ | refine r_truE ?_ | refine r_pb1 rfl peekB_map rfl ?_ | refine r_isN ?_ | refine r_notN ?_ | refine r_rng2 ?_ | refine r_rng1 ?_ | refine r_fz rfl ?_ | refine r_b2 ?_ | refine r_notV ?_ | refine r_tupR ?_ | refine r_negB ?_ | refine r_chn4 ?_ | refine r_gl (by assumption) ?_ | refine r_isc ?_ | refine r_cv1 ?_ | refine r_cv2 ?_ | refine r_isi ?_ | refine r_isi2 ?_ | refine r_slc ?_ | refine r_oN ?_ | refine r_oS rfl ?_ | refine r_tN ?_ | refine r_comp ?_ | refine r_ofd ?_ | refine r_dct ?_ | refine r_dhas ?_ | refine r_meth ?_ | refine r_mk ?_ | refine r_it rfl ?_)
  | ((with_reducible refine gdI ?_); first | refine r_eqT rfl ?_ | refine r_eqF rfl ?_)
  | ((with_reducible refine gdX ?_); first | refine ⟨_, xB_addB, ?_⟩ | refine ⟨_, xB_subB, ?_⟩ | refine ⟨_, xB_add, ?_⟩ | refine ⟨_, xB_sub, ?_⟩ | refine ⟨_, xB_mul (by first | exact small_lit (by decide +kernel) | exact small_lit1 (by decide +kernel) | exact small_lit1 (small_of (by omega) (by omega)) | exact small_lit (small_of (by omega) (by omega))), ?_⟩ | refine ⟨_, xB_mod (by first | assumption | omega), ?_⟩ | refine ⟨_, xB_fdiv (by omega), ?_⟩ | refine ⟨_, xB_pow (by decide +kernel), ?_⟩ | refine ⟨_, xB_addS (by first | assumption | exact cutS (by assumption) | exact oneS) (by first | assumption | exact cutS (by assumption) | exact oneS), ?_⟩ | refine ⟨_, xB_addSL (by first | assumption | exact cutS (by assumption) | exact oneS) (by first | assumption | exact cutS (by assumption) | exact oneS), ?_⟩ | refine ⟨_, xB_addL (by first | decide | (simp; done) | (simp; omega)), ?_⟩ | refine ⟨_, xB_addT (by first | decide | (simp; done) | (simp; omega)), ?_⟩ | refine ⟨_, dIdx_t0, ?_⟩ | refine ⟨_, dIdx_t1, ?_⟩ | refine ⟨_, dIdx_t2, ?_⟩ | refine ⟨_, rfl, ?_⟩ | refine ⟨_, rfl, rfl, ?_⟩ | refine ⟨_, _, rfl, rfl, ?_⟩ | refine ⟨_, if_pos (by first | decide | assumption | omega), ?_⟩)
  | ((with_reducible refine gdA ?_); first | refine And.intro (by first | assumption | decide | omega | rfl) ?_))
variable {n wf : Nat} {G : Nat → Option D}
section
variable {ds : List Int}
theorem rep_one {x : D} {c : Int} (h1 : -1000 ≤ c) (h2 : c ≤ 1000) : xB .mul (.tup [x]) (.int c) = some (.tup (List.replicate c.toNat x)) := by
  rw [xB_eq]
  simp only [dBin]
  rw [if_pos ⟨by simp, by simp, h1, h2⟩]
  congr 2
  induction c.toNat with
  | zero => rfl
  | succ k ih => rw [List.replicate_succ, List.flatten_cons, ih, List.replicate_succ]; rfl
theorem szs_rep {x : D} : ∀ k : Nat, szs (List.replicate k x) = k * sz x
  | 0 => by simp [szs]
  | k + 1 => by rw [List.replicate_succ]; simp only [szs, szs_rep k]; rw [Nat.succ_mul]; omega
theorem sz_rep {x : D} {k : Nat} : sz (.tup (List.replicate k x)) = k * sz x + 1 := by rw [sz_tup, szs_rep]
theorem HD.rep {x : D} {k : Nat} (h : HD x) (hc : D.cmpOk x = true) : HD (.tup (List.replicate k x)) :=
  .tup (fun y hy => by rw [(List.mem_replicate.mp hy).2]; exact h) fun y e => by
    have := List.mem_of_mem_head? e
    rw [(List.mem_replicate.mp this).2]
    exact hc
theorem cmp_rep {i : Int} {k : Nat} : D.cmpOk (.tup (List.replicate k (.int i))) = true := by
  have h1 : D.plains (List.replicate k (.int i)) = true := plains_iff.mpr fun y hy => by rw [(List.mem_replicate.mp hy).2]; rfl
  have h2 : D.depth (.tup (List.replicate k (.int i))) ≤ 0 + 1 := depth_tup.mpr fun y hy => by rw [(List.mem_replicate.mp hy).2]; exact Nat.le_refl _
  unfold D.cmpOk
  simp only [D.plain, h1, Bool.true_and, decide_eq_true_eq]
  omega
theorem hd_list {xs : List D} (h : ∀ x ∈ xs, HD x) (hc : ∀ x r, xs = x :: r → D.cmpOk x = true) : HD (.tup xs) :=
  .tup h fun x e => by
    cases xs with
    | nil => cases e
    | cons y r => cases e; exact hc _ _ rfl
theorem hd_one {x : D} (h : HD x) (hc : D.cmpOk x = true) : HD (.tup [x]) := hd_list (mem_one h) fun _ _ e => by cases e; exact hc
theorem hd_str {s : List Nat} {xs : List D} (hs : D.cmpOk (.str s) = true) (h : ∀ x ∈ xs, HD x) : HD (.tup (.str s :: xs)) :=
  hd_list (List.forall_mem_cons.mpr ⟨.str s, h⟩) fun _ _ e => by cases e; exact hs
/-- ('talk', i, j, ('end', x, y)) -/
theorem fit_end {i j : Int} {x y : D} (hx : HD x) (hy : HD y) (hs : sz x + sz y ≤ 30000) : Fit (.tup [.str [116, 97, 108, 107], .int i, .int j, .tup [.str [101, 110, 100], x, y]]) :=
  ⟨hd_str rfl (mem_three (.int _) (.int _) (hd_str rfl (mem_two hx hy))), by simp only [sz, szs]; omega⟩
theorem fit_of {x : D} (h : HD x) (hs : sz x ≤ 40000) : Fit x := ⟨h, hs⟩
abbrev t0 (i : Int) : D := .tup [.tup [.int i]]
theorem hd_t0 {i : Int} : HD (t0 i) := hd_one (hd_one (.int i) rfl) rfl
theorem cmp_one {i : Int} : D.cmpOk (.tup [.int i]) = true := rfl
def endD : D := .tup [.str [101, 110, 100], t0 0, t0 0]
theorem hd_end : HD endD := hd_str rfl (mem_two hd_t0 hd_t0)
def chain : Nat → D
  | 0 => endD
  | k + 1 => if k % 2 = 0 then .tup [.str [115, 97, 121], .int 0, t0 0, chain k, endD] else .tup [.str [115, 97, 121], .int 1, t0 1, endD, chain k]
theorem chain_ok : ∀ k, HD (chain k) ∧ sz (chain k) ≤ 20 * k + 20
  | 0 => ⟨hd_end, by decide⟩
  | k + 1 => by
    obtain ⟨h1, h2⟩ := chain_ok k
    have e : sz endD = 8 := by decide
    unfold chain
    split
    · refine ⟨hd_str rfl ?_, ?_⟩
      · exact List.forall_mem_cons.mpr ⟨.int _, mem_three hd_t0 h1 hd_end⟩
      · simp only [sz, szs, t0] at *; omega
    · refine ⟨hd_str rfl ?_, ?_⟩
      · exact List.forall_mem_cons.mpr ⟨.int _, mem_three hd_t0 hd_end h1⟩
      · simp only [sz, szs, t0] at *; omega
theorem s23 {n a : Nat} : (xF L G wf (n + 2) 23 [hand ds a]).sat (fun x os => ∃ y t, x = .lst [y, t] ∧ Fit y ∧ Fit t ∧ ∃ o, os = [o]) fun _ => False := by
  refine call_satB rfl rfl [some (hand ds a), none, none, none, none, none, none, none, none, none] rfl ?_
  unfold B23
  repeat trivial
  refine CR.sat_eq (s9 (m := ((6 : Nat) : Int)) (by decide)) ?_
  obtain ⟨q, eq, hq⟩ := take_nat (ds := ds) (a := a) (m := 6) (by decide)
  rw [eq]
  repeat trivial
  refine CR.sat_eq (s9 (m := ((3 : Nat) : Int)) (by decide)) ?_
  obtain ⟨p, ep, hp⟩ := take_nat (ds := ds) (a := a + 1) (m := 3) (by decide)
  rw [ep]
  repeat trivial
  have hm : (99 + (p : Int)).toNat ≤ 101 := by omega
  have e2 : sz (.tup [.int 0]) = 2 := by decide
  refine r_ieq (fun h1 => ?_) (fun h1 => ?_)
  · repeat trivial
    refine ⟨_, rep_one (by decide) (by decide), ?_⟩
    repeat trivial
    refine ⟨_, rep_one (by decide) (by decide), ?_⟩
    repeat trivial
    refine ⟨_, rep_one (by decide) (by decide), ?_⟩
    repeat trivial
    refine ⟨_, rep_one (by decide) (by decide), ?_⟩
    repeat trivial
    refine ⟨_, _, rfl, fit_end (HD.rep (HD.rep (.int 0) rfl) cmp_rep) (hd_one (HD.rep (.int 0) rfl) cmp_rep) (by decide +kernel), fit_of (HD.rep (hd_one (.int 0) rfl) rfl) (by decide +kernel), _, rfl⟩
  repeat trivial
  refine r_ieq (fun h2 => ?_) (fun h2 => ?_)
  · repeat trivial
    refine ⟨_, rep_one (by omega) (by omega), ?_⟩
    repeat trivial
    refine ⟨_, rep_one (by decide) (by decide), ?_⟩
    repeat trivial
    refine ⟨_, rep_one (by decide) (by decide), ?_⟩
    repeat trivial
    refine ⟨_, rep_one (by omega) (by omega), ?_⟩
    repeat trivial
    refine ⟨_, _, rfl, fit_end (HD.rep (hd_one (.int 0) rfl) rfl) (HD.rep (hd_one (.int 0) rfl) rfl) ?_, fit_of (HD.rep (HD.rep (.int 2) rfl) cmp_rep) ?_, _, rfl⟩
    · rw [sz_rep, sz_rep, e2, show Int.toNat 20 = 20 from rfl]
      omega
    · rw [sz_rep, sz_rep, show Int.toNat 20 = 20 from rfl, show sz (.int 2) = 1 from by decide]
      omega
  repeat trivial
  refine r_ieq (fun h3 => ?_) (fun h3 => ?_)
  · repeat trivial
    refine ⟨_, rep_one (by omega) (by omega), ?_⟩
    repeat trivial
    refine ⟨_, rep_one (by omega) (by omega), ?_⟩
    repeat trivial
    refine ⟨_, _, rfl, fit_end (HD.rep (hd_one (.int 0) rfl) rfl) hd_t0 ?_, fit_of (HD.rep (hd_one (.int 1) rfl) rfl) ?_, _, rfl⟩
    · rw [sz_rep, e2, show sz (t0 0) = 3 from by decide]
      omega
    · rw [sz_rep, show sz (.tup [.int 1]) = 2 from by decide]
      omega
  repeat trivial
  refine r_ieq (fun h4 => ?_) (fun h4 => ?_)
  · repeat trivial
    refine ⟨_, rep_one (by omega) (by omega), ?_⟩
    repeat trivial
    refine ⟨_, rep_one (by omega) (by omega), ?_⟩
    repeat trivial
    refine ⟨_, _, rfl, fit_end hd_t0 (HD.rep (hd_one (.int 0) rfl) rfl) ?_, fit_of (hd_one (HD.rep (.int 1) rfl) cmp_rep) ?_, _, rfl⟩
    · rw [sz_rep, e2, show sz (t0 0) = 3 from by decide]
      omega
    · rw [sz_tup]
      simp only [szs]
      rw [sz_rep, show sz (.int 1) = 1 from by decide]
      omega
  repeat trivial
  refine r_ieq (fun h5 => ?_) (fun h5 => ?_)
  · repeat trivial
    refine CR.sat_eq (s9 (m := ((3 : Nat) : Int)) (by decide)) ?_
    obtain ⟨u, eu, hu⟩ := take_nat (ds := ds) (a := a + 1 + 1) (m := 3) (by decide)
    rw [eu]
    repeat trivial
    refine CR.sat_eq (s9 (m := ((4 : Nat) : Int)) (by decide)) ?_
    obtain ⟨v, ev, hv⟩ := take_nat (ds := ds) (a := a + 1 + 1 + 1) (m := 4) (by decide)
    rw [ev]
    have hc : ∃ c : Int, dIdx (.lst [.int (255 + (u : Int)), .int 1, .int 0, .int (-1)]) (.int (v : Int)) = some (.int c) ∧ -1 ≤ c ∧ c ≤ 257 := by
      match v, hv with
      | 0, _ => exact ⟨_, rfl, by omega, by omega⟩
      | 1, _ => exact ⟨_, rfl, by omega, by omega⟩
      | 2, _ => exact ⟨_, rfl, by omega, by omega⟩
      | 3, _ => exact ⟨_, rfl, by omega, by omega⟩
    obtain ⟨c, ec, c1, c2⟩ := hc
    refine ⟨_, ec, ?_⟩
    repeat trivial
    refine CR.sat_eq (s9 (m := ((2 : Nat) : Int)) (by decide)) ?_
    obtain ⟨w, ew, hw⟩ := take_nat (ds := ds) (a := a + 1 + 1 + 1 + 1) (m := 2) (by decide)
    rw [ew]
    have hp : ∃ x y : Int, dIdx (.lst [.tup [.int c, .int 2], .tup [.int 2, .int c]]) (.int (w : Int)) = some (.tup [.int x, .int y]) ∧ (-1 ≤ x ∧ x ≤ 257) ∧ (-1 ≤ y ∧ y ≤ 257) := by
      match w, hw with
      | 0, _ => exact ⟨_, _, rfl, by omega, by omega⟩
      | 1, _ => exact ⟨_, _, rfl, by omega, by omega⟩
    obtain ⟨x, y, exy, hx, hy⟩ := hp
    refine ⟨_, exy, ?_⟩
    repeat trivial
    refine compL_map (fun d => match d with | .int 0 => .tup [.tup (List.replicate x.toNat (.int 0))] | _ => .tup [.tup (List.replicate y.toNat (.int 0))]) (fun d hd => ?_) ?_
    · have hd : d ∈ [D.int 0, .int 1] := hd
      rcases List.mem_cons.mp hd with rfl | hd
      · refine compF_sat rfl ?_
        repeat trivial
        refine ⟨_, rep_one (by omega) (by omega), ?_⟩
        repeat trivial
        try exact ⟨rfl, rfl⟩
      · cases List.mem_singleton.mp hd
        refine compF_sat rfl ?_
        repeat trivial
        refine ⟨_, rep_one (by omega) (by omega), ?_⟩
        repeat trivial
        try exact ⟨rfl, rfl⟩
    · repeat trivial
      have gx : ∀ z : Int, -1 ≤ z ∧ z ≤ 257 → HD (.tup [.tup (List.replicate z.toNat (.int 0))]) ∧ sz (.tup [.tup (List.replicate z.toNat (.int 0))]) ≤ 300 := fun z hz => by
        refine ⟨hd_one (HD.rep (.int 0) rfl) cmp_rep, ?_⟩
        rw [sz_tup]
        simp only [szs]
        rw [sz_rep, show sz (.int 0) = 1 from by decide]
        omega
      obtain ⟨x1, x2⟩ := gx x hx
      obtain ⟨y1, y2⟩ := gx y hy
      refine ⟨_, _, rfl, fit_of (hd_str rfl (List.forall_mem_cons.mpr ⟨.int _, mem_two (.int _) (hd_str rfl (List.forall_mem_cons.mpr ⟨.int _, mem_three x1 (hd_str rfl (mem_two x1 y1)) (hd_str rfl (mem_two x1 y1))⟩))⟩)) ?_, fit_of hd_t0 (by decide), _, rfl⟩
      show sz (.tup [.str sTalk, .int x, .int y, .tup [.str sSay, .int 0, .tup [.tup (List.replicate x.toNat (.int 0))], .tup [.str sEnd, .tup [.tup (List.replicate x.toNat (.int 0))], .tup [.tup (List.replicate y.toNat (.int 0))]], .tup [.str sEnd, .tup [.tup (List.replicate x.toNat (.int 0))], .tup [.tup (List.replicate y.toNat (.int 0))]]]]) ≤ 40000
      generalize D.tup [.tup (List.replicate x.toNat (.int 0))] = A at *
      generalize D.tup [.tup (List.replicate y.toNat (.int 0))] = B at *
      simp only [sz_tup, szs]
      simp only [sz]
      omega
  repeat trivial
  refine CR.sat_eq (s9 (m := ((3 : Nat) : Int)) (by decide)) ?_
  obtain ⟨u, eu, hu⟩ := take_nat (ds := ds) (a := a + 1 + 1) (m := 3) (by decide)
  rw [eu]
  repeat trivial
  refine ⟨Nat.le_trans (show 248 + u ≤ 251 from by omega) (by decide), ?_⟩
  refine forL_rng (fun i σ => ∃ o9 : Option M, σ = [some (hand ds (a + 1 + 1 + 1)), some (.d (.int (q : Int))), some (.d (.int (99 + (p : Int)))), none, none, none, none, some (.d endD), some (.d (chain i)), o9]) ⟨_, rfl⟩ ?_ ?_
  · rintro i σ hi ⟨o9, rfl⟩
    repeat trivial
    have hi2 : i % 2 = 0 ∨ i % 2 = 1 := by omega
    rcases hi2 with h0 | h0
    · have e : (i : Int) % 2 = 0 := by omega
      rw [e]
      refine ⟨_, dIdx_inL (v := 0) (by simp), ?_⟩
      refine ⟨_, rfl, some (.d (.int (i : Int))), ?_⟩
      rw [show chain (i + 1) = .tup [.str [115, 97, 121], .int 0, t0 0, chain i, endD] from by conv => lhs; unfold chain; rw [if_pos h0]]
      rfl
    · have e : (i : Int) % 2 = 1 := by omega
      rw [e]
      refine ⟨_, dIdx_inL (v := 1) (by simp), ?_⟩
      refine ⟨_, rfl, some (.d (.int (i : Int))), ?_⟩
      rw [show chain (i + 1) = .tup [.str [115, 97, 121], .int 1, t0 1, endD, chain i] from by conv => lhs; unfold chain; rw [if_neg (by omega)]]
      rfl
  · rintro σ ⟨o9, rfl⟩
    repeat trivial
    obtain ⟨c1, c2⟩ := chain_ok (248 + u)
    refine ⟨_, _, rfl, fit_of (hd_str rfl (mem_three (.int _) (.int _) c1)) ?_, fit_of hd_t0 (by decide), _, rfl⟩
    simp only [sz_tup, szs]
    simp only [sz] at *
    omega
end
end K02

namespace K02
open PySem JH
local macro_rules | `(tactic| trivial) => `(tactic| first
  | ((with_reducible refine gdS ?_); first | refine r_seq ?_ | refine r_asg ?_ | refine r_if ?_ | refine r_ret ?_ | refine r_skip ?_ | refine r_asgM ?_ | refine r_for ?_ | refine r_app rfl rfl ?_ | refine r_sto ?_ | refine r_ex ?_ | refine r_retN ?_ | refine r_rse ?_ | refine r_rsi ?_ | refine r_aug rfl ?_ | refine r_asgN ?_ | refine r_par ?_ | refine r_brk ?_ | refine r_cont ?_ | refine r_wh ?_ | refine r_setf ?_)
  | ((with_reducible refine gdE ?_); first | refine r_rd rfl ?_ | refine r_cI ?_ | refine r_call ?_ | refine r_acons rfl ?_ | refine r_amarg rfl ?_ | refine r_anil ?_ | (apply r_cv rfl; focus (repeat (first | exact AVs.nil | apply AVs.d | (apply AVs.m; rfl)))) | refine r_tru ?_ | refine r_t rfl ?_ | refine r_cmp ?_ | refine r_bin ?_ | refine r_idx ?_ | refine r_cS ?_ | refine r_tup ?_ | refine r_cons ?_ | refine r_nil ?_ | refine r_lst ?_ | refine r_cB ?_ | refine r_cN ?_ | refine r_midx rfl ?_ | refine r_b1 ?_ | refine r_and ?_ | refine r_or ?_ | refine r_andc ?_ | refine r_orc ?_ | refine r_and1 ?_ | refine r_or1 ?_ | refine r_not ?_ | refine r_chn ?_ | refine r_truE ?_ | refine r_pb1 rfl peekB_map rfl ?_ | refine r_isN ?_ | refine r_notN ?_ | refine r_rng2 ?_ | refine r_rng1 ?_ | refine r_fz rfl ?_ | refine r_b2 ?_ | refine r_notV ?_ | refine r_tupR ?_ | refine r_negB ?_ | refine r_chn4 ?_ | refine r_gl (by assumption) ?_ | refine r_isc ?_ | refine r_cv1 ?_ | refine r_cv2 ?_ | refine r_isi ?_ | refine r_isi2 ?_ | refine r_slc ?_ | refine r_oN ?_ | refine r_oS rfl ?_ | refine r_tN ?_ | refine r_comp ?_ | refine r_ofd ?_ | refine r_dct ?_ | refine r_dhas ?_ | refine r_meth ?_ | refine r_mk ?_ | refine r_it rfl ?_)
  | ((with_reducible refine gdI ?_); first | refine r_eqT rfl ?_ | refine r_eqF rfl ?_)
  | ((with_reducible refine gdX ?_); first | refine ⟨_, xB_addB, ?_⟩ | refine ⟨_, xB_subB, ?_⟩ | refine ⟨_, xB_add, ?_⟩ | refine ⟨_, xB_sub, ?_⟩ | refine ⟨_, xB_mul (by first | exact small_lit (by decide +kernel) | exact small_lit1 (by decide +kernel) | exact small_lit1 (small_of (by omega) (by omega)) | exact small_lit (small_of (by omega) (by omega))), ?_⟩ | refine ⟨_, xB_mod (by first | assumption | omega), ?_⟩ | refine ⟨_, xB_fdiv (by omega), ?_⟩ | refine ⟨_, xB_pow (by decide +kernel), ?_⟩ | refine ⟨_, xB_addS (by first | assumption | exact cutS (by assumption) | exact oneS) (by first | assumption | exact cutS (by assumption) | exact oneS), ?_⟩ | refine ⟨_, xB_addSL (by first | assumption | exact cutS (by assumption) | exact oneS) (by first | assumption | exact cutS (by assumption) | exact oneS), ?_⟩ | refine ⟨_, xB_addL (by first | decide | (simp; done) | (simp; omega)), ?_⟩ | refine ⟨_, xB_addT (by first | decide | (simp; done) | (simp; omega)), ?_⟩ | refine ⟨_, dIdx_t0, ?_⟩ | refine ⟨_, dIdx_t1, ?_⟩ | refine ⟨_, dIdx_t2, ?_⟩ | refine ⟨_, rfl, ?_⟩ | refine ⟨_, rfl, rfl, ?_⟩ | refine ⟨_, _, rfl, rfl, ?_⟩ | refine ⟨_, if_pos (by first | decide | assumption | omega), ?_⟩)
  | ((with_reducible refine gdA ?_); first | refine And.intro (by first | assumption | decide | omega | rfl) ?_))
variable {n wf : Nat} {G : Nat → Option D}
def two (a b : Nat) : Nat → Nat := fun i => if i = 0 then a else b
theorem hand0 {ds : List Int} : (M.lst [.d (.lst (ds.map D.int)), .d (.int 0)]) = hand ds 0 := rfl
theorem s24 (ns : List Int) (hz : ns.length ≤ 63) (hwf : 40001 ≤ wf) (hG0 : G 0 = some (.int 256)) (hG1 : G 1 = some (.int 250)) (hG2 : G 2 = some (.int 100)) (hG4 : G 4 = some (.int 40000)) : (xF L G wf 21 24 [.d (.scr ns)]).sat (fun x os => x = .bl true) fun _ => False := by
  refine call_satB rfl rfl [some (.d (.scr ns)), none, none, none, none, none, none, none, none, none, none] rfl ?_
  have R : ∀ {x t : D}, Fit x → Fit t → xF L G wf 20 22 [.d x, .d t] = .ret (.bl true) [none, none] := fun hx ht => s22 (n := 11) hx ht hwf hG0 hG1 hG2 hG4
  clear hwf hG0 hG1 hG2 hG4
  unfold B24
  repeat trivial
  refine CR.sat_imp (s8 (n := 19) (many := 700) (Nat.le_trans hz (by decide)) (by decide)) (fun x os ⟨ds, h1, h2⟩ => ?_) fun _ z => z
  subst h1 h2
  repeat trivial
  obtain ⟨k0, e0, h0⟩ := take_nat (ds := ds) (a := 0) (m := 4) (by decide)
  obtain ⟨k1, e1, h1⟩ := take_nat (ds := ds) (a := 0 + 1) (m := 4) (by decide)
  refine CR.sat_eq (s9 (n := 19) (ds := ds) (a := 0) (m := ((4 : Nat) : Int)) (by decide)) ?_
  rw [e0]
  repeat trivial
  refine CR.sat_eq (s9 (n := 19) (ds := ds) (a := 0 + 1) (m := ((4 : Nat) : Int)) (by decide)) ?_
  rw [e1]
  repeat trivial
  have ek : D.tup [.int (1 + (k0 : Int)), .int (1 + (k1 : Int))] = pair (two (1 + k0) (1 + k1)) := by
    unfold pair two
    simp
  rw [ek]
  have hK : ∀ i, i < 2 → two (1 + k0) (1 + k1) i ≤ 4 := fun i _ => by
    unfold two
    split <;> omega
  refine CR.sat_imp (s10 (n := 18) (k := two (1 + k0) (1 + k1) 0) (c := two (1 + k0) (1 + k1) 1) (by decide) (Nat.le_trans (hK 0 (by decide)) (by decide)) (Nat.le_trans (hK 1 (by decide)) (by decide))) (fun x os ⟨b, a, hb, p1, p2⟩ => ?_) fun _ z => z
  subst p1 p2
  have hT : Sml 0 2 21 (dBits b) := (sml_bits hb.len (fun r hr => (hb.row r hr).1) fun r hr v hv => (hb.row r hr).2 v hv).mono (Nat.le_refl _) (Nat.le_refl _) (by
    have : two (1 + k0) (1 + k1) 0 * (two (1 + k0) (1 + k1) 1 + 1) ≤ 4 * 5 := Nat.mul_le_mul (hK 0 (by decide)) (by have := hK 1 (by decide); omega)
    omega)
  have fT := hT.fit (by decide) (by decide)
  repeat trivial
  refine CR.sat_imp (s13 (n := 13) hK (by decide) (by decide)) (fun x os ⟨a, hx, p2⟩ => ?_) fun _ z => z
  subst p2
  have fx := hx.fit (by decide) (by decide)
  repeat trivial
  obtain ⟨k2, e2, h2⟩ := take_nat (ds := ds) (a := a) (m := 4) (by decide)
  refine CR.sat_eq (s9 (n := 19) (ds := ds) (m := ((4 : Nat) : Int)) (by decide)) ?_
  rw [e2]
  repeat trivial
  have ek2 : D.tup [.int (1 + (k2 : Int)), .int (two (1 + k0) (1 + k1) 1 : Nat)] = pair (two (1 + k2) (two (1 + k0) (1 + k1) 1)) := by
    unfold pair two
    simp
  rw [ek2]
  have hK2 : ∀ i, i < 2 → two (1 + k2) (two (1 + k0) (1 + k1) 1) i ≤ 4 := fun i _ => by
    have := hK 1 (by decide)
    generalize two (1 + k0) (1 + k1) 1 = z at *
    unfold two
    split <;> omega
  refine CR.sat_imp (s13 (n := 13) hK2 (by decide) (by decide)) (fun y os ⟨a, hy, p2⟩ => ?_) fun _ z => z
  subst p2
  have fy := hy.fit (by decide) (by decide)
  repeat trivial
  refine CR.sat_eq (R fx fT) ?_
  repeat trivial
  refine CR.sat_eq (R fy fT) ?_
  repeat trivial
  refine forL_rng (fun i σ => ∃ a o6 o7 o8, σ = [some (.d (.scr ns)), some (hand ds a), some (.d (pair (two (1 + k0) (1 + k1)))), some (.d (dBits b)), some (.d x), some (.d y), o6, o7, o8, none, none]) ⟨a, none, none, none, rfl⟩ ?_ ?_
  · rintro i σ hi ⟨a, o6, o7, o8, rfl⟩
    repeat trivial
    refine CR.sat_imp (s20 8 7 0 7 432 a x hx (by decide) (by decide)) (fun u os ⟨a, hu, p2⟩ => ?_) fun _ z => z
    subst p2
    have fu := hu.fit (by decide) (by decide)
    repeat trivial
    refine CR.sat_imp (s20 3 12 0 2 21 a (dBits b) hT (by decide) (by decide)) (fun w os ⟨a, hw, p2⟩ => ?_) fun _ z => z
    subst p2
    have fw := hw.fit (by decide) (by decide)
    repeat trivial
    refine CR.sat_eq (R fu fT) ?_
    repeat trivial
    refine CR.sat_eq (R fx fw) ?_
    repeat trivial
    refine CR.sat_eq (R fu fw) ?_
    repeat trivial
    refine CR.sat_imp (s20 8 7 (0 + 1) (7 + 8 + 5) (3 * 432 + 64) a u hu (by decide) (by decide)) (fun v os ⟨a, hv, p2⟩ => ?_) fun _ z => z
    subst p2
    repeat trivial
    refine CR.sat_eq (R (hv.fit (by decide) (by decide)) fT) ?_
    repeat trivial
    exact ⟨a, _, _, _, rfl⟩
  · rintro σ ⟨a, o6, o7, o8, rfl⟩
    repeat trivial
    refine CR.sat_imp (s19 3 15 a) (fun v os ⟨a, hv, p2⟩ => ?_) fun _ z => z
    subst p2
    have fv := hv.fit (by decide) (by decide)
    have small : ∀ z, Sml 0 4 10 z → Fit z := fun z h => h.fit (by decide) (by decide)
    have fl : ∀ z ∈ [v, .tup [], .tup [.tup []], .tup [.tup [.int 1, .int 2], .tup [.int 3]], .tup [.tup [.int 1], .lst [.int 2]], .lst [.tup [.int 1]], .tup [.tup [.bl true]]], Fit z := by
      refine List.forall_mem_cons.mpr ⟨fv, ?_⟩
      repeat refine List.forall_mem_cons.mpr ⟨small _ ⟨by decide +kernel, by decide +kernel, by decide +kernel⟩, ?_⟩
      exact fun _ h => by cases h
    repeat trivial
    refine forL_K (fun i σ => ∃ o9, σ = [some (.d (.scr ns)), some (hand ds a), some (.d (pair (two (1 + k0) (1 + k1)))), some (.d (dBits b)), some (.d x), some (.d y), o6, o7, o8, o9, none]) ⟨none, rfl⟩ ?_ ?_
    · rintro i z σ e ⟨o9, rfl⟩
      have fz := fl z (List.mem_of_getElem? e)
      refine ⟨_, rfl, ?_⟩
      repeat trivial
      refine CR.sat_eq (R fx fz) ?_
      repeat trivial
      refine CR.sat_eq (R fz fT) ?_
      repeat trivial
      try exact ⟨_, rfl⟩
    · rintro σ ⟨o9, rfl⟩
      repeat trivial
      refine CR.sat_eq (s9 (n := 19) (m := ((5 : Nat) : Int)) (by decide)) ?_
      repeat trivial
      refine r_dec (fun _ => ?_) (fun _ => ?_)
      · repeat trivial
      · repeat trivial
        refine CR.sat_imp (s23 (n := 18)) (fun v os ⟨p, q, e1, fp, fq, o, e2⟩ => ?_) fun _ z => z
        subst e1 e2
        repeat trivial
        refine CR.sat_eq (R fp fq) ?_
        rfl
theorem pure_law (ns : List Int) (h : ns.length ≤ 63) : ∃ os, JH.callF K02.L (glOf W.gs) 50000 21 24 [.d (.scr ns)] = .ret (.bl true) os := by
  have := s24 (G := glOf W.gs) (wf := 50000) ns h (by decide) rfl rfl rfl rfl
  rw [xF_eq] at this
  obtain ⟨d, os, e, q⟩ := CR_ok this
  exact ⟨os, by rw [e, q]⟩
end K02

open PySem PySem.W PySem.Calls PyProof.Rows
theorem PySem.Challenge.cw_jointhands_k02_tables_and_talks_that_are_holds : PySem.Challenge.rw_jointhands_k02_tables_and_talks_that_are.Holds := by
  w_on; o_law
  refine HandSHeadRun.head_any (r := OpenLaw.row PySem.Challenge.rw_jointhands_k02_tables_and_talks_that_are) (q := view (OpenLaw.row PySem.Challenge.rw_jointhands_k02_tables_and_talks_that_are).prog [37]) (H := K02.hk) (ob := K02.ob) (M := 6000) (loose := K02.loose) (d := HandSHeadRun.topDef (OpenLaw.row PySem.Challenge.rw_jointhands_k02_tables_and_talks_that_are).prog 37) (kwd := []) K02.ob_eq
    (by kernel_rfl) (fun s => by kernel_rfl) K02.run (by kernel_rfl) (by kernel_rfl) (by kernel_rfl) (by rfl) (by first | assumption | decide +kernel) (by decide +kernel) ⟨rfl, rfl, rfl, rfl, rfl, by decide +kernel⟩ ?hw ?hc
  case hw => w_witness2
  case hc =>
    exact JH.law_walk (l := K02.W) (ol := PySem.Challenge.rw_jointhands_k02_tables_and_talks_that_are) (L := K02.L) (wf := 50000) (n := 21) (f := 24) (d := K02.d24) (x := "_law_script") rfl (by kernel_rfl) ⟨rfl, by decide, by decide⟩ rfl rfl (by kernel_rfl) rfl K02.call K02.hot K02.chj K02.allB K02.allI K02.pure_law
