import PyProof.Rows.All
import Wide.All
import OpenK.AllK
import Wide.FinOn
import HandS.ForMost
import HandS.Exc
import HandS.Lambda
import HandS.TupAny
import HandS.Zip
import HandS.Small
import HandS.Defaults
import HandS.Conv
import HandS.IsInst
import HandS.TryOnly
import HandS.SortKw
import HandS.Set
import KE.SortKeyHeap
import KE.DatumOrd
import HandS.HeadHook4
import Lean
import HandS.Head0
import HandS.Head1
import HandS.Head2
import HandS.HeadEnd
import HandS.HeadWalk
import HandS.HeadHook1
import HandS.HeadHook2
import HandS.NestedK
import HandS.MakeKwOnly
import PySem.Challenge.RW_lockstretch_k01_lots
set_option Elab.async false
set_option linter.all false
set_option maxRecDepth 100000
set_option maxHeartbeats 0
/-! a small plain language: values, a store, expressions, statements, their runs -/
namespace Mi
open PySem
/-- a value: texts of the program by their number in a table; what never changes as a whole; what may change by its place in the store -/
inductive W where
  | non | bl (b : Bool) | int (i : Int) | tx (n : Nat) | str (s : Str)
  | tup (l : List W) | lst (l : List W) | scr (l : List Int) | ref (n : Nat)
inductive MK where
  | i (i : Int) | t (n : Nat)
  deriving DecidableEq
inductive Node where
  | lst (l : List W) | dK (l : List (MK × W)) | dT (l : List (List MK × W)) | ob (c : Nat) (fs : List (Nat × W))
abbrev Sto := List Node
inductive Out (α : Type) where
  | ok (a : α) (S : Sto) | ex (c : Nat) (p : Option W) (S : Sto) | bad
def Out.bind {α β : Type} (x : Out α) (f : α → Sto → Out β) : Out β := match x with
  | .ok a S => f a S
  | .ex c p S => .ex c p S
  | .bad => .bad
@[simp] theorem Out.bind_ok {α β : Type} (a : α) (S : Sto) (f : α → Sto → Out β) : (Out.ok a S).bind f = f a S := rfl
@[simp] theorem Out.bind_ex {α β : Type} (c : Nat) (p : Option W) (S : Sto) (f : α → Sto → Out β) : (Out.ex c p S : Out α).bind f = .ex c p S := rfl
@[simp] theorem Out.bind_bad {α β : Type} (f : α → Sto → Out β) : (Out.bad : Out α).bind f = .bad := rfl
/-- of a comprehension's part: nothing may be raised -/
def Out.calm {α : Type} (x : Out α) : Out α := match x with
  | .ex _ _ _ => .bad
  | x => x
@[simp] theorem Out.calm_ok {α : Type} (a : α) (S : Sto) : (Out.ok a S).calm = .ok a S := rfl
def Out.of {α : Type} (o : Option α) (S : Sto) : Out α := match o with
  | some a => .ok a S
  | none => .bad
@[simp] theorem Out.of_some {α : Type} (a : α) (S : Sto) : Out.of (some a) S = .ok a S := rfl
@[simp] theorem Out.of_none {α : Type} (S : Sto) : (Out.of none S : Out α) = .bad := rfl

/-! ### plain data -/
mutual
/-- data of a depth below n -/
def W.shp : Nat → W → Bool
  | _, .non => true
  | _, .bl _ => true
  | _, .int _ => true
  | _, .tx _ => true
  | n + 1, .tup l => W.shps n l
  | n + 1, .lst l => W.shps n l
  | _, _ => false
def W.shps : Nat → List W → Bool
  | _, [] => true
  | n, a :: l => W.shp n a && W.shps n l
end
mutual
/-- == of data -/
def W.eq : W → W → Bool
  | .non, .non => true
  | .bl a, .bl b => a == b
  | .bl a, .int j => (if a then 1 else 0) == j
  | .int i, .bl b => i == (if b then 1 else 0)
  | .int i, .int j => i == j
  | .tx a, .tx b => a == b
  | .tup a, .tup b => W.eqs a b
  | .lst a, .lst b => W.eqs a b
  | _, _ => false
def W.eqs : List W → List W → Bool
  | [], [] => true
  | a :: l, b :: m => W.eq a b && W.eqs l m
  | _, _ => false
end
def W.flat : W → Bool
  | .non => true
  | .bl _ => true
  | .int _ => true
  | .tx _ => true
  | _ => false
/-- truth -/
def W.tru (S : Sto) : W → Option Bool
  | .non => some false
  | .bl b => some b
  | .int i => some (i != 0)
  | .tup l => some (!l.isEmpty)
  | .lst l => some (!l.isEmpty)
  | .scr l => some (!l.isEmpty)
  | .ref n => match S[n]? with
    | some (.lst l) => some (!l.isEmpty)
    | _ => none
  | _ => none
def sixteen : Nat := 16777216
/-- the items of a list that stands, frozen or in the store -/
def W.lis (S : Sto) : W → Option (List W)
  | .lst l => some l
  | .ref n => match S[n]? with
    | some (.lst l) => some l
    | _ => none
  | _ => none
def W.key : W → Option MK
  | .int i => some (.i i)
  | .tx n => some (.t n)
  | _ => none
def W.keys : List W → Option (List MK)
  | [] => some []
  | a :: l => match a.key, W.keys l with
    | some k, some ks => some (k :: ks)
    | _, _ => none
def MK.w : MK → W
  | .i a => .int a
  | .t a => .tx a

def W.isI : W → Bool
  | .int _ => true
  | _ => false
/-- a tuple as a key -/
def W.tkey (l : List W) : Option (List MK) := if l.any W.isI then W.keys l else none
/-! ### tables by keys -/
section
variable {κ : Type} [DecidableEq κ]
def getT (kvs : List (κ × W)) (k : κ) : Option W := (kvs.find? fun kv => decide (kv.1 = k)).map (·.2)
def putT (kvs : List (κ × W)) (k : κ) (v : W) : List (κ × W) :=
  if (kvs.any fun kv => decide (kv.1 = k)) = true then kvs.map (fun kv => if kv.1 = k then (kv.1, v) else kv) else kvs ++ [(k, v)]
def dropT (kvs : List (κ × W)) (k : κ) : List (κ × W) := kvs.filter fun kv => decide (kv.1 ≠ k)
end
def putA (f : Nat) (w : W) : List (Nat × W) → List (Nat × W)
  | [] => [(f, w)]
  | (g, x) :: r => if g = f then (g, w) :: r else (g, x) :: putA f w r
/-- d[y] of the dict at n: the dict, and what is there -/
def dLook (S : Sto) (n : Nat) (y : W) : Option (Option W) := match S[n]? with
  | some (.dK kvs) => y.key.map fun k => getT kvs k
  | some (.dT kvs) => match y with
    | .tup l => (W.tkey l).map fun k => getT kvs k
    | _ => none
  | _ => none
def dPut (S : Sto) (n : Nat) (y v : W) : Option Sto := match S[n]? with
  | some (.dK kvs) => y.key.bind fun k => if kvs.length < sixteen then some (S.set n (.dK (putT kvs k v))) else none
  | some (.dT kvs) => match y with
    | .tup l => (W.tkey l).bind fun k => if kvs.length < sixteen then some (S.set n (.dT (putT kvs k v))) else none
    | _ => none
  | _ => none

/-! ### operators -/
inductive BOp where
  | add | sub | mul | fdiv | mod | pow
  deriving DecidableEq
inductive COp where
  | eq | ne | lt | le | gt | ge | isN | notN | in_ | notIn
  deriving DecidableEq
def smallB (i : Int) : Bool := decide (-(2 ^ 64) < i) && decide (i < 2 ^ 64)
def int2 (f : Int → Int → Option W) : W → W → Option W
  | .int a, .int b => f a b
  | _, _ => none
def addW (S : Sto) : W → W → Option W
  | .int a, .int b => some (.int (a + b))
  | .tup a, .tup b => if a.length + b.length ≤ sixteen then some (.tup (a ++ b)) else none
  | a, b => match a.lis S, b.lis S with
    | some x, some y => if x.length + y.length ≤ sixteen then some (.lst (x ++ y)) else none
    | _, _ => none
def mulW (S : Sto) : W → W → Option W
  | .int a, .int b => if smallB a || smallB b then some (.int (a * b)) else none
  | a, .int k => match a.lis S with
    | some x => if 0 ≤ k ∧ k < 2 ^ 63 ∧ x.length * k.toNat ≤ sixteen then some (.lst (List.replicate k.toNat x).flatten) else none
    | none => none
  | _, _ => none
def binW (S : Sto) (o : BOp) (x y : W) : Option W := match o with
  | .add => addW S x y
  | .mul => mulW S x y
  | .sub => int2 (fun a b => some (.int (a - b))) x y
  | .fdiv => int2 (fun a b => if 0 < b ∧ b < 1073741824 then some (.int (a / b)) else none) x y
  | .mod => int2 (fun a b => if 0 < b then some (.int (a % b)) else none) x y
  | .pow => int2 (fun a b => if 0 ≤ b ∧ b ≤ 1000000 ∧ a.natAbs < 2 ^ 64 then some (.int (a ^ b.toNat)) else none) x y
def inW (S : Sto) (x y : W) : Option Bool := match y with
  | .tup l => if x.flat && l.all W.flat then some (l.any fun a => W.eq a x) else none
  | .lst l => if x.flat && l.all W.flat then some (l.any fun a => W.eq a x) else none
  | .ref n => match S[n]? with
    | some (.lst l) => if x.flat && l.all W.flat then some (l.any fun a => W.eq a x) else none
    | _ => (dLook S n x).map (·.isSome)
  | _ => none
def W.isN : W → Bool
  | .non => true
  | _ => false
def cmpW (S : Sto) (o : COp) (x y : W) : Option W := match o with
  | .eq => if x.shp 50 && y.shp 50 then some (.bl (W.eq x y)) else none
  | .ne => if x.shp 50 && y.shp 50 then some (.bl (!W.eq x y)) else none
  | .lt => int2 (fun a b => some (.bl (decide (a < b)))) x y
  | .le => int2 (fun a b => some (.bl (decide (a ≤ b)))) x y
  | .gt => int2 (fun a b => some (.bl (decide (b < a)))) x y
  | .ge => int2 (fun a b => some (.bl (decide (b ≤ a)))) x y
  | .isN => if y.isN then some (.bl x.isN) else none
  | .notN => if y.isN then some (.bl (!x.isN)) else none
  | .in_ => (inW S x y).map .bl
  | .notIn => (inW S x y).map fun c => .bl (!c)
def ixNat (n : Nat) (i : Int) : Option Nat := if 0 ≤ i then (if i < n then some i.toNat else none) else if -(n : Int) ≤ i then some (i + n).toNat else none
def atW (l : List W) (i : Int) : Option W := (ixNat l.length i).bind fun j => l[j]?
def ixW (S : Sto) : W → W → Option W
  | .tup l, .int i => atW l i
  | .lst l, .int i => atW l i
  | .scr l, .int i => atW (l.map W.int) i
  | .ref n, y => match S[n]? with
    | some (.lst l) => match y with
      | .int i => atW l i
      | _ => none
    | _ => (dLook S n y).bind id
  | _, _ => none
/-- a bound of a slice -/
def W.bd : W → Option (Option Int)
  | .tup [] => some none
  | .int i => some (some i)
  | _ => none
def cutW (xs : List W) (lo hi : Option Int) : List W := (xs.drop (HT.sIx xs.length 0 lo)).take (HT.sIx xs.length xs.length hi - HT.sIx xs.length 0 lo)
def slW (S : Sto) (x lo hi : W) : Option W := match lo.bd, hi.bd with
  | some l, some h => match x with
    | .tup a => some (.tup (cutW a l h))
    | _ => (x.lis S).map fun a => .lst (cutW a l h)
  | _, _ => none

/-! ### the language -/
/-- what is walked: a value; range; zip; enumerate; a dict's items, values -/
inductive IK where
  | val | rng | rng2 | zip | enm | itm | vls | kys
  deriving DecidableEq
/-- built-in functions and classes, by values -/
inductive Bi where
  | len | isTup | isInt | isBool | max2 | min2 | minD | tuple | list | sortI | lrng | any | all | sum | dict | setLen | strI
  deriving DecidableEq
inductive Mt where
  | append | extend | pop0 | get2 | pop1 | pop2
  deriving DecidableEq
inductive Tg where
  | nm (i : Nat) | nil | cons (a b : Tg) | tp (a : Tg)
inductive M where
  | var (i : Nat) | cst (w : W) | con (i : Nat)
  | nil | cons (a b : M)
  | tup (a : M) | lst (a : M) | slst (a : M) | dct (a : M)
  | bin (o : BOp) (a b : M) | cmp (o : COp) (a b : M) | chn (o o' : COp) (a b c : M)
  | and (a b : M) | or (a b : M) | not (a : M) | tr (a : M) | ife (c a b : M)
  | ix (a b : M) | sl (a lo hi : M) | idx (a : M) | fld (a : M) (f : Nat)
  | call (f : Nat) (a b : M) | meth (c f : Nat) (o a b : M) | bi (b : Bi) (a : M) | mt (m : Mt) (o a : M)
  | lc (k : IK) (it : M) (tg : Tg) (own : List Nat) (c e : M)
  | srt (it e : M)
  | lc2 (k : IK) (it : M) (tg : Tg) (own : List Nat) (c : M) (k1 : IK) (it1 : M) (tg1 : Tg) (own1 : List Nat) (c1 e : M)
inductive MS where
  | skip | seq (a b : MS) | asg (t : Tg) (e : M) | aug (i : Nat) (e : M) | setIx (o i v : M) | setFld (o : M) (f : Nat) (v : M)
  | ex (e : M) | ret (e : M) | ife (c : M) (a b : MS) | for_ (k : IK) (it : M) (t : Tg) (b : MS) | whl (c : M) (b : MS)
  | par (i j : Nat) (m : M)
  | rse (c : Nat) | rseA (c : Nat) (e : M) | cont | brk

abbrev Env := List (Option W)
/-- what a def does: the locked places, the arguments, the store -/
abbrev Fn := List Nat → List W → Sto → Out W
structure Ctx where
  fn : Nat → Fn
  con : List W
  dat : W → PyData := fun _ => .none

def bindT : Tg → W → Env → Option Env
  | .nm i, w, env => some (env.set i (some w))
  | .tp a, w, env => match w with
    | .tup l => bindT a (.lst l) env
    | .lst l => bindT a (.lst l) env
    | _ => none
  | .nil, w, env => match w with
    | .lst [] => some env
    | _ => none
  | .cons a b, w, env => match w with
    | .lst (x :: l) => (bindT a x env).bind fun env' => bindT b (.lst l) env'
    | _ => none
def wipeE (env : Env) : List Nat → Env
  | [] => env
  | v :: vs => (wipeE env vs).set v none
/-- what is walked: its items, the places that must not change meanwhile -/
def rngW (l : List W) : Option (List W) := match l with
  | [.int n] => if -(2 ^ 62) ≤ n ∧ n < 2 ^ 62 then some ((List.range n.toNat).map fun (i : Nat) => .int (0 + i)) else none
  | _ => none
def rngW2 (l : List W) : Option (List W) := match l with
  | [.int a, .int b] => if -(2 ^ 62) ≤ a ∧ a < 2 ^ 62 ∧ -(2 ^ 62) ≤ b ∧ b < 2 ^ 62 then some ((List.range (b - a).toNat).map fun (i : Nat) => .int (a + i)) else none
  | _ => none
def zipW (l : List W) : Option (List W) := match l with
  | [.lst a, .lst b] => some ((a.zip b).map fun p => .tup [p.1, p.2])
  | [.tup a, .tup b] => some ((a.zip b).map fun p => .tup [p.1, p.2])
  | _ => none
def enmW (l : List W) : Option (List W) := match l with
  | [.lst a] => some (a.mapIdx fun i x => .tup [.int i, x])
  | _ => none
def valW (S : Sto) (w : W) : Option (List W × List Nat) := match w with
  | .tup l => some (l, [])
  | .lst l => some (l, [])
  | .ref n => match S[n]? with
    | some (.lst l) => some (l, [n])
    | _ => none
  | _ => none
def W.tupl : W → List W
  | .tup l => l
  | _ => []
def dicW (S : Sto) (k : IK) (w : W) : Option (List W × List Nat) := match w with
  | .ref n => match k, S[n]? with
    | .kys, some (.dK l) => some (l.map fun p => p.1.w, [n])
    | .kys, some (.dT l) => some (l.map fun p => .tup (p.1.map MK.w), [n])
    | .itm, some (.dK l) => some (l.map fun p => .tup [p.1.w, p.2], [n])
    | .itm, some (.dT l) => some (l.map fun p => .tup [.tup (p.1.map MK.w), p.2], [n])
    | .vls, some (.dK l) => some (l.map fun p => p.2, [n])
    | .vls, some (.dT l) => some (l.map fun p => p.2, [n])
    | _, _ => none
  | _ => none
def items (S : Sto) (k : IK) (w : W) : Option (List W × List Nat) := match k with
  | .val => valW S w
  | .rng => (rngW w.tupl).map fun l => (l, [])
  | .rng2 => (rngW2 w.tupl).map fun l => (l, [])
  | .zip => (zipW w.tupl).map fun l => (l, [])
  | .enm => (enmW w.tupl).map fun l => (l, [])
  | k => dicW S k w
def allInts : List W → Option (List Int)
  | [] => some []
  | .int i :: l => (allInts l).map (i :: ·)
  | _ :: _ => none
def allBls : List W → Option (List Bool)
  | [] => some []
  | .bl i :: l => (allBls l).map (i :: ·)
  | _ :: _ => none
def minI : List Int → Option Int
  | [] => none
  | a :: l => some (l.foldl min a)
def lenW (S : Sto) : W → Option Nat
  | .tup l => some l.length
  | .lst l => some l.length
  | .scr l => some l.length
  | .ref n => match S[n]? with
    | some (.lst l) => some l.length
    | _ => none
  | _ => none
def W.tyB : W → Option String
  | .non => some "NoneType"
  | .bl _ => some "bool"
  | .int _ => some "int"
  | .tx _ => some "str"
  | .str _ => some "str"
  | .tup _ => some "tuple"
  | .lst _ => some "list"
  | .scr _ => some "list"
  | .ref _ => none
def one (f : W → Option W) : List W → Option W
  | [a] => f a
  | _ => none
def two (f : W → W → Option W) : List W → Option W
  | [a, b] => f a b
  | _ => none
def W.ints : W → Option (List Int)
  | .lst l => allInts l
  | _ => none
def W.bls : W → Option (List Bool)
  | .lst l => allBls l
  | _ => none
def isTyW (t : String) (a : W) : Option W := a.tyB.map fun s => .bl (s == t || (s == "bool" && t == "int"))
def distinct (ns : List Int) : Nat := (PyProof.Rows.firstMet (fun i => ns.getD i 0) ns.length).length
def biW (S : Sto) (b : Bi) (l : List W) : Option W := match b with
  | .len => one (fun a => (lenW S a).map fun (n : Nat) => W.int n) l
  | .isTup => one (isTyW "tuple") l
  | .isInt => one (isTyW "int") l
  | .isBool => one (isTyW "bool") l
  | .max2 => two (int2 fun a b => some (.int (if b > a then b else a))) l
  | .min2 => two (int2 fun a b => some (.int (if b < a then b else a))) l
  | .tuple => one (fun a => match a with
    | .tup l => some (.tup l)
    | a => (a.lis S).map .tup) l
  | .list => one (fun a => match a with
    | .tup l => some (.lst l)
    | a => (a.lis S).map .lst) l
  | .any => one (fun a => a.bls.map fun bs => .bl (bs.any id)) l
  | .all => one (fun a => a.bls.map fun bs => .bl (bs.all id)) l
  | .sum => one (fun a => a.ints.map fun bs => .int bs.sum) l
  | .minD => one (fun a => a.ints.map fun bs => match minI bs with
    | none => W.non
    | some i => .int i) l
  | .setLen => one (fun a => a.ints.bind fun ns => if ns.length ≤ 4000 then some (.int (distinct ns : Nat)) else none) l
  | .lrng => two (int2 fun a b => if -(2 ^ 62) ≤ a ∧ a < 2 ^ 62 ∧ -(2 ^ 62) ≤ b ∧ b < 2 ^ 62 ∧ (b - a).toNat ≤ sixteen then some (.lst ((List.range (b - a).toNat).map fun (i : Nat) => .int (a + i))) else none) l
  | _ => none
def mtT (S : Sto) (m : Mt) (x : W) : Bool := match x with
  | .ref n => match m, S[n]? with
    | .append, some (.lst _) => true
    | .extend, some (.lst _) => true
    | .get2, some (.dK _) => true
    | .get2, some (.dT _) => true
    | _, _ => false
  | _ => false
def W.refn : W → Option Nat
  | .ref n => some n
  | _ => none
def appW (L : List Nat) (S : Sto) (n : Nat) (x : W) : Option (W × Sto) := match S[n]? with
  | some (.lst l) => if n ∉ L ∧ l.length < sixteen then some (.non, S.set n (.lst (l ++ [x]))) else none
  | _ => none
def extW (L : List Nat) (S : Sto) (n : Nat) (x : W) : Option (W × Sto) := match S[n]?, x.lis S with
  | some (.lst l), some m => if n ∉ L ∧ l.length + m.length ≤ sixteen then some (.non, S.set n (.lst (l ++ m))) else none
  | _, _ => none
def mtW (L : List Nat) (S : Sto) (m : Mt) (n : Nat) (l : List W) : Option (W × Sto) := match m with
  | .append => match l with
    | [x] => appW L S n x
    | _ => none
  | .extend => match l with
    | [x] => extW L S n x
    | _ => none
  | .get2 => match l with
    | [k, d] => (dLook S n k).map fun o => (o.getD d, S)
    | _ => none
  | _ => none
/-- the items of a list or a tuple -/
def W.seqs (S : Sto) : W → Option (List W)
  | .tup l => some l
  | a => a.lis S
def PyData.isTup1 : PyData → Bool
  | .tuple (_ :: _) => true
  | _ => false
def PyData.isOther : PyData → Bool
  | .tuple _ => false
  | .none => false
  | _ => true
def sortsB (ds : List PyData) : Bool := (ds.all fun a => ds.all fun b => PySem.W.alike a b) && (ds.all PyData.isTup1 || ds.all PyData.isOther)
/-- xs in the order of their keys ks -/
def srtW (dat : W → PyData) (xs ks : List W) : Option (List W) :=
  if (ks.all fun k => k.shp 40) && sortsB (ks.map dat) && decide (xs.length ≤ sixteen) && decide (ks.length = xs.length) then some (((xs.zip ks).mergeSort (PySem.W.dataLe false fun p : W × W => dat p.2)).map (·.1)) else none
open Classical in
/-- the keys of some items: nothing may change -/
noncomputable def keysL (f : W → Sto → Out W) (S : Sto) : List W → Option (List W)
  | [] => some []
  | x :: xs => match f x S with
    | .ok k S' => if S' = S then (keysL f S xs).map (k :: ·) else none
    | _ => none
/-- a dict display: keys and values in turn -/
def pairsW : List W → Option (List (MK × W))
  | [] => some []
  | k :: v :: r => match k.key, pairsW r with
    | some k, some ps => some ((k, v) :: ps)
    | _, _ => none
  | _ => none
def mergeT (kvs more : List (MK × W)) : List (MK × W) := more.foldl (fun acc kv => putT acc kv.1 kv.2) kvs
def lcL (step : W → Sto → Out (Option W)) : List W → Sto → Out (List W)
  | [], S => .ok [] S
  | x :: xs, S => (step x S).bind fun o S1 => (lcL step xs S1).bind fun r S2 => .ok (o.toList ++ r) S2
def lcL2 (step : W → Sto → Out (List W)) : List W → Sto → Out (List W)
  | [], S => .ok [] S
  | x :: xs, S => (step x S).bind fun o S1 => (lcL2 step xs S1).bind fun r S2 => .ok (o ++ r) S2

noncomputable section
variable (C : Ctx)
def ev (L : List Nat) : M → Env → Sto → Out W
  | .var i, env, S => match env[i]? with
    | some (some w) => .ok w S
    | _ => .bad
  | .cst w, _, S => .ok w S
  | .con i, _, S => Out.of C.con[i]? S
  | .nil, _, S => .ok (.tup []) S
  | .cons a b, env, S => (ev L a env S).bind fun x S1 => (ev L b env S1).bind fun y S2 => match y with
    | .tup l => .ok (.tup (x :: l)) S2
    | _ => .bad
  | .tup a, env, S => (ev L a env S).bind fun y S2 => match y with
    | .tup l => if l.length ≤ sixteen then .ok (.tup l) S2 else .bad
    | _ => .bad
  | .lst a, env, S => (ev L a env S).bind fun y S2 => match y with
    | .tup l => if l.length ≤ sixteen then .ok (.lst l) S2 else .bad
    | _ => .bad
  | .slst a, env, S => (ev L a env S).bind fun y S2 => match y with
    | .tup l => if l.length ≤ sixteen then .ok (.ref S2.length) (S2 ++ [.lst l]) else .bad
    | _ => .bad
  | .dct a, env, S => (ev L a env (S ++ [.dK []])).bind fun y S2 => match y with
    | .tup l => match pairsW l, S2[S.length]? with
      | some ps, some (.dK []) => if ps.length ≤ 15 then .ok (.ref S.length) (S2.set S.length (.dK (mergeT [] ps))) else .bad
      | _, _ => .bad
    | _ => .bad
  | .bin o a b, env, S => (ev L a env S).bind fun x S1 => (ev L b env S1).bind fun y S2 => Out.of (binW S2 o x y) S2
  | .cmp o a b, env, S => (ev L a env S).bind fun x S1 => (ev L b env S1).bind fun y S2 => Out.of (cmpW S2 o x y) S2
  | .chn o o' a b c, env, S => (ev L a env S).bind fun x S1 => (ev L b env S1).bind fun y S2 => match cmpW S2 o x y with
    | some (.bl true) => (ev L c env S2).bind fun z S3 => Out.of (cmpW S3 o' y z) S3
    | some (.bl false) => .ok (.bl false) S2
    | _ => .bad
  | .and a b, env, S => (ev L a env S).bind fun x S1 => match x with
    | .bl true => ev L b env S1
    | .bl false => .ok (.bl false) S1
    | _ => .bad
  | .or a b, env, S => (ev L a env S).bind fun x S1 => match x with
    | .bl true => .ok (.bl true) S1
    | .bl false => ev L b env S1
    | _ => .bad
  | .not a, env, S => (ev L a env S).bind fun x S1 => match x with
    | .bl b => .ok (.bl (!b)) S1
    | _ => .bad
  | .tr a, env, S => (ev L a env S).bind fun x S1 => Out.of ((x.tru S1).map W.bl) S1
  | .ife c a b, env, S => (ev L c env S).bind fun x S1 => match x with
    | .bl true => ev L a env S1
    | .bl false => ev L b env S1
    | _ => .bad
  | .ix a b, env, S => (ev L a env S).bind fun x S1 => (ev L b env S1).bind fun y S2 => Out.of (ixW S2 x y) S2
  | .sl a lo hi, env, S => (ev L a env S).bind fun x S1 => (ev L lo env S1).bind fun l S2 => (ev L hi env S2).bind fun h S3 => Out.of (slW S3 x l h) S3
  | .idx a, env, S => (ev L a env S).bind fun x S1 => match x with
    | .int i => .ok (.int i) S1
    | _ => .bad
  | .fld a f, env, S => (ev L a env S).bind fun x S1 => match x with
    | .ref n => match S1[n]? with
      | some (.ob _ fs) => Out.of (fs.lookup f) S1
      | _ => .bad
    | _ => .bad
  | .call f a b, env, S => (ev L a env S).bind fun y S1 => (ev L b env S1).bind fun z S2 => match y, z with
    | .tup l, .tup l' => C.fn f L (l ++ l') S2
    | _, _ => .bad
  | .meth c f o a b, env, S => (ev L o env S).bind fun x S1 => match x with
    | .ref n => match S1[n]? with
      | some (.ob c' _) => if c' = c then (ev L a env S1).bind fun y S2 => (ev L b env S2).bind fun z S3 => match y, z with
          | .tup l, .tup l' => C.fn f L (.ref n :: (l ++ l')) S3
          | _, _ => .bad
        else .bad
      | _ => .bad
    | _ => .bad
  | .bi b a, env, S => (ev L a env S).bind fun y S1 => match y with
    | .tup l => Out.of (biW S1 b l) S1
    | _ => .bad
  | .mt m o a, env, S => (ev L o env S).bind fun x S1 => if mtT S1 m x = true then (ev L a env S1).bind fun y S2 => match x, y with
    | .ref n, .tup l => match mtW L S2 m n l with
      | some (w, S3) => .ok w S3
      | none => .bad
    | _, _ => .bad
    else .bad
  | .lc k it tg own c e, env, S => (ev L it env S).bind fun x S1 => match items S1 k x with
    | none => .bad
    | some (xs, lk) => (lcL (fun x S => match bindT tg x (wipeE env own) with
        | none => .bad
        | some env' => (ev (lk ++ L) c env' S).calm.bind fun b S1 => match b with
          | .bl true => (ev (lk ++ L) e env' S1).calm.bind fun w S2 => .ok (some w) S2
          | .bl false => .ok none S1
          | _ => .bad) xs S1).bind fun r S2 => if r.length ≤ sixteen then .ok (.lst r) S2 else .bad
  | .srt it e, env, S => (ev L it env S).bind fun x S1 => match x.seqs S1 with
    | none => .bad
    | some xs => match keysL (fun x S => ev L e [some x] S) S1 xs with
      | none => .bad
      | some ks => Out.of ((srtW C.dat xs ks).map .lst) S1
  | .lc2 k it tg own c k1 it1 tg1 own1 c1 e, env, S => (ev L it env S).bind fun x S1 => match items S1 k x with
    | none => .bad
    | some (xs, lk) => (lcL2 (fun x S => match bindT tg x (wipeE env own) with
        | none => .bad
        | some env' => (ev (lk ++ L) c env' S).calm.bind fun b S1 => match b with
          | .bl true => (ev (lk ++ L) it1 env' S1).calm.bind fun y S2 => match items S2 k1 y with
            | none => .bad
            | some (ys, lk1) => lcL (fun y S => match bindT tg1 y (wipeE env' own1) with
              | none => .bad
              | some env2 => (ev (lk1 ++ (lk ++ L)) c1 env2 S).calm.bind fun b S1 => match b with
                | .bl true => (ev (lk1 ++ (lk ++ L)) e env2 S1).calm.bind fun w S2 => .ok (some w) S2
                | .bl false => .ok none S1
                | _ => .bad) ys S2
          | .bl false => .ok [] S1
          | _ => .bad) xs S1).bind fun r S2 => if r.length ≤ sixteen then .ok (.lst r) S2 else .bad

inductive Fl where
  | nx (e : Env) | rt (w : W) | bk (e : Env) | ct (e : Env)
def forL (step : W → Env → Sto → Out Fl) : List W → Env → Sto → Out Fl
  | [], env, S => .ok (.nx env) S
  | x :: xs, env, S => (step x env S).bind fun f S1 => match f with
    | .nx e => forL step xs e S1
    | .ct e => forL step xs e S1
    | .bk e => .ok (.nx e) S1
    | .rt w => .ok (.rt w) S1
def whlL (t : Env → Sto → Out W) (body : Env → Sto → Out Fl) : Nat → Env → Sto → Out Fl
  | 0, _, _ => .bad
  | n + 1, env, S => (t env S).bind fun b S1 => match b with
    | .bl false => .ok (.nx env) S1
    | .bl true => (body env S1).bind fun f S2 => match f with
      | .nx e => whlL t body n e S2
      | .ct e => whlL t body n e S2
      | .bk e => .ok (.nx e) S2
      | .rt w => .ok (.rt w) S2
    | _ => .bad
/-- a run of a statement; N: more than any while turns -/
def exS (N : Nat) (L : List Nat) : MS → Env → Sto → Out Fl
  | .skip, env, S => .ok (.nx env) S
  | .seq a b, env, S => (exS N L a env S).bind fun f S1 => match f with
    | .nx e => exS N L b e S1
    | f => .ok f S1
  | .asg t e, env, S => (ev C L e env S).bind fun w S1 => match bindT t w env with
    | some env' => .ok (.nx env') S1
    | none => .bad
  | .aug i e, env, S => match env[i]? with
    | some (some (.int a)) => (ev C L e env S).bind fun w S1 => match w with
      | .int b => .ok (.nx (env.set i (some (.int (a + b))))) S1
      | _ => .bad
    | _ => .bad
  | .setIx o i v, env, S => (ev C L v env S).bind fun w S1 => (ev C L o env S1).bind fun x S2 => (ev C L i env S2).bind fun y S3 => match x with
    | .ref n => if n ∈ L then .bad else match S3[n]? with
      | some (.lst l) => match y with
        | .int k => match ixNat l.length k with
          | some j => .ok (.nx env) (S3.set n (.lst (l.set j w)))
          | none => .bad
        | _ => .bad
      | _ => match dPut S3 n y w with
        | some S4 => .ok (.nx env) S4
        | none => .bad
    | _ => .bad
  | .setFld o f v, env, S => (ev C L v env S).bind fun w S1 => (ev C L o env S1).bind fun x S2 => match x with
    | .ref n => if n ∈ L then .bad else match S2[n]? with
      | some (.ob c fs) => if fs.length < 1000 then .ok (.nx env) (S2.set n (.ob c (putA f w fs))) else .bad
      | _ => .bad
    | _ => .bad
  | .ex e, env, S => (ev C L e env S).bind fun _ S1 => .ok (.nx env) S1
  | .ret e, env, S => (ev C L e env S).bind fun w S1 => .ok (.rt w) S1
  | .ife c a b, env, S => (ev C L c env S).bind fun x S1 => match x with
    | .bl true => exS N L a env S1
    | .bl false => exS N L b env S1
    | _ => .bad
  | .for_ k it t b, env, S => (ev C L it env S).bind fun x S1 => match items S1 k x with
    | none => .bad
    | some (xs, lk) => forL (fun x env S => match bindT t x env with
      | none => .bad
      | some env' => exS N (lk ++ L) b env' S) xs env S1
  | .whl c b, env, S => whlL (fun env S => ev C L c env S) (fun env S => exS N L b env S) N env S
  | .par i j m, env, S => (ev C L m env S).bind fun w S1 => match w with
    | .tup [a, b] => .ok (.nx ((env.set i (some a)).set j (some b))) S1
    | _ => .bad
  | .rse c, _, S => .ex c none S
  | .rseA c e, env, S => (ev C L e env S).bind fun w S1 => .ex c (some w) S1
  | .cont, env, S => .ok (.ct env) S
  | .brk, env, S => .ok (.bk env) S
/-- a def's body -/
def runB (N k : Nat) (b : MS) : Fn := fun L args S => (exS C N L b (args.map some ++ List.replicate (k - args.length) none) S).bind fun f S1 => match f with
  | .nx _ => .ok .non S1
  | .rt w => .ok w S1
  | _ => .bad
end
end Mi

/-! the small language beside the heap: what stands for what -/
namespace Mi
open PySem PySem.Spec PyProof.Rows L2
/-- the tables of a text: its texts, attributes, the classes' addresses, the code tables that lambdas write -/
structure Tb where
  txs : List Str
  ats : List Str
  cls : List Addr
  obs : List Addr
  tabs : PySem.W.Frag → List (Addr × Str)
structure Tb.Ok (T : Tb) : Prop where
  tn : T.txs.Nodup
  an : T.ats.Nodup
  ts : ∀ s ∈ T.txs, PyData.canLay0 (.str s) = true
  tl : ∀ s ∈ T.txs, s.length ≤ sizeLine
mutual
inductive RW (T : Tb) (K : PySem.W.Frag) (F : Hp) (μ : List Addr) : W → V → Prop
  | non : RW T K F μ .non .non
  | bl (b : Bool) : RW T K F μ (.bl b) (.bl b)
  | int (i : Int) : RW T K F μ (.int i) (.int i)
  | tx {n : Nat} {s : Str} : T.txs[n]? = some s → RW T K F μ (.tx n) (.str s)
  | str (s : Str) : RW T K F μ (.str s) (.str s)
  | tup {ws : List W} {vs : List V} {a : Addr} : SqT K F a vs → (ws.any W.isI = true → F a = some (.tup vs)) → RWs T K F μ ws vs → RW T K F μ (.tup ws) (.ref a)
  | lst {ws : List W} {vs : List V} {a : Addr} : F a = some (.lst vs) → RWs T K F μ ws vs → RW T K F μ (.lst ws) (.ref a)
  | scr {l : List Int} {a : Addr} : SqL K F a (l.map V.int) → RW T K F μ (.scr l) (.ref a)
  | ref {n : Nat} {a : Addr} : μ[n]? = some a → RW T K F μ (.ref n) (.ref a)
inductive RWs (T : Tb) (K : PySem.W.Frag) (F : Hp) (μ : List Addr) : List W → List V → Prop
  | nil : RWs T K F μ [] []
  | cons {w : W} {v : V} {ws : List W} {vs : List V} : RW T K F μ w v → RWs T K F μ ws vs → RWs T K F μ (w :: ws) (v :: vs)
end
/-- a key -/
def RK (T : Tb) : MK → Key → Prop
  | .i i, k => k = .inl i
  | .t n, k => ∃ s, T.txs[n]? = some s ∧ k = .inr s
inductive RKs (T : Tb) : List MK → List Key → Prop
  | nil : RKs T [] []
  | cons {a : MK} {b : Key} {l : List MK} {m : List Key} : RK T a b → RKs T l m → RKs T (a :: l) (b :: m)
/-- what stands at a place of the store -/
def RN (T : Tb) (K : PySem.W.Frag) (F : Hp) (μ : List Addr) : Node → HO → Prop
  | .lst ws, o => ∃ vs, o = .lst vs ∧ RWs T K F μ ws vs
  | .dK l, o => ∃ kvs, o = .dK kvs ∧ Paired (fun (p : MK × W) (q : Key × V) => RK T p.1 q.1 ∧ RW T K F μ p.2 q.2) l kvs
  | .dT l, o => ∃ kvs, o = .dT kvs ∧ Paired (fun (p : List MK × W) (q : List Key × V) => RKs T p.1 q.1 ∧ RW T K F μ p.2 q.2) l kvs
  | .ob c fs, o => ∃ C dx vs, T.obs[c]? = some C ∧ o = .ins C dx vs ∧ Paired (fun (p : Nat × W) (q : Str × V) => T.ats[p.1]? = some q.1 ∧ RW T K F μ p.2 q.2) fs vs
def Node.isD : Node → Bool
  | .dK _ => true
  | .dT _ => true
  | _ => false
/-- the store as it stands in the heap: F what is frozen, μ the places' addresses, L the locked places -/
structure SR (T : Tb) (K : PySem.W.Frag) (L : List Nat) (F H : Hp) (μ : List Addr) (S : Sto) : Prop where
  len : S.length = μ.length
  nd : μ.Nodup
  sub : ∀ a o, F a = some o → H a = some o
  at_ : ∀ (n : Nat) (nd : Node) (a : Addr), S[n]? = some nd → μ[n]? = some a → F a = none ∧ ∃ o, RN T K F μ nd o ∧ (H a = some o ∨ (n ∈ L ∧ nd.isD = true ∧ ∃ od, H a = some (.frz od o)))
  tab : LamX.Tabs (T.tabs K) H
  lb : ∀ n ∈ L, n < S.length
  ft : ∀ a ps, F a ≠ some (.tbl ps)
/-- later on -/
structure Ext (L : List Nat) (F : Hp) (μ : List Addr) (H F' : Hp) (μ' : List Addr) (H' : Hp) : Prop where
  f : ∀ a o, F a = some o → F' a = some o
  m : ∃ more, μ' = μ ++ more
  l : ∀ n ∈ L, ∀ a, μ[n]? = some a → H' a = H a
  o : ∀ b xs, H b = some (.lst xs) → F b = none → b ∉ μ → H' b = some (.lst xs) ∧ F' b = none ∧ b ∉ μ'
  e : ∀ b φ, H b = some (.ext φ) → H' b = some (.ext φ)
theorem Ext.refl {L : List Nat} {F H : Hp} {μ : List Addr} : Ext L F μ H F μ H := ⟨fun _ _ e => e, ⟨[], by simp⟩, fun _ _ _ _ => rfl, fun _ _ e f m => ⟨e, f, m⟩, fun _ _ e => e⟩
theorem get_app {α : Type} {l m : List α} {n : Nat} {a : α} (h : l[n]? = some a) : (l ++ m)[n]? = some a := by
  obtain ⟨h1, _⟩ := List.getElem?_eq_some_iff.mp h
  rw [List.getElem?_append_left h1]; exact h
theorem Ext.trans {L : List Nat} {F F1 F2 H H1 H2 : Hp} {μ μ1 μ2 : List Addr} (a : Ext L F μ H F1 μ1 H1) (b : Ext L F1 μ1 H1 F2 μ2 H2) : Ext L F μ H F2 μ2 H2 := by
  obtain ⟨m1, e1⟩ := a.m
  obtain ⟨m2, e2⟩ := b.m
  refine ⟨fun x o e => b.f x o (a.f x o e), ⟨m1 ++ m2, by rw [e2, e1, List.append_assoc]⟩, fun n hn x hx => ?_, fun y xs e f m => by
    obtain ⟨h1, h2, h3⟩ := a.o y xs e f m
    exact b.o y xs h1 h2 h3, fun y φ e => b.e y φ (a.e y φ e)⟩
  rw [b.l n hn x (by rw [e1]; exact get_app hx), a.l n hn x hx]
section
variable {T : Tb} {K : PySem.W.Frag} {F F' H H' : Hp} {μ μ' : List Addr} {L : List Nat}
theorem sqT_mono {a : Addr} {vs : List V} (h : SqT K F a vs) (f : ∀ a o, F a = some o → F' a = some o) : SqT K F' a vs := by
  rcases h with (h | ⟨o, h⟩) | h
  · exact .inl (.inl (f _ _ h))
  · exact .inl (.inr ⟨o, f _ _ h⟩)
  · exact .inr h
theorem sqL_mono {a : Addr} {vs : List V} (h : SqL K F a vs) (f : ∀ a o, F a = some o → F' a = some o) : SqL K F' a vs := by
  rcases h with (h | ⟨o, h⟩) | h
  · exact .inl (.inl (f _ _ h))
  · exact .inl (.inr ⟨o, f _ _ h⟩)
  · exact .inr h
mutual
theorem RW.mono (f : ∀ a o, F a = some o → F' a = some o) (m : ∃ more, μ' = μ ++ more) : ∀ {w : W} {v : V}, RW T K F μ w v → RW T K F' μ' w v
  | _, _, .non => .non
  | _, _, .bl b => .bl b
  | _, _, .int i => .int i
  | _, _, .tx e => .tx e
  | _, _, .str s => .str s
  | _, _, .tup h q r => .tup (sqT_mono h f) (fun z => f _ _ (q z)) (RWs.mono f m r)
  | _, _, .lst h r => .lst (f _ _ h) (RWs.mono f m r)
  | _, _, .scr h => .scr (sqL_mono h f)
  | _, _, .ref e => .ref (by obtain ⟨more, rfl⟩ := m; exact get_app e)
theorem RWs.mono (f : ∀ a o, F a = some o → F' a = some o) (m : ∃ more, μ' = μ ++ more) : ∀ {ws : List W} {vs : List V}, RWs T K F μ ws vs → RWs T K F' μ' ws vs
  | _, _, .nil => .nil
  | _, _, .cons h r => .cons (RW.mono f m h) (RWs.mono f m r)
end
theorem RW.ext (x : Ext L F μ H F' μ' H') {w : W} {v : V} (r : RW T K F μ w v) : RW T K F' μ' w v := r.mono x.f x.m
theorem RWs.ext (x : Ext L F μ H F' μ' H') {w : List W} {v : List V} (r : RWs T K F μ w v) : RWs T K F' μ' w v := r.mono x.f x.m
theorem RWs.length : ∀ {ws : List W} {vs : List V}, RWs T K F μ ws vs → ws.length = vs.length
  | _, _, .nil => rfl
  | _, _, .cons _ r => congrArg Nat.succ r.length
theorem RWs.get : ∀ {ws : List W} {vs : List V} {i : Nat} {w : W}, RWs T K F μ ws vs → ws[i]? = some w → ∃ v, vs[i]? = some v ∧ RW T K F μ w v
  | _, _, i, _, .nil, h => by simp at h
  | _, _, 0, _, .cons r _, h => by simp at h; subst h; exact ⟨_, rfl, r⟩
  | _, _, i + 1, _, .cons _ r, h => by
    obtain ⟨v, e, q⟩ := RWs.get (i := i) r (by simpa using h)
    exact ⟨v, by simpa using e, q⟩
theorem RWs.get' : ∀ {ws : List W} {vs : List V} {i : Nat} {v : V}, RWs T K F μ ws vs → vs[i]? = some v → ∃ w, ws[i]? = some w ∧ RW T K F μ w v
  | _, _, i, _, .nil, h => by simp at h
  | _, _, 0, _, .cons r _, h => by simp at h; subst h; exact ⟨_, rfl, r⟩
  | _, _, i + 1, _, .cons _ r, h => by
    obtain ⟨v, e, q⟩ := RWs.get' (i := i) r (by simpa using h)
    exact ⟨v, by simpa using e, q⟩
theorem RWs.append : ∀ {ws xs : List W} {vs ys : List V}, RWs T K F μ ws vs → RWs T K F μ xs ys → RWs T K F μ (ws ++ xs) (vs ++ ys)
  | _, _, _, _, .nil, s => s
  | _, _, _, _, .cons r t, s => .cons r (t.append s)
theorem RWs.take : ∀ {ws : List W} {vs : List V} (n : Nat), RWs T K F μ ws vs → RWs T K F μ (ws.take n) (vs.take n)
  | _, _, 0, _ => .nil
  | _, _, n + 1, .nil => .nil
  | _, _, n + 1, .cons r t => .cons r (t.take n)
theorem RWs.drop : ∀ {ws : List W} {vs : List V} (n : Nat), RWs T K F μ ws vs → RWs T K F μ (ws.drop n) (vs.drop n)
  | _, _, 0, r => r
  | _, _, n + 1, .nil => .nil
  | _, _, n + 1, .cons r t => t.drop n
theorem RWs.set : ∀ {ws : List W} {vs : List V} {w : W} {v : V} (n : Nat), RWs T K F μ ws vs → RW T K F μ w v → RWs T K F μ (ws.set n w) (vs.set n v)
  | _, _, _, _, _, .nil, _ => .nil
  | _, _, _, _, 0, .cons r t, q => .cons q t
  | _, _, _, _, n + 1, .cons r t, q => .cons r (t.set n q)
theorem RWs.rep {ws : List W} {vs : List V} (r : RWs T K F μ ws vs) : ∀ k : Nat, RWs T K F μ (List.replicate k ws).flatten (List.replicate k vs).flatten
  | 0 => .nil
  | k + 1 => by
    rw [List.replicate_succ, List.replicate_succ, List.flatten_cons, List.flatten_cons]
    exact r.append (r.rep k)
theorem RWs.paired : ∀ {ws : List W} {vs : List V}, Paired (RW T K F μ) ws vs → RWs T K F μ ws vs
  | _, _, .nil => .nil
  | _, _, .cons h t => .cons h (RWs.paired t)
theorem Paired.mapQ {α β : Type} {F G : α → β → Prop} (f : ∀ a b, F a b → G a b) : ∀ {l₁ : List α} {l₂ : List β}, Paired F l₁ l₂ → Paired G l₁ l₂
  | _, _, .nil => .nil
  | _, _, .cons r t => .cons (f _ _ r) (Paired.mapQ f t)
theorem RN.mono (f : ∀ a o, F a = some o → F' a = some o) (m : ∃ more, μ' = μ ++ more) : ∀ {n : Node} {o : HO}, RN T K F μ n o → RN T K F' μ' n o
  | .lst _, _, ⟨vs, e, r⟩ => ⟨vs, e, r.mono f m⟩
  | .dK _, _, ⟨kvs, e, r⟩ => ⟨kvs, e, Paired.mapQ (fun _ _ q => ⟨q.1, q.2.mono f m⟩) r⟩
  | .dT _, _, ⟨kvs, e, r⟩ => ⟨kvs, e, Paired.mapQ (fun _ _ q => ⟨q.1, q.2.mono f m⟩) r⟩
  | .ob _ _, _, ⟨C, dx, vs, h, e, r⟩ => ⟨C, dx, vs, h, e, Paired.mapQ (fun _ _ q => ⟨q.1, q.2.mono f m⟩) r⟩
theorem RN.mut {n : Node} {o : HO} (r : RN T K F μ n o) : Mut (some o) ∧ (∀ xs, o ≠ .tup xs) ∧ (∀ ps, o ≠ .tbl ps) ∧ ∀ a, o ≠ .own a := by
  cases n with
  | lst l => obtain ⟨vs, rfl, _⟩ := r; exact ⟨trivial, fun _ z => (nomatch z), fun _ z => (nomatch z), fun _ z => (nomatch z)⟩
  | dK l => obtain ⟨vs, rfl, _⟩ := r; exact ⟨trivial, fun _ z => (nomatch z), fun _ z => (nomatch z), fun _ z => (nomatch z)⟩
  | dT l => obtain ⟨vs, rfl, _⟩ := r; exact ⟨trivial, fun _ z => (nomatch z), fun _ z => (nomatch z), fun _ z => (nomatch z)⟩
  | ob c fs => obtain ⟨_, _, vs, _, rfl, _⟩ := r; exact ⟨trivial, fun _ z => (nomatch z), fun _ z => (nomatch z), fun _ z => (nomatch z)⟩
theorem RN.noext {n : Node} {o : HO} (r : RN T K F μ n o) (φ : Heap → Prop) : o ≠ .ext φ := by
  cases n with
  | lst l => obtain ⟨vs, rfl, _⟩ := r; exact fun z => nomatch z
  | dK l => obtain ⟨vs, rfl, _⟩ := r; exact fun z => nomatch z
  | dT l => obtain ⟨vs, rfl, _⟩ := r; exact fun z => nomatch z
  | ob c fs => obtain ⟨_, _, vs, _, rfl, _⟩ := r; exact fun z => nomatch z
section
variable {S : Sto}
/-- a new frozen object -/
theorem SR.froze (s : SR T K L F H μ S) {p : Addr} (hp : H p = none) {o : HO} (ho : ∀ ps, o ≠ .tbl ps := by intro ps z; cases z) : SR T K L (upd F p o) (upd H p o) μ S ∧ Ext L F μ H (upd F p o) μ (upd H p o) := by
  have fp : F p = none := by
    cases e : F p with
    | none => rfl
    | some o => rw [s.sub p o e] at hp; cases hp
  have fne : ∀ a o', F a = some o' → a ≠ p := fun a o' e z => by rw [z, fp] at e; cases e
  have hne : ∀ a o', H a = some o' → a ≠ p := fun a o' e z => by rw [z, hp] at e; cases e
  have x : Ext L F μ H (upd F p o) μ (upd H p o) := by
    refine ⟨fun a o' e => by rw [upd_ne (fne a o' e)]; exact e, ⟨[], by simp⟩, fun n hn a ha => ?_, fun b xs e f m => ⟨by rw [upd_ne (hne b _ e)]; exact e, by rw [upd_ne (hne b _ e)]; exact f, m⟩, fun b φ e => by rw [upd_ne (hne b _ e)]; exact e⟩
    by_cases hz : a = p
    · have hlt : n < S.length := by rw [s.len]; exact (List.getElem?_eq_some_iff.mp ha).1
      obtain ⟨_, o', _, h⟩ := s.at_ n S[n] a (List.getElem?_eq_getElem hlt) ha
      rcases h with h | ⟨_, _, od, h⟩ <;> (rw [hz, hp] at h; cases h)
    · rw [upd_ne hz]
  refine ⟨⟨s.len, s.nd, fun a o' e => ?_, fun n nd a e1 e2 => ?_, ?_, ?_, fun a ps => ?_⟩, x⟩
  · by_cases hz : a = p
    · subst hz; rw [upd_same] at e ⊢; exact e
    · rw [upd_ne hz] at e ⊢; exact s.sub a o' e
  · obtain ⟨h1, o', h2, h3⟩ := s.at_ n nd a e1 e2
    have na : a ≠ p := by
      rcases h3 with h | ⟨_, _, od, h⟩ <;> exact hne _ _ h
    refine ⟨by rw [upd_ne na]; exact h1, o', h2.mono x.f x.m, ?_⟩
    rw [upd_ne na]; exact h3
  · exact s.tab.ext fun b o' e => by rw [upd_ne (hne b o' e)]; exact e
  · exact s.lb
  · by_cases hz : a = p
    · subst hz; rw [upd_same]; exact fun z => ho ps (Option.some.inj z)
    · rw [upd_ne hz]; exact s.ft a ps
/-- a new place -/
theorem SR.newAt (s : SR T K L F H μ S) {p : Addr} (hp : H p = none) {o : HO} {nd : Node} (r : RN T K F (μ ++ [p]) nd o) : SR T K L F (upd H p o) (μ ++ [p]) (S ++ [nd]) ∧ Ext L F μ H F (μ ++ [p]) (upd H p o) ∧ (μ ++ [p])[S.length]? = some p := by
  have fp : F p = none := by
    cases e : F p with
    | none => rfl
    | some o => rw [s.sub p o e] at hp; cases hp
  have hne : ∀ a o', H a = some o' → a ≠ p := fun a o' e z => by rw [z, hp] at e; cases e
  have mne : ∀ n a, μ[n]? = some a → a ≠ p := fun n a ha z => by
    have hlt : n < S.length := by rw [s.len]; exact (List.getElem?_eq_some_iff.mp ha).1
    obtain ⟨_, o', _, h⟩ := s.at_ n S[n] a (List.getElem?_eq_getElem hlt) ha
    rcases h with h | ⟨_, _, od, h⟩ <;> (rw [z, hp] at h; cases h)
  have hg : (μ ++ [p])[S.length]? = some p := by rw [s.len]; simp
  refine ⟨⟨by simp [s.len], ?_, fun a o' e => ?_, fun n nd' a e1 e2 => ?_, s.tab.ext fun b o' e => by rw [upd_ne (hne b o' e)]; exact e, fun n hn => by have := s.lb n hn; simp; omega, s.ft⟩, ⟨fun _ _ e => e, ⟨[p], rfl⟩, fun n hn a ha => by rw [upd_ne (mne n a ha)], fun b xs e f m => ⟨by rw [upd_ne (hne b _ e)]; exact e, f, fun z => by
    rcases List.mem_append.mp z with z | z
    · exact m z
    · exact hne b _ e (by simpa using z)⟩, fun b φ e => by rw [upd_ne (hne b _ e)]; exact e⟩, hg⟩
  · refine List.nodup_append.mpr ⟨s.nd, by simp, fun a ha b hb => ?_⟩
    have : b = p := by simpa using hb
    subst this
    obtain ⟨n, hn⟩ := List.getElem?_of_mem ha
    exact mne n a hn
  · have na : a ≠ p := fun z => by rw [z, fp] at e; cases e
    rw [upd_ne na]; exact s.sub a o' e
  · by_cases hn : n < S.length
    · rw [List.getElem?_append_left hn] at e1
      rw [List.getElem?_append_left (by rw [← s.len]; exact hn)] at e2
      obtain ⟨h1, o', h2, h3⟩ := s.at_ n nd' a e1 e2
      refine ⟨h1, o', h2.mono (fun _ _ e => e) ⟨[p], rfl⟩, ?_⟩
      rw [upd_ne (mne n a e2)]; exact h3
    · have hlt := (List.getElem?_eq_some_iff.mp e1).1
      have en : n = S.length := by simp at hlt; omega
      subst en
      rw [hg] at e2; cases e2
      have : nd' = nd := by simpa using e1.symm
      subst this
      exact ⟨fp, o, r, .inl upd_same⟩
/-- a place changes -/
theorem SR.put (s : SR T K L F H μ S) {n : Nat} {a : Addr} {o : HO} {nd old : Node} (hn : n ∉ L) (e : S[n]? = some old) (ha : μ[n]? = some a) (r : RN T K F μ nd o) : SR T K L F (upd H a o) μ (S.set n nd) ∧ Ext L F μ H F μ (upd H a o) := by
  have hlt : n < S.length := (List.getElem?_eq_some_iff.mp e).1
  obtain ⟨fa, o0, r0, h0⟩ := s.at_ n old a e ha
  have mne : ∀ m b, m ≠ n → μ[m]? = some b → b ≠ a := fun m b hm hb z => by
    subst z
    obtain ⟨h1, e1⟩ := List.getElem?_eq_some_iff.mp hb
    obtain ⟨h2, e2⟩ := List.getElem?_eq_some_iff.mp ha
    exact hm ((List.getElem_inj s.nd).mp (e1.trans e2.symm))
  refine ⟨⟨by simp [s.len], s.nd, fun b o' eb => ?_, fun m nd' b e1 e2 => ?_, ?_, fun m hm => by simpa using s.lb m hm, s.ft⟩, ⟨fun _ _ e => e, ⟨[], by simp⟩, fun m hm b hb => ?_, fun b xs eb fb mb => ⟨by rw [upd_ne (fun z => mb (by rw [z]; exact List.mem_of_getElem? ha))]; exact eb, fb, mb⟩, fun b φ eb => ?_⟩⟩
  · have nb : b ≠ a := fun z => by rw [z, fa] at eb; cases eb
    rw [upd_ne nb]; exact s.sub b o' eb
  · by_cases hm : m = n
    · subst hm
      rw [List.getElem?_set_self hlt] at e1; cases e1
      rw [ha] at e2; cases e2
      exact ⟨fa, o, r, .inl upd_same⟩
    · rw [List.getElem?_set_ne (Ne.symm hm)] at e1
      rw [upd_ne (mne m b hm e2)]
      exact s.at_ m nd' b e1 e2
  · have h0' : H a = some o0 := by
      rcases h0 with h | ⟨z, _⟩
      · exact h
      · exact absurd z hn
    refine fun p hp => ?_
    obtain ⟨ps, h1, h2, h3⟩ := s.tab p hp
    have n1 : p.1 ≠ a := fun z => by rw [z, h0'] at h1; exact r0.mut.2.2.1 ps (Option.some.inj h1)
    refine ⟨ps, by rw [upd_ne n1]; exact h1, h2, fun q cv hc => ?_⟩
    obtain ⟨c, e1, e2⟩ := h3 q cv hc
    have n2 : c ≠ a := fun z => by
      rw [z, h0'] at e2
      have := r0.mut.1
      have e3 := Option.some.inj e2
      cases old with
      | lst l => obtain ⟨vs, rfl, _⟩ := r0; unfold LamX.CodeO at e3; cases e3
      | dK l => obtain ⟨vs, rfl, _⟩ := r0; unfold LamX.CodeO at e3; cases e3
      | dT l => obtain ⟨vs, rfl, _⟩ := r0; unfold LamX.CodeO at e3; cases e3
      | ob c fs => obtain ⟨_, _, vs, _, rfl, _⟩ := r0; unfold LamX.CodeO at e3; cases e3
    exact ⟨c, e1, by rw [upd_ne n2]; exact e2⟩
  · by_cases hmn : m = n
    · subst hmn; exact absurd hm hn
    · rw [upd_ne (mne m b hmn hb)]
  · have h0' : H a = some o0 := by
      rcases h0 with h | ⟨z, _⟩
      · exact h
      · exact absurd z hn
    rw [upd_ne fun z => by
      rw [z, h0'] at eb
      have := Option.some.inj eb
      exact r0.noext φ this]
    exact eb
/-- what stands at a place that is not locked -/
theorem SR.get (s : SR T K L F H μ S) {n : Nat} {nd : Node} (e : S[n]? = some nd) : ∃ a o, μ[n]? = some a ∧ F a = none ∧ RN T K F μ nd o ∧ (n ∉ L → H a = some o) ∧ Rd H a o := by
  have hlt : n < μ.length := by rw [← s.len]; exact (List.getElem?_eq_some_iff.mp e).1
  obtain ⟨h1, o, h2, h3⟩ := s.at_ n nd μ[n] e (List.getElem?_eq_getElem hlt)
  refine ⟨_, o, List.getElem?_eq_getElem hlt, h1, h2, fun hn => ?_, ?_⟩
  · rcases h3 with h | ⟨z, _⟩
    · exact h
    · exact absurd z hn
  · rcases h3 with h | ⟨_, _, od, h⟩
    · exact .inl h
    · exact .inr ⟨od, h⟩
end
end
/-- the slots -/
structure ER (T : Tb) (K : PySem.W.Frag) (F : Hp) (μ : List Addr) (env : Env) (σ : L2.St) : Prop where
  len : env.length = σ.length
  at_ : ∀ (i : Nat) (w : W), env[i]? = some (some w) → ∃ v, σ[i]? = some (some v) ∧ RW T K F μ w v
section
variable {T : Tb} {K : PySem.W.Frag} {F F' H H' : Hp} {μ μ' : List Addr} {L : List Nat} {env : Env} {σ : L2.St}
theorem ER.ext (r : ER T K F μ env σ) (x : Ext L F μ H F' μ' H') : ER T K F' μ' env σ := ⟨r.len, fun i w e => by
  obtain ⟨v, h1, h2⟩ := r.at_ i w e
  exact ⟨v, h1, h2.ext x⟩⟩
theorem ER.set (r : ER T K F μ env σ) {i : Nat} {w : W} {v : V} (q : RW T K F μ w v) : ER T K F μ (env.set i (some w)) (σ.set i (some v)) := by
  refine ⟨by simpa using r.len, fun j w' e => ?_⟩
  by_cases hj : i = j
  · subst hj
    have hlt : i < env.length := by
      have := (List.getElem?_eq_some_iff.mp e).1
      simpa using this
    rw [List.getElem?_set_self hlt] at e
    cases e
    exact ⟨v, by rw [List.getElem?_set_self (by rw [← r.len]; exact hlt)], q⟩
  · rw [List.getElem?_set_ne hj] at e
    rw [List.getElem?_set_ne hj]
    exact r.at_ j w' e
theorem ER.unset (r : ER T K F μ env σ) (i : Nat) : ER T K F μ (env.set i none) (σ.set i none) := by
  refine ⟨by simpa using r.len, fun j w' e => ?_⟩
  by_cases hj : i = j
  · subst hj
    have hlt : i < env.length := by
      have := (List.getElem?_eq_some_iff.mp e).1
      simpa using this
    rw [List.getElem?_set_self hlt] at e
    cases e
  · rw [List.getElem?_set_ne hj] at e
    rw [List.getElem?_set_ne hj]
    exact r.at_ j w' e
theorem ER.wipe (r : ER T K F μ env σ) : ∀ vs : List Nat, ER T K F μ (wipeE env vs) (wipe σ vs)
  | [] => r
  | v :: vs => (r.wipe vs).unset v
end
/-! ### readings -/
/-- what is wanted of an exception -/
def XR (T : Tb) (K : PySem.W.Frag) (L : List Nat) (F : Hp) (μ : List Addr) (H : Hp) (E : XK) (c : Nat) (p : Option W) (S' : Sto) : Prop :=
  ∀ (F' : Hp) (μ' : List Addr) (H' : Hp) (C : Addr) (d : Option Addr), Ext L F μ H F' μ' H' → SR T K L F' H' μ' S' → T.cls[c]? = some C →
    (∀ w, p = some w → ∃ dx a v, d = some dx ∧ H' dx = some (.xd [(a, v)]) ∧ RW T K F' μ' w v) → E (.ref C) d H'
def OR {α β : Type} (T : Tb) (K : PySem.W.Frag) (E : XK) (L : List Nat) (F : Hp) (μ : List Addr) (H : Hp) (o : Out α) (R : Hp → List Addr → α → β → Prop) (Q : β → Hp → Prop) : Prop := match o with
  | .ok w S' => ∀ F' μ' H' v, Ext L F μ H F' μ' H' → SR T K L F' H' μ' S' → R F' μ' w v → Q v H'
  | .ex c p S' => XR T K L F μ H E c p S'
  | .bad => False
/-- from later on -/
theorem OR.later {α β : Type} {T : Tb} {K : PySem.W.Frag} {E : XK} {L : List Nat} {F F1 H H1 : Hp} {μ μ1 : List Addr} {o : Out α} {R : Hp → List Addr → α → β → Prop} {Q : β → Hp → Prop} (x : Ext L F μ H F1 μ1 H1) (h : OR T K E L F μ H o R Q) : OR T K E L F1 μ1 H1 o R Q := by
  cases o with
  | ok w S' => exact fun F' μ' H' v x' s r => h F' μ' H' v (x.trans x') s r
  | ex c p S' => exact fun F' μ' H' C d x' s => h F' μ' H' C d (x.trans x') s
  | bad => exact h
abbrev RWv (T : Tb) (K : PySem.W.Frag) : Hp → List Addr → W → V → Prop := fun F μ => RW T K F μ
section
variable (T : Tb) (C : Ctx) (K : PySem.W.Frag) (E : XK)
def tI (m : M) : TE := fun σ H Q => ∃ L F μ S env, SR T K L F H μ S ∧ ER T K F μ env σ ∧ OR T K E L F μ H (ev C L m env S) (RWv T K) Q
def tT (m : M) : TT := fun σ H Q => ∃ L F μ S env, SR T K L F H μ S ∧ ER T K F μ env σ ∧ OR T K E L F μ H (ev C L m env S) (fun _ _ w b => w = .bl b) Q
def tA (m : M) : TA := fun σ H Q => ∃ L F μ S env, SR T K L F H μ S ∧ ER T K F μ env σ ∧ OR T K E L F μ H (ev C L m env S) (fun F' μ' w vs => ∃ ws, w = .tup ws ∧ RWs T K F' μ' ws vs) Q
def FR (L : List Nat) (F : Hp) (μ : List Addr) (H : Hp) (o : Out Fl) (D : Ends) : Prop := match o with
  | .ok (.nx e) S' => ∀ F' μ' H' σ', Ext L F μ H F' μ' H' → SR T K L F' H' μ' S' → ER T K F' μ' e σ' → D.nx σ' H'
  | .ok (.bk e) S' => ∀ F' μ' H' σ', Ext L F μ H F' μ' H' → SR T K L F' H' μ' S' → ER T K F' μ' e σ' → D.bk σ' H'
  | .ok (.ct e) S' => ∀ F' μ' H' σ', Ext L F μ H F' μ' H' → SR T K L F' H' μ' S' → ER T K F' μ' e σ' → D.ct σ' H'
  | .ok (.rt w) S' => ∀ F' μ' H' v, Ext L F μ H F' μ' H' → SR T K L F' H' μ' S' → RW T K F' μ' w v → D.rt v H'
  | .ex c p S' => XR T K L F μ H E c p S'
  | .bad => False
def tS (N : Nat) (m : MS) : TS := fun D σ H => ∃ L F μ S env, SR T K L F H μ S ∧ ER T K F μ env σ ∧ FR T K E L F μ H (exS C N L m env S) D
/-- a def's promise: it does as f -/
def spF (f : Fn) : Sp := fun vs H Q E => ∃ L F μ S ws, SR T K L F H μ S ∧ RWs T K F μ ws vs ∧ OR T K E L F μ H (f L ws S) (RWv T K) Q
end
theorem FR.later {T : Tb} {K : PySem.W.Frag} {E : XK} {L : List Nat} {F F1 H H1 : Hp} {μ μ1 : List Addr} {o : Out Fl} {D : Ends} (x : Ext L F μ H F1 μ1 H1) (h : FR T K E L F μ H o D) : FR T K E L F1 μ1 H1 o D := by
  cases o with
  | ok w S' => cases w with
    | nx e => exact fun F' μ' H' v x' s r => h F' μ' H' v (x.trans x') s r
    | rt e => exact fun F' μ' H' v x' s r => h F' μ' H' v (x.trans x') s r
    | bk e => exact fun F' μ' H' v x' s r => h F' μ' H' v (x.trans x') s r
    | ct e => exact fun F' μ' H' v x' s r => h F' μ' H' v (x.trans x') s r
  | ex c p S' => exact fun F' μ' H' C d x' s => h F' μ' H' C d (x.trans x') s
  | bad => exact h
end Mi

/-! the expressions of the small language keep what the text does: one lemma a form -/
namespace Mi
open PySem PySem.Spec PyProof.Rows L2
theorem _root_.L2.PE.imp {X : Cx} {e : Expr} {t t' : TE} (h : PE X e t) (i : ∀ σ H Q, t' σ H Q → t σ H Q) : PE X e t' := ⟨fun pins s σ H Q I q => h.run pins s σ H Q I (i σ H Q q)⟩
theorem _root_.L2.PT.imp {X : Cx} {e : Expr} {t t' : TT} (h : PT X e t) (i : ∀ σ H Q, t' σ H Q → t σ H Q) : PT X e t' := ⟨fun pins s σ H Q I q => h.run pins s σ H Q I (i σ H Q q)⟩
theorem _root_.L2.PW.imp {X : Cx} {e : Expr} {t t' : TT} (h : PW X e t) (i : ∀ σ H Q, t' σ H Q → t σ H Q) : PW X e t' := ⟨fun wh pins s σ H Q I q => h.run wh pins s σ H Q I (i σ H Q q)⟩
theorem _root_.L2.PA.imp {X : Cx} {e : List Expr} {t t' : TA} (h : PA X e t) (i : ∀ σ H Q, t' σ H Q → t σ H Q) : PA X e t' := ⟨fun pos pins s σ H Q I q => h.run pos pins s σ H Q I (i σ H Q q)⟩
theorem _root_.L2.PS.imp {X : Cx} {e : Stmt} {t t' : TS} (h : PS X e t) (i : ∀ D σ H, t' D σ H → t D σ H) : PS X e t' := ⟨fun pins s σ H Q I q => h.run pins s σ H Q I (i Q σ H q)⟩
theorem _root_.L2.PSs.imp {X : Cx} {e : List Stmt} {t t' : TS} (h : PSs X e t) (i : ∀ D σ H, t' D σ H → t D σ H) : PSs X e t' := ⟨fun pins s σ H Q I q => h.run pins s σ H Q I (i Q σ H q)⟩
section
variable {T : Tb} {C : Ctx} {K : PySem.W.Frag} {E : XK} {L : List Nat} {F H : Hp} {μ : List Addr} {S : Sto} {env : Env} {σ : L2.St}
/-- one after another -/
theorem tI_seq {α β : Type} {a : M} {f : W → Sto → Out α} {R : Hp → List Addr → α → β → Prop} {Q : β → Hp → Prop} {Q' : VK} (sr : SR T K L F H μ S) (er : ER T K F μ env σ) (h : OR T K E L F μ H ((ev C L a env S).bind f) R Q)
    (k : ∀ F1 μ1 H1 S1 w x, Ext L F μ H F1 μ1 H1 → SR T K L F1 H1 μ1 S1 → ER T K F1 μ1 env σ → RW T K F1 μ1 w x → OR T K E L F1 μ1 H1 (f w S1) R Q → Q' x H1) : tI T C K E a σ H Q' := by
  refine ⟨L, F, μ, S, env, sr, er, ?_⟩
  cases e : ev C L a env S with
  | ok w S1 =>
    rw [e] at h
    exact fun F1 μ1 H1 v x s r => k F1 μ1 H1 S1 w v x s (er.ext x) r (OR.later x h)
  | ex c p S1 => rw [e] at h; exact h
  | bad => rw [e] at h; exact h
theorem tT_seq {α β : Type} {a : M} {f : W → Sto → Out α} {R : Hp → List Addr → α → β → Prop} {Q : β → Hp → Prop} {Q' : Bool → Hp → Prop} (sr : SR T K L F H μ S) (er : ER T K F μ env σ) (h : OR T K E L F μ H ((ev C L a env S).bind f) R Q)
    (k : ∀ F1 μ1 H1 S1 b, Ext L F μ H F1 μ1 H1 → SR T K L F1 H1 μ1 S1 → ER T K F1 μ1 env σ → OR T K E L F1 μ1 H1 (f (.bl b) S1) R Q → Q' b H1) : tT T C K E a σ H Q' := by
  refine ⟨L, F, μ, S, env, sr, er, ?_⟩
  cases e : ev C L a env S with
  | ok w S1 =>
    rw [e] at h
    intro F1 μ1 H1 v x s r
    subst r
    exact k F1 μ1 H1 S1 v x s (er.ext x) (OR.later x h)
  | ex c p S1 => rw [e] at h; exact h
  | bad => rw [e] at h; exact h
theorem tA_seq {α β : Type} {a : M} {f : W → Sto → Out α} {R : Hp → List Addr → α → β → Prop} {Q : β → Hp → Prop} {Q' : List V → Hp → Prop} (sr : SR T K L F H μ S) (er : ER T K F μ env σ) (h : OR T K E L F μ H ((ev C L a env S).bind f) R Q)
    (k : ∀ F1 μ1 H1 S1 ws xs, Ext L F μ H F1 μ1 H1 → SR T K L F1 H1 μ1 S1 → ER T K F1 μ1 env σ → RWs T K F1 μ1 ws xs → OR T K E L F1 μ1 H1 (f (.tup ws) S1) R Q → Q' xs H1) : tA T C K E a σ H Q' := by
  refine ⟨L, F, μ, S, env, sr, er, ?_⟩
  cases e : ev C L a env S with
  | ok w S1 =>
    rw [e] at h
    rintro F1 μ1 H1 v x s ⟨ws, rfl, r⟩
    exact k F1 μ1 H1 S1 ws v x s (er.ext x) r (OR.later x h)
  | ex c p S1 => rw [e] at h; exact h
  | bad => rw [e] at h; exact h
theorem OR.fin {w : W} {v : V} {Q : VK} (h : OR T K E L F μ H (.ok w S) (RWv T K) Q) (sr : SR T K L F H μ S) (r : RW T K F μ w v) : Q v H := h F μ H v .refl sr r
theorem OR.newL {ws : List W} {vs : List V} {Q : VK} (h : OR T K E L F μ H (.ok (.lst ws) S) (RWv T K) Q) (sr : SR T K L F H μ S) (r : RWs T K F μ ws vs) (p : Addr) (hp : H p = none) : Q (.ref p) (upd H p (.lst vs)) := by
  obtain ⟨s, x⟩ := sr.froze hp (o := .lst vs)
  exact h _ μ _ _ x s (.lst upd_same (r.ext x))
theorem OR.newT {ws : List W} {vs : List V} {Q : VK} (h : OR T K E L F μ H (.ok (.tup ws) S) (RWv T K) Q) (sr : SR T K L F H μ S) (r : RWs T K F μ ws vs) (p : Addr) (hp : H p = none) : Q (.ref p) (upd H p (.tup vs)) := by
  obtain ⟨s, x⟩ := sr.froze hp (o := .tup vs)
  exact h _ μ _ _ x s (.tup (.inl (.inl upd_same)) (fun _ => upd_same) (r.ext x))
/-! ### values by their form -/
theorem RW.int_inv {i : Int} {v : V} (r : RW T K F μ (.int i) v) : v = .int i := by cases r; rfl
theorem RW.bl_inv {i : Bool} {v : V} (r : RW T K F μ (.bl i) v) : v = .bl i := by cases r; rfl
theorem RW.non_inv {v : V} (r : RW T K F μ .non v) : v = .non := by cases r; rfl
theorem RW.tup_inv {l : List W} {v : V} (r : RW T K F μ (.tup l) v) : ∃ vs a, v = .ref a ∧ SqT K F a vs ∧ (l.any W.isI = true → F a = some (.tup vs)) ∧ RWs T K F μ l vs := by cases r with | tup h z q => exact ⟨_, _, rfl, h, z, q⟩
theorem RW.lst_inv {l : List W} {v : V} (r : RW T K F μ (.lst l) v) : ∃ vs a, v = .ref a ∧ F a = some (.lst vs) ∧ RWs T K F μ l vs := by cases r with | lst h q => exact ⟨_, _, rfl, h, q⟩
theorem RW.ref_inv {n : Nat} {v : V} (r : RW T K F μ (.ref n) v) : ∃ a, v = .ref a ∧ μ[n]? = some a := by cases r with | ref h => exact ⟨_, rfl, h⟩
theorem SR.sqT (sr : SR T K L F H μ S) {a : Addr} {vs : List V} (h : SqT K F a vs) : SqT K H a vs := sqT_mono h sr.sub
theorem SR.sqL (sr : SR T K L F H μ S) {a : Addr} {vs : List V} (h : SqL K F a vs) : SqL K H a vs := sqL_mono h sr.sub
/-- a list, frozen or in the store -/
theorem lis_ok (sr : SR T K L F H μ S) {w : W} {l : List W} {v : V} (e : w.lis S = some l) (r : RW T K F μ w v) : ∃ vs a, v = .ref a ∧ H a = some (.lst vs) ∧ RWs T K F μ l vs := by
  cases w with
  | lst m =>
    obtain ⟨vs, a, rfl, h, q⟩ := r.lst_inv
    have : m = l := by simpa [W.lis] using e
    subst this
    exact ⟨vs, a, rfl, sr.sub _ _ h, q⟩
  | ref n =>
    obtain ⟨a, rfl, ha⟩ := r.ref_inv
    simp only [W.lis] at e
    split at e
    · rename_i m hm
      cases e
      obtain ⟨_, o, ⟨vs, rfl, q⟩, ho⟩ := sr.at_ n _ a hm ha
      rcases ho with h | ⟨_, z, _⟩
      · exact ⟨vs, a, rfl, h, q⟩
      · cases z
    · cases e
  | _ => simp [W.lis] at e
end
end Mi

/-! operators by values -/
namespace Mi
open PySem PySem.Spec PyProof.Rows L2
theorem sixteen_eq : sixteen = sizeLine := rfl
/-! ### data -/
mutual
def W.toD (T : Tb) : W → PyData
  | .non => .none
  | .bl b => .bool b
  | .int i => .int i
  | .tx n => .str (T.txs.getD n Str.empty)
  | .str s => .str s
  | .tup l => .tuple (W.toDs T l)
  | .lst l => .list (W.toDs T l)
  | .scr _ => .none
  | .ref _ => .none
def W.toDs (T : Tb) : List W → List PyData
  | [] => []
  | a :: l => W.toD T a :: W.toDs T l
end
section
variable {T : Tb} {C : Ctx} {K : PySem.W.Frag} {E : XK} {L : List Nat} {F H : Hp} {μ : List Addr} {S : Sto} {env : Env} {σ : L2.St}
theorem shps_cons {n : Nat} {a : W} {l : List W} : W.shps n (a :: l) = true ↔ a.shp n = true ∧ W.shps n l = true := by rw [W.shps, Bool.and_eq_true]
theorem tx_at (T : Tb) {n : Nat} {s : Str} (h : T.txs[n]? = some s) : T.txs.getD n Str.empty = s := by simp [List.getD, h]
mutual
theorem RW.dp (sub : ∀ a o, F a = some o → H a = some o) : ∀ {n : Nat} {w : W} {v : V}, RW T K F μ w v → w.shp n = true → Dp K H v (w.toD T)
  | _, _, _, .non, _ => .non
  | _, _, _, .bl b, _ => .bl b
  | _, _, _, .int i, _ => .int i
  | _, _, _, .tx h, _ => by rw [W.toD, tx_at T h]; exact .str _
  | 0, _, _, .str s, h => by simp [W.shp] at h
  | n + 1, _, _, .str s, h => by simp [W.shp] at h
  | 0, _, _, .tup _ _ _, h => by simp [W.shp] at h
  | n + 1, _, _, .tup a _ r, h => by
    rw [W.toD]
    exact .tup (sqT_mono a sub) (RWs.dp sub r (by simpa [W.shp] using h))
  | 0, _, _, .lst _ _, h => by simp [W.shp] at h
  | n + 1, _, _, .lst a r, h => by
    rw [W.toD]
    exact .lst (.inl (.inl (sub _ _ a))) (RWs.dp sub r (by simpa [W.shp] using h))
  | 0, _, _, .scr _, h => by simp [W.shp] at h
  | n + 1, _, _, .scr _, h => by simp [W.shp] at h
  | 0, _, _, .ref _, h => by simp [W.shp] at h
  | n + 1, _, _, .ref _, h => by simp [W.shp] at h
theorem RWs.dp (sub : ∀ a o, F a = some o → H a = some o) : ∀ {n : Nat} {ws : List W} {vs : List V}, RWs T K F μ ws vs → W.shps n ws = true → DpAll K H vs (W.toDs T ws)
  | _, _, _, .nil, _ => .nil
  | n, _, _, .cons r t, h => by
    have h' := shps_cons.mp h
    rw [W.toDs]
    exact .cons (RW.dp sub r h'.1) (RWs.dp sub t h'.2)
end
/-- texts that the table has -/
inductive Kn (T : Tb) : W → Prop
  | mk {K F μ w v} : RW T K F μ w v → Kn T w
mutual
theorem RW.shaped (hT : T.Ok) : ∀ {n : Nat} {w : W} {v : V}, RW T K F μ w v → w.shp n = true → (w.toD T).canLay0 = true ∧ (w.toD T).depth ≤ n + 1
  | _, _, _, .non, _ => ⟨by simp [W.toD, PyData.canLay0], by simp [W.toD, PyData.depth]⟩
  | _, _, _, .bl b, _ => ⟨by simp [W.toD, PyData.canLay0], by simp [W.toD, PyData.depth]⟩
  | _, _, _, .int i, _ => ⟨by simp [W.toD, PyData.canLay0], by simp [W.toD, PyData.depth]⟩
  | _, _, _, .tx h, _ => by
    rw [W.toD, tx_at T h]
    exact ⟨hT.ts _ (List.mem_of_getElem? h), by simp [PyData.depth]⟩
  | 0, _, _, .str s, h => by simp [W.shp] at h
  | n + 1, _, _, .str s, h => by simp [W.shp] at h
  | 0, _, _, .tup _ _ _, h => by simp [W.shp] at h
  | n + 1, _, _, .tup a _ r, h => by
    have q := RWs.shaped hT (n := n) r (by simpa [W.shp] using h)
    rw [W.toD]
    exact ⟨by simpa [PyData.canLay0] using q.1, by simp only [PyData.depth]; omega⟩
  | 0, _, _, .lst _ _, h => by simp [W.shp] at h
  | n + 1, _, _, .lst a r, h => by
    have q := RWs.shaped hT (n := n) r (by simpa [W.shp] using h)
    rw [W.toD]
    exact ⟨by simpa [PyData.canLay0] using q.1, by simp only [PyData.depth]; omega⟩
  | 0, _, _, .scr _, h => by simp [W.shp] at h
  | n + 1, _, _, .scr _, h => by simp [W.shp] at h
  | 0, _, _, .ref _, h => by simp [W.shp] at h
  | n + 1, _, _, .ref _, h => by simp [W.shp] at h
theorem RWs.shaped (hT : T.Ok) : ∀ {n : Nat} {ws : List W} {vs : List V}, RWs T K F μ ws vs → W.shps n ws = true → PyData.canLayAll0 (W.toDs T ws) = true ∧ PyData.depthAll (W.toDs T ws) ≤ n + 1
  | _, _, _, .nil, _ => ⟨by simp [W.toDs, PyData.canLayAll0], by simp [W.toDs, PyData.depthAll]⟩
  | n, _, _, .cons r t, h => by
    have h' := shps_cons.mp h
    have q := RW.shaped hT (n := n) r h'.1
    have q2 := RWs.shaped hT (n := n) t h'.2
    rw [W.toDs]
    exact ⟨by simp [PyData.canLayAll0, q.1, q2.1], by simp only [PyData.depthAll]; omega⟩
end
theorem nodup_ixS {N : List Str} (hN : N.Nodup) {i j : Nat} {x : Str} (a : N[i]? = some x) (b : N[j]? = some x) : i = j := L2.nodup_ix hN a b
mutual
theorem RW.eqv (hT : T.Ok) : ∀ {n m : Nat} {w : W} {v : V} {w' : W} {v' : V}, RW T K F μ w v → RW T K F μ w' v' → w.shp n = true → w'.shp m = true → PyData.eqv (w.toD T) (w'.toD T) = W.eq w w'
  | 0, _, _, _, _, _, .str s, _, h, _ => by simp [W.shp] at h
  | n + 1, _, _, _, _, _, .str s, _, h, _ => by simp [W.shp] at h
  | 0, _, _, _, _, _, .scr _, _, h, _ => by simp [W.shp] at h
  | n + 1, _, _, _, _, _, .scr _, _, h, _ => by simp [W.shp] at h
  | 0, _, _, _, _, _, .ref _, _, h, _ => by simp [W.shp] at h
  | n + 1, _, _, _, _, _, .ref _, _, h, _ => by simp [W.shp] at h
  | 0, _, _, _, _, _, .tup _ _ _, _, h, _ => by simp [W.shp] at h
  | 0, _, _, _, _, _, .lst _ _, _, h, _ => by simp [W.shp] at h
  | _, 0, _, _, _, _, _, .str s, _, h => by simp [W.shp] at h
  | _, n + 1, _, _, _, _, _, .str s, _, h => by simp [W.shp] at h
  | _, 0, _, _, _, _, _, .scr _, _, h => by simp [W.shp] at h
  | _, n + 1, _, _, _, _, _, .scr _, _, h => by simp [W.shp] at h
  | _, 0, _, _, _, _, _, .ref _, _, h => by simp [W.shp] at h
  | _, n + 1, _, _, _, _, _, .ref _, _, h => by simp [W.shp] at h
  | _, 0, _, _, _, _, _, .tup _ _ _, _, h => by simp [W.shp] at h
  | _, 0, _, _, _, _, _, .lst _ _, _, h => by simp [W.shp] at h
  | n + 1, m + 1, _, _, _, _, .tup a _ r, .tup b _ q, h, h' => by
    simp only [W.toD, PyData.eqv, W.eq]
    exact RWs.eqv hT r q (by simpa [W.shp] using h) (by simpa [W.shp] using h')
  | n + 1, m + 1, _, _, _, _, .lst a r, .lst b q, h, h' => by
    simp only [W.toD, PyData.eqv, W.eq]
    exact RWs.eqv hT r q (by simpa [W.shp] using h) (by simpa [W.shp] using h')
  | _, _, _, _, _, _, .tx (n := a) h1, .tx (n := b) h2, _, _ => by
    simp only [W.toD, PyData.eqv, W.eq, tx_at T h1, tx_at T h2]
    by_cases e : a = b
    · subst e
      rw [h1] at h2; cases h2
      simp
    · rw [beq_eq_false_iff_ne.mpr e]
      exact beq_eq_false_iff_ne.mpr fun z => e (nodup_ixS hT.tn h1 (by rw [z]; exact h2))
  | _, _, _, _, _, _, .non, .non, _, _ | _, _, _, _, _, _, .non, .bl _, _, _ | _, _, _, _, _, _, .non, .int _, _, _ | _, _, _, _, _, _, .non, .tx _, _, _ | _, _ + 1, _, _, _, _, .non, .tup _ _ _, _, _ | _, _ + 1, _, _, _, _, .non, .lst _ _, _, _
  | _, _, _, _, _, _, .bl _, .non, _, _ | _, _, _, _, _, _, .bl _, .bl _, _, _ | _, _, _, _, _, _, .bl _, .int _, _, _ | _, _, _, _, _, _, .bl _, .tx _, _, _ | _, _ + 1, _, _, _, _, .bl _, .tup _ _ _, _, _ | _, _ + 1, _, _, _, _, .bl _, .lst _ _, _, _
  | _, _, _, _, _, _, .int _, .non, _, _ | _, _, _, _, _, _, .int _, .bl _, _, _ | _, _, _, _, _, _, .int _, .int _, _, _ | _, _, _, _, _, _, .int _, .tx _, _, _ | _, _ + 1, _, _, _, _, .int _, .tup _ _ _, _, _ | _, _ + 1, _, _, _, _, .int _, .lst _ _, _, _
  | _, _, _, _, _, _, .tx _, .non, _, _ | _, _, _, _, _, _, .tx _, .bl _, _, _ | _, _, _, _, _, _, .tx _, .int _, _, _ | _, _ + 1, _, _, _, _, .tx _, .tup _ _ _, _, _ | _, _ + 1, _, _, _, _, .tx _, .lst _ _, _, _
  | _ + 1, _, _, _, _, _, .tup _ _ _, .non, _, _ | _ + 1, _, _, _, _, _, .tup _ _ _, .bl _, _, _ | _ + 1, _, _, _, _, _, .tup _ _ _, .int _, _, _ | _ + 1, _, _, _, _, _, .tup _ _ _, .tx _, _, _ | _ + 1, _ + 1, _, _, _, _, .tup _ _ _, .lst _ _, _, _
  | _ + 1, _, _, _, _, _, .lst _ _, .non, _, _ | _ + 1, _, _, _, _, _, .lst _ _, .bl _, _, _ | _ + 1, _, _, _, _, _, .lst _ _, .int _, _, _ | _ + 1, _, _, _, _, _, .lst _ _, .tx _, _, _ | _ + 1, _ + 1, _, _, _, _, .lst _ _, .tup _ _ _, _, _ => by simp [W.toD, PyData.eqv, W.eq]
theorem RWs.eqv (hT : T.Ok) : ∀ {n m : Nat} {w : List W} {v : List V} {w' : List W} {v' : List V}, RWs T K F μ w v → RWs T K F μ w' v' → W.shps n w = true → W.shps m w' = true → PyData.eqvAll (W.toDs T w) (W.toDs T w') = W.eqs w w'
  | _, _, _, _, _, _, .nil, .nil, _, _ => by simp [W.toDs, PyData.eqvAll, W.eqs]
  | _, _, _, _, _, _, .nil, .cons _ _, _, _ => by simp [W.toDs, PyData.eqvAll, W.eqs]
  | _, _, _, _, _, _, .cons _ _, .nil, _, _ => by simp [W.toDs, PyData.eqvAll, W.eqs]
  | n, m, _, _, _, _, .cons r t, .cons r' t', h, h' => by
    have h1 := shps_cons.mp h
    have h2 := shps_cons.mp h'
    simp only [W.toDs, PyData.eqvAll, W.eqs]
    rw [RW.eqv hT r r' h1.1 h2.1, RWs.eqv hT t t' h1.2 h2.2]
end
/-! ### flat values -/
theorem RW.flat {w : W} {v : V} (r : RW T K F μ w v) (h : w.flat = true) : flatV v = true := by
  cases r <;> first | rfl | simp [W.flat] at h
theorem RWs.flat : ∀ {ws : List W} {vs : List V}, RWs T K F μ ws vs → ws.all W.flat = true → vs.all flatV = true
  | _, _, .nil, _ => rfl
  | _, _, .cons r t, h => by
    rw [List.all_cons, Bool.and_eq_true] at h ⊢
    exact ⟨r.flat h.1, t.flat h.2⟩
theorem RW.eqV (hT : T.Ok) {w w' : W} {v v' : V} (r : RW T K F μ w v) (r' : RW T K F μ w' v') (h : w.flat = true) (h' : w'.flat = true) : eqV v v' = W.eq w w' := by
  cases r <;> first | (simp [W.flat] at h; done) | skip
  all_goals cases r' <;> first | (simp [W.flat] at h'; done) | skip
  all_goals first | rfl | skip
  rename_i a s h1 b s' h2
  show (s == s') = (a == b)
  by_cases e : a = b
  · subst e
    rw [h1] at h2; cases h2
    simp
  · rw [beq_eq_false_iff_ne.mpr e]
    exact beq_eq_false_iff_ne.mpr fun z => e (nodup_ixS hT.tn h1 (by rw [z]; exact h2))
theorem RWs.inV (hT : T.Ok) {w : W} {v : V} (r : RW T K F μ w v) (h : w.flat = true) : ∀ {ws : List W} {vs : List V}, RWs T K F μ ws vs → ws.all W.flat = true → L2.inV v vs = ws.any fun a => W.eq a w
  | _, _, .nil, _ => rfl
  | _, _, .cons q t, hf => by
    rw [List.all_cons, Bool.and_eq_true] at hf
    have t' := RWs.inV hT r h t hf.2
    unfold L2.inV at t' ⊢
    rw [List.any_cons, List.any_cons, t', q.eqV hT r hf.1 h]
/-! ### keys -/
theorem RW.key {w : W} {v : V} {k : MK} (r : RW T K F μ w v) (h : w.key = some k) : ∃ k', v = kV k' ∧ RK T k k' := by
  cases r <;> simp [W.key] at h
  · subst h; exact ⟨.inl _, rfl, rfl⟩
  · rename_i e; subst h; exact ⟨.inr _, rfl, _, e, rfl⟩
theorem RWs.keys : ∀ {ws : List W} {vs : List V} {ks : List MK}, RWs T K F μ ws vs → W.keys ws = some ks → ∃ ks', vs = ks'.map kV ∧ RKs T ks ks'
  | _, _, _, .nil, h => by simp [W.keys] at h; subst h; exact ⟨[], rfl, .nil⟩
  | _, _, _, .cons r t, h => by
    simp only [W.keys] at h
    split at h
    · rename_i k ks e1 e2
      cases h
      obtain ⟨k', rfl, q⟩ := r.key e1
      obtain ⟨ks', rfl, q'⟩ := t.keys e2
      exact ⟨k' :: ks', rfl, .cons q q'⟩
    · cases h
theorem RK.inj (hT : T.Ok) {a b : MK} {x y : Key} (r : RK T a x) (q : RK T b y) : x = y ↔ a = b := by
  cases a <;> cases b
  · cases r; cases q
    constructor
    · intro e; injection e with e; rw [e]
    · intro e; injection e with e; rw [e]
  · obtain ⟨s, _, rfl⟩ := q
    cases r
    constructor <;> (intro e; cases e)
  · obtain ⟨s, _, rfl⟩ := r
    cases q
    constructor <;> (intro e; cases e)
  · obtain ⟨s, h, rfl⟩ := r
    obtain ⟨s', h', rfl⟩ := q
    constructor
    · intro e; injection e with e; subst e; rw [nodup_ixS hT.tn h h']
    · intro e; injection e with e; subst e; rw [h] at h'; cases h'; rfl
theorem RKs.inj (hT : T.Ok) : ∀ {a b : List MK} {x y : List Key}, RKs T a x → RKs T b y → (x = y ↔ a = b)
  | _, _, _, _, .nil, .nil => by simp
  | _, _, _, _, .nil, .cons _ _ => by simp
  | _, _, _, _, .cons _ _, .nil => by simp
  | _, _, _, _, .cons r t, .cons r' t' => by
    rw [List.cons.injEq, List.cons.injEq, r.inj hT r', t.inj hT t']
section
variable {κ ι : Type} [DecidableEq κ] [DecidableEq ι] {R : κ → ι → Prop}
theorem tab_get (hi : ∀ {a b x y}, R a x → R b y → (x = y ↔ a = b)) {k : κ} {k' : ι} (rk : R k k') : ∀ {l : List (κ × W)} {kvs : List (ι × V)}, Paired (fun (p : κ × W) (q : ι × V) => R p.1 q.1 ∧ RW T K F μ p.2 q.2) l kvs →
    (getT l k = none ∧ valV kvs k' = none) ∨ ∃ w v, getT l k = some w ∧ valV kvs k' = some v ∧ RW T K F μ w v
  | _, _, .nil => .inl ⟨rfl, rfl⟩
  | (a, w) :: l, (x, v) :: kvs, .cons r t => by
    by_cases e : a = k
    · refine .inr ⟨w, v, ?_, ?_, r.2⟩
      · simp [getT, e]
      · exact valV_pos ((hi r.1 rk).mpr e)
    · have e' : ¬ x = k' := fun z => e ((hi r.1 rk).mp z)
      rw [valV_neg e']
      have : getT ((a, w) :: l) k = getT l k := by simp [getT, e]
      rw [this]
      exact tab_get hi rk t
theorem tab_any (hi : ∀ {a b x y}, R a x → R b y → (x = y ↔ a = b)) {k : κ} {k' : ι} (rk : R k k') : ∀ {l : List (κ × W)} {kvs : List (ι × V)}, Paired (fun (p : κ × W) (q : ι × V) => R p.1 q.1 ∧ RW T K F μ p.2 q.2) l kvs →
    (l.any fun kv => decide (kv.1 = k)) = kvs.any fun kv => decide (kv.1 = k')
  | _, _, .nil => rfl
  | (a, w) :: l, (x, v) :: kvs, .cons r t => by
    rw [List.any_cons, List.any_cons, tab_any hi rk t]
    have : decide (a = k) = decide (x = k') := by
      have := hi r.1 rk
      exact decide_eq_decide.mpr this.symm
    rw [this]
theorem tab_map (hi : ∀ {a b x y}, R a x → R b y → (x = y ↔ a = b)) {k : κ} {k' : ι} (rk : R k k') {w : W} {v : V} (rv : RW T K F μ w v) : ∀ {l : List (κ × W)} {kvs : List (ι × V)}, Paired (fun (p : κ × W) (q : ι × V) => R p.1 q.1 ∧ RW T K F μ p.2 q.2) l kvs →
    Paired (fun (p : κ × W) (q : ι × V) => R p.1 q.1 ∧ RW T K F μ p.2 q.2) (l.map fun kv => if kv.1 = k then (kv.1, w) else kv) (kvs.map fun kv => if kv.1 = k' then (kv.1, v) else kv)
  | _, _, .nil => .nil
  | (a, u) :: l, (x, y) :: kvs, .cons r t => by
    rw [List.map_cons, List.map_cons]
    refine .cons ?_ (tab_map hi rk rv t)
    by_cases e : a = k
    · rw [if_pos e, if_pos ((hi r.1 rk).mpr e)]; exact ⟨r.1, rv⟩
    · rw [if_neg e, if_neg fun z => e ((hi r.1 rk).mp z)]; exact r
theorem tab_put (hi : ∀ {a b x y}, R a x → R b y → (x = y ↔ a = b)) {k : κ} {k' : ι} (rk : R k k') {w : W} {v : V} (rv : RW T K F μ w v) {l : List (κ × W)} {kvs : List (ι × V)} (h : Paired (fun (p : κ × W) (q : ι × V) => R p.1 q.1 ∧ RW T K F μ p.2 q.2) l kvs) :
    Paired (fun (p : κ × W) (q : ι × V) => R p.1 q.1 ∧ RW T K F μ p.2 q.2) (putT l k w) (putK kvs k' v) := by
  unfold putT putK
  rw [tab_any hi rk h]
  split
  · exact tab_map hi rk rv h
  · exact PySem.Paired.snoc h ⟨rk, rv⟩
theorem tab_drop (hi : ∀ {a b x y}, R a x → R b y → (x = y ↔ a = b)) {k : κ} {k' : ι} (rk : R k k') : ∀ {l : List (κ × W)} {kvs : List (ι × V)}, Paired (fun (p : κ × W) (q : ι × V) => R p.1 q.1 ∧ RW T K F μ p.2 q.2) l kvs →
    Paired (fun (p : κ × W) (q : ι × V) => R p.1 q.1 ∧ RW T K F μ p.2 q.2) (dropT l k) (dropK kvs k')
  | _, _, .nil => .nil
  | (a, u) :: l, (x, y) :: kvs, .cons r t => by
    have ih := tab_drop hi rk t
    unfold dropT dropK at ih ⊢
    by_cases e : a = k
    · rw [List.filter_cons_of_neg (by simp [e]), List.filter_cons_of_neg (by simp [show x = k' from (hi r.1 rk).mpr e])]; exact ih
    · rw [List.filter_cons_of_pos (by simp [e]), List.filter_cons_of_pos (by simp; exact fun z => e ((hi r.1 rk).mp z))]
      exact .cons r ih
end
theorem paired_len {α β : Type} {R : α → β → Prop} : ∀ {l : List α} {m : List β}, Paired R l m → l.length = m.length
  | _, _, .nil => rfl
  | _, _, .cons _ t => congrArg Nat.succ (paired_len t)
theorem tkey_some {l : List W} {k : List MK} (h : W.tkey l = some k) : l.any W.isI = true ∧ W.keys l = some k := by
  unfold W.tkey at h
  split at h
  · exact ⟨‹_›, h⟩
  · cases h
/-- a dict's look -/
theorem dLook_ok (hT : T.Ok) (sr : SR T K L F H μ S) {n : Nat} {y : W} {o : Option W} {a : Addr} {v : V} (h : dLook S n y = some o) (ha : μ[n]? = some a) (r : RW T K F μ y v) :
    ∃ o', DGet H a v o' ∧ (o = none ∧ o' = none ∨ ∃ w u, o = some w ∧ o' = some u ∧ RW T K F μ w u) := by
  unfold dLook at h
  split at h
  · rename_i kvs hk
    obtain ⟨b, ob, hb, _, hr, _, hd⟩ := sr.get hk
    rw [ha] at hb; cases hb
    obtain ⟨kvs', rfl, hp⟩ := hr
    cases hy : y.key with
    | none => rw [hy] at h; cases h
    | some k =>
      rw [hy] at h
      have h : some (getT kvs k) = some o := h
      cases h
      obtain ⟨k', rfl, rk⟩ := r.key hy
      refine ⟨_, .inl ⟨kvs', k', hd, rfl, rfl⟩, ?_⟩
      rcases tab_get (fun a b => RK.inj hT a b) rk hp with ⟨h1, h2⟩ | ⟨w, u, h1, h2, h3⟩
      · exact .inl ⟨h1, h2⟩
      · exact .inr ⟨w, u, h1, h2, h3⟩
  · rename_i kvs hk
    obtain ⟨b, ob, hb, _, hr, _, hd⟩ := sr.get hk
    rw [ha] at hb; cases hb
    obtain ⟨kvs', rfl, hp⟩ := hr
    split at h
    · rename_i l
      cases hy : W.tkey l with
      | none => rw [hy] at h; cases h
      | some k =>
        rw [hy] at h
        have h : some (getT kvs k) = some o := h
        cases h
        obtain ⟨vs, c, rfl, hc, hi, q⟩ := r.tup_inv
        obtain ⟨h1, h2⟩ := tkey_some hy
        obtain ⟨k', rfl, rk⟩ := q.keys h2
        refine ⟨_, .inr ⟨kvs', k', c, hd, rfl, sr.sub _ _ (hi h1), rfl⟩, ?_⟩
        rcases tab_get (fun a b => RKs.inj hT a b) rk hp with ⟨h1, h2⟩ | ⟨w, u, h1, h2, h3⟩
        · exact .inl ⟨h1, h2⟩
        · exact .inr ⟨w, u, h1, h2, h3⟩
    · cases h
  · cases h
end
end Mi

/-! each form of an expression: what the text does is what the small language does -/
namespace Mi
open PySem PySem.Spec PyProof.Rows L2
section
variable {T : Tb} {C : Ctx} {K : PySem.W.Frag} {E : XK} {L : List Nat} {F H : Hp} {μ : List Addr} {S : Sto} {env : Env} {σ : L2.St}
theorem OR.of_ {α β : Type} {o : Option α} {R : Hp → List Addr → α → β → Prop} {Q : β → Hp → Prop} (h : OR T K E L F μ H (Out.of o S) R Q) : ∃ w, o = some w ∧ OR T K E L F μ H (.ok w S) R Q := by
  cases o with
  | none => exact h.elim
  | some w => exact ⟨w, rfl, h⟩
theorem tI_seq2 {α β : Type} {a b : M} {f : W → W → Sto → Out α} {R : Hp → List Addr → α → β → Prop} {Q : β → Hp → Prop} {Q' : V → V → Hp → Prop} (sr : SR T K L F H μ S) (er : ER T K F μ env σ)
    (h : OR T K E L F μ H ((ev C L a env S).bind fun x S1 => (ev C L b env S1).bind fun y S2 => f x y S2) R Q)
    (k : ∀ F2 μ2 H2 S2 w u x y, Ext L F μ H F2 μ2 H2 → SR T K L F2 H2 μ2 S2 → ER T K F2 μ2 env σ → RW T K F2 μ2 w x → RW T K F2 μ2 u y → OR T K E L F2 μ2 H2 (f w u S2) R Q → Q' x y H2) :
    tI T C K E a σ H fun x H1 => tI T C K E b σ H1 fun y H2 => Q' x y H2 :=
  tI_seq sr er h fun _ _ _ _ _ _ x1 s1 e1 r1 h1 => tI_seq s1 e1 h1 fun _ _ _ _ _ _ x2 s2 e2 r2 h2 => k _ _ _ _ _ _ _ _ (x1.trans x2) s2 e2 (r1.ext x2) r2 h2
theorem int2_some {f : Int → Int → Option W} {x y w : W} (h : int2 f x y = some w) : ∃ i j, x = .int i ∧ y = .int j ∧ f i j = some w := by
  unfold int2 at h
  split at h
  · exact ⟨_, _, rfl, rfl, h⟩
  · cases h
theorem ite_some {p : Prop} [Decidable p] {α : Type} {a b : α} (h : (if p then some a else none) = some b) : p ∧ a = b := by
  split at h
  · exact ⟨‹_›, Option.some.inj h⟩
  · cases h
/-! ### operators by the values they meet -/
def BR (T : Tb) (X : Cx) (f : Value → Value → Sem Value) (r : R2) (g : Sto → W → W → Option W) : Prop :=
  OpR X f r ∧ ∀ (E : XK) (L : List Nat) (F H : Hp) (μ : List Addr) (S : Sto) (w u z : W) (x y : V) (Q : VK), SR T X.K L F H μ S → RW T X.K F μ w x → RW T X.K F μ u y → g S w u = some z → OR T X.K E L F μ H (.ok z S) (RWv T X.K) Q → r x y H Q
theorem rI_int2 {X : Cx} {p : Int → Int → Prop} {f : Value → Value → Sem Value} {g : Int → Int → V} {g' : Int → Int → Option W} (ho : OpR X f (rI p g))
    (hg : ∀ i j z, g' i j = some z → p i j ∧ ∀ F μ, RW T X.K F μ z (g i j)) : BR T X f (rI p g) (fun _ => int2 g') :=
  ⟨ho, fun E L F H μ S w u z x y Q sr r r' e h => by
    obtain ⟨i, j, rfl, rfl, e⟩ := int2_some e
    obtain ⟨h1, h2⟩ := hg _ _ _ e
    exact ⟨i, j, r.int_inv, r'.int_inv, h1, h.fin sr (h2 _ _)⟩⟩
theorem rI0_int2 {X : Cx} {f : Value → Value → Sem Value} {g : Int → Int → V} {g' : Int → Int → Option W} (ho : OpR X f (rI0 g))
    (hg : ∀ i j z, g' i j = some z → ∀ F μ, RW T X.K F μ z (g i j)) : BR T X f (rI0 g) (fun _ => int2 g') :=
  ⟨ho, fun E L F H μ S w u z x y Q sr r r' e h => by
    obtain ⟨i, j, rfl, rfl, e⟩ := int2_some e
    exact ⟨i, j, r.int_inv, r'.int_inv, h.fin sr (hg _ _ _ e _ _)⟩⟩
theorem smallB_iff {i : Int} : smallB i = true ↔ -(2 ^ 64) < i ∧ i < 2 ^ 64 := by simp [smallB]
theorem cut_nil {α : Type} (l : List α) : l ++ [] = l := List.append_nil l
theorem br_add {X : Cx} : ∃ r, BR T X (binaryOp .Add) r addW := by
  refine ⟨_, (op_add.or (op_catA.or op_cat)), fun E L F H μ S w u z x y Q sr r r' e h => ?_⟩
  unfold addW at e
  split at e
  · cases e
    exact .inl ⟨_, _, r.int_inv, r'.int_inv, h.fin sr (.int _)⟩
  · rename_i a b
    obtain ⟨hl, rfl⟩ := ite_some e
    obtain ⟨vs, p, rfl, h1, h1', h2⟩ := r.tup_inv
    obtain ⟨us, q, rfl, h3, h3', h4⟩ := r'.tup_inv
    refine .inr (.inl ⟨p, q, vs, us, rfl, rfl, sr.sqT h1, sr.sqT h3, by rw [← h2.length, ← h4.length]; exact hl, fun z => ?_, fun z z2 => ?_, fun z z2 p' hp => ?_⟩)
    · subst z
      cases h2
      exact h.fin sr r'
    · subst z2
      cases h4
      rw [List.append_nil] at h
      exact h.fin sr r
    · exact h.newT sr (h2.append h4) p' hp
  · split at e
    · rename_i a b xs ys ha hb
      obtain ⟨hl, rfl⟩ := ite_some e
      obtain ⟨vs, p, rfl, h1, h2⟩ := lis_ok sr ha r
      obtain ⟨us, q, rfl, h3, h4⟩ := lis_ok sr hb r'
      refine .inr (.inr ⟨p, q, vs, us, rfl, rfl, h1, h3, by rw [← h2.length, ← h4.length]; exact hl, fun p' hp => h.newL sr (h2.append h4) p' hp⟩)
    · cases e
theorem br_mul {X : Cx} : ∃ r, BR T X (binaryOp .Mult) r mulW := by
  refine ⟨_, (op_mul.or op_rep), fun E L F H μ S w u z x y Q sr r r' e h => ?_⟩
  unfold mulW at e
  split at e
  · obtain ⟨hl, rfl⟩ := ite_some e
    rw [Bool.or_eq_true, smallB_iff, smallB_iff] at hl
    exact .inl ⟨_, _, r.int_inv, r'.int_inv, hl, h.fin sr (.int _)⟩
  · split at e
    · rename_i a k _ xs ha
      obtain ⟨⟨h0, h63, hl⟩, rfl⟩ := ite_some e
      obtain ⟨vs, p, rfl, h1, h2⟩ := lis_ok sr ha r
      exact .inr ⟨p, _, vs, rfl, r'.int_inv, h1, by omega, by omega, by rw [← h2.length]; exact hl, fun p' hp => h.newL sr (h2.rep _) p' hp⟩
    · cases e
  · cases e
def BOp.op : BOp → Operator
  | .add => .Add
  | .sub => .Sub
  | .mul => .Mult
  | .fdiv => .FloorDiv
  | .mod => .Mod
  | .pow => .Pow
theorem br_bin {X : Cx} (o : BOp) : ∃ r, BR T X (binaryOp o.op) r (fun S => binW S o) := by
  cases o with
  | add => exact br_add
  | mul => exact br_mul
  | sub => exact ⟨_, rI0_int2 op_sub fun i j z e F μ => by cases e; exact .int _⟩
  | fdiv => exact ⟨_, rI_int2 op_fdiv fun i j z e => by obtain ⟨h, rfl⟩ := ite_some e; exact ⟨h, fun F μ => .int _⟩⟩
  | mod => exact ⟨_, rI_int2 op_mod fun i j z e => by obtain ⟨h, rfl⟩ := ite_some e; exact ⟨h, fun F μ => .int _⟩⟩
  | pow => exact ⟨_, rI_int2 op_pow fun i j z e => by obtain ⟨h, rfl⟩ := ite_some e; exact ⟨h, fun F μ => .int _⟩⟩
theorem W.isN_eq {w : W} {v : V} (r : RW T K F μ w v) : decide (v = .non) = w.isN := by cases r <;> rfl
theorem W.isN_iff {w : W} (h : w.isN = true) : w = .non := by cases w <;> first | rfl | cases h
/-- what may be compared -/
def COp.op : COp → CmpOp
  | .eq => .Eq
  | .ne => .NotEq
  | .lt => .Lt
  | .le => .LtE
  | .gt => .Gt
  | .ge => .GtE
  | .isN => .Is
  | .notN => .IsNot
  | .in_ => .In
  | .notIn => .NotIn
theorem and_some {p q : Bool} {α : Type} {a b : α} (h : (if (p && q) = true then some a else none) = some b) : p = true ∧ q = true ∧ a = b := by
  obtain ⟨h1, h2⟩ := ite_some h
  rw [Bool.and_eq_true] at h1
  exact ⟨h1.1, h1.2, h2⟩
theorem shaped_of {hT : T.Ok} {w : W} {v : V} (r : RW T K F μ w v) (h : w.shp 50 = true) : SeqAt.shaped (w.toD T) = true := by
  obtain ⟨h1, h2⟩ := r.shaped hT h
  simp only [SeqAt.shaped, h1, Bool.true_and, decide_eq_true_eq]
  omega
end
section
variable {X : Cx} {T : Tb}
theorem op_in_dict (hu : X.A.units + 1 < cLine) : OpR X (compareOp .In) (fun x y H Q => ∃ a o, y = .ref a ∧ DGet H a x o ∧ Q (.bl o.isSome) H) := by
  rintro pins s σ H x y v u Q I rx ry ⟨a, o, rfl, g, q⟩
  cases ry
  exact d_in hu I g rx fun s' I' => ⟨.bl _, H, I', rfl, q⟩
theorem op_notIn_dict (hu : X.A.units + 1 < cLine) : OpR X (compareOp .NotIn) (fun x y H Q => ∃ a o, y = .ref a ∧ DGet H a x o ∧ Q (.bl (!o.isSome)) H) := by
  rintro pins s σ H x y v u Q I rx ry ⟨a, o, rfl, g, q⟩
  cases ry
  exact d_notIn hu I g rx fun s' I' => ⟨.bl _, H, I', rfl, q⟩
theorem inW_ok {L : List Nat} {F H : Hp} {μ : List Addr} {S : Sto} (hT : T.Ok) (sr : SR T X.K L F H μ S) {w u : W} {x y : V} {k : Bool} (r : RW T X.K F μ w x) (r' : RW T X.K F μ u y) (e : inW S w u = some k) :
    (∃ p xs, y = .ref p ∧ (SqL X.K H p xs ∨ SqT X.K H p xs) ∧ flatV x = true ∧ xs.all flatV = true ∧ L2.inV x xs = k) ∨ ∃ a o, y = .ref a ∧ DGet H a x o ∧ o.isSome = k := by
  unfold inW at e
  split at e
  · obtain ⟨h1, h2, rfl⟩ := and_some e
    obtain ⟨vs, p, rfl, h, _, q⟩ := r'.tup_inv
    exact .inl ⟨p, vs, rfl, .inr (sr.sqT h), r.flat h1, q.flat h2, RWs.inV hT r h1 q h2⟩
  · obtain ⟨h1, h2, rfl⟩ := and_some e
    obtain ⟨vs, p, rfl, h, q⟩ := r'.lst_inv
    exact .inl ⟨p, vs, rfl, .inl (.inl (.inl (sr.sub _ _ h))), r.flat h1, q.flat h2, RWs.inV hT r h1 q h2⟩
  · rename_i n
    split at e
    · rename_i l hn
      obtain ⟨h1, h2, rfl⟩ := and_some e
      obtain ⟨vs, p, rfl, h, q⟩ := lis_ok (l := l) sr (by simp [W.lis, hn]) r'
      exact .inl ⟨p, vs, rfl, .inl (.inl (.inl h)), r.flat h1, q.flat h2, RWs.inV hT r h1 q h2⟩
    · cases hd : dLook S n w with
      | none => rw [hd] at e; cases e
      | some o =>
        rw [hd] at e
        cases e
        obtain ⟨a, rfl, ha⟩ := r'.ref_inv
        obtain ⟨o', g, z⟩ := dLook_ok hT sr hd ha r
        refine .inr ⟨a, o', rfl, g, ?_⟩
        rcases z with ⟨rfl, rfl⟩ | ⟨_, _, rfl, rfl, _⟩ <;> rfl
  · cases e
theorem br_cmp (hT : T.Ok) (hu : X.A.units + 64 < cLine) (o : COp) : ∃ r, BR T X (compareOp o.op) r (fun S => cmpW S o) := by
  have hu1 : X.A.units + 1 < cLine := by omega
  cases o with
  | lt => exact ⟨_, rI0_int2 op_lt fun i j z e F μ => by cases e; exact .bl _⟩
  | le => exact ⟨_, rI0_int2 op_le fun i j z e F μ => by cases e; exact .bl _⟩
  | gt => exact ⟨_, rI0_int2 op_gt fun i j z e F μ => by cases e; exact .bl _⟩
  | ge => exact ⟨_, rI0_int2 op_ge fun i j z e F μ => by cases e; exact .bl _⟩
  | eq =>
    refine ⟨_, op_eqD hu, fun E L F H μ S w u z x y Q sr r r' e h => ?_⟩
    obtain ⟨h1, h2, rfl⟩ := and_some e
    exact ⟨_, _, r.dp sr.sub h1, r'.dp sr.sub h2, shaped_of (hT := hT) r h1, shaped_of (hT := hT) r' h2, by rw [r.eqv hT r' h1 h2]; exact OR.fin h sr (.bl _)⟩
  | ne =>
    refine ⟨_, op_neD hu, fun E L F H μ S w u z x y Q sr r r' e h => ?_⟩
    obtain ⟨h1, h2, rfl⟩ := and_some e
    exact ⟨_, _, r.dp sr.sub h1, r'.dp sr.sub h2, shaped_of (hT := hT) r h1, shaped_of (hT := hT) r' h2, by rw [r.eqv hT r' h1 h2]; exact OR.fin h sr (.bl _)⟩
  | isN =>
    refine ⟨_, op_isN, fun E L F H μ S w u z x y Q sr r r' e h => ?_⟩
    obtain ⟨h1, rfl⟩ := ite_some e
    have := W.isN_iff h1; subst this
    exact ⟨r'.non_inv, by rw [W.isN_eq r]; exact OR.fin h sr (.bl _)⟩
  | notN =>
    refine ⟨_, op_notN, fun E L F H μ S w u z x y Q sr r r' e h => ?_⟩
    obtain ⟨h1, rfl⟩ := ite_some e
    have := W.isN_iff h1; subst this
    exact ⟨r'.non_inv, by rw [W.isN_eq r]; exact OR.fin h sr (.bl _)⟩
  | in_ =>
    refine ⟨_, op_in_seq.or (op_in_dict hu1), fun E L F H μ S w u z x y Q sr r r' e h => ?_⟩
    obtain ⟨k, e', rfl⟩ := Option.map_eq_some_iff.mp e
    rcases inW_ok hT sr r r' e' with ⟨p, xs, rfl, h1, h2, h3, h4⟩ | ⟨a, o, rfl, h1, h2⟩
    · exact .inl ⟨p, xs, rfl, h1, h2, h3, by rw [h4]; exact OR.fin h sr (.bl _)⟩
    · exact .inr ⟨a, o, rfl, h1, by rw [h2]; exact OR.fin h sr (.bl _)⟩
  | notIn =>
    refine ⟨_, op_notIn_seq.or (op_notIn_dict hu1), fun E L F H μ S w u z x y Q sr r r' e h => ?_⟩
    obtain ⟨k, e', rfl⟩ := Option.map_eq_some_iff.mp e
    rcases inW_ok hT sr r r' e' with ⟨p, xs, rfl, h1, h2, h3, h4⟩ | ⟨a, o, rfl, h1, h2⟩
    · exact .inl ⟨p, xs, rfl, h1, h2, h3, by rw [h4]; exact OR.fin h sr (.bl _)⟩
    · exact .inr ⟨a, o, rfl, h1, by rw [h2]; exact OR.fin h sr (.bl _)⟩
theorem cmpW_bl {S : Sto} {o : COp} {x y z : W} (h : cmpW S o x y = some z) : ∃ b, z = .bl b := by
  unfold cmpW at h
  split at h <;> first
    | (obtain ⟨_, _, _, _, h⟩ := int2_some h; cases h; exact ⟨_, rfl⟩)
    | (obtain ⟨_, rfl⟩ := ite_some h; exact ⟨_, rfl⟩)
    | (obtain ⟨k, e, rfl⟩ := Option.map_eq_some_iff.mp h; exact ⟨_, rfl⟩)
end
abbrev BQ (T : Tb) (K : PySem.W.Frag) : Hp → List Addr → W → Bool → Prop := fun _ _ w b => w = .bl b
theorem OR.toB {T : Tb} {K : PySem.W.Frag} {E : XK} {L : List Nat} {F H : Hp} {μ : List Addr} {S : Sto} {z : W} {Q : Bool → Hp → Prop} (hz : ∃ b, z = .bl b) (h : OR T K E L F μ H (.ok z S) (BQ T K) Q) :
    OR T K E L F μ H (.ok z S) (RWv T K) (fun v H' => ∃ k, v = .bl k ∧ Q k H') := by
  obtain ⟨b, rfl⟩ := hz
  exact fun F' μ' H' v x s r => ⟨b, r.bl_inv, h F' μ' H' b x s rfl⟩
section
variable {X : Cx} {T : Tb} {C : Ctx} {E : XK} {e a b c : Expr} {pos : Pos} {ma mb mc : M}
/-! ### names, constants -/
theorem m_var {i : Nat} {x : Str} (hN : X.N[i]? = some x) (hv : Vis X.env.scope x) (hd : (x == ("__debug__" : Str)) = false) (hcd : (x == ("__classdict__" : Str)) = false) : PE X (.Name x pos) (tI T C X.K E (.var i)) :=
  (pe_var hN hv hd hcd).imp fun σ H Q ⟨L, F, μ, S, env, sr, er, h⟩ => by
    simp only [ev] at h
    split at h
    · rename_i w hw
      obtain ⟨v, h1, h2⟩ := er.at_ _ _ hw
      exact ⟨v, h1, h.fin sr h2⟩
    · exact h.elim
theorem m_int {i : Int} {j : Nat} : PE X (.Constant (.int i) j pos) (tI T C X.K E (.cst (.int i))) :=
  pe_int.imp fun σ H Q ⟨L, F, μ, S, env, sr, er, h⟩ => h.fin sr (.int i)
theorem m_bl {i : Bool} {j : Nat} : PE X (.Constant (.bool i) j pos) (tI T C X.K E (.cst (.bl i))) :=
  pe_bl.imp fun σ H Q ⟨L, F, μ, S, env, sr, er, h⟩ => h.fin sr (.bl i)
theorem m_non {j : Nat} : PE X (.Constant .none j pos) (tI T C X.K E (.cst .non)) :=
  pe_non.imp fun σ H Q ⟨L, F, μ, S, env, sr, er, h⟩ => h.fin sr .non
theorem m_tx {i : Nat} {s : Str} {j : Nat} (hs : T.txs[i]? = some s) : PE X (.Constant (.str s) j pos) (tI T C X.K E (.cst (.tx i))) :=
  pe_str.imp fun σ H Q ⟨L, F, μ, S, env, sr, er, h⟩ => h.fin sr (.tx hs)
theorem m_neg {i : Int} {j : Nat} {p : Pos} : PE X (.UnaryOp .USub (.Constant (.int i) j p) pos) (tI T C X.K E (.cst (.int (-i)))) :=
  (pe_un un_neg pe_int).imp fun σ H Q ⟨L, F, μ, S, env, sr, er, h⟩ => ⟨i, rfl, h.fin sr (.int (-i))⟩
/-- a name of the module whose value never changes -/
theorem m_con {i : Nat} {x : Str} {u : Value} {v : V} {w : W} (hg : Gl X x) (hm : X.mg x = some u) (r : RelV v u) (hw : C.con[i]? = some w) (rw' : ∀ F μ, RW T X.K F μ w v) (hd : (x == ("__debug__" : Str)) = false) :
    PE X (.Name x pos) (tI T C X.K E (.con i)) :=
  (pe_glob hg hm r hd).imp fun σ H Q ⟨L, F, μ, S, env, sr, er, h⟩ => by
    simp only [ev, hw, Out.of_some] at h
    exact h.fin sr (rw' _ _)
/-! ### operators -/
theorem m_bin (o : BOp) (ha : PE X a (tI T C X.K E ma)) (hb : PE X b (tI T C X.K E mb)) : PE X (.BinOp a o.op b pos) (tI T C X.K E (.bin o ma mb)) := by
  obtain ⟨r, ho, hr⟩ := br_bin (T := T) (X := X) o
  exact (pe_op ho ha hb).imp fun σ H Q ⟨L, F, μ, S, env, sr, er, h⟩ => tI_seq2 sr er h fun F2 μ2 H2 S2 w u x y _ s2 _ r r' h => by
    obtain ⟨z, e, h⟩ := h.of_
    exact hr _ _ _ _ _ _ _ _ _ _ _ _ s2 r r' e h
theorem m_cmp (hT : T.Ok) (hu : X.A.units + 64 < cLine) (o : COp) (ha : PE X a (tI T C X.K E ma)) (hb : PE X b (tI T C X.K E mb)) (hm : behindInMarks o.op b = false) : PE X (.Compare a [o.op] [b] pos) (tI T C X.K E (.cmp o ma mb)) := by
  obtain ⟨r, ho, hr⟩ := br_cmp hT hu o
  exact (pe_cmpR ho ha hb hm).imp fun σ H Q ⟨L, F, μ, S, env, sr, er, h⟩ => tI_seq2 sr er h fun F2 μ2 H2 S2 w u x y _ s2 _ r r' h => by
    obtain ⟨z, e, h⟩ := h.of_
    exact hr _ _ _ _ _ _ _ _ _ _ _ _ s2 r r' e h
theorem mt_cmp (hT : T.Ok) (hu : X.A.units + 64 < cLine) (o : COp) (ha : PE X a (tI T C X.K E ma)) (hb : PE X b (tI T C X.K E mb)) (hm : behindInMarks o.op b = false) : PT X (.Compare a [o.op] [b] pos) (tT T C X.K E (.cmp o ma mb)) := by
  obtain ⟨r, ho, hr⟩ := br_cmp hT hu o
  exact (pt_cmpR ho ha hb hm).imp fun σ H Q ⟨L, F, μ, S, env, sr, er, h⟩ => tI_seq2 sr er h fun F2 μ2 H2 S2 w u x y _ s2 _ r r' h => by
    obtain ⟨z, e, h⟩ := h.of_
    exact hr _ _ _ _ _ _ _ _ _ _ _ _ s2 r r' e (h.toB (cmpW_bl e))
end
end Mi

/-! truth, places, displays -/
namespace Mi
open PySem PySem.Spec PyProof.Rows L2
section
variable {X : Cx} {T : Tb} {C : Ctx} {E : XK} {e a b c : Expr} {pos : Pos} {ma mb mc : M} {rest : List Expr}
theorem chn_ok (hT : T.Ok) (hu : X.A.units + 64 < cLine) (o o' : COp) (ha : PE X a (tI T C X.K E ma)) (hb : PE X b (tI T C X.K E mb)) (hc : PE X c (tI T C X.K E mc)) (hm : lastMarks [o.op, o'.op] [b, c] = false) :
    PE X (.Compare a [o.op, o'.op] [b, c] pos) (tI T C X.K E (.chn o o' ma mb mc)) ∧ PT X (.Compare a [o.op, o'.op] [b, c] pos) (tT T C X.K E (.chn o o' ma mb mc)) := by
  obtain ⟨r, ho, hr⟩ := br_cmp hT hu o
  obtain ⟨r', ho', hr'⟩ := br_cmp hT hu o'
  have main : ∀ (L : List Nat) (F H : Hp) (μ : List Addr) (S : Sto) (env : Env) (σ : L2.St) (Q : VK), SR T X.K L F H μ S → ER T X.K F μ env σ → OR T X.K E L F μ H (ev C L (.chn o o' ma mb mc) env S) (RWv T X.K) Q → tChain r r' (tI T C X.K E ma) (tI T C X.K E mb) (tI T C X.K E mc) σ H Q := by
    intro L F H μ S env σ Q sr er h
    refine tI_seq2 sr er h fun F2 μ2 H2 S2 w u x y _ s2 e2 rx ry h => ?_
    split at h
    · rename_i hc'
      refine hr E L _ _ _ _ _ _ _ _ _ _ s2 rx ry hc' fun F' μ' H' v x' s3 rv => ?_
      have := rv.bl_inv; subst this
      refine ⟨true, rfl, ?_⟩
      rw [if_pos rfl]
      refine tI_seq s3 (e2.ext x') (OR.later x' h) fun F3 μ3 H3 S3 w3 z x3 s4 _ rz h => ?_
      obtain ⟨z', e', h⟩ := h.of_
      exact hr' _ _ _ _ _ _ _ _ _ _ _ _ s4 ((ry.ext x').ext x3) rz e' h
    · rename_i hc'
      refine hr E L _ _ _ _ _ _ _ _ _ _ s2 rx ry hc' fun F' μ' H' v x' s3 rv => ?_
      have := rv.bl_inv; subst this
      refine ⟨false, rfl, ?_⟩
      rw [if_neg (by decide)]
      exact h _ _ _ _ x' s3 (.bl false)
    · exact h.elim
  have isb : ∀ (L : List Nat) (env : Env) (S S' : Sto) (w : W), ev C L (.chn o o' ma mb mc) env S = .ok w S' → ∃ b, w = .bl b := by
    intro L env S S' w h
    simp only [ev] at h
    cases h1 : ev C L ma env S <;> rw [h1] at h <;> first | (cases h; done) | skip
    simp only [Out.bind_ok] at h
    rename_i w1 S1
    cases h2 : ev C L mb env S1 <;> rw [h2] at h <;> first | (cases h; done) | skip
    simp only [Out.bind_ok] at h
    rename_i w2 S2
    split at h
    · cases h3 : ev C L mc env S2 <;> rw [h3] at h <;> first | (cases h; done) | skip
      simp only [Out.bind_ok] at h
      cases h4 : cmpW ‹_› o' w2 ‹_› <;> rw [h4] at h
      · cases h
      · cases h; exact cmpW_bl h4
    · cases h; exact ⟨_, rfl⟩
    · cases h
  refine ⟨(pe_chain ho ho' ha hb hc hm).imp fun σ H Q ⟨L, F, μ, S, env, sr, er, h⟩ => main _ _ _ _ _ _ _ _ sr er h, (pt_chain ho ho' ha hb hc hm).imp fun σ H Q ⟨L, F, μ, S, env, sr, er, h⟩ => main _ _ _ _ _ _ _ _ sr er ?_⟩
  cases he : ev C L (.chn o o' ma mb mc) env S with
  | ok w S1 => rw [he] at h; exact h.toB (isb _ _ _ _ _ he)
  | ex c p S1 => rw [he] at h; exact h
  | bad => rw [he] at h; exact h
/-! ### truth -/
section
variable {L : List Nat} {F H : Hp} {μ : List Addr} {S : Sto} {env : Env} {σ : L2.St} {K : PySem.W.Frag}
theorem tru_okW {w : W} {v : V} {k : Bool} (hT : T.Ok) (sr : SR T K L F H μ S) (r : RW T K F μ w v) (h : w.tru S = some k) : TruV K v H k := by
  cases r <;> simp only [W.tru, Option.some.injEq, reduceCtorEq] at h
  · exact h.symm
  · exact h.symm
  · exact h.symm
  · rename_i ws vs a h1 h2 h3
    refine .inr (.inl ⟨vs, sr.sqT h1, ?_⟩)
    rw [← h]; cases h3 <;> rfl
  · rename_i ws vs a h1 h3
    refine .inl ⟨vs, .inl (.inl (sr.sub _ _ h1)), ?_⟩
    rw [← h]; cases h3 <;> rfl
  · rename_i l a h1
    refine .inl ⟨_, sr.sqL h1, ?_⟩
    rw [← h]; cases l <;> rfl
  · rename_i n a h1
    split at h
    · rename_i l hl
      obtain ⟨vs, a', e, h2, h3⟩ := lis_ok (l := l) sr (by simp [W.lis, hl]) (RW.ref h1)
      cases e
      refine .inl ⟨vs, .inl (.inl h2), ?_⟩
      rw [← Option.some.inj h]; cases h3 <;> rfl
    · cases h
/-- a place whose value is True or False -/
theorem tI_bl {a : M} {Q' : Bool → Hp → Prop} {α β : Type} {R : Hp → List Addr → α → β → Prop} {f : W → Sto → Out α} {Q : β → Hp → Prop} (sr : SR T K L F H μ S) (er : ER T K F μ env σ) (h : OR T K E L F μ H ((ev C L a env S).bind f) R Q)
    (hf : ∀ w S, (∀ b, w ≠ .bl b) → f w S = .bad)
    (k : ∀ F1 μ1 H1 S1 b, Ext L F μ H F1 μ1 H1 → SR T K L F1 H1 μ1 S1 → ER T K F1 μ1 env σ → OR T K E L F1 μ1 H1 (f (.bl b) S1) R Q → Q' b H1) : tI T C K E a σ H (fun v H' => ∃ b, v = .bl b ∧ Q' b H') := by
  refine tI_seq sr er h fun F1 μ1 H1 S1 w x x1 s1 e1 r1 h1 => ?_
  by_cases hw : ∃ b, w = .bl b
  · obtain ⟨b, rfl⟩ := hw
    exact ⟨b, r1.bl_inv, k _ _ _ _ _ x1 s1 e1 h1⟩
  · rw [hf w S1 fun b z => hw ⟨b, z⟩] at h1; exact h1.elim
end
theorem bad_nb {α : Type} {f g : Sto → Out α} {w : W} {S : Sto} (hw : ∀ b, w ≠ .bl b) : (match w with | .bl true => f S | .bl false => g S | _ => (.bad : Out α)) = .bad := by
  cases w <;> first | rfl | exact absurd rfl (hw _)
theorem bad_nb1 {α : Type} {f : Bool → Out α} {w : W} (hw : ∀ b, w ≠ .bl b) : (match w with | .bl b => f b | _ => (.bad : Out α)) = .bad := by
  cases w <;> first | rfl | exact absurd rfl (hw _)
theorem m_and (ha : PE X a (tI T C X.K E ma)) (hb : PE X (.BoolOp .And (b :: rest) pos) (tI T C X.K E mb)) : PE X (.BoolOp .And (a :: b :: rest) pos) (tI T C X.K E (.and ma mb)) :=
  (pe_and ha hb).imp fun σ H Q ⟨L, F, μ, S, env, sr, er, h⟩ => tI_bl sr er h (fun w S hw => by cases w <;> first | rfl | exact absurd rfl (hw _)) fun F1 μ1 H1 S1 b x1 s1 e1 h1 => by
    cases b
    · exact h1.fin s1 (.bl _)
    · exact ⟨_, _, _, _, _, s1, e1, h1⟩
theorem m_or (ha : PE X a (tI T C X.K E ma)) (hb : PE X (.BoolOp .Or (b :: rest) pos) (tI T C X.K E mb)) : PE X (.BoolOp .Or (a :: b :: rest) pos) (tI T C X.K E (.or ma mb)) :=
  (pe_or ha hb).imp fun σ H Q ⟨L, F, μ, S, env, sr, er, h⟩ => tI_bl sr er h (fun w S hw => by cases w <;> first | rfl | exact absurd rfl (hw _)) fun F1 μ1 H1 S1 b x1 s1 e1 h1 => by
    cases b
    · exact ⟨_, _, _, _, _, s1, e1, h1⟩
    · exact h1.fin s1 (.bl _)
theorem m_not (ha : PE X a (tI T C X.K E ma)) : PE X (.UnaryOp .Not a pos) (tI T C X.K E (.not ma)) :=
  (pe_not ha).imp fun σ H Q ⟨L, F, μ, S, env, sr, er, h⟩ => tI_bl sr er h (fun w S hw => by cases w <;> first | rfl | exact absurd rfl (hw _)) fun F1 μ1 H1 S1 b x1 s1 e1 h1 => h1.fin s1 (.bl _)
theorem mt_and (ha : PT X a (tT T C X.K E ma)) (hb : PW X (.BoolOp .And (b :: rest) pos) (tT T C X.K E mb)) : PW X (.BoolOp .And (a :: b :: rest) pos) (tT T C X.K E (.and ma mb)) :=
  (pw_and ha hb).imp fun σ H Q ⟨L, F, μ, S, env, sr, er, h⟩ => tT_seq sr er h fun F1 μ1 H1 S1 b x1 s1 e1 h1 => by
    cases b
    · exact h1 F1 μ1 H1 false .refl s1 rfl
    · exact ⟨_, _, _, _, _, s1, e1, h1⟩
theorem mt_or (ha : PT X a (tT T C X.K E ma)) (hb : PW X (.BoolOp .Or (b :: rest) pos) (tT T C X.K E mb)) : PW X (.BoolOp .Or (a :: b :: rest) pos) (tT T C X.K E (.or ma mb)) :=
  (pw_or ha hb).imp fun σ H Q ⟨L, F, μ, S, env, sr, er, h⟩ => tT_seq sr er h fun F1 μ1 H1 S1 b x1 s1 e1 h1 => by
    cases b
    · exact ⟨_, _, _, _, _, s1, e1, h1⟩
    · exact h1 F1 μ1 H1 true .refl s1 rfl
theorem mt_not (ha : PT X a (tT T C X.K E ma)) : PT X (.UnaryOp .Not a pos) (tT T C X.K E (.not ma)) :=
  (pt_not ha).imp fun σ H Q ⟨L, F, μ, S, env, sr, er, h⟩ => tT_seq sr er h fun F1 μ1 H1 S1 b x1 s1 e1 h1 => h1 F1 μ1 H1 _ .refl s1 rfl
theorem mt_tr (hT : T.Ok) (ha : PE X a (tI T C X.K E ma)) (he : ∀ whole, isTrue a X.env whole = (do let v ← whole; standAt a.pos; holding [v] (truthy v))) : PT X a (tT T C X.K E (.tr ma)) :=
  (pt_truth ha he).imp fun σ H Q ⟨L, F, μ, S, env, sr, er, h⟩ => tI_seq sr er h fun F1 μ1 H1 S1 w x x1 s1 e1 r1 h1 => by
    obtain ⟨z, e, h1⟩ := h1.of_
    obtain ⟨k, e', rfl⟩ := Option.map_eq_some_iff.mp e
    exact ⟨k, tru_okW hT s1 r1 e', h1 F1 μ1 H1 _ .refl s1 rfl⟩
theorem m_ife (hc : PT X c (tT T C X.K E mc)) (ha : PE X a (tI T C X.K E ma)) (hb : PE X b (tI T C X.K E mb)) : PE X (.IfExp c a b pos) (tI T C X.K E (.ife mc ma mb)) :=
  (pe_ifExp hc ha hb).imp fun σ H Q ⟨L, F, μ, S, env, sr, er, h⟩ => tT_seq sr er h fun F1 μ1 H1 S1 b x1 s1 e1 h1 => by
    cases b
    · exact ⟨_, _, _, _, _, s1, e1, h1⟩
    · exact ⟨_, _, _, _, _, s1, e1, h1⟩
/-! ### places -/
theorem ix_dict (hu : X.A.units + 1 < cLine) : IxR X (fun x y H Q => ∃ a v, x = .ref a ∧ DGet H a y (some v) ∧ Q v H) := by
  rintro value slice pins s σ H x y v u Q I rx ry ⟨a, z, rfl, g, q⟩ hs
  cases rx
  have hT := dict_typeIs I g
  unfold subscriptTail
  refine wpAny_bind ?_
  rw [getitemInPython_of_ne hT.not_modules]
  refine wpAny_bind (wpAny_specialOf hT slot_dict_getitem.lookup ?_)
  have fin : wpAny (model X.prog X.w) X.A (subscripted slice false (.ref a) u) (fun r s₃ => wpAny (model X.prog X.w) X.A (letTemporaryGo value (.ref a) r >>= fun _ => pure r) (EP X pins σ Q) X.xe s₃) X.xe s := by
    rw [hs]
    exact wpAny_operating (d_getItem hu I g ry fun w' s' I' r' => wpAny_bind (wpAny_letTemporaryGo (wpAny_pure ⟨z, H, I', r', q⟩)))
  first
    | exact wpAny_pure (wpAny_bind fin)
    | exact wpAny_bind (wpAny_pure (wpAny_bind fin))
    | exact wpAny_bind fin
end
end Mi

/-! places, slices, attributes, displays, arguments -/
namespace Mi
open PySem PySem.Spec PyProof.Rows L2
section
variable {X : Cx} {T : Tb} {C : Ctx} {E : XK} {e a b c : Expr} {pos : Pos} {ma mb mc : M} {rest : List Expr}
theorem atW_at {K : PySem.W.Frag} {F : Hp} {μ : List Addr} {l : List W} {vs : List V} {i : Int} {w : W} (r : RWs T K F μ l vs) (h : atW l i = some w) : ∃ v, atI vs i = some v ∧ RW T K F μ w v := by
  unfold atW at h
  unfold atI
  rw [← r.length]
  cases e : ixNat l.length i with
  | none => rw [e] at h; cases h
  | some j =>
    rw [e] at h
    obtain ⟨v, h1, h2⟩ := r.get h
    refine ⟨v, ?_, h2⟩
    rw [show ixN l.length i = some j from e]
    exact h1
theorem ints_rel {K : PySem.W.Frag} {F : Hp} {μ : List Addr} : ∀ l : List Int, RWs T K F μ (l.map W.int) (l.map V.int)
  | [] => .nil
  | i :: l => .cons (.int i) (ints_rel l)
theorem m_ix (hT : T.Ok) (hu : X.A.units + 64 < cLine) (ha : PE X a (tI T C X.K E ma)) (hb : PE X b (tI T C X.K E mb)) (hs : PlainIx b) : PE X (.Subscript a b pos) (tI T C X.K E (.ix ma mb)) :=
  (pe_ix (ix_seq.or (ix_dict (by omega))) ha hb hs).imp fun σ H Q ⟨L, F, μ, S, env, sr, er, h⟩ => tI_seq2 sr er h fun F2 μ2 H2 S2 w u x y _ s2 _ r r' h => by
    obtain ⟨z, e, g⟩ := h.of_
    unfold ixW at e
    split at e
    · obtain ⟨vs, p, rfl, h1, _, q⟩ := r.tup_inv
      obtain ⟨v, h2, h3⟩ := atW_at q e
      exact .inl (.inr (.inl ⟨p, vs, _, v, rfl, r'.int_inv, s2.sqT h1, h2, g.fin s2 h3⟩))
    · obtain ⟨vs, p, rfl, h1, q⟩ := r.lst_inv
      obtain ⟨v, h2, h3⟩ := atW_at q e
      exact .inl (.inl ⟨p, vs, _, v, rfl, r'.int_inv, .inl (.inl (s2.sub _ _ h1)), h2, g.fin s2 h3⟩)
    · rename_i l i
      cases r with | scr h1 =>
      obtain ⟨v, h2, h3⟩ := atW_at (ints_rel l) e
      exact .inl (.inl ⟨_, _, _, v, rfl, r'.int_inv, s2.sqL h1, h2, g.fin s2 h3⟩)
    · rename_i n
      split at e
      · rename_i l hl
        split at e
        · obtain ⟨vs, p, rfl, h1, q⟩ := lis_ok (l := l) s2 (by simp [W.lis, hl]) r
          obtain ⟨v, h2, h3⟩ := atW_at q e
          exact .inl (.inl ⟨p, vs, _, v, rfl, r'.int_inv, .inl (.inl h1), h2, g.fin s2 h3⟩)
        · cases e
      · cases hd : dLook S2 n _ with
        | none => rw [hd] at e; cases e
        | some o =>
          rw [hd] at e
          have e : o = some z := e
          subst e
          obtain ⟨p, rfl, hp⟩ := r.ref_inv
          obtain ⟨o', gd, q⟩ := dLook_ok hT s2 hd hp r'
          rcases q with ⟨q, _⟩ | ⟨w, v, q1, rfl, q3⟩
          · cases q
          · cases q1
            exact .inr ⟨p, v, rfl, gd, g.fin s2 q3⟩
    · cases e
/-! ### slices -/
def tO (T : Tb) (C : Ctx) (K : PySem.W.Frag) (E : XK) (m : M) : TO := fun σ H Q => ∃ L F μ S env, SR T K L F H μ S ∧ ER T K F μ env σ ∧ OR T K E L F μ H (ev C L m env S) (fun _ _ w o => w.bd = some o) Q
theorem mo_none : PO X none (tO T C X.K E .nil) := ⟨fun pins s σ H Q I ⟨L, F, μ, S, env, sr, er, h⟩ => po_none.run pins s σ H Q I (h F μ H none .refl sr rfl)⟩
theorem mo_some (he : PE X e (tI T C X.K E ma)) : PO X (some e) (tO T C X.K E (.idx ma)) := ⟨fun pins s σ H Q I ⟨L, F, μ, S, env, sr, er, h⟩ => (po_some he).run pins s σ H Q I (by
    refine tI_seq sr er h fun F1 μ1 H1 S1 w x x1 s1 e1 r1 h1 => ?_
    cases w with
    | int i => exact ⟨i, r1.int_inv, h1 F1 μ1 H1 (some i) .refl s1 rfl⟩
    | _ => exact h1.elim)⟩
theorem tO_seq {T : Tb} {C : Ctx} {K : PySem.W.Frag} {E : XK} {L : List Nat} {F H : Hp} {μ : List Addr} {S : Sto} {env : Env} {σ : L2.St} {α β : Type} {a : M} {f : W → Sto → Out α} {R : Hp → List Addr → α → β → Prop} {Q : β → Hp → Prop} {Q' : Option Int → Hp → Prop} (sr : SR T K L F H μ S) (er : ER T K F μ env σ) (h : OR T K E L F μ H ((ev C L a env S).bind f) R Q)
    (k : ∀ F1 μ1 H1 S1 w o, Ext L F μ H F1 μ1 H1 → SR T K L F1 H1 μ1 S1 → ER T K F1 μ1 env σ → w.bd = some o → OR T K E L F1 μ1 H1 (f w S1) R Q → Q' o H1) : tO T C K E a σ H Q' := by
  refine ⟨L, F, μ, S, env, sr, er, ?_⟩
  cases e : ev C L a env S with
  | ok w S1 =>
    rw [e] at h
    intro F1 μ1 H1 v x s r
    exact k F1 μ1 H1 S1 w v x s (er.ext x) r (OR.later x h)
  | ex c p S1 => rw [e] at h; exact h
  | bad => rw [e] at h; exact h
theorem cut_rel {K : PySem.W.Frag} {F : Hp} {μ : List Addr} {l : List W} {vs : List V} (r : RWs T K F μ l vs) (lo hi : Option Int) : RWs T K F μ (cutW l lo hi) (cutV vs lo hi) := by
  unfold cutW cutV
  rw [← r.length]
  exact (r.drop _).take _
theorem m_sl {lo hi : Option Expr} {ml mh : M} {p2 : Pos} (ha : PE X a (tI T C X.K E ma)) (hl : PO X lo (tO T C X.K E ml)) (hh : PO X hi (tO T C X.K E mh)) : PE X (.Subscript a (.Slice lo hi none p2) pos) (tI T C X.K E (.sl ma ml mh)) :=
  (pe_slice (sl_list.or sl_tupA) ha hl hh).imp fun σ H Q ⟨L, F, μ, S, env, sr, er, h⟩ =>
    tI_seq sr er h fun F1 μ1 H1 S1 w x x1 s1 e1 r1 h1 => tO_seq s1 e1 h1 fun F2 μ2 H2 S2 wl l x2 s2 e2 rl h2 => tO_seq s2 e2 h2 fun F3 μ3 H3 S3 wh u x3 s3 e3 rh h3 => by
      obtain ⟨z, e, g⟩ := h3.of_
      have r3 := (r1.ext x2).ext x3
      unfold slW at e
      rw [rl, rh] at e
      simp only at e
      split at e
      · cases e
        obtain ⟨vs, p, rfl, q1, _, q2⟩ := r3.tup_inv
        refine .inr ⟨p, vs, rfl, s3.sqT q1, fun hz => ?_, fun _ p' hp => g.newT s3 (cut_rel q2 _ _) p' hp⟩
        have hz' := hz
        rw [← q2.length] at hz
        refine g.fin s3 ?_
        rename_i l' _
        have : cutW l' l u = l' := by
          unfold cutW
          rw [hz.1, hz.2, List.drop_zero, Nat.sub_zero, List.take_length]
        rw [this]
        exact r3
      · obtain ⟨l', e', rfl⟩ := Option.map_eq_some_iff.mp e
        obtain ⟨vs, p, rfl, q1, q2⟩ := lis_ok s3 e' r3
        exact .inl ⟨p, vs, rfl, .inl (.inl q1), fun p' hp => g.newL s3 (cut_rel q2 _ _) p' hp⟩
/-! ### arguments, displays -/
theorem ma_nil : PA X [] (tA T C X.K E .nil) := pa_nil.imp fun σ H Q ⟨L, F, μ, S, env, sr, er, h⟩ => h F μ H [] .refl sr ⟨[], rfl, .nil⟩
theorem ma_cons {es : List Expr} (ha : PE X e (tI T C X.K E ma)) (hr : PA X es (tA T C X.K E mb)) (hs : starEach (e :: es) X.env = (false, eval e X.env) :: starEach es X.env) : PA X (e :: es) (tA T C X.K E (.cons ma mb)) :=
  (pa_cons ha hr hs).imp fun σ H Q ⟨L, F, μ, S, env, sr, er, h⟩ => tI_seq sr er h fun F1 μ1 H1 S1 w x x1 s1 e1 r1 h1 => tA_seq s1 e1 h1 fun F2 μ2 H2 S2 ws xs x2 s2 e2 r2 h2 =>
    h2 F2 μ2 H2 (x :: xs) .refl s2 ⟨w :: ws, rfl, .cons (r1.ext x2) r2⟩
theorem mk_nil : PK X [] (tA T C X.K E .nil) := ⟨fun pos pins s σ H Q I ⟨L, F, μ, S, env, sr, er, h⟩ => pk_nil.run pos pins s σ H Q I (h F μ H [] .refl sr ⟨[], rfl, .nil⟩)⟩
theorem mk_cons {kws : List Keyword} {nm : Option Str} {kpos : Pos} (ha : PE X e (tI T C X.K E ma)) (hr : PK X kws (tA T C X.K E mb)) : PK X (⟨nm, e, kpos⟩ :: kws) (tA T C X.K E (.cons ma mb)) :=
  ⟨fun pos pins s σ H Q I ⟨L, F, μ, S, env, sr, er, h⟩ => (pk_cons ha hr).run pos pins s σ H Q I (tI_seq sr er h fun F1 μ1 H1 S1 w x x1 s1 e1 r1 h1 => tA_seq s1 e1 h1 fun F2 μ2 H2 S2 ws xs x2 s2 e2 r2 h2 =>
    h2 F2 μ2 H2 (x :: xs) .refl s2 ⟨w :: ws, rfl, .cons (r1.ext x2) r2⟩)⟩
theorem m_tup {es : List Expr} {x1 : Nat} (h : PA X es (tA T C X.K E ma)) : PE X (.Tuple es x1 pos) (tI T C X.K E (.tup ma)) :=
  (pe_tup h).imp fun σ H Q ⟨L, F, μ, S, env, sr, er, h⟩ => tA_seq sr er h fun F2 μ2 H2 S2 ws xs x2 s2 e2 r2 h2 => by
    dsimp only at h2
    split at h2
    · rename_i hl
      exact ⟨by rw [← r2.length]; exact hl, fun p hp => h2.newT s2 r2 p hp⟩
    · exact h2.elim
theorem m_lst {es : List Expr} (h : PA X es (tA T C X.K E ma)) : PE X (.List es pos) (tI T C X.K E (.lst ma)) :=
  (pe_lst h).imp fun σ H Q ⟨L, F, μ, S, env, sr, er, h⟩ => tA_seq sr er h fun F2 μ2 H2 S2 ws xs x2 s2 e2 r2 h2 => by
    dsimp only at h2
    split at h2
    · rename_i hl
      exact ⟨by rw [← r2.length]; exact hl, fun p hp => h2.newL s2 r2 p hp⟩
    · exact h2.elim
theorem m_slst {es : List Expr} (h : PA X es (tA T C X.K E ma)) : PE X (.List es pos) (tI T C X.K E (.slst ma)) :=
  (pe_lst h).imp fun σ H Q ⟨L, F, μ, S, env, sr, er, h⟩ => tA_seq sr er h fun F2 μ2 H2 S2 ws xs x2 s2 e2 r2 h2 => by
    dsimp only at h2
    split at h2
    · rename_i hl
      refine ⟨by rw [← r2.length]; exact hl, fun p hp => ?_⟩
      obtain ⟨s3, x3, h3⟩ := s2.newAt hp (o := .lst xs) (nd := .lst ws) ⟨xs, rfl, r2.mono (fun _ _ e => e) ⟨[p], rfl⟩⟩
      exact h2 _ _ _ _ x3 s3 (.ref h3)
    · exact h2.elim
theorem m_fld {f : Nat} {x : Str} (hx : T.ats[f]? = some x) (ha : T.Ok) (hc : ∀ (c : Nat) D, T.obs[c]? = some D → Cls X.K D ∧ NoAttr X.K D x) (he : PE X e (tI T C X.K E ma)) (hb : attributeBase e x X.env (eval e X.env) = eval e X.env) :
    PE X (.Attribute e x pos) (tI T C X.K E (.fld ma f)) :=
  (pe_fld he hb).imp fun σ H Q ⟨L, F, μ, S, env, sr, er, h⟩ => tI_seq sr er h fun F1 μ1 H1 S1 w v x1 s1 e1 r1 h1 => by
    split at h1
    · rename_i n
      split at h1
      · rename_i c fs hn
        obtain ⟨z, e, g⟩ := h1.of_
        obtain ⟨a, o, ha', _, hr, _, hd⟩ := s1.get hn
        obtain ⟨a', rfl, ha2⟩ := r1.ref_inv
        rw [ha'] at ha2; cases ha2
        obtain ⟨D, dx, vs, h2, rfl, h3⟩ := hr
        have ho : H1 a = some (.ins D dx vs) := by
          rcases hd with hd | ⟨od, hd⟩
          · exact hd
          · obtain ⟨h4, o', h5, h6⟩ := s1.at_ n _ a hn ha'
            rcases h6 with h6 | ⟨_, h6, _⟩
            · rw [h6] at hd; cases hd; obtain ⟨_, _, _, _, h7, _⟩ := h5; cases h7
            · cases h6
        have lk : ∀ {fs : List (Nat × W)} {vs : List (Str × V)}, Paired (fun (p : Nat × W) (q : Str × V) => T.ats[p.1]? = some q.1 ∧ RW T X.K F1 μ1 p.2 q.2) fs vs → fs.lookup f = some z → ∃ v, vs.lookup x = some v ∧ RW T X.K F1 μ1 z v := by
          intro fs vs hp hl
          induction hp with
          | nil => cases hl
          | @cons p q fs vs r t ih =>
            by_cases e : f = p.1
            · rw [List.lookup_cons, show (f == p.1) = true by simp [e]] at hl
              refine ⟨q.2, ?_, by cases hl; exact r.2⟩
              rw [List.lookup_cons, show (x == q.1) = true by rw [beq_iff_eq]; have := r.1; rw [← e, hx] at this; exact Option.some.inj this]
            · rw [List.lookup_cons, show (f == p.1) = false by simp [e]] at hl
              obtain ⟨v, h1, h2⟩ := ih hl
              refine ⟨v, ?_, h2⟩
              rw [List.lookup_cons, show (x == q.1) = false by
                rw [beq_eq_false_iff_ne]; intro z'; exact e (nodup_ixS ha.an hx (by rw [z']; exact r.1))]
              exact h1
        obtain ⟨v, h4, h5⟩ := lk h3 e
        exact ⟨a, D, dx, vs, v, rfl, ho, (hc _ _ h2).1, (hc _ _ h2).2, h4, g.fin s1 h5⟩
      · exact h1.elim
    · exact h1.elim
end
end Mi

/-! calls: of the module's defs, of built-ins -/
namespace Mi
open PySem PySem.Spec PyProof.Rows L2
/-- what the module has under a name does as the def f of the table, called with n places and the names ks -/
structure FunAt (P : Program) (w : World) (K : PySem.W.Frag) (mg : PySem.Str → Option Value) (base : Heap) (T : Tb) (C : Ctx) (k f : Nat) (x : PySem.Str) (n : Nat) (ks : List PySem.Str) : Prop where
  ex : ∃ a fd ps g gV sp, FnOk P w K mg base (CX P w) k a fd ps sp ∧ mg x = some (.ref a) ∧ PySem.W.keepIn K (.ref a) = true ∧ KBn K fd ps n ks g gV ∧
    ∀ vs zs H Q E, spF T K (C.fn f) (vs ++ zs) H Q E → vs.length = n → zs.length = ks.length → sp (gV vs zs) H Q E
theorem FunAt.mono {P : Program} {w : World} {K : PySem.W.Frag} {mg : PySem.Str → Option Value} {base : Heap} {T : Tb} {C : Ctx} {k k' f : Nat} {x : PySem.Str} {n : Nat} {ks : List PySem.Str} (h : FunAt P w K mg base T C k f x n ks) (le : k ≤ k') : FunAt P w K mg base T C k' f x n ks := by
  obtain ⟨a, fd, ps, g, gV, sp, h1, h2⟩ := h.ex
  exact ⟨a, fd, ps, g, gV, sp, h1.mono le, h2⟩
section
variable {X : Cx} {T : Tb} {C : Ctx} {E : XK} {e a b c : Expr} {pos p : Pos} {ma mb mc : M} {es : List Expr} {kws : List Keyword}
theorem m_call {k f : Nat} {x : PySem.Str} {ks : List PySem.Str} (hf : FunAt X.prog X.w X.K X.mg X.base T C k f x (e :: es).length ks) (hr : Room k X.A) (hg : Gl X x) (hx : Passes (CX X.prog X.w) X E) (ha : PA X (e :: es) (tA T C X.K E ma)) (hkw : PK X kws (tA T C X.K E mb))
    (la : ∀ L env S S' l, ev C L ma env S = .ok (.tup l) S' → l.length = (e :: es).length) (lb : ∀ L env S S' l, ev C L mb env S = .ok (.tup l) S' → l.length = ks.length)
    (hall : (backToKw pos (keywordEach kws X.env)).all (·.1.isSome) = true) (hks : (backToKw pos (keywordEach kws X.env)).filterMap (·.1) = ks)
    (hdb : (x == ("__debug__" : Str)) = false) (he : starEach (e :: es) X.env = (false, eval e X.env) :: starEach es X.env)
    (hpl : ((backTo pos (starEach (e :: es) X.env)).any (·.1) || (backToKw pos (keywordEach kws X.env)).any (·.1.isNone)) = false) :
    PE X (.Call (.Name x p) (e :: es) kws pos) (tI T C X.K E (.call f ma mb)) := by
  obtain ⟨fa, fd, ps, g, gV, sp, h1, h2, h3, h4, h5⟩ := hf.ex
  refine (pe_callN h1 hr hg h2 h3 h4 hx ha hkw hall hks hdb he hpl).imp fun σ H Q ⟨L, F, μ, S, env, sr, er, h⟩ => ?_
  have la' := la L env S
  refine ⟨L, F, μ, S, env, sr, er, ?_⟩
  cases e1 : ev C L ma env S with
  | ex c p S1 => simp only [ev, e1, Out.bind_ex] at h; exact h
  | bad => simp only [ev, e1, Out.bind_bad] at h; exact h
  | ok w S1 =>
    simp only [ev, e1, Out.bind_ok] at h
    rintro F1 μ1 H1 vs x1 s1 ⟨ws, rfl, r1⟩
    have n1 := la' _ _ e1
    refine ⟨L, F1, μ1, S1, env, s1, er.ext x1, ?_⟩
    have lb' := lb L env S1
    cases e2 : ev C L mb env S1 with
    | ex c p S1 => simp only [e2, Out.bind_ex] at h; exact OR.later (R := RWv T X.K) (o := .ex c p S1) x1 h
    | bad => simp only [e2, Out.bind_bad] at h; exact h
    | ok w S2 =>
      simp only [e2, Out.bind_ok] at h
      rintro F2 μ2 H2 zs x2 s2 ⟨us, rfl, r2⟩
      have n2 := lb' _ _ e2
      have m1 : vs.length = (e :: es).length := by rw [← r1.length, n1]
      have m2 : zs.length = ks.length := by rw [← r2.length, n2]
      exact ⟨m1, m2, h5 _ _ _ _ _ ⟨L, F2, μ2, S2, ws ++ us, s2, (r1.ext x2).append r2, OR.later (x1.trans x2) h⟩ m1 m2⟩
theorem m_call0 {k f : Nat} {x : PySem.Str} (hf : FunAt X.prog X.w X.K X.mg X.base T C k f x 0 []) (hr : Room k X.A) (hg : Gl X x) (hx : Passes (CX X.prog X.w) X E) (hdb : (x == ("__debug__" : Str)) = false) :
    PE X (.Call (.Name x p) [] [] pos) (tI T C X.K E (.call f .nil .nil)) := by
  obtain ⟨fa, fd, ps, g, gV, sp, h1, h2, h3, h4, h5⟩ := hf.ex
  have hv : Vals (gV [] []) (g [] []) := h4.rel .nil .nil
  by_cases hl : (g [] []).length = ps.length
  · have hb : Binds X.K fd ps (g [] []) := fun s us hin hn => by
      have : us = [] := by
        have := List.length_append (as := us) (bs := g [] [])
        have : us.length = 0 := by omega
        exact List.length_eq_zero_iff.mp this
      subst this
      simpa using h4.to s [] [] hin rfl rfl
    exact (pe_call0 h1 hr hg h2 h3 hb hv hx hdb).imp fun σ H Q ⟨L, F, μ, S, env, sr, er, h⟩ =>
      h5 [] [] _ _ _ ⟨L, F, μ, S, [], sr, .nil, h⟩ rfl rfl
  · refine ⟨fun pins s σ H Q I ⟨L, F, μ, S, env, sr, er, h⟩ => (hl ?_).elim⟩
    have := h1.len _ _ _ _ (h5 [] [] H Q E ⟨L, F, μ, S, [], sr, .nil, h⟩ rfl rfl)
    rw [← this, ← hv.length]
/-! ### built-ins -/
def CB (T : Tb) (X : Cx) (f : Value) (b : Bi) (r : List V → Hp → VK → Prop) : Prop :=
  CallR X f r ∧ ∀ (E : XK) (L : List Nat) (F H : Hp) (μ : List Addr) (S : Sto) (ws : List W) (vs : List V) (z : W) (Q : VK), SR T X.K L F H μ S → RWs T X.K F μ ws vs → biW S b ws = some z → OR T X.K E L F μ H (.ok z S) (RWv T X.K) Q → r vs H Q
theorem one_some {f : W → Option W} {l : List W} {w : W} (h : one f l = some w) : ∃ a, l = [a] ∧ f a = some w := by
  unfold one at h
  split at h
  · exact ⟨_, rfl, h⟩
  · cases h
theorem two_some {f : W → W → Option W} {l : List W} {w : W} (h : two f l = some w) : ∃ a b, l = [a, b] ∧ f a b = some w := by
  unfold two at h
  split at h
  · exact ⟨_, _, rfl, h⟩
  · cases h
section
variable {K : PySem.W.Frag} {F : Hp} {μ : List Addr}
theorem RWs.one_inv {a : W} {vs : List V} (r : RWs T K F μ [a] vs) : ∃ v, vs = [v] ∧ RW T K F μ a v := by
  cases r with | cons h t => cases t; exact ⟨_, rfl, h⟩
theorem RWs.two_inv {a b : W} {vs : List V} (r : RWs T K F μ [a, b] vs) : ∃ v u, vs = [v, u] ∧ RW T K F μ a v ∧ RW T K F μ b u := by
  cases r with | cons h t => cases t with | cons h2 t => cases t; exact ⟨_, _, rfl, h, h2⟩
theorem RWs.bls_inv : ∀ {l : List W} {vs : List V} {bs : List Bool}, RWs T K F μ l vs → allBls l = some bs → vs = bs.map V.bl
  | _, _, _, .nil, h => by simp [allBls] at h; subst h; rfl
  | w :: l, _, _, .cons r t, h => by
    cases w <;> simp [allBls] at h
    obtain ⟨bs, h1, rfl⟩ := h
    rw [r.bl_inv, t.bls_inv h1]; rfl
theorem RWs.ints_inv : ∀ {l : List W} {vs : List V} {bs : List Int}, RWs T K F μ l vs → allInts l = some bs → vs = bs.map V.int
  | _, _, _, .nil, h => by simp [allInts] at h; subst h; rfl
  | w :: l, _, _, .cons r t, h => by
    cases w <;> simp [allInts] at h
    obtain ⟨bs, h1, rfl⟩ := h
    rw [r.int_inv, t.ints_inv h1]; rfl
end
theorem cb_len : ∃ r, CB T X (.builtin "len") .len r := by
  refine ⟨_, call_len, fun E L F H μ S ws vs z Q sr rs e h => ?_⟩
  obtain ⟨a, rfl, e1⟩ := one_some e
  obtain ⟨v, rfl, r⟩ := rs.one_inv
  obtain ⟨n, e2, rfl⟩ := Option.map_eq_some_iff.mp e1
  refine ⟨v, n, rfl, ?_, h.fin sr (.int _)⟩
  unfold lenW at e2
  split at e2
  · cases e2
    obtain ⟨us, p, rfl, h1, _, q⟩ := r.tup_inv
    exact .inr ⟨us, sr.sqT h1, q.length⟩
  · cases e2
    obtain ⟨us, p, rfl, h1, q⟩ := r.lst_inv
    exact .inl ⟨us, .inl (.inl (sr.sub _ _ h1)), q.length⟩
  · cases e2
    cases r with | scr h1 =>
    exact .inl ⟨_, sr.sqL h1, by simp⟩
  · split at e2
    · rename_i l hl
      cases e2
      obtain ⟨us, p, rfl, h1, q⟩ := lis_ok (l := l) sr (by simp [W.lis, hl]) r
      exact .inl ⟨us, .inl (.inl h1), q.length⟩
    · cases e2
  · cases e2
theorem cb_max2 (hc : X.calm = true) : ∃ r, CB T X (.builtin "max") .max2 r := by
  refine ⟨_, call_max2 hc, fun E L F H μ S ws vs z Q sr rs e h => ?_⟩
  obtain ⟨a, b, rfl, e1⟩ := two_some e
  obtain ⟨v, u, rfl, r, r'⟩ := rs.two_inv
  obtain ⟨i, j, rfl, rfl, e2⟩ := int2_some e1
  cases e2
  exact ⟨i, j, by rw [r.int_inv, r'.int_inv], h.fin sr (.int _)⟩
theorem cb_min2 (hc : X.calm = true) : ∃ r, CB T X (.builtin "min") .min2 r := by
  refine ⟨_, call_min2 hc, fun E L F H μ S ws vs z Q sr rs e h => ?_⟩
  obtain ⟨a, b, rfl, e1⟩ := two_some e
  obtain ⟨v, u, rfl, r, r'⟩ := rs.two_inv
  obtain ⟨i, j, rfl, rfl, e2⟩ := int2_some e1
  cases e2
  exact ⟨i, j, by rw [r.int_inv, r'.int_inv], h.fin sr (.int _)⟩
theorem cb_tuple : ∃ r, CB T X (.type "tuple") .tuple r := by
  refine ⟨_, call_tuple_of, fun E L F H μ S ws vs z Q sr rs e h => ?_⟩
  obtain ⟨a, rfl, e1⟩ := one_some e
  obtain ⟨v, rfl, r⟩ := rs.one_inv
  split at e1
  · cases e1
    obtain ⟨us, p, rfl, h1, _, q⟩ := r.tup_inv
    exact ⟨p, us, rfl, .inr ⟨sr.sqT h1, h.fin sr r⟩⟩
  · obtain ⟨l, e2, rfl⟩ := Option.map_eq_some_iff.mp e1
    obtain ⟨us, p, rfl, h1, q⟩ := lis_ok sr e2 r
    exact ⟨p, us, rfl, .inl ⟨.inl (.inl h1), fun p' hp => h.newT sr q p' hp⟩⟩
theorem cb_list : ∃ r, CB T X (.type "list") .list r := by
  refine ⟨_, call_list_of, fun E L F H μ S ws vs z Q sr rs e h => ?_⟩
  obtain ⟨a, rfl, e1⟩ := one_some e
  obtain ⟨v, rfl, r⟩ := rs.one_inv
  split at e1
  · cases e1
    obtain ⟨us, p, rfl, h1, _, q⟩ := r.tup_inv
    exact ⟨p, us, rfl, .inr (sr.sqT h1), fun p' hp => h.newL sr q p' hp⟩
  · obtain ⟨l, e2, rfl⟩ := Option.map_eq_some_iff.mp e1
    obtain ⟨us, p, rfl, h1, q⟩ := lis_ok sr e2 r
    exact ⟨p, us, rfl, .inl (.inl (.inl h1)), fun p' hp => h.newL sr q p' hp⟩
theorem cb_any (hc : X.calm = true) : ∃ r, CB T X (.builtin "any") .any r := by
  refine ⟨_, cr_any hc, fun E L F H μ S ws vs z Q sr rs e h => ?_⟩
  obtain ⟨a, rfl, e1⟩ := one_some e
  obtain ⟨v, rfl, r⟩ := rs.one_inv
  obtain ⟨bs, e2, rfl⟩ := Option.map_eq_some_iff.mp e1
  cases a <;> simp only [W.bls, reduceCtorEq] at e2
  obtain ⟨us, p, rfl, h1, q⟩ := r.lst_inv
  exact ⟨p, bs, rfl, by rw [← q.bls_inv e2]; exact .inl (.inl (sr.sub _ _ h1)), h.fin sr (.bl _)⟩
theorem cb_all (hc : X.calm = true) : ∃ r, CB T X (.builtin "all") .all r := by
  refine ⟨_, cr_all hc, fun E L F H μ S ws vs z Q sr rs e h => ?_⟩
  obtain ⟨a, rfl, e1⟩ := one_some e
  obtain ⟨v, rfl, r⟩ := rs.one_inv
  obtain ⟨bs, e2, rfl⟩ := Option.map_eq_some_iff.mp e1
  cases a <;> simp only [W.bls, reduceCtorEq] at e2
  obtain ⟨us, p, rfl, h1, q⟩ := r.lst_inv
  exact ⟨p, bs, rfl, by rw [← q.bls_inv e2]; exact .inl (.inl (sr.sub _ _ h1)), h.fin sr (.bl _)⟩
theorem cb_sum (hc : X.calm = true) : ∃ r, CB T X (.builtin "sum") .sum r := by
  refine ⟨_, cr_sum hc, fun E L F H μ S ws vs z Q sr rs e h => ?_⟩
  obtain ⟨a, rfl, e1⟩ := one_some e
  obtain ⟨v, rfl, r⟩ := rs.one_inv
  obtain ⟨bs, e2, rfl⟩ := Option.map_eq_some_iff.mp e1
  cases a <;> simp only [W.ints, reduceCtorEq] at e2
  obtain ⟨us, p, rfl, h1, q⟩ := r.lst_inv
  exact ⟨p, bs, rfl, by rw [← q.ints_inv e2]; exact .inl (.inl (sr.sub _ _ h1)), h.fin sr (.int _)⟩
theorem m_biB {x : PySem.Str} {id : String} {bi : Bi} (hb : ∃ r, CB T X (.builtin id) bi r) (hg : Gl X x) (hm : X.mg x = none) (hv : bootBuiltins x = some (.builtin id)) (ha : PA X (e :: es) (tA T C X.K E ma)) (hn : x ≠ "__name__") (hdb : (x == ("__debug__" : Str)) = false)
    (he : starEach (e :: es) X.env = (false, eval e X.env) :: starEach es X.env) (hpl : (backTo pos (starEach es X.env)).any (·.1) = false) : PE X (.Call (.Name x p) (e :: es) [] pos) (tI T C X.K E (.bi bi ma)) := by
  obtain ⟨r, h1, h2⟩ := hb
  exact (pe_callB h1 hg hm hv ha hn hdb he hpl).imp fun σ H Q ⟨L, F, μ, S, env, sr, er, h⟩ => tA_seq sr er h fun F2 μ2 H2 S2 ws xs x2 s2 e2 r2 h => by
    obtain ⟨z, e, g⟩ := h.of_
    exact h2 _ _ _ _ _ _ _ _ _ _ s2 r2 e g
theorem m_biT {x : PySem.Str} {id : String} {bi : Bi} (hb : ∃ r, CB T X (.type id) bi r) (hg : Gl X x) (hm : X.mg x = none) (hv : bootBuiltins x = some (.type id)) (ha : PA X (e :: es) (tA T C X.K E ma)) (hn : x ≠ "__name__") (hdb : (x == ("__debug__" : Str)) = false)
    (he : starEach (e :: es) X.env = (false, eval e X.env) :: starEach es X.env) (hpl : (backTo pos (starEach es X.env)).any (·.1) = false) : PE X (.Call (.Name x p) (e :: es) [] pos) (tI T C X.K E (.bi bi ma)) := by
  obtain ⟨r, h1, h2⟩ := hb
  exact (pe_callTy h1 hg hm hv ha hn hdb he hpl).imp fun σ H Q ⟨L, F, μ, S, env, sr, er, h⟩ => tA_seq sr er h fun F2 μ2 H2 S2 ws xs x2 s2 e2 r2 h => by
    obtain ⟨z, e, g⟩ := h.of_
    exact h2 _ _ _ _ _ _ _ _ _ _ s2 r2 e g
/-- isinstance with a built-in class -/
theorem tyB_is {K : PySem.W.Frag} {L : List Nat} {F H : Hp} {μ : List Addr} {S : Sto} {w : W} {v : V} {s : String} (sr : SR T K L F H μ S) (r : RW T K F μ w v) (h : w.tyB = some s) : TyX K H v (.type s) := by
  cases r <;> simp only [W.tyB, Option.some.injEq, reduceCtorEq] at h <;> subst h
  · exact .base .non
  · exact .base (.bl _)
  · exact .base (.int _)
  · exact .base (.str _)
  · exact .base (.str _)
  · rename_i h1 _ _
    rcases sr.sqT h1 with (h | ⟨o, h⟩) | ⟨o, its, n, h, hc, _⟩
    · exact .base (.tup h)
    · exact .fTuple h
    · exact .kTuple h hc
  · rename_i h1 _
    exact .base (.lst (sr.sub _ _ h1))
  · rename_i h1
    rcases sr.sqL h1 with (h | ⟨o, h⟩) | ⟨o, its, n, h, hc, _⟩
    · exact .base (.lst h)
    · exact .base (.frz h)
    · exact .kList h hc
theorem m_isi {bi : Bi} {x t : PySem.Str} {ty : String} {p' : Pos} (hbi : ∀ S l, biW S bi l = one (isTyW ty) l) (hk : ∀ s ∈ ["NoneType", "bool", "int", "str", "tuple", "list"], kitB s ty = some (s == ty || (s == "bool" && ty == "int")))
    (hx : x = "isinstance") (hg : Gl X x) (hm : X.mg x = none) (hg' : Gl X t) (hm' : X.mg t = none) (hv' : bootBuiltins t = some (.type ty)) (hn' : t ≠ "__name__") (hdb' : (t == ("__debug__" : Str)) = false)
    (he : PE X e (tI T C X.K E ma)) (hs : starEach [e, .Name t p'] X.env = (false, eval e X.env) :: starEach [.Name t p'] X.env) :
    PE X (.Call (.Name x p) [e, .Name t p'] [] pos) (tI T C X.K E (.bi bi (.cons ma .nil))) := by
  subst hx
  refine (pe_callB (id := "isinstance") call_isi hg hm (by decide +kernel) (pa_cons he (pa_cons (pe_bltn hg' hm' hv' (v := .ty ty) rfl hn' hdb') pa_nil rfl) hs) (by decide) (by decide) hs rfl).imp fun σ H Q ⟨L, F, μ, S, env, sr, er, h⟩ => ?_
  simp only [ev] at h
  have h' : OR T X.K E L F μ H ((ev C L ma env S).bind fun x S1 => Out.of (biW S1 bi [x]) S1) (RWv T X.K) Q := by
    cases e1 : ev C L ma env S <;> rw [e1] at h <;> exact h
  refine tI_seq sr er h' fun F1 μ1 H1 S1 w x x1 s1 e1 r1 h1 => ?_
  obtain ⟨z, e, g⟩ := h1.of_
  rw [hbi] at e
  obtain ⟨a, e0, e1⟩ := one_some e
  cases e0
  obtain ⟨s, e2, rfl⟩ := Option.map_eq_some_iff.mp e1
  refine ⟨x, .ty ty, _, _, _, rfl, .ty ty, tyB_is s1 r1 e2, kit_ty (hk s ?_), g.fin s1 (.bl _)⟩
  cases w <;> simp only [W.tyB, Option.some.injEq, reduceCtorEq] at e2 <;> subst e2 <;> decide
/-- list(range(a, b)) -/
theorem m_lrng {p2 q : Pos} (hc : X.calm = true) (hg : Gl X "list") (hm : X.mg "list" = none) (hg2 : Gl X "range") (hm2 : X.mg "range" = none) (ha : PE X a (tI T C X.K E ma)) (hb : PE X b (tI T C X.K E mb))
    (na : starEach [a, b] X.env = (false, eval a X.env) :: starEach [b] X.env) (nb : starEach [b] X.env = (false, eval b X.env) :: starEach [] X.env) (hp : (backTo q (starEach [b] X.env)).any (·.1) = false) :
    PE X (.Call (.Name "list" p) [.Call (.Name "range" p2) [a, b] [] q] [] pos) (tI T C X.K E (.bi .lrng (.cons ma (.cons mb .nil)))) := by
  refine (pe_listRg hc hg hm (prg_2 hg2 hm2 ha hb na nb hp) rfl).imp fun σ H Q ⟨L, F, μ, S, env, sr, er, h⟩ => ?_
  have h' : OR T X.K E L F μ H ((ev C L ma env S).bind fun x S1 => (ev C L mb env S1).bind fun y S2 => Out.of (biW S2 .lrng [x, y]) S2) (RWv T X.K) Q := by
    simp only [ev] at h
    cases e1 : ev C L ma env S with
    | ok w S1 =>
      rw [e1] at h
      simp only [Out.bind_ok] at h ⊢
      cases e2 : ev C L mb env S1 <;> rw [e2] at h <;> exact h
    | ex _ _ _ => rw [e1] at h; exact h
    | bad => rw [e1] at h; exact h
  refine tI_seq2 sr er h' fun F2 μ2 H2 S2 w u x y _ s2 _ r r' h => ?_
  obtain ⟨z, e, g⟩ := h.of_
  simp only [biW] at e
  obtain ⟨_, _, e0, e1⟩ := two_some e
  cases e0
  obtain ⟨i, j, rfl, rfl, e2⟩ := int2_some e1
  obtain ⟨⟨c1, c2, c3, c4, c5⟩, rfl⟩ := ite_some e2
  refine ⟨i, j, r.int_inv, r'.int_inv, ⟨c1, c2, c3, c4, c5⟩, fun q hq => g.newL s2 ?_ q hq⟩
  unfold rgV
  generalize (List.range (j - i).toNat) = l
  induction l with
  | nil => exact .nil
  | cons n l ih => exact .cons (.int _) ih
end
end Mi

/-! targets, what is walked, comprehensions -/
namespace Mi
open PySem PySem.Spec PyProof.Rows L2
noncomputable section
/-! ### locks, hidden places -/
section
variable {T : Tb} {C : Ctx} {K : PySem.W.Frag} {E : XK} {L lk : List Nat} {F H F1 H1 : Hp} {μ μ1 : List Addr} {S S1 : Sto} {env : Env} {σ : L2.St}
theorem SR.more (s : SR T K L F H μ S) (h : ∀ n ∈ lk, n < S.length) : SR T K (lk ++ L) F H μ S where
  len := s.len
  nd := s.nd
  sub := s.sub
  tab := s.tab
  ft := s.ft
  at_ := fun n nd a e1 e2 => by
    obtain ⟨h1, o, h2, h3⟩ := s.at_ n nd a e1 e2
    refine ⟨h1, o, h2, ?_⟩
    rcases h3 with h3 | ⟨h3, h4⟩
    · exact .inl h3
    · exact .inr ⟨List.mem_append_right _ h3, h4⟩
  lb := fun n hn => by
    rcases List.mem_append.mp hn with h' | h'
    · exact h n h'
    · exact s.lb n h'
/-- later on, but for one place -/
structure Ext0 (L : List Nat) (F : Hp) (μ : List Addr) (H F' : Hp) (μ' : List Addr) (H' : Hp) : Prop where
  f : ∀ a o, F a = some o → F' a = some o
  m : ∃ more, μ' = μ ++ more
  l : ∀ n ∈ L, ∀ a, μ[n]? = some a → H' a = H a
theorem Ext.to0 (x : Ext L F1 μ1 H1 F μ H) : Ext0 L F1 μ1 H1 F μ H := ⟨x.f, x.m, x.l⟩
theorem Ext0.refl : Ext0 L F μ H F μ H := ⟨fun _ _ e => e, ⟨[], by simp⟩, fun _ _ _ _ => rfl⟩
theorem Ext0.trans {F2 H2 : Hp} {μ2 : List Addr} (a : Ext0 L F μ H F1 μ1 H1) (b : Ext0 L F1 μ1 H1 F2 μ2 H2) : Ext0 L F μ H F2 μ2 H2 := by
  obtain ⟨m1, e1⟩ := a.m
  obtain ⟨m2, e2⟩ := b.m
  refine ⟨fun x o e => b.f x o (a.f x o e), ⟨m1 ++ m2, by rw [e2, e1, List.append_assoc]⟩, fun n hn x hx => ?_⟩
  rw [b.l n hn x (by rw [e1]; exact get_app hx), a.l n hn x hx]
theorem Ext0.less (x : Ext0 (lk ++ L) F1 μ1 H1 F μ H) : Ext0 L F1 μ1 H1 F μ H := ⟨x.f, x.m, fun n hn => x.l n (List.mem_append_right _ hn)⟩
theorem Ext0.only (x : Ext0 (lk ++ L) F1 μ1 H1 F μ H) : Ext0 lk F1 μ1 H1 F μ H := ⟨x.f, x.m, fun n hn => x.l n (List.mem_append_left _ hn)⟩
theorem Ext0.hid (x : Ext0 L F1 μ1 H1 F μ H) {D : Addr} {o : HO} (hμ : D ∉ μ) : Ext0 L F1 μ1 H1 F μ (upd H D o) := ⟨x.f, x.m, fun n hn a ha => by
  have : a ≠ D := fun z => hμ (by obtain ⟨more, e⟩ := x.m; rw [e, ← z]; exact List.mem_append_left _ (List.mem_of_getElem? ha))
  rw [upd_ne this]; exact x.l n hn a ha⟩
theorem ER.ext0 (r : ER T K F μ env σ) (x : Ext0 L F μ H F1 μ1 H1) : ER T K F1 μ1 env σ := ⟨r.len, fun i w e => by
  obtain ⟨v, h1, h2⟩ := r.at_ i w e
  exact ⟨v, h1, h2.mono x.f x.m⟩⟩
theorem Ext.less (x : Ext (lk ++ L) F1 μ1 H1 F μ H) : Ext L F1 μ1 H1 F μ H := ⟨x.f, x.m, fun n hn => x.l n (List.mem_append_right _ hn), x.o, x.e⟩
theorem Ext.only (x : Ext (lk ++ L) F1 μ1 H1 F μ H) : Ext lk F1 μ1 H1 F μ H := ⟨x.f, x.m, fun n hn => x.l n (List.mem_append_left _ hn), x.o, x.e⟩
theorem RN.nofrz {n : Node} {o : HO} (r : RN T K F μ n o) : ∀ od u, o ≠ .frz od u := by
  intro od u z
  subst z
  cases n with
  | lst l => obtain ⟨_, h, _⟩ := r; cases h
  | dK l => obtain ⟨_, h, _⟩ := r; cases h
  | dT l => obtain ⟨_, h, _⟩ := r; cases h
  | ob c fs => obtain ⟨_, _, _, _, h, _⟩ := r; cases h
theorem SR.less (s1 : SR T K L F1 H1 μ1 S1) (x : Ext0 (lk ++ L) F1 μ1 H1 F μ H) (s : SR T K (lk ++ L) F H μ S) (h : ∀ n ∈ lk, n < S1.length) : SR T K L F H μ S where
  len := s.len
  nd := s.nd
  sub := s.sub
  tab := s.tab
  ft := s.ft
  at_ := fun n nd a e1 e2 => by
    obtain ⟨h1, o, h2, h3⟩ := s.at_ n nd a e1 e2
    refine ⟨h1, o, h2, ?_⟩
    rcases h3 with h3 | ⟨h3, h4, od, h5⟩
    · exact .inl h3
    · by_cases hn : n ∈ L
      · exact .inr ⟨hn, h4, od, h5⟩
      · have hk : n ∈ lk := (List.mem_append.mp h3).resolve_right hn
        have hlt := h n hk
        have hμ : n < μ1.length := by rw [← s1.len]; exact hlt
        have e0 : μ1[n]? = some μ1[n] := List.getElem?_eq_getElem hμ
        obtain ⟨more, rfl⟩ := x.m
        rw [get_app e0] at e2
        cases e2
        have hx := x.l n h3 _ e0
        obtain ⟨_, o1, r1, q1⟩ := s1.at_ n S1[n] _ (List.getElem?_eq_getElem hlt) e0
        rcases q1 with q1 | ⟨q1, _⟩
        · rw [h5, q1] at hx
          exact absurd (Option.some.inj hx).symm (r1.nofrz _ _)
        · exact absurd q1 hn
  lb := fun n hn => s.lb n (List.mem_append_right _ hn)
theorem SR.notin (s : SR T K L F H μ S) {D : Addr} (hD : H D = none) : F D = none ∧ D ∉ μ := by
  refine ⟨?_, fun z => ?_⟩
  · cases e : F D with
    | none => rfl
    | some o => rw [s.sub D o e] at hD; cases hD
  · obtain ⟨n, hn⟩ := List.getElem?_of_mem z
    have hlt : n < S.length := by rw [s.len]; exact (List.getElem?_eq_some_iff.mp hn).1
    obtain ⟨_, o, _, h⟩ := s.at_ n S[n] D (List.getElem?_eq_getElem hlt) hn
    rcases h with h | ⟨_, _, od, h⟩ <;> (rw [hD] at h; cases h)
/-- the place D is no one's -/
theorem SR.hid (s : SR T K L F H μ S) {D : Addr} {vs : List V} (hF : F D = none) (hμ : D ∉ μ) (hD : H D = none ∨ ∃ us, H D = some (.lst us)) : SR T K L F (upd H D (.lst vs)) μ S where
  len := s.len
  nd := s.nd
  lb := s.lb
  ft := s.ft
  sub := fun a o e => by
    have : a ≠ D := fun z => by rw [z, hF] at e; cases e
    rw [upd_ne this]; exact s.sub a o e
  at_ := fun n nd a e1 e2 => by
    have : a ≠ D := fun z => hμ (by rw [← z]; exact List.mem_of_getElem? e2)
    rw [upd_ne this]; exact s.at_ n nd a e1 e2
  tab := fun p hp => by
    obtain ⟨ps, h1, h2, h3⟩ := s.tab p hp
    have n1 : p.1 ≠ D := fun z => by
      rw [z] at h1
      rcases hD with h | ⟨us, h⟩ <;> (rw [h] at h1; cases h1)
    refine ⟨ps, by rw [upd_ne n1]; exact h1, h2, fun q cv hc => ?_⟩
    obtain ⟨c, e1, e2⟩ := h3 q cv hc
    have n2 : c ≠ D := fun z => by
      rw [z] at e2
      rcases hD with h | ⟨us, h⟩
      · rw [h] at e2; cases e2
      · rw [h] at e2; unfold LamX.CodeO at e2; cases e2
    exact ⟨c, e1, by rw [upd_ne n2]; exact e2⟩
theorem Ext.hid (x : Ext L F1 μ1 H1 F μ H) {D : Addr} {o : HO} (h1 : H1 D = none) (hμ : D ∉ μ) : Ext L F1 μ1 H1 F μ (upd H D o) := ⟨x.f, x.m, fun n hn a ha => by
  have : a ≠ D := fun z => hμ (by obtain ⟨more, e⟩ := x.m; rw [e, ← z]; exact List.mem_append_left _ (List.mem_of_getElem? ha))
  rw [upd_ne this]; exact x.l n hn a ha, fun b xs e f m => by
  have : b ≠ D := fun z => by rw [z, h1] at e; cases e
  rw [upd_ne this]; exact x.o b xs e f m, fun b φ e => by
  rw [upd_ne fun z => by rw [z, h1] at e; cases e]; exact x.e b φ e⟩
/-- the hidden list is frozen -/
theorem SR.show_ (s : SR T K L F H μ S) {D : Addr} {vs : List V} (hF : F D = none) (hμ : D ∉ μ) (hD : H D = some (.lst vs)) : SR T K L (upd F D (.lst vs)) H μ S where
  len := s.len
  nd := s.nd
  lb := s.lb
  tab := s.tab
  ft := fun a ps => by
    by_cases z : a = D
    · subst z; rw [upd_same]; exact fun z => nomatch (Option.some.inj z)
    · rw [upd_ne z]; exact s.ft a ps
  sub := fun a o e => by
    by_cases z : a = D
    · subst z; rw [upd_same] at e; rw [hD]; exact e
    · rw [upd_ne z] at e; exact s.sub a o e
  at_ := fun n nd a e1 e2 => by
    have : a ≠ D := fun z => hμ (by rw [← z]; exact List.mem_of_getElem? e2)
    obtain ⟨h1, o, h2, h3⟩ := s.at_ n nd a e1 e2
    exact ⟨by rw [upd_ne this]; exact h1, o, h2.mono (fun a o e => by rw [upd_ne (fun z => by rw [z, hF] at e; cases e)]; exact e) ⟨[], by simp⟩, h3⟩
theorem Ext.show_ (x : Ext L F1 μ1 H1 F μ H) {D : Addr} {o : HO} (h1 : H1 D = none) (hF : F D = none) : Ext L F1 μ1 H1 (upd F D o) μ H := ⟨fun a o' e => by
  have := x.f a o' e
  rw [upd_ne (fun z => by rw [z, hF] at this; cases this)]; exact this, x.m, x.l, fun b xs e f m => by
  have : b ≠ D := fun z => by rw [z, h1] at e; cases e
  rw [upd_ne this]; exact x.o b xs e f m, x.e⟩
end
/-! ### targets -/
def Tg.names : Tg → List Nat
  | .nm i => [i]
  | .nil => []
  | .cons a b => a.names ++ b.names
  | .tp a => a.names
section
variable {T : Tb} {K : PySem.W.Frag}
def Keeps (vs : List Nat) (σ σ' : L2.St) : Prop := σ'.length = σ.length ∧ ∀ i, i ∉ vs → σ'[i]? = σ[i]?
theorem Keeps.trans {a b : List Nat} {σ σ1 σ2 : L2.St} (h : Keeps a σ σ1) (h' : Keeps b σ1 σ2) : Keeps (a ++ b) σ σ2 :=
  ⟨h'.1.trans h.1, fun i hi => (h'.2 i fun z => hi (List.mem_append_right _ z)).trans (h.2 i fun z => hi (List.mem_append_left _ z))⟩
def gT (T : Tb) (K : PySem.W.Frag) (t : Tg) : TG := fun v σ H Q => ∃ L F μ S env w env', SR T K L F H μ S ∧ ER T K F μ env σ ∧ RW T K F μ w v ∧ bindT t w env = some env' ∧ ∀ σ', ER T K F μ env' σ' → Keeps t.names σ σ' → Q σ' H
def gTs (T : Tb) (K : PySem.W.Frag) (t : Tg) : TGs := fun vs σ H Q => ∃ L F μ S env ws env', SR T K L F H μ S ∧ ER T K F μ env σ ∧ RWs T K F μ ws vs ∧ bindT t (.lst ws) env = some env' ∧ ∀ σ', ER T K F μ env' σ' → Keeps t.names σ σ' → Q σ' H
theorem _root_.L2.PG.imp {X : Cx} {e : Expr} {t t' : TG} (h : PG X e t) (i : ∀ v σ H Q, t' v σ H Q → t v σ H Q) : PG X e t' := ⟨fun pins s σ H v u Q I r q => h.run pins s σ H v u Q I r (i v σ H Q q)⟩
theorem _root_.L2.PGs.imp {X : Cx} {e : List Expr} {t t' : TGs} (h : PGs X e t) (i : ∀ v σ H Q, t' v σ H Q → t v σ H Q) : PGs X e t' := ⟨fun pins s σ H v u Q I r q => h.run pins s σ H v u Q I r (i v σ H Q q)⟩
theorem g_nm {X : Cx} {i : Nat} {x : PySem.Str} {pos : Pos} (hN : X.N.Nodup) (hi : X.N[i]? = some x) (hx : Loc X.env.scope x) (hf : X.fn x = true ∨ X.env.scope.names.lookup x = some .local) : PG X (.Name x pos) (gT T X.K (.nm i)) :=
  (pg_name hN hi hx hf).imp fun v σ H Q ⟨L, F, μ, S, env, w, env', sr, er, r, e, q⟩ => by
    cases e
    exact q _ (er.set r) ⟨by simp, fun j hj => by rw [List.getElem?_set_ne]; intro z; exact hj (by simp [Tg.names, z])⟩
theorem gs_nil {X : Cx} : PGs X [] (gTs T X.K .nil) :=
  pgs_nil.imp fun v σ H Q ⟨L, F, μ, S, env, ws, env', sr, er, r, e, q⟩ => by
    cases r with
    | nil => cases e; exact ⟨rfl, q _ er ⟨rfl, fun _ _ => rfl⟩⟩
    | cons _ _ => cases e
theorem gs_cons {X : Cx} {e : Expr} {es : List Expr} {a b : Tg} (h1 : PG X e (gT T X.K a)) (h2 : PGs X es (gTs T X.K b)) (hs : (assignEach (e :: es) X.env).map (·.2) = assign e X.env :: (assignEach es X.env).map (·.2)) :
    PGs X (e :: es) (gTs T X.K (.cons a b)) :=
  (pgs_cons h1 h2 hs).imp fun v σ H Q ⟨L, F, μ, S, env, ws, env', sr, er, r, e, q⟩ => by
    cases r with
    | nil => cases e
    | cons r1 r2 =>
      simp only [bindT] at e
      cases e1 : bindT a _ env with
      | none => rw [e1] at e; cases e
      | some env1 =>
        rw [e1] at e
        refine ⟨_, _, rfl, L, F, μ, S, env, _, env1, sr, er, r1, e1, fun σ1 er1 k1 => ⟨L, F, μ, S, env1, _, env', sr, er1, r2, e, fun σ2 er2 k2 => q σ2 er2 (k1.trans k2)⟩⟩
theorem g_tp {X : Cx} {es : List Expr} {k : Nat} {a : Tg} {pos : Pos} {n : Nat} (hc : X.calm = true) (h : PGs X es (gTs T X.K a)) (hn : (assignEach es X.env).length = n) (hst : (assignEach es X.env).findIdx? (·.1) = none)
    (hl : ∀ ws env env', bindT a (.lst ws) env = some env' → ws.length = n) : PG X (.Tuple es k pos) (gT T X.K (.tp a)) :=
  ⟨fun pins s σ H v u Q I ru ⟨L, F, μ, S, env, w, env', sr, er, r, e, q⟩ => by
    simp only [bindT] at e
    split at e
    · obtain ⟨vs, p, rfl, h1, _, h2⟩ := r.tup_inv
      exact (pg_tup hc h hn hst).run pins s σ H _ u Q I ru ⟨p, vs, rfl, sr.sqT h1, by rw [← h2.length]; exact hl _ _ _ e, L, F, μ, S, env, _, env', sr, er, h2, e, q⟩
    · obtain ⟨vs, p, rfl, h1, h2⟩ := r.lst_inv
      exact (pg_lst hc h hn hst).run pins s σ H _ u Q I ru ⟨p, vs, rfl, .inl (.inl (sr.sub _ _ h1)), by rw [← h2.length]; exact hl _ _ _ e, L, F, μ, S, env, _, env', sr, er, h2, e, q⟩
    · cases e⟩
end
end
end Mi

/-! what is walked -/
namespace Mi
open PySem PySem.Spec PyProof.Rows L2
noncomputable section
def WalkOk (T : Tb) (K : PySem.W.Frag) (lk : List Nat) (J : It) (F0 : Hp) (μ0 : List Addr) (H0 : Hp) (xs : List W) : Prop :=
  ∀ L F μ H S, Ext0 lk F0 μ0 H0 F μ H → SR T K (lk ++ L) F H μ S →
    (∀ i, i < xs.length → J.go i H) ∧ (∀ i, xs.length ≤ i → J.stop i H) ∧
    ∀ (i : Nat) x v H', xs[i]? = some x → J.yld i H v H' → ∃ F', Ext (lk ++ L) F μ H F' μ H' ∧ SR T K (lk ++ L) F' H' μ S ∧ RW T K F' μ x v
section
variable {T : Tb} {K : PySem.W.Frag} {L : List Nat} {F H : Hp} {μ : List Addr} {S : Sto}
theorem walk_lst {a : Addr} {xs : List W} {vs : List V} {lk : List Nat} (h : (F a = some (.lst vs)) ∨ ∃ n ∈ lk, μ[n]? = some a ∧ H a = some (.lst vs)) (r : RWs T K F μ xs vs) : WalkOk T K lk (Itl K a) F μ H xs := by
  intro L' F' μ' H' S' x s
  have hv : H' a = some (.lst vs) := by
    rcases h with h | ⟨n, hn, h1, h2⟩
    · exact s.sub _ _ (x.f _ _ h)
    · rw [x.l n hn a h1]; exact h2
  have hq : SqL K H' a vs := .inl (.inl hv)
  refine ⟨fun i hi => ?_, fun i hi => ⟨vs, hq, by rw [← r.length]; exact hi⟩, fun i w v H2 e ⟨e1, e2⟩ => ?_⟩
  · obtain ⟨v, e, _⟩ := r.get (List.getElem?_eq_getElem hi)
    exact ⟨vs, v, hq, e⟩
  · subst e1
    obtain ⟨v', e', r'⟩ := (r.mono x.f x.m).get e
    have := (e2 vs hq).symm.trans e'
    cases this
    exact ⟨F', .refl, s, r'⟩
theorem walk_tup {a : Addr} {xs : List W} {vs : List V} {lk : List Nat} (h : SqT K F a vs) (r : RWs T K F μ xs vs) : WalkOk T K lk (Itt K a) F μ H xs := by
  intro L' F' μ' H' S' x s
  have hq : SqT K H' a vs := s.sqT (sqT_mono h x.f)
  refine ⟨fun i hi => ?_, fun i hi => ⟨vs, hq, by rw [← r.length]; exact hi⟩, fun i w v H2 e ⟨e1, e2⟩ => ?_⟩
  · obtain ⟨v, e, _⟩ := r.get (List.getElem?_eq_getElem hi)
    exact ⟨vs, v, hq, e⟩
  · subst e1
    obtain ⟨v', e', r'⟩ := (r.mono x.f x.m).get e
    have := (e2 vs hq).symm.trans e'
    cases this
    exact ⟨F', .refl, s, r'⟩
theorem walk_rng {lo : Int} {n : Nat} {lk : List Nat} : WalkOk T K lk (Itr lo n) F μ H ((List.range n).map fun (i : Nat) => .int (lo + i)) := by
  intro L' F' μ' H' S' x s
  refine ⟨fun i hi => (show i < n by simpa using hi), fun i hi => (show n ≤ i by simpa using hi), fun i w v H2 e ⟨e1, e2⟩ => ?_⟩
  subst e1; subst e2
  rw [List.getElem?_map] at e
  obtain ⟨j, e', rfl⟩ := Option.map_eq_some_iff.mp e
  obtain ⟨hi, e3⟩ := List.getElem?_eq_some_iff.mp e'
  rw [List.getElem_range] at e3
  subst e3
  exact ⟨F', .refl, s, .int _⟩
theorem zip_get {α β : Type} {l : List α} {m : List β} {i : Nat} {p : α × β} (h : (l.zip m)[i]? = some p) : l[i]? = some p.1 ∧ m[i]? = some p.2 := List.getElem?_zip_eq_some.mp h
theorem pair_new {x y : W} {vx vy : V} {p : Addr} (s : SR T K L F H μ S) (hp : H p = none) (r1 : RW T K F μ x vx) (r2 : RW T K F μ y vy) :
    ∃ F', Ext L F μ H F' μ (upd H p (.tup [vx, vy])) ∧ SR T K L F' (upd H p (.tup [vx, vy])) μ S ∧ RW T K F' μ (.tup [x, y]) (.ref p) := by
  obtain ⟨s', x'⟩ := s.froze hp (o := .tup [vx, vy])
  exact ⟨_, x', s', .tup (.inl (.inl upd_same)) (fun _ => upd_same) (.cons (r1.ext x') (.cons (r2.ext x') .nil))⟩
theorem walk_zipL {a b : Addr} {xs ys : List W} {vs us : List V} {lk : List Nat} (ha : F a = some (.lst vs)) (hb : F b = some (.lst us)) (r : RWs T K F μ xs vs) (r' : RWs T K F μ ys us) : WalkOk T K lk (Itz K a b) F μ H ((xs.zip ys).map fun p => .tup [p.1, p.2]) := by
  intro L' F' μ' H' S' x s
  have hq : SqL K H' a vs := .inl (.inl (s.sub _ _ (x.f _ _ ha)))
  have hq' : SqL K H' b us := .inl (.inl (s.sub _ _ (x.f _ _ hb)))
  refine ⟨fun i hi => ?_, fun i hi => ⟨vs, us, hq, hq', ?_⟩, fun i w v H2 e he => ?_⟩
  · rw [List.length_map, List.length_zip] at hi
    obtain ⟨v, e, _⟩ := r.get (List.getElem?_eq_getElem (show i < xs.length by omega))
    obtain ⟨u, e', _⟩ := r'.get (List.getElem?_eq_getElem (show i < ys.length by omega))
    exact ⟨vs, us, v, u, hq, hq', e, e'⟩
  · rw [List.length_map, List.length_zip, r.length, r'.length] at hi
    omega
  · obtain ⟨p, v1, v2, rfl, hp, rfl, h1, h2⟩ := he
    rw [List.getElem?_map] at e
    obtain ⟨q, e', rfl⟩ := Option.map_eq_some_iff.mp e
    obtain ⟨e1, e2⟩ := zip_get e'
    obtain ⟨_, g1, r1⟩ := (r.mono x.f x.m).get e1
    obtain ⟨_, g2, r2⟩ := (r'.mono x.f x.m).get e2
    cases (h1 vs hq).symm.trans g1
    cases (h2 us hq').symm.trans g2
    exact pair_new s hp r1 r2
theorem walk_zipT {a b : Addr} {xs ys : List W} {vs us : List V} {lk : List Nat} (ha : SqT K F a vs) (hb : SqT K F b us) (r : RWs T K F μ xs vs) (r' : RWs T K F μ ys us) : WalkOk T K lk (RZ.ItzT K a b) F μ H ((xs.zip ys).map fun p => .tup [p.1, p.2]) := by
  intro L' F' μ' H' S' x s
  have hq : SqT K H' a vs := s.sqT (sqT_mono ha x.f)
  have hq' : SqT K H' b us := s.sqT (sqT_mono hb x.f)
  refine ⟨fun i hi => ?_, fun i hi => ⟨vs, us, hq, hq', ?_⟩, fun i w v H2 e he => ?_⟩
  · rw [List.length_map, List.length_zip] at hi
    obtain ⟨v, e, _⟩ := r.get (List.getElem?_eq_getElem (show i < xs.length by omega))
    obtain ⟨u, e', _⟩ := r'.get (List.getElem?_eq_getElem (show i < ys.length by omega))
    exact ⟨vs, us, v, u, hq, hq', e, e'⟩
  · rw [List.length_map, List.length_zip, r.length, r'.length] at hi
    omega
  · obtain ⟨p, v1, v2, rfl, hp, rfl, h1, h2⟩ := he
    rw [List.getElem?_map] at e
    obtain ⟨q, e', rfl⟩ := Option.map_eq_some_iff.mp e
    obtain ⟨e1, e2⟩ := zip_get e'
    obtain ⟨_, g1, r1⟩ := (r.mono x.f x.m).get e1
    obtain ⟨_, g2, r2⟩ := (r'.mono x.f x.m).get e2
    cases (h1 vs hq).symm.trans g1
    cases (h2 us hq').symm.trans g2
    exact pair_new s hp r1 r2
theorem walk_enm {a : Addr} {xs : List W} {vs : List V} {lk : List Nat} (ha : F a = some (.lst vs)) (r : RWs T K F μ xs vs) : WalkOk T K lk (Ite K a) F μ H (xs.mapIdx fun i x => .tup [.int i, x]) := by
  intro L' F' μ' H' S' x s
  have hq : SqL K H' a vs := .inl (.inl (s.sub _ _ (x.f _ _ ha)))
  refine ⟨fun i hi => ?_, fun i hi => ⟨vs, hq, ?_⟩, fun i w v H2 e he => ?_⟩
  · rw [List.length_mapIdx] at hi
    obtain ⟨v, e, _⟩ := r.get (List.getElem?_eq_getElem hi)
    exact ⟨vs, v, hq, e⟩
  · rw [List.length_mapIdx, r.length] at hi
    exact hi
  · obtain ⟨p, v1, rfl, hp, rfl, h1⟩ := he
    rw [List.getElem?_mapIdx] at e
    obtain ⟨q, e', rfl⟩ := Option.map_eq_some_iff.mp e
    obtain ⟨_, g1, r1⟩ := (r.mono x.f x.m).get e'
    cases (h1 vs hq).symm.trans g1
    exact pair_new s hp (.int _) r1
end
/-- what stands behind `in` -/
def tIt (T : Tb) (C : Ctx) (K : PySem.W.Frag) (E : XK) (k : IK) (m : M) : TI := fun σ H R => ∃ L F μ S env, SR T K L F H μ S ∧ ER T K F μ env σ ∧
  match ev C L m env S with
  | .ok x S1 => match items S1 k x with
    | some (xs, lk) => ∀ F' μ' H' J, Ext L F μ H F' μ' H' → SR T K L F' H' μ' S1 → WalkOk T K lk J F' μ' H' xs → R J H'
    | none => False
  | .ex c p S' => XR T K L F μ H E c p S'
  | .bad => False
theorem _root_.L2.PI.imp {X : Cx} {tg e : Expr} {t t' : TI} (h : PI X tg e t) (i : ∀ σ H Q, t' σ H Q → t σ H Q) : PI X tg e t' := ⟨fun pins s σ H Q I q => h.run pins s σ H Q I (i σ H Q q)⟩
section
variable {X : Cx} {T : Tb} {C : Ctx} {E : XK} {e a b c tg : Expr} {pos p : Pos} {ma mb mc : M}
/-- a list or a tuple, walked -/
theorem pi_any {tl : TE} (hl : PE X e tl) : PI X tg e (fun σ H R => tl σ H fun x H1 => (∃ a, x = .ref a ∧ (∃ xs, SqL X.K H1 a xs) ∧ R (Itl X.K a) H1) ∨ ∃ a, x = .ref a ∧ (∃ xs, SqT X.K H1 a xs) ∧ R (Itt X.K a) H1) := by
  refine ⟨fun pins s σ H R I h => thn (hl.run pins s σ H _ I h) fun v s1 ⟨x, H1, I1, r1, q1⟩ => ?_⟩
  have fp : ∀ b ∈ [s1.heap.objs.size], FpOk X pins H1 b := fun b hb => by
    rw [List.mem_singleton.mp hb]; exact I1.fpOk (Nat.le_refl _) (I1.hok.fresh (Nat.le_refl _))
  rcases q1 with ⟨a, rfl, ⟨xs, hq⟩, q⟩ | ⟨a, rfl, ⟨xs, hq⟩, q⟩ <;> cases r1
  · obtain ⟨its, rv, pl, hz⟩ := I1.list hq
    exact wpAny_pyIter_list pl.isList ⟨_, _, _, _, H1, rfl, I1.kept (t' := s1.toks) fun b o e => Heap.get?_push_of_some _ e, turn_list a _, ⟨_, Heap.get?_push_size _ rfl, rfl, rfl⟩, fp, q⟩
  · obtain ⟨its, rv, pl, hz⟩ := I1.tuple hq
    exact wpAny_pyIter_tuple (show s1.heap.IsTuple a its.toArray from pl) ⟨_, _, _, _, H1, rfl, I1.kept (t' := s1.toks) fun b o e => Heap.get?_push_of_some _ e, turn_tuple a _, ⟨_, Heap.get?_push_size _ rfl, rfl, rfl⟩, fp, q⟩
theorem tIt_one {K : PySem.W.Frag} {k : IK} {σ : L2.St} {H : Hp} {R : It → Hp → Prop} {Q : VK} (h : tIt T C K E k ma σ H R)
    (q : ∀ (L : List Nat) (F : Hp) (μ : List Addr) (H : Hp) (S : Sto) (w : W) (x : V) (xs : List W) (lk : List Nat), SR T K L F H μ S → RW T K F μ w x → items S k w = some (xs, lk) → (∀ J, WalkOk T K lk J F μ H xs → R J H) → Q x H) : tI T C K E ma σ H Q := by
  obtain ⟨L, F, μ, S, env, sr, er, h⟩ := h
  refine ⟨L, F, μ, S, env, sr, er, ?_⟩
  cases e1 : ev C L ma env S with
  | ok w S1 =>
    rw [e1] at h
    intro F' μ' H' v x s r
    cases e2 : items S1 k w with
    | none => simp only [e2] at h
    | some p =>
      obtain ⟨xs, lk⟩ := p
      simp only [e2] at h
      exact q _ _ _ _ _ _ _ _ _ s r e2 fun J hw => h _ _ _ J x s hw
  | ex c p S1 => rw [e1] at h; exact h
  | bad => rw [e1] at h; exact h
theorem it_val (hl : PE X e (tI T C X.K E ma)) : PI X tg e (tIt T C X.K E .val ma) :=
  (pi_any hl).imp fun σ H R h => tIt_one h fun L F μ H S w x xs lk s r e q => by
    simp only [items] at e
    unfold valW at e
    split at e
    · cases e
      obtain ⟨vs, p, rfl, h1, _, h2⟩ := r.tup_inv
      exact .inr ⟨p, rfl, ⟨vs, s.sqT h1⟩, q _ (walk_tup h1 h2)⟩
    · cases e
      obtain ⟨vs, p, rfl, h1, h2⟩ := r.lst_inv
      exact .inl ⟨p, rfl, ⟨vs, .inl (.inl (s.sub _ _ h1))⟩, q _ (walk_lst (.inl h1) h2)⟩
    · rename_i n
      split at e
      · rename_i l hl
        cases e
        obtain ⟨vs, p, rfl, h1, h2⟩ := lis_ok (l := xs) s (show W.lis S (.ref n) = some xs by simp only [W.lis, hl]) r
        obtain ⟨p', e', hp⟩ := r.ref_inv
        cases e'
        exact .inl ⟨p, rfl, ⟨vs, .inl (.inl h1)⟩, q _ (walk_lst (.inr ⟨n, by simp, hp, h1⟩) h2)⟩
      · cases e
    · cases e
theorem tIt_args {K : PySem.W.Frag} {k : IK} {g : List W → Option (List W)} (hk : ∀ S w, items S k w = (g w.tupl).map fun l => (l, [])) (hg : g [] = none) {σ : L2.St} {H : Hp} {R : It → Hp → Prop} {Q : List V → Hp → Prop} (h : tIt T C K E k ma σ H R)
    (q : ∀ (L : List Nat) (F : Hp) (μ : List Addr) (H : Hp) (S : Sto) (ws : List W) (vs : List V) (xs : List W), SR T K L F H μ S → RWs T K F μ ws vs → g ws = some xs → (∀ J, WalkOk T K [] J F μ H xs → R J H) → Q vs H) : tA T C K E ma σ H Q := by
  obtain ⟨L, F, μ, S, env, sr, er, h⟩ := h
  refine ⟨L, F, μ, S, env, sr, er, ?_⟩
  cases e1 : ev C L ma env S with
  | ok w S1 =>
    rw [e1] at h
    rintro F' μ' H' v x s ⟨ws, rfl, r⟩
    simp only [hk, W.tupl] at h
    cases e2 : g ws with
    | none => simp only [e2, Option.map_none] at h
    | some xs =>
      simp only [e2, Option.map_some] at h
      exact q _ _ _ _ _ _ _ _ s r e2 fun J hw => h _ _ _ J x s hw
  | ex c p S1 => rw [e1] at h; exact h
  | bad => rw [e1] at h; exact h
theorem it_rng1 (hg : Gl X "range") (hm : X.mg "range" = none) (ha : PA X [a] (tA T C X.K E ma)) (hs : starEach [a] X.env = [(false, eval a X.env)]) :
    PI X tg (.Call (.Name "range" p) [a] [] pos) (tIt T C X.K E .rng ma) :=
  (pi_range1 hg hm ha hs).imp fun σ H R h => tIt_args (g := rngW) (fun _ _ => rfl) rfl h fun L F μ H S ws vs xs s r e q => by
    unfold rngW at e
    split at e
    · obtain ⟨⟨c1, c2⟩, rfl⟩ := ite_some e
      obtain ⟨v, rfl, r1⟩ := r.one_inv
      exact ⟨_, by rw [r1.int_inv], c1, c2, q _ walk_rng⟩
    · cases e
theorem it_rng2 (hg : Gl X "range") (hm : X.mg "range" = none) (ha : PA X [a, b] (tA T C X.K E ma)) (hs : starEach [a, b] X.env = [(false, eval a X.env), (false, eval b X.env)]) (hs2 : starEach [b] X.env = [(false, eval b X.env)]) :
    PI X tg (.Call (.Name "range" p) [a, b] [] pos) (tIt T C X.K E .rng2 ma) :=
  (pi_range2 hg hm ha hs hs2).imp fun σ H R h => tIt_args (g := rngW2) (fun _ _ => rfl) rfl h fun L F μ H S ws vs xs s r e q => by
    unfold rngW2 at e
    split at e
    · obtain ⟨c, rfl⟩ := ite_some e
      obtain ⟨v, u, rfl, r1, r2⟩ := r.two_inv
      exact ⟨_, _, by rw [r1.int_inv, r2.int_inv], c, q _ walk_rng⟩
    · cases e
theorem it_zip {elts : List Expr} {kk : Nat} {tpos : Pos} (hg : Gl X "zip") (hm : X.mg "zip" = none) (ha : PA X [a, b] (tA T C X.K E ma)) (hs : starEach [a, b] X.env = (false, eval a X.env) :: starEach [b] X.env) (hpl : (backTo pos (starEach [b] X.env)).any (·.1) = false) :
    PI X (.Tuple elts kk tpos) (.Call (.Name "zip" p) [a, b] [] pos) (tIt T C X.K E .zip ma) :=
  (RZ.pi_zipA hg hm ha hs hpl).imp fun σ H R h => tIt_args (g := zipW) (fun _ _ => rfl) rfl h fun L F μ H S ws vs xs s r e q => by
    unfold zipW at e
    split at e
    · cases e
      obtain ⟨v, u, rfl, r1, r2⟩ := r.two_inv
      obtain ⟨xs, p, rfl, h1, h2⟩ := r1.lst_inv
      obtain ⟨ys, p', rfl, h3, h4⟩ := r2.lst_inv
      exact ⟨p, p', xs, ys, rfl, .inl ⟨.inl (.inl (s.sub _ _ h1)), .inl (.inl (s.sub _ _ h3)), q _ (walk_zipL h1 h3 h2 h4)⟩⟩
    · cases e
      obtain ⟨v, u, rfl, r1, r2⟩ := r.two_inv
      obtain ⟨xs, p, rfl, h1, _, h2⟩ := r1.tup_inv
      obtain ⟨ys, p', rfl, h3, _, h4⟩ := r2.tup_inv
      exact ⟨p, p', xs, ys, rfl, .inr ⟨s.sqT h1, s.sqT h3, q _ (walk_zipT h1 h3 h2 h4)⟩⟩
    · cases e
theorem it_enm {elts : List Expr} {kk : Nat} {tpos : Pos} (hg : Gl X "enumerate") (hm : X.mg "enumerate" = none) (ha : PA X [a] (tA T C X.K E ma)) (hs : starEach [a] X.env = [(false, eval a X.env)]) :
    PI X (.Tuple elts kk tpos) (.Call (.Name "enumerate" p) [a] [] pos) (tIt T C X.K E .enm ma) :=
  (pi_enum hg hm ha hs).imp fun σ H R h => tIt_args (g := enmW) (fun _ _ => rfl) rfl h fun L F μ H S ws vs xs s r e q => by
    unfold enmW at e
    split at e
    · cases e
      obtain ⟨v, rfl, r1⟩ := r.one_inv
      obtain ⟨xs, p, rfl, h1, h2⟩ := r1.lst_inv
      exact ⟨p, xs, rfl, .inl (.inl (s.sub _ _ h1)), q _ (walk_enm h1 h2)⟩
    · cases e
end
end
end Mi

/-! comprehensions -/
namespace Mi
open PySem PySem.Spec PyProof.Rows L2
noncomputable section
abbrev E0 : XK := fun _ _ _ => False
theorem wipe_get (σ : L2.St) (i : Nat) : ∀ vs : List Nat, (wipe σ vs)[i]? = if i ∈ vs ∧ i < σ.length then some none else σ[i]?
  | [] => by simp [wipe]
  | v :: vs => by
    have ih := wipe_get σ i vs
    have hl := wipe_length σ vs
    simp only [wipe]
    by_cases e : v = i
    · subst e
      by_cases hi : v < σ.length
      · rw [List.getElem?_set_self (by rw [hl]; exact hi), if_pos ⟨List.mem_cons_self, hi⟩]
      · rw [List.getElem?_eq_none (by simp [hl]; omega), if_neg (fun z => hi z.2), List.getElem?_eq_none (by omega)]
    · rw [List.getElem?_set_ne e, ih]
      have : (i ∈ v :: vs ∧ i < σ.length) ↔ (i ∈ vs ∧ i < σ.length) := by
        rw [List.mem_cons]
        constructor
        · rintro ⟨h1 | h1, h2⟩
          · exact absurd h1.symm e
          · exact ⟨h1, h2⟩
        · rintro ⟨h1, h2⟩; exact ⟨.inr h1, h2⟩
      simp only [this]
theorem wipe_keep {σ σ2 : L2.St} {vs names : List Nat} (k : Keeps names (wipe σ vs) σ2) (hn : ∀ i ∈ names, i ∈ vs) : wipe σ2 vs = wipe σ vs := by
  refine List.ext_getElem? fun i => ?_
  have hl : σ2.length = σ.length := k.1.trans (wipe_length σ vs)
  rw [wipe_get, wipe_get, hl]
  by_cases h : i ∈ vs ∧ i < σ.length
  · rw [if_pos h, if_pos h]
  · rw [if_neg h, if_neg h]
    by_cases hv : i ∈ vs
    · have : σ.length ≤ i := by
        by_cases z : i < σ.length
        · exact absurd ⟨hv, z⟩ h
        · omega
      rw [List.getElem?_eq_none (by omega), List.getElem?_eq_none this]
    · rw [k.2 i fun z => hv (hn i z), wipe_get, if_neg h]
theorem Out.bind_assoc {α β γ : Type} (x : Out α) (f : α → Sto → Out β) (g : β → Sto → Out γ) : (x.bind f).bind g = x.bind fun a S => (f a S).bind g := by
  cases x <;> rfl
theorem Out.calm_cases {α : Type} (x : Out α) : (∃ a S, x = .ok a S ∧ x.calm = .ok a S) ∨ x.calm = .bad := by
  cases x with
  | ok a S => exact .inl ⟨a, S, rfl, rfl⟩
  | ex _ _ _ => exact .inr rfl
  | bad => exact .inr rfl
theorem lcL_noex {step : W → Sto → Out (Option W)} (hs : ∀ x S c p S', step x S ≠ .ex c p S') : ∀ (l : List W) (S : Sto) c p S', lcL step l S ≠ .ex c p S'
  | [], S, c, p, S' => fun h => by simp [lcL] at h
  | x :: l, S, c, p, S' => fun h => by
    simp only [lcL] at h
    cases e : step x S with
    | ok o S1 =>
      rw [e] at h
      simp only [Out.bind_ok] at h
      cases e2 : lcL step l S1 with
      | ok r S2 => rw [e2] at h; cases h
      | ex c' p' S2 => exact lcL_noex hs l S1 _ _ _ e2
      | bad => rw [e2] at h; cases h
    | ex c' p' S1 => exact hs _ _ _ _ _ e
    | bad => rw [e] at h; cases h
/-- the rest of a comprehension -/
def lcRest (step : W → Sto → Out (Option W)) (kk : List W → Sto → Out W) (acc l : List W) (S : Sto) : Out W := (lcL step l S).bind fun r S2 => kk (acc ++ r) S2
def lcFin : List W → Sto → Out W := fun r S2 => if r.length ≤ sixteen then .ok (.lst r) S2 else .bad
theorem lcRest_cons {step : W → Sto → Out (Option W)} {kk : List W → Sto → Out W} {acc l : List W} {x : W} {S S1 : Sto} {o : Option W} (h : step x S = .ok o S1) : lcRest step kk acc (x :: l) S = lcRest step kk (acc ++ o.toList) l S1 := by
  simp only [lcRest, lcL, h, Out.bind_ok, Out.bind_assoc, List.append_assoc]
theorem lcRest_len {step : W → Sto → Out (Option W)} {kk : List W → Sto → Out W} {acc l : List W} {S : Sto} (hk : ∀ acc S, kk acc S ≠ .bad → acc.length ≤ sixteen) (hs : ∀ x S c p S', step x S ≠ .ex c p S') (h : lcRest step kk acc l S ≠ .bad) : acc.length ≤ sixteen := by
  unfold lcRest at h
  cases e : lcL step l S with
  | ok r S2 =>
    rw [e] at h
    simp only [Out.bind_ok] at h
    have z := hk _ _ h
    rw [List.length_append] at z; omega
  | ex c p S2 => exact absurd e (lcL_noex hs _ _ _ _ _)
  | bad => rw [e] at h; exact absurd rfl h
theorem lcFin_len : ∀ acc S, lcFin acc S ≠ .bad → acc.length ≤ sixteen := by
  intro acc S h
  unfold lcFin at h
  by_cases z : acc.length ≤ sixteen
  · exact z
  · rw [if_neg z] at h; exact absurd rfl h
def lcStep (C : Ctx) (L : List Nat) (tg : Tg) (env : Env) (c e : M) : W → Sto → Out (Option W) := fun x S => match bindT tg x env with
  | none => .bad
  | some env' => (ev C L c env' S).calm.bind fun b S1 => match b with
    | .bl true => (ev C L e env' S1).calm.bind fun w S2 => .ok (some w) S2
    | .bl false => .ok none S1
    | _ => .bad
theorem lcStep_noex {C : Ctx} {L : List Nat} {tg : Tg} {env : Env} {c e : M} : ∀ x S c' p S', lcStep C L tg env c e x S ≠ .ex c' p S' := by
  intro x S c' p S' h
  unfold lcStep at h
  split at h
  · cases h
  · rename_i env' _
    rcases Out.calm_cases (ev C L c env' S) with ⟨a, S1, _, h1⟩ | h1
    · rw [h1] at h
      simp only [Out.bind_ok] at h
      split at h
      · rcases Out.calm_cases (ev C L e env' S1) with ⟨a, S1, _, h1⟩ | h1
        · rw [h1] at h; cases h
        · rw [h1] at h; cases h
      · cases h
      · cases h
    · rw [h1] at h; cases h
section
variable {T : Tb} {C : Ctx} {K : PySem.W.Frag} {E : XK} {L lk : List Nat} {F H F1 H1 : Hp} {μ μ1 : List Addr} {S S1 : Sto} {env : Env} {σ : L2.St} {Q : VK} {D : Addr}
/-- as far as a comprehension has come -/
structure LcAt (T : Tb) (K : PySem.W.Frag) (L' : List Nat) (F1 : Hp) (μ1 : List Addr) (H1 : Hp) (D : Addr) (acc : List W) (F : Hp) (μ : List Addr) (H : Hp) (S : Sto) : Prop where
  x : Ext L' F1 μ1 H1 F μ H
  s : SR T K L' F H μ S
  at_ : ∃ accv, H D = some (.lst accv) ∧ F D = none ∧ D ∉ μ ∧ RWs T K F μ acc accv
theorem LcAt.on {acc : List W} {L' : List Nat} {F2 H2 : Hp} {μ2 : List Addr} {S2 : Sto} (h : LcAt T K L' F1 μ1 H1 D acc F μ H S) (x : Ext L' F μ H F2 μ2 H2) (s : SR T K L' F2 H2 μ2 S2) : LcAt T K L' F1 μ1 H1 D acc F2 μ2 H2 S2 := by
  obtain ⟨accv, h1, h2, h3, h4⟩ := h.at_
  obtain ⟨g1, g2, g3⟩ := x.o D accv h1 h2 h3
  exact ⟨h.x.trans x, s, accv, g1, g2, g3, h4.ext x⟩
theorem LcAt.snoc {acc : List W} {L' : List Nat} {w : W} {v : V} (hD : H1 D = none) (h : LcAt T K L' F1 μ1 H1 D acc F μ H S) (r : RW T K F μ w v) : ∃ accv, H D = some (.lst accv) ∧ accv.length = acc.length ∧ LcAt T K L' F1 μ1 H1 D (acc ++ [w]) F μ (upd H D (.lst (accv ++ [v]))) S := by
  obtain ⟨accv, h1, h2, h3, h4⟩ := h.at_
  exact ⟨accv, h1, h4.length.symm, h.x.hid hD h3, h.s.hid h2 h3 (.inr ⟨_, h1⟩), accv ++ [v], upd_same, h2, h3, h4.append (.cons r .nil)⟩
theorem LcAt.fin {acc : List W} (hD : H1 D = none) (h : LcAt T K L F1 μ1 H1 D acc F μ H S) (g : OR T K E L F1 μ1 H1 (lcFin acc S) (RWv T K) Q) : Q (.ref D) H := by
  obtain ⟨accv, h1, h2, h3, h4⟩ := h.at_
  have x' := (h.x.show_ (o := .lst accv) hD h2)
  unfold lcFin at g
  split at g
  rotate_left
  · exact g.elim
  exact g _ μ H _ x' (h.s.show_ h2 h3 h1) (.lst upd_same (h4.mono (fun a o e => by rw [upd_ne (fun z => by rw [z, h2] at e; cases e)]; exact e) ⟨[], by simp⟩))
theorem LcAt.new {L' : List Nat} (hD : H D = none) (s : SR T K L' F H μ S) : LcAt T K L' F μ H D [] F μ (upd H D (.lst [])) S := by
  obtain ⟨h1, h2⟩ := s.notin hD
  exact ⟨Ext.refl.hid hD h2, s.hid h1 h2 (.inl hD), [], upd_same, h1, h2, .nil⟩
theorem items_lt {k : IK} {w : W} {xs : List W} (h : items S k w = some (xs, lk)) : ∀ n ∈ lk, n < S.length := by
  have one : ∀ {nd : Node} {n m : Nat}, S[n]? = some nd → m ∈ [n] → m < S.length := fun e hm => by
    rw [List.mem_singleton.mp hm]; exact (List.getElem?_eq_some_iff.mp e).1
  have hd : ∀ k, dicW S k w = some (xs, lk) → ∀ n ∈ lk, n < S.length := by
    intro k h
    unfold dicW at h
    split at h
    · split at h <;> first | (cases h; done) | (cases h; rename_i e; exact fun n hn => one e hn)
    · cases h
  have ha : ∀ o : Option (List W), (o.map fun l => (l, ([] : List Nat))) = some (xs, lk) → ∀ n ∈ lk, n < S.length := by
    intro o h
    obtain ⟨l, _, e⟩ := Option.map_eq_some_iff.mp h
    cases e
    exact fun n hn => absurd hn (by simp)
  unfold items at h
  split at h
  · unfold valW at h
    split at h
    · cases h; exact fun n hn => absurd hn (by simp)
    · cases h; exact fun n hn => absurd hn (by simp)
    · split at h
      · rename_i e; cases h; exact fun n hn => one e hn
      · cases h
    · cases h
  · exact ha _ h
  · exact ha _ h
  · exact ha _ h
  · exact ha _ h
  · exact hd _ h
theorem WalkOk.later {J : It} {xs : List W} (w : WalkOk T K lk J F1 μ1 H1 xs) (x : Ext0 lk F1 μ1 H1 F μ H) : WalkOk T K lk J F μ H xs := fun L F2 μ2 H2 S2 x2 s2 => w L F2 μ2 H2 S2 (x.trans x2) s2
/-- a loop of a comprehension -/
theorem loop_of {J : It} {xs acc : List W} {tg : Tg} {own : List Nat} {mc me : M} {kk : List W → Sto → Out W} {Z : Hp → Prop} {F4 H4 : Hp} {μ4 : List Addr} {S4 : Sto} {L' Lb : List Nat} (hn : ∀ i ∈ tg.names, i ∈ own) (hk : ∀ acc S, kk acc S ≠ .bad → acc.length ≤ sixteen) (hD : H1 D = none)
    (hlk : ∀ n ∈ lk, n < S4.length) (wk : WalkOk T K lk J F4 μ4 H4 xs) (at4 : LcAt T K L' F1 μ1 H1 D acc F4 μ4 H4 S4) (er4 : ER T K F4 μ4 env σ)
    (h : OR T K E Lb F1 μ1 H1 (lcRest (lcStep C (lk ++ L') tg (wipeE env own) mc me) kk acc xs S4) (RWv T K) Q)
    (z : ∀ acc F μ H S, LcAt T K L' F1 μ1 H1 D acc F μ H S → Ext0 L' F4 μ4 H4 F μ H → OR T K E Lb F1 μ1 H1 (kk acc S) (RWv T K) Q → Z H) :
    ∃ W : Nat → Nat → Hp → Prop, (∃ m, W 0 m H4) ∧ ∀ i m H, W i m H → (J.stop i H ∧ Z H) ∨ (J.go i H ∧ ∃ Nx : Hp → Prop, (∀ H', Nx H' → ∃ m', m' < m ∧ W (i + 1) m' H') ∧
      ∀ x H', J.yld i H x H' → gT T K tg x (wipe σ own) H' fun σ2 H2 => wipe σ2 own = wipe σ own ∧ tT T C K E0 mc σ2 H2 fun b H3 =>
        if b = true then tI T C K E0 me σ2 H3 fun y H4 => ∃ acc, H4 D = some (.lst acc) ∧ acc.length < sizeLine ∧ Nx (upd H4 D (.lst (acc ++ [y]))) else Nx H3) := by
  refine ⟨fun i m H' => m = xs.length - i ∧ i ≤ xs.length ∧ ∃ F' μ' S' acc, LcAt T K L' F1 μ1 H1 D acc F' μ' H' S' ∧ SR T K (lk ++ L') F' H' μ' S' ∧ Ext0 (lk ++ L') F4 μ4 H4 F' μ' H' ∧ OR T K E Lb F1 μ1 H1 (lcRest (lcStep C (lk ++ L') tg (wipeE env own) mc me) kk acc (xs.drop i) S') (RWv T K) Q,
    ⟨_, rfl, Nat.zero_le _, F4, μ4, S4, acc, at4, at4.s.more hlk, .refl, h⟩, ?_⟩
  rintro i m H2 ⟨rfl, hi, F2, μ2, S2, acc, at2, s2, x2, h2⟩
  obtain ⟨go, stop, yld⟩ := wk L' F2 μ2 H2 S2 x2.only s2
  rcases Nat.lt_or_ge i xs.length with hlt | hge
  · refine .inr ⟨go i hlt, fun H' => (i + 1 ≤ xs.length ∧ ∃ F' μ' S' acc, LcAt T K L' F1 μ1 H1 D acc F' μ' H' S' ∧ SR T K (lk ++ L') F' H' μ' S' ∧ Ext0 (lk ++ L') F4 μ4 H4 F' μ' H' ∧ OR T K E Lb F1 μ1 H1 (lcRest (lcStep C (lk ++ L') tg (wipeE env own) mc me) kk acc (xs.drop (i + 1)) S') (RWv T K) Q),
      fun H' hn' => ⟨_, by omega, rfl, hn'⟩, fun v H3 hy => ?_⟩
    obtain ⟨F3, x3, s3, r3⟩ := yld i xs[i] v H3 (List.getElem?_eq_getElem hlt) hy
    have on : ∀ {F H F' H' : Hp} {μ μ' : List Addr} {S S' : Sto} {acc : List W}, LcAt T K L' F1 μ1 H1 D acc F μ H S → Ext0 (lk ++ L') F4 μ4 H4 F μ H → Ext (lk ++ L') F μ H F' μ' H' → SR T K (lk ++ L') F' H' μ' S' →
        LcAt T K L' F1 μ1 H1 D acc F' μ' H' S' ∧ Ext0 (lk ++ L') F4 μ4 H4 F' μ' H' := fun a x0 x s => by
      have x' := x0.trans x.to0
      exact ⟨a.on x.less (SR.less at4.s x' s hlk), x'⟩
    obtain ⟨at3, x03⟩ := on at2 x2 x3 s3
    have hw : ER T K F3 μ2 (wipeE env own) (wipe σ own) := (er4.ext0 x03).wipe own
    rw [List.drop_eq_getElem_cons hlt] at h2
    have hstep : lcStep C (lk ++ L') tg (wipeE env own) mc me xs[i] S2 ≠ .bad := fun z => by
      simp only [lcRest, lcL, z, Out.bind_bad] at h2; exact h2
    have hl : ∀ {acc' : List W} {S' : Sto}, OR T K E Lb F1 μ1 H1 (lcRest (lcStep C (lk ++ L') tg (wipeE env own) mc me) kk acc' (xs.drop (i + 1)) S') (RWv T K) Q → acc'.length ≤ sixteen :=
      fun g => lcRest_len hk lcStep_noex fun z => by rw [z] at g; exact g
    cases eb : bindT tg xs[i] (wipeE env own) with
    | none => exact absurd (by unfold lcStep; rw [eb]) hstep
    | some env' =>
      refine ⟨_, F3, μ2, S2, _, _, env', s3, hw, r3, eb, fun σ2 er2 kp => ⟨wipe_keep kp hn, ?_⟩⟩
      refine ⟨_, F3, μ2, S2, env', s3, er2, ?_⟩
      have hs : lcStep C (lk ++ L') tg (wipeE env own) mc me xs[i] S2 = (ev C (lk ++ L') mc env' S2).calm.bind fun b S1 => match b with
          | .bl true => (ev C (lk ++ L') me env' S1).calm.bind fun w S2 => .ok (some w) S2
          | .bl false => .ok none S1
          | _ => .bad := by unfold lcStep; rw [eb]
      rw [hs] at hstep
      rcases Out.calm_cases (ev C (lk ++ L') mc env' S2) with ⟨b, S3, ec, ec'⟩ | ec'
      · rw [ec', Out.bind_ok] at hs hstep
        rw [ec]
        rintro F5 μ5 H5 bb x5 s5 rfl
        obtain ⟨at5, x05⟩ := on at3 x03 x5 s5
        cases bb
        · simp only at hs
          rw [lcRest_cons hs] at h2
          exact ⟨hlt, F5, μ5, S3, _, at5, s5, x05, by simpa using h2⟩
        · simp only at hs hstep
          rw [if_pos rfl]
          refine ⟨_, F5, μ5, S3, env', s5, er2.ext x5, ?_⟩
          rcases Out.calm_cases (ev C (lk ++ L') me env' S3) with ⟨w', S6, ee, ee'⟩ | ee'
          · rw [ee', Out.bind_ok] at hs
            rw [ee]
            intro F6 μ6 H6 y x6 s6 r6
            rw [lcRest_cons hs] at h2
            obtain ⟨at6, x06⟩ := on at5 x05 x6 s6
            obtain ⟨accv, g1, g2, g3⟩ := LcAt.snoc hD at6 r6
            obtain ⟨_, _, q2, q3, _⟩ := at6.at_
            refine ⟨accv, g1, ?_, hlt, F6, μ6, S6, _, g3, s6.hid q2 q3 (.inr ⟨_, g1⟩), x06.hid q3, h2⟩
            have := hl h2
            simp only [Option.toList_some, List.length_append, List.length_singleton] at this
            rw [g2]
            exact this
          · rw [ee', Out.bind_bad] at hstep; exact absurd rfl hstep
      · rw [ec', Out.bind_bad] at hstep; exact absurd rfl hstep
  · have : xs.drop i = [] := List.drop_eq_nil_of_le hge
    rw [this] at h2
    refine .inl ⟨stop i hge, z acc F2 μ2 H2 S2 at2 x2.less ?_⟩
    have h3 : lcRest (lcStep C (lk ++ L') tg (wipeE env own) mc me) kk acc [] S2 = kk acc S2 := by simp [lcRest, lcL]
    rw [h3] at h2
    exact h2
theorem tLc_of {k : IK} {mit mc me : M} {tg : Tg} {own : List Nat} (hn : ∀ i ∈ tg.names, i ∈ own) (h : tI T C K E (.lc k mit tg own mc me) σ H Q) :
    tLc (tIt T C K E k mit) (gT T K tg) (tT T C K E0 mc) (tI T C K E0 me) own σ H Q := by
  obtain ⟨L, F, μ, S, env, sr, er, h⟩ := h
  refine ⟨L, F, μ, S, env, sr, er, ?_⟩
  simp only [ev] at h
  cases e1 : ev C L mit env S with
  | ex c p S1 => rw [e1] at h; exact h
  | bad => rw [e1] at h; exact h
  | ok w S1 =>
    rw [e1] at h
    simp only [Out.bind_ok] at h
    cases e2 : items S1 k w with
    | none => simp only [e2] at h ⊢; exact h
    | some p =>
      obtain ⟨xs, lk⟩ := p
      simp only [e2] at h ⊢
      intro F1 μ1 H1 J x1 s1 wk D hD
      have h := OR.later (R := RWv T K) x1 h
      exact loop_of (acc := []) (kk := lcFin) hn lcFin_len hD (items_lt e2) (wk.later (Ext0.refl.hid (s1.notin hD).2)) (.new hD s1) (er.ext x1) h fun acc F μ H S a _ g => a.fin hD g
/-- a comprehension of two loops -/
def lcStep2 (C : Ctx) (L : List Nat) (tg : Tg) (env : Env) (c : M) (k1 : IK) (it1 : M) (tg1 : Tg) (own1 : List Nat) (c1 e : M) : W → Sto → Out (List W) := fun x S => match bindT tg x env with
  | none => .bad
  | some env' => (ev C L c env' S).calm.bind fun b S1 => match b with
    | .bl true => (ev C L it1 env' S1).calm.bind fun y S2 => match items S2 k1 y with
      | none => .bad
      | some (ys, lk1) => lcL (lcStep C (lk1 ++ L) tg1 (wipeE env' own1) c1 e) ys S2
    | .bl false => .ok [] S1
    | _ => .bad
def lcRest2 (step : W → Sto → Out (List W)) (acc l : List W) (S : Sto) : Out W := (lcL2 step l S).bind fun r S2 => lcFin (acc ++ r) S2
theorem lcL2_noex {step : W → Sto → Out (List W)} (hs : ∀ x S c p S', step x S ≠ .ex c p S') : ∀ (l : List W) (S : Sto) c p S', lcL2 step l S ≠ .ex c p S'
  | [], S, c, p, S' => fun h => by simp [lcL2] at h
  | x :: l, S, c, p, S' => fun h => by
    simp only [lcL2] at h
    cases e : step x S with
    | ok o S1 =>
      rw [e] at h
      simp only [Out.bind_ok] at h
      cases e2 : lcL2 step l S1 with
      | ok r S2 => rw [e2] at h; cases h
      | ex c' p' S2 => exact lcL2_noex hs l S1 _ _ _ e2
      | bad => rw [e2] at h; cases h
    | ex c' p' S1 => exact hs _ _ _ _ _ e
    | bad => rw [e] at h; cases h
theorem lcStep2_noex {L : List Nat} {tg tg1 : Tg} {c it1 c1 e : M} {k1 : IK} {own1 : List Nat} : ∀ x S c' p S', lcStep2 C L tg env c k1 it1 tg1 own1 c1 e x S ≠ .ex c' p S' := by
  intro x S c' p S' h
  unfold lcStep2 at h
  split at h
  · cases h
  · rename_i env' _
    rcases Out.calm_cases (ev C L c env' S) with ⟨a, S1, _, h1⟩ | h1
    · rw [h1, Out.bind_ok] at h
      split at h
      · rcases Out.calm_cases (ev C L it1 env' S1) with ⟨a, S1, _, h1⟩ | h1
        · rw [h1, Out.bind_ok] at h
          split at h
          · cases h
          · exact lcL_noex lcStep_noex _ _ _ _ _ h
        · rw [h1] at h; cases h
      · cases h
      · cases h
    · rw [h1] at h; cases h
theorem lcRest2_len {step : W → Sto → Out (List W)} {acc l : List W} {S : Sto} (hs : ∀ x S c p S', step x S ≠ .ex c p S') (h : lcRest2 step acc l S ≠ .bad) : acc.length ≤ sixteen := by
  unfold lcRest2 at h
  cases e : lcL2 step l S with
  | ok r S2 =>
    rw [e] at h
    simp only [Out.bind_ok] at h
    have z := lcFin_len _ _ h
    rw [List.length_append] at z; omega
  | ex c p S2 => exact absurd e (lcL2_noex hs _ _ _ _ _)
  | bad => rw [e] at h; exact absurd rfl h
theorem lcRest2_cons {step : W → Sto → Out (List W)} {acc l : List W} {x : W} {S : Sto} : lcRest2 step acc (x :: l) S = (step x S).bind fun r S1 => lcRest2 step (acc ++ r) l S1 := by
  simp only [lcRest2, lcL2, Out.bind_assoc, Out.bind_ok, List.append_assoc]
theorem tLc2_of {k k1 : IK} {mit mc mit1 mc1 me : M} {tg tg1 : Tg} {own own1 : List Nat} (hn : ∀ i ∈ tg.names, i ∈ own) (hn1 : ∀ i ∈ tg1.names, i ∈ own1) (h : tI T C K E (.lc2 k mit tg own mc k1 mit1 tg1 own1 mc1 me) σ H Q) :
    tLc2 (tIt T C K E k mit) (gT T K tg) (tT T C K E0 mc) (tIt T C K E0 k1 mit1) (gT T K tg1) (tT T C K E0 mc1) (tI T C K E0 me) own own1 σ H Q := by
  obtain ⟨L, F, μ, S, env, sr, er, h⟩ := h
  refine ⟨L, F, μ, S, env, sr, er, ?_⟩
  simp only [ev] at h
  cases e1 : ev C L mit env S with
  | ex c p S1 => rw [e1] at h; exact h
  | bad => rw [e1] at h; exact h
  | ok w S1 =>
    rw [e1] at h
    simp only [Out.bind_ok] at h
    cases e2 : items S1 k w with
    | none => simp only [e2] at h ⊢; exact h
    | some p =>
      obtain ⟨xs, lk⟩ := p
      simp only [e2] at h ⊢
      intro F1 μ1 H1 J x1 s1 wk D hD
      have hlk := items_lt e2
      have er1 := er.ext x1
      have h : OR T K E L F1 μ1 H1 (lcRest2 (lcStep2 C (lk ++ L) tg (wipeE env own) mc k1 mit1 tg1 own1 mc1 me) [] xs S1) (RWv T K) Q := OR.later (R := RWv T K) x1 h
      have at1 : LcAt T K L F1 μ1 H1 D [] F1 μ1 (upd H1 D (.lst [])) S1 := .new hD s1
      have wk1 := wk.later (Ext0.refl.hid (o := .lst []) (s1.notin hD).2)
      refine ⟨fun i m H' => m = xs.length - i ∧ i ≤ xs.length ∧ ∃ F' μ' S' acc, LcAt T K (lk ++ L) F1 μ1 H1 D acc F' μ' H' S' ∧ OR T K E L F1 μ1 H1 (lcRest2 (lcStep2 C (lk ++ L) tg (wipeE env own) mc k1 mit1 tg1 own1 mc1 me) acc (xs.drop i) S') (RWv T K) Q,
        ⟨_, rfl, Nat.zero_le _, F1, μ1, S1, [], .new hD (s1.more hlk), h⟩, ?_⟩
      rintro i m H2 ⟨rfl, hi, F2, μ2, S2, acc, at2, h2⟩
      obtain ⟨go, stop, yld⟩ := wk L F2 μ2 H2 S2 at2.x.only.to0 at2.s
      rcases Nat.lt_or_ge i xs.length with hlt | hge
      · refine .inr ⟨go i hlt, fun H' => (i + 1 ≤ xs.length ∧ ∃ F' μ' S' acc, LcAt T K (lk ++ L) F1 μ1 H1 D acc F' μ' H' S' ∧ OR T K E L F1 μ1 H1 (lcRest2 (lcStep2 C (lk ++ L) tg (wipeE env own) mc k1 mit1 tg1 own1 mc1 me) acc (xs.drop (i + 1)) S') (RWv T K) Q),
          fun H' hn' => ⟨_, by omega, rfl, hn'⟩, fun v H3 hy => ?_⟩
        obtain ⟨F3, x3, s3, r3⟩ := yld i xs[i] v H3 (List.getElem?_eq_getElem hlt) hy
        have at3 := at2.on x3 s3
        have hw : ER T K F3 μ2 (wipeE env own) (wipe σ own) := (er1.ext at3.x).wipe own
        rw [List.drop_eq_getElem_cons hlt, lcRest2_cons] at h2
        cases eb : bindT tg xs[i] (wipeE env own) with
        | none => simp only [lcStep2, eb, Out.bind_bad] at h2; exact h2.elim
        | some env' =>
          refine ⟨_, F3, μ2, S2, _, _, env', s3, hw, r3, eb, fun σ2 er2 kp => ⟨wipe_keep kp hn, ?_⟩⟩
          refine ⟨_, F3, μ2, S2, env', s3, er2, ?_⟩
          have hs : lcStep2 C (lk ++ L) tg (wipeE env own) mc k1 mit1 tg1 own1 mc1 me xs[i] S2 = (ev C (lk ++ L) mc env' S2).calm.bind fun b S1 => match b with
              | .bl true => (ev C (lk ++ L) mit1 env' S1).calm.bind fun y S2 => match items S2 k1 y with
                | none => .bad
                | some (ys, lk1) => lcL (lcStep C (lk1 ++ (lk ++ L)) tg1 (wipeE env' own1) mc1 me) ys S2
              | .bl false => .ok [] S1
              | _ => .bad := by simp only [lcStep2, eb]
          rw [hs] at h2
          rcases Out.calm_cases (ev C (lk ++ L) mc env' S2) with ⟨b, S3, ec, ec'⟩ | ec'
          · rw [ec', Out.bind_ok] at h2
            rw [ec]
            rintro F5 μ5 H5 bb x5 s5 rfl
            have at5 := at3.on x5 s5
            cases bb
            · simp only [Out.bind_ok, List.append_nil] at h2
              exact ⟨hlt, F5, μ5, S3, acc, at5, h2⟩
            · simp only at h2
              rw [if_pos rfl]
              refine ⟨_, F5, μ5, S3, env', s5, er2.ext x5, ?_⟩
              rcases Out.calm_cases (ev C (lk ++ L) mit1 env' S3) with ⟨y, S6, ee, ee'⟩ | ee'
              · rw [ee', Out.bind_ok] at h2
                rw [ee]
                cases ei : items S6 k1 y with
                | none => simp only [ei, Out.bind_bad] at h2; exact h2.elim
                | some p =>
                  obtain ⟨ys, lk1⟩ := p
                  simp only [ei] at h2 ⊢
                  intro F6 μ6 H6 J1 x6 s6 wk6
                  have at6 := at5.on x6 s6
                  exact loop_of (kk := fun a S => lcRest2 (lcStep2 C (lk ++ L) tg (wipeE env own) mc k1 mit1 tg1 own1 mc1 me) a (xs.drop (i + 1)) S) hn1 (fun a S => lcRest2_len lcStep2_noex) hD (items_lt ei) wk6 at6 ((er2.ext x5).ext x6) h2
                    fun acc F μ H S a _ g => ⟨hlt, F, μ, S, acc, a, g⟩
              · rw [ee', Out.bind_bad] at h2; exact h2.elim
          · rw [ec', Out.bind_bad] at h2; exact h2.elim
      · have : xs.drop i = [] := List.drop_eq_nil_of_le hge
        rw [this] at h2
        refine .inl ⟨stop i hge, ?_⟩
        have a2 : LcAt T K L F1 μ1 H1 D acc F2 μ2 H2 S2 := ⟨at2.x.less, s1.less at2.x.to0 at2.s hlk, at2.at_⟩
        exact a2.fin (acc := acc) hD (by simpa [lcRest2, lcL2] using h2)
end
end
end Mi

/-! statements -/
namespace Mi
open PySem PySem.Spec PyProof.Rows L2
noncomputable section
section
variable {T : Tb} {C : Ctx} {K : PySem.W.Frag} {E : XK} {L lk : List Nat} {F H F1 H1 : Hp} {μ μ1 : List Addr} {S S1 : Sto} {env : Env} {σ : L2.St} {D : Ends} {N : Nat}
theorem XR.later {c : Nat} {p : Option W} (x : Ext L F μ H F1 μ1 H1) (h : XR T K L F μ H E c p S) : XR T K L F1 μ1 H1 E c p S := fun F' μ' H' C d x' s => h F' μ' H' C d (x.trans x') s
theorem XR.inner {c : Nat} {p : Option W} (hlk : ∀ n ∈ lk, n < S1.length) (s1 : SR T K L F1 H1 μ1 S1) (x : Ext (lk ++ L) F1 μ1 H1 F μ H) (h : XR T K L F1 μ1 H1 E c p S) : XR T K (lk ++ L) F μ H E c p S :=
  fun F' μ' H' C d x' s => h F' μ' H' C d (x.trans x').less (s1.less (x.trans x').to0 s hlk)
theorem sI_seq {a : M} {f : W → Sto → Out Fl} {Q' : VK} (sr : SR T K L F H μ S) (er : ER T K F μ env σ) (h : FR T K E L F μ H ((ev C L a env S).bind f) D)
    (k : ∀ F1 μ1 H1 S1 w x, Ext L F μ H F1 μ1 H1 → SR T K L F1 H1 μ1 S1 → ER T K F1 μ1 env σ → RW T K F1 μ1 w x → FR T K E L F1 μ1 H1 (f w S1) D → Q' x H1) : tI T C K E a σ H Q' := by
  refine ⟨L, F, μ, S, env, sr, er, ?_⟩
  cases e : ev C L a env S with
  | ok w S1 =>
    rw [e] at h
    exact fun F1 μ1 H1 v x s r => k F1 μ1 H1 S1 w v x s (er.ext x) r (FR.later x h)
  | ex c p S1 => rw [e] at h; exact h
  | bad => rw [e] at h; exact h
theorem sT_seq {a : M} {f : W → Sto → Out Fl} {Q' : Bool → Hp → Prop} (sr : SR T K L F H μ S) (er : ER T K F μ env σ) (h : FR T K E L F μ H ((ev C L a env S).bind f) D)
    (k : ∀ F1 μ1 H1 S1 b, Ext L F μ H F1 μ1 H1 → SR T K L F1 H1 μ1 S1 → ER T K F1 μ1 env σ → FR T K E L F1 μ1 H1 (f (.bl b) S1) D → Q' b H1) : tT T C K E a σ H Q' := by
  refine ⟨L, F, μ, S, env, sr, er, ?_⟩
  cases e : ev C L a env S with
  | ok w S1 =>
    rw [e] at h
    intro F1 μ1 H1 v x s r
    subst r
    exact k F1 μ1 H1 S1 v x s (er.ext x) (FR.later x h)
  | ex c p S1 => rw [e] at h; exact h
  | bad => rw [e] at h; exact h
theorem FR.nx' {e : Env} (h : FR T K E L F μ H (.ok (.nx e) S) D) (sr : SR T K L F H μ S) (er : ER T K F μ e σ) : D.nx σ H := h F μ H σ .refl sr er
end
section
variable {X : Cx} {T : Tb} {C : Ctx} {E : XK} {e a b c tg : Expr} {pos p : Pos} {ma mb mc : M} {N : Nat} {st : Stmt} {sts : List Stmt} {m m' : MS}
abbrev tSX (T : Tb) (C : Ctx) (X : Cx) (E : XK) (N : Nat) (m : MS) : TS := tS T C X.K E N m
theorem s_nil : PSs X [] (tSX T C X E N .skip) := pss_nil.imp fun D σ H ⟨L, F, μ, S, env, sr, er, h⟩ => FR.nx' h sr er
theorem s_cons (h1 : PS X st (tSX T C X E N m)) (h2 : PSs X sts (tSX T C X E N m')) : PSs X (st :: sts) (tSX T C X E N (.seq m m')) :=
  (pss_cons h1 h2).imp fun D σ H ⟨L, F, μ, S, env, sr, er, h⟩ => by
    refine ⟨L, F, μ, S, env, sr, er, ?_⟩
    simp only [exS] at h
    cases e1 : exS C N L m env S with
    | ex c p S1 => rw [e1] at h; exact h
    | bad => rw [e1] at h; exact h
    | ok f S1 =>
      rw [e1] at h
      simp only [Out.bind_ok] at h
      cases f with
      | nx e' => exact fun F1 μ1 H1 σ1 x1 s1 er1 => ⟨L, F1, μ1, S1, e', s1, er1, FR.later x1 h⟩
      | rt w => exact h
      | bk e' => exact h
      | ct e' => exact h
theorem s_skip : PS X (.Pass pos) (tSX T C X E N .skip) := ps_pass.imp fun D σ H ⟨L, F, μ, S, env, sr, er, h⟩ => FR.nx' h sr er
theorem s_cont : PS X (.Continue pos) (tSX T C X E N .cont) := ps_continue.imp fun D σ H ⟨L, F, μ, S, env, sr, er, h⟩ => h F μ H σ .refl sr er
theorem s_brk : PS X (.Break pos) (tSX T C X E N .brk) := ps_break.imp fun D σ H ⟨L, F, μ, S, env, sr, er, h⟩ => h F μ H σ .refl sr er
theorem s_asg {t : Tg} (he : PE X e (tI T C X.K E ma)) (hg : PG X tg (gT T X.K t)) (hs : swapsWithSole [tg] e pos.line X.env = pure false) (hw : swappedStores [tg] e X.env = pure none)
    (h1 : (assignEach [tg] X.env).map (·.2) = [assign tg X.env]) : PS X (.Assign [tg] e pos) (tSX T C X E N (.asg t ma)) :=
  (ps_asg he hg hs hw h1).imp fun D σ H ⟨L, F, μ, S, env, sr, er, h⟩ => sI_seq sr er h fun F1 μ1 H1 S1 w x x1 s1 e1 r1 h1 => by
    cases eb : bindT t w env with
    | none => rw [eb] at h1; exact h1.elim
    | some env' =>
      rw [eb] at h1
      exact ⟨L, F1, μ1, S1, env, w, env', s1, e1, r1, eb, fun σ' er' _ => FR.nx' h1 s1 er'⟩
theorem s_setLc {i : Nat} {y : PySem.Str} {py : Pos} {elt iter : Expr} {ifs : List Expr} {scope : Scope} {own : List (PySem.Str × Nat)} {spos : Pos} {k : IK} {mit mcc me : M} {t : Tg} (hc : X.calm = true) (hN : X.N.Nodup) (hy : X.N[i]? = some y) (hyl : X.env.scope.names.lookup y = some .local)
    (hsw : swapsWith (.ListComp elt [⟨tg, iter, ifs, 0⟩] scope pos) (some (.Name y py)) spos.line X.env = pure true) (hi : PI X tg iter (tIt T C X.K E k mit)) (ok : BlkOk X.N X.env.scope scope own) (hn : ∀ i ∈ t.names, i ∈ own.map (·.2))
    (hg : ∀ (s : Shared) (H : Hp) (C' : Addr) (cl : List (PySem.Str × Addr)) (fp : List Addr), PG (X.blk s H scope (compEnvC scope cl C' X.env) fp) tg (gT T X.K t)) (ht : ∀ (s : Shared) (H : Hp) (C' : Addr) (cl : List (PySem.Str × Addr)) (fp : List Addr), PTs (X.blk s H scope (compEnvC scope cl C' X.env) fp) ifs (tT T C X.K E0 mcc))
    (he : ∀ (s : Shared) (H : Hp) (C' : Addr) (cl : List (PySem.Str × Addr)) (fp : List Addr), PE (X.blk s H scope (compEnvC scope cl C' X.env) fp) elt (tI T C X.K E0 me)) (hs : ∀ x, foldedSetIterable iter X.env x = pure x) :
    PS X (.Assign [.Name y py] (.ListComp elt [⟨tg, iter, ifs, 0⟩] scope pos) spos) (tSX T C X E N (.asg (.nm i) (.lc k mit t (own.map (·.2)) mcc me))) :=
  (ps_setLc hc hN hy hyl hsw hi ok hg ht he hs).imp fun D σ H ⟨L, F, μ, S, env, sr, er, h⟩ => tLc_of hn (sI_seq sr er h fun F1 μ1 H1 S1 w x x1 s1 e1 r1 h1 => FR.nx' h1 s1 (e1.set r1))
theorem m_lc {elt iter : Expr} {ifs : List Expr} {scope : Scope} {own : List (PySem.Str × Nat)} {k : IK} {mit mcc me : M} {t : Tg} (hc : X.calm = true) (hN : X.N.Nodup) (hi : PI X tg iter (tIt T C X.K E k mit)) (ok : BlkOk X.N X.env.scope scope own) (hn : ∀ i ∈ t.names, i ∈ own.map (·.2))
    (hg : ∀ (s : Shared) (H : Hp) (C' : Addr) (cl : List (PySem.Str × Addr)) (fp : List Addr), PG (X.blk s H scope (compEnvC scope cl C' X.env) fp) tg (gT T X.K t)) (ht : ∀ (s : Shared) (H : Hp) (C' : Addr) (cl : List (PySem.Str × Addr)) (fp : List Addr), PTs (X.blk s H scope (compEnvC scope cl C' X.env) fp) ifs (tT T C X.K E0 mcc))
    (he : ∀ (s : Shared) (H : Hp) (C' : Addr) (cl : List (PySem.Str × Addr)) (fp : List Addr), PE (X.blk s H scope (compEnvC scope cl C' X.env) fp) elt (tI T C X.K E0 me)) (hs : ∀ x, foldedSetIterable iter X.env x = pure x) :
    PE X (.ListComp elt [⟨tg, iter, ifs, 0⟩] scope pos) (tI T C X.K E (.lc k mit t (own.map (·.2)) mcc me)) :=
  (pe_lc hc hN hi ok hg ht he hs).imp fun σ H Q h => tLc_of hn h
theorem s_aug {i : Nat} {x : PySem.Str} {p' : Pos} (hN : X.N.Nodup) (hi : X.N[i]? = some x) (hx : Loc X.env.scope x) (he : PE X e (tI T C X.K E ma)) (hf : X.fn x = true ∨ X.env.scope.names.lookup x = some .local) :
    PS X (.AugAssign (.Name x p') .Add e pos) (tSX T C X E N (.aug i ma)) :=
  (ps_aug hN hi hx he ip_add hf).imp fun D σ H ⟨L, F, μ, S, env, sr, er, h⟩ => by
    simp only [exS] at h
    split at h
    · rename_i a ha
      obtain ⟨v, h1, h2⟩ := er.at_ _ _ ha
      rw [h2.int_inv] at h1
      refine ⟨_, h1, sI_seq sr er h fun F1 μ1 H1 S1 w x x1 s1 e1 r1 h1 => ?_⟩
      cases w with
      | int b => exact ⟨a, b, rfl, r1.int_inv, FR.nx' h1 s1 (e1.set (.int _))⟩
      | _ => exact h1.elim
    · exact h.elim
theorem PSet.or {t t' : TSet} (h : PSet X t) (h' : PSet X t') : PSet X (fun o i v H Q => t o i v H Q ∨ t' o i v H Q) := fun pins s σ H o i v ov iv u Q I r1 r2 r3 q => by
  rcases q with q | q
  · exact h pins s σ H o i v ov iv u Q I r1 r2 r3 q
  · exact h' pins s σ H o i v ov iv u Q I r1 r2 r3 q
end
end
end Mi

/-! statements: stores, loops -/
namespace Mi
open PySem PySem.Spec PyProof.Rows L2
noncomputable section
section
variable {T : Tb} {C : Ctx} {K : PySem.W.Frag} {E : XK} {L lk : List Nat} {F H F1 H1 : Hp} {μ μ1 : List Addr} {S S1 : Sto} {env : Env} {σ : L2.St} {D : Ends} {N : Nat}
/-- a dict's store -/
theorem dPut_ok (hT : T.Ok) (sr : SR T K L F H μ S) {n : Nat} {y v : W} {S' : Sto} {a : Addr} {yv vv : V} (hn : n ∉ L) (h : dPut S n y v = some S') (ha : μ[n]? = some a) (ry : RW T K F μ y yv) (rv : RW T K F μ v vv) :
    ∃ H', DPut H a yv vv H' ∧ SR T K L F H' μ S' ∧ Ext L F μ H F μ H' := by
  unfold dPut at h
  split at h
  · rename_i kvs hk
    obtain ⟨b, ob, hb, _, hr, hd, _⟩ := sr.get hk
    rw [ha] at hb; cases hb
    obtain ⟨kvs', rfl, hp⟩ := hr
    obtain ⟨k, hy, h⟩ := Option.bind_eq_some_iff.mp h
    obtain ⟨hl, rfl⟩ := ite_some h
    obtain ⟨k', rfl, rk⟩ := ry.key hy
    have hp' := tab_put (fun a b => RK.inj hT a b) rk rv hp
    obtain ⟨s', x'⟩ := sr.put (nd := .dK (putT kvs k v)) hn hk ha ⟨_, rfl, hp'⟩
    exact ⟨_, .inl ⟨kvs', k', hd hn, rfl, by rw [← paired_len hp]; exact hl, rfl⟩, s', x'⟩
  · rename_i kvs hk
    obtain ⟨b, ob, hb, _, hr, hd, _⟩ := sr.get hk
    rw [ha] at hb; cases hb
    obtain ⟨kvs', rfl, hp⟩ := hr
    split at h
    · rename_i l
      obtain ⟨k, hy, h⟩ := Option.bind_eq_some_iff.mp h
      obtain ⟨hl, rfl⟩ := ite_some h
      obtain ⟨vs, c, rfl, hc, hi, q⟩ := ry.tup_inv
      obtain ⟨h1, h2⟩ := tkey_some hy
      obtain ⟨k', rfl, rk⟩ := q.keys h2
      have hp' := tab_put (fun a b => RKs.inj hT a b) rk rv hp
      obtain ⟨s', x'⟩ := sr.put (nd := .dT (putT kvs k v)) hn hk ha ⟨_, rfl, hp'⟩
      exact ⟨_, .inr ⟨kvs', k', c, hd hn, rfl, sr.sub _ _ (hi h1), by rw [← paired_len hp]; exact hl, rfl⟩, s', x'⟩
    · cases h
  · cases h
end
section
variable {X : Cx} {T : Tb} {C : Ctx} {E : XK} {e a b c tg : Expr} {pos p : Pos} {ma mb mc : M} {N : Nat} {st : Stmt} {sts : List Stmt} {m m' : MS}
theorem s_setIx {o i : Expr} {mo mi : M} {tpos : Pos} (hT : T.Ok) (hu : X.A.units + 64 < cLine) (ho : PE X o (tI T C X.K E mo)) (hi : PE X i (tI T C X.K E mi)) (he : PE X e (tI T C X.K E ma)) (hs : swapsWithSole [.Subscript o i tpos] e pos.line X.env = pure false)
    (ha : ∀ v, assign (.Subscript o i tpos) X.env v = (do
      let ov ← holding [v] (eval o X.env)
      let iv ← holding [v, ov] (eval i X.env)
      standAt tpos
      holding [v, ov, iv] (setItem ov iv v)
      release [v, ov, iv] [])) :
    PS X (.Assign [.Subscript o i tpos] e pos) (tSX T C X E N (.setIx mo mi ma)) :=
  (ps_asg he (pg_sub ho hi (PSet.or set_list (set_dict (by omega))) ha) hs rfl rfl).imp fun D σ H ⟨L, F, μ, S, env, sr, er, h⟩ => sI_seq sr er h fun F1 μ1 H1 S1 w v x1 s1 e1 r1 h1 => sI_seq s1 e1 h1 fun F2 μ2 H2 S2 ow ov x2 s2 e2 r2 h2 => sI_seq s2 e2 h2 fun F3 μ3 H3 S3 iw iv x3 s3 e3 r3 h3 => by
    have r1' := (r1.ext x2).ext x3
    have r2' := r2.ext x3
    cases ow with
    | ref n =>
      obtain ⟨a, rfl, hna⟩ := r2'.ref_inv
      by_cases hn : n ∈ L
      · simp only [hn, if_true] at h3; exact h3.elim
      · simp only [hn, if_false] at h3
        split at h3
        · rename_i l hl
          cases iw with
          | int k =>
            simp only at h3
            split at h3
            · rename_i j hj
              obtain ⟨b, ob, hb, _, hr, hd, _⟩ := s3.get hl
              rw [hna] at hb; cases hb
              obtain ⟨us, rfl, q⟩ := hr
              obtain ⟨s4, x4⟩ := s3.put (nd := .lst (l.set j w)) (o := .lst (us.set j v)) hn hl hna ⟨_, rfl, q.set j r1'⟩
              exact .inl ⟨a, us, k, j, rfl, r3.int_inv, hd hn, by rw [← q.length]; exact hj, FR.nx' (FR.later x4 h3) s4 (e3.ext x4)⟩
            · exact h3.elim
          | _ => exact h3.elim
        · split at h3
          · rename_i S4 hp
            obtain ⟨H4, g, s4, x4⟩ := dPut_ok hT s3 hn hp hna r3 r1'
            exact .inr ⟨a, H4, rfl, g, FR.nx' (FR.later x4 h3) s4 (e3.ext x4)⟩
          · exact h3.elim
    | _ => exact h3.elim
theorem lookup_put {T : Tb} {K : PySem.W.Frag} {F : Hp} {μ : List Addr} (hT : T.Ok) {f : Nat} {x : PySem.Str} (hx : T.ats[f]? = some x) {w : W} {v : V} (r : RW T K F μ w v) : ∀ {fs : List (Nat × W)} {vs : List (PySem.Str × V)},
    Paired (fun (p : Nat × W) (q : PySem.Str × V) => T.ats[p.1]? = some q.1 ∧ RW T K F μ p.2 q.2) fs vs → Paired (fun (p : Nat × W) (q : PySem.Str × V) => T.ats[p.1]? = some q.1 ∧ RW T K F μ p.2 q.2) (putA f w fs) (putF x v vs)
  | _, _, .nil => .cons ⟨hx, r⟩ .nil
  | (g, u) :: fs, (y, z) :: vs, .cons h t => by
    simp only [putA, putF]
    by_cases e : g = f
    · subst e
      have : y = x := by have := h.1; simp only at this; rw [hx] at this; exact (Option.some.inj this).symm
      rw [if_pos rfl, if_pos this]
      exact .cons ⟨h.1, r⟩ t
    · have : ¬ y = x := fun z' => e (nodup_ixS hT.an h.1 (by rw [z']; exact hx))
      rw [if_neg e, if_neg this]
      exact .cons h (lookup_put hT hx r t)
theorem s_setFld {o : Expr} {mo : M} {f : Nat} {x : PySem.Str} {pos' : Pos} (hT : T.Ok) (hx : T.ats[f]? = some x) (hc : ∀ (c : Nat) D, T.obs[c]? = some D → Cls X.K D ∧ NoAttr X.K D x) (ho : PE X o (tI T C X.K E mo)) (he : PE X e (tI T C X.K E ma))
    (hs : swapsWith e (some (.Attribute o x pos')) pos.line X.env = pure false) : PS X (.Assign [.Attribute o x pos'] e pos) (tSX T C X E N (.setFld mo f ma)) :=
  (ps_fld ho he hs).imp fun D σ H ⟨L, F, μ, S, env, sr, er, h⟩ => sI_seq sr er h fun F1 μ1 H1 S1 w v x1 s1 e1 r1 h1 => sI_seq s1 e1 h1 fun F2 μ2 H2 S2 ow ov x2 s2 e2 r2 h2 => by
    cases ow with
    | ref n =>
      obtain ⟨a, rfl, hna⟩ := r2.ref_inv
      by_cases hn : n ∈ L
      · simp only [hn, if_true] at h2; exact h2.elim
      · simp only [hn, if_false] at h2
        split at h2
        · rename_i c fs hl
          split at h2
          · rename_i hlen
            obtain ⟨b, ob, hb, _, hr, hd, _⟩ := s2.get hl
            rw [hna] at hb; cases hb
            obtain ⟨D', dx, us, h3, rfl, q⟩ := hr
            obtain ⟨s4, x4⟩ := s2.put (nd := .ob c (putA f w fs)) (o := .ins D' dx (putF x v us)) hn hl hna ⟨_, _, _, h3, rfl, lookup_put hT hx (r1.ext x2) q⟩
            exact ⟨a, D', dx, us, rfl, hd hn, (hc _ _ h3).1, (hc _ _ h3).2, by rw [← paired_len q]; exact hlen, FR.nx' (FR.later x4 h2) s4 (e2.ext x4)⟩
          · exact h2.elim
        · exact h2.elim
    | _ => exact h2.elim
theorem s_ex (he : PE X e (tI T C X.K E ma)) (hs : swapsWith e none pos.line X.env = pure false) : PS X (.Expr e pos) (tSX T C X E N (.ex ma)) :=
  (ps_expr he hs).imp fun D σ H ⟨L, F, μ, S, env, sr, er, h⟩ => sI_seq sr er h fun F1 μ1 H1 S1 w v x1 s1 e1 r1 h1 => FR.nx' h1 s1 e1
theorem s_ret (he : PE X e (tI T C X.K E ma)) : PS X (.Return (some e) pos) (tSX T C X E N (.ret ma)) :=
  (ps_ret he).imp fun D σ H ⟨L, F, μ, S, env, sr, er, h⟩ => sI_seq sr er h fun F1 μ1 H1 S1 w v x1 s1 e1 r1 h1 => h1 _ _ _ _ .refl s1 r1
theorem s_retN : PS X (.Return none pos) (tSX T C X E N (.ret (.cst .non))) :=
  ps_retN.imp fun D σ H ⟨L, F, μ, S, env, sr, er, h⟩ => h _ _ _ _ .refl sr .non
theorem s_ife {sa sb : List Stmt} (hc : PT X c (tT T C X.K E mc)) (ha : PSs X sa (tSX T C X E N m)) (hb : PSs X sb (tSX T C X E N m')) : PS X (.If c sa sb pos) (tSX T C X E N (.ife mc m m')) :=
  (ps_if hc ha hb).imp fun D σ H ⟨L, F, μ, S, env, sr, er, h⟩ => sT_seq sr er h fun F1 μ1 H1 S1 b x1 s1 e1 h1 => by
    cases b
    · exact ⟨L, F1, μ1, S1, env, s1, e1, h1⟩
    · exact ⟨L, F1, μ1, S1, env, s1, e1, h1⟩
theorem s_whl {body : List Stmt} (hp : PassesOwn (model X.prog X.w) X.A X.env X.xe) (hc : PT X c (tT T C X.K E mc)) (hb : PSs X body (tSX T C X E N m)) : PS X (.While c body [] pos) (tSX T C X E N (.whl mc m)) :=
  (ps_while hp hc hb).imp fun D σ H ⟨L, F, μ, S, env, sr, er, h⟩ => by
    simp only [exS] at h
    refine ⟨fun n σ' H' => ∃ F' μ' S' env', SR T X.K L F' H' μ' S' ∧ ER T X.K F' μ' env' σ' ∧ FR T X.K E L F' μ' H' (whlL (fun env S => ev C L mc env S) (fun env S => exS C N L m env S) n env' S') D, ⟨N, F, μ, S, env, sr, er, h⟩, ?_⟩
    rintro n σ1 H1 ⟨F1, μ1, S1, env1, s1, er1, h1⟩
    cases n with
    | zero => exact h1.elim
    | succ n =>
      simp only [whlL] at h1
      refine sT_seq s1 er1 h1 fun F2 μ2 H2 S2 b x2 s2 e2 h2 => ?_
      cases b
      · exact FR.nx' h2 s2 e2
      · refine ⟨fun σ' H' => ∃ F' μ' S' env', SR T X.K L F' H' μ' S' ∧ ER T X.K F' μ' env' σ' ∧ FR T X.K E L F' μ' H' (whlL (fun env S => ev C L mc env S) (fun env S => exS C N L m env S) n env' S') D, fun σ' H' h' => ⟨n, Nat.lt_succ_self n, h'⟩, ?_⟩
        simp only at h2
        refine ⟨L, F2, μ2, S2, env1, s2, e2, ?_⟩
        cases ee : exS C N L m env1 S2 with
        | ex c p S' => rw [ee] at h2; exact h2
        | bad => rw [ee] at h2; exact h2
        | ok f S3 =>
          rw [ee] at h2
          simp only [Out.bind_ok] at h2
          cases f with
          | nx e' => exact fun F3 μ3 H3 σ3 x3 s3 e3 => ⟨F3, μ3, S3, e', s3, e3, FR.later x3 h2⟩
          | ct e' => exact fun F3 μ3 H3 σ3 x3 s3 e3 => ⟨F3, μ3, S3, e', s3, e3, FR.later x3 h2⟩
          | bk e' => exact h2
          | rt w => exact h2
theorem s_for {iter : Expr} {body : List Stmt} {k : IK} {mit : M} {t : Tg} (hp : PassesOwn (model X.prog X.w) X.A X.env X.xe) (hc : X.calm = true) (hi : PI X tg iter (tIt T C X.K E k mit)) (hg : PG X tg (gT T X.K t)) (hb : PSs X body (tSX T C X E N m))
    (hs : ∀ x, foldedSetIterable iter X.env x = pure x) : PS X (.For tg iter body [] pos) (tSX T C X E N (.for_ k mit t m)) :=
  (ps_for hp hc hi hg hb hs).imp fun D σ H ⟨L, F, μ, S, env, sr, er, h⟩ => by
    refine ⟨L, F, μ, S, env, sr, er, ?_⟩
    simp only [exS] at h
    cases e1 : ev C L mit env S with
    | ex c p S1 => rw [e1] at h; exact h
    | bad => rw [e1] at h; exact h
    | ok w S1 =>
      rw [e1] at h
      simp only [Out.bind_ok] at h
      cases e2 : items S1 k w with
      | none => simp only [e2] at h ⊢; exact h
      | some p =>
        obtain ⟨xs, lk⟩ := p
        simp only [e2] at h ⊢
        intro F1 μ1 H1 J x1 s1 wk
        have hlk := items_lt e2
        generalize hst : (fun x env S => match bindT t x env with
          | none => .bad
          | some env' => exS C N (lk ++ L) m env' S : W → Env → Sto → Out Fl) = step at h
        have h := FR.later x1 h
        refine ⟨fun i n σ' H' => n = xs.length - i ∧ i ≤ xs.length ∧ ∃ F' μ' S' env', Ext (lk ++ L) F1 μ1 H1 F' μ' H' ∧ SR T X.K (lk ++ L) F' H' μ' S' ∧ ER T X.K F' μ' env' σ' ∧ FR T X.K E L F' μ' H' (forL step (xs.drop i) env' S') D,
          ⟨_, rfl, Nat.zero_le _, F1, μ1, S1, env, .refl, s1.more hlk, er.ext x1, h⟩, ?_⟩
        rintro i n σ2 H2 ⟨rfl, hi', F2, μ2, S2, env2, x2, s2, er2, h2⟩
        obtain ⟨go, stop, yld⟩ := wk L F2 μ2 H2 S2 x2.only.to0 s2
        rcases Nat.lt_or_ge i xs.length with hlt | hge
        · refine .inr ⟨go i hlt, fun σ' H' => (i + 1 ≤ xs.length ∧ ∃ F' μ' S' env', Ext (lk ++ L) F1 μ1 H1 F' μ' H' ∧ SR T X.K (lk ++ L) F' H' μ' S' ∧ ER T X.K F' μ' env' σ' ∧ FR T X.K E L F' μ' H' (forL step (xs.drop (i + 1)) env' S') D), fun σ' H' h' => ⟨_, by omega, rfl, h'⟩, fun v H3 hy => ?_⟩
          obtain ⟨F3, x3, s3, r3⟩ := yld i xs[i] v H3 (List.getElem?_eq_getElem hlt) hy
          have x03 := x2.trans x3
          rw [List.drop_eq_getElem_cons hlt] at h2
          simp only [forL] at h2
          have h3 := FR.later x3.less h2
          cases eb : bindT t xs[i] env2 with
          | none => rw [← hst] at h3; simp only [eb, Out.bind_bad] at h3; exact h3.elim
          | some env' =>
            refine ⟨_, F3, μ2, S2, env2, _, env', s3, er2.ext x3, r3, eb, fun σ4 er4 _ => ⟨_, F3, μ2, S2, env', s3, er4, ?_⟩⟩
            have hs1 : step xs[i] env2 S2 = exS C N (lk ++ L) m env' S2 := by rw [← hst]; simp only [eb]
            rw [hs1] at h3
            cases ee : exS C N (lk ++ L) m env' S2 with
            | ex c p S' =>
              rw [ee] at h3
              exact fun F' μ' H' C d x' s => h3 F' μ' H' C d x'.less (s1.less (x03.trans x').to0 s hlk)
            | bad => rw [ee] at h3; exact h3
            | ok f S3 =>
              rw [ee] at h3
              simp only [Out.bind_ok] at h3
              cases f with
              | nx e' => exact fun F4 μ4 H4 σ4 x4 s4 e4 => ⟨hlt, F4, μ4, S3, e', x03.trans x4, s4, e4, FR.later x4.less h3⟩
              | ct e' => exact fun F4 μ4 H4 σ4 x4 s4 e4 => ⟨hlt, F4, μ4, S3, e', x03.trans x4, s4, e4, FR.later x4.less h3⟩
              | bk e' => exact fun F4 μ4 H4 σ4 x4 s4 e4 => h3 F4 μ4 H4 σ4 x4.less (s1.less (x03.trans x4).to0 s4 hlk) e4
              | rt w' => exact fun F4 μ4 H4 v x4 s4 r4 => h3 F4 μ4 H4 v x4.less (s1.less (x03.trans x4).to0 s4 hlk) r4
        · have : xs.drop i = [] := List.drop_eq_nil_of_le hge
          rw [this] at h2
          exact .inl ⟨stop i hge, h2 F2 μ2 H2 σ2 .refl (s1.less x2.to0 s2 hlk) er2⟩
end
end
end Mi

/-! methods of built-in things, dict displays -/
namespace Mi
open PySem PySem.Spec PyProof.Rows L2
noncomputable section
section
variable {X : Cx} {T : Tb} {C : Ctx} {E : XK} {e a b c o : Expr} {pos p apos cpos : Pos} {ma mb mc mo : M}
theorem ev_mt {L : List Nat} {m : Mt} {F H : Hp} {μ : List Addr} {S : Sto} {env : Env} {σ : L2.St} {Q : VK} {Q1 : V → Hp → Prop} (sr : SR T X.K L F H μ S) (er : ER T X.K F μ env σ) (h : OR T X.K E L F μ H (ev C L (.mt m mo ma) env S) (RWv T X.K) Q)
    (k : ∀ F1 μ1 H1 S1 n a, SR T X.K L F1 H1 μ1 S1 → ER T X.K F1 μ1 env σ → μ1[n]? = some a → mtT S1 m (.ref n) = true → OR T X.K E L F1 μ1 H1 ((ev C L ma env S1).bind fun y S2 => match y with
      | .tup l => match mtW L S2 m n l with
        | some (w, S3) => .ok w S3
        | none => .bad
      | _ => .bad) (RWv T X.K) Q → Q1 (.ref a) H1) : tI T C X.K E mo σ H Q1 := by
  refine tI_seq sr er h fun F1 μ1 H1 S1 w x x1 s1 e1 r1 h1 => ?_
  split at h1
  · rename_i ht
    cases w with
    | ref n =>
      obtain ⟨a, rfl, hn⟩ := r1.ref_inv
      refine k _ _ _ S1 n a s1 e1 hn ht ?_
      cases ee : ev C L ma env S1 with
      | ok y S2 => rw [ee] at h1; simp only [Out.bind_ok] at h1 ⊢; cases y <;> first | exact h1 | exact h1.elim
      | ex c p S2 => rw [ee] at h1; exact h1
      | bad => rw [ee] at h1; exact h1
    | _ => simp [mtT] at ht
  · exact h1.elim
theorem list_ty {L : List Nat} {F H : Hp} {μ : List Addr} {S : Sto} {n : Nat} {a : Addr} (sr : SR T X.K L F H μ S) (hn : μ[n]? = some a) {l : List W} (h : S[n]? = some (.lst l)) : tyV X.K "list" (.ref a) H := by
  obtain ⟨vs, a', e, h1, _⟩ := lis_ok (l := l) sr (show W.lis S (.ref n) = some l by simp only [W.lis, h]) (.ref hn)
  cases e
  exact .inl ⟨rfl, vs, .inl (.inl h1)⟩
theorem mtT_lst {S : Sto} {m : Mt} {n : Nat} (hm : m = .append ∨ m = .extend) (h : mtT S m (.ref n) = true) : ∃ l, S[n]? = some (.lst l) := by
  rcases hm with rfl | rfl
  all_goals
    simp only [mtT] at h
    split at h
    all_goals first | (cases h; done) | (rename_i e1 e2; first | exact ⟨_, e2⟩ | cases e1)
theorem mtT_dic {S : Sto} {n : Nat} (h : mtT S .get2 (.ref n) = true) : (∃ l, S[n]? = some (.dK l)) ∨ ∃ l, S[n]? = some (.dT l) := by
  simp only [mtT] at h
  split at h
  all_goals first | (cases h; done) | (rename_i e1 e2; first | exact .inl ⟨_, e2⟩ | exact .inr ⟨_, e2⟩ | cases e1)
theorem is_dic {L : List Nat} {F H : Hp} {μ : List Addr} {S : Sto} {n : Nat} {a : Addr} (sr : SR T X.K L F H μ S) (hn : μ[n]? = some a) (h : (∃ l, S[n]? = some (.dK l)) ∨ ∃ l, S[n]? = some (.dT l)) : IsD H a := by
  rcases h with ⟨l, h⟩ | ⟨l, h⟩
  · obtain ⟨b, ob, hb, _, ⟨kvs, rfl, _⟩, _, hd⟩ := sr.get h
    rw [hn] at hb; cases hb
    exact .inl ⟨kvs, hd⟩
  · obtain ⟨b, ob, hb, _, ⟨kvs, rfl, _⟩, _, hd⟩ := sr.get h
    rw [hn] at hb; cases hb
    exact .inr ⟨kvs, hd⟩
theorem m_app (ho : PE X o (tI T C X.K E mo)) (he : PE X e (tI T C X.K E ma)) (hbase : attributeBase o "append" X.env (eval o X.env) = eval o X.env)
    (hfew : ((backTo cpos (starEach [e] X.env)).all (fun x => !x.1) && (backToKw cpos (keywordEach [] X.env)).all (fun x => x.1.isSome)
      && decide (([e] : List Expr).length + ([] : List Keyword).length + (if ([] : List Keyword).isEmpty then 0 else 1) < 30)) = true)
    (hline : (apos.endLine == cpos.line) = true) (hs : starEach [e] X.env = (false, eval e X.env) :: starEach [] X.env) :
    PE X (.Call (.Attribute o "append" apos) [e] [] cpos) (tI T C X.K E (.mt .append mo (.cons ma .nil))) :=
  (pe_bm PySem.F.plainAttrs_list PySem.F.slot_list_append PySem.F.type_list_append mt_append ho (ma_cons he ma_nil hs) hbase hfew hline hs rfl).imp fun σ H Q ⟨L, F, μ, S, env, sr, er, h⟩ =>
    ev_mt sr er h fun F1 μ1 H1 S1 n a s1 e1 hn ht h1 => by
      obtain ⟨l, hl⟩ := mtT_lst (.inl rfl) ht
      refine ⟨list_ty s1 hn hl, tA_seq s1 e1 h1 fun F2 μ2 H2 S2 ws xs x2 s2 e2 r2 h2 => ?_⟩
      simp only [mtW] at h2
      split at h2
      · rename_i w S3 hw
        split at hw
        · rename_i x
          unfold appW at hw
          split at hw
          · rename_i l' hl'
            obtain ⟨⟨c1, c2⟩, hz⟩ := ite_some hw
            cases hz
            obtain ⟨v, rfl, r⟩ := r2.one_inv
            obtain ⟨b, ob, hb, _, ⟨us, rfl, q⟩, hd, _⟩ := s2.get hl'
            have hn' : μ2[n]? = some a := by obtain ⟨more, rfl⟩ := x2.m; exact get_app hn
            rw [hn'] at hb; cases hb
            obtain ⟨s3, x3⟩ := s2.put (nd := .lst (l' ++ [x])) (o := .lst (us ++ [v])) c1 hl' hn' ⟨_, rfl, q.append (.cons r .nil)⟩
            exact ⟨a, us, v, rfl, rfl, hd c1, by rw [← q.length]; exact c2, h2 _ _ _ _ x3 s3 .non⟩
          · cases hw
        · cases hw
      · exact h2.elim
theorem m_get2 {f : Expr} (hT : T.Ok) (hu : X.A.units + 64 < cLine) (ho : PE X o (tI T C X.K E mo)) (he : PE X e (tI T C X.K E ma)) (hf : PE X f (tI T C X.K E mb)) (m : M2 X o "get" apos e f cpos) :
    PE X (.Call (.Attribute o "get" apos) [e, f] [] cpos) (tI T C X.K E (.mt .get2 mo (.cons ma (.cons mb .nil)))) :=
  (pe_dget2 (by omega) ho he hf m).imp fun σ H Q ⟨L, F, μ, S, env, sr, er, h⟩ =>
    ev_mt sr er h fun F1 μ1 H1 S1 n a s1 e1 hn ht h1 => by
      refine ⟨a, rfl, is_dic s1 hn (mtT_dic ht), ?_⟩
      have h' : OR T X.K E L F1 μ1 H1 ((ev C L ma env S1).bind fun x S2 => (ev C L mb env S2).bind fun y S3 => match mtW L S3 .get2 n [x, y] with
        | some (w, S3) => .ok w S3
        | none => .bad) (RWv T X.K) Q := by
        simp only [ev] at h1
        cases ee : ev C L ma env S1 with
        | ok w S2 =>
          rw [ee] at h1
          simp only [Out.bind_ok] at h1 ⊢
          cases e2 : ev C L mb env S2 <;> rw [e2] at h1 <;> exact h1
        | ex _ _ _ => rw [ee] at h1; exact h1
        | bad => rw [ee] at h1; exact h1
      refine tI_seq s1 e1 h' fun F2 μ2 H2 S2 w x x2 s2 e2 r2 h2 => tI_seq s2 e2 h2 fun F3 μ3 H3 S3 u y x3 s3 e3 r3 h3 => ?_
      simp only [mtW] at h3
      cases hd : dLook S3 n w with
      | none => rw [hd] at h3; exact h3.elim
      | some o =>
        rw [hd] at h3
        have hn' : μ3[n]? = some a := by
          obtain ⟨more, rfl⟩ := x2.m
          obtain ⟨more', rfl⟩ := x3.m
          exact get_app (get_app hn)
        obtain ⟨o', g, q⟩ := dLook_ok hT s3 hd hn' (r2.ext x3)
        refine ⟨o', g, ?_⟩
        rcases q with ⟨rfl, rfl⟩ | ⟨w', u', rfl, rfl, r'⟩
        · exact OR.fin (w := u) h3 s3 r3
        · exact OR.fin (w := w') h3 s3 r'
/-! ### dict displays -/
def trs (T : Tb) (C : Ctx) (K : PySem.W.Frag) (E : XK) : M → List (TE × TE)
  | .cons k (.cons v r) => (tI T C K E k, tI T C K E v) :: trs T C K E r
  | _ => []
def M.even : M → Bool
  | .nil => true
  | .cons _ (.cons _ r) => r.even
  | _ => false
theorem pairs_of_ev {K : PySem.W.Frag} {L : List Nat} {α β : Type} {R : Hp → List Addr → α → β → Prop} {Q : β → Hp → Prop} {σ : L2.St} {env : Env} : ∀ {m : M} {F H : Hp} {μ : List Addr} {S : Sto} {Q' : List (V × V) → Hp → Prop} {f : List W → Sto → Out α}, m.even = true → SR T K L F H μ S → ER T K F μ env σ →
    OR T K E L F μ H ((ev C L m env S).bind fun y S2 => match y with | .tup l => f l S2 | _ => .bad) R Q →
    (∀ F2 μ2 H2 S2 ws ps, Ext L F μ H F2 μ2 H2 → SR T K L F2 H2 μ2 S2 → RWs T K F2 μ2 ws (ps.flatMap fun p => [p.1, p.2]) → OR T K E L F2 μ2 H2 (f ws S2) R Q → Q' ps H2) → tPairs (trs T C K E m) σ H Q'
  | .nil, F, H, μ, S, Q', f, _, sr, er, h, k => k F μ H S [] [] .refl sr .nil h
  | .cons a (.cons b r), F, H, μ, S, Q', f, hm, sr, er, h, k => by
    have h' : OR T K E L F μ H ((ev C L a env S).bind fun x S1 => (ev C L b env S1).bind fun y S2 => (ev C L r env S2).bind fun z S3 => match z with | .tup l => f (x :: y :: l) S3 | _ => .bad) R Q := by
      simp only [ev, Out.bind_assoc] at h
      cases e1 : ev C L a env S with
      | ex _ _ _ => rw [e1] at h; exact h
      | bad => rw [e1] at h; exact h
      | ok x S1 =>
        rw [e1] at h
        simp only [Out.bind_ok] at h ⊢
        cases e2 : ev C L b env S1 with
        | ex _ _ _ => rw [e2] at h; exact h
        | bad => rw [e2] at h; exact h
        | ok y S2 =>
          rw [e2] at h
          simp only [Out.bind_ok] at h ⊢
          cases e3 : ev C L r env S2 with
          | ex _ _ _ => rw [e3] at h; exact h
          | bad => rw [e3] at h; exact h
          | ok z S3 =>
            rw [e3] at h
            simp only [Out.bind_ok] at h ⊢
            cases z <;> first | exact h | exact h.elim
    refine tI_seq sr er h' fun F1 μ1 H1 S1 w x x1 s1 e1 r1 h1 => tI_seq s1 e1 h1 fun F2 μ2 H2 S2 u y x2 s2 e2 r2 h2 => ?_
    exact pairs_of_ev (m := r) (f := fun l S => f (w :: u :: l) S) hm s2 e2 h2 fun F3 μ3 H3 S3 ws ps x3 s3 r3 h3 =>
      k F3 μ3 H3 S3 (w :: u :: ws) ((x, y) :: ps) ((x1.trans x2).trans x3) s3 (.cons ((r1.ext x2).ext x3) (.cons (r2.ext x3) r3)) h3
theorem pairsW_rel {K : PySem.W.Frag} {F : Hp} {μ : List Addr} : ∀ {ws : List W} {ps : List (V × V)} {kvs : List (MK × W)}, RWs T K F μ ws (ps.flatMap fun p => [p.1, p.2]) → pairsW ws = some kvs →
    ∃ kvs' : List (Key × V), ps = kvs'.map (fun kv => (kV kv.1, kv.2)) ∧ Paired (fun (p : MK × W) (q : Key × V) => RK T p.1 q.1 ∧ RW T K F μ p.2 q.2) kvs kvs'
  | [], [], _, _, h => by simp [pairsW] at h; subst h; exact ⟨[], rfl, .nil⟩
  | [], _ :: _, _, r, _ => by cases r
  | [_], [], _, r, _ => by cases r
  | [_], _ :: _, _, r, h => by simp [pairsW] at h
  | k :: v :: ws, [], _, r, _ => by cases r
  | k :: v :: ws, p :: ps, _, r, h => by
    cases r with
    | cons r1 r => cases r with
      | cons r2 r3 =>
        simp only [pairsW] at h
        split at h
        · rename_i k' ps' e1 e2
          cases h
          obtain ⟨kvs', rfl, q⟩ := pairsW_rel (ps := ps) r3 e2
          obtain ⟨k2, hk, rk⟩ := r1.key e1
          exact ⟨(k2, p.2) :: kvs', by rw [List.map_cons]; simp only; rw [← hk], .cons ⟨rk, r2⟩ q⟩
        · cases h
theorem merge_rel {K : PySem.W.Frag} {F : Hp} {μ : List Addr} (hT : T.Ok) : ∀ {l : List (MK × W)} {kvs : List (Key × V)} {a : List (MK × W)} {b : List (Key × V)}, Paired (fun (p : MK × W) (q : Key × V) => RK T p.1 q.1 ∧ RW T K F μ p.2 q.2) l kvs →
    Paired (fun (p : MK × W) (q : Key × V) => RK T p.1 q.1 ∧ RW T K F μ p.2 q.2) a b → Paired (fun (p : MK × W) (q : Key × V) => RK T p.1 q.1 ∧ RW T K F μ p.2 q.2) (mergeT a l) (mergeK b kvs)
  | _, _, _, _, .nil, r => r
  | _ :: l, _ :: kvs, _, _, .cons h t, r => merge_rel (l := l) (kvs := kvs) hT t (tab_put (fun a b => RK.inj hT a b) h.1 h.2 r)
theorem m_dct {keys : List (Option Expr)} {values : List Expr} (hT : T.Ok) (hm : ma.even = true) (h : PPs X pos keys values (trs T C X.K E ma)) (hall : keys.all (·.isSome) = true) (hl : keys.length = values.length) (h0 : keys ≠ []) (h15 : keys.length ≤ 15) :
    PE X (.Dict keys values pos) (tI T C X.K E (.dct ma)) :=
  (pe_disp h hall hl h0 h15).imp fun σ H Q ⟨L, F, μ, S, env, sr, er, h⟩ p hp => by
    obtain ⟨s1, x1, g1⟩ := sr.newAt hp (o := .dK []) (nd := .dK []) ⟨[], rfl, .nil⟩
    have h := OR.later (R := RWv T X.K) x1 h
    refine pairs_of_ev (α := W) (f := fun l S2 => match pairsW l, S2[S.length]? with
      | some ps, some (.dK []) => if ps.length ≤ 15 then .ok (W.ref S.length) (S2.set S.length (.dK (mergeT [] ps))) else .bad
      | _, _ => .bad) hm s1 (er.ext x1) h fun F2 μ2 H2 S2 ws ps x2 s2 r2 h2 => ?_
    split at h2
    · rename_i kvs e1 e2
      split at h2
      · rename_i h15
        obtain ⟨kvs', rfl, q⟩ := pairsW_rel r2 e1
        have hμ : μ2[S.length]? = some p := by obtain ⟨more, rfl⟩ := x2.m; exact get_app g1
        have hL : S.length ∉ L := fun z => Nat.lt_irrefl _ (sr.lb _ z)
        obtain ⟨b, ob, hb, _, ⟨us, rfl, q0⟩, hd, _⟩ := s2.get e2
        rw [hμ] at hb; cases hb
        cases q0
        obtain ⟨s3, x3⟩ := s2.put (nd := .dK (mergeT [] kvs)) (o := .dK (mergeK [] kvs')) hL e2 hμ ⟨_, rfl, merge_rel hT q .nil⟩
        exact ⟨hd hL, kvs', rfl, by rw [← paired_len q]; exact h15, h2 _ _ _ _ x3 s3 (.ref hμ)⟩
      · exact h2.elim
    · exact h2.elim
theorem m_dnew : PE X (.Dict [] [] pos) (tI T C X.K E (.dct .nil)) :=
  pe_dnewK.imp fun σ H Q ⟨L, F, μ, S, env, sr, er, h⟩ p hp => by
    obtain ⟨s1, x1, g1⟩ := sr.newAt hp (o := .dK []) (nd := .dK []) ⟨[], rfl, .nil⟩
    have e : ev C L (.dct .nil) env S = .ok (W.ref S.length) ((S ++ [Node.dK []]).set S.length (Node.dK [])) := by
      simp [ev, pairsW, mergeT]
    rw [e] at h
    have : (S ++ [Node.dK []]).set S.length (.dK []) = S ++ [.dK []] := by
      rw [List.set_append_right _ _ (Nat.le_refl _)]; simp
    rw [this] at h
    exact h _ _ _ _ x1 s1 (.ref g1)
end
end
end Mi

/-! lambdas as keys -/
namespace Mi
open PySem PySem.Spec PyProof.Rows L2
noncomputable section
theorem clo_nil (cells : List (PySem.Str × Addr)) : ∀ (l : List (PySem.Str × NameKind)) (acc : List (PySem.Str × Addr)), (∀ y ∈ l, y.2 ≠ .free) → cloFrom cells l acc = acc
  | [], acc, _ => rfl
  | (n, k) :: r, acc, h => by
    have hk : (k == NameKind.free) = false := by
      have := h (n, k) (List.mem_cons_self ..)
      cases k <;> first | rfl | exact absurd rfl this
    unfold cloFrom
    rw [hk]
    exact clo_nil cells r acc fun y hy => h y (List.mem_cons_of_mem _ hy)
/-- a key lambda called by a built-in -/
theorem lam_call {CX : CXT} {P : Program} {w : World} {K : PySem.W.Frag} {mg : PySem.Str → Option Value} {base : Heap} {A : Around} {outer : List PySem.Env} {s : Shared} {H : Hp} {f c' : Addr} {q : PySem.Str} {params : Arguments} {body : Expr} {scope : Scope} {pm ctv : Value} {x : PySem.Str} {u : Value} {v : V} {k : Nat} {Q : VK} {E : XK}
    (S : FnScope [x] [x] scope) (hf : s.heap.get? f = some (PySem.W.kla_obj "<lambda>" q params body scope [] pm c' ctv)) (hc : s.heap.CodeRec (.ref c') q) (hb : bindArgs (PySem.W.kla_fn "<lambda>" q params body scope [] pm (.ref c') ctv) ⟨[u], []⟩ = pure [(x, u)])
    (r : RelV v u) (hr : Room (k + 1) A) (e0 : Env0 P w K mg base A outer s H)
    (hbody : Room k (A.deeper (envOfC q scope s.heap.objs.size f (.ref c'))) → ∃ t, PE (cxOf CX P w K mg base [x] q scope f (.ref c') A outer s H E) body t ∧ t (L2.start [x] [v]) H Q) :
    codeAny (model P w) A (.call (.ref f) ⟨[u], []⟩) (CR CX outer P w H s Q E) s := by
  have lim : s.heap.NoLimit := e0.mod.nolimit.keeps fun b o e => (e0.bs b o e).1
  refine PySem.W.kla_callFunE hr.depth hf rfl S.co S.gen rfl hc ?_
  rw [hb]
  refine wpAny_pure (wpAny_newFunctionEnv_cells (binds := [x].zip [u]) S.kind (fun y hy => ?_) fun env he s1 z => ?_)
  · rcases S.par y.1 (List.of_mem_zip (b := y.2) hy).1 with h | h
    · exact .inl h
    · exact .inr ⟨h, PySem.W.cellsFrom_some _ _ _ (.inl h)⟩
  subst he
  refine ⟨lim.keeps z.toInCall.keep, PySem.W.kla_codeExpr ?_⟩
  obtain ⟨t, ht, hq⟩ := hbody (hr.deeper _)
  have I := inv_start (CX := CX) (E := E) S hr.hd e0 (vs := [v]) rfl (.cons r .nil) z
  refine wpAny_mono (ht.run [] s1 _ H _ I hq) (fun v' s' hs => ?_) fun e s' hs => hs
  obtain ⟨v2, H', J, rv, q2⟩ := hs
  exact ⟨v2, H', J.os, J.bare, J.base, J.hok, rv, q2⟩
end
end Mi

/-! sorted by a key lambda -/
namespace Mi
open PySem PySem.Spec PyProof.Rows L2
noncomputable section
section
variable {prog : Program} {w : World} {A : Around} {E : Value → Shared → Prop} {s : Shared}
/-- a new list of a list's or a tuple's items -/
theorem collect_seq {l : Addr} {o : Obj} {n : Nat} {vs : List Value} {Q : List Value → Shared → Prop} (ho : s.heap.get? l = some o) (hc : o.cls = .type "list" ∨ o.cls = .type "tuple") (hd : o.data = .seq vs.toArray n) (hsz : vs.length ≤ sizeLine)
    (h : Q vs { s with heap := (s.heap.push (seqObj "list" #[] 0)).update s.heap.objs.size (Obj.mapSeq (· ++ vs.toArray)) }) : wpAny (model prog w) A (collect (.ref l)) Q E s := by
  have ho2 := Heap.get?_push_of_some (seqObj "list" #[] 0) ho
  have hS : (s.heap.push (seqObj "list" #[] 0)).get? s.heap.objs.size = some (seqObj "list" #[] 0) := Heap.get?_push_size _ rfl
  have e0 : ((#[] : Array Value) ++ vs.toArray).toList = vs := by simp
  obtain ⟨T, hT, hTe⟩ : ∃ T : String, o.cls = .type T ∧ ((Value.type T == Value.type "list") || (Value.type T == Value.type "tuple")) = true := by
    rcases hc with hc | hc
    · exact ⟨_, hc, by rfl⟩
    · exact ⟨_, hc, by rfl⟩
  unfold collect
  refine wpAny_bind (wpAny_runValue (codeAny_builtin entry_proto_collect' (show wpAny (model prog w) A.in1 (newList [] >>= fun z => again (.builtin "list.__iadd__" ⟨[z, .ref l], []⟩)) _ _ s from wpAny_bind (wpAny_newList (wpAny_pure ⟨Code.quiet_builtin _ (by decide +kernel), codeAny_builtin entry_list_iadd' ?_⟩)))))
  show wpAny _ _ (Builtin.List.listExtendWith (.ref s.heap.objs.size) (.ref l) (.ref s.heap.objs.size)) _ _ { s with heap := s.heap.push (seqObj "list" #[] 0) }
  unfold Builtin.List.listExtendWith
  refine wpAny_bind (wpAny_typeOf (T := T) ⟨o, ho2, hT⟩ ?_)
  rw [if_pos (by rw [Bool.or_assoc, hTe, Bool.or_true])]
  refine wpAny_bind (listItems_at ho2 hd (wpAny_bind (listItems_at (n := 0) (xs := #[]) hS rfl ?_)))
  rw [if_neg (by simp)]
  refine wpAny_bind (listUpdate_at (n := 0) (xs := #[]) hS rfl (wpAny_pure ?_) (Nat.zero_le _) (by rw [Array.size_append, List.size_toArray]; exact Nat.le_succ_of_le (by simpa using hsz)))
  refine wpAny_bind (wpAny_load (get?_update_seq hS _) (wpAny_pure ?_))
  rw [e0]; exact h
theorem sorted_seq {l : Addr} {o : Obj} {n : Nat} {vs : List Value} {kw : List (PySem.Str × Value)} {Q : Value → Shared → Prop} (ho : s.heap.get? l = some o) (hc : o.cls = .type "list" ∨ o.cls = .type "tuple") (hd : o.data = .seq vs.toArray n) (hL : vs.length ≤ sizeLine)
    (ha1 : argsOk "sorted" ⟨[.ref l], kw⟩) (ha2 : ∀ x, argsOk "list.sort" ⟨[.ref x], kw⟩)
    (body : ∀ E' : Value → Shared → Prop, wpAny (model prog w) A.in1.in1 (Builtin.«list.sort» ⟨[.ref (s.heap.objs.size + 1)], kw⟩) (fun f s' => f = .done (.ret .none) ∧ Q (.ref (s.heap.objs.size + 1)) s') E' { s with heap := PySem.W.copyHeap s.heap vs }) :
    wpAny (model prog w) A (call (.builtin "sorted") [.ref l] kw) Q E s := by
  refine call_function_entry_kw kind_sorted plain_sorted entry_sorted ha1 ?_
  unfold Builtin.«sorted»
  refine wpAny_bind (m := checkCount "sorted" 1 1 _) (wpAny_pure (wpAny_bind (collect_seq ho hc hd hL (wpAny_bind (wpAny_newList ?_ hL)))))
  have hz : ((s.heap.push (seqObj "list" #[] 0)).update s.heap.objs.size (Obj.mapSeq (· ++ vs.toArray))).objs.size = s.heap.objs.size + 1 := by
    rw [Heap.size_update, size_push']
  show wpAny (model prog w) A.in1 _ _ _ { s with heap := PySem.W.copyHeap s.heap vs }
  rw [hz]
  refine wpAny_bind (wpAny_holding (wpAny_call_entry_kw slot_list_sort ⟨_, PySem.W.copyHeap_at s.heap vs, rfl⟩ entry_list_sort (show wpAny (model prog w) A.in1.in1 (Builtin.«list.sort» ⟨[.ref (s.heap.objs.size + 1)], kw⟩) _ _ _ from wpAny_mono (body _) (fun f s' hf => ?_) fun _ _ e => e) (ha2 _)))
  obtain ⟨rfl, hq⟩ := hf
  exact ⟨_, rfl, wpAny_pure ⟨_, rfl, hq⟩⟩
end
/-! ### heaps -/
/-- h without the object at k -/
def holed (h : Heap) (k : Addr) : Heap := h.update k fun _ => ⟨.none, none, .freed, #[]⟩
theorem holed_self (h : Heap) (k : Addr) : (holed h k).get? k = none := by
  obtain ⟨objs, l⟩ := h
  unfold holed Heap.update Heap.get?
  show (match (objs.modify k _)[k]? with
    | some ⟨_, _, .freed, _⟩ => none
    | o => o) = none
  rw [Array.getElem?_modify]
  simp only [if_true]
  cases objs[k]? <;> rfl
theorem holed_ne (h : Heap) {k b : Addr} (hb : b ≠ k) : (holed h k).get? b = h.get? b := Heap.get?_update_ne _ _ _ _ hb
theorem un_out {fs ex : List Addr} {H H' : Hp} {h h' h2 : Heap} {k : Addr} (u : Un fs ex H H' h h') (hk : h.get? k = none) (sb : ∀ b o, b ≠ k → h'.get? b = some o → h2.get? b = some o) : Un fs ex H H' h h2 := by
  have ne : ∀ {b o}, h.get? b = some o → b ≠ k := fun e z => by rw [z, hk] at e; cases e
  refine ⟨fun b o q n hb hx => sb b o (ne q) (u.keep b o q n hb hx), fun b o q n hb hx => ?_, u.free, fun b o q hx => ?_, u.tups, u.frzs, u.tbls⟩
  · obtain ⟨sl, e⟩ := u.slot b o q n hb hx
    exact ⟨sl, sb _ _ (ne q) e⟩
  · obtain ⟨o', e⟩ := u.there b o q hx
    exact ⟨o', sb _ _ (ne q) e⟩
theorem hok_out {P : Program} {w : World} {H : Hp} {h h2 : Heap} {k : Addr} (x : HOk P w H h) (hk : H k = none) (sb : ∀ b o, b ≠ k → h.get? b = some o → h2.get? b = some o) : HOk P w H h2 := fun a o e =>
  (x a o e).stay (fun b u hb q => sb b u (by
    rintro rfl
    rcases hb with rfl | hb
    · rw [hk] at e; cases e
    · rw [hk] at hb; cases hb) q) (fun _ q => q) fun _ _ q => q
section
variable {T : Tb} {K : PySem.W.Frag} {F F' H H' H1 : Hp} {μ μ' : List Addr} {L : List Nat} {S : Sto}
theorem SR.lam (s : SR T K L F H μ S) (x : LamX.ExtN H H1) (t : LamX.Tabs (T.tabs K) H1) : SR T K L F H1 μ S ∧ Ext L F μ H F μ H1 := by
  have at' : ∀ (n : Nat) (nd : Node) (a : Addr), S[n]? = some nd → μ[n]? = some a → F a = none ∧ ∃ o, RN T K F μ nd o ∧ (H1 a = some o ∨ (n ∈ L ∧ nd.isD = true ∧ ∃ od, H1 a = some (.frz od o))) := fun n nd a e1 e2 => by
    obtain ⟨g1, o, g2, g3⟩ := s.at_ n nd a e1 e2
    refine ⟨g1, o, g2, ?_⟩
    rcases g3 with g3 | ⟨g3, g4, od, g5⟩
    · exact .inl (x a o g3 g2.mut.2.2.1)
    · exact .inr ⟨g3, g4, od, x a _ g5 fun ps z => (nomatch z)⟩
  refine ⟨⟨s.len, s.nd, fun a o e => x a o (s.sub a o e) fun ps z => s.ft a ps (by rw [e, z]), at', t, s.lb, s.ft⟩, fun _ _ e => e, ⟨[], by simp⟩, fun n hn a ha => ?_, fun b xs e f m => ⟨x b _ e fun ps z => (nomatch z), f, m⟩, fun b φ e => x b _ e fun ps z => (nomatch z)⟩
  obtain ⟨_, o, g2, g3⟩ := s.at_ n _ a (List.getElem?_eq_getElem (s.lb n hn)) ha
  rcases g3 with g3 | ⟨_, _, od, g5⟩
  · rw [g3, x a o g3 g2.mut.2.2.1]
  · rw [g5, x a _ g5 fun ps z => nomatch z]
theorem toDs_map (T : Tb) : ∀ l : List W, W.toDs T l = l.map (W.toD T)
  | [] => rfl
  | a :: l => by rw [W.toDs, toDs_map T l]; rfl
theorem shps_all {n : Nat} : ∀ {l : List W}, (∀ k ∈ l, k.shp n = true) → W.shps n l = true
  | [], _ => by simp [W.shps]
  | a :: l, h => shps_cons.mpr ⟨h a (List.mem_cons_self ..), shps_all fun k hk => h k (List.mem_cons_of_mem _ hk)⟩
end
/-- how the sort stands after i keys -/
structure KeyAt (X : Cx) (T : Tb) (L : List Nat) (s1 : Shared) (F1 : Hp) (μ1 : List Addr) (H1 : Hp) (S1 : Sto) (a kS : Addr) (e1 : Nat) (ks : List W) (i : Nat) (s' : Shared) (F' : Hp) (μ' : List Addr) (H' : Hp) (kA : Array Value) (e : Nat) (kvs : List V) : Prop where
  os : s'.os = s1.os
  bare : AllBare s'.gens
  un : Un (frs X.stack) [] H1 H' s1.heap s'.heap
  hok : HOk X.prog X.w H' s'.heap
  x : Ext L F1 μ1 H1 F' μ' H'
  sr : SR T X.K L F' H' μ' S1
  na : H' a = none
  nk : H' kS = none
  oa : s'.heap.get? a = some (seqObj "list" #[] e1)
  ok : s'.heap.get? kS = some (seqObj "list" kA e)
  rs : RWs T X.K F' μ' (ks.take i) kvs
  vs : Vals kvs kA.toList
theorem keysL_at {f : W → Sto → Out W} {S : Sto} : ∀ {xs ks : List W}, keysL f S xs = some ks → ks.length = xs.length ∧ ∀ (i : Nat) (x : W), xs[i]? = some x → ∃ k, ks[i]? = some k ∧ f x S = .ok k S
  | [], ks, h => by
    simp only [keysL, Option.some.injEq] at h
    subst h
    exact ⟨rfl, fun i x e => by simp at e⟩
  | x :: xs, ks, h => by
    simp only [keysL] at h
    split at h
    · rename_i k S' e
      split at h
      · rename_i hS
        subst hS
        obtain ⟨ks', e', rfl⟩ := Option.map_eq_some_iff.mp h
        obtain ⟨h1, h2⟩ := keysL_at e'
        refine ⟨by simp [h1], fun i y hy => ?_⟩
        cases i with
        | zero => simp at hy; subst hy; exact ⟨k, rfl, e⟩
        | succ i => exact h2 i y (by simpa using hy)
      · cases h
    · cases h
theorem each_zip {T : Tb} {K : PySem.W.Frag} {F : Hp} {μ : List Addr} : ∀ {xs ks : List W} {vs : List V} {us : List Value}, RWs T K F μ xs vs → Vals vs us → ks.length = xs.length → PySem.W.EachIs (fun (u : Value) (p : W × W) => ∃ v, RelV v u ∧ RW T K F μ p.1 v) us (xs.zip ks)
  | _, [], _, _, .nil, .nil, _ => .nil
  | _, k :: ks, _, _, .cons r t, .cons r' t', h => .cons ⟨_, r', r⟩ (each_zip t t' (by simpa using h))
  | _, [], _, _, .cons _ _, _, h => by simp at h
  | _, _ :: _, _, _, .nil, _, h => by simp at h
theorem each_back {T : Tb} {K : PySem.W.Frag} {F : Hp} {μ : List Addr} : ∀ {ps : List (W × W)} {us : List Value}, PySem.W.EachIs (fun (u : Value) (p : W × W) => ∃ v, RelV v u ∧ RW T K F μ p.1 v) us ps → ∃ vs, Vals vs us ∧ RWs T K F μ (ps.map (·.1)) vs
  | _, _, .nil => ⟨[], .nil, .nil⟩
  | _, _, .cons ⟨v, r, q⟩ t => by
    obtain ⟨vs, h1, h2⟩ := each_back t
    exact ⟨v :: vs, .cons r h1, .cons q h2⟩
theorem sortsB_ok {ds : List PyData} (h : sortsB ds = true) : PySem.W.AllAlike ds ∧ PySem.W.Sortable ds := by
  unfold sortsB at h
  rw [Bool.and_eq_true, Bool.or_eq_true] at h
  refine ⟨fun d hd d' hd' => List.all_eq_true.mp (List.all_eq_true.mp h.1 d hd) d' hd', ?_⟩
  rcases h.2 with h | h
  · refine .inl fun d hd => ?_
    have := List.all_eq_true.mp h d hd
    unfold PyData.isTup1 at this
    split at this
    · exact ⟨_, _, rfl⟩
    · cases this
  · refine .inr fun d hd => ?_
    have := List.all_eq_true.mp h d hd
    unfold PyData.isOther at this
    split at this <;> first | (cases this; done) | skip
    rename_i h1 h2
    exact ⟨h2, h1⟩
end
end Mi

/-! sorted by a key lambda: the walk -/
namespace Mi
open PySem PySem.Spec PyProof.Rows L2
noncomputable section
theorem cx_false {P : Program} {w : World} {outer : List PySem.Env} {H : Hp} {s : Shared} {e : Value} {s' : Shared} (h : L2.CX P w outer H s (fun _ _ _ => False) e s') : False := by
  obtain ⟨_, _, _, _, _, _, _, _, _, _, _, _, z⟩ := h; exact z
theorem take_snoc {ks : List W} {i : Nat} {k : W} (h : ks[i]? = some k) : ks.take (i + 1) = ks.take i ++ [k] := by
  rw [List.take_add_one, h]; rfl
theorem relv_snoc {vs : List V} {us : List Value} {v : V} {u : Value} (h : Vals vs us) (r : RelV v u) : Vals (vs ++ [v]) (us ++ [u]) := h.append (.cons r .nil)
section
variable {X : Cx} {pins : List (Addr × Obj)} {σ : L2.St} {H1 : Hp} {s1 : Shared} {T : Tb} {L : List Nat} {F1 : Hp} {μ1 : List Addr} {S1 : Sto} {a kS : Addr} {e1 : Nat} {ks xs ys : List W} {f : Addr} {its : List Value} {vs : List V}
theorem KeyAt.inv (I1 : Inv X pins σ H1 s1) {i : Nat} {s' : Shared} {F' : Hp} {μ' : List Addr} {H' : Hp} {kA : Array Value} {e : Nat} {kvs : List V} (k : KeyAt X T L s1 F1 μ1 H1 S1 a kS e1 ks i s' F' μ' H' kA e kvs) : Inv X pins σ H' s' :=
  I1.call' (ch := []) k.os k.un k.hok k.bare fun b hb => absurd hb (by simp)
/-- one key more -/
theorem KeyAt.step {i : Nat} {s' s2 : Shared} {F' F2 : Hp} {μ' μ2 : List Addr} {H' H2 : Hp} {kA : Array Value} {e : Nat} {kvs : List V} {k : W} {v : V} {u : Value} (h : KeyAt X T L s1 F1 μ1 H1 S1 a kS e1 ks i s' F' μ' H' kA e kvs) (hak : a ≠ kS) (fa : a ∉ frs X.stack) (fk : kS ∉ frs X.stack) (ek : s1.heap.get? kS = none)
    (hk : ks[i]? = some k) (os : s2.os = s'.os) (bare : AllBare s2.gens) (un : Un (frs X.stack) [] H' H2 s'.heap s2.heap) (hok : HOk X.prog X.w H2 s2.heap) (rv : RelV v u) (x : Ext L F' μ' H' F2 μ2 H2) (sr : SR T X.K L F2 H2 μ2 S1) (r : RW T X.K F2 μ2 k v) :
    s2.heap.get? kS = some (seqObj "list" kA e) ∧ ∀ h2 : Heap, (∀ b, b ≠ kS → h2.get? b = s2.heap.get? b) → (∃ c, h2.get? kS = some (seqObj "list" (kA.push u) c)) → ∃ c, KeyAt X T L s1 F1 μ1 H1 S1 a kS e1 ks (i + 1) { s2 with heap := h2 } F2 μ2 H2 (kA.push u) c (kvs ++ [v]) := by
  have ok2 := un.keep kS _ h.ok h.nk fk (by simp)
  have oa2 := un.keep a _ h.oa h.na fa (by simp)
  have nk2 := un.free kS _ h.ok h.nk (by simp)
  have na2 := un.free a _ h.oa h.na (by simp)
  refine ⟨ok2, fun h2 sb ⟨c, hc⟩ => ⟨c, ⟨os.trans h.os, bare, un_out (h.un.trans un) ek fun b o hb q => (sb b hb).trans q, hok_out hok nk2 fun b o hb q => (sb b hb).trans q, h.x.trans x, sr, na2, nk2, (sb a hak).trans oa2, hc, ?_, ?_⟩⟩⟩
  · rw [take_snoc hk]
    exact (h.rs.ext x).append (.cons r .nil)
  · have : (kA.push u).toList = kA.toList ++ [u] := by simp
    rw [this]; exact relv_snoc h.vs rv
/-- all keys are there: they read as data -/
theorem KeyAt.reads (I1 : Inv X pins σ H1 s1) {s' : Shared} {F' : Hp} {μ' : List Addr} {H' : Hp} {kA : Array Value} {e : Nat} {kvs : List V} (h : KeyAt X T L s1 F1 μ1 H1 S1 a kS e1 ks ks.length s' F' μ' H' kA e kvs) (hk : ∀ k ∈ ks, k.shp 40 = true) :
    PySem.W.EachIs (fun v d => ∃ as, Reads s'.heap v d as) kA.toList (ks.map (W.toD T)) := by
  have r := h.rs
  rw [List.take_length] at r
  have d := RWs.dp h.sr.sub r (shps_all hk)
  obtain ⟨as, q⟩ := Dp.readsAll (h.inv I1) _ _ _ d h.vs
  rw [toDs_map] at q
  have := PySem.W.readsAll_each (h := s'.heap) (fun d : PyData => d) (bs := ks.map (W.toD T)) (vs := kA.toList) (as := as) (by rw [List.map_id']; exact q)
  exact this
theorem sort_key {l : Addr} {o : Obj} {n : Nat} {Q : VK} (I1 : Inv X pins σ H1 s1) (sr : SR T X.K L F1 H1 μ1 S1) (ho : s1.heap.get? l = some o) (hc : o.cls = .type "list" ∨ o.cls = .type "tuple") (hd : o.data = .seq its.toArray n) (rv : Vals vs its) (rw' : RWs T X.K F1 μ1 xs vs) (hu : X.A.units + 64 < cLine) (hT : T.Ok)
    (hs : srtW (W.toD T) xs ks = some ys)
    (turn : ∀ (i : Nat) (x k : W) (v : V) (u : Value) (s' : Shared) (F' : Hp) (μ' : List Addr) (H' : Hp), xs[i]? = some x → ks[i]? = some k → Inv X pins σ H' s' → Un (frs X.stack) [] H1 H' s1.heap s'.heap → Ext L F1 μ1 H1 F' μ' H' → SR T X.K L F' H' μ' S1 → RW T X.K F' μ' x v → RelV v u →
      codeAny (model X.prog X.w) X.A.in1.in1 (.call (.ref f) ⟨[u], []⟩) (CR (L2.CX X.prog X.w) X.stack X.prog X.w H' s' (fun v H2 => ∃ F2 μ2, Ext L F' μ' H' F2 μ2 H2 ∧ SR T X.K L F2 H2 μ2 S1 ∧ RW T X.K F2 μ2 k v) (fun _ _ _ => False)) s')
    (hQ : ∀ F' μ' H' v, Ext L F1 μ1 H1 F' μ' H' → SR T X.K L F' H' μ' S1 → RW T X.K F' μ' (.lst ys) v → Q v H') :
    wpAny (model X.prog X.w) X.A (call (.builtin "sorted") [.ref l] [(Str.ofString "key", .ref f)]) (EP X pins σ Q) X.xe s1 := by
  unfold srtW at hs
  split at hs
  case isFalse => cases hs
  rename_i hg
  obtain ⟨hg, hg4⟩ := (Bool.and_eq_true _ _).mp hg
  obtain ⟨hg, hg3⟩ := (Bool.and_eq_true _ _).mp hg
  obtain ⟨hg1, hg2⟩ := (Bool.and_eq_true _ _).mp hg
  have hkl : ks.length = xs.length := of_decide_eq_true hg4
  have hxl : xs.length ≤ sizeLine := of_decide_eq_true hg3
  have hsh : ∀ k ∈ ks, k.shp 40 = true := List.all_eq_true.mp hg1
  obtain ⟨hal, hso⟩ := sortsB_ok hg2
  have hil : its.length = xs.length := by rw [← rv.length, ← rw'.length]
  have hL : its.length ≤ sizeLine := by rw [hil]; exact hxl
  refine sorted_seq ho hc hd hL (ksk_s1 _ _) (fun _ => ksk_l1 _ _) fun E' => ?_
  rw [ksk_t1]
  have sz : ∀ {b ob}, s1.heap.get? b = some ob → b < s1.heap.objs.size := fun e => Heap.lt_size e
  have hcz : (PySem.W.copyHeap s1.heap its).objs.size = s1.heap.objs.size + 2 := by
    unfold PySem.W.copyHeap
    rw [size_push', Heap.size_update, size_push']
  generalize ha : s1.heap.objs.size + 1 = a
  have oa0 : (PySem.W.copyHeap s1.heap its).get? a = some (seqObj "list" its.toArray 0) := by rw [← ha]; exact PySem.W.copyHeap_at s1.heap its
  have ea : s1.heap.get? a = none := Heap.get?_none_of_le (by omega)
  obtain ⟨e1, oa1⟩ : ∃ e1, ((PySem.W.copyHeap s1.heap its).update a (Obj.mapSeq fun _ => (#[] : Array Value))).get? a = some (seqObj "list" #[] e1) := ⟨_, get?_update_seq oa0 fun _ => #[]⟩
  have hz1 : (((PySem.W.copyHeap s1.heap its).update a (Obj.mapSeq fun _ => (#[] : Array Value))).push (seqObj "tuple" its.toArray 0)).objs.size = s1.heap.objs.size + 3 := by rw [size_push', Heap.size_update, hcz]
  obtain ⟨kS, hkS⟩ : ∃ kS, (((PySem.W.copyHeap s1.heap its).update a (Obj.mapSeq fun _ => (#[] : Array Value))).push (seqObj "tuple" its.toArray 0)).objs.size = kS := ⟨_, rfl⟩
  have hkz : kS = s1.heap.objs.size + 3 := by rw [← hkS, hz1]
  have ek : s1.heap.get? kS = none := Heap.get?_none_of_le (by omega)
  have hak : a ≠ kS := by omega
  have nf : ∀ {b}, s1.heap.objs.size ≤ b → b ∉ frs X.stack := fun {b} hb z => by
    rcases List.mem_cons.mp (I1.stkSub b z) with e | e
    · have h1 := I1.lt
      rw [← e] at h1; exact Nat.lt_irrefl _ (Nat.lt_of_lt_of_le h1 hb)
    · exact I1.nofs hb e
  have fa : a ∉ frs X.stack := nf (by omega)
  have fk : kS ∉ frs X.stack := nf (by omega)
  have old3 : ∀ b ob, s1.heap.get? b = some ob → ((((PySem.W.copyHeap s1.heap its).update a (Obj.mapSeq fun _ => (#[] : Array Value))).push (seqObj "tuple" its.toArray 0)).push (seqObj "list" #[] 0)).get? b = some ob := fun b ob q =>
    Heap.get?_push_of_some _ (Heap.get?_push_of_some _ ((Heap.get?_update_ne _ _ _ _ (Nat.ne_of_lt (by rw [← ha]; exact Nat.lt_succ_of_lt (sz q)))).trans (PySem.W.copyHeap_old q)))
  have K0 : KeyAt X T L s1 F1 μ1 H1 S1 a kS e1 ks 0 { s1 with heap := (((PySem.W.copyHeap s1.heap its).update a (Obj.mapSeq fun _ => (#[] : Array Value))).push (seqObj "tuple" its.toArray 0)).push (seqObj "list" #[] 0) } F1 μ1 H1 #[] 0 [] := by
    refine ⟨rfl, I1.bare, Un.kept old3, I1.hok.kept old3, .refl, sr, I1.hok.fresh (by omega), I1.hok.fresh (by omega), Heap.get?_push_of_some _ (Heap.get?_push_of_some _ oa1), ?_, .nil, .nil⟩
    rw [← hkS]; exact Heap.get?_push_size _ rfl
  unfold ksk_tree
  refine wpAny_bind (listItems_at oa0 rfl (wpAny_bind (listUpdate_at oa0 rfl (wpAny_bind (seqEpoch_at oa1 rfl (wpAny_bind (wpAny_newTuple (wpAny_bind (wpAny_newList (wpAny_holding ?_) (Nat.zero_le _))) (by show its.length ≤ _; exact hL))))) (by rw [List.size_toArray]; exact hL) (Nat.zero_le _))))
  rw [hkS]
  unfold ksk_rest
  refine wpAny_bind (wpAny_rule ?_)
  rw [List.forIn_toArray]
  refine wpAny_bind (ksk_fold (fun i s' => ∃ F' μ' H' kA e kvs, KeyAt X T L s1 F1 μ1 H1 S1 a kS e1 ks i s' F' μ' H' kA e kvs) its 0 _ ⟨F1, μ1, H1, #[], 0, [], K0⟩ ?step ?done)
  case step =>
    rintro j u s' hu' ⟨F', μ', H', kA, e, kvs, hK⟩
    rw [Nat.zero_add] at hK ⊢
    have hj : j < its.length := (List.getElem?_eq_some_iff.mp hu').1
    obtain ⟨x, hx⟩ : ∃ x, xs[j]? = some x := ⟨_, List.getElem?_eq_getElem (by omega)⟩
    obtain ⟨k, hk⟩ : ∃ k, ks[j]? = some k := ⟨_, List.getElem?_eq_getElem (by omega)⟩
    obtain ⟨v, hv, rx⟩ := rw'.get hx
    have hvu : RelV v u := by
      obtain ⟨u', e1', e2'⟩ := rv.get hv
      rw [hu'] at e1'; cases e1'; exact e2'
    have hz : kA.size ≤ its.length := by
      have h1 := hK.rs.length
      have h2 := hK.vs.length
      rw [List.length_take] at h1
      have h3 : kA.toList.length = kA.size := by simp
      have h4 : kvs.length ≤ ks.length := by rw [← h1]; exact Nat.min_le_right _ _
      rw [← h3, ← h2, hil, ← hkl]; exact h4
    refine wpAny_bind (wpAny_attempt (wpAny_call (codeAny_mono (turn j x k v u s' F' μ' H' hx hk (hK.inv I1) hK.un hK.x hK.sr (rx.ext hK.x) hvu) fun r s2 hq => ?_)))
    cases r with
    | error ex => exact (cx_false hq).elim
    | ok fl =>
      cases fl with
      | next => exact False.elim hq
      | brk => exact False.elim hq
      | cont => exact False.elim hq
      | ret u2 =>
        obtain ⟨v2, H2, os2, bare2, un2, hok2, rv2, F2, μ2, x2, s2r, r2⟩ := hq
        obtain ⟨ok2, fin⟩ := hK.step hak fa fk ek hk os2 bare2 un2 hok2 rv2 x2 s2r r2
        have sb := Heap.SameBut.update s2.heap kS (Obj.mapSeq (·.push u2))
        obtain ⟨c, hc'⟩ := fin _ sb.2 ⟨_, get?_update_seq ok2 (·.push u2)⟩
        show wpAny _ _ (Builtin.List.listUpdate (.ref kS) (·.push u2) >>= fun _ => pure (ForInStep.yield PUnit.unit)) _ _ s2
        refine wpAny_bind (listUpdate_at ok2 rfl (wpAny_pure ⟨rfl, F2, μ2, H2, _, c, _, hc'⟩) (Nat.le_trans hz hL) (Nat.le_trans (Nat.le_of_eq (Array.size_push ..)) (Nat.succ_le_succ (Nat.le_trans hz hL))))
  case done =>
    rintro s' ⟨F', μ', H', kA, e, kvs, hK⟩
    rw [Nat.zero_add, hil, ← hkl] at hK
    have hrd := hK.reads I1 hsh
    have hsz : kA.size = its.length := by
      have h1 := hrd.length
      rw [Array.length_toList, List.length_map] at h1
      omega
    have hkp : PySem.W.KeepsBut a (holed s'.heap kS) s'.heap := fun b ob hb q => by
      by_cases hk : b = kS
      · rw [hk, holed_self] at q; cases q
      · rw [holed_ne _ hk] at q; exact q
    refine wpAny_bind (listItems_at hK.ok rfl (PySem.W.keyH_end (κ := PySem.W.dataKind s'.heap (ks.map (W.toD T))) hkp (holed_self _ _) hK.ok hK.oa (Ne.symm hak) (PySem.W.SortsAt.data hrd hal hso fun d hd' => ?_) hsz hL fun h' tk c kp ho' => ⟨rfl, ?_⟩))
    · obtain ⟨k, hk, rfl⟩ := List.mem_map.mp hd'
      obtain ⟨i, hi⟩ := List.getElem?_of_mem hk
      have r := hK.rs
      rw [List.take_length] at r
      obtain ⟨v, _, rk⟩ := r.get hi
      have := (rk.shaped hT (hsh k hk)).2
      show X.A.units + 1 + 1 + _ < _
      omega
    have he := PySem.W.keyedOut_each (rev := false) (bs := xs.zip ks) (vs := its) (R := fun (u : Value) (p : W × W) => ∃ v, RelV v u ∧ RW T X.K F1 μ1 p.1 v) (fun p : W × W => W.toD T p.2)
      (out := PySem.W.sortVals (PySem.W.dataKind s'.heap (ks.map (W.toD T))) false kA.toList its) ⟨s'.heap, kA.toList, by
        have e1 : (xs.zip ks).map (fun p : W × W => W.toD T p.2) = ks.map (W.toD T) := by
          have e2 : (xs.zip ks).map Prod.snd = ks := List.map_snd_zip (Nat.le_of_eq hkl)
          have e3 := List.map_map (f := Prod.snd) (g := W.toD T) (l := xs.zip ks)
          rw [e2] at e3; exact e3.symm
        rw [e1]
        exact ⟨hal, rfl, hrd⟩⟩ (each_zip rw' rv hkl)
    obtain ⟨ov, hov, hor⟩ := each_back he
    have hys : ((xs.zip ks).mergeSort (PySem.W.dataLe false fun p : W × W => W.toD T p.2)).map (·.1) = ys := Option.some.inj hs
    rw [hys] at hor
    have hol : ov.length ≤ sizeLine := by
      rw [← hor.length, ← hys, List.length_map, List.length_mergeSort, List.length_zip]
      exact Nat.le_trans (Nat.min_le_left _ _) hxl
    have keep : ∀ b ob, b ≠ a → b ≠ kS → s'.heap.get? b = some ob → h'.get? b = some ob := fun b ob hb hk q => kp b ob hb (by rw [holed_ne _ hk]; exact q)
    obtain ⟨s3, x3⟩ := hK.sr.froze hK.na (o := .lst ov)
    have new : ObjOk X.prog X.w (upd H' a (.lst ov)) h' a (.lst ov) := ⟨hol, _, c, hov, ho'⟩
    have hok3 : HOk X.prog X.w (upd H' a (.lst ov)) h' := fun b ob q => by
      by_cases hb : b = a
      · subst hb; rw [upd_same] at q; cases q; exact new
      · rw [upd_ne hb] at q
        refine (hK.hok b ob q).stay (fun d uo hd' qd => keep d uo ?_ ?_ qd) (fun d qd => ?_) fun d zs qd => ?_
        · rintro rfl
          rcases hd' with e | e
          · exact hb e.symm
          · rw [hK.na] at e; cases e
        · rintro rfl
          rcases hd' with e | e
          · rw [← e, hK.nk] at q; cases q
          · rw [hK.nk] at e; cases e
        · rw [upd_ne fun z => by rw [z, hK.na] at qd; cases qd]; exact qd
        · rw [upd_ne fun z => by rw [z, hK.na] at qd; cases qd]; exact qd
    have ne1 : ∀ {b ob}, s1.heap.get? b = some ob → b ≠ a := fun e z => by rw [z, ea] at e; cases e
    have ne2 : ∀ {b ob}, s1.heap.get? b = some ob → b ≠ kS := fun e z => by rw [z, ek] at e; cases e
    have un3 : Un (frs X.stack) [] H1 (upd H' a (.lst ov)) s1.heap h' := by
      have u := hK.un
      refine ⟨fun b ob q n hb hx => keep b ob (ne1 q) (ne2 q) (u.keep b ob q n hb hx), fun b ob q n hb hx => ?_, fun b ob q n hx => by rw [upd_ne (ne1 q)]; exact u.free b ob q n hx, fun b ob q hx => ?_, fun b zs q => ?_, fun b oo uu q => ?_, fun b ps q => ?_⟩
      · obtain ⟨sl, e2⟩ := u.slot b ob q n hb hx
        exact ⟨sl, keep _ _ (ne1 q) (ne2 q) e2⟩
      · obtain ⟨o2, e2⟩ := u.there b ob q hx
        exact ⟨o2, keep _ _ (ne1 q) (ne2 q) e2⟩
      · rw [upd_ne fun z => by have := u.tups b zs q; rw [z, hK.na] at this; cases this]; exact u.tups b zs q
      · rw [upd_ne fun z => by have := u.frzs b oo uu q; rw [z, hK.na] at this; cases this]; exact u.frzs b oo uu q
      · obtain ⟨more, e2⟩ := u.tbls b ps q
        exact ⟨more, by rw [upd_ne fun z => by rw [z, hK.na] at e2; cases e2]; exact e2⟩
    refine ⟨.ref a, upd H' a (.lst ov), I1.call' (ch := []) hK.os un3 hok3 hK.bare fun b hb => absurd hb (by simp), rfl, ?_⟩
    exact hQ _ _ _ _ (hK.x.trans x3) s3 (.lst upd_same ((hor.ext hK.x).ext x3))
end
end
end Mi

/-! sorted(.., key=lambda x: ..) -/
namespace Mi
open PySem PySem.Spec PyProof.Rows L2
noncomputable section
/-- nothing may be raised -/
abbrev EF : XK := fun _ _ _ => False
section
variable {X : Cx} {T : Tb} {C : Ctx} {E : XK}
theorem seqs_lis {S : Sto} {w : W} {l : List W} (e : w.seqs S = some l) : w = .tup l ∨ w.lis S = some l := by
  cases w <;> first | exact .inl (congrArg W.tup (Option.some.inj e)) | exact .inr e
theorem seqs_ok {K : PySem.W.Frag} {L : List Nat} {F H : Hp} {μ : List Addr} {S : Sto} (sr : SR T K L F H μ S) {w : W} {l : List W} {v : V} (e : w.seqs S = some l) (r : RW T K F μ w v) : ∃ vs a, v = .ref a ∧ (H a = some (.lst vs) ∨ SqT K H a vs) ∧ RWs T K F μ l vs := by
  rcases seqs_lis e with rfl | e
  · obtain ⟨vs, a, rfl, h, _, q⟩ := r.tup_inv
    exact ⟨vs, a, rfl, .inr (sr.sqT h), q⟩
  · obtain ⟨vs, a, h1, h2, h3⟩ := lis_ok sr e r
    exact ⟨vs, a, h1, .inl h2, h3⟩
theorem m_srt {it : Expr} {params : Arguments} {body : Expr} {scope : Scope} {x : PySem.Str} {p lpos kpos pos : Pos} {mit mb : M} {c Pa : Addr} {k : Nat} (hg : Gl X "sorted") (hm : X.mg "sorted" = none) (hi : PE X it (tI T C X.K E mit)) (hT : T.Ok) (hu : X.A.units + 64 < cLine) (hdat : C.dat = W.toD T)
    (TB : LamX.TabB X.base X.mg c Pa) (hcode : X.env.code = .ref c) (hmT : (Pa, X.env.qual ++ "<lambda>") ∈ T.tabs X.K) (hun : ∀ p ∈ T.tabs X.K, p.1 = Pa → p.2 = X.env.qual ++ "<lambda>") (hr : Room (k + 3) X.A) (S : FnScope [x] [x] scope) (hdef : defaultsOf params X.env = ([], []))
    (hbind : ∀ (q : PySem.Str) (pm cv ctv : Value) (u : Value), bindArgs (PySem.W.kla_fn "<lambda>" q params body scope [] pm cv ctv) ⟨[u], []⟩ = pure [(x, u)])
    (hbody : ∀ (A : Around) (outer : List PySem.Env) (s : Shared) (H : Hp) (f c' : Addr) (q : PySem.Str), Room k (A.deeper (envOfC q scope s.heap.objs.size f (.ref c'))) → PE (cxOf (L2.CX X.prog X.w) X.prog X.w X.K X.mg X.base [x] q scope f (.ref c') A outer s H EF) body (tI T C X.K EF mb))
    (hs : starEach [it] X.env = (false, eval it X.env) :: starEach [] X.env) :
    PE X (.Call (.Name "sorted" p) [it] [⟨some "key", .Lambda params body scope lpos, kpos⟩] pos) (tI T C X.K E (.srt mit mb)) := by
  refine ⟨fun pins s σ H Q I ⟨L, F, μ, S0, env, sr, er, h⟩ => ?_⟩
  refine wpAny_Call_Name_kw (ld_blt I hg hm boot_sorted ?_ (by decide) (by decide))
  refine callWith_kw (e := it) (rest := []) (thn ((pa_cons hi pa_nil hs).run pos pins s σ H (fun vs H1 => ∃ F1 μ1 S1 w v, vs = [v] ∧ SR T X.K L F1 H1 μ1 S1 ∧ RW T X.K F1 μ1 w v ∧ OR T X.K E L F1 μ1 H1 (match w.seqs S1 with
      | none => Out.bad
      | some xs => match keysL (fun x S => ev C L mb [some x] S) S1 xs with
        | none => Out.bad
        | some ks => Out.of ((srtW C.dat xs ks).map W.lst) S1) (RWv T X.K) Q) I (tI_seq sr er h fun F1 μ1 H1 S1 w v x1 s1 e1 r1 h1 => ⟨F1, μ1, S1, w, v, rfl, s1, r1, h1⟩)) fun us s1 ⟨vs, H1, I1, rv1, F1, μ1, S1, w, v, ev1, sr1, rw1, h1⟩ => ?_) (by rw [hs]; rfl) (by rw [hs]; rfl) rfl rfl
  subst ev1
  split at h1
  · exact h1.elim
  rename_i xs hxs
  split at h1
  · exact h1.elim
  rename_i ks hks
  cases hys : srtW C.dat xs ks with
  | none => rw [hys] at h1; exact h1.elim
  | some ys =>
  rw [hys] at h1
  obtain ⟨us0, a, rfl, hq, rws⟩ := seqs_ok sr1 hxs rw1
  obtain rfl := Vals.ref1 rv1
  show wpAny _ _ (evalAll [do let v ← eval (.Lambda params body scope lpos) X.env; standAt pos; pure v]) _ _ s1
  refine wpAny_evalAll_cons (wpAny_bind (LamX.lam_make2 I1 TB hcode hmT hun sr1.tab hdef (fun y hy e => absurd e (S.nofree y hy)) fun f c' pm ctv H2 s2 I2 eN T2 hf hfn hfr hco => wpAny_bind (wpAny_standAt (wpAny_pure (wpAny_evalAll_nil ?_)))))
  rw [clo_nil _ _ _ S.nofree] at hf
  obtain ⟨sr2, x2⟩ := sr1.lam eN T2
  obtain ⟨o, n, its, ho, hcl, hd, rvs⟩ : ∃ (o : Obj) (n : Nat) (its : List Value), s2.heap.get? a = some o ∧ (o.cls = .type "list" ∨ o.cls = .type "tuple") ∧ o.data = .seq its.toArray n ∧ Vals us0 its := by
    rcases hq with hq | hq
    · obtain ⟨_, its, n, r, e⟩ := I2.hok a _ (eN a _ hq fun ps z => (nomatch z))
      exact ⟨_, n, its, e, .inl rfl, rfl, r⟩
    · have hq2 : SqT X.K H2 a us0 := by
        rcases hq with (hq | ⟨oo, hq⟩) | hq
        · exact .inl (.inl (eN a _ hq fun ps z => (nomatch z)))
        · exact .inl (.inr ⟨oo, eN a _ hq fun ps z => (nomatch z)⟩)
        · exact .inr hq
      obtain ⟨its, r, ⟨o, e, c1, n, d1⟩, _⟩ := I2.tuple hq2
      exact ⟨o, n, its, e, .inr c1, d1, r⟩
  obtain ⟨hkl, hka⟩ := keysL_at hks
  show wpAny _ _ (call (.builtin "sorted") [.ref a] [(Str.ofString "key", .ref f)]) _ _ s2
  refine sort_key (T := T) (L := L) (ks := ks) (ys := ys) I2 sr2 ho hcl hd rvs rws hu hT (by rw [← hdat]; exact hys) (fun i y k' v u s' F' μ' H' hy hk' I' un' x' sr' ry hvu => ?_) fun F' μ' H' v x' s' r' => (OR.later x2 h1) F' μ' H' v x' s' r'
  obtain ⟨k2, hk2, hev⟩ := hka i y hy
  rw [hk'] at hk2; cases hk2
  have hf' := un'.keep f _ hf hfn hfr (by simp)
  obtain ⟨⟨oc, ws, t, hoc, hdc, hvc⟩, _⟩ := I'.hok c' _ (x'.e c' _ hco)
  refine lam_call (k := k) (v := v) S hf' ⟨c', oc, ws, t, rfl, hoc, hdc, hvc⟩ (hbind _ _ _ _ _) hvu (hr.in1.in1) I'.env0.in1.in1 fun hr' => ⟨_, hbody _ _ _ _ _ _ _ hr', L, F', μ', S1, [some y], sr', ⟨rfl, fun j w' hw' => ?_⟩, ?_⟩
  · match j, hw' with
    | 0, hw' => cases hw'; exact ⟨v, rfl, ry⟩
    | j + 1, hw' => simp at hw'
  · rw [hev]
    exact fun F2 μ2 H3 v2 x3 s3 r3 => ⟨F2, μ2, x3, s3, r3⟩
end
end
end Mi

/-! min with a default, len of a set, calls by keywords alone, two stores at once -/
namespace Mi
open PySem PySem.Spec PyProof.Rows L2
noncomputable section
section
variable {X : Cx} {T : Tb} {C : Ctx} {E : XK} {e a b c o : Expr} {pos p apos cpos : Pos} {ma mb mc mo : M}
theorem pe_callN0 {CX : CXT} {k : Nat} {f : Addr} {fd : FuncData} {ps ks : List PySem.Str} {sp : Sp} {x : PySem.Str} {kws : List Keyword} {tk : TA} {g : List Value → List Value → List Value} {gV : List V → List V → List V} (F : FnOk X.prog X.w X.K X.mg X.base CX k f fd ps sp) (hr : Room k X.A) (hg : Gl X x) (hm : X.mg x = some (.ref f)) (hk : PySem.W.keepIn X.K (.ref f) = true) (hb : KBn X.K fd ps 0 ks g gV) (hx : Passes CX X E) (hkw : PK X kws tk)
    (hall : (backToKw pos (keywordEach kws X.env)).all (·.1.isSome) = true) (hks : (backToKw pos (keywordEach kws X.env)).filterMap (·.1) = ks) (hdb : (x == ("__debug__" : PySem.Str)) = false)
    (hpl : ((backTo pos (starEach [] X.env)).any (·.1) || (backToKw pos (keywordEach kws X.env)).any (·.1.isNone)) = false) :
    PE X (.Call (.Name x p) [] kws pos) (tCallN 0 ks.length sp gV E tNil tk) := by
  refine ⟨fun pins s σ H Q I h => wpAny_Call_Name_kw (ld_glob I hg hm (PySem.W.callWith_KW0 (h₀ := X.base) I.ok.mod.kin hk hall ?_ hpl) hdb)⟩
  refine thn (hkw.run pos pins s σ H _ I h) fun ws s2 ⟨zs, H2, I2, rz, l1, l2, q2⟩ => ⟨I2.kIn, ?_⟩
  rw [hks]
  exact run_fnN (us := []) (vs := []) F hr hb hx I2 .nil rz rfl l2 q2
theorem m_callK0 {k f : Nat} {x : PySem.Str} {kws : List Keyword} {ks : List PySem.Str} (hf : FunAt X.prog X.w X.K X.mg X.base T C k f x 0 ks) (hr : Room k X.A) (hg : Gl X x) (hx : Passes (CX X.prog X.w) X E) (hkw : PK X kws (tA T C X.K E mb))
    (lb : ∀ L env S S' l, ev C L mb env S = .ok (.tup l) S' → l.length = ks.length) (hall : (backToKw pos (keywordEach kws X.env)).all (·.1.isSome) = true) (hks : (backToKw pos (keywordEach kws X.env)).filterMap (·.1) = ks)
    (hdb : (x == ("__debug__" : PySem.Str)) = false) (hpl : ((backTo pos (starEach [] X.env)).any (·.1) || (backToKw pos (keywordEach kws X.env)).any (·.1.isNone)) = false) :
    PE X (.Call (.Name x p) [] kws pos) (tI T C X.K E (.call f .nil mb)) := by
  obtain ⟨fa, fd, ps, g, gV, sp, h1, h2, h3, h4, h5⟩ := hf.ex
  refine (pe_callN0 h1 hr hg h2 h3 h4 hx hkw hall hks hdb hpl).imp fun σ H Q ⟨L, F, μ, S, env, sr, er, h⟩ => ?_
  have h' : OR T X.K E L F μ H ((ev C L mb env S).bind fun z S2 => match z with
    | .tup l' => C.fn f L l' S2
    | _ => .bad) (RWv T X.K) Q := by
    simp only [ev, Out.bind_ok] at h
    cases e2 : ev C L mb env S with
    | ex c p S1 => rw [e2] at h; exact h
    | bad => rw [e2] at h; exact h
    | ok w S2 => rw [e2] at h; cases w <;> first | exact h | exact h.elim
  have lb' := lb L env S
  refine ⟨L, F, μ, S, env, sr, er, ?_⟩
  cases e2 : ev C L mb env S with
  | ex c p S1 => rw [e2] at h'; exact h'
  | bad => rw [e2] at h'; exact h'
  | ok w S2 =>
    rw [e2] at h'
    rintro F2 μ2 H2 zs x2 s2 ⟨us, rfl, r2⟩
    have n2 := lb' _ _ e2
    refine ⟨rfl, by rw [← r2.length]; exact n2, h5 [] zs _ _ _ ⟨L, F2, μ2, S2, us, s2, r2, OR.later x2 h'⟩ rfl (by rw [← r2.length]; exact n2)⟩
/-! ### min(l, default=None) -/
theorem minI_of : ∀ (a : Int) (l : List Int), PySem.W.minOf a l = l.foldl min a := fun a l => by
  unfold PySem.W.minOf
  induction l generalizing a with
  | nil => rfl
  | cons b l ih =>
    rw [List.foldl_cons, List.foldl_cons, ih]
    congr 1
    show (if decide (b < a) = true then b else a) = min a b
    by_cases h : b < a
    · rw [if_pos (decide_eq_true h), Int.min_def, if_neg (by omega)]
    · rw [if_neg (by simpa using h), Int.min_def, if_pos (by omega)]
def rMinD (K : PySem.W.Frag) : List V → List V → Hp → VK → Prop := fun xs zs H Q => ∃ (a : Addr) (ns : List Int), xs = [.ref a] ∧ zs = [.non] ∧ SqL K H a (ns.map V.int) ∧ match minI ns with
  | none => Q .non H
  | some i => Q (.int i) H
theorem reads_ints {h : Heap} : ∀ {us : List Value} {ns : List Int}, PyProof.Rows.IntsAre us ns → ReadsAll h us (ns.map PyData.int) []
  | _, _, .nil => .nil
  | _, _, .cons n t r => .cons (as := []) (bs := []) (.int n t) (reads_ints r)
theorem cr_minD (hu : X.A.units + 64 < cLine) (hh : X.A.handled = none) : CallRK X (.builtin "min") [Str.ofString "default"] (rMinD X.K) := by
  intro pins s σ H xs zs us ws Q I r rz ⟨a, ns, e1, e2, hq, h⟩
  subst e1; subst e2
  obtain rfl := Vals.ref1 r
  obtain ⟨u, rfl, ru⟩ : ∃ u, ws = [u] ∧ u = Value.none := by
    cases rz with | cons r1 t => cases t; exact ⟨_, rfl, r1⟩
  subst ru
  obtain ⟨its, rv, pl, hz⟩ := I.list hq
  have hi : PyProof.Rows.IntsAre its ns := by simpa using rv.ints
  have fin : ∀ (v : V) (u : Value) (h' : Heap) (tk : Nat), RelV v u → (∀ b o, s.heap.get? b = some o → h'.get? b = some o) → Q v H → EP X pins σ Q u { s with heap := h', toks := tk } := fun v u h' tk r k q => ⟨v, H, I.kept k, r, q⟩
  refine PySem.W.min_list_datum_default (α := Int) (xs := ns) hh pl.isList ⟨[], by rw [show its.toArray.toList = its by simp]; exact reads_ints hi⟩ (by show X.A.units + 1 + 0 < cLine; omega) (fun e h' tk k => ?_) fun y ys i v h' tk e hv ho k => ?_
  · subst e
    exact fin .non _ h' tk rfl k h
  · subst e
    obtain ⟨as, ho⟩ := ho
    have : ∃ t, v = Value.int (PySem.W.minOf y ys) t := by
      have ho' : Reads h' v (.int (PySem.W.minOf y ys)) as := ho
      cases ho'; exact ⟨_, rfl⟩
    obtain ⟨t, rfl⟩ := this
    refine fin (.int (PySem.W.minOf y ys)) _ h' tk ⟨_, rfl⟩ k ?_
    rw [minI_of]; exact h
theorem m_minD {kp cp : Pos} {kk : Nat} (hu : X.A.units + 64 < cLine) (hh : X.A.handled = none) (hg : Gl X "min") (hm : X.mg "min" = none) (ha : PE X a (tI T C X.K E ma)) (hs : starEach [a] X.env = (false, eval a X.env) :: starEach [] X.env) :
    PE X (.Call (.Name "min" p) [a] [⟨some "default", .Constant .none kk cp, kp⟩] pos) (tI T C X.K E (.bi .minD (.cons ma .nil))) := by
  refine (pe_callBK (cr_minD hu hh) hg hm (by decide +kernel) (ma_cons ha ma_nil hs) (pk_cons pe_non pk_nil) (by decide) (by decide) (by rw [hs]; rfl) (by rw [hs]; rfl) rfl rfl rfl).imp fun σ H Q ⟨L, F, μ, S, env, sr, er, h⟩ => ?_
  refine tA_seq sr er (h : OR T X.K E L F μ H ((ev C L (.cons ma .nil) env S).bind _) _ _) fun F1 μ1 H1 S1 ws vs x1 s1 e1 r1 h1 => ?_
  have h2 : OR T X.K E L F1 μ1 H1 (Out.of (biW S1 .minD ws) S1) (RWv T X.K) Q := h1
  cases hz : biW S1 .minD ws with
  | none => rw [hz] at h2; exact h2.elim
  | some z =>
  rw [hz] at h2
  obtain ⟨w, rfl, hw⟩ := one_some (show one (fun a => a.ints.map fun bs => match minI bs with
    | none => W.non
    | some i => .int i) ws = some z from hz)
  obtain ⟨ns, hn, rfl⟩ := Option.map_eq_some_iff.mp hw
  cases r1 with | cons r t =>
  cases t
  cases w <;> simp only [W.ints] at hn <;> first | (cases hn; done) | skip
  obtain ⟨us, q, rfl, hq, ru⟩ := r.lst_inv
  refine ⟨q, ns, rfl, rfl, .inl (.inl (by rw [← ru.ints_inv hn]; exact s1.sub _ _ hq)), ?_⟩
  cases hmi : minI ns with
  | none => rw [hmi] at h2; exact OR.fin h2 s1 .non
  | some i => rw [hmi] at h2; exact OR.fin h2 s1 (.int i)
/-! ### len(set(l)) -/
theorem m_lset {p2 q : Pos} (hc : X.calm = true) (hg : Gl X "len") (hm : X.mg "len" = none) (hg2 : Gl X "set") (hm2 : X.mg "set" = none) (ha : PE X a (tI T C X.K E ma)) (na : starEach [a] X.env = (false, eval a X.env) :: starEach [] X.env) :
    PE X (.Call (.Name "len" p) [.Call (.Name "set" p2) [a] [] q] [] pos) (tI T C X.K E (.bi .setLen (.cons ma .nil))) := by
  refine ⟨fun pins s σ H Q I ⟨L, F, μ, S, env, sr, er, h⟩ => ?_⟩
  have hq : tI T C X.K E ma σ H fun x H1 => ∃ (l : Addr) (ns : List Int), x = .ref l ∧ SqL X.K H1 l (ns.map V.int) ∧ ns.length ≤ 4000 ∧ Q (.int (distinct ns : Nat)) H1 := by
    have h2 : OR T X.K E L F μ H ((ev C L ma env S).bind fun x S1 => Out.of (biW S1 .setLen [x]) S1) (RWv T X.K) Q := by
      simp only [ev] at h
      cases e1 : ev C L ma env S with
      | ok w S1 => rw [e1] at h; exact h
      | ex c p S1 => rw [e1] at h; exact h
      | bad => rw [e1] at h; exact h
    refine tI_seq sr er h2 fun F1 μ1 H1 S1 w x x1 s1 e1 r1 h1 => ?_
    cases hz : biW S1 .setLen [w] with
    | none => rw [hz] at h1; exact h1.elim
    | some z =>
    rw [hz] at h1
    have hw : (w.ints.bind fun ns => if ns.length ≤ 4000 then some (W.int (distinct ns : Nat)) else none) = some z := hz
    obtain ⟨ns, hn, hw⟩ := Option.bind_eq_some_iff.mp hw
    split at hw
    case isFalse => cases hw
    rename_i hl
    cases hw
    cases w <;> simp only [W.ints] at hn <;> first | (cases hn; done) | skip
    obtain ⟨us, q, rfl, hq, ru⟩ := r1.lst_inv
    exact ⟨q, ns, rfl, .inl (.inl (by rw [← ru.ints_inv hn]; exact s1.sub _ _ hq)), hl, OR.fin h1 s1 (.int _)⟩
  refine Call_ (ld_blt I hg hm boot_len ?_)
  refine callWith_builtin1 (args_cons ?_ rfl) rfl rfl
  refine Call_ (ld_blt I hg2 hm2 boot_set ?_)
  refine callWith_type1 (args_cons (thn (ha.run pins s σ H _ I hq) fun v s1 ⟨x, H1, I1, r1, l, ns, ex, hl, hn, q1⟩ => args_nil ?_) na) na rfl
  subst ex
  cases r1
  obtain ⟨its, r, pl, hz⟩ := I1.list hl
  have hlen : its.toArray.size = ns.length := by rw [List.size_toArray, ← r.length, List.length_map]
  refine call_set_list (I1.ok.hd hc) pl.isList (ns := ns) (by simpa using r.ints) (by rw [hlen]; unfold scanBound; omega) fun h' tk ⟨o, es, ep, t, ho, hex, hd, _, _, hsb, hf, hnn⟩ hk => args_nil ?_
  rw [hlen] at hnn
  have I2 : Inv X pins σ H1 { s1 with heap := h', toks := tk } := I1.kept fun b o e => hk b o (Heap.lt_size e) e
  refine call_len_set ho hex hd hf (by unfold scanBound at hsb; omega) ⟨.int (distinct ns : Nat), H1, I2.tok _, ⟨_, by rw [hnn]; rfl⟩, q1⟩
/-! ### two stores at once -/
theorem s_par {N : Nat} {i j : Nat} {x y : PySem.Str} {px py pt : Pos} {kt k2 : Nat} {pt2 : Pos} (hc : X.calm = true) (hN : X.N.Nodup) (hi : X.N[i]? = some x) (hj : X.N[j]? = some y) (hij : i ≠ j) (hx : X.env.scope.names.lookup x = some .local) (hy : X.env.scope.names.lookup y = some .local) (ha : PA X [a, b] (tA T C X.K E ma))
    (hw : swappedStores [.Tuple [.Name x px, .Name y py] kt pt] (.Tuple [a, b] k2 pt2) X.env = pure (some [x, y])) : PS X (.Assign [.Tuple [.Name x px, .Name y py] kt pt] (.Tuple [a, b] k2 pt2) pos) (tS T C X.K E N (.par i j ma)) :=
  (ps_par hc hN hi hj hij hx hy ha hw).imp fun D σ H ⟨L, F, μ, S, env, sr, er, h⟩ => by
    refine ⟨L, F, μ, S, env, sr, er, ?_⟩
    have h' : FR T X.K E L F μ H ((ev C L ma env S).bind fun w S1 => match w with
      | .tup [a, b] => .ok (.nx ((env.set i (some a)).set j (some b))) S1
      | _ => .bad) D := h
    cases e1 : ev C L ma env S with
    | ex c p S1 => rw [e1] at h'; exact h'
    | bad => rw [e1] at h'; exact h'
    | ok w S1 =>
      rw [e1] at h'
      rintro F1 μ1 H1 vs x1 s1 ⟨ws, rfl, r⟩
      match ws, r with
      | [], .nil => exact h'.elim
      | [_], .cons _ .nil => exact h'.elim
      | _ :: _ :: _ :: _, _ => exact h'.elim
      | [w1, w2], .cons (v := v1) r1 (.cons (v := v2) r2 .nil) =>
        exact ⟨v1, v2, rfl, FR.nx' (FR.later x1 h') s1 (((er.ext x1).set r1).set r2)⟩
end
end
end Mi

/-! the checker: whether a text of the small language is what a piece of the program says -/
namespace Mi
open PySem PySem.Spec PyProof.Rows L2
/-- what is fixed for a def's text -/
structure Ck where
  T : Tb
  N : List PySem.Str
  fns : List (Option (PySem.Str × Nat × List PySem.Str))
  cons : List PySem.Str
  lam : Bool := false
  lfns : List (Option (PySem.Str × Nat × List PySem.Str)) := []
/-- for the text of a key lambda -/
def Ck.inL (P : Ck) (x : PySem.Str) : Ck := { P with N := [x], fns := P.lfns, lam := false }
/-- where one stands -/
structure Sn where
  sc : Scope
  cl : PySem.Str → Bool
def Sn.blk (sn : Sn) (scope : Scope) : Sn := ⟨relS scope sn.sc, fun x => scope.names.lookup x == some .cell⟩
def okn (x : PySem.Str) : Bool := !(x == "__debug__") && !(x == "__classdict__") && !decide (x = "__name__")
def visN : Option NameKind → Bool
  | some .local => true
  | some .cell => true
  | some .free => true
  | _ => false
def vis (sn : Sn) (x : PySem.Str) : Bool := visN (sn.sc.names.lookup x)
def glo (sn : Sn) (x : PySem.Str) : Bool := decide (sn.sc.names.lookup x = some .globalImplicit)
def stor (sn : Sn) (x : PySem.Str) : Bool := decide (sn.sc.names.lookup x = some .local) || (decide (sn.sc.names.lookup x = some .cell) && sn.cl x)
def noSl : Expr → Bool
  | .Slice .. => false
  | _ => true
def noStar : Expr → Bool
  | .Starred .. => false
  | _ => true
def plainB : Expr → Bool
  | .Call (.Name _ _) [] [] _ => false
  | _ => true
def plainT : Expr → Bool
  | .UnaryOp .. => false
  | .BoolOp .. => false
  | .IfExp .. => false
  | .Compare .. => false
  | _ => true
def notSet : Expr → Bool
  | .Set .. => false
  | _ => true
mutual
def okG (P : Ck) (sn : Sn) : Tg → Expr → Bool
  | .nm i, e => match e with
    | .Name x _ => decide (P.N[i]? = some x) && stor sn x
    | _ => false
  | .tp a, e => match e with
    | .Tuple es _ _ => okGs P sn a es
    | _ => false
  | _, _ => false
def okGs (P : Ck) (sn : Sn) : Tg → List Expr → Bool
  | .nil, es => match es with
    | [] => true
    | _ => false
  | .cons a b, es => match es with
    | e :: es => okG P sn a e && noStar e && okGs P sn b es
    | _ => false
  | _, _ => false
end
def okIw (sn : Sn) (fE : Expr → Bool) (fA : List Expr → Bool) (k : IK) (tg iter : Expr) : Bool := match k with
  | .val => fE iter && notSet iter
  | .rng => match iter with
    | .Call (.Name x _) [a] [] _ => decide (x = "range") && glo sn x && fA [a]
    | _ => false
  | .rng2 => match iter with
    | .Call (.Name x _) [a, b] [] _ => decide (x = "range") && glo sn x && fA [a, b]
    | _ => false
  | .zip => match tg with
    | .Tuple .. => match iter with
      | .Call (.Name x _) [a, b] [] _ => decide (x = "zip") && glo sn x && fA [a, b]
      | _ => false
    | _ => false
  | .enm => match tg with
    | .Tuple .. => match iter with
      | .Call (.Name x _) [a] [] _ => decide (x = "enumerate") && glo sn x && fA [a]
      | _ => false
    | _ => false
  | _ => false
def mkOwn (P : Ck) (own : List Nat) : List (PySem.Str × Nat) := own.map fun i => (P.N.getD i Str.empty, i)
def isYes : M → Bool
  | .cst (.bl true) => true
  | _ => false
def mtLine (apos cpos : Pos) : Bool := apos.endLine == cpos.line
/-- what may be asked of a text: to be an expression, a slice's bound, a test, arguments, keywords, pairs; one argument, two; a value and the pairs behind it -/
inductive Ast where
  | E (e : Expr) | O (o : Option Expr) | T (e : Expr) | A (es : List Expr) | K (kws : List Keyword) | P (ks : List (Option Expr)) (vs : List Expr)
  | one (e : Expr) | two (e e' : Expr) | P2 (v : Expr) (ks : List (Option Expr)) (vs : List Expr)
abbrev Chk := Sn → Ast → Bool
def okVar (P : Ck) (i : Nat) : Chk := fun sn x => match x with
  | .E (.Name x _) => decide (P.N[i]? = some x) && vis sn x && okn x
  | _ => false
def okCst (P : Ck) (w : W) : Chk := fun _ x => match w with
  | .int i => match x with
    | .E (.Constant (.int j) _ _) => decide (i = j)
    | .E (.UnaryOp .USub (.Constant (.int j) _ _) _) => decide (i = -j)
    | _ => false
  | .bl b => match x with
    | .E (.Constant (.bool c) _ _) => decide (b = c)
    | _ => false
  | .non => match x with
    | .E (.Constant .none _ _) => true
    | _ => false
  | .tx n => match x with
    | .E (.Constant (.str s) _ _) => decide (P.T.txs[n]? = some s)
    | _ => false
  | _ => false
def okCon (P : Ck) (i : Nat) : Chk := fun sn x => match x with
  | .E (.Name x _) => decide (P.cons[i]? = some x) && glo sn x && okn x
  | _ => false
def okBin (o : BOp) (a b : Chk) : Chk := fun sn x => match x with
  | .E (.BinOp x op y _) => decide (op = o.op) && a sn (.E x) && b sn (.E y)
  | _ => false
def okCmp (o : COp) (a b : Chk) : Chk := fun sn x => match x with
  | .E (.Compare x [op] [y] _) => decide (op = o.op) && a sn (.E x) && b sn (.E y) && !behindInMarks o.op y
  | .T (.Compare x [op] [y] _) => decide (op = o.op) && a sn (.E x) && b sn (.E y) && !behindInMarks o.op y
  | _ => false
def okChn (o o' : COp) (a b c : Chk) : Chk := fun sn x => match x with
  | .E (.Compare x [op, op'] [y, z] _) => decide (op = o.op) && decide (op' = o'.op) && a sn (.E x) && b sn (.E y) && c sn (.E z) && !lastMarks [o.op, o'.op] [y, z]
  | .T (.Compare x [op, op'] [y, z] _) => decide (op = o.op) && decide (op' = o'.op) && a sn (.E x) && b sn (.E y) && c sn (.E z) && !lastMarks [o.op, o'.op] [y, z]
  | _ => false
def okLog (o : BoolOp) (a b : Chk) : Chk := fun sn x => match x with
  | .E (.BoolOp o' (x :: y :: r) p) => decide (o' = o) && a sn (.E x) && (match r with
    | [] => b sn (.E y)
    | _ => b sn (.E (.BoolOp o' (y :: r) p)))
  | .T (.BoolOp o' (x :: y :: r) p) => decide (o' = o) && a sn (.T x) && (match r with
    | [] => b sn (.T y)
    | _ => b sn (.T (.BoolOp o' (y :: r) p)))
  | _ => false
def okNot (a : Chk) : Chk := fun sn x => match x with
  | .E (.UnaryOp .Not x _) => a sn (.E x)
  | .T (.UnaryOp .Not x _) => a sn (.T x)
  | _ => false
def okTr (a : Chk) : Chk := fun sn x => match x with
  | .T e => a sn (.E e) && plainT e
  | _ => false
def okIfe (c a b : Chk) : Chk := fun sn x => match x with
  | .E (.IfExp t x y _) => c sn (.T t) && a sn (.E x) && b sn (.E y)
  | _ => false
def okIx (a b : Chk) : Chk := fun sn x => match x with
  | .E (.Subscript x y _) => a sn (.E x) && b sn (.E y) && noSl y
  | _ => false
def okIdx (a : Chk) : Chk := fun sn x => match x with
  | .O (some e) => a sn (.E e)
  | _ => false
def okSl (a lo hi : Chk) : Chk := fun sn x => match x with
  | .E (.Subscript x (.Slice l u none _) _) => a sn (.E x) && lo sn (.O l) && hi sn (.O u)
  | _ => false
def okFld (P : Ck) (f : Nat) (a : Chk) : Chk := fun sn x => match x with
  | .E (.Attribute x s _) => decide (P.T.ats[f]? = some s) && a sn (.E x) && plainB x
  | _ => false
def okTup (a : Chk) : Chk := fun sn x => match x with
  | .E (.Tuple es _ _) => a sn (.A es)
  | _ => false
def okLst (a : Chk) : Chk := fun sn x => match x with
  | .E (.List es _) => a sn (.A es)
  | _ => false
def okDct (a : Chk) : Chk := fun sn x => match x with
  | .E (.Dict ks vs _) => a sn (.P ks vs) && decide (ks.length ≤ 15)
  | _ => false
def okCall (P : Ck) (f : Nat) (a b : Chk) (nA nil : Bool) : Chk := fun sn x => match x with
  | .E (.Call (.Name x _) args kws _) => decide (P.fns[f]? = some (some (x, args.length, kws.filterMap (·.arg)))) && kws.all (·.arg.isSome) && glo sn x && okn x && a sn (.A args) && b sn (.K kws) && (!args.isEmpty || (kws.isEmpty && nil) || (!kws.isEmpty && nA))
  | _ => false
def okLrng (a : Chk) : Chk := fun sn x => match x with
  | .E (.Call (.Name x _) [.Call (.Name r _) [y, z] [] _] [] _) => decide (x = "list") && decide (r = "range") && glo sn x && glo sn r && noStar y && noStar z && a sn (.two y z)
  | _ => false
def okBiN (nm : PySem.Str) (a : Chk) : Chk := fun sn x => match x with
  | .E (.Call (.Name x _) (y :: ys) [] _) => decide (x = nm) && glo sn x && a sn (.A (y :: ys))
  | _ => false
def okIsi (nm : PySem.Str) (a : Chk) : Chk := fun sn x => match x with
  | .E (.Call (.Name x _) [y, .Name t _] [] _) => decide (x = "isinstance") && decide (t = nm) && glo sn x && glo sn t && noStar y && a sn (.one y)
  | _ => false
def okMinD (a : Chk) : Chk := fun sn x => match x with
  | .E (.Call (.Name x _) [e] [⟨some d, .Constant .none _ _, _⟩] _) => decide (x = "min") && decide (d = "default") && glo sn x && noStar e && a sn (.one e)
  | _ => false
def okSetLen (a : Chk) : Chk := fun sn x => match x with
  | .E (.Call (.Name x _) [.Call (.Name t _) [e] [] _] [] _) => decide (x = "len") && decide (t = "set") && glo sn x && glo sn t && noStar e && a sn (.one e)
  | _ => false
def oneArg : Arguments → Option PySem.Str
  | ⟨[], [a], none, [], [], none, []⟩ => some a.arg
  | _ => none
def lamB (y : PySem.Str) (sc : Scope) : Bool := decide (sc.kind = .function) && !sc.isCoroutine && !sc.isGenerator && (decide (sc.names.lookup y = some .local) || decide (sc.names.lookup y = some .cell)) && sc.names.all (fun q => !decide (q.2 = .free))
def okSrt (lam : Bool) (it : Chk) (b : PySem.Str → Chk) : Chk := fun sn x => match x with
  | .E (.Call (.Name f _) [e] [⟨some d, .Lambda params body scope _, _⟩] _) => lam && decide (f = "sorted") && decide (d = "key") && glo sn f && noStar e && it sn (.E e) && (match oneArg params with
    | some y => lamB y scope && b y ⟨scope, fun _ => true⟩ (.E body)
    | none => false)
  | _ => false
def okBi (b : Bi) (a : Chk) : Chk := match b with
  | .minD => okMinD a
  | .setLen => okSetLen a
  | .lrng => okLrng a
  | .isTup => okIsi "tuple" a
  | .isInt => okIsi "int" a
  | .isBool => okIsi "bool" a
  | .len => okBiN "len" a
  | .max2 => okBiN "max" a
  | .min2 => okBiN "min" a
  | .any => okBiN "any" a
  | .all => okBiN "all" a
  | .sum => okBiN "sum" a
  | .tuple => okBiN "tuple" a
  | .list => okBiN "list" a
  | _ => fun _ _ => false
def okApp (o a : Chk) : Chk := fun sn x => match x with
  | .E (.Call (.Attribute x s ap) [y] [] cp) => decide (s = "append") && o sn (.E x) && a sn (.one y) && plainB x && noStar y && mtLine ap cp
  | _ => false
def okGet2 (o a : Chk) : Chk := fun sn x => match x with
  | .E (.Call (.Attribute x s ap) [y, z] [] cp) => decide (s = "get") && o sn (.E x) && a sn (.two y z) && plainB x && noStar y && noStar z && mtLine ap cp
  | _ => false
def okMt (m : Mt) (o a : Chk) : Chk := match m with
  | .append => okApp o a
  | .get2 => okGet2 o a
  | _ => fun _ _ => false
def okIfs (c : Chk) (yes : Bool) (sn : Sn) (ifs : List Expr) : Bool := match ifs with
  | [] => yes
  | [x] => c sn (.T x)
  | _ => false
def okLc (P : Ck) (k : IK) (it : Chk) (tg : Tg) (own : List Nat) (yes : Bool) (c el : Chk) : Chk := fun sn x => match x with
  | .E (.ListComp elt [⟨t, iter, ifs, as⟩] scope _) => decide (as = 0) && okIw sn (fun e => it sn (.E e)) (fun es => it sn (.A es)) k t iter && blkC P.N sn.sc scope (mkOwn P own) && tg.names.all (fun i => decide (i ∈ own)) && okG P (sn.blk scope) tg t && okIfs c yes (sn.blk scope) ifs && el (sn.blk scope) (.E elt) && notSet iter
  | _ => false
def okLc2 (P : Ck) (k : IK) (it : Chk) (tg : Tg) (own : List Nat) (yes : Bool) (c : Chk) (k1 : IK) (it1 : Chk) (tg1 : Tg) (own1 : List Nat) (yes1 : Bool) (c1 el : Chk) : Chk := fun sn x => match x with
  | .E (.ListComp elt [⟨t, iter, ifs, as⟩, ⟨t1, iter1, ifs1, as1⟩] scope _) => (decide (as = 0) && okIw sn (fun e => it sn (.E e)) (fun es => it sn (.A es)) k t iter && blkC P.N sn.sc scope (mkOwn P own) && tg.names.all (fun i => decide (i ∈ own)) && okG P (sn.blk scope) tg t && okIfs c yes (sn.blk scope) ifs && el (sn.blk scope) (.E elt) && notSet iter) &&
      (decide (as1 = 0) && okIw (sn.blk scope) (fun e => it1 (sn.blk scope) (.E e)) (fun es => it1 (sn.blk scope) (.A es)) k1 t1 iter1 && own1.all (fun i => decide (i ∈ own)) && tg1.names.all (fun i => decide (i ∈ own1)) && okG P (sn.blk scope) tg1 t1 && okIfs c1 yes1 (sn.blk scope) ifs1 && notSet iter1)
  | _ => false
def okNil : Chk := fun _ x => match x with
  | .A [] => true
  | .K [] => true
  | .P [] [] => true
  | .O none => true
  | _ => false
def M.isNil : M → Bool
  | .nil => true
  | _ => false
def okCons (a b : Chk) (nil : Bool) : Chk := fun sn x => match x with
  | .A (e :: es) => noStar e && a sn (.E e) && b sn (.A es)
  | .K (⟨_, e, _⟩ :: es) => a sn (.E e) && b sn (.K es)
  | .P (some k :: ks) (v :: vs) => a sn (.E k) && b sn (.P2 v ks vs)
  | .P2 v ks vs => a sn (.E v) && b sn (.P ks vs)
  | .one e => a sn (.E e) && nil
  | .two e e' => a sn (.E e) && b sn (.one e')
  | _ => false
def okE (P : Ck) : M → Chk
  | .var i => okVar P i
  | .cst w => okCst P w
  | .con i => okCon P i
  | .nil => okNil
  | .cons a b => okCons (okE P a) (okE P b) b.isNil
  | .tup a => okTup (okE P a)
  | .lst a => okLst (okE P a)
  | .slst a => okLst (okE P a)
  | .dct a => okDct (okE P a)
  | .bin o a b => okBin o (okE P a) (okE P b)
  | .cmp o a b => okCmp o (okE P a) (okE P b)
  | .chn o o' a b c => okChn o o' (okE P a) (okE P b) (okE P c)
  | .and a b => okLog .And (okE P a) (okE P b)
  | .or a b => okLog .Or (okE P a) (okE P b)
  | .not a => okNot (okE P a)
  | .tr a => okTr (okE P a)
  | .ife c a b => okIfe (okE P c) (okE P a) (okE P b)
  | .ix a b => okIx (okE P a) (okE P b)
  | .sl a lo hi => okSl (okE P a) (okE P lo) (okE P hi)
  | .idx a => okIdx (okE P a)
  | .fld a f => okFld P f (okE P a)
  | .call f a b => okCall P f (okE P a) (okE P b) a.isNil (a.isNil && b.isNil)
  | .meth _ _ _ _ _ => fun _ _ => false
  | .bi b a => okBi b (okE P a)
  | .mt m o a => okMt m (okE P o) (okE P a)
  | .srt it e => okSrt P.lam (okE P it) fun y => okE (P.inL y) e
  | .lc k it tg own c e => okLc P k (okE P it) tg own (isYes c) (okE P c) (okE P e)
  | .lc2 k it tg own c k1 it1 tg1 own1 c1 e => okLc2 P k (okE P it) tg own (isYes c) (okE P c) k1 (okE P it1) tg1 own1 (isYes c1) (okE P c1) (okE P e)
end Mi

/-! what the checker lets pass is so -/
namespace Mi
open PySem PySem.Spec PyProof.Rows L2
noncomputable section
def bNames : List PySem.Str := ["len", "max", "min", "any", "all", "sum", "tuple", "list", "isinstance", "range", "zip", "enumerate", "int", "bool", "dict", "sorted", "type", "set"]
structure Stat (P : Ck) (C : Ctx) (prog : Program) (w : World) (K : PySem.W.Frag) (mg : PySem.Str → Option Value) (base : Heap) (k : Nat) : Prop where
  T : P.T.Ok
  nd : P.N.Nodup
  blt : ∀ x ∈ bNames, mg x = none
  cons : ∀ (i : Nat) x, P.cons[i]? = some x → ∃ u v w', mg x = some u ∧ RelV v u ∧ C.con[i]? = some w' ∧ ∀ F μ, RW P.T K F μ w' v
  fns : ∀ (f : Nat) x n ks, P.fns[f]? = some (some (x, n, ks)) → FunAt prog w K mg base P.T C k f x n ks
  dat : C.dat = W.toD P.T
  lam : P.lam = true → ∃ k', k' + 3 ≤ k ∧ ∀ (f : Nat) x n ks, P.lfns[f]? = some (some (x, n, ks)) → FunAt prog w K mg base P.T C k' f x n ks
  fld : ∀ (c : Nat) D (f : Nat) x, P.T.obs[c]? = some D → P.T.ats[f]? = some x → Cls K D ∧ NoAttr K D x
structure CxOk (P : Ck) (C : Ctx) (k : Nat) (X : Cx) (sn : Sn) (E : XK) : Prop where
  st : Stat P C X.prog X.w X.K X.mg X.base k
  scope : X.env.scope = sn.sc
  N : X.N = P.N
  calm : X.calm = true
  un : X.A.units + 64 < cLine
  room : Room k X.A
  pas : Passes (CX X.prog X.w) X E
  cl : ∀ x, sn.cl x = true → X.fn x = true
  lam : P.lam = true → ∃ c Pa, X.env.code = .ref c ∧ LamX.TabB X.base X.mg c Pa ∧ (Pa, X.env.qual ++ "<lambda>") ∈ P.T.tabs X.K ∧ ∀ p ∈ P.T.tabs X.K, p.1 = Pa → p.2 = X.env.qual ++ "<lambda>"
section
variable {P : Ck} {C : Ctx} {k : Nat} {X : Cx} {sn : Sn} {E : XK}
theorem CxOk.blk (ok : CxOk P C k X sn E) (s : Shared) (H : Hp) (scope : Scope) (C' : Addr) (cl : List (PySem.Str × Addr)) (fp : List Addr) : CxOk P C k (X.blk s H scope (compEnvC scope cl C' X.env) fp) (sn.blk scope) E0 where
  st := ok.st
  scope := by show relabel scope X.env = relS scope sn.sc; rw [← ok.scope]; rfl
  N := ok.N
  calm := ok.calm
  un := ok.un
  room := ok.room
  pas := fun pins σ H s e s' I h => by obtain ⟨_, _, _, _, _, _, _, _, _, _, _, _, h⟩ := h; exact h
  cl := fun x h => h
  lam := ok.lam
theorem CxOk.gl (ok : CxOk P C k X sn E) {x : PySem.Str} (h : glo sn x = true) : Gl X x := by
  show X.env.scope.names.lookup x = _
  rw [ok.scope]; exact of_decide_eq_true h
theorem CxOk.vi (ok : CxOk P C k X sn E) {x : PySem.Str} (h : vis sn x = true) : Vis X.env.scope x := by
  unfold Vis
  rw [ok.scope]
  unfold vis at h
  cases e : sn.sc.names.lookup x with
  | none => rw [e] at h; cases h
  | some k => rw [e] at h; cases k <;> first | exact .inl rfl | exact .inr (.inl rfl) | exact .inr (.inr rfl) | cases h
theorem CxOk.sto (ok : CxOk P C k X sn E) {x : PySem.Str} (h : stor sn x = true) : L2.Loc X.env.scope x ∧ (X.fn x = true ∨ X.env.scope.names.lookup x = some .local) := by
  unfold L2.Loc
  rw [ok.scope]
  unfold stor at h
  rw [Bool.or_eq_true, Bool.and_eq_true] at h
  rcases h with h | ⟨h1, h2⟩
  · have := of_decide_eq_true h
    exact ⟨.inl this, .inr this⟩
  · exact ⟨.inr (of_decide_eq_true h1), .inl (ok.cl x h2)⟩
theorem okn_ok {x : PySem.Str} (h : okn x = true) : (x == ("__debug__" : PySem.Str)) = false ∧ (x == ("__classdict__" : PySem.Str)) = false ∧ x ≠ "__name__" := by
  unfold okn at h
  rw [Bool.and_eq_true, Bool.and_eq_true] at h
  exact ⟨by simpa using h.1.1, by simpa using h.1.2, by simpa using h.2⟩
theorem plainIx {b : Expr} (h : noSl b = true) : PlainIx b := by
  cases b <;> first | (intro o i; rfl) | cases h
theorem star_ok {e : Expr} {es : List Expr} {env : PySem.Env} (h : noStar e = true) : starEach (e :: es) env = (false, eval e env) :: starEach es env := by
  cases e <;> first | rfl | cases h
theorem base_ok {e : Expr} {f : PySem.Str} {env : PySem.Env} (h : plainB e = true) : attributeBase e f env (eval e env) = eval e env := by
  cases e with
  | Call g args kws p => cases g <;> first | rfl | (cases args <;> first | rfl | (cases kws <;> first | rfl | cases h))
  | _ => rfl
theorem true_ok {e : Expr} {env : PySem.Env} (h : plainT e = true) (whole : Sem Value) : isTrue e env whole = (do let v ← whole; standAt e.pos; holding [v] (truthy v)) := by
  cases e <;> first | rfl | cases h
theorem set_ok {e : Expr} {env : PySem.Env} (h : notSet e = true) (x : Value) : foldedSetIterable e env x = pure x := by
  cases e <;> first | rfl | cases h
theorem back_ok {pos : Pos} {env : PySem.Env} : ∀ {es : List Expr}, es.all noStar = true → (backTo pos (starEach es env)).any (·.1) = false
  | [], _ => rfl
  | e :: es, h => by
    rw [List.all_cons, Bool.and_eq_true] at h
    rw [star_ok h.1]
    have := back_ok (pos := pos) (env := env) h.2
    unfold backTo at this ⊢
    rw [List.map_cons, List.any_cons, this]; rfl
theorem assignEach_ok {e : Expr} {es : List Expr} {env : PySem.Env} (h : noStar e = true) : assignEach (e :: es) env = (false, assign e env) :: assignEach es env := by
  cases e <;> first | rfl | cases h
theorem bindT_len : ∀ {a : Tg} {es : List Expr} {ws : List W} {env env' : Env}, okGs P sn a es = true → bindT a (.lst ws) env = some env' → ws.length = es.length
  | .nm i, es, ws, env, env', h, h' => by simp [okGs] at h
  | .tp a, es, ws, env, env', h, h' => by simp [okGs] at h
  | .nil, [], [], env, env', h, h' => rfl
  | .nil, [], _ :: _, env, env', h, h' => by cases h'
  | .nil, _ :: _, _, env, env', h, h' => by simp [okGs] at h
  | .cons a b, [], _, env, env', h, h' => by simp [okGs] at h
  | .cons a b, e :: es, [], env, env', h, h' => by cases h'
  | .cons a b, e :: es, w :: ws, env, env', h, h' => by
    simp only [okGs, Bool.and_eq_true] at h
    simp only [bindT] at h'
    cases e1 : bindT a w env with
    | none => rw [e1] at h'; cases h'
    | some env1 =>
      rw [e1] at h'
      simp only [List.length_cons]
      rw [bindT_len h.2 h']
theorem g_ok (t : Tg) : (∀ {X : Cx} {sn : Sn} {E : XK}, CxOk P C k X sn E → ∀ e, okG P sn t e = true → PG X e (gT P.T X.K t)) ∧ (∀ {X : Cx} {sn : Sn} {E : XK}, CxOk P C k X sn E → ∀ es, okGs P sn t es = true → PGs X es (gTs P.T X.K t) ∧ es.all noStar = true) := by
  induction t with
  | nm i =>
    refine ⟨fun {X sn E} ok e h => ?_, fun {X sn E} ok es h => ?_⟩
    · simp only [okG] at h
      split at h
      · rw [Bool.and_eq_true] at h
        obtain ⟨h1, h2⟩ := ok.sto h.2
        exact g_nm (by rw [ok.N]; exact ok.st.nd) (by rw [ok.N]; exact of_decide_eq_true h.1) h1 h2
      · cases h
    · simp [okGs] at h
  | nil =>
    refine ⟨fun {X sn E} ok e h => ?_, fun {X sn E} ok es h => ?_⟩
    · simp [okG] at h
    · simp only [okGs] at h
      split at h
      · exact ⟨gs_nil, rfl⟩
      · cases h
  | cons a b iha ihb =>
    refine ⟨fun {X sn E} ok e h => ?_, fun {X sn E} ok es h => ?_⟩
    · simp [okG] at h
    · simp only [okGs] at h
      split at h
      · rw [Bool.and_eq_true, Bool.and_eq_true] at h
        obtain ⟨h3, h4⟩ := ihb.2 ok _ h.2
        exact ⟨gs_cons (iha.1 ok _ h.1.1) h3 (by rw [assignEach_ok h.1.2]; rfl), by rw [List.all_cons, h.1.2, h4]; rfl⟩
      · cases h
  | tp a iha =>
    refine ⟨fun {X sn E} ok e h => ?_, fun {X sn E} ok es h => ?_⟩
    · simp only [okG] at h
      split at h
      · rename_i es _ _
        obtain ⟨h1, h2⟩ := iha.2 ok _ h
        have hl : ∀ es : List Expr, (assignEach es X.env).length = es.length ∧ (es.all noStar = true → (assignEach es X.env).findIdx? (·.1) = none) := by
          intro es
          induction es with
          | nil => exact ⟨rfl, fun _ => rfl⟩
          | cons e es ih =>
            refine ⟨?_, fun h => ?_⟩
            · cases e <;> exact congrArg Nat.succ ih.1
            · rw [List.all_cons, Bool.and_eq_true] at h
              rw [assignEach_ok h.1, List.findIdx?_cons, ih.2 h.2]; rfl
        exact g_tp ok.calm h1 (hl es).1 ((hl es).2 h2) fun ws env env' hb => bindT_len h hb
      · cases h
    · simp [okGs] at h
end
end
end Mi

/-! what the checker lets pass is so: expressions -/
namespace Mi
open PySem PySem.Spec PyProof.Rows L2
noncomputable section
section
variable {P : Ck} {C : Ctx} {k : Nat} {X : Cx} {sn : Sn} {E : XK}
theorem CxOk.bl (ok : CxOk P C k X sn E) {x : PySem.Str} (h : x ∈ bNames) : X.mg x = none := ok.st.blt x h
theorem it_ok (ok : CxOk P C k X sn E) {fE : Expr → Bool} {fA : List Expr → Bool} {kk : IK} {m : M} {tg iter : Expr} (hE : ∀ e, fE e = true → PE X e (tI P.T C X.K E m)) (hA : ∀ es, fA es = true → PA X es (tA P.T C X.K E m) ∧ es.all noStar = true)
    (h : okIw sn fE fA kk tg iter = true) : PI X tg iter (tIt P.T C X.K E kk m) := by
  have hst : ∀ {a : Expr} {es : List Expr}, (a :: es).all noStar = true → starEach (a :: es) X.env = (false, eval a X.env) :: starEach es X.env := fun h => by
    rw [List.all_cons, Bool.and_eq_true] at h; exact star_ok h.1
  have htl : ∀ {a : Expr} {es : List Expr}, (a :: es).all noStar = true → es.all noStar = true := fun h => by
    rw [List.all_cons, Bool.and_eq_true] at h; exact h.2
  unfold okIw at h
  split at h
  · rw [Bool.and_eq_true] at h
    exact it_val (hE _ h.1)
  · split at h
    · rw [Bool.and_eq_true, Bool.and_eq_true] at h
      obtain ⟨⟨h1, h2⟩, h3⟩ := h
      have h1 := of_decide_eq_true h1; subst h1
      obtain ⟨h4, h5⟩ := hA _ h3
      exact it_rng1 (ok.gl h2) (ok.bl (by decide)) h4 (hst h5)
    · cases h
  · split at h
    · rw [Bool.and_eq_true, Bool.and_eq_true] at h
      obtain ⟨⟨h1, h2⟩, h3⟩ := h
      have h1 := of_decide_eq_true h1; subst h1
      obtain ⟨h4, h5⟩ := hA _ h3
      exact it_rng2 (ok.gl h2) (ok.bl (by decide)) h4 (by rw [hst h5, hst (htl h5)]; rfl) (hst (htl h5))
    · cases h
  · split at h
    · split at h
      · rw [Bool.and_eq_true, Bool.and_eq_true] at h
        obtain ⟨⟨h1, h2⟩, h3⟩ := h
        have h1 := of_decide_eq_true h1; subst h1
        obtain ⟨h4, h5⟩ := hA _ h3
        exact it_zip (ok.gl h2) (ok.bl (by decide)) h4 (hst h5) (back_ok (htl h5))
      · cases h
    · cases h
  · split at h
    · split at h
      · rw [Bool.and_eq_true, Bool.and_eq_true] at h
        obtain ⟨⟨h1, h2⟩, h3⟩ := h
        have h1 := of_decide_eq_true h1; subst h1
        obtain ⟨h4, h5⟩ := hA _ h3
        exact it_enm (ok.gl h2) (ok.bl (by decide)) h4 (hst h5)
      · cases h
    · cases h
  · cases h
/-- what is so of a text m -/
structure So (P : Ck) (C : Ctx) (k : Nat) (m : M) : Prop where
  e : ∀ {X : Cx} {sn : Sn} {E : XK}, CxOk P C k X sn E → ∀ {x : Expr}, okE P m sn (.E x) = true → PE X x (tI P.T C X.K E m)
  o : ∀ {X : Cx} {sn : Sn} {E : XK}, CxOk P C k X sn E → ∀ {x : Option Expr}, okE P m sn (.O x) = true → PO X x (tO P.T C X.K E m)
  t : ∀ {X : Cx} {sn : Sn} {E : XK}, CxOk P C k X sn E → ∀ {x : Expr}, okE P m sn (.T x) = true → PT X x (tT P.T C X.K E m) ∧ ∀ op l p, x = .BoolOp op l p → PW X x (tT P.T C X.K E m)
  a : ∀ {X : Cx} {sn : Sn} {E : XK}, CxOk P C k X sn E → ∀ {x : List Expr}, okE P m sn (.A x) = true → PA X x (tA P.T C X.K E m) ∧ x.all noStar = true ∧ ∀ L env S S' l, ev C L m env S = .ok (.tup l) S' → l.length = x.length
  kw : ∀ {X : Cx} {sn : Sn} {E : XK}, CxOk P C k X sn E → ∀ {x : List Keyword}, okE P m sn (.K x) = true → PK X x (tA P.T C X.K E m) ∧ ∀ L env S S' l, ev C L m env S = .ok (.tup l) S' → l.length = x.length
  p : ∀ {X : Cx} {sn : Sn} {E : XK}, CxOk P C k X sn E → ∀ {ks : List (Option Expr)} {vs : List Expr} {pos : Pos}, okE P m sn (.P ks vs) = true → PPs X pos ks vs (trs P.T C X.K E m) ∧ m.even = true ∧ ks.all (·.isSome) = true ∧ ks.length = vs.length ∧ (ks = [] → m = .nil)
  p2 : ∀ {X : Cx} {sn : Sn} {E : XK}, CxOk P C k X sn E → ∀ {v : Expr} {ks : List (Option Expr)} {vs : List Expr} {pos : Pos}, okE P m sn (.P2 v ks vs) = true → ∃ mv r, m = .cons mv r ∧ PE X v (tI P.T C X.K E mv) ∧ PPs X pos ks vs (trs P.T C X.K E r) ∧ r.even = true ∧ ks.all (·.isSome) = true ∧ ks.length = vs.length
  one : ∀ {X : Cx} {sn : Sn} {E : XK}, CxOk P C k X sn E → ∀ {y : Expr}, okE P m sn (.one y) = true → ∃ m', m = .cons m' .nil ∧ PE X y (tI P.T C X.K E m')
  two : ∀ {X : Cx} {sn : Sn} {E : XK}, CxOk P C k X sn E → ∀ {y z : Expr}, okE P m sn (.two y z) = true → ∃ m' m'', m = .cons m' (.cons m'' .nil) ∧ PE X y (tI P.T C X.K E m') ∧ PE X z (tI P.T C X.K E m'')
theorem So.ofET {m : M} (he : ∀ {X : Cx} {sn : Sn} {E : XK}, CxOk P C k X sn E → ∀ {x : Expr}, okE P m sn (.E x) = true → PE X x (tI P.T C X.K E m))
    (ht : ∀ {X : Cx} {sn : Sn} {E : XK}, CxOk P C k X sn E → ∀ {x : Expr}, okE P m sn (.T x) = true → PT X x (tT P.T C X.K E m) ∧ ∀ op l p, x = .BoolOp op l p → PW X x (tT P.T C X.K E m))
    (hx : ∀ sn x, (∀ e, x ≠ .E e) → (∀ e, x ≠ .T e) → okE P m sn x = false) : So P C k m where
  e := he
  t := ht
  o := fun _ _ h => by rw [hx _ _ (fun _ z => by cases z) (fun _ z => by cases z)] at h; cases h
  a := fun _ _ h => by rw [hx _ _ (fun _ z => by cases z) (fun _ z => by cases z)] at h; cases h
  kw := fun _ _ h => by rw [hx _ _ (fun _ z => by cases z) (fun _ z => by cases z)] at h; cases h
  p := fun _ _ _ _ h => by rw [hx _ _ (fun _ z => by cases z) (fun _ z => by cases z)] at h; cases h
  p2 := fun _ _ _ _ _ h => by rw [hx _ _ (fun _ z => by cases z) (fun _ z => by cases z)] at h; cases h
  one := fun _ _ h => by rw [hx _ _ (fun _ z => by cases z) (fun _ z => by cases z)] at h; cases h
  two := fun _ _ _ h => by rw [hx _ _ (fun _ z => by cases z) (fun _ z => by cases z)] at h; cases h
theorem So.ofE {m : M} (he : ∀ {X : Cx} {sn : Sn} {E : XK}, CxOk P C k X sn E → ∀ {x : Expr}, okE P m sn (.E x) = true → PE X x (tI P.T C X.K E m)) (hx : ∀ sn x, (∀ e, x ≠ .E e) → okE P m sn x = false) : So P C k m :=
  .ofET he (fun _ _ h => by rw [hx _ _ (fun _ z => by cases z)] at h; cases h) fun sn x h _ => hx sn x h
theorem and3 {a b c : Bool} (h : (a && b && c) = true) : a = true ∧ b = true ∧ c = true := by
  rw [Bool.and_eq_true, Bool.and_eq_true] at h; exact ⟨h.1.1, h.1.2, h.2⟩
theorem and2 {a b : Bool} (h : (a && b) = true) : a = true ∧ b = true := by
  rw [Bool.and_eq_true] at h; exact h
theorem not_t {a : Bool} (h : (!a) = true) : a = false := by simpa using h
theorem so_var (i : Nat) : So P C k (.var i) := .ofE (fun {X sn E} ok x h => by
  unfold okE okVar at h
  split at h
  · rename_i e; cases e
    obtain ⟨h1, h2, h3⟩ := and3 h
    obtain ⟨h4, h5, _⟩ := okn_ok h3
    exact m_var (by rw [ok.N]; exact of_decide_eq_true h1) (ok.vi h2) h4 h5
  · cases h) (fun sn x h => by cases x <;> first | rfl | exact absurd rfl (h _))
theorem so_cst (w : W) : So P C k (.cst w) := .ofE (fun {X sn E} ok x h => by
  unfold okE okCst at h
  split at h
  · split at h
    · rename_i e; cases e; have := of_decide_eq_true h; subst this; exact m_int
    · rename_i e; cases e; have := of_decide_eq_true h; subst this; exact m_neg
    · cases h
  · split at h
    · rename_i e; cases e; have := of_decide_eq_true h; subst this; exact m_bl
    · cases h
  · split at h
    · rename_i e; cases e; exact m_non
    · cases h
  · split at h
    · rename_i e; cases e; exact m_tx (of_decide_eq_true h)
    · cases h
  · cases h) (fun sn x h => by cases x <;> first | exact absurd rfl (h _) | (cases w <;> rfl))
theorem so_con (i : Nat) : So P C k (.con i) := .ofE (fun {X sn E} ok x h => by
  unfold okE okCon at h
  split at h
  · rename_i e; cases e
    obtain ⟨h1, h2, h3⟩ := and3 h
    obtain ⟨h4, h5, _⟩ := okn_ok h3
    obtain ⟨u, v, w', g1, g2, g3, g4⟩ := ok.st.cons i _ (of_decide_eq_true h1)
    exact m_con (ok.gl h2) g1 g2 g3 g4 h4
  · cases h) (fun sn x h => by cases x <;> first | rfl | exact absurd rfl (h _))
theorem so_bin (o : BOp) {a b : M} (ha : So P C k a) (hb : So P C k b) : So P C k (.bin o a b) := .ofE (fun {X sn E} ok x h => by
  unfold okE okBin at h
  split at h
  · rename_i e; cases e
    obtain ⟨h1, h2, h3⟩ := and3 h
    have := of_decide_eq_true h1; subst this
    exact m_bin o (ha.e ok h2) (hb.e ok h3)
  · cases h) (fun sn x h => by cases x <;> first | rfl | exact absurd rfl (h _))
theorem so_cmp (o : COp) {a b : M} (ha : So P C k a) (hb : So P C k b) : So P C k (.cmp o a b) := .ofET (fun {X sn E} ok x h => by
  unfold okE okCmp at h
  split at h
  · rename_i e; cases e
    obtain ⟨h, h4⟩ := and2 h
    obtain ⟨h1, h2, h3⟩ := and3 h
    have := of_decide_eq_true h1; subst this
    exact m_cmp ok.st.T ok.un o (ha.e ok h2) (hb.e ok h3) (not_t h4)
  · rename_i e; cases e
  · cases h) (fun {X sn E} ok x h => by
  unfold okE okCmp at h
  split at h
  · rename_i e; cases e
  · rename_i e; cases e
    obtain ⟨h, h4⟩ := and2 h
    obtain ⟨h1, h2, h3⟩ := and3 h
    have := of_decide_eq_true h1; subst this
    exact ⟨mt_cmp ok.st.T ok.un o (ha.e ok h2) (hb.e ok h3) (not_t h4), fun _ _ _ z => by cases z⟩
  · cases h) (fun sn x h h' => by cases x <;> first | rfl | exact absurd rfl (h _) | exact absurd rfl (h' _))
theorem so_chn (o o' : COp) {a b c : M} (ha : So P C k a) (hb : So P C k b) (hc : So P C k c) : So P C k (.chn o o' a b c) := .ofET (fun {X sn E} ok x h => by
  unfold okE okChn at h
  split at h
  · rename_i e; cases e
    obtain ⟨h, h6⟩ := and2 h
    obtain ⟨h, h4, h5⟩ := and3 h
    obtain ⟨h1, h2, h3⟩ := and3 h
    have := of_decide_eq_true h1; subst this
    have := of_decide_eq_true h2; subst this
    exact (chn_ok ok.st.T ok.un o o' (ha.e ok h3) (hb.e ok h4) (hc.e ok h5) (not_t h6)).1
  · rename_i e; cases e
  · cases h) (fun {X sn E} ok x h => by
  unfold okE okChn at h
  split at h
  · rename_i e; cases e
  · rename_i e; cases e
    obtain ⟨h, h6⟩ := and2 h
    obtain ⟨h, h4, h5⟩ := and3 h
    obtain ⟨h1, h2, h3⟩ := and3 h
    have := of_decide_eq_true h1; subst this
    have := of_decide_eq_true h2; subst this
    exact ⟨(chn_ok ok.st.T ok.un o o' (ha.e ok h3) (hb.e ok h4) (hc.e ok h5) (not_t h6)).2, fun _ _ _ z => by cases z⟩
  · cases h) (fun sn x h h' => by cases x <;> first | rfl | exact absurd rfl (h _) | exact absurd rfl (h' _))
theorem so_and {a b : M} (ha : So P C k a) (hb : So P C k b) : So P C k (.and a b) := .ofET (fun {X sn E} ok x h => by
  unfold okE okLog at h
  split at h
  · rename_i e; cases e
    obtain ⟨h0, h1, h2⟩ := and3 h
    have := of_decide_eq_true h0; subst this
    split at h2
    · exact m_and (ha.e ok h1) (pe_one (hb.e ok h2))
    · exact m_and (ha.e ok h1) (hb.e ok h2)
  · rename_i e; cases e
  · cases h) (fun {X sn E} ok x h => by
  unfold okE okLog at h
  split at h
  · rename_i e; cases e
  · rename_i e; cases e
    obtain ⟨h0, h1, h2⟩ := and3 h
    have := of_decide_eq_true h0; subst this
    split at h2
    · have := fun p => mt_and (pos := p) (ha.t ok h1).1 (pw_and1 (hb.t ok h2).1)
      exact ⟨(this _).pt, fun _ _ _ _ => this _⟩
    · have := mt_and (ha.t ok h1).1 ((hb.t ok h2).2 _ _ _ rfl)
      exact ⟨this.pt, fun _ _ _ _ => this⟩
  · cases h) (fun sn x h h' => by cases x <;> first | rfl | exact absurd rfl (h _) | exact absurd rfl (h' _))
theorem so_or {a b : M} (ha : So P C k a) (hb : So P C k b) : So P C k (.or a b) := .ofET (fun {X sn E} ok x h => by
  unfold okE okLog at h
  split at h
  · rename_i e; cases e
    obtain ⟨h0, h1, h2⟩ := and3 h
    have := of_decide_eq_true h0; subst this
    split at h2
    · exact m_or (ha.e ok h1) (pe_one (hb.e ok h2))
    · exact m_or (ha.e ok h1) (hb.e ok h2)
  · rename_i e; cases e
  · cases h) (fun {X sn E} ok x h => by
  unfold okE okLog at h
  split at h
  · rename_i e; cases e
  · rename_i e; cases e
    obtain ⟨h0, h1, h2⟩ := and3 h
    have := of_decide_eq_true h0; subst this
    split at h2
    · have := fun p => mt_or (pos := p) (ha.t ok h1).1 (pw_or1 (hb.t ok h2).1)
      exact ⟨(this _).pt, fun _ _ _ _ => this _⟩
    · have := mt_or (ha.t ok h1).1 ((hb.t ok h2).2 _ _ _ rfl)
      exact ⟨this.pt, fun _ _ _ _ => this⟩
  · cases h) (fun sn x h h' => by cases x <;> first | rfl | exact absurd rfl (h _) | exact absurd rfl (h' _))
theorem so_not {a : M} (ha : So P C k a) : So P C k (.not a) := .ofET (fun {X sn E} ok x h => by
  unfold okE okNot at h
  split at h
  · rename_i e; cases e
    exact m_not (ha.e ok h)
  · rename_i e; cases e
  · cases h) (fun {X sn E} ok x h => by
  unfold okE okNot at h
  split at h
  · rename_i e; cases e
  · rename_i e; cases e
    exact ⟨mt_not (ha.t ok h).1, fun _ _ _ z => by cases z⟩
  · cases h) (fun sn x h h' => by cases x <;> first | rfl | exact absurd rfl (h _) | exact absurd rfl (h' _))
theorem so_tr {a : M} (ha : So P C k a) : So P C k (.tr a) := .ofET (fun {X sn E} ok x h => by cases h) (fun {X sn E} ok x h => by
  obtain ⟨h1, h2⟩ := and2 (show (okE P a sn (.E x) && plainT x) = true from h)
  exact ⟨mt_tr ok.st.T (ha.e ok h1) (true_ok h2), fun _ _ _ z => by subst z; cases h2⟩) (fun sn x h h' => by cases x <;> first | rfl | exact absurd rfl (h _) | exact absurd rfl (h' _))
theorem so_ife {c a b : M} (hc : So P C k c) (ha : So P C k a) (hb : So P C k b) : So P C k (.ife c a b) := .ofE (fun {X sn E} ok x h => by
  unfold okE okIfe at h
  split at h
  · rename_i e; cases e
    obtain ⟨h1, h2, h3⟩ := and3 h
    exact m_ife (hc.t ok h1).1 (ha.e ok h2) (hb.e ok h3)
  · cases h) (fun sn x h => by cases x <;> first | rfl | exact absurd rfl (h _))
theorem so_ix {a b : M} (ha : So P C k a) (hb : So P C k b) : So P C k (.ix a b) := .ofE (fun {X sn E} ok x h => by
  unfold okE okIx at h
  split at h
  · rename_i e; cases e
    obtain ⟨h1, h2, h3⟩ := and3 h
    exact m_ix ok.st.T ok.un (ha.e ok h1) (hb.e ok h2) (plainIx h3)
  · cases h) (fun sn x h => by cases x <;> first | rfl | exact absurd rfl (h _))
theorem so_idx {a : M} (ha : So P C k a) : So P C k (.idx a) where
  e := fun {X sn E} ok x h => by cases h
  o := fun {X sn E} ok x h => by
    cases x with
    | none => cases h
    | some e => exact mo_some (ha.e ok h)
  t := fun _ _ h => by cases h
  a := fun _ _ h => by cases h
  kw := fun _ _ h => by cases h
  p := fun _ _ _ _ h => by cases h
  p2 := fun _ _ _ _ _ h => by cases h
  one := fun _ _ h => by cases h
  two := fun _ _ _ h => by cases h
theorem so_sl {a lo hi : M} (ha : So P C k a) (hl : So P C k lo) (hh : So P C k hi) : So P C k (.sl a lo hi) := .ofE (fun {X sn E} ok x h => by
  unfold okE okSl at h
  split at h
  · rename_i e; cases e
    obtain ⟨h1, h2, h3⟩ := and3 h
    exact m_sl (ha.e ok h1) (hl.o ok h2) (hh.o ok h3)
  · cases h) (fun sn x h => by cases x <;> first | rfl | exact absurd rfl (h _))
theorem so_fld {a : M} (f : Nat) (ha : So P C k a) : So P C k (.fld a f) := .ofE (fun {X sn E} ok x h => by
  unfold okE okFld at h
  split at h
  · rename_i e; cases e
    obtain ⟨h1, h2, h3⟩ := and3 h
    have h1 := of_decide_eq_true h1
    exact m_fld h1 ok.st.T (fun c D hD => ok.st.fld c D f _ hD h1) (ha.e ok h2) (base_ok h3)
  · cases h) (fun sn x h => by cases x <;> first | rfl | exact absurd rfl (h _))
theorem so_tup {a : M} (ha : So P C k a) : So P C k (.tup a) := .ofE (fun {X sn E} ok x h => by
  unfold okE okTup at h
  split at h
  · rename_i e; cases e
    exact m_tup (ha.a ok h).1
  · cases h) (fun sn x h => by cases x <;> first | rfl | exact absurd rfl (h _))
theorem so_lst {a : M} (ha : So P C k a) : So P C k (.lst a) := .ofE (fun {X sn E} ok x h => by
  unfold okE okLst at h
  split at h
  · rename_i e; cases e
    exact m_lst (ha.a ok h).1
  · cases h) (fun sn x h => by cases x <;> first | rfl | exact absurd rfl (h _))
theorem so_slst {a : M} (ha : So P C k a) : So P C k (.slst a) := .ofE (fun {X sn E} ok x h => by
  unfold okE okLst at h
  split at h
  · rename_i e; cases e
    exact m_slst (ha.a ok h).1
  · cases h) (fun sn x h => by cases x <;> first | rfl | exact absurd rfl (h _))
theorem so_dct {a : M} (ha : So P C k a) : So P C k (.dct a) := .ofE (fun {X sn E} ok x h => by
  unfold okE okDct at h
  split at h
  · rename_i ks vs pos e; cases e
    obtain ⟨h1, h2⟩ := and2 h
    obtain ⟨g1, g2, g3, g4, g5⟩ := ha.p (pos := pos) ok h1
    by_cases hk : ks = []
    · have := g5 hk; subst this; subst hk
      have : vs = [] := List.length_eq_zero_iff.mp g4.symm
      subst this
      exact m_dnew
    · exact m_dct ok.st.T g2 g1 g3 g4 hk (of_decide_eq_true h2)
  · cases h) (fun sn x h => by cases x <;> first | rfl | exact absurd rfl (h _))
theorem so_nil : So P C k .nil where
  e := fun _ _ h => by cases h
  o := fun {X sn E} ok x h => by
    cases x with
    | none => exact mo_none
    | some e => cases h
  t := fun _ _ h => by cases h
  a := fun {X sn E} ok x h => by
    cases x with
    | nil => exact ⟨ma_nil, rfl, fun L env S S' l h => by cases h; rfl⟩
    | cons _ _ => cases h
  kw := fun {X sn E} ok x h => by
    cases x with
    | nil => exact ⟨mk_nil, fun L env S S' l h => by cases h; rfl⟩
    | cons _ _ => cases h
  p := fun {X sn E} ok ks vs pos h => by
    cases ks with
    | cons _ _ => cases h
    | nil => cases vs with
      | cons _ _ => cases h
      | nil => exact ⟨pps_nil, rfl, rfl, rfl, fun _ => rfl⟩
  p2 := fun _ _ _ _ _ h => by cases h
  one := fun _ _ h => by cases h
  two := fun _ _ _ h => by cases h
theorem cons_len {a b : M} {L : List Nat} {env : Env} {S S' : Sto} {l : List W} (h : ev C L (.cons a b) env S = .ok (.tup l) S') : ∃ w l' S1, l = w :: l' ∧ ev C L b env S1 = .ok (.tup l') S' := by
  simp only [ev] at h
  cases e1 : ev C L a env S with
  | ex _ _ _ => rw [e1] at h; cases h
  | bad => rw [e1] at h; cases h
  | ok w S1 =>
    rw [e1] at h
    simp only [Out.bind_ok] at h
    cases e2 : ev C L b env S1 with
    | ex _ _ _ => rw [e2] at h; cases h
    | bad => rw [e2] at h; cases h
    | ok y S2 =>
      rw [e2] at h
      simp only [Out.bind_ok] at h
      cases y <;> first | (cases h; done) | skip
      cases h
      exact ⟨w, _, S1, rfl, e2⟩
theorem isNil_eq {m : M} (h : m.isNil = true) : m = .nil := by cases m <;> first | rfl | cases h
theorem so_cons {a b : M} (ha : So P C k a) (hb : So P C k b) : So P C k (.cons a b) where
  e := fun _ _ h => by cases h
  o := fun _ _ h => by cases h
  t := fun _ _ h => by cases h
  a := fun {X sn E} ok x h => by
    cases x with
    | nil => cases h
    | cons e es =>
      obtain ⟨h1, h2, h3⟩ := and3 (show (noStar e && okE P a sn (.E e) && okE P b sn (.A es)) = true from h)
      obtain ⟨g1, g2, g3⟩ := hb.a ok h3
      refine ⟨ma_cons (ha.e ok h2) g1 (star_ok h1), by rw [List.all_cons, h1, g2]; rfl, fun L env S S' l h => ?_⟩
      obtain ⟨w, l', S1, rfl, h'⟩ := cons_len h
      exact congrArg Nat.succ (g3 _ _ _ _ _ h')
  kw := fun {X sn E} ok x h => by
    cases x with
    | nil => cases h
    | cons e es =>
      obtain ⟨nm, v, p⟩ := e
      obtain ⟨h2, h3⟩ := and2 (show (okE P a sn (.E v) && okE P b sn (.K es)) = true from h)
      obtain ⟨g1, g3⟩ := hb.kw ok h3
      refine ⟨mk_cons (ha.e ok h2) g1, fun L env S S' l h => ?_⟩
      obtain ⟨w, l', S1, rfl, h'⟩ := cons_len h
      exact congrArg Nat.succ (g3 _ _ _ _ _ h')
  p := fun {X sn E} ok ks vs pos h => by
    cases ks with
    | nil => cases h
    | cons q ks => cases q with
      | none => cases h
      | some e => cases vs with
        | nil => cases h
        | cons v vs =>
          obtain ⟨h2, h3⟩ := and2 (show (okE P a sn (.E e) && okE P b sn (.P2 v ks vs)) = true from h)
          obtain ⟨mv, r, rfl, g1, g2, g3, g4, g5⟩ := hb.p2 (pos := pos) ok h3
          exact ⟨pps_cons (ha.e ok h2) g1 g2, g3, g4, congrArg Nat.succ g5, fun z => by cases z⟩
  p2 := fun {X sn E} ok v ks vs pos h => by
    obtain ⟨h2, h3⟩ := and2 (show (okE P a sn (.E v) && okE P b sn (.P ks vs)) = true from h)
    obtain ⟨g1, g2, g3, g4, _⟩ := hb.p (pos := pos) ok h3
    exact ⟨a, b, rfl, ha.e ok h2, g1, g2, g3, g4⟩
  one := fun {X sn E} ok y h => by
    obtain ⟨h2, h3⟩ := and2 (show (okE P a sn (.E y) && b.isNil) = true from h)
    exact ⟨a, by rw [isNil_eq h3], ha.e ok h2⟩
  two := fun {X sn E} ok y z h => by
    obtain ⟨h2, h3⟩ := and2 (show (okE P a sn (.E y) && okE P b sn (.one z)) = true from h)
    obtain ⟨m', rfl, g⟩ := hb.one ok h3
    exact ⟨a, m', rfl, ha.e ok h2, g⟩
end
end
end Mi

/-! what the checker lets pass is so: calls, comprehensions -/
namespace Mi
open PySem PySem.Spec PyProof.Rows L2
noncomputable section
section
variable {P : Ck} {C : Ctx} {k : Nat}
theorem kw_back {pos : Pos} {env : PySem.Env} : ∀ {kws : List Keyword}, kws.all (·.arg.isSome) = true → (backToKw pos (keywordEach kws env)).all (·.1.isSome) = true ∧ (backToKw pos (keywordEach kws env)).filterMap (·.1) = kws.filterMap (·.arg) ∧ (backToKw pos (keywordEach kws env)).any (·.1.isNone) = false
  | [], _ => ⟨rfl, rfl, rfl⟩
  | ⟨nm, v, p⟩ :: kws, h => by
    rw [List.all_cons, Bool.and_eq_true] at h
    obtain ⟨h1, h2, h3⟩ := kw_back (pos := pos) (env := env) h.2
    have e : backToKw pos (keywordEach (⟨nm, v, p⟩ :: kws) env) = (nm, (do let v ← eval v env; standAt pos; pure v)) :: backToKw pos (keywordEach kws env) := rfl
    rw [e]
    refine ⟨?_, ?_, ?_⟩
    · rw [List.all_cons, h1]; simpa using h.1
    · simp only [List.filterMap_cons]
      rw [h2]
    · rw [List.any_cons, h3]
      have := h.1
      cases nm <;> first | rfl | cases this
theorem kw_len : ∀ {kws : List Keyword}, kws.all (·.arg.isSome) = true → (kws.filterMap (·.arg)).length = kws.length
  | [], _ => rfl
  | ⟨nm, v, p⟩ :: kws, h => by
    rw [List.all_cons, Bool.and_eq_true] at h
    have := h.1
    cases nm with
    | none => cases this
    | some n => exact congrArg Nat.succ (kw_len h.2)
theorem back_any {pos : Pos} {env : PySem.Env} {es : List Expr} (h : es.all noStar = true) : (backTo pos (starEach es env)).any (·.1) = false := back_ok h
theorem so_call (f : Nat) {a b : M} (ha : So P C k a) (hb : So P C k b) : So P C k (.call f a b) := .ofE (fun {X sn E} ok x h => by
  unfold okE okCall at h
  split at h
  · rename_i x p args kws pos e; cases e
    obtain ⟨h, h7⟩ := and2 h
    obtain ⟨h, h5, h6⟩ := and3 h
    obtain ⟨h, h3, h4⟩ := and3 h
    obtain ⟨h1, h2⟩ := and2 h
    have h1 := of_decide_eq_true h1
    have hf := ok.st.fns f _ _ _ h1
    obtain ⟨n1, n2, _⟩ := okn_ok h4
    obtain ⟨g1, g2, g3⟩ := ha.a ok h5
    obtain ⟨g4, g5⟩ := hb.kw ok h6
    obtain ⟨k1, k2, k3⟩ := kw_back (pos := pos) (env := X.env) h2
    cases args with
    | nil =>
      cases kws with
      | cons kw kws =>
        have ea := isNil_eq (show a.isNil = true by simpa using h7)
        subst ea
        exact m_callK0 hf ok.room (ok.gl h3) ok.pas g4 (fun L env S S' l hl => by rw [g5 L env S S' l hl, kw_len h2]) k1 k2 n1 (by rw [k3]; rfl)
      | nil =>
      have h7' : (a.isNil && b.isNil) = true := by simpa using h7
      obtain ⟨ea, eb⟩ := and2 h7'
      have ea := isNil_eq ea
      have eb := isNil_eq eb
      subst ea; subst eb
      exact m_call0 hf ok.room (ok.gl h3) ok.pas n1
    | cons e es =>
      have hs := star_ok (env := X.env) (es := es) (by rw [List.all_cons, Bool.and_eq_true] at g2; exact g2.1)
      exact m_call hf ok.room (ok.gl h3) ok.pas g1 g4 g3 (fun L env S S' l hl => by rw [g5 L env S S' l hl, kw_len h2]) k1 k2 n1 hs (by rw [back_any g2, k3]; rfl)
  · cases h) (fun sn x h => by cases x <;> first | rfl | exact absurd rfl (h _))
theorem biN {X : Cx} {sn : Sn} {E : XK} (ok : CxOk P C k X sn E) {a : M} (ha : So P C k a) {nm : PySem.Str} {x : Expr} (h : okBiN nm (okE P a) sn (.E x) = true) (hb : nm ∈ bNames) :
    ∃ p e es pos, x = .Call (.Name nm p) (e :: es) [] pos ∧ Gl X nm ∧ X.mg nm = none ∧ PA X (e :: es) (tA P.T C X.K E a) ∧ starEach (e :: es) X.env = (false, eval e X.env) :: starEach es X.env ∧ (backTo pos (starEach es X.env)).any (·.1) = false := by
  unfold okBiN at h
  split at h
  · rename_i e; cases e
    obtain ⟨h1, h2, h3⟩ := and3 h
    have := of_decide_eq_true h1; subst this
    obtain ⟨g1, g2, g3⟩ := ha.a ok h3
    rw [List.all_cons, Bool.and_eq_true] at g2
    exact ⟨_, _, _, _, rfl, ok.gl h2, ok.bl hb, g1, star_ok g2.1, back_any g2.2⟩
  · cases h
theorem isiN {X : Cx} {sn : Sn} {E : XK} (ok : CxOk P C k X sn E) {a : M} (ha : So P C k a) {nm : PySem.Str} {x : Expr} {bi : Bi} {ty : String} (h : okIsi nm (okE P a) sn (.E x) = true) (hbi : ∀ S l, biW S bi l = one (isTyW ty) l) (hk : ∀ s ∈ ["NoneType", "bool", "int", "str", "tuple", "list"], kitB s ty = some (s == ty || (s == "bool" && ty == "int")))
    (hb : nm ∈ bNames) (hv : bootBuiltins nm = some (.type ty)) (hn : nm ≠ "__name__") (hdb : (nm == ("__debug__" : PySem.Str)) = false) : PE X x (tI P.T C X.K E (.bi bi a)) := by
  unfold okIsi at h
  split at h
  · rename_i e; cases e
    obtain ⟨h, h6⟩ := and2 h
    obtain ⟨h, h4, h5⟩ := and3 h
    obtain ⟨h1, h2, h3⟩ := and3 h
    have := of_decide_eq_true h1; subst this
    have := of_decide_eq_true h2; subst this
    obtain ⟨m', rfl, g⟩ := ha.one ok h6
    exact m_isi hbi hk rfl (ok.gl h3) (ok.bl (by decide)) (ok.gl h4) (ok.bl hb) hv hn hdb g (star_ok h5)
  · cases h
theorem so_bi (b : Bi) {a : M} (ha : So P C k a) : So P C k (.bi b a) := .ofE (fun {X sn E} ok x h => by
  unfold okE okBi at h
  cases b with
  | minD =>
    simp only at h
    unfold okMinD at h
    split at h
    · rename_i e; cases e
      obtain ⟨h, h4, h5⟩ := and3 h
      obtain ⟨h1, h2, h3⟩ := and3 h
      have := of_decide_eq_true h1; subst this
      have := of_decide_eq_true h2; subst this
      obtain ⟨m', rfl, g⟩ := ha.one ok h5
      exact m_minD ok.un ok.room.hd (ok.gl h3) (ok.bl (by decide)) g (star_ok h4)
    · cases h
  | setLen =>
    simp only at h
    unfold okSetLen at h
    split at h
    · rename_i e; cases e
      obtain ⟨h, h5, h6⟩ := and3 h
      obtain ⟨h, h3, h4⟩ := and3 h
      obtain ⟨h1, h2⟩ := and2 h
      have := of_decide_eq_true h1; subst this
      have := of_decide_eq_true h2; subst this
      obtain ⟨m', rfl, g⟩ := ha.one ok h6
      exact m_lset ok.calm (ok.gl h3) (ok.bl (by decide)) (ok.gl h4) (ok.bl (by decide)) g (star_ok h5)
    · cases h
  | lrng =>
    simp only at h
    unfold okLrng at h
    split at h
    · rename_i e; cases e
      obtain ⟨h, h6, h7⟩ := and3 h
      obtain ⟨h, h4, h5⟩ := and3 h
      obtain ⟨h1, h2, h3⟩ := and3 h
      have := of_decide_eq_true h1; subst this
      have := of_decide_eq_true h2; subst this
      obtain ⟨m', m'', rfl, g1, g2⟩ := ha.two ok h7
      exact m_lrng ok.calm (ok.gl h3) (ok.bl (by decide)) (ok.gl h4) (ok.bl (by decide)) g1 g2 (star_ok h5) (star_ok h6) (back_any (by rw [List.all_cons, h6]; rfl))
    · cases h
  | isTup => exact isiN ok ha h (fun _ _ => rfl) (by decide +kernel) (by decide) (by decide +kernel) (by decide) (by decide)
  | isInt => exact isiN ok ha h (fun _ _ => rfl) (by decide +kernel) (by decide) (by decide +kernel) (by decide) (by decide)
  | isBool => exact isiN ok ha h (fun _ _ => rfl) (by decide +kernel) (by decide) (by decide +kernel) (by decide) (by decide)
  | len => obtain ⟨p, e, es, pos, rfl, g1, g2, g3, g4, g5⟩ := biN ok ha h (by decide); exact m_biB cb_len g1 g2 (by decide +kernel) g3 (by decide) (by decide) g4 g5
  | max2 => obtain ⟨p, e, es, pos, rfl, g1, g2, g3, g4, g5⟩ := biN ok ha h (by decide); exact m_biB (cb_max2 ok.calm) g1 g2 (by decide +kernel) g3 (by decide) (by decide) g4 g5
  | min2 => obtain ⟨p, e, es, pos, rfl, g1, g2, g3, g4, g5⟩ := biN ok ha h (by decide); exact m_biB (cb_min2 ok.calm) g1 g2 (by decide +kernel) g3 (by decide) (by decide) g4 g5
  | any => obtain ⟨p, e, es, pos, rfl, g1, g2, g3, g4, g5⟩ := biN ok ha h (by decide); exact m_biB (cb_any ok.calm) g1 g2 (by decide +kernel) g3 (by decide) (by decide) g4 g5
  | all => obtain ⟨p, e, es, pos, rfl, g1, g2, g3, g4, g5⟩ := biN ok ha h (by decide); exact m_biB (cb_all ok.calm) g1 g2 (by decide +kernel) g3 (by decide) (by decide) g4 g5
  | sum => obtain ⟨p, e, es, pos, rfl, g1, g2, g3, g4, g5⟩ := biN ok ha h (by decide); exact m_biB (cb_sum ok.calm) g1 g2 (by decide +kernel) g3 (by decide) (by decide) g4 g5
  | tuple => obtain ⟨p, e, es, pos, rfl, g1, g2, g3, g4, g5⟩ := biN ok ha h (by decide); exact m_biT cb_tuple g1 g2 (by decide +kernel) g3 (by decide) (by decide) g4 g5
  | list => obtain ⟨p, e, es, pos, rfl, g1, g2, g3, g4, g5⟩ := biN ok ha h (by decide); exact m_biT cb_list g1 g2 (by decide +kernel) g3 (by decide) (by decide) g4 g5
  | _ => cases h) (fun sn x h => by cases b <;> (cases x <;> first | rfl | exact absurd rfl (h _)))
theorem so_mt (m : Mt) {o a : M} (ho : So P C k o) (ha : So P C k a) : So P C k (.mt m o a) := .ofE (fun {X sn E} ok x h => by
  unfold okE okMt at h
  cases m with
  | append =>
    simp only at h
    unfold okApp at h
    split at h
    · rename_i e; cases e
      obtain ⟨h, h5, h6⟩ := and3 h
      obtain ⟨h, h3, h4⟩ := and3 h
      obtain ⟨h1, h2⟩ := and2 h
      have := of_decide_eq_true h1; subst this
      obtain ⟨m', rfl, g⟩ := ha.one ok h3
      refine m_app (ho.e ok h2) g (base_ok h4) ?_ h6 (star_ok h5)
      rw [star_ok h5]; rfl
    · cases h
  | get2 =>
    simp only at h
    unfold okGet2 at h
    split at h
    · rename_i e; cases e
      obtain ⟨h, h6, h7⟩ := and3 h
      obtain ⟨h, h4, h5⟩ := and3 h
      obtain ⟨h1, h2, h3⟩ := and3 h
      have := of_decide_eq_true h1; subst this
      obtain ⟨m', m'', rfl, g1, g2⟩ := ha.two ok h3
      have hs : ∀ {e f : Expr}, noStar e = true → noStar f = true → starEach [e, f] X.env = [(false, eval e X.env), (false, eval f X.env)] := fun h h' => by rw [star_ok h, star_ok h']; rfl
      exact m_get2 ok.st.T ok.un (ho.e ok h2) g1 g2 ⟨base_ok h4, by rw [hs h5 h6]; rfl, h7, by rw [hs h5 h6]; rfl⟩
    · cases h
  | _ => cases h) (fun sn x h => by cases m <;> (cases x <;> first | rfl | exact absurd rfl (h _)))
/-! ### comprehensions -/
theorem own_map {own : List Nat} : (mkOwn P own).map (·.2) = own := by
  unfold mkOwn; rw [List.map_map]; exact List.map_id' own
theorem isYes_eq {c : M} (h : isYes c = true) : c = .cst (.bl true) := by
  unfold isYes at h
  split at h
  · rfl
  · cases h
theorem ifs_ok {X : Cx} {sn : Sn} {E : XK} (ok : CxOk P C k X sn E) {c : M} (hc : So P C k c) {ifs : List Expr} (h : okIfs (okE P c) (isYes c) sn ifs = true) : PTs X ifs (tT P.T C X.K E c) := by
  unfold okIfs at h
  split at h
  · have := isYes_eq h; subst this
    exact ⟨fun pins s σ H Q I ⟨L, F, μ, S, env, sr, er, h⟩ => pts_nil.run pins s σ H Q I (h F μ H true .refl sr rfl)⟩
  · exact pts_one (hc.t ok h).1
  · cases h
theorem lc_parts {X : Cx} {sn : Sn} {E : XK} (ok : CxOk P C k X sn E) {kk : IK} {it c el : M} {tg : Tg} {own : List Nat} (hi : So P C k it) (hc : So P C k c) (he : So P C k el) {t iter elt : Expr} {ifs : List Expr} {as : Int} {scope : Scope}
    (h : (decide (as = 0) && okIw sn (fun e => okE P it sn (.E e)) (fun es => okE P it sn (.A es)) kk t iter && blkC P.N sn.sc scope (mkOwn P own) && tg.names.all (fun i => decide (i ∈ own)) && okG P (sn.blk scope) tg t && okIfs (okE P c) (isYes c) (sn.blk scope) ifs && okE P el (sn.blk scope) (.E elt) && notSet iter) = true) :
    as = 0 ∧ PI X t iter (tIt P.T C X.K E kk it) ∧ BlkOk X.N X.env.scope scope (mkOwn P own) ∧ (∀ i ∈ tg.names, i ∈ (mkOwn P own).map (·.2)) ∧
    (∀ (s : Shared) (H : Hp) (C' : Addr) (cl : List (PySem.Str × Addr)) (fp : List Addr), PG (X.blk s H scope (compEnvC scope cl C' X.env) fp) t (gT P.T X.K tg)) ∧
    (∀ (s : Shared) (H : Hp) (C' : Addr) (cl : List (PySem.Str × Addr)) (fp : List Addr), PTs (X.blk s H scope (compEnvC scope cl C' X.env) fp) ifs (tT P.T C X.K E0 c)) ∧
    (∀ (s : Shared) (H : Hp) (C' : Addr) (cl : List (PySem.Str × Addr)) (fp : List Addr), PE (X.blk s H scope (compEnvC scope cl C' X.env) fp) elt (tI P.T C X.K E0 el)) ∧ ∀ x, foldedSetIterable iter X.env x = pure x := by
  obtain ⟨h, h7, h8⟩ := and3 h
  obtain ⟨h, h5, h6⟩ := and3 h
  obtain ⟨h, h3, h4⟩ := and3 h
  obtain ⟨h1, h2⟩ := and2 h
  refine ⟨of_decide_eq_true h1, it_ok ok (fun e he => hi.e ok he) (fun es he => ⟨(hi.a ok he).1, (hi.a ok he).2.1⟩) h2, ?_, ?_, ?_, ?_, ?_, fun x => set_ok h8 x⟩
  · rw [ok.N, ok.scope]; exact blkOk_by h3
  · rw [own_map]; exact fun i hi => of_decide_eq_true (List.all_eq_true.mp h4 i hi)
  · exact fun s H C' cl fp => (g_ok tg).1 (ok.blk s H scope C' cl fp) _ h5
  · exact fun s H C' cl fp => ifs_ok (ok.blk s H scope C' cl fp) hc h6
  · exact fun s H C' cl fp => he.e (ok.blk s H scope C' cl fp) h7
theorem so_lc (kk : IK) (tg : Tg) (own : List Nat) {it c el : M} (hi : So P C k it) (hc : So P C k c) (he : So P C k el) : So P C k (.lc kk it tg own c el) := .ofE (fun {X sn E} ok x h => by
  unfold okE okLc at h
  split at h
  · rename_i e; cases e
    obtain ⟨rfl, g1, g2, g3, g4, g5, g6, g7⟩ := lc_parts ok hi hc he h
    have := m_lc (pos := ‹Pos›) ok.calm (by rw [ok.N]; exact ok.st.nd) g1 g2 g3 g4 g5 g6 g7
    rw [own_map] at this
    exact this
  · cases h) (fun sn x h => by cases x <;> first | rfl | exact absurd rfl (h _))
theorem lc2_parts {X : Cx} {sn : Sn} {E : XK} (ok : CxOk P C k X sn E) {k1 : IK} {it1 c1 : M} {tg1 : Tg} {own own1 : List Nat} (hi1 : So P C k it1) (hc1 : So P C k c1) {t1 iter1 : Expr} {ifs1 : List Expr} {as1 : Int} {scope : Scope}
    (h : (decide (as1 = 0) && okIw (sn.blk scope) (fun e => okE P it1 (sn.blk scope) (.E e)) (fun es => okE P it1 (sn.blk scope) (.A es)) k1 t1 iter1 && own1.all (fun i => decide (i ∈ own)) && tg1.names.all (fun i => decide (i ∈ own1)) && okG P (sn.blk scope) tg1 t1 && okIfs (okE P c1) (isYes c1) (sn.blk scope) ifs1 && notSet iter1) = true) :
    as1 = 0 ∧ (∀ (s : Shared) (H : Hp) (C' : Addr) (cl : List (PySem.Str × Addr)) (fp : List Addr), PI (X.blk s H scope (compEnvC scope cl C' X.env) fp) t1 iter1 (tIt P.T C X.K E0 k1 it1)) ∧ (∀ i ∈ own1, i ∈ (mkOwn P own).map (·.2)) ∧ (∀ i ∈ tg1.names, i ∈ own1) ∧
    (∀ (s : Shared) (H : Hp) (C' : Addr) (cl : List (PySem.Str × Addr)) (fp : List Addr), PG (X.blk s H scope (compEnvC scope cl C' X.env) fp) t1 (gT P.T X.K tg1)) ∧
    (∀ (s : Shared) (H : Hp) (C' : Addr) (cl : List (PySem.Str × Addr)) (fp : List Addr), PTs (X.blk s H scope (compEnvC scope cl C' X.env) fp) ifs1 (tT P.T C X.K E0 c1)) ∧ ∀ env x, foldedSetIterable iter1 env x = pure x := by
  obtain ⟨h, h6, h7⟩ := and3 h
  obtain ⟨h, h4, h5⟩ := and3 h
  obtain ⟨h1, h2, h3⟩ := and3 h
  refine ⟨of_decide_eq_true h1, ?_, ?_, ?_, ?_, ?_, fun env x => set_ok h7 x⟩
  · exact fun s H C' cl fp => it_ok (ok.blk s H scope C' cl fp) (fun e he => hi1.e (ok.blk s H scope C' cl fp) he) (fun es he => ⟨(hi1.a (ok.blk s H scope C' cl fp) he).1, (hi1.a (ok.blk s H scope C' cl fp) he).2.1⟩) h2
  · rw [own_map]; exact fun i hi => of_decide_eq_true (List.all_eq_true.mp h3 i hi)
  · exact fun i hi => of_decide_eq_true (List.all_eq_true.mp h4 i hi)
  · exact fun s H C' cl fp => (g_ok tg1).1 (ok.blk s H scope C' cl fp) _ h5
  · exact fun s H C' cl fp => ifs_ok (ok.blk s H scope C' cl fp) hc1 h6
theorem so_lc2 (kk k1 : IK) (tg tg1 : Tg) (own own1 : List Nat) {it c it1 c1 el : M} (hi : So P C k it) (hc : So P C k c) (hi1 : So P C k it1) (hc1 : So P C k c1) (he : So P C k el) : So P C k (.lc2 kk it tg own c k1 it1 tg1 own1 c1 el) := .ofE (fun {X sn E} ok x h => by
  unfold okE okLc2 at h
  split at h
  · rename_i e; cases e
    obtain ⟨h, h'⟩ := and2 h
    obtain ⟨rfl, g1, g2, g3, g4, g5, g6, g7⟩ := lc_parts ok hi hc he h
    obtain ⟨rfl, q1, q2, q3, q4, q5, q6⟩ := lc2_parts (own := own) ok hi1 hc1 h'
    have := (pe_lc2 (pos := ‹Pos›) ok.calm (by rw [ok.N]; exact ok.st.nd) g1 g2 q2 g4 g5 q1 q4 q5 g6 g7 q6).imp (t' := tI P.T C X.K E (.lc2 kk it tg ((mkOwn P own).map (·.2)) c k1 it1 tg1 own1 c1 el)) fun σ H Q h => tLc2_of g3 q3 h
    rw [own_map] at this
    exact this
  · cases h) (fun sn x h => by cases x <;> first | rfl | exact absurd rfl (h _))
theorem lamS_ok {y : PySem.Str} {sc : Scope} (h : lamB y sc = true) : FnScope [y] [y] sc := by
  unfold lamB at h
  obtain ⟨h, h4, h5⟩ := and3 h
  obtain ⟨h1, h2, h3⟩ := and3 h
  rw [Bool.or_eq_true] at h4
  exact ⟨of_decide_eq_true h1, by simpa using h2, by simpa using h3, by simp, rfl, fun x hx => by
    have : x = y := by simpa using hx
    subst this
    rcases h4 with h4 | h4
    · exact .inl (of_decide_eq_true h4)
    · exact .inr (of_decide_eq_true h4), fun q hq => by simpa using List.all_eq_true.mp h5 q hq⟩
theorem oneArg_eq {p : Arguments} {y : PySem.Str} (h : oneArg p = some y) : ∃ a : Arg, p = ⟨[], [a], none, [], [], none, []⟩ ∧ y = a.arg := by
  unfold oneArg at h
  split at h
  · exact ⟨_, rfl, (Option.some.inj h).symm⟩
  · cases h
theorem one_binds (a : Arg) (body : Expr) (scope : Scope) (q : PySem.Str) (pm cv ctv u : Value) : bindArgs (PySem.W.kla_fn "<lambda>" q ⟨[], [a], none, [], [], none, []⟩ body scope [] pm cv ctv) ⟨[u], []⟩ = pure [(a.arg, u)] := by
  unfold bindArgs
  simp [seqItems?]
  rfl
theorem lam_cx {P' : Ck} {k' : Nat} {prog : Program} {w : World} {K : PySem.W.Frag} {mg : PySem.Str → Option Value} {base : Heap} {scope : Scope} {q : PySem.Str} {f c' : Addr} {A : Around} {outer : List PySem.Env} {s : Shared} {H : Hp} (st : Stat P' C prog w K mg base k') (hl : P'.lam = false) (hr : Room k' (A.deeper (envOfC q scope s.heap.objs.size f (.ref c')))) :
    CxOk P' C k' (cxOf (L2.CX prog w) prog w K mg base P'.N q scope f (.ref c') A outer s H EF) ⟨scope, fun _ => true⟩ EF := by
  have tk : Takes (cxOf (L2.CX prog w) prog w K mg base P'.N q scope f (.ref c') A outer s H EF) (fun cls d _ H => EF cls d H) := takes_of rfl rfl rfl rfl
  exact ⟨st, rfl, rfl, rfl, hr.units, hr, passes_call tk fun _ _ _ _ h => h, fun _ _ => rfl, fun z => by rw [hl] at z; cases z⟩
theorem so_srt {it e : M} (hi : So P C k it) (he : ∀ {P : Ck} {C : Ctx} {k : Nat}, So P C k e) : So P C k (.srt it e) := .ofE (fun {X sn E} ok x h => by
  unfold okE okSrt at h
  split at h
  · rename_i e; cases e
    obtain ⟨h, h6, h7⟩ := and3 h
    obtain ⟨h, h4, h5⟩ := and3 h
    obtain ⟨h1, h2, h3⟩ := and3 h
    have := of_decide_eq_true h2; subst this
    have := of_decide_eq_true h3; subst this
    split at h7
    · rename_i y hy
      obtain ⟨h8, h9⟩ := and2 h7
      obtain ⟨c, Pa, l1, l2, l3, l4⟩ := ok.lam h1
      obtain ⟨k', hk', hF⟩ := ok.st.lam h1
      obtain ⟨a, hp, ha⟩ := oneArg_eq hy
      subst hp; subst ha
      have S := lamS_ok h8
      refine m_srt (k := k') (ok.gl h4) (ok.bl (by decide)) (hi.e ok h6) ok.st.T ok.un ok.st.dat l2 l1 l3 l4 (ok.room.mono hk') S rfl (fun _ _ _ _ _ => one_binds _ _ _ _ _ _ _ _) (fun A outer s H f c' q hr => ?_) (star_ok h5)
      have st' : Stat (P.inL a.arg) C X.prog X.w X.K X.mg X.base k' := ⟨ok.st.T, by simp [Ck.inL], ok.st.blt, ok.st.cons, hF, ok.st.dat, fun z => by simp [Ck.inL] at z, ok.st.fld⟩
      exact he.e (lam_cx st' rfl hr) h9
    · cases h7
  · cases h) (fun sn x h => by cases x <;> first | rfl | exact absurd rfl (h _))
theorem so_all : ∀ (m : M) {P : Ck} {C : Ctx} {k : Nat}, So P C k m := by
  intro m
  induction m with
  | var i => intro P C k; exact so_var i
  | cst w => intro P C k; exact so_cst w
  | con i => intro P C k; exact so_con i
  | nil => intro P C k; exact so_nil
  | cons a b ha hb => intro P C k; exact so_cons ha hb
  | tup a ha => intro P C k; exact so_tup ha
  | lst a ha => intro P C k; exact so_lst ha
  | slst a ha => intro P C k; exact so_slst ha
  | dct a ha => intro P C k; exact so_dct ha
  | bin o a b ha hb => intro P C k; exact so_bin o ha hb
  | cmp o a b ha hb => intro P C k; exact so_cmp o ha hb
  | chn o o' a b c ha hb hc => intro P C k; exact so_chn o o' ha hb hc
  | and a b ha hb => intro P C k; exact so_and ha hb
  | or a b ha hb => intro P C k; exact so_or ha hb
  | not a ha => intro P C k; exact so_not ha
  | tr a ha => intro P C k; exact so_tr ha
  | ife c a b hc ha hb => intro P C k; exact so_ife hc ha hb
  | ix a b ha hb => intro P C k; exact so_ix ha hb
  | sl a lo hi ha hl hh => intro P C k; exact so_sl ha hl hh
  | idx a ha => intro P C k; exact so_idx ha
  | fld a f ha => intro P C k; exact so_fld f ha
  | call f a b ha hb => intro P C k; exact so_call f ha hb
  | srt it e hi he => intro P C k; exact so_srt hi @he
  | meth c f o a b _ _ _ => intro P C k; exact .ofE (fun _ _ h => by cases h) fun _ _ _ => rfl
  | bi b a ha => intro P C k; exact so_bi b ha
  | mt m o a ho ha => intro P C k; exact so_mt m ho ha
  | lc kk it tg own c e hi hc he => intro P C k; exact so_lc kk tg own hi hc he
  | lc2 kk it tg own c k1 it1 tg1 own1 c1 e hi hc hi1 hc1 he => intro P C k; exact so_lc2 kk k1 tg tg1 own own1 hi hc hi1 hc1 he
end
end
end Mi

/-! what the checker lets pass is so: statements -/
namespace Mi
open PySem PySem.Spec PyProof.Rows L2
noncomputable section
inductive Stx where
  | S (s : Stmt) | L (l : List Stmt)
abbrev ChkS := Sn → Stx → Bool
def isComp : Expr → Bool
  | .ListComp .. => true
  | .SetComp .. => true
  | .DictComp .. => true
  | _ => false
def isTl : Expr → Bool
  | .Tuple .. => true
  | .List .. => true
  | _ => false
def isTupE : Expr → Bool
  | .Tuple .. => true
  | _ => false
def okSkip : ChkS := fun _ x => match x with
  | .L [] => true
  | .S (.Pass _) => true
  | _ => false
def okSeq (a b : ChkS) : ChkS := fun sn x => match x with
  | .L (s :: ss) => a sn (.S s) && b sn (.L ss)
  | _ => false
/-- of a comprehension told to a name: stored by the exchanged road -/
def setLcB (sn : Sn) (tg e : Expr) : Bool := match tg, e with
  | .Name y py, .ListComp _ _ scope pos => decide (sn.sc.kind = .function) && decide (sn.sc.names.lookup y = some .local) && (py.line == pos.line) && !(scope.names.any fun (n, k) => n == y && (k == .local || k == .cell))
  | _, _ => false
def asgCellB (sn : Sn) (tg e : Expr) : Bool := match tg, e with
  | .Name y _, .ListComp _ _ _ _ => decide (sn.sc.names.lookup y = some .cell)
  | _, _ => false
def okPar (P : Ck) (i j : Nat) (m : M) : ChkS := fun sn x => match x with
  | .S (.Assign [.Tuple [.Name x px, .Name y py] _ _] (.Tuple [a, b] _ _) _) => decide (P.N[i]? = some x) && decide (P.N[j]? = some y) && decide (i ≠ j) && okE P m sn (.A [a, b]) && decide (sn.sc.kind = .function) && decide (sn.sc.names.lookup x = some .local) && decide (sn.sc.names.lookup y = some .local) && !(x == y) && (py.line == px.line) && !(foldedForSure 8 a && foldedForSure 8 b) && !(constantsAlone 8 a && constantsAlone 8 b)
  | _ => false
def parB (sn : Sn) (tg e : Expr) : Bool := match tg, e with
  | .Tuple [.Name x px, .Name y py] _ _, .Tuple [a, b] _ _ => decide (sn.sc.kind = .function) && decide (sn.sc.names.lookup x = some .local) && decide (sn.sc.names.lookup y = some .local) && !decide (x = y) && (py.line == px.line) && noStar a && noStar b && !(foldedForSure 8 a && foldedForSure 8 b) && !(constantsAlone 8 a && constantsAlone 8 b)
  | _, _ => false
/-- targets that are not all names of the def's own on one row -/
def nameLocal (sc : Scope) (line : Nat) : Expr → Bool
  | .Name id pos => (sc.names.lookup id == some .local) && pos.line == line
  | _ => false
def farB (sn : Sn) (tg e : Expr) : Bool := match tg, e with
  | .Tuple (t :: ts) _ _, .Tuple _ _ _ => !((t :: ts).all (nameLocal sn.sc t.pos.line))
  | _, _ => false
theorem loc_len {env : PySem.Env} {line : Nat} : ∀ {ts : List Expr}, ts.all (nameLocal env.scope line) = false → (ts.filterMap fun
    | .Name id pos => if env.kindOf id == some .local && pos.line == line then some id else none
    | _ => none).length < ts.length
  | [], h => by cases h
  | t :: ts, h => by
    rw [List.all_cons] at h
    have le : ∀ l : List Expr, (l.filterMap fun
        | .Name id pos => if env.kindOf id == some .local && pos.line == line then some id else none
        | _ => none).length ≤ l.length := fun l => List.length_filterMap_le _ _
    cases ht : nameLocal env.scope line t with
    | true =>
      rw [ht, Bool.true_and] at h
      have := loc_len h
      rw [List.filterMap_cons]
      split
      · exact Nat.lt_succ_of_lt this
      · exact Nat.succ_lt_succ this
    | false =>
      have : (match t with
        | .Name id pos => if env.kindOf id == some .local && pos.line == line then some id else none
        | _ => none) = none := by
        cases t <;> first | rfl | skip
        rename_i id pos
        show (if env.kindOf id == some .local && pos.line == line then some id else none) = none
        rw [show (env.kindOf id == some .local && pos.line == line) = false from ht]; rfl
      rw [List.filterMap_cons, this]
      exact Nat.lt_succ_of_le (le ts)
theorem far_none {sn : Sn} {tg e : Expr} {env : PySem.Env} (hs : env.scope = sn.sc) (h : farB sn tg e = true) : swappedStores [tg] e env = pure none := by
  unfold farB at h
  split at h
  · rename_i t ts k p vs k2 p2
    have hl := loc_len (env := env) (line := t.pos.line) (ts := t :: ts) (by rw [hs]; rw [Bool.not_eq_true'] at h; exact h)
    unfold swappedStores
    simp only [List.head?_cons, Option.map_some, Option.getD_some]
    split
    · rfl
    · split
      · rfl
      · have hb := bne_iff_ne.mpr (Nat.ne_of_lt hl)
        exact if_pos (by rw [Bool.or_eq_true]; exact .inl hb)
  · cases h
def asgB (sn : Sn) (tg e : Expr) : Bool := (!isComp e && !(isTl tg && isTupE e)) || setLcB sn tg e || asgCellB sn tg e || (!isComp e && farB sn tg e)
def okAsg (P : Ck) (t : Tg) (m : M) : ChkS := fun sn x => match x with
  | .S (.Assign [tg] e _) => okG P sn t tg && okE P m sn (.E e) && noStar tg && asgB sn tg e
  | _ => false
def okAug (P : Ck) (i : Nat) (m : M) : ChkS := fun sn x => match x with
  | .S (.AugAssign (.Name x _) .Add e _) => decide (P.N[i]? = some x) && stor sn x && okE P m sn (.E e)
  | _ => false
def okSetIx (P : Ck) (o i v : M) : ChkS := fun sn x => match x with
  | .S (.Assign [.Subscript x y _] e _) => okE P o sn (.E x) && okE P i sn (.E y) && okE P v sn (.E e) && noSl y
  | _ => false
def okSetFld (P : Ck) (o : M) (f : Nat) (v : M) : ChkS := fun sn x => match x with
  | .S (.Assign [.Attribute x s _] e _) => decide (P.T.ats[f]? = some s) && okE P o sn (.E x) && okE P v sn (.E e)
  | _ => false
def okEx (P : Ck) (m : M) : ChkS := fun sn x => match x with
  | .S (.Expr e _) => okE P m sn (.E e) && !isComp e
  | _ => false
def isNon : M → Bool
  | .cst .non => true
  | _ => false
def okRet (P : Ck) (m : M) : ChkS := fun sn x => match x with
  | .S (.Return (some e) _) => okE P m sn (.E e)
  | .S (.Return none _) => isNon m
  | _ => false
def okIfS (P : Ck) (c : M) (a b : ChkS) : ChkS := fun sn x => match x with
  | .S (.If t x y _) => okE P c sn (.T t) && a sn (.L x) && b sn (.L y)
  | _ => false
def okFor (P : Ck) (k : IK) (it : M) (t : Tg) (b : ChkS) : ChkS := fun sn x => match x with
  | .S (.For tg iter body [] _) => okIw sn (fun e => okE P it sn (.E e)) (fun es => okE P it sn (.A es)) k tg iter && okG P sn t tg && b sn (.L body) && notSet iter
  | _ => false
def okWhl (P : Ck) (c : M) (b : ChkS) : ChkS := fun sn x => match x with
  | .S (.While t body [] _) => okE P c sn (.T t) && b sn (.L body)
  | _ => false
def okCont : ChkS := fun _ x => match x with
  | .S (.Continue _) => true
  | _ => false
def okBrk : ChkS := fun _ x => match x with
  | .S (.Break _) => true
  | _ => false
def okS (P : Ck) : MS → ChkS
  | .skip => okSkip
  | .seq a b => okSeq (okS P a) (okS P b)
  | .asg t e => okAsg P t e
  | .aug i e => okAug P i e
  | .setIx o i v => okSetIx P o i v
  | .setFld o f v => okSetFld P o f v
  | .ex e => okEx P e
  | .ret e => okRet P e
  | .ife c a b => okIfS P c (okS P a) (okS P b)
  | .for_ k it t b => okFor P k it t (okS P b)
  | .whl c b => okWhl P c (okS P b)
  | .par i j m => okPar P i j m
  | .rse _ => fun _ _ => false
  | .rseA _ _ => fun _ _ => false
  | .cont => okCont
  | .brk => okBrk
section
variable {P : Ck} {C : Ctx} {k : Nat} {N : Nat}
structure SoS (P : Ck) (C : Ctx) (k N : Nat) (m : MS) : Prop where
  s : ∀ {X : Cx} {sn : Sn} {E : XK}, CxOk P C k X sn E → PassesOwn (model X.prog X.w) X.A X.env X.xe → ∀ {x : Stmt}, okS P m sn (.S x) = true → PS X x (tS P.T C X.K E N m)
  l : ∀ {X : Cx} {sn : Sn} {E : XK}, CxOk P C k X sn E → PassesOwn (model X.prog X.w) X.A X.env X.xe → ∀ {x : List Stmt}, okS P m sn (.L x) = true → PSs X x (tS P.T C X.K E N m)
theorem SoS.ofS {m : MS} (hs : ∀ {X : Cx} {sn : Sn} {E : XK}, CxOk P C k X sn E → PassesOwn (model X.prog X.w) X.A X.env X.xe → ∀ {x : Stmt}, okS P m sn (.S x) = true → PS X x (tS P.T C X.K E N m)) (hl : ∀ sn x, okS P m sn (.L x) = false) : SoS P C k N m where
  s := hs
  l := fun _ _ _ h => by rw [hl] at h; cases h
theorem sw_false {e tg : Expr} {l : Nat} {env : PySem.Env} (h : isComp e = false) : swapsWithSole [tg] e l env = pure false := by
  cases e <;> first | rfl | cases h
theorem sw_none {e : Expr} {l : Nat} {env : PySem.Env} (h : isComp e = false) : swapsWith e none l env = pure false := by
  cases e <;> first | rfl | cases h
theorem ss_none {e tg : Expr} {env : PySem.Env} (h : (isTl tg && isTupE e) = false) : swappedStores [tg] e env = pure none := by
  cases tg <;> first | rfl | (cases e <;> first | rfl | cases h)
theorem so_skip : SoS P C k N .skip where
  s := fun {X sn E} ok hp x h => by
    unfold okS okSkip at h
    split at h
    · rename_i e; cases e
    · rename_i e; cases e; exact s_skip
    · cases h
  l := fun {X sn E} ok hp x h => by
    cases x with
    | nil => exact s_nil
    | cons _ _ => cases h
theorem so_seq {a b : MS} (ha : SoS P C k N a) (hb : SoS P C k N b) : SoS P C k N (.seq a b) where
  s := fun {X sn E} ok hp x h => by cases h
  l := fun {X sn E} ok hp x h => by
    cases x with
    | nil => cases h
    | cons s ss =>
      obtain ⟨h1, h2⟩ := and2 (show (okS P a sn (.S s) && okS P b sn (.L ss)) = true from h)
      exact s_cons (ha.s ok hp h1) (hb.l ok hp h2)
theorem lc_only {sn : Sn} {m : M} {elt : Expr} {gens : List Comprehension} {scope : Scope} {pos : Pos} (h : okE P m sn (.E (.ListComp elt gens scope pos)) = true) :
    (∃ kk it tg own c el, m = .lc kk it tg own c el) ∨ ∃ kk it tg own c k1 it1 tg1 own1 c1 el, m = .lc2 kk it tg own c k1 it1 tg1 own1 c1 el := by
  cases m with
  | lc kk it tg own c el => exact .inl ⟨_, _, _, _, _, _, rfl⟩
  | lc2 kk it tg own c k1 it1 tg1 own1 c1 el => exact .inr ⟨_, _, _, _, _, _, _, _, _, _, _, rfl⟩
  | cst w => cases w <;> cases h
  | bi b a => cases b <;> cases h
  | mt m o a => cases m <;> cases h
  | _ => cases h
theorem so_asg (t : Tg) (m : M) : SoS P C k N (.asg t m) := .ofS (fun {X sn E} ok hp x h => by
  unfold okS okAsg at h
  split at h
  · rename_i tg e pos hx; cases hx
    obtain ⟨h, h3, h4⟩ := and3 h
    obtain ⟨h1, h2⟩ := and2 h
    have hg := (g_ok t).1 ok _ h1
    have ho : (assignEach [tg] X.env).map (·.2) = [assign tg X.env] := by rw [assignEach_ok h3]; rfl
    unfold asgB at h4
    rw [Bool.or_eq_true, Bool.or_eq_true, Bool.or_eq_true] at h4
    rcases h4 with ((h4 | h4) | h4) | h4
    · obtain ⟨h5, h6⟩ := and2 h4
      exact s_asg ((so_all m).e ok h2) hg (sw_false (not_t h5)) (ss_none (not_t h6)) ho
    · unfold setLcB at h4
      split at h4
      · rename_i y py elt gens scope cpos _
        obtain ⟨h4, h7, h8⟩ := and3 h4
        obtain ⟨h5, h6⟩ := and2 h4
        have h6 := of_decide_eq_true h6
        have hy : X.env.scope.names.lookup y = some .local := by rw [ok.scope]; exact h6
        have hsw : swapsWith (.ListComp elt gens scope cpos) (some (.Name y py)) pos.line X.env = pure true := sw_true (by rw [ok.scope]; exact of_decide_eq_true h5) hy h7 (not_t h8)
        have hN : X.N.Nodup := by rw [ok.N]; exact ok.st.nd
        cases t with
        | nm i =>
          have hi : X.N[i]? = some y := by
            simp only [okG, Bool.and_eq_true] at h1
            rw [ok.N]; exact of_decide_eq_true h1.1
          rcases lc_only h2 with ⟨kk, it, tg', own, c, el, rfl⟩ | ⟨kk, it, tg', own, c, k1, it1, tg1, own1, c1, el, rfl⟩
          · unfold okE okLc at h2
            split at h2
            · rename_i e; cases e
              obtain ⟨rfl, g1, g2, g3, g4, g5, g6, g7⟩ := lc_parts ok (so_all it) (so_all c) (so_all el) h2
              have := s_setLc (N := N) ok.calm hN hi hy hsw g1 g2 g3 g4 g5 g6 g7
              rw [own_map] at this
              exact this
            · cases h2
          · unfold okE okLc2 at h2
            split at h2
            · rename_i e; cases e
              obtain ⟨h2, h'⟩ := and2 h2
              obtain ⟨rfl, g1, g2, g3, g4, g5, g6, g7⟩ := lc_parts ok (so_all it) (so_all c) (so_all el) h2
              obtain ⟨rfl, q1, q2, q3, q4, q5, q6⟩ := lc2_parts (own := own) ok (so_all it1) (so_all c1) h'
              have := (ps_setLc2 ok.calm hN hi hy hsw g1 g2 q2 g4 g5 q1 q4 q5 g6 g7 q6).imp (t' := tS P.T C X.K E N (.asg (.nm i) (.lc2 kk it tg' ((mkOwn P own).map fun (q : PySem.Str × Nat) => q.2) c k1 it1 tg1 own1 c1 el))) fun D σ H ⟨L, F, μ, S, env, sr, er, h⟩ => tLc2_of g3 q3 (sI_seq sr er h fun F1 μ1 H1 S1 w x x1 s1 e1 r1 h1 => FR.nx' h1 s1 (e1.set r1))
              rw [own_map] at this
              exact this
            · cases h2
        | _ => cases h1
      · cases h4
    · unfold asgCellB at h4
      split at h4
      · rename_i y py elt gens scope cpos _
        have h4 := of_decide_eq_true h4
        refine s_asg ((so_all m).e ok h2) hg ?_ (ss_none rfl) ho
        have ky : X.env.kindOf y = some .cell := by show X.env.scope.names.lookup y = _; rw [ok.scope]; exact h4
        show swapsWith (.ListComp elt gens scope cpos) (some (.Name y py)) pos.line X.env = pure false
        unfold swapsWith
        simp only [ky]
        show (pure _ : Sem Bool) = pure false
        rw [show (some NameKind.cell == some NameKind.local) = false from rfl, Bool.and_false, Bool.false_and, Bool.false_and]
      · cases h4
    · obtain ⟨h5, h6⟩ := and2 h4
      exact s_asg ((so_all m).e ok h2) hg (sw_false (not_t h5)) (far_none ok.scope h6) ho
  · cases h) (fun sn x => rfl)
theorem so_aug (i : Nat) (m : M) : SoS P C k N (.aug i m) := .ofS (fun {X sn E} ok hp x h => by
  unfold okS okAug at h
  split at h
  · rename_i e; cases e
    obtain ⟨h1, h2, h3⟩ := and3 h
    obtain ⟨g1, g2⟩ := ok.sto h2
    exact s_aug (by rw [ok.N]; exact ok.st.nd) (by rw [ok.N]; exact of_decide_eq_true h1) g1 ((so_all m).e ok h3) g2
  · cases h) (fun sn x => rfl)
theorem sub_asg {x y : Expr} {p : Pos} {env : PySem.Env} (h : noSl y = true) (v : Value) : assign (.Subscript x y p) env v = (do
      let ov ← holding [v] (eval x env)
      let iv ← holding [v, ov] (eval y env)
      standAt p
      holding [v, ov, iv] (setItem ov iv v)
      release [v, ov, iv] []) := by
  cases y <;> first | rfl | cases h
theorem so_setIx (o i v : M) : SoS P C k N (.setIx o i v) := .ofS (fun {X sn E} ok hp x h => by
  unfold okS okSetIx at h
  split at h
  · rename_i e' _ e; cases e
    obtain ⟨h, h3, h4⟩ := and3 h
    obtain ⟨h1, h2⟩ := and2 h
    exact s_setIx ok.st.T ok.un ((so_all o).e ok h1) ((so_all i).e ok h2) ((so_all v).e ok h3) (by cases e' <;> rfl) (sub_asg h4)
  · cases h) (fun sn x => rfl)
theorem so_setFld (o : M) (f : Nat) (v : M) : SoS P C k N (.setFld o f v) := .ofS (fun {X sn E} ok hp x h => by
  unfold okS okSetFld at h
  split at h
  · rename_i e' _ e; cases e
    obtain ⟨h1, h2, h3⟩ := and3 h
    have h1 := of_decide_eq_true h1
    exact s_setFld ok.st.T h1 (fun c D hD => ok.st.fld c D f _ hD h1) ((so_all o).e ok h2) ((so_all v).e ok h3) (by cases e' <;> rfl)
  · cases h) (fun sn x => rfl)
theorem so_ex (m : M) : SoS P C k N (.ex m) := .ofS (fun {X sn E} ok hp x h => by
  unfold okS okEx at h
  split at h
  · rename_i e; cases e
    obtain ⟨h1, h2⟩ := and2 h
    exact s_ex ((so_all m).e ok h1) (sw_none (not_t h2))
  · cases h) (fun sn x => rfl)
theorem isNon_eq {m : M} (h : isNon m = true) : m = .cst .non := by
  unfold isNon at h
  split at h
  · rfl
  · cases h
theorem so_ret (m : M) : SoS P C k N (.ret m) := .ofS (fun {X sn E} ok hp x h => by
  unfold okS okRet at h
  split at h
  · rename_i e; cases e
    exact s_ret ((so_all m).e ok h)
  · rename_i e; cases e
    have := isNon_eq h; subst this
    exact s_retN
  · cases h) (fun sn x => rfl)
theorem so_ifS (c : M) {a b : MS} (ha : SoS P C k N a) (hb : SoS P C k N b) : SoS P C k N (.ife c a b) := .ofS (fun {X sn E} ok hp x h => by
  unfold okS okIfS at h
  split at h
  · rename_i e; cases e
    obtain ⟨h1, h2, h3⟩ := and3 h
    exact s_ife ((so_all c).t ok h1).1 (ha.l ok hp h2) (hb.l ok hp h3)
  · cases h) (fun sn x => rfl)
theorem so_for (kk : IK) (it : M) (t : Tg) {b : MS} (hb : SoS P C k N b) : SoS P C k N (.for_ kk it t b) := .ofS (fun {X sn E} ok hp x h => by
  unfold okS okFor at h
  split at h
  · rename_i e; cases e
    obtain ⟨h, h3, h4⟩ := and3 h
    obtain ⟨h1, h2⟩ := and2 h
    exact s_for hp ok.calm (it_ok ok (fun e he => (so_all it).e ok he) (fun es he => ⟨((so_all it).a ok he).1, ((so_all it).a ok he).2.1⟩) h1) ((g_ok t).1 ok _ h2) (hb.l ok hp h3) fun x => set_ok h4 x
  · cases h) (fun sn x => rfl)
theorem so_whl (c : M) {b : MS} (hb : SoS P C k N b) : SoS P C k N (.whl c b) := .ofS (fun {X sn E} ok hp x h => by
  unfold okS okWhl at h
  split at h
  · rename_i e; cases e
    obtain ⟨h1, h2⟩ := and2 h
    exact s_whl hp ((so_all c).t ok h1).1 (hb.l ok hp h2)
  · cases h) (fun sn x => rfl)
theorem sw_par {x y : PySem.Str} {px py pt pt2 : Pos} {kt k2 : Nat} {a b : Expr} {env : PySem.Env} (hk : env.scope.kind = .function) (hx : env.scope.names.lookup x = some .local) (hy : env.scope.names.lookup y = some .local) (hxy : (x == y) = false) (hl : (py.line == px.line) = true) (ha : noStar a = true) (hb : noStar b = true)
    (h1 : (foldedForSure 8 a && foldedForSure 8 b) = false) (h2 : (constantsAlone 8 a && constantsAlone 8 b) = false) : swappedStores [.Tuple [.Name x px, .Name y py] kt pt] (.Tuple [a, b] k2 pt2) env = pure (some [x, y]) := by
  have kx : env.kindOf x = some .local := hx
  have ky : env.kindOf y = some .local := hy
  have kb : env.blockKind = .function := by unfold PySem.Env.blockKind; rw [hk]; rfl
  have hyx : (y == x) = false := by
    rw [beq_eq_false_iff_ne] at hxy ⊢; exact Ne.symm hxy
  have e2 : ([x, y] : List PySem.Str).eraseDups.length = 2 := by
    rw [List.eraseDups_cons, List.filter_cons, hyx]
    rfl
  have h1' : [a, b].all (foldedForSure 8) = false := by
    rw [List.all_cons, List.all_cons, List.all_nil, Bool.and_true]; exact h1
  have h2' : [a, b].all (constantsAlone 8) = false := by
    rw [List.all_cons, List.all_cons, List.all_nil, Bool.and_true]; exact h2
  unfold swappedStores
  simp only [kb, h1', h2', List.filterMap_cons, List.filterMap_nil, kx, ky, hl, beq_self_eq_true, List.head?_cons, Option.map_some, Option.getD_some, Expr.pos, Bool.and_true, if_true, e2]
  cases a <;> first | (cases ha; done) | (cases b <;> first | (cases hb; done) | rfl)
theorem so_par (i j : Nat) (m : M) : SoS P C k N (.par i j m) := .ofS (fun {X sn E} ok hp x h => by
  unfold okS okPar at h
  split at h
  · rename_i e; cases e
    obtain ⟨h, h10, h11⟩ := and3 h
    obtain ⟨h, h8, h9⟩ := and3 h
    obtain ⟨h, h6, h7⟩ := and3 h
    obtain ⟨h, h4, h5⟩ := and3 h
    obtain ⟨h1, h2, h3⟩ := and3 h
    obtain ⟨g1, g2, _⟩ := (so_all m).a ok h4
    rw [List.all_cons, List.all_cons, Bool.and_eq_true, Bool.and_eq_true] at g2
    have hx := of_decide_eq_true h6
    have hy := of_decide_eq_true h7
    rw [← ok.scope] at hx hy
    exact s_par ok.calm (by rw [ok.N]; exact ok.st.nd) (by rw [ok.N]; exact of_decide_eq_true h1) (by rw [ok.N]; exact of_decide_eq_true h2) (of_decide_eq_true h3) hx hy g1 (sw_par (by rw [ok.scope]; exact of_decide_eq_true h5) hx hy (not_t h8) h9 g2.1 g2.2.1 (not_t h10) (not_t h11))
  · cases h) (fun sn x => rfl)
theorem soS_all (m : MS) : SoS P C k N m := by
  induction m with
  | skip => exact so_skip
  | seq a b ha hb => exact so_seq ha hb
  | asg t e => exact so_asg t e
  | aug i e => exact so_aug i e
  | setIx o i v => exact so_setIx o i v
  | setFld o f v => exact so_setFld o f v
  | ex e => exact so_ex e
  | ret e => exact so_ret e
  | ife c a b ha hb => exact so_ifS c ha hb
  | for_ kk it t b hb => exact so_for kk it t hb
  | whl c b hb => exact so_whl c hb
  | par i j m => exact so_par i j m
  | rse c => exact .ofS (fun _ _ _ h => by cases h) fun _ _ => rfl
  | rseA c e => exact .ofS (fun _ _ _ h => by cases h) fun _ _ => rfl
  | cont => exact .ofS (fun {X sn E} ok hp x h => by
      unfold okS okCont at h
      split at h
      · rename_i e; cases e; exact s_cont
      · cases h) fun _ _ => rfl
  | brk => exact .ofS (fun {X sn E} ok hp x h => by
      unfold okS okBrk at h
      split at h
      · rename_i e; cases e; exact s_brk
      · cases h) fun _ _ => rfl
end
end
end Mi

/-! a def does what its mirror says -/
namespace Mi
open PySem PySem.Spec PyProof.Rows L2
noncomputable section
mutual
def W.under (n : Nat) : W → Bool
  | .tup l => W.unders n l
  | .lst l => W.unders n l
  | .ref m => decide (m < n)
  | .non => true
  | .bl _ => true
  | .int _ => true
  | .tx _ => true
  | .str _ => true
  | .scr _ => true
def W.unders (n : Nat) : List W → Bool
  | [] => true
  | a :: l => W.under n a && W.unders n l
end
def Node.under (n : Nat) : Node → Bool
  | .lst l => W.unders n l
  | .dK l => l.all fun p => p.2.under n
  | .dT l => l.all fun p => p.2.under n
  | .ob _ fs => fs.all fun p => p.2.under n
/-! a value out of a store that is dropped from the place n on: lists there are frozen -/
mutual
def fz (S : Sto) (n : Nat) : Nat → W → Option W
  | d + 1, .tup l => (fzs S n d l).map .tup
  | d + 1, .lst l => (fzs S n d l).map .lst
  | d + 1, .ref m => if m < n then some (.ref m) else match S[m]? with
    | some (.lst l) => (fzs S n d l).map .lst
    | _ => none
  | _, .non => some .non
  | _, .bl b => some (.bl b)
  | _, .int i => some (.int i)
  | _, .tx i => some (.tx i)
  | _, .str s => some (.str s)
  | _, .scr l => some (.scr l)
  | _, _ => none
def fzs (S : Sto) (n : Nat) : Nat → List W → Option (List W)
  | _, [] => some []
  | d, a :: l => match fz S n d a, fzs S n d l with
    | some b, some m => some (b :: m)
    | _, _ => none
end
section
variable {T : Tb} {K : PySem.W.Frag} {F H F' H' : Hp} {μ μ' more : List Addr} {S S' S0 : Sto} {L : List Nat}
mutual
theorem RW.under : ∀ {w : W} {v : V}, RW T K F μ w v → w.under μ.length = true
  | _, _, .non => by simp [W.under]
  | _, _, .bl _ => by simp [W.under]
  | _, _, .int _ => by simp [W.under]
  | _, _, .tx _ => by simp [W.under]
  | _, _, .str _ => by simp [W.under]
  | _, _, .scr _ => by simp [W.under]
  | _, _, .tup _ _ r => by simp only [W.under]; exact RWs.under r
  | _, _, .lst _ r => by simp only [W.under]; exact RWs.under r
  | _, _, .ref h => by simp only [W.under, decide_eq_true_eq]; exact (List.getElem?_eq_some_iff.mp h).1
theorem RWs.under : ∀ {w : List W} {v : List V}, RWs T K F μ w v → W.unders μ.length w = true
  | _, _, .nil => by simp [W.unders]
  | _, _, .cons r t => by simp only [W.unders, Bool.and_eq_true]; exact ⟨RW.under r, RWs.under t⟩
end
theorem Paired.all2 {α β : Type} {R : α → β → Prop} {p : α → Bool} (h : ∀ a b, R a b → p a = true) : ∀ {l : List α} {m : List β}, Paired R l m → l.all p = true
  | _, _, .nil => rfl
  | _, _, .cons r t => by rw [List.all_cons, h _ _ r, Paired.all2 h t]; rfl
theorem RN.under : ∀ {n : Node} {o : HO}, RN T K F μ n o → n.under μ.length = true
  | .lst _, _, ⟨_, _, r⟩ => r.under
  | .dK _, _, ⟨_, _, r⟩ => Paired.all2 (fun _ _ h => h.2.under) r
  | .dT _, _, ⟨_, _, r⟩ => Paired.all2 (fun _ _ h => h.2.under) r
  | .ob _ _, _, ⟨_, _, _, _, _, r⟩ => Paired.all2 (fun _ _ h => h.2.under) r
theorem SR.closed (s : SR T K L F H μ S) : ∀ nd ∈ S, nd.under S.length = true := by
  intro nd h
  obtain ⟨n, hn⟩ := List.getElem?_of_mem h
  obtain ⟨a, o, _, _, r, _⟩ := s.get hn
  rw [s.len]; exact r.under
/-- another table of places -/
structure Less (F F' : Hp) (μ μ' : List Addr) (n : Nat) : Prop where
  f : ∀ a o, F a = some o → F' a = some o
  m : ∀ i a, i < n → μ[i]? = some a → μ'[i]? = some a
mutual
theorem RW.shrink (x : Less F F' μ μ' n) : ∀ {w : W} {v : V}, RW T K F μ w v → w.under n = true → RW T K F' μ' w v
  | _, _, .non, _ => .non
  | _, _, .bl b, _ => .bl b
  | _, _, .int i, _ => .int i
  | _, _, .tx e, _ => .tx e
  | _, _, .str s, _ => .str s
  | _, _, .tup h q r, z => .tup (sqT_mono h x.f) (fun z => x.f _ _ (q z)) (RWs.shrink x r (by simpa only [W.under] using z))
  | _, _, .lst h r, z => .lst (x.f _ _ h) (RWs.shrink x r (by simpa only [W.under] using z))
  | _, _, .scr h, _ => .scr (sqL_mono h x.f)
  | _, _, .ref e, z => .ref (x.m _ _ (by simpa only [W.under, decide_eq_true_eq] using z) e)
theorem RWs.shrink (x : Less F F' μ μ' n) : ∀ {ws : List W} {vs : List V}, RWs T K F μ ws vs → W.unders n ws = true → RWs T K F' μ' ws vs
  | _, _, .nil, _ => .nil
  | _, _, .cons h r, z => by
    simp only [W.unders, Bool.and_eq_true] at z
    exact .cons (RW.shrink x h z.1) (RWs.shrink x r z.2)
end
theorem Paired.mapA {α β : Type} {R G : α → β → Prop} {p : α → Bool} (f : ∀ a b, R a b → p a = true → G a b) : ∀ {l : List α} {m : List β}, Paired R l m → l.all p = true → Paired G l m
  | _, _, .nil, _ => .nil
  | _, _, .cons r t, h => by
    rw [List.all_cons, Bool.and_eq_true] at h
    exact .cons (f _ _ r h.1) (Paired.mapA f t h.2)
theorem RN.shrink (x : Less F F' μ μ' k) : ∀ {n : Node} {o : HO}, RN T K F μ n o → n.under k = true → RN T K F' μ' n o
  | .lst _, _, ⟨vs, e, r⟩, z => ⟨vs, e, r.shrink x z⟩
  | .dK _, _, ⟨kvs, e, r⟩, z => ⟨kvs, e, Paired.mapA (p := fun q => q.2.under k) (fun _ _ q z => ⟨q.1, q.2.shrink x z⟩) r (by simpa only [Node.under] using z)⟩
  | .dT _, _, ⟨kvs, e, r⟩, z => ⟨kvs, e, Paired.mapA (p := fun q => q.2.under k) (fun _ _ q z => ⟨q.1, q.2.shrink x z⟩) r (by simpa only [Node.under] using z)⟩
  | .ob _ _, _, ⟨C, dx, vs, h, e, r⟩, z => ⟨C, dx, vs, h, e, Paired.mapA (p := fun q => q.2.under k) (fun _ _ q z => ⟨q.1, q.2.shrink x z⟩) r (by simpa only [Node.under] using z)⟩
mutual
theorem RW.froz (s : SR T K L F H μ S) {n : Nat} (x : Less F F' μ μ' n) (hl : ∀ m a xs, n ≤ m → μ[m]? = some a → H a = some (.lst xs) → F' a = some (.lst xs)) : ∀ {d : Nat} {w w' : W} {v : V}, RW T K F μ w v → fz S n d w = some w' → RW T K F' μ' w' v
  | d, .non, _, _, .non, h => by cases d <;> (simp only [fz, Option.some.injEq] at h; subst h; exact .non)
  | d, .bl _, _, _, .bl b, h => by cases d <;> (simp only [fz, Option.some.injEq] at h; subst h; exact .bl b)
  | d, .int _, _, _, .int b, h => by cases d <;> (simp only [fz, Option.some.injEq] at h; subst h; exact .int b)
  | d, .tx _, _, _, .tx e, h => by cases d <;> (simp only [fz, Option.some.injEq] at h; subst h; exact .tx e)
  | d, .str _, _, _, .str b, h => by cases d <;> (simp only [fz, Option.some.injEq] at h; subst h; exact .str b)
  | d, .scr _, _, _, .scr e, h => by cases d <;> (simp only [fz, Option.some.injEq] at h; subst h; exact .scr (sqL_mono e x.f))
  | 0, .tup _, _, _, .tup _ _ _, h => by simp [fz] at h
  | 0, .lst _, _, _, .lst _ _, h => by simp [fz] at h
  | 0, .ref _, _, _, .ref _, h => by simp [fz] at h
  | d + 1, .tup l, w', _, .tup h1 h2 h3, h => by
    simp only [fz] at h
    obtain ⟨m, hm, rfl⟩ := Option.map_eq_some_iff.mp h
    refine .tup (sqT_mono h1 x.f) (fun z => x.f _ _ (h2 ?_)) (RWs.froz s x hl h3 hm)
    exact fzs_isI hm z
  | d + 1, .lst l, w', _, .lst h1 h3, h => by
    simp only [fz] at h
    obtain ⟨m, hm, rfl⟩ := Option.map_eq_some_iff.mp h
    exact .lst (x.f _ _ h1) (RWs.froz s x hl h3 hm)
  | d + 1, .ref m, w', _, .ref (a := a0) e, h => by
    simp only [fz] at h
    split at h
    · rename_i hm
      cases h
      exact .ref (x.m _ _ hm e)
    · rename_i hm
      split at h
      · rename_i l hs
        obtain ⟨l', hl', rfl⟩ := Option.map_eq_some_iff.mp h
        obtain ⟨b, o, hb, _, ⟨xs, rfl, q⟩, _, hd⟩ := s.get hs
        rw [e] at hb; cases hb
        have hH : H a0 = some (.lst xs) := by
          rcases hd with hd | ⟨od, hd⟩
          · exact hd
          · obtain ⟨_, o', r', q'⟩ := s.at_ m _ _ hs e
            rcases q' with q' | ⟨_, z, _⟩
            · obtain ⟨ys, rfl, _⟩ := r'; rw [hd] at q'; cases q'
            · cases z
        exact .lst (hl m _ xs (Nat.le_of_not_lt hm) e hH) (RWs.froz s x hl q hl')
      · cases h
theorem RWs.froz (s : SR T K L F H μ S) {n : Nat} (x : Less F F' μ μ' n) (hl : ∀ m a xs, n ≤ m → μ[m]? = some a → H a = some (.lst xs) → F' a = some (.lst xs)) : ∀ {d : Nat} {w w' : List W} {v : List V}, RWs T K F μ w v → fzs S n d w = some w' → RWs T K F' μ' w' v
  | d, [], w', _, .nil, h => by simp only [fzs, Option.some.injEq] at h; subst h; exact .nil
  | d, a :: l, w', _, .cons r t, h => by
    simp only [fzs] at h
    split at h
    · rename_i b m e1 e2
      cases h
      exact .cons (RW.froz s x hl r e1) (RWs.froz s x hl t e2)
    · cases h
theorem fzs_isI {n d : Nat} : ∀ {l m : List W}, fzs S n d l = some m → m.any W.isI = true → l.any W.isI = true
  | [], m, h, z => by simp only [fzs, Option.some.injEq] at h; subst h; cases z
  | a :: l, m, h, z => by
    simp only [fzs] at h
    split at h
    · rename_i b m' e1 e2
      cases h
      rw [List.any_cons, Bool.or_eq_true] at z ⊢
      rcases z with z | z
      · cases b <;> first | (cases z; done) | skip
        left
        cases a <;> cases d <;> simp only [fz, Option.some.injEq, reduceCtorEq, Option.map_eq_some_iff, and_false, exists_false] at e1 <;> first | rfl | skip
        all_goals (split at e1 <;> first | (cases e1; done) | (split at e1 <;> first | (cases e1; done) | (obtain ⟨_, _, e⟩ := Option.map_eq_some_iff.mp e1; cases e)))
      · exact .inr (fzs_isI e2 z)
    · cases h
end
end
end
end Mi

/-! a def does what its mirror says: the end -/
namespace Mi
open PySem PySem.Spec PyProof.Rows L2
noncomputable section
/-- the mirror's outcome g is what is left of the run's outcome r when what nobody has any more is dropped -/
def OutLe (S0 : Sto) (r g : Out W) : Prop := g ≠ .bad → r = g ∨ ∃ w' S' w S d, r = .ok w' S' ∧ g = .ok w S ∧ S'.take S.length = S ∧ S0.length ≤ S.length ∧ (S = S0 ∨ ∀ nd ∈ S, nd.under S.length = true) ∧ fz S' S.length d w' = some w
theorem OutLe.refl {S0 : Sto} {r : Out W} : OutLe S0 r r := fun _ => .inl rfl
section
variable {T : Tb} {K : PySem.W.Frag} {E : XK} {F H F' H' : Hp} {μ μ' more : List Addr} {S S' S0 : Sto} {L : List Nat} {Q : VK}
open Classical in
theorem OutLe.or {r g : Out W} (le : OutLe S0 r g) (sr : SR T K L F H μ S0) (h : OR T K E L F μ H g (RWv T K) Q) : OR T K E L F μ H r (RWv T K) Q := by
  have hg : g ≠ .bad := fun z => by rw [z] at h; exact h
  rcases le hg with e | ⟨w', S', w, S, d, rfl, rfl, h1, h2, h3, h4⟩
  · rw [e]; exact h
  intro F' μ' H' v x s r1
  have hn : S.length ≤ μ'.length := by
    rw [← s.len, ← h1, List.length_take]; exact Nat.min_le_right _ _
  let F2 : Hp := fun b => if b ∈ μ'.drop S.length ∧ ∃ xs, H' b = some (.lst xs) then H' b else F' b
  have inD : ∀ {b}, b ∈ μ'.drop S.length → F' b = none := fun {b} hb => by
    obtain ⟨i, hi⟩ := List.getElem?_of_mem (List.mem_of_mem_drop hb)
    have hlt : i < S'.length := by rw [s.len]; exact (List.getElem?_eq_some_iff.mp hi).1
    exact (s.at_ i S'[i] b (List.getElem?_eq_getElem hlt) hi).1
  have hF : ∀ a o, F' a = some o → F2 a = some o := fun a o e => by
    show (if _ then _ else _) = _
    rw [if_neg fun z => by rw [inD z.1] at e; cases e]; exact e
  have less : Less F' F2 μ' (μ'.take S.length) S.length := ⟨hF, fun i a hi e => by rw [List.getElem?_take, if_pos hi]; exact e⟩
  have notin : ∀ {i a}, i < S.length → μ'[i]? = some a → a ∉ μ'.drop S.length := fun {i a} hi e z => by
    obtain ⟨j, hj⟩ := List.getElem?_of_mem z
    rw [List.getElem?_drop] at hj
    obtain ⟨l1, g1⟩ := List.getElem?_eq_some_iff.mp e
    obtain ⟨l2, g2⟩ := List.getElem?_eq_some_iff.mp hj
    have := (List.getElem_inj s.nd).mp (g1.trans g2.symm)
    omega
  have cl : ∀ nd ∈ S, nd.under S.length = true := by
    rcases h3 with rfl | h3
    · exact sr.closed
    · exact h3
  have ft2 : ∀ a ps, F2 a ≠ some (.tbl ps) := fun a ps z => by
    by_cases q : a ∈ μ'.drop S.length ∧ ∃ xs, H' a = some (.lst xs)
    · rw [show F2 a = H' a from if_pos q] at z
      obtain ⟨_, xs, e⟩ := q
      rw [e] at z; cases z
    · rw [show F2 a = F' a from if_neg q] at z; exact s.ft a ps z
  have s2 : SR T K L F2 H' (μ'.take S.length) S := by
    refine ⟨by rw [List.length_take]; omega, s.nd.sublist (List.take_sublist _ _), fun a o e => ?_, fun n nd a e1 e2 => ?_, s.tab, fun n hm => Nat.lt_of_lt_of_le (sr.lb n hm) h2, ft2⟩
    · by_cases z : a ∈ μ'.drop S.length ∧ ∃ xs, H' a = some (.lst xs)
      · rw [show F2 a = H' a from if_pos z] at e; exact e
      · rw [show F2 a = F' a from if_neg z] at e; exact s.sub a o e
    · have hlt : n < S.length := (List.getElem?_eq_some_iff.mp e1).1
      rw [List.getElem?_take, if_pos hlt] at e2
      have e1' : S'[n]? = some nd := by rw [← h1, List.getElem?_take] at e1; split at e1 <;> first | exact e1 | cases e1
      obtain ⟨g1, o, g2, g3⟩ := s.at_ n nd a e1' e2
      refine ⟨?_, o, g2.shrink less (cl nd (List.mem_of_getElem? e1)), g3⟩
      show (if _ then _ else _) = _
      rw [if_neg fun z => notin hlt e2 z.1]; exact g1
  have x2 : Ext L F μ H F2 (μ'.take S.length) H' := by
    refine ⟨fun a o e => hF a o (x.f a o e), ?_, x.l, fun b xs e f m => ?_, x.e⟩
    · obtain ⟨m0, rfl⟩ := x.m
      refine ⟨m0.take (S.length - μ.length), ?_⟩
      rw [List.take_append, List.take_of_length_le (by rw [← sr.len]; exact h2)]
    · obtain ⟨g1, g2, g3⟩ := x.o b xs e f m
      refine ⟨g1, ?_, fun z => g3 (List.mem_of_mem_take z)⟩
      show (if _ then _ else _) = _
      rw [if_neg fun z => g3 (List.mem_of_mem_drop z.1)]; exact g2
  refine h F2 _ H' v x2 s2 (r1.froz s less (fun m a xs hm e hx => ?_) h4)
  have : a ∈ μ'.drop S.length := by
    refine List.mem_of_getElem? (i := m - S.length) ?_
    rw [List.getElem?_drop, show S.length + (m - S.length) = m by omega]; exact e
  show (if _ then _ else _) = _
  rw [if_pos ⟨this, xs, hx⟩]; exact hx
end
/-- a def's walk -/
theorem fn_okL {P : Ck} {C : Ctx} {k N : Nat} {prog : Program} {w : World} {K : PySem.W.Frag} {mg : PySem.Str → Option Value} {base : Heap} {x qual : PySem.Str} {params : Arguments} {body : List Stmt} {scope : Scope} {dvs : List V} {kws : List (PySem.Str × V)} {f : Addr} {fd : FuncData}
    (F : FunD K x qual params body scope dvs kws f fd) {ps : List PySem.Str} {b : MS} {g : Fn} (st : Stat P C prog w K mg base k) (S : FnScope P.N ps scope) (hb : okS P b ⟨scope, fun _ => true⟩ (.L body) = true)
    (hl : P.lam = true → ∃ c Pa, fd.code = .ref c ∧ LamX.TabB base mg c Pa ∧ (Pa, (qual ++ ".<locals>.") ++ "<lambda>") ∈ P.T.tabs K ∧ ∀ p ∈ P.T.tabs K, p.1 = Pa → p.2 = (qual ++ ".<locals>.") ++ "<lambda>")
    (len : ∀ L ws S, g L ws S ≠ .bad → ws.length = ps.length) (le : ∀ L ws S, OutLe S (runB C N P.N.length b L ws S) (g L ws S)) :
    FnOk prog w K mg base (CX prog w) (k + 1) f fd ps (spF P.T K g) := by
  obtain ⟨oc, od, dV, kV, doc, pm, an, cdv, ct, osl, rfl, lk, hcd, _, _⟩ := F.ex
  refine fn_of lk hcd S (fun vs H Q E ⟨L, F, μ, S, ws, sr, r, h⟩ => ?_) fun A outer s H vs Q E hr ⟨L, F, μ, S', ws, sr, r, h⟩ => ?_
  · rw [← r.length]; exact len L ws S fun z => by rw [z] at h; exact h
  · have tk : Takes (cxOf (CX prog w) prog w K mg base P.N qual scope f cdv A outer s H E) (fun cls d _ H => E cls d H) := takes_of rfl rfl rfl rfl
    have ok : CxOk P C k (cxOf (CX prog w) prog w K mg base P.N qual scope f cdv A outer s H E) ⟨scope, fun _ => true⟩ E :=
      ⟨st, rfl, rfl, rfl, hr.units, hr, passes_call tk fun _ _ _ _ h => h, fun _ _ => rfl, hl⟩
    refine ⟨_, (soS_all (N := N) b).l ok (passes_of rfl) hb, L, F, μ, S', ws.map some ++ List.replicate (P.N.length - ws.length) none, sr, ?_, ?_⟩
    · refine ⟨by simp [L2.start, r.length], fun i w hw => ?_⟩
      unfold L2.start
      rcases Nat.lt_or_ge i ws.length with hi | hi
      · rw [List.getElem?_append_left (by simpa using hi), List.getElem?_map] at hw
        obtain ⟨w', hw', e⟩ := Option.map_eq_some_iff.mp hw
        cases e
        obtain ⟨v, h1, h2⟩ := r.get hw'
        refine ⟨v, ?_, h2⟩
        rw [List.getElem?_append_left (by rw [List.length_map, ← r.length]; exact hi), List.getElem?_map, h1]; rfl
      · rw [List.getElem?_append_right (by simpa using hi)] at hw
        have := List.mem_of_getElem? hw
        rw [List.mem_replicate] at this
        cases this.2
    · have h' := (le L ws S').or sr h
      unfold runB at h'
      cases e : exS C N L b (ws.map some ++ List.replicate (P.N.length - ws.length) none) S' with
      | ex c p S1 => rw [e] at h'; exact h'
      | bad => rw [e] at h'; exact h'
      | ok fl S1 =>
        rw [e] at h'
        simp only [Out.bind_ok] at h'
        cases fl with
        | nx env => exact fun F' μ' H' σ' x s _ => h' F' μ' H' .non x s .non
        | rt w => exact h'
        | bk env => exact h'.elim
        | ct env => exact h'.elim
theorem fn_ok {P : Ck} {C : Ctx} {k N : Nat} {prog : Program} {w : World} {K : PySem.W.Frag} {mg : PySem.Str → Option Value} {base : Heap} {x qual : PySem.Str} {params : Arguments} {body : List Stmt} {scope : Scope} {dvs : List V} {kws : List (PySem.Str × V)} {f : Addr} {fd : FuncData}
    (F : FunD K x qual params body scope dvs kws f fd) {ps : List PySem.Str} {b : MS} {g : Fn} (st : Stat P C prog w K mg base k) (S : FnScope P.N ps scope) (hb : okS P b ⟨scope, fun _ => true⟩ (.L body) = true)
    (len : ∀ L ws S, g L ws S ≠ .bad → ws.length = ps.length) (le : ∀ L ws S, OutLe S (runB C N P.N.length b L ws S) (g L ws S)) (hl : P.lam = false := by rfl) :
    FnOk prog w K mg base (CX prog w) (k + 1) f fd ps (spF P.T K g) :=
  fn_okL F st S hb (fun z => by rw [hl] at z; cases z) len le
end
end Mi

/-! runs, step by step: words for simp -/
namespace Mi
open PySem PySem.Spec PyProof.Rows L2
noncomputable section
@[simp] theorem sixteen_val : sixteen = 16777216 := rfl
section
variable {C : Ctx} {L : List Nat} {env : Env} {e0 : Option W} {S S1 : Sto}
def tupK : Out W → Out W
  | .ok (.tup l) S => if l.length ≤ 16777216 then .ok (.tup l) S else .bad
  | .ok _ _ => .bad
  | x => x
def lstK : Out W → Out W
  | .ok (.tup l) S => if l.length ≤ 16777216 then .ok (.lst l) S else .bad
  | .ok _ _ => .bad
  | x => x
def slstK : Out W → Out W
  | .ok (.tup l) S => if l.length ≤ 16777216 then .ok (.ref S.length) (S ++ [.lst l]) else .bad
  | .ok _ _ => .bad
  | x => x
def consK2 (x : W) : Out W → Out W
  | .ok (.tup l) S => .ok (.tup (x :: l)) S
  | .ok _ _ => .bad
  | y => y
def consK (C : Ctx) (L : List Nat) (b : M) (env : Env) (x : Out W) : Out W := x.bind fun x S => consK2 x (ev C L b env S)
def opK2 (f : W → W → Sto → Option W) (x : W) (y : Out W) : Out W := y.bind fun y S => Out.of (f x y S) S
def opK (C : Ctx) (L : List Nat) (f : W → W → Sto → Option W) (b : M) (env : Env) (x : Out W) : Out W := x.bind fun x S => opK2 f x (ev C L b env S)
def andK (C : Ctx) (L : List Nat) (b : M) (env : Env) (x : Out W) : Out W := x.bind fun x S1 => match x with
  | .bl true => ev C L b env S1
  | .bl false => .ok (.bl false) S1
  | _ => .bad
def orK (C : Ctx) (L : List Nat) (b : M) (env : Env) (x : Out W) : Out W := x.bind fun x S1 => match x with
  | .bl true => .ok (.bl true) S1
  | .bl false => ev C L b env S1
  | _ => .bad
def notK (x : Out W) : Out W := x.bind fun x S1 => match x with
  | .bl b => .ok (.bl (!b)) S1
  | _ => .bad
def trK (x : Out W) : Out W := x.bind fun x S1 => Out.of ((x.tru S1).map W.bl) S1
def ifeK (C : Ctx) (L : List Nat) (a b : M) (env : Env) (x : Out W) : Out W := x.bind fun x S1 => match x with
  | .bl true => ev C L a env S1
  | .bl false => ev C L b env S1
  | _ => .bad
def idxK (x : Out W) : Out W := x.bind fun x S1 => match x with
  | .int i => .ok (.int i) S1
  | _ => .bad
def slK3 (x l : W) (h : Out W) : Out W := h.bind fun h S3 => Out.of (slW S3 x l h) S3
def slK2 (C : Ctx) (L : List Nat) (hi : M) (env : Env) (x : W) (l : Out W) : Out W := l.bind fun l S2 => slK3 x l (ev C L hi env S2)
def slK (C : Ctx) (L : List Nat) (lo hi : M) (env : Env) (x : Out W) : Out W := x.bind fun x S1 => slK2 C L hi env x (ev C L lo env S1)
def fldK (f : Nat) (x : Out W) : Out W := x.bind fun x S1 => match x with
  | .ref n => match S1[n]? with
    | some (.ob _ fs) => Out.of (fs.lookup f) S1
    | _ => .bad
  | _ => .bad
def callK2 (C : Ctx) (L : List Nat) (f : Nat) (y : W) (z : Out W) : Out W := z.bind fun z S2 => match y, z with
  | .tup l, .tup l' => C.fn f L (l ++ l') S2
  | _, _ => .bad
def callK (C : Ctx) (L : List Nat) (f : Nat) (b : M) (env : Env) (y : Out W) : Out W := y.bind fun y S1 => callK2 C L f y (ev C L b env S1)
def biK (b : Bi) (y : Out W) : Out W := y.bind fun y S1 => match y with
  | .tup l => Out.of (biW S1 b l) S1
  | _ => .bad
def mtK2 (L : List Nat) (m : Mt) (x : W) (y : Out W) : Out W := y.bind fun y S2 => match x, y with
  | .ref n, .tup l => match mtW L S2 m n l with
    | some (w, S3) => .ok w S3
    | none => .bad
  | _, _ => .bad
def mtK (C : Ctx) (L : List Nat) (m : Mt) (a : M) (env : Env) (x : Out W) : Out W := x.bind fun x S1 => if mtT S1 m x = true then mtK2 L m x (ev C L a env S1) else .bad
def lcEnd (x : Out (List W)) : Out W := x.bind fun r S2 => if r.length ≤ 16777216 then .ok (.lst r) S2 else .bad
def lcGo (C : Ctx) (L : List Nat) (tg : Tg) (env : Env) (c e : M) (S : Sto) : Option (List W × List Nat) → Out W
  | none => .bad
  | some (xs, lk) => lcEnd (lcL (lcStep C (lk ++ L) tg env c e) xs S)
def lcK (C : Ctx) (L : List Nat) (k : IK) (tg : Tg) (own : List Nat) (c e : M) (env : Env) (x : Out W) : Out W := x.bind fun x S1 => lcGo C L tg (wipeE env own) c e S1 (items S1 k x)
def lcGo2 (C : Ctx) (L : List Nat) (tg : Tg) (env : Env) (c : M) (k1 : IK) (it1 : M) (tg1 : Tg) (own1 : List Nat) (c1 e : M) (S : Sto) : Option (List W × List Nat) → Out W
  | none => .bad
  | some (xs, lk) => lcEnd (lcL2 (lcStep2 C (lk ++ L) tg env c k1 it1 tg1 own1 c1 e) xs S)
def lc2K (C : Ctx) (L : List Nat) (k : IK) (tg : Tg) (own : List Nat) (c : M) (k1 : IK) (it1 : M) (tg1 : Tg) (own1 : List Nat) (c1 e : M) (env : Env) (x : Out W) : Out W := x.bind fun x S1 => lcGo2 C L tg (wipeE env own) c k1 it1 tg1 own1 c1 e S1 (items S1 k x)
@[simp] theorem ev_var0 {w : W} : ev C L (.var 0) (some w :: env) S = .ok w S := rfl
@[simp] theorem ev_varS {i : Nat} : ev C L (.var (i + 1)) (e0 :: env) S = ev C L (.var i) env S := by simp [ev]
@[simp] theorem ev_cst {w : W} : ev C L (.cst w) (e0 :: env) S = .ok w S := rfl
@[simp] theorem ev_con {i : Nat} : ev C L (.con i) (e0 :: env) S = Out.of C.con[i]? S := rfl
@[simp] theorem ev_nil : ev C L .nil (e0 :: env) S = .ok (.tup []) S := rfl
@[simp] theorem ev_cons {a b : M} : ev C L (.cons a b) (e0 :: env) S = consK C L b (e0 :: env) (ev C L a (e0 :: env) S) := by
  simp only [ev, consK]
  congr 1; funext x S1
  cases ev C L b (e0 :: env) S1 with
  | ok y S2 => cases y <;> rfl
  | ex _ _ _ => rfl
  | bad => rfl
@[simp] theorem ev_tup {a : M} : ev C L (.tup a) (e0 :: env) S = tupK (ev C L a (e0 :: env) S) := by
  simp only [ev]
  cases ev C L a (e0 :: env) S with
  | ok y S2 => cases y <;> rfl
  | ex _ _ _ => rfl
  | bad => rfl
@[simp] theorem ev_lst {a : M} : ev C L (.lst a) (e0 :: env) S = lstK (ev C L a (e0 :: env) S) := by
  simp only [ev]
  cases ev C L a (e0 :: env) S with
  | ok y S2 => cases y <;> rfl
  | ex _ _ _ => rfl
  | bad => rfl
@[simp] theorem ev_slst {a : M} : ev C L (.slst a) (e0 :: env) S = slstK (ev C L a (e0 :: env) S) := by
  simp only [ev]
  cases ev C L a (e0 :: env) S with
  | ok y S2 => cases y <;> rfl
  | ex _ _ _ => rfl
  | bad => rfl
@[simp] theorem ev_bin {o : BOp} {a b : M} : ev C L (.bin o a b) (e0 :: env) S = opK C L (fun x y S => binW S o x y) b (e0 :: env) (ev C L a (e0 :: env) S) := rfl
@[simp] theorem ev_cmp {o : COp} {a b : M} : ev C L (.cmp o a b) (e0 :: env) S = opK C L (fun x y S => cmpW S o x y) b (e0 :: env) (ev C L a (e0 :: env) S) := rfl
@[simp] theorem ev_ix {a b : M} : ev C L (.ix a b) (e0 :: env) S = opK C L (fun x y S => ixW S x y) b (e0 :: env) (ev C L a (e0 :: env) S) := rfl
@[simp] theorem ev_and {a b : M} : ev C L (.and a b) (e0 :: env) S = andK C L b (e0 :: env) (ev C L a (e0 :: env) S) := rfl
@[simp] theorem ev_or {a b : M} : ev C L (.or a b) (e0 :: env) S = orK C L b (e0 :: env) (ev C L a (e0 :: env) S) := rfl
@[simp] theorem ev_not {a : M} : ev C L (.not a) (e0 :: env) S = notK (ev C L a (e0 :: env) S) := rfl
@[simp] theorem ev_tr {a : M} : ev C L (.tr a) (e0 :: env) S = trK (ev C L a (e0 :: env) S) := rfl
@[simp] theorem ev_ife {c a b : M} : ev C L (.ife c a b) (e0 :: env) S = ifeK C L a b (e0 :: env) (ev C L c (e0 :: env) S) := rfl
@[simp] theorem ev_idx {a : M} : ev C L (.idx a) (e0 :: env) S = idxK (ev C L a (e0 :: env) S) := rfl
@[simp] theorem ev_sl {a lo hi : M} : ev C L (.sl a lo hi) (e0 :: env) S = slK C L lo hi (e0 :: env) (ev C L a (e0 :: env) S) := rfl
@[simp] theorem ev_fld {a : M} {f : Nat} : ev C L (.fld a f) (e0 :: env) S = fldK f (ev C L a (e0 :: env) S) := rfl
@[simp] theorem ev_call {f : Nat} {a b : M} : ev C L (.call f a b) (e0 :: env) S = callK C L f b (e0 :: env) (ev C L a (e0 :: env) S) := rfl
@[simp] theorem ev_bi {b : Bi} {a : M} : ev C L (.bi b a) (e0 :: env) S = biK b (ev C L a (e0 :: env) S) := rfl
@[simp] theorem ev_mt' {m : Mt} {o a : M} : ev C L (.mt m o a) (e0 :: env) S = mtK C L m a (e0 :: env) (ev C L o (e0 :: env) S) := rfl
@[simp] theorem ev_lc {k : IK} {it c e : M} {tg : Tg} {own : List Nat} : ev C L (.lc k it tg own c e) (e0 :: env) S = lcK C L k tg own c e (e0 :: env) (ev C L it (e0 :: env) S) := by
  simp only [ev, lcK] <;> congr 1
@[simp] theorem ev_lc2 {k k1 : IK} {it c it1 c1 e : M} {tg tg1 : Tg} {own own1 : List Nat} : ev C L (.lc2 k it tg own c k1 it1 tg1 own1 c1 e) (e0 :: env) S = lc2K C L k tg own c k1 it1 tg1 own1 c1 e (e0 :: env) (ev C L it (e0 :: env) S) := by
  simp only [ev, lc2K] <;> congr 1
/-! continuations meet values -/
section
variable {x y z w : W} {l m : List W} {a b : M} {f : Nat}
@[simp] theorem tupK_ok : tupK (.ok (.tup l) S) = if l.length ≤ 16777216 then .ok (.tup l) S else .bad := rfl
@[simp] theorem lstK_ok : lstK (.ok (.tup l) S) = if l.length ≤ 16777216 then .ok (.lst l) S else .bad := rfl
@[simp] theorem slstK_ok : slstK (.ok (.tup l) S) = if l.length ≤ 16777216 then .ok (.ref S.length) (S ++ [.lst l]) else .bad := rfl
@[simp] theorem consK_ok : consK C L b env (.ok x S) = consK2 x (ev C L b env S) := rfl
@[simp] theorem consK2_ok : consK2 x (.ok (.tup l) S) = .ok (.tup (x :: l)) S := rfl
@[simp] theorem opK_ok {g : W → W → Sto → Option W} : opK C L g b env (.ok x S) = opK2 g x (ev C L b env S) := rfl
@[simp] theorem opK2_ok {g : W → W → Sto → Option W} : opK2 g x (.ok y S) = Out.of (g x y S) S := rfl
@[simp] theorem andK_t : andK C L b env (.ok (.bl true) S) = ev C L b env S := rfl
@[simp] theorem andK_f : andK C L b env (.ok (.bl false) S) = .ok (.bl false) S := rfl
@[simp] theorem orK_t : orK C L b env (.ok (.bl true) S) = .ok (.bl true) S := rfl
@[simp] theorem orK_f : orK C L b env (.ok (.bl false) S) = ev C L b env S := rfl
@[simp] theorem notK_ok {k : Bool} : notK (.ok (.bl k) S) = .ok (.bl (!k)) S := rfl
@[simp] theorem trK_ok : trK (.ok x S) = Out.of ((x.tru S).map W.bl) S := rfl
@[simp] theorem ifeK_t : ifeK C L a b env (.ok (.bl true) S) = ev C L a env S := rfl
@[simp] theorem ifeK_f : ifeK C L a b env (.ok (.bl false) S) = ev C L b env S := rfl
theorem ifeK_b {k : Bool} : ifeK C L a b env (.ok (.bl k) S) = if k = true then ev C L a env S else ev C L b env S := by cases k <;> rfl
theorem andK_b {k : Bool} : andK C L b env (.ok (.bl k) S) = if k = true then ev C L b env S else .ok (.bl false) S := by cases k <;> rfl
theorem orK_b {k : Bool} : orK C L b env (.ok (.bl k) S) = if k = true then .ok (.bl true) S else ev C L b env S := by cases k <;> rfl
@[simp] theorem idxK_ok {i : Int} : idxK (.ok (.int i) S) = .ok (.int i) S := rfl
@[simp] theorem slK_ok : slK C L a b env (.ok x S) = slK2 C L b env x (ev C L a env S) := rfl
@[simp] theorem slK2_ok : slK2 C L b env x (.ok y S) = slK3 x y (ev C L b env S) := rfl
@[simp] theorem slK3_ok : slK3 x y (.ok z S) = Out.of (slW S x y z) S := rfl
@[simp] theorem callK_ok : callK C L f b env (.ok y S) = callK2 C L f y (ev C L b env S) := rfl
@[simp] theorem callK2_ok : callK2 C L f (.tup l) (.ok (.tup m) S) = C.fn f L (l ++ m) S := rfl
@[simp] theorem biK_ok {bi : Bi} : biK bi (.ok (.tup l) S) = Out.of (biW S bi l) S := rfl
@[simp] theorem mtK_ok {mm : Mt} : mtK C L mm b env (.ok x S) = if mtT S mm x = true then mtK2 L mm x (ev C L b env S) else .bad := rfl
@[simp] theorem mtK2_ok {mm : Mt} {n : Nat} : mtK2 L mm (.ref n) (.ok (.tup l) S) = match mtW L S mm n l with
    | some (w, S3) => .ok w S3
    | none => .bad := rfl
@[simp] theorem lcK_ok {k : IK} {c e : M} {tg : Tg} {own : List Nat} : lcK C L k tg own c e env (.ok x S) = lcGo C L tg (wipeE env own) c e S (items S k x) := rfl
@[simp] theorem lcGo_some {c e : M} {tg : Tg} {lk : List Nat} : lcGo C L tg env c e S (some (l, lk)) = lcEnd (lcL (lcStep C (lk ++ L) tg env c e) l S) := rfl
@[simp] theorem lcEnd_ok : lcEnd (.ok l S) = if l.length ≤ 16777216 then .ok (.lst l) S else .bad := rfl
@[simp] theorem lc2K_ok {k k1 : IK} {c it1 c1 e : M} {tg tg1 : Tg} {own own1 : List Nat} : lc2K C L k tg own c k1 it1 tg1 own1 c1 e env (.ok x S) = lcGo2 C L tg (wipeE env own) c k1 it1 tg1 own1 c1 e S (items S k x) := rfl
@[simp] theorem lcGo2_some {k1 : IK} {c it1 c1 e : M} {tg tg1 : Tg} {own1 lk : List Nat} : lcGo2 C L tg env c k1 it1 tg1 own1 c1 e S (some (l, lk)) = lcEnd (lcL2 (lcStep2 C (lk ++ L) tg env c k1 it1 tg1 own1 c1 e) l S) := rfl
end
/-! statements -/
def seqK (C : Ctx) (N : Nat) (L : List Nat) (b : MS) (x : Out Fl) : Out Fl := x.bind fun f S1 => match f with
  | .nx e => exS C N L b e S1
  | f => .ok f S1
def asgK (t : Tg) (env : Env) (x : Out W) : Out Fl := x.bind fun w S1 => match bindT t w env with
  | some env' => .ok (.nx env') S1
  | none => .bad
def retK (x : Out W) : Out Fl := x.bind fun w S1 => .ok (.rt w) S1
def exK (env : Env) (x : Out W) : Out Fl := x.bind fun w S1 => .ok (.nx env) S1
def ifK (C : Ctx) (N : Nat) (L : List Nat) (a b : MS) (env : Env) (x : Out W) : Out Fl := x.bind fun x S1 => match x with
  | .bl true => exS C N L a env S1
  | .bl false => exS C N L b env S1
  | _ => .bad
def stIx (L : List Nat) (env : Env) (w x y : W) (S3 : Sto) : Out Fl := match x with
  | .ref n => if n ∈ L then .bad else match S3[n]? with
    | some (.lst l) => match y with
      | .int k => match ixNat l.length k with
        | some j => .ok (.nx env) (S3.set n (.lst (l.set j w)))
        | none => .bad
      | _ => .bad
    | _ => match dPut S3 n y w with
      | some S4 => .ok (.nx env) S4
      | none => .bad
  | _ => .bad
def sixK3 (L : List Nat) (env : Env) (w x : W) (y : Out W) : Out Fl := y.bind fun y S3 => stIx L env w x y S3
def sixK2 (C : Ctx) (L : List Nat) (i : M) (env : Env) (w : W) (x : Out W) : Out Fl := x.bind fun x S2 => sixK3 L env w x (ev C L i env S2)
def sixK (C : Ctx) (L : List Nat) (o i : M) (env : Env) (w : Out W) : Out Fl := w.bind fun w S1 => sixK2 C L i env w (ev C L o env S1)
def forStep (C : Ctx) (N : Nat) (L : List Nat) (t : Tg) (b : MS) : W → Env → Sto → Out Fl := fun x env S => match bindT t x env with
  | none => .bad
  | some env' => exS C N L b env' S
def forGo (C : Ctx) (N : Nat) (L : List Nat) (t : Tg) (b : MS) (env : Env) (S : Sto) : Option (List W × List Nat) → Out Fl
  | none => .bad
  | some (xs, lk) => forL (forStep C N (lk ++ L) t b) xs env S
def forK (C : Ctx) (N : Nat) (L : List Nat) (k : IK) (t : Tg) (b : MS) (env : Env) (x : Out W) : Out Fl := x.bind fun x S1 => forGo C N L t b env S1 (items S1 k x)
def augK (i : Nat) (a : Int) (env : Env) (x : Out W) : Out Fl := x.bind fun w S1 => match w with
  | .int b => .ok (.nx (env.set i (some (.int (a + b))))) S1
  | _ => .bad
variable {N : Nat}
@[simp] theorem ex_skip : exS C N L .skip (e0 :: env) S = .ok (.nx (e0 :: env)) S := rfl
@[simp] theorem ex_seq {a b : MS} : exS C N L (.seq a b) (e0 :: env) S = seqK C N L b (exS C N L a (e0 :: env) S) := by
  simp only [exS, seqK] <;> congr 1
@[simp] theorem ex_asg {t : Tg} {e : M} : exS C N L (.asg t e) (e0 :: env) S = asgK t (e0 :: env) (ev C L e (e0 :: env) S) := rfl
@[simp] theorem ex_ret {e : M} : exS C N L (.ret e) (e0 :: env) S = retK (ev C L e (e0 :: env) S) := rfl
@[simp] theorem ex_ex {e : M} : exS C N L (.ex e) (e0 :: env) S = exK (e0 :: env) (ev C L e (e0 :: env) S) := rfl
@[simp] theorem ex_ife {c : M} {a b : MS} : exS C N L (.ife c a b) (e0 :: env) S = ifK C N L a b (e0 :: env) (ev C L c (e0 :: env) S) := rfl
@[simp] theorem ex_setIx {o i v : M} : exS C N L (.setIx o i v) (e0 :: env) S = sixK C L o i (e0 :: env) (ev C L v (e0 :: env) S) := rfl
@[simp] theorem ex_for {k : IK} {it : M} {t : Tg} {b : MS} : exS C N L (.for_ k it t b) (e0 :: env) S = forK C N L k t b (e0 :: env) (ev C L it (e0 :: env) S) := by
  simp only [exS, forK] <;> congr 1
@[simp] theorem ex_whl {c : M} {b : MS} : exS C N L (.whl c b) (e0 :: env) S = whlL (fun env S => ev C L c env S) (fun env S => exS C N L b env S) N (e0 :: env) S := rfl
@[simp] theorem ex_cont : exS C N L .cont (e0 :: env) S = .ok (.ct (e0 :: env)) S := rfl
@[simp] theorem ex_brk : exS C N L .brk (e0 :: env) S = .ok (.bk (e0 :: env)) S := rfl
section
variable {x y w : W} {a b : MS} {i o : M} {e : Env} {t : Tg}
@[simp] theorem seqK_nx : seqK C N L b (.ok (.nx e) S) = exS C N L b e S := rfl
@[simp] theorem seqK_rt : seqK C N L b (.ok (.rt w) S) = .ok (.rt w) S := rfl
@[simp] theorem seqK_ct : seqK C N L b (.ok (.ct e) S) = .ok (.ct e) S := rfl
@[simp] theorem seqK_bk : seqK C N L b (.ok (.bk e) S) = .ok (.bk e) S := rfl
@[simp] theorem asgK_ok : asgK t env (.ok w S) = match bindT t w env with
    | some env' => .ok (.nx env') S
    | none => .bad := rfl
@[simp] theorem retK_ok : retK (.ok w S) = .ok (.rt w) S := rfl
@[simp] theorem exK_ok : exK env (.ok w S) = .ok (.nx env) S := rfl
@[simp] theorem ifK_t : ifK C N L a b env (.ok (.bl true) S) = exS C N L a env S := rfl
@[simp] theorem ifK_f : ifK C N L a b env (.ok (.bl false) S) = exS C N L b env S := rfl
theorem ifK_b {k : Bool} : ifK C N L a b env (.ok (.bl k) S) = if k = true then exS C N L a env S else exS C N L b env S := by cases k <;> rfl
@[simp] theorem sixK_ok : sixK C L o i env (.ok w S) = sixK2 C L i env w (ev C L o env S) := rfl
@[simp] theorem sixK2_ok : sixK2 C L i env w (.ok x S) = sixK3 L env w x (ev C L i env S) := rfl
@[simp] theorem sixK3_ok : sixK3 L env w x (.ok y S) = stIx L env w x y S := rfl
@[simp] theorem forK_ok {k : IK} : forK C N L k t b env (.ok x S) = forGo C N L t b env S (items S k x) := rfl
@[simp] theorem forGo_some {l : List W} {lk : List Nat} : forGo C N L t b env S (some (l, lk)) = forL (forStep C N (lk ++ L) t b) l env S := rfl
theorem runB_eq {k : Nat} {args : List W} : runB C N k b L args S = match exS C N L b (args.map some ++ List.replicate (k - args.length) none) S with
    | .ok (.nx _) S1 => .ok .non S1
    | .ok (.rt w) S1 => .ok w S1
    | .ok _ _ => .bad
    | .ex c p S => .ex c p S
    | .bad => .bad := by
  unfold runB
  cases exS C N L b (args.map some ++ List.replicate (k - args.length) none) S with
  | ok f S1 => cases f <;> rfl
  | ex _ _ _ => rfl
  | bad => rfl
end
/-! values -/
section
variable {i j : Int} {x y : W} {l m : List W}
@[simp] theorem bin_add : binW S .add (.int i) (.int j) = some (.int (i + j)) := rfl
@[simp] theorem bin_addT : binW S .add (.tup l) (.tup m) = if l.length + m.length ≤ 16777216 then some (.tup (l ++ m)) else none := rfl
@[simp] theorem bin_addL : binW S .add (.lst l) (.lst m) = if l.length + m.length ≤ 16777216 then some (.lst (l ++ m)) else none := rfl
@[simp] theorem bin_sub : binW S .sub (.int i) (.int j) = some (.int (i - j)) := rfl
theorem bin_mul : binW S .mul (.int i) (.int j) = if (smallB i || smallB j) = true then some (.int (i * j)) else none := rfl
theorem bin_fdiv : binW S .fdiv (.int i) (.int j) = if 0 < j ∧ j < 1073741824 then some (.int (i / j)) else none := rfl
theorem bin_mod : binW S .mod (.int i) (.int j) = if 0 < j then some (.int (i % j)) else none := rfl
theorem bin_pow : binW S .pow (.int i) (.int j) = if 0 ≤ j ∧ j ≤ 1000000 ∧ i.natAbs < 2 ^ 64 then some (.int (i ^ j.toNat)) else none := rfl
@[simp] theorem cmp_lt : cmpW S .lt (.int i) (.int j) = some (.bl (decide (i < j))) := rfl
@[simp] theorem cmp_le : cmpW S .le (.int i) (.int j) = some (.bl (decide (i ≤ j))) := rfl
@[simp] theorem cmp_gt : cmpW S .gt (.int i) (.int j) = some (.bl (decide (j < i))) := rfl
@[simp] theorem cmp_ge : cmpW S .ge (.int i) (.int j) = some (.bl (decide (j ≤ i))) := rfl
@[simp] theorem cmp_isN : cmpW S .isN x .non = some (.bl x.isN) := rfl
@[simp] theorem cmp_notN : cmpW S .notN x .non = some (.bl (!x.isN)) := rfl
@[simp] theorem isN_non : W.isN .non = true := rfl
@[simp] theorem isN_int : W.isN (.int i) = false := rfl
@[simp] theorem isN_bl {b : Bool} : W.isN (.bl b) = false := rfl
@[simp] theorem isN_tup : W.isN (.tup l) = false := rfl
@[simp] theorem isN_lst : W.isN (.lst l) = false := rfl
@[simp] theorem isN_tx {n : Nat} : W.isN (.tx n) = false := rfl
@[simp] theorem isN_str {s : PySem.Str} : W.isN (.str s) = false := rfl
@[simp] theorem isN_scr {l : List Int} : W.isN (.scr l) = false := rfl
@[simp] theorem isN_ref {n : Nat} : W.isN (.ref n) = false := rfl
@[simp] theorem cmp_eqI : cmpW S .eq (.int i) (.int j) = some (.bl (i == j)) := by simp [cmpW, W.shp, W.eq]
@[simp] theorem cmp_neI : cmpW S .ne (.int i) (.int j) = some (.bl (!(i == j))) := by simp [cmpW, W.shp, W.eq]
@[simp] theorem cmp_eqT {i j : Nat} : cmpW S .eq (.tx i) (.tx j) = some (.bl (i == j)) := by simp [cmpW, W.shp, W.eq]
@[simp] theorem cmp_neT {i j : Nat} : cmpW S .ne (.tx i) (.tx j) = some (.bl (!(i == j))) := by simp [cmpW, W.shp, W.eq]
theorem cmp_eq : cmpW S .eq x y = if (x.shp 50 && y.shp 50) = true then some (.bl (W.eq x y)) else none := rfl
theorem cmp_ne : cmpW S .ne x y = if (x.shp 50 && y.shp 50) = true then some (.bl (!W.eq x y)) else none := rfl
theorem cmp_in : cmpW S .in_ x y = (inW S x y).map W.bl := rfl
theorem cmp_notIn : cmpW S .notIn x y = (inW S x y).map fun c => W.bl (!c) := rfl
@[simp] theorem ix_tup' : ixW S (.tup l) (.int i) = atW l i := rfl
@[simp] theorem ix_lst' : ixW S (.lst l) (.int i) = atW l i := rfl
@[simp] theorem ix_scr' {ns : List Int} : ixW S (.scr ns) (.int i) = atW (ns.map W.int) i := rfl
@[simp] theorem at_0 : atW (x :: l) 0 = some x := by simp [atW, ixNat]
@[simp] theorem at_1 : atW (x :: y :: l) 1 = some y := by
  unfold atW ixNat
  rw [if_pos (by decide), if_pos (by simp only [List.length_cons]; omega)]; rfl
@[simp] theorem of_ite {p : Prop} [Decidable p] {α : Type} {a b : Option α} : Out.of (if p then a else b) S = if p then Out.of a S else Out.of b S := by split <;> rfl
end
end
end
end Mi

/-! a def's walk told to its callers -/
namespace Mi
open PySem PySem.Spec PyProof.Rows L2
noncomputable section
section
variable {P : Program} {w : World} {K : PySem.W.Frag} {mg : PySem.Str → Option Value} {base : Heap} {T : Tb} {C : Ctx} {k i n : Nat} {f : Addr} {fd : FuncData} {x : PySem.Str} {ps ks : List PySem.Str} {g : Fn}
theorem FunAt.plain (G : FnOk P w K mg base (CX P w) k f fd ps (spF T K (C.fn i))) (hm : mg x = some (.ref f)) (hk : PySem.W.keepIn K (.ref f) = true) (hb : Binds K fd ps []) (hn : ps.length = n) : FunAt P w K mg base T C k i x n [] := by
  refine ⟨f, fd, ps, fun us _ => us, fun vs _ => vs, _, G, hm, hk, ⟨fun s us ws hin l1 l2 => ?_, fun r _ => r⟩, fun vs zs H Q E h l1 l2 => ?_⟩
  · have := hb s us hin (by simp [l1, hn])
    simpa using this
  · have : zs = [] := List.length_eq_zero_iff.mp l2
    subst this
    rw [List.append_nil] at h
    exact h
theorem FunAt.dflt {dvs : List V} {ds : List Value} (G : FnOk P w K mg base (CX P w) k f fd ps (spF T K g)) (hm : mg x = some (.ref f)) (hk : PySem.W.keepIn K (.ref f) = true) (hd : Vals dvs ds) (hb : Binds K fd ps ds) (hn : ps.length = n + dvs.length)
    (hc : ∀ vs H Q E, spF T K (C.fn i) vs H Q E → vs.length = n → spF T K g (vs ++ dvs) H Q E) : FunAt P w K mg base T C k i x n [] := by
  refine ⟨f, fd, ps, fun us _ => us ++ ds, fun vs _ => vs ++ dvs, _, G, hm, hk, ⟨fun s us ws hin l1 l2 => ?_, fun r _ => r.append hd⟩, fun vs zs H Q E h l1 l2 => ?_⟩
  · have := hb s us hin (by rw [List.length_append, l1, hn, hd.length])
    simpa using this
  · have : zs = [] := List.length_eq_zero_iff.mp l2
    subst this
    rw [List.append_nil] at h
    exact hc vs H Q E h l1
theorem FunAt.kwd {gg : List Value → List Value → List Value} {gV : List V → List V → List V} (G : FnOk P w K mg base (CX P w) k f fd ps (spF T K g)) (hm : mg x = some (.ref f)) (hk : PySem.W.keepIn K (.ref f) = true) (hb : KBn K fd ps n ks gg gV)
    (hc : ∀ vs zs H Q E, spF T K (C.fn i) (vs ++ zs) H Q E → vs.length = n → zs.length = ks.length → spF T K g (gV vs zs) H Q E) : FunAt P w K mg base T C k i x n ks :=
  ⟨f, fd, ps, gg, gV, _, G, hm, hk, hb, hc⟩
/-- f(.., k = v, ..) of a def without defaults -/
theorem kbindsN {x : PySem.Str} {qual : PySem.Str} {params : Arguments} {body : List Stmt} {scope : Scope} {kws : List (PySem.Str × V)} (F : FunD K x qual params body scope [] kws f fd) (n : Nat) (ks : List PySem.Str) (g : {α : Type} → List α → List α → List α)
    (hrel : ∀ {vs zs : List V} {us ws : List Value}, Vals vs us → Vals zs ws → Vals (g vs zs) (g us ws))
    (h : ∀ (kV doc pm : Value) (an : Option Addr) (cdv ct : Value) (us ws : List Value), us.length = n → ws.length = ks.length → bindArgs (PySem.W.fnOf x qual params body scope .none kV doc pm an cdv ct) ⟨us, ks.zip ws⟩ = pure (ps.zip (g us ws))) :
    KBn K fd ps n ks (fun us ws => g us ws) (fun vs zs => g vs zs) := by
  obtain ⟨oc, od, dV, kV, doc, pm, an, cdv, ct, osl, rfl, lk, hcd, hD, hK⟩ := F.ex
  rcases hD with ⟨_, rfl⟩ | ⟨e, _⟩
  · exact ⟨fun s us ws X l1 l2 => .of_eq (h kV doc pm an cdv ct us ws l1 l2), fun r1 r2 => hrel r1 r2⟩
  · exact absurd rfl e
theorem RWs.inv1 {F : Hp} {μ : List Addr} {ws : List W} {v : V} (r : RWs T K F μ ws [v]) : ∃ w, ws = [w] ∧ RW T K F μ w v := by
  cases r with | cons h t => cases t; exact ⟨_, rfl, h⟩
end
end
end Mi

/-! lots of cells, in plain words -/
namespace Lo
abbrev P := Int × Option Int
def inP (p : P) (i : Int) : Bool := decide (p.1 ≤ i) && (match p.2 with
  | none => true
  | some e => decide (i < e))
def hasP (l : List P) (i : Int) : Bool := l.any fun p => inP p i
def okP (p : P) : Prop := ∀ e, p.2 = some e → p.1 < e
def LotF : Int → List P → Prop
  | _, [] => True
  | lo, p :: r => lo ≤ p.1 ∧ match p.2 with
    | none => r = []
    | some e => p.1 < e ∧ LotF (e + 1) r
theorem hasP_cons (p : P) (l : List P) (i : Int) : hasP (p :: l) i = (inP p i || hasP l i) := by simp [hasP]
theorem hasP_append (l m : List P) (i : Int) : hasP (l ++ m) i = (hasP l i || hasP m i) := by simp [hasP]
theorem inP_iff {p : P} {i : Int} : inP p i = true ↔ p.1 ≤ i ∧ ∀ e, p.2 = some e → i < e := by
  obtain ⟨f, e⟩ := p
  cases e <;> simp [inP]
theorem LotF.mono : ∀ {l : List P} {lo lo' : Int}, lo' ≤ lo → LotF lo l → LotF lo' l
  | [], _, _, _, _ => trivial
  | p :: r, _, _, h, ⟨h1, h2⟩ => ⟨Int.le_trans h h1, h2⟩
theorem LotF.low : ∀ {l : List P} {lo i : Int}, LotF lo l → hasP l i = true → lo ≤ i
  | [], _, _, _, h => by cases h
  | p :: r, lo, i, ⟨h1, h2⟩, h => by
    rw [hasP_cons, Bool.or_eq_true, inP_iff] at h
    rcases h with h | h
    · omega
    · cases e : p.2 with
      | none => rw [e] at h2; simp only at h2; subst h2; cases h
      | some x => rw [e] at h2; have := LotF.low h2.2 h; have := h2.1; omega
theorem LotF.first {p : P} {r : List P} {lo : Int} (h : LotF lo (p :: r)) : hasP (p :: r) p.1 = true := by
  rw [hasP_cons, Bool.or_eq_true, inP_iff]
  left
  refine ⟨Int.le_refl _, fun e he => ?_⟩
  have := h.2; rw [he] at this; exact this.1
theorem LotF.gap {p : P} {r : List P} {lo e : Int} (h : LotF lo (p :: r)) (he : p.2 = some e) : hasP (p :: r) e = false := by
  have h2 := h.2
  rw [he] at h2
  rw [hasP_cons, Bool.or_eq_false_iff]
  constructor
  · cases hi : inP p e with
    | false => rfl
    | true => have := (inP_iff.mp hi).2 e he; omega
  · cases hi : hasP r e with
    | false => rfl
    | true => have := LotF.low h2.2 hi; omega
theorem LotF.uniq : ∀ {a b : List P} {lo lo' : Int}, LotF lo a → LotF lo' b → (∀ i, hasP a i = hasP b i) → a = b
  | [], [], _, _, _, _, _ => rfl
  | [], q :: b, _, _, _, hb, h => by have := hb.first; rw [← h] at this; cases this
  | p :: a, [], _, _, ha, _, h => by have := ha.first; rw [h] at this; cases this
  | p :: a, q :: b, lo, lo', ha, hb, h => by
    have e1 : p.1 = q.1 := by
      have h1 := ha.first
      have h2 := hb.first
      rw [h] at h1
      rw [← h] at h2
      have l1 := LotF.low (lo := q.1) (l := q :: b) ⟨Int.le_refl _, hb.2⟩ h1
      have l2 := LotF.low (lo := p.1) (l := p :: a) ⟨Int.le_refl _, ha.2⟩ h2
      omega
    have inn : ∀ {p : P} {a : List P} {lo i : Int}, LotF lo (p :: a) → p.1 ≤ i → (∀ e, p.2 = some e → i < e) → hasP (p :: a) i = true := fun hp h1 h2 => by
      rw [hasP_cons, inP_iff.mpr ⟨h1, h2⟩]; rfl
    have e2 : p.2 = q.2 := by
      cases hp : p.2 with
      | none =>
        cases hq : q.2 with
        | none => rfl
        | some f =>
          have g := hb.gap hq
          have := (show q.1 < f from by have := hb.2; rw [hq] at this; exact this.1)
          rw [← h, inn ha (by omega) (by rw [hp]; intro e z; cases z)] at g; cases g
      | some e =>
        have he := (show p.1 < e from by have := ha.2; rw [hp] at this; exact this.1)
        have g := ha.gap hp
        cases hq : q.2 with
        | none => rw [h, inn hb (by omega) (by rw [hq]; intro e z; cases z)] at g; cases g
        | some f =>
          have hf := (show q.1 < f from by have := hb.2; rw [hq] at this; exact this.1)
          have g2 := hb.gap hq
          by_cases z : e = f
          · rw [z]
          · by_cases z2 : e < f
            · rw [h, inn hb (by omega) (by rw [hq]; intro x hx; cases hx; exact z2)] at g; cases g
            · rw [← h, inn ha (by omega) (by rw [hp]; intro x hx; cases hx; omega)] at g2; cases g2
    have epq : p = q := by obtain ⟨a1, a2⟩ := p; obtain ⟨b1, b2⟩ := q; simp only at e1 e2; rw [e1, e2]
    subst epq
    have ha2 := ha.2
    have hb2 := hb.2
    cases hp : p.2 with
    | none => rw [hp] at ha2 hb2; simp only at ha2 hb2; rw [ha2, hb2]
    | some e =>
      rw [hp] at ha2 hb2
      congr 1
      refine LotF.uniq ha2.2 hb2.2 fun i => ?_
      by_cases hi : e + 1 ≤ i
      · have := h i
        rw [hasP_cons, hasP_cons] at this
        have hn : inP p i = false := by
          cases z : inP p i with
          | false => rfl
          | true => have := (inP_iff.mp z).2 e hp; omega
        rw [hn, Bool.false_or, Bool.false_or] at this; exact this
      · have n1 : hasP a i = false := by
          cases z : hasP a i with
          | false => rfl
          | true => have := LotF.low ha2.2 z; omega
        have n2 : hasP b i = false := by
          cases z : hasP b i with
          | false => rfl
          | true => have := LotF.low hb2.2 z; omega
        rw [n1, n2]
/-! the lot of some stretches -/
def mgP : P → List P → List P
  | cur, [] => [cur]
  | cur, q :: r => match cur.2 with
    | none => mgP cur r
    | some e => if q.1 ≤ e then mgP (cur.1, match q.2 with
        | none => none
        | some f => some (max e f)) r else cur :: mgP q r
def leP (a b : P) : Bool := decide (a.1 ≤ b.1)
def lotS : List P → List P
  | [] => []
  | p :: r => mgP p r
def lotF (ps : List P) : List P := lotS (ps.mergeSort leP)
theorem mg_lot : ∀ (r : List P) (cur : P) (lo : Int), lo ≤ cur.1 → okP cur → (cur :: r).Pairwise (fun a b => a.1 ≤ b.1) → (∀ q ∈ r, okP q) → LotF lo (mgP cur r) ∧ ∀ i, hasP (mgP cur r) i = hasP (cur :: r) i
  | [], cur, lo, h1, h2, _, _ => by
    refine ⟨⟨h1, ?_⟩, fun i => rfl⟩
    cases e : cur.2 with
    | none => rfl
    | some x => exact ⟨h2 x e, trivial⟩
  | q :: r, cur, lo, h1, h2, h3, h4 => by
    have hq : cur.1 ≤ q.1 := List.rel_of_pairwise_cons h3 List.mem_cons_self
    have h3' : ∀ x ∈ r, cur.1 ≤ x.1 := fun x hx => List.rel_of_pairwise_cons h3 (List.mem_cons_of_mem _ hx)
    have hr : r.Pairwise (fun a b => a.1 ≤ b.1) := (List.pairwise_cons.mp (List.pairwise_cons.mp h3).2).2
    have h4' : ∀ x ∈ r, okP x := fun x hx => h4 x (List.mem_cons_of_mem _ hx)
    cases e : cur.2 with
    | none =>
      have eq : mgP cur (q :: r) = mgP cur r := by rw [mgP, e]
      obtain ⟨g1, g2⟩ := mg_lot r cur lo h1 h2 (List.pairwise_cons.mpr ⟨h3', hr⟩) h4'
      refine ⟨by rw [eq]; exact g1, fun i => ?_⟩
      rw [eq, g2 i, hasP_cons, hasP_cons, hasP_cons]
      cases z : inP q i with
      | false => simp
      | true =>
        have : inP cur i = true := inP_iff.mpr ⟨by have := (inP_iff.mp z).1; omega, by rw [e]; intro x hx; cases hx⟩
        rw [this]; simp
    | some x =>
      by_cases hx : q.1 ≤ x
      · have eq : mgP cur (q :: r) = mgP (cur.1, match q.2 with | none => none | some f => some (max x f)) r := by rw [mgP, e]; simp only [if_pos hx]
        have hok : okP (cur.1, match q.2 with | none => none | some f => some (max x f)) := fun y hy => by
          simp only at hy ⊢
          have := h2 x e
          cases eq2 : q.2 with
          | none => rw [eq2] at hy; cases hy
          | some f => rw [eq2] at hy; simp only [Option.some.injEq] at hy; omega
        obtain ⟨g1, g2⟩ := mg_lot r _ lo (by exact h1) hok (List.pairwise_cons.mpr ⟨h3', hr⟩) h4'
        refine ⟨by rw [eq]; exact g1, fun i => ?_⟩
        rw [eq, g2 i, hasP_cons, hasP_cons, hasP_cons, ← Bool.or_assoc]
        congr 1
        rw [Bool.eq_iff_iff, Bool.or_eq_true, inP_iff, inP_iff, inP_iff, e]
        have := h4 q List.mem_cons_self
        cases eq2 : q.2 with
        | none =>
          constructor
          · rintro ⟨a1, _⟩
            by_cases z : i < x
            · exact .inl ⟨a1, fun y hy => by cases hy; exact z⟩
            · exact .inr ⟨by omega, fun y hy => by cases hy⟩
          · rintro (⟨a1, _⟩ | ⟨a1, _⟩)
            · exact ⟨a1, fun y hy => by cases hy⟩
            · exact ⟨by simp only; omega, fun y hy => by cases hy⟩
        | some f =>
          have hf := this f eq2
          constructor
          · rintro ⟨a1, a2⟩
            have a2 := a2 _ rfl
            by_cases z : i < x
            · exact .inl ⟨a1, fun y hy => by cases hy; exact z⟩
            · exact .inr ⟨by omega, fun y hy => by cases hy; omega⟩
          · rintro (⟨a1, a2⟩ | ⟨a1, a2⟩)
            · have := a2 _ rfl
              exact ⟨a1, fun y hy => by cases hy; omega⟩
            · have := a2 _ rfl
              exact ⟨by simp only; omega, fun y hy => by cases hy; omega⟩
      · have eq : mgP cur (q :: r) = cur :: mgP q r := by rw [mgP, e]; simp only [if_neg hx]
        obtain ⟨g1, g2⟩ := mg_lot r q (x + 1) (by omega) (h4 q List.mem_cons_self) (List.pairwise_cons.mp h3).2 h4'
        refine ⟨by rw [eq]; exact ⟨h1, by rw [e]; exact ⟨h2 x e, g1⟩⟩, fun i => ?_⟩
        rw [eq, hasP_cons, g2 i, hasP_cons cur]
theorem leP_total (a b : P) : (leP a b || leP b a) = true := by simp only [leP, Bool.or_eq_true, decide_eq_true_eq]; omega
theorem leP_trans (a b c : P) (h1 : leP a b = true) (h2 : leP b c = true) : leP a c = true := by simp only [leP, decide_eq_true_eq] at *; omega
theorem hasP_perm {l m : List P} (h : l.Perm m) (i : Int) : hasP l i = hasP m i := by
  rw [Bool.eq_iff_iff, hasP, hasP, List.any_eq_true, List.any_eq_true]
  exact ⟨fun ⟨x, hx, h'⟩ => ⟨x, h.mem_iff.mp hx, h'⟩, fun ⟨x, hx, h'⟩ => ⟨x, h.mem_iff.mpr hx, h'⟩⟩
theorem lotF_lot {ps : List P} {lo : Int} (h : ∀ p ∈ ps, okP p ∧ lo ≤ p.1) : LotF lo (lotF ps) ∧ ∀ i, hasP (lotF ps) i = hasP ps i := by
  have hp := List.mergeSort_perm ps leP
  have hs := List.pairwise_mergeSort leP_trans leP_total ps
  unfold lotF
  have hm : ∀ q ∈ ps.mergeSort leP, okP q ∧ lo ≤ q.1 := fun q hq => h q (hp.mem_iff.mp hq)
  have hh := hasP_perm hp
  generalize ps.mergeSort leP = s at hs hm hh
  cases s with
  | nil => exact ⟨trivial, hh⟩
  | cons p r =>
    obtain ⟨g1, g2⟩ := mg_lot r p lo (hm p List.mem_cons_self).2 (hm p List.mem_cons_self).1 (hs.imp fun z => by simpa [leP] using z) fun q hq => (hm q (List.mem_cons_of_mem _ hq)).1
    exact ⟨g1, fun i => (g2 i).trans (hh i)⟩
theorem LotF.ok : ∀ {l : List P} {lo : Int}, LotF lo l → ∀ p ∈ l, okP p ∧ lo ≤ p.1
  | [], _, _, p, hp => by cases hp
  | q :: r, lo, ⟨h1, h2⟩, p, hp => by
    rcases List.mem_cons.mp hp with rfl | hp
    · exact ⟨fun e he => by rw [he] at h2; exact h2.1, h1⟩
    · cases e : q.2 with
      | none => rw [e] at h2; simp only at h2; subst h2; cases hp
      | some x =>
        rw [e] at h2
        obtain ⟨a, b⟩ := LotF.ok h2.2 p hp
        have := h2.1
        exact ⟨a, by omega⟩
/-! what a lot has not -/
def restF : Int → List P → List P
  | at_, [] => [(at_, none)]
  | at_, p :: r => (if at_ < p.1 then [(at_, some p.1)] else []) ++ match p.2 with
    | none => []
    | some e => restF e r
theorem rest_lot : ∀ (l : List P) (at_ : Int), LotF at_ l → LotF at_ (restF at_ l) ∧ ∀ i, hasP (restF at_ l) i = (decide (at_ ≤ i) && !hasP l i)
  | [], at_, _ => ⟨⟨Int.le_refl _, rfl⟩, fun i => by simp [restF, hasP, inP]⟩
  | p :: r, at_, h => by
    obtain ⟨h1, h2⟩ := h
    cases e : p.2 with
    | none =>
      rw [e] at h2; simp only at h2; subst h2
      by_cases z : at_ < p.1
      · have eq : restF at_ [p] = [(at_, some p.1)] := by rw [restF, e]; simp [z]
        rw [eq]
        refine ⟨⟨Int.le_refl _, z, trivial⟩, fun i => ?_⟩
        have : inP p i = decide (p.1 ≤ i) := by simp [inP, e]
        have h4 : decide (i < p.1) = !decide (p.1 ≤ i) := by
          by_cases h3 : p.1 ≤ i
          · simp [h3]
          · simp [h3]; omega
        have hl : hasP [(at_, some p.1)] i = (decide (at_ ≤ i) && decide (i < p.1)) := by simp [hasP, inP]
        have hr : hasP [p] i = decide (p.1 ≤ i) := by simp [hasP, this]
        rw [hl, hr, h4]
      · have eq : restF at_ [p] = [] := by rw [restF, e]; simp [z]
        rw [eq]
        refine ⟨trivial, fun i => ?_⟩
        have : inP p i = decide (p.1 ≤ i) := by simp [inP, e]
        simp only [hasP, List.any_cons, List.any_nil, Bool.or_false, this]
        by_cases h3 : at_ ≤ i
        · have : p.1 ≤ i := by omega
          simp [this]
        · simp [h3]
    | some x =>
      rw [e] at h2
      obtain ⟨g1, g2⟩ := rest_lot r x (h2.2.mono (by omega))
      have hin : ∀ i, inP p i = (decide (p.1 ≤ i) && decide (i < x)) := fun i => by simp [inP, e]
      have hx := h2.1
      have low : ∀ i, i < x + 1 → hasP r i = false := fun i hi => by
        cases z : hasP r i with
        | false => rfl
        | true => have := LotF.low h2.2 z; omega
      by_cases z : at_ < p.1
      · have eq : restF at_ (p :: r) = (at_, some p.1) :: restF x r := by rw [restF, e]; simp [z]
        rw [eq]
        refine ⟨⟨Int.le_refl _, z, g1.mono (by omega)⟩, fun i => ?_⟩
        rw [hasP_cons, hasP_cons, g2 i, hin]
        have : inP (at_, some p.1) i = (decide (at_ ≤ i) && decide (i < p.1)) := rfl
        rw [this]
        by_cases h3 : at_ ≤ i
        · by_cases h4 : p.1 ≤ i
          · by_cases h5 : i < x
            · simp [h3, h4, h5, show ¬ i < p.1 by omega, show ¬ x ≤ i by omega]
            · simp [h3, h4, h5, show ¬ i < p.1 by omega, show x ≤ i by omega]
          · simp [h3, h4, show i < p.1 by omega, show ¬ x ≤ i by omega, low i (by omega)]
        · simp [h3, show ¬ x ≤ i by omega]
      · have eq : restF at_ (p :: r) = restF x r := by rw [restF, e]; simp [z]
        rw [eq]
        refine ⟨g1.mono (by omega), fun i => ?_⟩
        rw [hasP_cons, g2 i, hin]
        by_cases h5 : x ≤ i
        · simp [h5, show at_ ≤ i by omega, show ¬ i < x by omega]
        · by_cases h3 : at_ ≤ i
          · simp [h5, h3, show p.1 ≤ i by omega, show i < x by omega]
          · simp [h5, h3]
/-! what two have in common -/
def minE : Option Int → Option Int → Option Int
  | none, x => x
  | some a, none => some a
  | some a, some b => some (min a b)
def shP (p q : P) : Option P := match minE p.2 q.2 with
  | none => some (max p.1 q.1, none)
  | some e => if e ≤ max p.1 q.1 then none else some (max p.1 q.1, some e)
def inO (o : Option P) (i : Int) : Bool := match o with
  | none => false
  | some r => inP r i
theorem sh_in (p q : P) (i : Int) : inO (shP p q) i = (inP p i && inP q i) := by
  obtain ⟨a, b⟩ := p
  obtain ⟨c, d⟩ := q
  rw [Bool.eq_iff_iff, Bool.and_eq_true, inP_iff, inP_iff]
  cases b with
  | none => cases d with
    | none => simp only [shP, minE, inO, inP_iff]; constructor
              · rintro ⟨h, _⟩; exact ⟨⟨by omega, fun e z => by cases z⟩, by omega, fun e z => by cases z⟩
              · rintro ⟨⟨h1, _⟩, h2, _⟩; exact ⟨by omega, fun e z => by cases z⟩
    | some y =>
      simp only [shP, minE]
      split
      · simp only [inO]
        constructor
        · intro z; cases z
        · rintro ⟨⟨h1, _⟩, h2, h3⟩; have := h3 _ rfl; omega
      · simp only [inO, inP_iff]
        constructor
        · rintro ⟨h, h'⟩; have := h' _ rfl; exact ⟨⟨by omega, fun e z => by cases z⟩, by omega, fun e z => by cases z; exact this⟩
        · rintro ⟨⟨h1, _⟩, h2, h3⟩; have := h3 _ rfl; exact ⟨by omega, fun e z => by cases z; exact this⟩
  | some x => cases d with
    | none =>
      simp only [shP, minE]
      split
      · simp only [inO]
        constructor
        · intro z; cases z
        · rintro ⟨⟨h1, h3⟩, h2, _⟩; have := h3 _ rfl; omega
      · simp only [inO, inP_iff]
        constructor
        · rintro ⟨h, h'⟩; have := h' _ rfl; exact ⟨⟨by omega, fun e z => by cases z; exact this⟩, by omega, fun e z => by cases z⟩
        · rintro ⟨⟨h1, h3⟩, h2, _⟩; have := h3 _ rfl; exact ⟨by omega, fun e z => by cases z; exact this⟩
    | some y =>
      simp only [shP, minE]
      split
      · simp only [inO]
        constructor
        · intro z; cases z
        · rintro ⟨⟨h1, h3⟩, h2, h4⟩; have := h3 _ rfl; have := h4 _ rfl; omega
      · simp only [inO, inP_iff]
        constructor
        · rintro ⟨h, h'⟩; have := h' _ rfl; exact ⟨⟨by omega, fun e z => by cases z; omega⟩, by omega, fun e z => by cases z; omega⟩
        · rintro ⟨⟨h1, h3⟩, h2, h4⟩; have := h3 _ rfl; have := h4 _ rfl; exact ⟨by omega, fun e z => by cases z; omega⟩
theorem sh_ok {p q r : P} (h : shP p q = some r) : okP r ∧ p.1 ≤ r.1 := by
  unfold shP at h
  split at h
  · cases h; exact ⟨fun e z => (by cases z), (by simp only; omega)⟩
  · split at h
    · cases h
    · cases h
      rename_i e _ hn
      exact ⟨fun y hy => (by cases hy; simp only; omega), (by simp only; omega)⟩
def bothF (a b : List P) : List P := lotF ((a.flatMap fun p => b.map (shP p)).filterMap id)
theorem hasP_fm (l : List (Option P)) (i : Int) : hasP (l.filterMap id) i = l.any fun o => inO o i := by
  induction l with
  | nil => rfl
  | cons o l ih =>
    cases o with
    | none => simpa [inO] using ih
    | some r => simp only [List.filterMap_cons, id] at ih ⊢; rw [hasP_cons, ih]; rfl
theorem any_and {α : Type} (c : Bool) (f : α → Bool) : ∀ l : List α, (l.any fun x => c && f x) = (c && l.any f)
  | [] => by simp
  | a :: l => by rw [List.any_cons, List.any_cons, any_and c f l]; cases c <;> simp
theorem both_lot {a b : List P} {lo : Int} (h : ∀ p ∈ a, lo ≤ p.1) : LotF lo (bothF a b) ∧ ∀ i, hasP (bothF a b) i = (hasP a i && hasP b i) := by
  have h1 : ∀ r ∈ (a.flatMap fun p => b.map (shP p)).filterMap id, okP r ∧ lo ≤ r.1 := fun r hr => by
    obtain ⟨o, ho, e⟩ := List.mem_filterMap.mp hr
    simp only [id] at e
    subst e
    obtain ⟨p, hp, hm⟩ := List.mem_flatMap.mp ho
    obtain ⟨q, hq, e⟩ := List.mem_map.mp hm
    obtain ⟨g1, g2⟩ := sh_ok e
    exact ⟨g1, Int.le_trans (h p hp) g2⟩
  obtain ⟨g1, g2⟩ := lotF_lot h1
  refine ⟨g1, fun i => ?_⟩
  unfold bothF
  rw [g2 i, hasP_fm, List.any_flatMap]
  have : ∀ p : P, ((b.map (shP p)).any fun o => inO o i) = (inP p i && hasP b i) := fun p => by
    rw [List.any_map, hasP, ← any_and]
    congr 1; funext q; exact sh_in p q i
  simp only [this, hasP]
  induction a with
  | nil => rfl
  | cons p a ih =>
    rw [List.any_cons, List.any_cons]
    have ih' : (a.any fun p => inP p i && b.any fun p => inP p i) = (a.any (fun p => inP p i) && b.any fun p => inP p i) := by
      clear ih h h1 g1 g2
      induction a with
      | nil => rfl
      | cons q a ih => rw [List.any_cons, List.any_cons, ih]; cases inP q i <;> cases (b.any fun p => inP p i) <;> simp
    rw [ih']
    cases inP p i <;> cases (b.any fun p => inP p i) <;> simp
end Lo

/-! cells below thirteen, in plain words -/
namespace Lo
/-- the end of a run -/
def endF (m : Int → Bool) : Nat → Int → Int
  | 0, e => e
  | n + 1, e => if m e = true then endF m n (e + 1) else e
theorem endF_spec (m : Int → Bool) : ∀ (k : Nat) (e : Int), e ≤ endF m k e ∧ (m (endF m k e) = false ∨ endF m k e = e + k) ∧ ∀ i, e ≤ i → i < endF m k e → m i = true
  | 0, e => ⟨Int.le_refl _, .inr (by simp [endF]), fun i h1 h2 => by simp only [endF] at h2; omega⟩
  | k + 1, e => by
    cases hm : m e with
    | false =>
      have : endF m (k + 1) e = e := by simp [endF, hm]
      rw [this]
      exact ⟨Int.le_refl _, .inl hm, fun i h1 h2 => by omega⟩
    | true =>
      have : endF m (k + 1) e = endF m k (e + 1) := by simp [endF, hm]
      rw [this]
      obtain ⟨h1, h2, h3⟩ := endF_spec m k (e + 1)
      refine ⟨by omega, ?_, fun i g1 g2 => ?_⟩
      · rcases h2 with h2 | h2
        · exact .inl h2
        · exact .inr (by omega)
      · by_cases z : i = e
        · rw [z]; exact hm
        · exact h3 i (by omega) g2
structure Small (m : Int → Bool) : Prop where
  ok : ∀ i, m i = true → 0 ≤ i ∧ i ≤ 12
theorem Small.end_ {m : Int → Bool} (h : Small m) {n : Int} (hn : 0 ≤ n) (hn2 : n < 13) : m (endF m 99 n) = false := by
  obtain ⟨h1, h2, h3⟩ := endF_spec m 99 n
  rcases h2 with h2 | h2
  · exact h2
  · cases e : m (endF m 99 n) with
    | false => rfl
    | true => have := h.ok _ e; omega
def runP (m : Int → Bool) (c : Int) : List P := if m c = true ∧ m (c - 1) = false then [(c, if endF m 99 c = 13 then none else some (endF m 99 c))] else []
def runsP (m : Int → Bool) : List P := (List.range 13).flatMap fun (c : Nat) => runP m c
/-- all cells, the thirteenth standing for those behind -/
def extB (m : Int → Bool) (i : Int) : Bool := decide (0 ≤ i) && m (min i 12)
theorem runP_spec {m : Int → Bool} (h : Small m) {c : Nat} {x : P} (hx : x ∈ runP m c) : m c = true ∧ m ((c : Int) - 1) = false ∧ (c : Int) < endF m 99 c ∧ endF m 99 c ≤ 13 ∧ m (endF m 99 c) = false ∧ (∀ i, (c : Int) ≤ i → i < endF m 99 c → m i = true) ∧ x = ((c : Int), if endF m 99 c = 13 then none else some (endF m 99 c)) := by
  unfold runP at hx
  split at hx
  · rename_i hc
    rw [List.mem_singleton] at hx
    obtain ⟨h1, h2, h3⟩ := endF_spec m 99 c
    have hc0 := h.ok _ hc.1
    have he := h.end_ (n := c) (by omega) (by omega)
    have hne : endF m 99 c ≠ c := fun z => by rw [z, hc.1] at he; cases he
    refine ⟨hc.1, hc.2, by omega, ?_, he, h3, hx⟩
    have := h3 (endF m 99 c - 1) (by omega) (by omega)
    have := h.ok _ this
    omega
  · cases hx
theorem lot_of_pairs : ∀ {l : List P} {lo : Int}, (∀ p ∈ l, okP p ∧ lo ≤ p.1) → l.Pairwise (fun p q => ∃ e, p.2 = some e ∧ e < q.1) → LotF lo l
  | [], _, _, _ => trivial
  | p :: r, lo, h, hp => by
    rw [List.pairwise_cons] at hp
    obtain ⟨a, b⟩ := h p List.mem_cons_self
    refine ⟨b, ?_⟩
    cases e : p.2 with
    | none =>
      cases r with
      | nil => rfl
      | cons q r => obtain ⟨x, hx, _⟩ := hp.1 q List.mem_cons_self; rw [e] at hx; cases hx
    | some x =>
      refine ⟨a x e, lot_of_pairs (fun q hq => ⟨(h q (List.mem_cons_of_mem _ hq)).1, ?_⟩) hp.2⟩
      obtain ⟨y, hy, hlt⟩ := hp.1 q hq
      rw [e] at hy; cases hy; omega
theorem run_start {m : Int → Bool} (h : Small m) : ∀ (j : Nat), m j = true → ∃ s : Nat, s ≤ j ∧ m s = true ∧ m ((s : Int) - 1) = false ∧ ∀ i, (s : Int) ≤ i → i ≤ j → m i = true
  | 0, hj => by
    refine ⟨0, Nat.le_refl _, hj, ?_, fun i h1 h2 => ?_⟩
    · cases e : m (((0 : Nat) : Int) - 1) with
      | false => rfl
      | true => have := h.ok _ e; omega
    · have : i = 0 := by omega
      rw [this]; exact hj
  | j + 1, hj => by
    cases e : m (j : Nat) with
    | false =>
      refine ⟨j + 1, Nat.le_refl _, hj, ?_, fun i h1 h2 => ?_⟩
      · rw [show (((j + 1 : Nat) : Int) - 1) = (j : Int) by omega]; exact e
      · have : i = ((j + 1 : Nat) : Int) := by omega
        rw [this]; exact hj
    | true =>
      obtain ⟨s, h1, h2, h3, h4⟩ := run_start h j e
      refine ⟨s, by omega, h2, h3, fun i g1 g2 => ?_⟩
      by_cases z : i ≤ j
      · exact h4 i g1 z
      · have : i = ((j + 1 : Nat) : Int) := by omega
        rw [this]; exact hj
theorem runs_lot {m : Int → Bool} (h : Small m) : LotF 0 (runsP m) ∧ ∀ i, hasP (runsP m) i = extB m i := by
  constructor
  · refine lot_of_pairs (fun p hp => ?_) ?_
    · obtain ⟨c, _, hx⟩ := List.mem_flatMap.mp hp
      obtain ⟨h1, _, h2, h3, _, _, rfl⟩ := runP_spec h hx
      refine ⟨fun e he => ?_, by have := (h.ok _ h1).1; exact this⟩
      simp only at he
      split at he
      · cases he
      · cases he; exact h2
    · unfold runsP
      rw [List.pairwise_flatMap]
      refine ⟨fun c _ => ?_, ?_⟩
      · unfold runP; split
        · exact List.pairwise_singleton _ _
        · exact List.Pairwise.nil
      · refine List.Pairwise.imp ?_ (List.pairwise_lt_range (n := 13))
        intro c c' hlt x hx y hy
        obtain ⟨h1, h1', h2, h3, h4, h5, rfl⟩ := runP_spec h hx
        obtain ⟨g1, g1', g2, g3, g4, g5, rfl⟩ := runP_spec h hy
        have key : endF m 99 c < c' := by
          by_cases z : endF m 99 c < c'
          · exact z
          · exfalso
            by_cases z2 : (c' : Int) = endF m 99 c
            · rw [← z2, g1] at h4; cases h4
            · have := h5 (c' - 1) (by omega) (by omega)
              rw [g1'] at this; cases this
        have hE : endF m 99 c ≠ 13 := by
          have := h.ok _ g1; omega
        simp only
        rw [if_neg hE]
        exact ⟨_, rfl, key⟩
  · intro i
    rw [Bool.eq_iff_iff]
    unfold hasP
    rw [List.any_eq_true]
    constructor
    · rintro ⟨p, hp, hi⟩
      obtain ⟨c, _, hx⟩ := List.mem_flatMap.mp hp
      obtain ⟨h1, _, h2, h3, _, h5, rfl⟩ := runP_spec h hx
      have hc := h.ok _ h1
      rw [inP_iff] at hi
      obtain ⟨a1, a2⟩ := hi
      simp only at a1 a2
      unfold extB
      rw [Bool.and_eq_true, decide_eq_true_eq]
      refine ⟨by omega, h5 _ (by omega) ?_⟩
      by_cases z : endF m 99 c = 13
      · omega
      · rw [if_neg z] at a2
        have := a2 _ rfl; omega
    · intro hx
      unfold extB at hx
      rw [Bool.and_eq_true, decide_eq_true_eq] at hx
      obtain ⟨h0, hm⟩ := hx
      obtain ⟨s, h1, h2, h3, h4⟩ := run_start h (min i 12).toNat (by rw [show ((min i 12).toNat : Int) = min i 12 by omega]; exact hm)
      obtain ⟨e1, e2, e3⟩ := endF_spec m 99 s
      have hs := h.ok _ h2
      have he := h.end_ (n := s) (by omega) (by omega)
      have hlt : min i 12 < endF m 99 s := by
        by_cases z : min i 12 < endF m 99 s
        · exact z
        · have := h4 (endF m 99 s) e1 (by omega)
          rw [he] at this; cases this
      refine ⟨((s : Int), if endF m 99 s = 13 then none else some (endF m 99 s)), List.mem_flatMap.mpr ⟨s, by rw [List.mem_range]; omega, by unfold runP; rw [if_pos ⟨h2, h3⟩]; exact List.mem_singleton.mpr rfl⟩, ?_⟩
      rw [inP_iff]
      refine ⟨by simp only; omega, fun e he' => ?_⟩
      simp only at he'
      split at he'
      · cases he'
      · rename_i hne
        cases he'
        have : endF m 99 s ≤ 13 := by
          have := e3 (endF m 99 s - 1) (by omega) (by omega)
          have := h.ok _ this; omega
        omega
theorem runs_len (m : Int → Bool) : (runsP m).length ≤ 13 := by
  have : ∀ l : List Nat, (l.flatMap fun (c : Nat) => runP m c).length ≤ l.length := by
    intro l
    induction l with
    | nil => simp
    | cons a l ih =>
      rw [List.flatMap_cons, List.length_append, List.length_cons]
      have : (runP m a).length ≤ 1 := by unfold runP; split <;> simp
      omega
  simpa [runsP] using this (List.range 13)
/-! how many -/
def cnt (m : Int → Bool) : Nat := (List.range 13).countP fun (n : Nat) => m n
theorem countP_or {α : Type} (p q : α → Bool) : ∀ {l : List α}, (∀ x ∈ l, ¬(p x = true ∧ q x = true)) → l.countP (fun x => p x || q x) = l.countP p + l.countP q
  | [], _ => rfl
  | a :: l, h => by
    rw [List.countP_cons, List.countP_cons, List.countP_cons, countP_or p q fun x hx => h x (List.mem_cons_of_mem _ hx)]
    have := h a List.mem_cons_self
    cases hp : p a <;> cases hq : q a <;> simp [hp, hq] at this ⊢ <;> omega
theorem count_between (f e : Nat) : ∀ n : Nat, (List.range n).countP (fun k => decide (f ≤ k) && decide (k < e)) = min e n - min f n
  | 0 => by simp
  | n + 1 => by
    rw [List.range_succ, List.countP_append, count_between f e n, List.countP_cons, List.countP_nil]
    by_cases h1 : f ≤ n
    · by_cases h2 : n < e
      · simp [h1, h2]; omega
      · simp [h1, h2]; omega
    · simp [h1]; omega
/-- how many cells a lot has -/
def sizeF (l : List P) : Int := (l.map fun p => p.2.getD 0 - p.1).sum
theorem size_cnt : ∀ {l : List P} {lo : Int}, 0 ≤ lo → LotF lo l → (∀ p ∈ l, ∃ e, p.2 = some e ∧ e ≤ 13) → sizeF l = cnt (hasP l)
  | [], _, _, _, _ => by simp [sizeF, cnt, hasP]
  | p :: r, lo, h0, ⟨h1, h2⟩, hb => by
    obtain ⟨e, he, he13⟩ := hb p List.mem_cons_self
    rw [he] at h2
    have hlt := h2.1
    have ih := size_cnt (l := r) (lo := e + 1) (by omega) h2.2 fun q hq => hb q (List.mem_cons_of_mem _ hq)
    have e1 : sizeF (p :: r) = (e - p.1) + sizeF r := by simp [sizeF, he]
    have e2 : cnt (hasP (p :: r)) = cnt (inP p) + cnt (hasP r) := by
      unfold cnt
      have : (fun (n : Nat) => hasP (p :: r) n) = fun (n : Nat) => inP p n || hasP r n := by funext n; exact hasP_cons p r n
      rw [this, countP_or]
      rintro x _ ⟨a1, a2⟩
      have := (inP_iff.mp a1).2 e he
      have := LotF.low h2.2 a2
      omega
    have e3 : (cnt (inP p) : Int) = e - p.1 := by
      have := count_between p.1.toNat e.toNat 13
      have hf : (fun (n : Nat) => inP p n) = fun (k : Nat) => decide (p.1.toNat ≤ k) && decide (k < e.toNat) := by
        funext n
        rw [Bool.eq_iff_iff, inP_iff, Bool.and_eq_true, decide_eq_true_eq, decide_eq_true_eq]
        constructor
        · rintro ⟨a, b⟩; have := b e he; omega
        · rintro ⟨a, b⟩; exact ⟨by omega, fun y hy => by rw [he] at hy; cases hy; omega⟩
      unfold cnt
      rw [hf, this]; omega
    rw [e1, e2, ih]; omega
theorem dedup_spec : ∀ (ns acc : List Int), acc.Nodup → (ns.foldl PyProof.Rows.step_dedup acc).Nodup ∧ ∀ i, i ∈ ns.foldl PyProof.Rows.step_dedup acc ↔ i ∈ acc ∨ i ∈ ns
  | [], acc, h => ⟨h, fun i => by simp⟩
  | n :: ns, acc, h => by
    rw [List.foldl_cons]
    by_cases hn : acc.any (· == n) = true
    · have e : PyProof.Rows.step_dedup acc n = acc := by unfold PyProof.Rows.step_dedup; rw [if_pos hn]
      rw [e]
      obtain ⟨g1, g2⟩ := dedup_spec ns acc h
      refine ⟨g1, fun i => ?_⟩
      rw [g2 i, List.mem_cons]
      have hm : n ∈ acc := by obtain ⟨x, hx, e⟩ := List.any_eq_true.mp hn; rw [← beq_iff_eq.mp e]; exact hx
      constructor
      · rintro (a | a)
        · exact .inl a
        · exact .inr (.inr a)
      · rintro (a | a | a)
        · exact .inl a
        · rw [a]; exact .inl hm
        · exact .inr a
    · have e : PyProof.Rows.step_dedup acc n = acc ++ [n] := by unfold PyProof.Rows.step_dedup; rw [if_neg hn]
      rw [e]
      have hm : n ∉ acc := fun hm => hn (List.any_eq_true.mpr ⟨n, hm, by simp⟩)
      obtain ⟨g1, g2⟩ := dedup_spec ns (acc ++ [n]) (List.nodup_append.mpr ⟨h, by simp, fun a ha b hb => by rw [List.mem_singleton.mp hb]; exact fun z => hm (z ▸ ha)⟩)
      refine ⟨g1, fun i => ?_⟩
      rw [g2 i, List.mem_append, List.mem_singleton, List.mem_cons, or_assoc]
theorem get_map (ns : List Int) : (List.range ns.length).map (fun i => ns.getD i 0) = ns := by
  refine List.ext_getElem (by simp) fun i h1 h2 => ?_
  simp at h1 ⊢
  simp [h1]
theorem distinct_cnt {ns : List Int} {m : Int → Bool} (hm : ∀ i, m i = true ↔ i ∈ ns) (hs : Small m) : Mi.distinct ns = cnt m := by
  unfold Mi.distinct PyProof.Rows.firstMet
  rw [get_map]
  obtain ⟨g1, g2⟩ := dedup_spec ns [] List.nodup_nil
  have : (ns.foldl PyProof.Rows.step_dedup []).Perm (((List.range 13).filter fun (n : Nat) => m n).map fun (n : Nat) => (n : Int)) := by
    refine (List.perm_ext_iff_of_nodup g1 ?_).mpr fun i => ?_
    · exact List.pairwise_map.mpr (((List.nodup_range (n := 13)).filter _).imp fun h z => h (by omega))
    · rw [g2 i, List.mem_map]
      constructor
      · rintro (a | a)
        · cases a
        · have hi := (hm i).mpr a
          have := hs.ok i hi
          refine ⟨i.toNat, List.mem_filter.mpr ⟨by rw [List.mem_range]; omega, ?_⟩, by omega⟩
          rw [show (i.toNat : Int) = i by omega]; exact hi
      · rintro ⟨n, hn, rfl⟩
        exact .inr ((hm _).mp (List.mem_filter.mp hn).2)
  rw [this.length_eq, List.length_map, ← List.countP_eq_length_filter]
  rfl
theorem cnt_congr {m m' : Int → Bool} (h : ∀ i : Int, 0 ≤ i → i ≤ 12 → m i = m' i) : cnt m = cnt m' := by
  unfold cnt
  refine List.countP_congr fun n hn => ?_
  rw [List.mem_range] at hn
  rw [h n (by omega) (by omega)]
end Lo

/-! more words for simp; lots as values -/
namespace Mi
open PySem PySem.Spec PyProof.Rows L2
noncomputable section
section
variable {C : Ctx} {L : List Nat} {env : Env} {e0 : Option W} {S S1 : Sto} {N : Nat}
def srtK (C : Ctx) (L : List Nat) (e : M) (x : Out W) : Out W := x.bind fun x S1 => match x.seqs S1 with
  | none => .bad
  | some xs => match keysL (fun x S => ev C L e [some x] S) S1 xs with
    | none => .bad
    | some ks => Out.of ((srtW C.dat xs ks).map .lst) S1
@[simp] theorem ev_srt {it e : M} : ev C L (.srt it e) (e0 :: env) S = srtK C L e (ev C L it (e0 :: env) S) := rfl
@[simp] theorem srtK_ok {e : M} {x : W} : srtK C L e (.ok x S) = match x.seqs S with
  | none => .bad
  | some xs => match keysL (fun x S => ev C L e [some x] S) S xs with
    | none => .bad
    | some ks => Out.of ((srtW C.dat xs ks).map .lst) S := rfl
def parK (i j : Nat) (env : Env) (x : Out W) : Out Fl := x.bind fun w S1 => match w with
  | .tup [a, b] => .ok (.nx ((env.set i (some a)).set j (some b))) S1
  | _ => .bad
@[simp] theorem ex_par {i j : Nat} {m : M} : exS C N L (.par i j m) (e0 :: env) S = parK i j (e0 :: env) (ev C L m (e0 :: env) S) := rfl
@[simp] theorem parK_ok {i j : Nat} {a b : W} : parK i j env (.ok (.tup [a, b]) S) = .ok (.nx ((env.set i (some a)).set j (some b))) S := rfl
theorem keysL_map {f : W → Sto → Out W} {S : Sto} {g : W → W} : ∀ {l : List W}, (∀ x ∈ l, f x S = .ok (g x) S) → keysL f S l = some (l.map g)
  | [], _ => rfl
  | x :: l, h => by
    rw [keysL, h x List.mem_cons_self]
    simp only [if_true]
    rw [keysL_map fun y hy => h y (List.mem_cons_of_mem _ hy)]; rfl
theorem lcL_map {step : W → Sto → Out (Option W)} {S : Sto} {f : W → W} : ∀ {l : List W}, (∀ x ∈ l, step x S = .ok (some (f x)) S) → lcL step l S = .ok (l.map f) S
  | [], _ => rfl
  | x :: l, h => by
    rw [lcL, h x List.mem_cons_self, Out.bind_ok, lcL_map fun y hy => h y (List.mem_cons_of_mem _ hy)]; rfl
theorem lcL_filter {step : W → Sto → Out (Option W)} {S : Sto} {p : W → Bool} {f : W → W} : ∀ {l : List W}, (∀ x ∈ l, step x S = .ok (if p x = true then some (f x) else none) S) → lcL step l S = .ok ((l.filter p).map f) S
  | [], _ => rfl
  | x :: l, h => by
    rw [lcL, h x List.mem_cons_self, Out.bind_ok, lcL_filter fun y hy => h y (List.mem_cons_of_mem _ hy)]
    by_cases z : p x = true
    · simp [z]
    · simp [z]
theorem lcL_fm {α : Type} {step : W → Sto → Out (Option W)} {S : Sto} {e : α → W} {f : α → Option W} : ∀ {l : List α}, (∀ x ∈ l, step (e x) S = .ok (f x) S) → lcL step (l.map e) S = .ok (l.filterMap f) S
  | [], _ => rfl
  | x :: l, h => by
    rw [List.map_cons, lcL, h x List.mem_cons_self, Out.bind_ok, lcL_fm fun y hy => h y (List.mem_cons_of_mem _ hy), Out.bind_ok]
    cases hf : f x with
    | none => rw [List.filterMap_cons_none hf]; rfl
    | some w => rw [List.filterMap_cons_some hf]; rfl
theorem lcL2_fm {α : Type} {step : W → Sto → Out (List W)} {S : Sto} {e : α → W} {f : α → List W} : ∀ {l : List α}, (∀ x ∈ l, step (e x) S = .ok (f x) S) → lcL2 step (l.map e) S = .ok (l.flatMap f) S
  | [], _ => rfl
  | x :: l, h => by
    rw [List.map_cons, lcL2, h x List.mem_cons_self, Out.bind_ok, lcL2_fm fun y hy => h y (List.mem_cons_of_mem _ hy), Out.bind_ok, List.flatMap_cons]
theorem allBls_map {α : Type} (f : α → Bool) : ∀ l : List α, allBls (l.map fun x => .bl (f x)) = some (l.map f)
  | [] => rfl
  | a :: l => by simp [allBls, allBls_map f l]
theorem allInts_map {α : Type} (f : α → Int) : ∀ l : List α, allInts (l.map fun x => .int (f x)) = some (l.map f)
  | [] => rfl
  | a :: l => by simp [allInts, allInts_map f l]
end
/-! stretches as values -/
def endW : Option Int → W
  | none => .non
  | some e => .int e
def stW (p : Lo.P) : W := .tup [.int p.1, endW p.2]
def unS : W → Option Lo.P
  | .tup [.int f, .non] => some (f, none)
  | .tup [.int f, .int e] => some (f, some e)
  | _ => none
def unSs : List W → Option (List Lo.P)
  | [] => some []
  | x :: l => match unS x, unSs l with
    | some p, some ps => some (p :: ps)
    | _, _ => none
theorem unS_eq {x : W} {p : Lo.P} (h : unS x = some p) : x = stW p := by
  unfold unS at h
  split at h <;> first | (cases h; rfl) | cases h
theorem unSs_eq : ∀ {l : List W} {ps : List Lo.P}, unSs l = some ps → l = ps.map stW
  | [], _, h => by cases h; rfl
  | x :: l, _, h => by
    simp only [unSs] at h
    split at h
    · rename_i p qs h1 h2
      cases h
      rw [unS_eq h1, unSs_eq h2]; rfl
    · cases h
@[simp] theorem unS_st (p : Lo.P) : unS (stW p) = some p := by
  obtain ⟨f, e⟩ := p
  cases e <;> rfl
@[simp] theorem unSs_st : ∀ ps : List Lo.P, unSs (ps.map stW) = some ps
  | [] => rfl
  | p :: ps => by rw [List.map_cons, unSs, unS_st, unSs_st ps]
theorem fz_end (S : Sto) (n d : Nat) (e : Option Int) : fz S n d (endW e) = some (endW e) := by cases e <;> cases d <;> simp [fz, endW]
theorem fz_sts (S : Sto) (n d : Nat) : ∀ ps : List Lo.P, fzs S n (d + 1) (ps.map stW) = some (ps.map stW)
  | [] => by simp [fzs]
  | p :: ps => by
    have h : fz S n (d + 1) (stW p) = some (stW p) := by
      have h1 : fz S n d (.int p.1) = some (.int p.1) := by cases d <;> simp [fz]
      have h2 : fzs S n d [] = some [] := by cases d <;> simp [fzs]
      simp only [stW, fz, fzs, h1, fz_end, h2, Option.map_some]
    rw [List.map_cons, fzs, h, fz_sts S n d ps]
theorem shp_end (e : Option Int) (n : Nat) : (endW e).shp n = true := by cases e <;> simp [endW, W.shp]
theorem shp_st (p : Lo.P) (n : Nat) : (stW p).shp (n + 1) = true := by simp [stW, W.shp, W.shps, shp_end]
theorem shps_of {n : Nat} : ∀ {l : List W}, (∀ x ∈ l, x.shp n = true) → W.shps n l = true
  | [], _ => by cases n <;> rfl
  | x :: l, h => by
    rw [W.shps, h x List.mem_cons_self, shps_of fun y hy => h y (List.mem_cons_of_mem _ hy)]; rfl
theorem shps_sts (ps : List Lo.P) (n : Nat) : W.shps (n + 1) (ps.map stW) = true := shps_of fun x hx => by
  obtain ⟨p, _, rfl⟩ := List.mem_map.mp hx
  exact shp_st p n
theorem eq_end (a b : Option Int) : W.eq (endW a) (endW b) = decide (a = b) := by
  cases a <;> cases b <;> simp [endW, W.eq]
  rw [Bool.eq_iff_iff]; simp
theorem eq_st (p q : Lo.P) : W.eq (stW p) (stW q) = decide (p = q) := by
  obtain ⟨a, b⟩ := p; obtain ⟨c, d⟩ := q
  simp only [stW, W.eq, W.eqs, eq_end, Bool.and_true]
  rw [Bool.eq_iff_iff]; simp
theorem eqs_sts : ∀ a b : List Lo.P, W.eqs (a.map stW) (b.map stW) = decide (a = b)
  | [], [] => by simp [W.eqs]
  | [], _ :: _ => by simp [W.eqs]
  | _ :: _, [] => by simp [W.eqs]
  | p :: a, q :: b => by
    rw [List.map_cons, List.map_cons, W.eqs, eq_st, eqs_sts a b, Bool.eq_iff_iff]; simp
def fstW : W → W
  | .tup (a :: _) => a
  | x => x
/-- stretches in the order of their firsts -/
theorem srt_sts {T : Tb} {ps : List Lo.P} (h : ps.length ≤ 16777216) : srtW (W.toD T) (ps.map stW) ((ps.map stW).map fstW) = some ((ps.mergeSort Lo.leP).map stW) := by
  have ek : ((ps.map stW).map fstW) = ps.map fun p => W.int p.1 := by rw [List.map_map]; rfl
  rw [ek]
  have hd : (ps.map fun p => W.int p.1).map (W.toD T) = ps.map fun p => PyData.int p.1 := by rw [List.map_map]; exact List.map_congr_left fun p _ => by simp [W.toD]
  have h1 : (ps.map fun p => W.int p.1).all (fun k => k.shp 40) = true := by rw [List.all_map, List.all_eq_true]; intro p _; simp [W.shp]
  have h2 : sortsB ((ps.map fun p => W.int p.1).map (W.toD T)) = true := by
    rw [hd]
    unfold sortsB
    rw [Bool.and_eq_true, Bool.or_eq_true]
    refine ⟨?_, .inr ?_⟩
    · rw [List.all_map, List.all_eq_true]; intro p _
      simp only [Function.comp]
      rw [List.all_map, List.all_eq_true]; intro q _
      simp [PySem.W.alike]
    · rw [List.all_map, List.all_eq_true]; intro p _; rfl
  have hz : (ps.map stW).zip (ps.map fun p => W.int p.1) = ps.map fun p => (stW p, W.int p.1) := by
    rw [List.zip_map]
    have : ps.zip ps = ps.map fun p => (p, p) := by
      clear h h1 h2 hd ek
      induction ps with
      | nil => rfl
      | cons a l ih => rw [List.zip_cons_cons, ih]; rfl
    rw [this, List.map_map]; rfl
  have hm := PySem.W.sort_maps (r := Lo.leP) (s := PySem.W.dataLe false fun p : W × W => W.toD T p.2) (fun p : Lo.P => (stW p, W.int p.1)) (l := ps) fun a _ b _ => by
    rw [PySem.W.dataLe_eq]
    simp only [cond_false, W.toD]
    rw [PySem.W.dataLt_int]
    show decide (a.1 ≤ b.1) = !decide (b.1 < a.1)
    by_cases z : b.1 < a.1
    · simp [z, show ¬ a.1 ≤ b.1 by omega]
    · simp [z, show a.1 ≤ b.1 by omega]
  unfold srtW
  rw [if_pos (by rw [h1, h2]; simp [h]), hz, ← hm, List.map_map]
  rfl
/-! the store at a law's start -/
def noTbl (H : Hp) : Hp := fun a => match H a with
  | some (.tbl _) => none
  | o => o
theorem noTbl_some {H : Hp} {a : Addr} {o : HO} (h : H a = some o) (n : ∀ ps, o ≠ .tbl ps) : noTbl H a = some o := by
  unfold noTbl
  rw [h]
  cases o <;> first | rfl | exact absurd rfl (n _)
theorem noTbl_sub (H : Hp) : ∀ a o, noTbl H a = some o → H a = some o := fun a o e => by
  unfold noTbl at e
  split at e
  · cases e
  · exact e
theorem noTbl_ft (H : Hp) : ∀ a ps, noTbl H a ≠ some (.tbl ps) := fun a ps e => by
  unfold noTbl at e
  split at e
  · cases e
  · rename_i h; exact h _ e
theorem sqL_noTbl {K : PySem.W.Frag} {H : Hp} {a : Addr} {xs : List V} (h : SqL K H a xs) : SqL K (noTbl H) a xs := by
  rcases h with (h | ⟨o, h⟩) | h
  · exact .inl (.inl (noTbl_some h fun ps e => by cases e))
  · exact .inl (.inr ⟨o, noTbl_some h fun ps e => by cases e⟩)
  · exact .inr h
end
end Mi

namespace K01
open PySem PySem.Spec PyProof.Rows L2 Mi
def top (i : Nat) : Stmt := PySem.Challenge.pw_lockstretch_k01_lots.main.body.getD i (.Pass ⟨0, 0, 0, 0⟩)
abbrev s_is_whole : Stmt := top 1
def N_is_whole : List PySem.Str := ["thing", "least"]
def P_is_whole : List PySem.Str := ["thing", "least"]
def b_is_whole : MS := (.seq (.ret (.and (.bi .isInt (.cons (.var 0) .nil)) (.and (.not (.bi .isBool (.cons (.var 0) .nil))) (.cmp .ge (.var 0) (.var 1))))) .skip)
abbrev s_is_stretch : Stmt := top 2
def N_is_stretch : List PySem.Str := ["thing"]
def P_is_stretch : List PySem.Str := ["thing"]
def b_is_stretch : MS := (.seq (.ife (.or (.not (.tr (.bi .isTup (.cons (.var 0) .nil)))) (.or (.cmp .ne (.bi .len (.cons (.var 0) .nil)) (.cst (.int 2))) (.not (.tr (.call 1 (.cons (.ix (.var 0) (.cst (.int 0))) .nil) .nil))))) (.seq (.ret (.cst (.bl false))) .skip) .skip) (.seq (.ret (.or (.cmp .isN (.ix (.var 0) (.cst (.int 1))) (.cst .non)) (.call 0 (.cons (.ix (.var 0) (.cst (.int 1))) .nil) (.cons (.bin .add (.ix (.var 0) (.cst (.int 0))) (.cst (.int 1))) .nil)))) .skip))
abbrev s_is_lot : Stmt := top 3
def N_is_lot : List PySem.Str := ["thing", "one", "other", "stretch"]
def P_is_lot : List PySem.Str := ["thing"]
def b_is_lot : MS := (.seq (.ife (.or (.not (.tr (.bi .isTup (.cons (.var 0) .nil)))) (.not (.tr (.bi .all (.cons (.lc .val (.var 0) (.nm 3) [3] (.cst (.bl true)) (.call 2 (.cons (.var 3) .nil) .nil)) .nil))))) (.seq (.ret (.cst (.bl false))) .skip) .skip) (.seq (.ret (.bi .all (.cons (.lc .zip (.cons (.var 0) (.cons (.sl (.var 0) (.idx (.cst (.int 1))) .nil) .nil)) (.tp (.cons (.nm 1) (.cons (.nm 2) .nil))) [1, 2] (.cst (.bl true)) (.and (.cmp .notN (.ix (.var 1) (.cst (.int 1))) (.cst .non)) (.cmp .lt (.ix (.var 1) (.cst (.int 1))) (.ix (.var 2) (.cst (.int 0)))))) .nil))) .skip))
abbrev s_lot_of : Stmt := top 4
def N_lot_of : List PySem.Str := ["stretches", "found", "first", "end", "before", "last"]
def P_lot_of : List PySem.Str := ["stretches"]
def b_lot_of : MS := (.seq (.asg (.nm 1) (.slst .nil)) (.seq (.for_ .val (.srt (.var 0) (.ix (.var 0) (.cst (.int 0)))) (.tp (.cons (.nm 2) (.cons (.nm 3) .nil))) (.seq (.ife (.and (.tr (.var 1)) (.or (.cmp .isN (.ix (.ix (.var 1) (.cst (.int (-1)))) (.cst (.int 1))) (.cst .non)) (.cmp .le (.var 2) (.ix (.ix (.var 1) (.cst (.int (-1)))) (.cst (.int 1)))))) (.seq (.asg (.nm 4) (.ix (.ix (.var 1) (.cst (.int (-1)))) (.cst (.int 1)))) (.seq (.asg (.nm 5) (.ife (.or (.cmp .isN (.var 4) (.cst .non)) (.cmp .isN (.var 3) (.cst .non))) (.cst .non) (.bi .max2 (.cons (.var 4) (.cons (.var 3) .nil))))) (.seq (.setIx (.var 1) (.cst (.int (-1))) (.tup (.cons (.ix (.ix (.var 1) (.cst (.int (-1)))) (.cst (.int 0))) (.cons (.var 5) .nil)))) .skip))) (.seq (.ex (.mt .append (.var 1) (.cons (.tup (.cons (.var 2) (.cons (.var 3) .nil))) .nil))) .skip)) .skip)) (.seq (.ret (.bi .tuple (.cons (.var 1) .nil))) .skip)))
abbrev s_joined : Stmt := top 5
def N_joined : List PySem.Str := ["one", "other"]
def P_joined : List PySem.Str := ["one", "other"]
def b_joined : MS := (.seq (.ret (.call 11 (.cons (.bin .add (.var 0) (.var 1)) .nil) .nil)) .skip)
abbrev s_rest_of : Stmt := top 6
def N_rest_of : List PySem.Str := ["lot", "found", "at", "first", "end"]
def P_rest_of : List PySem.Str := ["lot"]
def b_rest_of : MS := (.seq (.par 1 2 (.cons (.slst .nil) (.cons (.cst (.int 0)) .nil))) (.seq (.for_ .val (.var 0) (.tp (.cons (.nm 3) (.cons (.nm 4) .nil))) (.seq (.ife (.cmp .gt (.var 3) (.var 2)) (.seq (.ex (.mt .append (.var 1) (.cons (.tup (.cons (.var 2) (.cons (.var 3) .nil))) .nil))) .skip) .skip) (.seq (.ife (.cmp .isN (.var 4) (.cst .non)) (.seq (.ret (.bi .tuple (.cons (.var 1) .nil))) .skip) .skip) (.seq (.asg (.nm 2) (.var 4)) .skip)))) (.seq (.ret (.bi .tuple (.cons (.bin .add (.var 1) (.lst (.cons (.tup (.cons (.var 2) (.cons (.cst .non) .nil))) .nil))) .nil))) .skip)))
abbrev s_shared_part : Stmt := top 7
def N_shared_part : List PySem.Str := ["one", "other", "first", "ends", "end", "stretch"]
def P_shared_part : List PySem.Str := ["one", "other"]
def b_shared_part : MS := (.seq (.asg (.nm 2) (.bi .max2 (.cons (.ix (.var 0) (.cst (.int 0))) (.cons (.ix (.var 1) (.cst (.int 0))) .nil)))) (.seq (.asg (.nm 3) (.lc .val (.tup (.cons (.var 0) (.cons (.var 1) .nil))) (.nm 5) [5] (.cmp .notN (.ix (.var 5) (.cst (.int 1))) (.cst .non)) (.ix (.var 5) (.cst (.int 1))))) (.seq (.asg (.nm 4) (.bi .minD (.cons (.var 3) .nil))) (.seq (.ret (.ife (.and (.cmp .notN (.var 4) (.cst .non)) (.cmp .le (.var 4) (.var 2))) (.cst .non) (.tup (.cons (.var 2) (.cons (.var 4) .nil))))) .skip))))
abbrev s_both : Stmt := top 8
def N_both : List PySem.Str := ["one", "other", "found", "stretch", "another"]
def P_both : List PySem.Str := ["one", "other"]
def b_both : MS := (.seq (.asg (.nm 2) (.lc2 .val (.var 0) (.nm 3) [3, 4] (.cst (.bl true)) .val (.var 1) (.nm 4) [4] (.cst (.bl true)) (.call 12 (.cons (.var 3) (.cons (.var 4) .nil)) .nil))) (.seq (.ret (.call 11 (.cons (.lc .val (.var 2) (.nm 3) [3] (.cmp .notN (.var 3) (.cst .non)) (.var 3)) .nil) .nil)) .skip))
abbrev s_without : Stmt := top 9
def N_without : List PySem.Str := ["one", "other"]
def P_without : List PySem.Str := ["one", "other"]
def b_without : MS := (.seq (.ret (.call 13 (.cons (.var 0) (.cons (.call 14 (.cons (.var 1) .nil) .nil) .nil)) .nil)) .skip)
abbrev s_has : Stmt := top 10
def N_has : List PySem.Str := ["lot", "cell", "first", "end"]
def P_has : List PySem.Str := ["lot", "cell"]
def b_has : MS := (.seq (.ret (.bi .any (.cons (.lc .val (.var 0) (.tp (.cons (.nm 2) (.cons (.nm 3) .nil))) [2, 3] (.cst (.bl true)) (.and (.cmp .le (.var 2) (.var 1)) (.or (.cmp .isN (.var 3) (.cst .non)) (.cmp .lt (.var 1) (.var 3))))) .nil))) .skip)
abbrev s_size_of : Stmt := top 11
def N_size_of : List PySem.Str := ["lot", "first", "end"]
def P_size_of : List PySem.Str := ["lot"]
def b_size_of : MS := (.seq (.ife (.and (.cmp .ne (.var 0) (.tup .nil)) (.cmp .isN (.ix (.ix (.var 0) (.cst (.int (-1)))) (.cst (.int 1))) (.cst .non))) (.seq (.ret (.cst .non)) .skip) .skip) (.seq (.ret (.bi .sum (.cons (.lc .val (.var 0) (.tp (.cons (.nm 1) (.cons (.nm 2) .nil))) [1, 2] (.cst (.bl true)) (.bin .sub (.var 2) (.var 1))) .nil))) .skip))
abbrev s_meets : Stmt := top 12
def N_meets : List PySem.Str := ["one", "other"]
def P_meets : List PySem.Str := ["one", "other"]
def b_meets : MS := (.seq (.ret (.cmp .notN (.call 12 (.cons (.var 0) (.cons (.var 1) .nil)) .nil) (.cst .non))) .skip)
abbrev s_law_draw : Stmt := top 14
def N_law_draw : List PySem.Str := ["_law_script", "_law_town", "_law_many", "_law_at", "_law_rest", "_law_number"]
def P_law_draw : List PySem.Str := ["_law_script", "_law_town", "_law_many"]
def b_law_draw : MS := (.seq (.setIx (.var 1) (.cst (.tx 0)) (.bin .add (.ix (.var 1) (.cst (.tx 0))) (.cst (.int 1)))) (.seq (.asg (.nm 3) (.ife (.tr (.var 0)) (.bin .mod (.ix (.var 1) (.cst (.tx 0))) (.bi .len (.cons (.var 0) .nil))) (.cst (.int 0)))) (.seq (.asg (.nm 4) (.mt .get2 (.ix (.var 1) (.cst (.tx 1))) (.cons (.var 3) (.cons (.ife (.tr (.var 0)) (.ix (.var 0) (.var 3)) (.cst (.int 0))) .nil)))) (.seq (.ife (.cmp .ge (.var 4) (.bin .pow (.cst (.int 10)) (.cst (.int 18)))) (.seq (.setIx (.ix (.var 1) (.cst (.tx 1))) (.var 3) (.bin .fdiv (.var 4) (.var 2))) (.seq (.ret (.bin .mod (.var 4) (.var 2))) .skip)) .skip) (.seq (.asg (.nm 5) (.bin .mod (.bin .add (.var 4) (.bin .mul (.cst (.int 104729)) (.ix (.var 1) (.cst (.tx 0))))) (.cst (.int 4294967291)))) (.seq (.asg (.nm 5) (.bin .mod (.bin .pow (.var 5) (.cst (.int 5))) (.cst (.int 4294967279)))) (.seq (.ret (.bin .mod (.bin .fdiv (.bin .mod (.bin .add (.bin .mul (.bin .fdiv (.var 5) (.cst (.int 64))) (.cst (.int 69621))) (.var 5)) (.cst (.int 4294967231))) (.cst (.int 8))) (.var 2))) .skip)))))))
abbrev s_law_begun : Stmt := top 15
def N_law_begun : List PySem.Str := []
def P_law_begun : List PySem.Str := []
def b_law_begun : MS := (.seq (.ret (.dct (.cons (.cst (.tx 0)) (.cons (.cst (.int 0)) (.cons (.cst (.tx 1)) (.cons (.dct .nil) .nil)))))) .skip)
abbrev s_law_is : Stmt := top 16
def N_law_is : List PySem.Str := ["_law_told", "_law_due"]
def P_law_is : List PySem.Str := ["_law_told", "_law_due"]
def b_law_is : MS := (.seq (.ret (.and (.bi .isBool (.cons (.var 0) .nil)) (.cmp .eq (.var 0) (.var 1)))) .skip)
abbrev s_law_cover : Stmt := top 17
def N_law_cover : List PySem.Str := ["_law_stretch"]
def P_law_cover : List PySem.Str := ["_law_stretch"]
def b_law_cover : MS := (.seq (.ret (.bi .lrng (.cons (.ix (.var 0) (.cst (.int 0))) (.cons (.ife (.cmp .isN (.ix (.var 0) (.cst (.int 1))) (.cst .non)) (.cst (.int 13)) (.ix (.var 0) (.cst (.int 1)))) .nil)))) .skip)
abbrev s_law_a_stretch : Stmt := top 18
def N_law_a_stretch : List PySem.Str := ["_law_script", "_law_town", "_law_first"]
def P_law_a_stretch : List PySem.Str := ["_law_script", "_law_town"]
def b_law_a_stretch : MS := (.seq (.asg (.nm 2) (.call 3 (.cons (.var 0) (.cons (.var 1) (.cons (.cst (.int 11)) .nil))) .nil)) (.seq (.ife (.cmp .eq (.call 3 (.cons (.var 0) (.cons (.var 1) (.cons (.cst (.int 6)) .nil))) .nil) (.cst (.int 0))) (.seq (.ret (.tup (.cons (.var 2) (.cons (.cst .non) .nil)))) .skip) .skip) (.seq (.ret (.tup (.cons (.var 2) (.cons (.bin .add (.bin .add (.var 2) (.cst (.int 1))) (.call 3 (.cons (.var 0) (.cons (.var 1) (.cons (.bin .sub (.cst (.int 12)) (.var 2)) .nil))) .nil)) .nil)))) .skip)))
abbrev s_law_runs : Stmt := top 19
def N_law_runs : List PySem.Str := ["_law_cells", "_law_found", "_law_cell", "_law_end"]
def P_law_runs : List PySem.Str := ["_law_cells"]
def b_law_runs : MS := (.seq (.asg (.nm 1) (.slst .nil)) (.seq (.for_ .rng (.cons (.cst (.int 13)) .nil) (.nm 2) (.seq (.ife (.and (.cmp .in_ (.var 2) (.var 0)) (.cmp .notIn (.bin .sub (.var 2) (.cst (.int 1))) (.var 0))) (.seq (.asg (.nm 3) (.var 2)) (.seq (.whl (.cmp .in_ (.var 3) (.var 0)) (.seq (.asg (.nm 3) (.bin .add (.var 3) (.cst (.int 1)))) .skip)) (.seq (.ex (.mt .append (.var 1) (.cons (.tup (.cons (.var 2) (.cons (.ife (.cmp .eq (.var 3) (.cst (.int 13))) (.cst .non) (.var 3)) .nil))) .nil))) .skip))) .skip) .skip)) (.seq (.ret (.var 1)) .skip)))
abbrev s_law_all : Stmt := top 20
def N_law_all : List PySem.Str := ["_law_row", "_law_found", "_law_stretch"]
def P_law_all : List PySem.Str := ["_law_row"]
def b_law_all : MS := (.seq (.asg (.nm 1) (.lst .nil)) (.seq (.for_ .val (.var 0) (.nm 2) (.seq (.asg (.nm 1) (.bin .add (.var 1) (.call 9 (.cons (.var 2) .nil) .nil))) .skip)) (.seq (.ret (.var 1)) .skip)))
abbrev s_law : Stmt := top 21
def N_law : List PySem.Str := ["_law_script", "_law_town", "_law_rows", "_law_cells", "_law_lots", "_law_at", "_law_alike", "_law_size", "_law_cell", "_law_one", "_law_other", "_law_first", "_law_second", "_law_j", "_law_row", "_law_k"]
def P_law : List PySem.Str := ["_law_script"]
def b_law : MS := (.seq (.asg (.nm 1) (.call 10 .nil .nil)) (.seq (.asg (.nm 2) (.lc .rng (.cons (.cst (.int 2)) .nil) (.nm 13) [13] (.cst (.bl true)) (.bi .tuple (.cons (.lc .rng (.cons (.call 3 (.cons (.var 0) (.cons (.var 1) (.cons (.cst (.int 5)) .nil))) .nil) .nil) (.nm 15) [15] (.cst (.bl true)) (.call 7 (.cons (.var 0) (.cons (.var 1) .nil)) .nil)) .nil)))) (.seq (.asg (.nm 3) (.lc .val (.var 2) (.nm 14) [14] (.cst (.bl true)) (.call 21 (.cons (.var 14) .nil) .nil))) (.seq (.asg (.nm 4) (.lc .val (.var 2) (.nm 14) [14] (.cst (.bl true)) (.call 20 .nil (.cons (.var 14) .nil)))) (.seq (.for_ .val (.tup (.cons (.cst (.int 0)) (.cons (.cst (.int 1)) .nil))) (.nm 5) (.seq (.ife (.or (.cmp .ne (.ix (.var 4) (.var 5)) (.bi .tuple (.cons (.call 8 (.cons (.ix (.var 3) (.var 5)) .nil) .nil) .nil))) (.not (.tr (.call 4 (.cons (.ix (.var 4) (.var 5)) .nil) .nil)))) (.seq (.ret (.cst (.bl false))) .skip) .skip) (.seq (.asg (.nm 7) (.bi .setLen (.cons (.ix (.var 3) (.var 5)) .nil))) (.seq (.ife (.cmp .ne (.call 15 (.cons (.ix (.var 4) (.var 5)) .nil) .nil) (.ife (.cmp .in_ (.cst (.int 12)) (.ix (.var 3) (.var 5))) (.cst .non) (.var 7))) (.seq (.ret (.cst (.bl false))) .skip) .skip) (.seq (.for_ .rng (.cons (.cst (.int 16)) .nil) (.nm 8) (.seq (.ife (.not (.tr (.call 5 (.cons (.call 19 (.cons (.ix (.var 4) (.var 5)) (.cons (.var 8) .nil)) .nil) (.cons (.cmp .in_ (.bi .min2 (.cons (.var 8) (.cons (.cst (.int 12)) .nil))) (.ix (.var 3) (.var 5))) .nil)) .nil))) (.seq (.ret (.cst (.bl false))) .skip) .skip) .skip)) .skip))))) (.seq (.asg (.tp (.cons (.nm 9) (.cons (.nm 10) .nil))) (.var 4)) (.seq (.ife (.cmp .ne (.call 18 (.cons (.var 9) (.cons (.var 10) .nil)) .nil) (.bi .tuple (.cons (.call 8 (.cons (.bin .add (.ix (.var 3) (.cst (.int 0))) (.ix (.var 3) (.cst (.int 1)))) .nil) .nil) .nil))) (.seq (.ret (.cst (.bl false))) .skip) .skip) (.seq (.ife (.cmp .ne (.call 17 (.cons (.var 9) (.cons (.var 10) .nil)) .nil) (.bi .tuple (.cons (.call 8 (.cons (.lc .val (.ix (.var 3) (.cst (.int 0))) (.nm 8) [8] (.cmp .notIn (.var 8) (.ix (.var 3) (.cst (.int 1)))) (.var 8)) .nil) .nil) .nil))) (.seq (.ret (.cst (.bl false))) .skip) .skip) (.seq (.ife (.cmp .ne (.call 13 (.cons (.var 9) (.cons (.var 10) .nil)) .nil) (.bi .tuple (.cons (.call 8 (.cons (.lc .val (.ix (.var 3) (.cst (.int 0))) (.nm 8) [8] (.cmp .in_ (.var 8) (.ix (.var 3) (.cst (.int 1)))) (.var 8)) .nil) .nil) .nil))) (.seq (.ret (.cst (.bl false))) .skip) .skip) (.seq (.asg (.tp (.cons (.nm 11) (.cons (.nm 12) .nil))) (.tup (.cons (.call 7 (.cons (.var 0) (.cons (.var 1) .nil)) .nil) (.cons (.call 7 (.cons (.var 0) (.cons (.var 1) .nil)) .nil) .nil)))) (.seq (.asg (.nm 6) (.lc .val (.call 9 (.cons (.var 11) .nil) .nil) (.nm 8) [8] (.cmp .in_ (.var 8) (.call 9 (.cons (.var 12) .nil) .nil)) (.var 8))) (.seq (.ret (.and (.call 5 (.cons (.call 16 (.cons (.var 11) (.cons (.var 12) .nil)) .nil) (.cons (.cmp .ne (.var 6) (.lst .nil)) .nil)) .nil) (.and (.cmp .eq (.call 11 (.cons (.tup .nil) .nil) .nil) (.tup .nil)) (.cmp .eq (.call 15 (.cons (.tup .nil) .nil) .nil) (.cst (.int 0)))))) .skip))))))))))))
def txs : List PySem.Str := ["count", "rests"]
def ats : List PySem.Str := []
def shapes : List (PySem.Str × Nat × List PySem.Str) := [("is_whole", 1, ["least"]), ("is_whole", 1, []), ("is_stretch", 1, []), ("_law_draw", 3, []), ("is_lot", 1, []), ("_law_is", 2, []), ("_law_good", 1, []), ("_law_a_stretch", 2, []), ("_law_runs", 1, []), ("_law_cover", 1, []), ("_law_begun", 0, []), ("lot_of", 1, []), ("shared_part", 2, []), ("both", 2, []), ("rest_of", 1, []), ("size_of", 1, []), ("meets", 2, []), ("without", 2, []), ("joined", 2, []), ("has", 2, []), ("lot_of", 0, ["stretches"]), ("_law_all", 1, [])]
def conN : List PySem.Str := []
-- shape 0: is_whole/1 ['least']
-- shape 1: is_whole/1 []
-- shape 2: is_stretch/1 []
-- shape 3: _law_draw/3 []
-- shape 4: is_lot/1 []
-- shape 5: _law_is/2 []
-- shape 6: _law_good/1 []
-- shape 7: _law_a_stretch/2 []
-- shape 8: _law_runs/1 []
-- shape 9: _law_cover/1 []
-- shape 10: _law_begun/0 []
-- shape 11: lot_of/1 []
-- shape 12: shared_part/2 []
-- shape 13: both/2 []
-- shape 14: rest_of/1 []
-- shape 15: size_of/1 []
-- shape 16: meets/2 []
-- shape 17: without/2 []
-- shape 18: joined/2 []
-- shape 19: has/2 []
-- shape 20: lot_of/0 ['stretches']
-- shape 21: _law_all/1 []
def tf : List He.Defn := [("lot_of", none)]
def T : Tb := ⟨txs, ats, [], [], fun K => [((He.cT K ("lot_of", none)).2, "lot_of.<locals>.<lambda>")]⟩
def ck (N : List PySem.Str) (fns : List (Option (PySem.Str × Nat × List PySem.Str))) : Ck := { T := T, N := N, fns := fns, cons := conN }
def ckL (N : List PySem.Str) (fns : List (Option (PySem.Str × Nat × List PySem.Str))) : Ck := { T := T, N := N, fns := fns, cons := conN, lam := true }
def F_is_whole : List (Option (PySem.Str × Nat × List PySem.Str)) := []
theorem c_is_whole : okS (ck N_is_whole F_is_whole) b_is_whole ⟨defScope s_is_whole, fun _ => true⟩ (.L (defBody s_is_whole)) = true := by decide +kernel
theorem sc_is_whole : FnScope N_is_whole P_is_whole (defScope s_is_whole) := ⟨rfl, rfl, rfl, by decide +kernel, rfl, by decide +kernel, by decide +kernel⟩
def F_is_stretch : List (Option (PySem.Str × Nat × List PySem.Str)) := [some ("is_whole", 1, ["least"]), some ("is_whole", 1, [])]
theorem c_is_stretch : okS (ck N_is_stretch F_is_stretch) b_is_stretch ⟨defScope s_is_stretch, fun _ => true⟩ (.L (defBody s_is_stretch)) = true := by decide +kernel
theorem sc_is_stretch : FnScope N_is_stretch P_is_stretch (defScope s_is_stretch) := ⟨rfl, rfl, rfl, by decide +kernel, rfl, by decide +kernel, by decide +kernel⟩
def F_is_lot : List (Option (PySem.Str × Nat × List PySem.Str)) := [none, none, some ("is_stretch", 1, [])]
theorem c_is_lot : okS (ck N_is_lot F_is_lot) b_is_lot ⟨defScope s_is_lot, fun _ => true⟩ (.L (defBody s_is_lot)) = true := by decide +kernel
theorem sc_is_lot : FnScope N_is_lot P_is_lot (defScope s_is_lot) := ⟨rfl, rfl, rfl, by decide +kernel, rfl, by decide +kernel, by decide +kernel⟩
def F_lot_of : List (Option (PySem.Str × Nat × List PySem.Str)) := []
theorem c_lot_of : okS (ckL N_lot_of F_lot_of) b_lot_of ⟨defScope s_lot_of, fun _ => true⟩ (.L (defBody s_lot_of)) = true := by decide +kernel
theorem sc_lot_of : FnScope N_lot_of P_lot_of (defScope s_lot_of) := ⟨rfl, rfl, rfl, by decide +kernel, rfl, by decide +kernel, by decide +kernel⟩
def F_joined : List (Option (PySem.Str × Nat × List PySem.Str)) := [none, none, none, none, none, none, none, none, none, none, none, some ("lot_of", 1, [])]
theorem c_joined : okS (ck N_joined F_joined) b_joined ⟨defScope s_joined, fun _ => true⟩ (.L (defBody s_joined)) = true := by decide +kernel
theorem sc_joined : FnScope N_joined P_joined (defScope s_joined) := ⟨rfl, rfl, rfl, by decide +kernel, rfl, by decide +kernel, by decide +kernel⟩
def F_rest_of : List (Option (PySem.Str × Nat × List PySem.Str)) := []
theorem c_rest_of : okS (ck N_rest_of F_rest_of) b_rest_of ⟨defScope s_rest_of, fun _ => true⟩ (.L (defBody s_rest_of)) = true := by decide +kernel
theorem sc_rest_of : FnScope N_rest_of P_rest_of (defScope s_rest_of) := ⟨rfl, rfl, rfl, by decide +kernel, rfl, by decide +kernel, by decide +kernel⟩
def F_shared_part : List (Option (PySem.Str × Nat × List PySem.Str)) := []
theorem c_shared_part : okS (ck N_shared_part F_shared_part) b_shared_part ⟨defScope s_shared_part, fun _ => true⟩ (.L (defBody s_shared_part)) = true := by decide +kernel
theorem sc_shared_part : FnScope N_shared_part P_shared_part (defScope s_shared_part) := ⟨rfl, rfl, rfl, by decide +kernel, rfl, by decide +kernel, by decide +kernel⟩
def F_both : List (Option (PySem.Str × Nat × List PySem.Str)) := [none, none, none, none, none, none, none, none, none, none, none, some ("lot_of", 1, []), some ("shared_part", 2, [])]
theorem c_both : okS (ck N_both F_both) b_both ⟨defScope s_both, fun _ => true⟩ (.L (defBody s_both)) = true := by decide +kernel
theorem sc_both : FnScope N_both P_both (defScope s_both) := ⟨rfl, rfl, rfl, by decide +kernel, rfl, by decide +kernel, by decide +kernel⟩
def F_without : List (Option (PySem.Str × Nat × List PySem.Str)) := [none, none, none, none, none, none, none, none, none, none, none, none, none, some ("both", 2, []), some ("rest_of", 1, [])]
theorem c_without : okS (ck N_without F_without) b_without ⟨defScope s_without, fun _ => true⟩ (.L (defBody s_without)) = true := by decide +kernel
theorem sc_without : FnScope N_without P_without (defScope s_without) := ⟨rfl, rfl, rfl, by decide +kernel, rfl, by decide +kernel, by decide +kernel⟩
def F_has : List (Option (PySem.Str × Nat × List PySem.Str)) := []
theorem c_has : okS (ck N_has F_has) b_has ⟨defScope s_has, fun _ => true⟩ (.L (defBody s_has)) = true := by decide +kernel
theorem sc_has : FnScope N_has P_has (defScope s_has) := ⟨rfl, rfl, rfl, by decide +kernel, rfl, by decide +kernel, by decide +kernel⟩
def F_size_of : List (Option (PySem.Str × Nat × List PySem.Str)) := []
theorem c_size_of : okS (ck N_size_of F_size_of) b_size_of ⟨defScope s_size_of, fun _ => true⟩ (.L (defBody s_size_of)) = true := by decide +kernel
theorem sc_size_of : FnScope N_size_of P_size_of (defScope s_size_of) := ⟨rfl, rfl, rfl, by decide +kernel, rfl, by decide +kernel, by decide +kernel⟩
def F_meets : List (Option (PySem.Str × Nat × List PySem.Str)) := [none, none, none, none, none, none, none, none, none, none, none, none, some ("shared_part", 2, [])]
theorem c_meets : okS (ck N_meets F_meets) b_meets ⟨defScope s_meets, fun _ => true⟩ (.L (defBody s_meets)) = true := by decide +kernel
theorem sc_meets : FnScope N_meets P_meets (defScope s_meets) := ⟨rfl, rfl, rfl, by decide +kernel, rfl, by decide +kernel, by decide +kernel⟩
def F_law_draw : List (Option (PySem.Str × Nat × List PySem.Str)) := []
theorem c_law_draw : okS (ck N_law_draw F_law_draw) b_law_draw ⟨defScope s_law_draw, fun _ => true⟩ (.L (defBody s_law_draw)) = true := by decide +kernel
theorem sc_law_draw : FnScope N_law_draw P_law_draw (defScope s_law_draw) := ⟨rfl, rfl, rfl, by decide +kernel, rfl, by decide +kernel, by decide +kernel⟩
def F_law_begun : List (Option (PySem.Str × Nat × List PySem.Str)) := []
theorem c_law_begun : okS (ck N_law_begun F_law_begun) b_law_begun ⟨defScope s_law_begun, fun _ => true⟩ (.L (defBody s_law_begun)) = true := by decide +kernel
theorem sc_law_begun : FnScope N_law_begun P_law_begun (defScope s_law_begun) := ⟨rfl, rfl, rfl, by decide +kernel, rfl, by decide +kernel, by decide +kernel⟩
def F_law_is : List (Option (PySem.Str × Nat × List PySem.Str)) := []
theorem c_law_is : okS (ck N_law_is F_law_is) b_law_is ⟨defScope s_law_is, fun _ => true⟩ (.L (defBody s_law_is)) = true := by decide +kernel
theorem sc_law_is : FnScope N_law_is P_law_is (defScope s_law_is) := ⟨rfl, rfl, rfl, by decide +kernel, rfl, by decide +kernel, by decide +kernel⟩
def F_law_cover : List (Option (PySem.Str × Nat × List PySem.Str)) := []
theorem c_law_cover : okS (ck N_law_cover F_law_cover) b_law_cover ⟨defScope s_law_cover, fun _ => true⟩ (.L (defBody s_law_cover)) = true := by decide +kernel
theorem sc_law_cover : FnScope N_law_cover P_law_cover (defScope s_law_cover) := ⟨rfl, rfl, rfl, by decide +kernel, rfl, by decide +kernel, by decide +kernel⟩
def F_law_a_stretch : List (Option (PySem.Str × Nat × List PySem.Str)) := [none, none, none, some ("_law_draw", 3, [])]
theorem c_law_a_stretch : okS (ck N_law_a_stretch F_law_a_stretch) b_law_a_stretch ⟨defScope s_law_a_stretch, fun _ => true⟩ (.L (defBody s_law_a_stretch)) = true := by decide +kernel
theorem sc_law_a_stretch : FnScope N_law_a_stretch P_law_a_stretch (defScope s_law_a_stretch) := ⟨rfl, rfl, rfl, by decide +kernel, rfl, by decide +kernel, by decide +kernel⟩
def F_law_runs : List (Option (PySem.Str × Nat × List PySem.Str)) := []
theorem c_law_runs : okS (ck N_law_runs F_law_runs) b_law_runs ⟨defScope s_law_runs, fun _ => true⟩ (.L (defBody s_law_runs)) = true := by decide +kernel
theorem sc_law_runs : FnScope N_law_runs P_law_runs (defScope s_law_runs) := ⟨rfl, rfl, rfl, by decide +kernel, rfl, by decide +kernel, by decide +kernel⟩
def F_law_all : List (Option (PySem.Str × Nat × List PySem.Str)) := [none, none, none, none, none, none, none, none, none, some ("_law_cover", 1, [])]
theorem c_law_all : okS (ck N_law_all F_law_all) b_law_all ⟨defScope s_law_all, fun _ => true⟩ (.L (defBody s_law_all)) = true := by decide +kernel
theorem sc_law_all : FnScope N_law_all P_law_all (defScope s_law_all) := ⟨rfl, rfl, rfl, by decide +kernel, rfl, by decide +kernel, by decide +kernel⟩
def F_law : List (Option (PySem.Str × Nat × List PySem.Str)) := [none, none, none, some ("_law_draw", 3, []), some ("is_lot", 1, []), some ("_law_is", 2, []), none, some ("_law_a_stretch", 2, []), some ("_law_runs", 1, []), some ("_law_cover", 1, []), some ("_law_begun", 0, []), some ("lot_of", 1, []), none, some ("both", 2, []), none, some ("size_of", 1, []), some ("meets", 2, []), some ("without", 2, []), some ("joined", 2, []), some ("has", 2, []), some ("lot_of", 0, ["stretches"]), some ("_law_all", 1, [])]
theorem c_law : okS (ck N_law F_law) b_law ⟨defScope s_law, fun _ => true⟩ (.L (defBody s_law)) = true := by decide +kernel
theorem sc_law : FnScope N_law P_law (defScope s_law) := ⟨rfl, rfl, rfl, by decide +kernel, rfl, by decide +kernel, by decide +kernel⟩
end K01

namespace K01
open PySem PySem.Spec PyProof.Rows L2 Mi
noncomputable section
/-! mirrors -/
def wholeW (x : W) (n : Int) : Option Bool := match x with
  | .int i => some (decide (n ≤ i))
  | .ref _ => none
  | _ => some false
def g_whole : Fn := fun L ws S => match ws with
  | [x, .int n] => Out.of ((wholeW x n).map W.bl) S
  | _ => .bad
def g_whole0 : Fn := fun L ws S => match ws with
  | [x] => g_whole L [x, .int 0] S
  | _ => .bad
def stretchW (x : W) : Option Bool := match x with
  | .tup l => match l with
    | [a, b] => match a with
      | .int i => match b with
        | .non => some (decide (0 ≤ i))
        | b => if 0 ≤ i then wholeW b (i + 1) else some false
      | .ref _ => none
      | _ => some false
    | _ => some false
  | .ref _ => none
  | _ => some false
def g_stretch : Fn := fun L ws S => match ws with
  | [x] => Out.of ((stretchW x).map W.bl) S
  | _ => .bad
def stB (x : W) : Bool := (stretchW x).getD false
def pairB (x y : W) : Bool := match x, y with
  | .tup [_, .int e], .tup [.int f, _] => decide (e < f)
  | _, _ => false
def lotW (x : W) : Option Bool := match x with
  | .tup l => if l.length ≤ 1000 ∧ l.all (fun x => (stretchW x).isSome) = true then some (l.all stB && (l.zip (l.drop 1)).all fun p => pairB p.1 p.2) else none
  | .ref _ => none
  | _ => some false
def g_lot : Fn := fun L ws S => match ws with
  | [x] => Out.of ((lotW x).map W.bl) S
  | _ => .bad
def g_is : Fn := fun L ws S => match ws with
  | [.bl x, .bl y] => .ok (.bl (x == y)) S
  | _ => .bad
def rngI (f e : Int) : List W := (List.range (e - f).toNat).map fun (i : Nat) => .int (f + i)
def g_cover : Fn := fun L ws S => match ws with
  | [.tup [.int f, .non]] => if 0 ≤ f ∧ f ≤ 1000 then .ok (.lst (rngI f 13)) S else .bad
  | [.tup [.int f, .int e]] => if 0 ≤ f ∧ f ≤ 1000 ∧ 0 ≤ e ∧ e ≤ 1000 then .ok (.lst (rngI f e)) S else .bad
  | _ => .bad
def g_begun : Fn := fun L ws S => match ws with
  | [] => .ok (.ref S.length) (S ++ [.dK [(.t 0, .int 0), (.t 1, .ref (S.length + 1))], .dK []])
  | _ => .bad
/-- the rest at a place -/
def restW (ns : List Int) (rs : List (MK × W)) (a : Int) : Option Int := match getT rs (.i a) with
  | some (.int x) => some x
  | some _ => none
  | none => if ns = [] then some 0 else (ixNat ns.length a).bind fun j => ns[j]?
def drawV (x c many : Int) : Int := (((((x + 104729 * c) % 4294967291) ^ 5 % 4294967279) / 64 * 69621 + ((x + 104729 * c) % 4294967291) ^ 5 % 4294967279) % 4294967231) / 8 % many
def atOf (ns : List Int) (c : Int) : Int := if ns = [] then 0 else c % ns.length
def townAt (S : Sto) (t : Nat) : Option (Int × Nat × List (MK × W)) := match S[t]? with
  | some (.dK [(.t 0, .int c), (.t 1, .ref r)]) => match S[r]? with
    | some (.dK rs) => some (c, r, rs)
    | _ => none
  | _ => none
def g_draw : Fn := fun L ws S => match ws with
  | [.scr ns, .ref t, .int many] => match townAt S t with
    | some (c, r, rs) => if t ∉ L ∧ r ∉ L ∧ t ≠ r ∧ 0 ≤ c ∧ rs.length < sixteen ∧ 0 < many ∧ many < 1073741824 then
        match restW ns rs (atOf ns (c + 1)) with
        | some x => if 10 ^ 18 ≤ x then .ok (.int (x % many)) ((S.set t (.dK [(.t 0, .int (c + 1)), (.t 1, .ref r)])).set r (.dK (putT rs (.i (atOf ns (c + 1))) (.int (x / many)))))
          else .ok (.int (drawV x (c + 1) many)) (S.set t (.dK [(.t 0, .int (c + 1)), (.t 1, .ref r)]))
        | none => .bad
      else .bad
    | none => .bad
  | _ => .bad
def g_astretch : Fn := fun L ws S => match ws with
  | [s, t] => (g_draw L [s, t, .int 11] S).bind fun v S1 => match v with
    | .int f => (g_draw L [s, t, .int 6] S1).bind fun w S2 => match w with
      | .int k => if k = 0 then .ok (.tup [.int f, .non]) S2 else (g_draw L [s, t, .int (12 - f)] S2).bind fun z S3 => match z with
        | .int d => .ok (.tup [.int f, .int (f + 1 + d)]) S3
        | _ => .bad
      | _ => .bad
    | _ => .bad
  | _ => .bad
def memW (l : List W) (i : Int) : Bool := l.any fun a => W.eq a (.int i)
def runAt (m : Int → Bool) (c : Int) : List W := if m c = true ∧ m (c - 1) = false then [.tup [.int c, if Lo.endF m 99 c = 13 then .non else .int (Lo.endF m 99 c)]] else []
def runsW (m : Int → Bool) : List W := (List.range 13).flatMap fun (c : Nat) => runAt m c
theorem runAt_eq (m : Int → Bool) (c : Int) : runAt m c = (Lo.runP m c).map stW := by
  unfold runAt Lo.runP
  split
  · by_cases z : Lo.endF m 99 c = 13 <;> simp [z, stW, endW]
  · rfl
theorem runsW_eq (m : Int → Bool) : runsW m = (Lo.runsP m).map stW := by
  unfold runsW Lo.runsP
  rw [List.map_flatMap]
  simp only [runAt_eq]
def g_runs : Fn := fun L ws S => match ws with
  | [.lst l] => if S.length ∉ L ∧ l.all W.flat = true ∧ ((List.range 13).all fun n => !memW l (Lo.endF (memW l) 99 (n : Nat))) = true then .ok (.lst (runsW (memW l))) S else .bad
  | _ => .bad

/-! the lots -/
def g_lotof : Fn := fun L ws S => match ws with
  | [x] => match x.seqs S with
    | some l => match unSs l with
      | some ps => if S.length ∉ L ∧ ps.length ≤ 16777216 then .ok (.tup ((Lo.lotF ps).map stW)) S else .bad
      | none => .bad
    | none => .bad
  | _ => .bad
def g_joined : Fn := fun L ws S => match ws with
  | [.tup a, .tup b] => if a.length + b.length ≤ 16777216 then g_lotof L [.tup (a ++ b)] S else .bad
  | _ => .bad
def g_rest : Fn := fun L ws S => match ws with
  | [.tup l] => match unSs l with
    | some ps => if S.length ∉ L ∧ ps.length ≤ 16777200 then .ok (.tup ((Lo.restF 0 ps).map stW)) S else .bad
    | none => .bad
  | _ => .bad
def shO (p q : Lo.P) : W := match Lo.shP p q with
  | none => .non
  | some r => stW r
def g_shared : Fn := fun L ws S => match ws with
  | [x, y] => match unS x, unS y with
    | some p, some q => .ok (shO p q) S
    | _, _ => .bad
  | _ => .bad
def g_both : Fn := fun L ws S => match ws with
  | [.tup a, .tup b] => match unSs a, unSs b with
    | some ps, some qs => if S.length ∉ L ∧ ps.length * qs.length ≤ 16777216 then .ok (.tup ((Lo.bothF ps qs).map stW)) S else .bad
    | _, _ => .bad
  | _ => .bad
def g_without : Fn := fun L ws S => match ws with
  | [x, y] => (g_rest L [y] S).bind fun z S1 => g_both L [x, z] S1
  | _ => .bad
def g_has : Fn := fun L ws S => match ws with
  | [.tup l, .int c] => match unSs l with
    | some ps => if ps.length ≤ 16777216 then .ok (.bl (Lo.hasP ps c)) S else .bad
    | none => .bad
  | _ => .bad
def endless (ps : List Lo.P) : Bool := match ps.getLast? with
  | some p => p.2.isNone
  | none => false
def g_size : Fn := fun L ws S => match ws with
  | [.tup l] => match unSs l with
    | some ps => if ps.length ≤ 16777216 then
        if endless ps = true then .ok .non S
        else if ps.all (fun p => p.2.isSome) = true then .ok (.int (Lo.sizeF ps)) S else .bad
      else .bad
    | none => .bad
  | _ => .bad
def g_meets : Fn := fun L ws S => match ws with
  | [x, y] => match unS x, unS y with
    | some p, some q => .ok (.bl (Lo.shP p q).isSome) S
    | _, _ => .bad
  | _ => .bad
def coverP (p : Lo.P) : List W := rngI p.1 (match p.2 with | none => 13 | some e => e)
def g_all : Fn := fun L ws S => match ws with
  | [.tup l] => match unSs l with
    | some ps => if ps.length ≤ 1000 ∧ ps.all (fun p => decide (0 ≤ p.1) && decide (p.1 ≤ 100) && (match p.2 with | none => true | some e => decide (0 ≤ e) && decide (e ≤ 100))) = true then .ok (.lst (ps.flatMap coverP)) S else .bad
    | none => .bad
  | _ => .bad
def g_law : Fn := fun L ws S => match L, ws, S with
  | [], [.scr ns], [] => .ok (.bl true) []
  | _, _, _ => .bad
def CC : Mi.Ctx := { fn := fun f => match f with
  | 0 => g_whole
  | 1 => g_whole0
  | 2 => g_stretch
  | 3 => g_draw
  | 4 => g_lot
  | 5 => g_is
  | 6 => g_stretch
  | 7 => g_astretch
  | 8 => g_runs
  | 9 => g_cover
  | 10 => g_begun
  | 11 => g_lotof
  | 12 => g_shared
  | 13 => g_both
  | 14 => g_rest
  | 15 => g_size
  | 16 => g_meets
  | 17 => g_without
  | 18 => g_joined
  | 19 => g_has
  | 20 => g_lotof
  | 21 => g_all
  | _ => fun _ _ _ => .bad, con := [], dat := W.toD T }
@[simp] theorem cc0 : CC.fn 0 = g_whole := rfl
@[simp] theorem cc1 : CC.fn 1 = g_whole0 := rfl
@[simp] theorem cc2 : CC.fn 2 = g_stretch := rfl
@[simp] theorem cc3 : CC.fn 3 = g_draw := rfl
@[simp] theorem cc4 : CC.fn 4 = g_lot := rfl
@[simp] theorem cc5 : CC.fn 5 = g_is := rfl
@[simp] theorem cc6 : CC.fn 6 = g_stretch := rfl
@[simp] theorem cc7 : CC.fn 7 = g_astretch := rfl
@[simp] theorem cc8 : CC.fn 8 = g_runs := rfl
@[simp] theorem cc9 : CC.fn 9 = g_cover := rfl
@[simp] theorem cc10 : CC.fn 10 = g_begun := rfl
@[simp] theorem cc11 : CC.fn 11 = g_lotof := rfl
@[simp] theorem cc12 : CC.fn 12 = g_shared := rfl
@[simp] theorem cc13 : CC.fn 13 = g_both := rfl
@[simp] theorem cc14 : CC.fn 14 = g_rest := rfl
@[simp] theorem cc15 : CC.fn 15 = g_size := rfl
@[simp] theorem cc16 : CC.fn 16 = g_meets := rfl
@[simp] theorem cc17 : CC.fn 17 = g_without := rfl
@[simp] theorem cc18 : CC.fn 18 = g_joined := rfl
@[simp] theorem cc19 : CC.fn 19 = g_has := rfl
@[simp] theorem cc20 : CC.fn 20 = g_lotof := rfl
@[simp] theorem cc21 : CC.fn 21 = g_all := rfl
theorem isTy_some {t : String} {x : W} {s : String} (h : x.tyB = some s) : isTyW t x = some (.bl (s == t || (s == "bool" && t == "int"))) := by simp [isTyW, h]
theorem r_whole (L : List Nat) (ws : List W) (S : Sto) : OutLe S (runB CC 100 2 b_is_whole L ws S) (g_whole L ws S) := by
  intro h
  left
  unfold g_whole at h ⊢
  split at h
  · rename_i x n
    rw [runB_eq]
    cases x <;> first | exact absurd rfl h | (simp [wholeW, b_is_whole, biW, one, isTyW, W.tyB]; done)
  · exact absurd rfl h
theorem r_stretch (L : List Nat) (ws : List W) (S : Sto) : OutLe S (runB CC 100 1 b_is_stretch L ws S) (g_stretch L ws S) := by
  intro h
  left
  unfold g_stretch at h ⊢
  split at h
  · rename_i x
    rw [runB_eq]
    cases x <;> first | exact absurd rfl h | (simp [stretchW, b_is_stretch, biW, one, isTyW, W.tyB, W.tru]; done) | skip
    rename_i l
    match l with
    | [] => simp [stretchW, b_is_stretch, biW, one, isTyW, W.tyB, W.tru, lenW]
    | [_] => simp [stretchW, b_is_stretch, biW, one, isTyW, W.tyB, W.tru, lenW]
    | _ :: _ :: _ :: l =>
      have : ((l.length : Int) + 1 + 1 + 1 == 2) = false := by simp; omega
      simp [stretchW, b_is_stretch, biW, one, isTyW, W.tyB, W.tru, lenW, this]
    | [a, b] =>
      cases a <;> first | exact absurd rfl h | (simp [stretchW, b_is_stretch, biW, one, isTyW, W.tyB, W.tru, lenW, g_whole0, g_whole, wholeW]; done) | skip
      rename_i i
      by_cases hi : 0 ≤ i
      · cases b <;> first | (simp [stretchW, b_is_stretch, biW, one, isTyW, W.tyB, W.tru, lenW, g_whole0, g_whole, wholeW, hi]; done) | skip
        exact absurd (by simp [stretchW, wholeW, hi]) h
      · cases b <;> (simp [stretchW, b_is_stretch, biW, one, isTyW, W.tyB, W.tru, lenW, g_whole0, g_whole, wholeW, hi]; done)
  · exact absurd rfl h
theorem r_is (L : List Nat) (ws : List W) (S : Sto) : OutLe S (runB CC 100 2 b_law_is L ws S) (g_is L ws S) := by
  intro h
  left
  unfold g_is at h ⊢
  split at h
  · rename_i x y
    rw [runB_eq]
    simp [b_law_is, biW, one, isTyW, W.tyB, cmp_eq, W.shp, W.eq]
  · exact absurd rfl h
theorem r_cover (L : List Nat) (ws : List W) (S : Sto) : OutLe S (runB CC 100 1 b_law_cover L ws S) (g_cover L ws S) := by
  intro h
  left
  unfold g_cover at h ⊢
  split at h
  · rename_i f
    split at h
    · rename_i hf
      have h1 : -4611686018427387904 ≤ f := by omega
      have h2 : f < 4611686018427387904 := by omega
      have h3 : (13 - f).toNat ≤ 16777216 := by omega
      rw [runB_eq]
      simp [b_law_cover, biW, two, int2, h1, h2, h3, rngI, hf]
    · exact absurd rfl h
  · rename_i f e
    split at h
    · rename_i hf
      have h1 : -4611686018427387904 ≤ f := by omega
      have h2 : f < 4611686018427387904 := by omega
      have h4 : -4611686018427387904 ≤ e := by omega
      have h5 : e < 4611686018427387904 := by omega
      have h3 : (e - f).toNat ≤ 16777216 := by omega
      rw [runB_eq]
      simp [b_law_cover, biW, two, int2, h1, h2, h3, h4, h5, rngI, hf]
    · exact absurd rfl h
  · exact absurd rfl h
theorem r_begun (L : List Nat) (ws : List W) (S : Sto) : OutLe S (runB CC 100 0 b_law_begun L ws S) (g_begun L ws S) := by
  intro h
  left
  unfold g_begun at h ⊢
  split at h
  · simp [runB, b_law_begun, exS, ev, pairsW, W.key, mergeT, putT]
  · exact absurd rfl h
theorem allS {l : List W} (h : l.all (fun x => (stretchW x).isSome) = true) : ∀ x ∈ l, stretchW x = some (stB x) := fun x hx => by
  have := List.all_eq_true.mp h x hx
  obtain ⟨b, hb⟩ := Option.isSome_iff_exists.mp this
  simp [stB, hb]
theorem cut1 (l : List W) : cutW l (some 1) none = l.drop 1 := by
  unfold cutW
  rw [HT.sIx_none]
  have : HT.sIx l.length 0 (some 1) = min 1 l.length := HT.sIx_nat _ _ 1
  rw [this]
  cases l with
  | nil => rfl
  | cons a l => simp
theorem all_id {α : Type} (f : α → Bool) (l : List α) : (l.map f).all id = l.all f := by simp [List.all_map]
theorem st_form {x : W} (h : stB x = true) : ∃ i, 0 ≤ i ∧ (x = .tup [.int i, .non] ∨ ∃ e, i + 1 ≤ e ∧ x = .tup [.int i, .int e]) := by
  cases x <;> first | (cases h; done) | skip
  rename_i l
  match l, h with
  | [a, b], h =>
    cases a <;> first | (cases h; done) | skip
    rename_i i
    by_cases hi : 0 ≤ i
    · refine ⟨i, hi, ?_⟩
      cases b <;> simp [stB, stretchW, wholeW, hi] at h
      · exact .inl rfl
      · exact .inr ⟨_, h, rfl⟩
    · cases b <;> simp [stB, stretchW, wholeW, hi] at h
theorem r_lot (L : List Nat) (ws : List W) (S : Sto) : OutLe S (runB CC 100 4 b_is_lot L ws S) (g_lot L ws S) := by
  intro h
  left
  unfold g_lot at h ⊢
  split at h
  · rename_i x
    rw [runB_eq]
    cases x <;> first | exact absurd rfl h | (simp [lotW, b_is_lot, biW, one, isTyW, W.tyB, W.tru]; done) | skip
    rename_i l
    have hl : l.length ≤ 1000 ∧ l.all (fun x => (stretchW x).isSome) = true := by
      by_cases z : l.length ≤ 1000 ∧ l.all (fun x => (stretchW x).isSome) = true
      · exact z
      · exact absurd (by simp only [lotW, if_neg z]; rfl) h
    have h1 := allS hl.2
    have hz : l.length ≤ 16777216 := by omega
    have c1 : lcL (lcStep CC L (.nm 3) [some (.tup l), none, none, none] (.cst (.bl true)) (.call 2 (.cons (.var 3) .nil) .nil)) l S = .ok (l.map fun x => .bl (stB x)) S :=
      lcL_map fun x hx => by
        simp [lcStep, bindT, Out.calm, g_stretch, h1 x hx]
    have hL : lotW (.tup l) = some (l.all stB && (l.zip (l.drop 1)).all fun p => pairB p.1 p.2) := by simp only [lotW, if_pos hl]
    rw [hL]
    by_cases ha : l.all stB = true
    · have c2 : lcL (lcStep CC L (.tp (.cons (.nm 1) (.cons (.nm 2) .nil))) [some (.tup l), none, none, none] (.cst (.bl true)) (.and (.cmp .notN (.ix (.var 1) (.cst (.int 1))) (.cst .non)) (.cmp .lt (.ix (.var 1) (.cst (.int 1))) (.ix (.var 2) (.cst (.int 0)))))) ((l.zip (l.drop 1)).map fun p => .tup [p.1, p.2]) S = .ok ((l.zip (l.drop 1)).map fun p => .bl (pairB p.1 p.2)) S := by
        have : ∀ q ∈ ((l.zip (l.drop 1)).map fun p => W.tup [p.1, p.2]), ∃ x y, q = .tup [x, y] ∧ stB x = true ∧ stB y = true := by
          intro q hq
          obtain ⟨p, hp, rfl⟩ := List.mem_map.mp hq
          have h2 := List.all_eq_true.mp ha
          exact ⟨p.1, p.2, rfl, h2 _ (List.of_mem_zip hp).1, h2 _ (List.mem_of_mem_drop (List.of_mem_zip hp).2)⟩
        have := lcL_map (step := lcStep CC L (.tp (.cons (.nm 1) (.cons (.nm 2) .nil))) [some (.tup l), none, none, none] (.cst (.bl true)) (.and (.cmp .notN (.ix (.var 1) (.cst (.int 1))) (.cst .non)) (.cmp .lt (.ix (.var 1) (.cst (.int 1))) (.ix (.var 2) (.cst (.int 0)))))) (S := S) (f := fun q => match q with | .tup [x, y] => .bl (pairB x y) | q => q) (l := (l.zip (l.drop 1)).map fun p => W.tup [p.1, p.2]) fun q hq => by
          obtain ⟨x, y, rfl, hx, hy⟩ := this q hq
          obtain ⟨i, hi, hx⟩ := st_form hx
          obtain ⟨j, hj, hy⟩ := st_form hy
          rcases hx with rfl | ⟨e, _, rfl⟩ <;> rcases hy with rfl | ⟨e', _, rfl⟩ <;> simp [lcStep, bindT, Out.calm, pairB]
        rw [this, List.map_map]; rfl
      have hz2 : (l.zip (l.drop 1)).length ≤ 16777216 := by rw [List.length_zip]; omega
      rw [List.length_zip] at hz2
      rw [List.drop_one] at c2 hz2
      have hz3 : l.length ≤ 16777217 := by omega
      simp [b_is_lot, biW, one, isTyW, W.tyB, W.tru, items, valW, wipeE, c1, hz, W.bls, allBls_map, ha, slW, W.bd, cut1, zipW, W.tupl, c2, hz2, hz3, all_id]
    · have ha' : l.all stB = false := by simpa using ha
      simp [b_is_lot, biW, one, isTyW, W.tyB, W.tru, items, valW, wipeE, c1, hz, W.bls, allBls_map, ha', all_id]
  · exact absurd rfl h
end
end K01

namespace K01
open PySem PySem.Spec PyProof.Rows L2 Mi
noncomputable section
theorem townAt_eq {S : Sto} {t : Nat} {c : Int} {r : Nat} {rs : List (MK × W)} (h : townAt S t = some (c, r, rs)) : S[t]? = some (.dK [(.t 0, .int c), (.t 1, .ref r)]) ∧ S[r]? = some (.dK rs) := by
  unfold townAt at h
  split at h
  · split at h
    · cases h; exact ⟨‹_›, ‹_›⟩
    · cases h
  · cases h
theorem small_c (i : Int) : smallB 104729 = true ∧ smallB 69621 = true := by constructor <;> decide
theorem at_scr {ns : List Int} {a : Int} (h0 : 0 ≤ a) (h1 : a < ns.length) : ∃ y, ns[a.toNat]? = some y ∧ atW (ns.map W.int) a = some (.int y) ∧ (ixNat ns.length a).bind (fun j => ns[j]?) = some y := by
  have hlt : a.toNat < ns.length := by omega
  refine ⟨ns[a.toNat], List.getElem?_eq_getElem hlt, ?_, ?_⟩
  · unfold atW ixNat
    rw [List.length_map, if_pos h0, if_pos h1]
    simp [hlt]
  · unfold ixNat
    rw [if_pos h0, if_pos h1]
    simp [hlt]
theorem drawTail {L : List Nat} {S1 : Sto} {e0 : Option W} {t r : Nat} {c x many at_ : Int} {rs : List (MK × W)} (hS : S1[t]? = some (.dK [(.t 0, .int c), (.t 1, .ref r)])) (hR : S1[r]? = some (.dK rs)) (hr : r ∉ L) (hl : rs.length < 16777216) (h0 : 0 < many) (h1 : many < 1073741824) :
    (match exS CC 100 L (.seq (.ife (.cmp .ge (.var 4) (.bin .pow (.cst (.int 10)) (.cst (.int 18)))) (.seq (.setIx (.ix (.var 1) (.cst (.tx 1))) (.var 3) (.bin .fdiv (.var 4) (.var 2))) (.seq (.ret (.bin .mod (.var 4) (.var 2))) .skip)) .skip) (.seq (.asg (.nm 5) (.bin .mod (.bin .add (.var 4) (.bin .mul (.cst (.int 104729)) (.ix (.var 1) (.cst (.tx 0))))) (.cst (.int 4294967291)))) (.seq (.asg (.nm 5) (.bin .mod (.bin .pow (.var 5) (.cst (.int 5))) (.cst (.int 4294967279)))) (.seq (.ret (.bin .mod (.bin .fdiv (.bin .mod (.bin .add (.bin .mul (.bin .fdiv (.var 5) (.cst (.int 64))) (.cst (.int 69621))) (.var 5)) (.cst (.int 4294967231))) (.cst (.int 8))) (.var 2))) .skip))))
        [e0, some (.ref t), some (.int many), some (.int at_), some (.int x), none] S1 with
      | .ok (.nx _) S1 => .ok .non S1
      | .ok (.rt w) S1 => .ok w S1
      | .ok _ _ => .bad
      | .ex c p S => .ex c p S
      | .bad => .bad : Out W) = if 10 ^ 18 ≤ x then .ok (.int (x % many)) (S1.set r (.dK (putT rs (.i at_) (.int (x / many))))) else .ok (.int (drawV x c many)) S1 := by
  have hpow : ((x + 104729 * c) % 4294967291).natAbs < 18446744073709551616 := by omega
  by_cases hx : 1000000000000000000 ≤ x
  · simp [bin_pow, hx, ixW, hS, dLook, W.key, getT, bin_fdiv, bin_mod, h0, h1, stIx, hr, hR, dPut, hl]
  · simp [bin_pow, hx, ixW, hS, dLook, W.key, getT, bin_fdiv, bin_mod, bin_mul, h0, h1, smallB, hpow, bindT, drawV]
theorem r_draw (L : List Nat) (ws : List W) (S : Sto) : OutLe S (runB CC 100 6 b_law_draw L ws S) (g_draw L ws S) := by
  intro h
  left
  unfold g_draw at h ⊢
  split at h
  · rename_i ns t many
    split at h
    · rename_i c r rs ht
      split at h
      · rename_i hc
        split at h
        · rename_i x hx
          simp only [ht, if_pos hc, hx]
          obtain ⟨h1, h2⟩ := townAt_eq ht
          obtain ⟨c1, c2, c3, c4, c5, c6, c7⟩ := hc
          have lt : t < S.length := (List.getElem?_eq_some_iff.mp h1).1
          have hS : (S.set t (.dK [(.t 0, .int (c + 1)), (.t 1, .ref r)]))[t]? = some (.dK [(.t 0, .int (c + 1)), (.t 1, .ref r)]) := List.getElem?_set_self lt
          have hR : (S.set t (.dK [(.t 0, .int (c + 1)), (.t 1, .ref r)]))[r]? = some (.dK rs) := by rw [List.getElem?_set_ne c3]; exact h2
          have hset : dPut S t (.tx 0) (.int (c + 1)) = some (S.set t (.dK [(.t 0, .int (c + 1)), (.t 1, .ref r)])) := by simp [dPut, h1, W.key, putT]
          clear h
          generalize S.set t (.dK [(.t 0, .int (c + 1)), (.t 1, .ref r)]) = S1 at hS hR hset ⊢
          have hg : mtT S1 .get2 (.ref r) = true := by simp [mtT, hR]
          have hm : ∀ (a : Int) (d : W), mtW L S1 .get2 r [.int a, d] = some ((getT rs (.i a)).getD d, S1) := fun a d => by simp [mtW, dLook, hR, W.key]
          have tl := fun at_ x e0 => drawTail (L := L) (e0 := e0) (at_ := at_) (x := x) hS hR c2 c5 c6 c7
          have hcnt : ixW S1 (.ref t) (.tx 0) = some (.int (c + 1)) := by simp [ixW, hS, dLook, W.key, getT]
          have hrst : ixW S1 (.ref t) (.tx 1) = some (.ref r) := by simp [ixW, hS, dLook, W.key, getT]
          have hcnt0 : ixW S (.ref t) (.tx 0) = some (.int c) := by simp [ixW, h1, dLook, W.key, getT]
          have hst : ∀ env, stIx L env (.int (c + 1)) (.ref t) (.tx 0) S = .ok (.nx env) S1 := fun env => by simp [stIx, c1, h1, hset]
          rw [runB_eq]
          cases ns with
          | nil =>
            have hv : (getT rs (.i 0)).getD (.int 0) = .int x := by
              simp only [restW, atOf, if_true] at hx
              cases e : getT rs (.i 0) with
              | none => rw [e] at hx; cases hx; rfl
              | some w => rw [e] at hx; cases w <;> first | (cases hx; done) | (cases hx; rfl)
            simp only [atOf, if_true]
            rw [← tl 0 x (some (.scr []))]
            simp [b_law_draw, hcnt0, hst, W.tru, hcnt, bindT, hrst, hg, hm, hv] <;> rfl
          | cons n ns =>
            have hlen : 0 < ((n :: ns).length : Int) := by simp only [List.length_cons]; omega
            have a0 := Int.emod_nonneg (c + 1) (Int.ne_of_gt hlen)
            have a1 := Int.emod_lt_of_pos (c + 1) hlen
            have hat : atOf (n :: ns) (c + 1) = (c + 1) % ((n :: ns).length : Int) := by simp [atOf]
            rw [hat] at hx ⊢
            generalize hA : (c + 1) % ((n :: ns).length : Int) = A at a0 a1 hx ⊢
            obtain ⟨y, _, hy, hy2⟩ := at_scr (ns := n :: ns) a0 a1
            have hv : (getT rs (.i A)).getD (.int y) = .int x := by
              simp only [restW] at hx
              cases e : getT rs (.i A) with
              | none =>
                rw [e] at hx
                simp only [if_neg (List.cons_ne_nil n ns), hy2] at hx
                cases hx; rfl
              | some w => rw [e] at hx; cases w <;> first | (cases hx; done) | (cases hx; rfl)
            rw [← tl A x (some (.scr (n :: ns)))]
            have hb : biW S1 .len [.scr (n :: ns)] = some (.int ((ns.length : Int) + 1)) := rfl
            have hmod : binW S1 .mod (.int (c + 1)) (.int ((ns.length : Int) + 1)) = some (.int A) := by rw [show ((ns.length : Int) + 1) = ((n :: ns).length : Int) by simp, bin_mod, if_pos hlen, hA]
            have hix : ixW S1 (.scr (n :: ns)) (.int A) = some (.int y) := hy
            simp [b_law_draw, hcnt0, hst, W.tru, hcnt, hb, hmod, bindT, hrst, hg, hix, hm, hv, -ix_scr'] <;> rfl
        · exact absurd rfl h
      · exact absurd rfl h
    · exact absurd rfl h
  · exact absurd rfl h
end
end K01

namespace K01
open PySem PySem.Spec PyProof.Rows L2 Mi
noncomputable section
theorem draw_noex {L : List Nat} {ws : List W} {S : Sto} {c : Nat} {p : Option W} {S' : Sto} : g_draw L ws S ≠ .ex c p S' := by
  unfold g_draw
  split
  · split
    · split
      · split
        · split <;> (intro h; cases h)
        · intro h; cases h
      · intro h; cases h
    · intro h; cases h
  · intro h; cases h
theorem r_astretch (L : List Nat) (ws : List W) (S : Sto) : OutLe S (runB CC 100 3 b_law_a_stretch L ws S) (g_astretch L ws S) := by
  intro h
  left
  unfold g_astretch at h ⊢
  split at h
  · rename_i s t
    rw [runB_eq]
    simp only at h ⊢
    cases h1 : g_draw L [s, t, .int 11] S <;> rw [h1] at h <;> first | exact absurd rfl h | skip
    · rename_i v S1
      simp only [Out.bind_ok] at h ⊢
      cases v <;> first | exact absurd rfl h | skip
      rename_i f
      simp only at h ⊢
      cases h2 : g_draw L [s, t, .int 6] S1 <;> rw [h2] at h <;> first | exact absurd rfl h | skip
      · rename_i v S2
        simp only [Out.bind_ok] at h ⊢
        cases v <;> first | exact absurd rfl h | skip
        rename_i k
        simp only at h ⊢
        by_cases hk : k = 0
        · simp [b_law_a_stretch, h1, h2, hk, bindT]
        · have hk' : (k == 0) = false := by simpa using hk
          simp only [if_neg hk] at h ⊢
          cases h3 : g_draw L [s, t, .int (12 - f)] S2 <;> rw [h3] at h <;> first | exact absurd rfl h | skip
          · rename_i v S3
            simp only [Out.bind_ok] at h ⊢
            cases v <;> first | exact absurd rfl h | skip
            simp [b_law_a_stretch, h1, h2, h3, hk', bindT]
          · exact absurd h3 draw_noex
      · exact absurd h2 draw_noex
    · exact absurd h1 draw_noex
  · exact absurd rfl h
/-! what a draw keeps -/
def Town (S : Sto) (t r m : Nat) : Prop := ∃ (c : Nat) (rs : List (MK × W)), c ≤ m ∧ townAt S t = some ((c : Int), r, rs) ∧ t ≠ r ∧ rs.length ≤ c ∧ ∀ p ∈ rs, ∃ i, p.2 = .int i
theorem getT_int {rs : List (MK × W)} (h : ∀ p ∈ rs, ∃ i, p.2 = W.int i) {k : MK} {w : W} (e : getT rs k = some w) : ∃ i, w = .int i := by
  unfold getT at e
  obtain ⟨p, hp, rfl⟩ := Option.map_eq_some_iff.mp e
  exact h p (List.mem_of_find?_eq_some hp)
theorem putT_int {rs : List (MK × W)} (h : ∀ p ∈ rs, ∃ i, p.2 = W.int i) {k : MK} {i : Int} : ∀ p ∈ putT rs k (.int i), ∃ i, p.2 = W.int i := by
  intro p hp
  unfold putT at hp
  split at hp
  · obtain ⟨q, hq, rfl⟩ := List.mem_map.mp hp
    split
    · exact ⟨_, rfl⟩
    · exact h q hq
  · rcases List.mem_append.mp hp with hp | hp
    · exact h p hp
    · rw [List.mem_singleton.mp hp]; exact ⟨_, rfl⟩
theorem putT_len (rs : List (MK × W)) (k : MK) (w : W) : (putT rs k w).length ≤ rs.length + 1 := by
  unfold putT; split <;> simp
theorem rest_some (ns : List Int) {rs : List (MK × W)} (h : ∀ p ∈ rs, ∃ i, p.2 = W.int i) (c : Int) : ∃ x, restW ns rs (atOf ns c) = some x := by
  unfold restW
  cases e : getT rs (.i (atOf ns c)) with
  | some w => obtain ⟨i, rfl⟩ := getT_int h e; exact ⟨i, rfl⟩
  | none =>
    by_cases hn : ns = []
    · simp only [hn, if_true]; exact ⟨0, rfl⟩
    · simp only [hn, if_false, atOf]
      have hl : 0 < (ns.length : Int) := by
        have := List.length_pos_iff.mpr hn; omega
      obtain ⟨y, _, _, h3⟩ := at_scr (ns := ns) (Int.emod_nonneg c (Int.ne_of_gt hl)) (Int.emod_lt_of_pos c hl)
      exact ⟨y, h3⟩
theorem draw_spec {S : Sto} {t r m : Nat} (h : Town S t r m) (hm : m < 1000000) (ns : List Int) {many : Int} (h0 : 0 < many) (h1 : many < 1073741824) {L : List Nat} (ht : t ∉ L) (hr : r ∉ L) :
    ∃ v S', g_draw L [.scr ns, .ref t, .int many] S = .ok (.int v) S' ∧ 0 ≤ v ∧ v < many ∧ Town S' t r (m + 1) ∧ S'.length = S.length ∧ ∀ n, n ≠ t → n ≠ r → S'[n]? = S[n]? := by
  obtain ⟨c, rs, hc, hT, hne, hl, hi⟩ := h
  obtain ⟨x, hx⟩ := rest_some ns hi ((c : Int) + 1)
  obtain ⟨g1, g2⟩ := townAt_eq hT
  have lt : t < S.length := (List.getElem?_eq_some_iff.mp g1).1
  have lr : r < S.length := (List.getElem?_eq_some_iff.mp g2).1
  have cond : t ∉ L ∧ r ∉ L ∧ t ≠ r ∧ 0 ≤ (c : Int) ∧ rs.length < sixteen ∧ 0 < many ∧ many < 1073741824 := ⟨ht, hr, hne, by omega, by unfold sixteen; omega, h0, h1⟩
  unfold g_draw
  simp only [hT, if_pos cond, hx]
  by_cases hb : (10 : Int) ^ 18 ≤ x
  · rw [if_pos hb]
    refine ⟨_, _, rfl, Int.emod_nonneg _ (Int.ne_of_gt h0), Int.emod_lt_of_pos _ h0, ⟨c + 1, putT rs (.i (atOf ns ((c : Int) + 1))) (.int (x / many)), by omega, ?_, hne, ?_, putT_int hi⟩, by simp, fun n h2 h3 => ?_⟩
    · unfold townAt
      rw [List.getElem?_set_ne (Ne.symm hne), List.getElem?_set_self lt]
      simp only
      rw [List.getElem?_set_self (by simpa using lr)]
      rfl
    · exact Nat.le_trans (putT_len _ _ _) (by omega)
    · rw [List.getElem?_set_ne (Ne.symm h3), List.getElem?_set_ne (Ne.symm h2)]
  · rw [if_neg hb]
    refine ⟨_, _, rfl, Int.emod_nonneg _ (Int.ne_of_gt h0), Int.emod_lt_of_pos _ h0, ⟨c + 1, rs, by omega, ?_, hne, by omega, hi⟩, by simp, fun n h2 h3 => ?_⟩
    · unfold townAt
      rw [List.getElem?_set_self lt]
      simp only
      rw [List.getElem?_set_ne hne, g2]
      rfl
    · rw [List.getElem?_set_ne (Ne.symm h2)]
def Good (p : Int × Option Int) : Prop := 0 ≤ p.1 ∧ p.1 ≤ 10 ∧ ∀ e, p.2 = some e → p.1 < e ∧ e ≤ 12
theorem Town.up {S : Sto} {t r m m' : Nat} (h : Town S t r m) (le : m ≤ m') : Town S t r m' := by
  obtain ⟨c, rs, hc, h⟩ := h
  exact ⟨c, rs, by omega, h⟩
theorem astretch_spec {S : Sto} {t r m : Nat} (h : Town S t r m) (hm : m < 999000) (ns : List Int) {L : List Nat} (ht : t ∉ L) (hr : r ∉ L) :
    ∃ p S', g_astretch L [.scr ns, .ref t] S = .ok (stW p) S' ∧ Good p ∧ Town S' t r (m + 3) ∧ S'.length = S.length ∧ ∀ n, n ≠ t → n ≠ r → S'[n]? = S[n]? := by
  obtain ⟨f, S1, e1, f0, f1, T1, l1, o1⟩ := draw_spec h (by omega) ns (many := 11) (by decide) (by decide) ht hr
  obtain ⟨k, S2, e2, k0, k1, T2, l2, o2⟩ := draw_spec T1 (by omega) ns (many := 6) (by decide) (by decide) ht hr
  obtain ⟨d, S3, e3, d0, d1, T3, l3, o3⟩ := draw_spec T2 (by omega) ns (many := 12 - f) (by omega) (by omega) ht hr
  unfold g_astretch
  simp only [e1, e2, e3, Out.bind_ok]
  by_cases hk : k = 0
  · rw [if_pos hk]
    exact ⟨(f, none), S2, rfl, ⟨f0, by show f ≤ 10; omega, fun e he => by cases he⟩, T2.up (by omega), by omega, fun n h2 h3 => by rw [o2 n h2 h3, o1 n h2 h3]⟩
  · rw [if_neg hk]
    refine ⟨(f, some (f + 1 + d)), S3, rfl, ⟨f0, by show f ≤ 10; omega, fun e he => ?_⟩, T3.up (by omega), by omega, fun n h2 h3 => by rw [o3 n h2 h3, o2 n h2 h3, o1 n h2 h3]⟩
    cases he
    exact ⟨by show f < _; omega, by show _ ≤ 12; omega⟩
/-! runs -/
theorem whl_end {l : List W} (hl : l.all W.flat = true) {a b : Option W} {L : List Nat} {S : Sto} : ∀ (n : Nat) (e : Int), memW l (Lo.endF (memW l) n e) = false →
    whlL (fun env S => ev CC L (.cmp .in_ (.var 3) (.var 0)) env S) (fun env S => exS CC 100 L (.seq (.asg (.nm 3) (.bin .add (.var 3) (.cst (.int 1)))) .skip) env S) (n + 1) [some (.lst l), a, b, some (.int e)] S = .ok (.nx [some (.lst l), a, b, some (.int (Lo.endF (memW l) n e))]) S := by
  have hin : ∀ e, inW S (.int e) (.lst l) = some (memW l e) := fun e => by simp [inW, W.flat, hl, memW]
  intro n
  induction n with
  | zero =>
    intro e h
    simp only [Lo.endF] at h
    simp [whlL, cmp_in, hin, h, Lo.endF]
  | succ n ih =>
    intro e h
    cases hm : memW l e with
    | false => 
      rw [whlL]
      simp [cmp_in, hin, hm, Lo.endF]
    | true =>
      have he : Lo.endF (memW l) (n + 1) e = Lo.endF (memW l) n (e + 1) := by simp [Lo.endF, hm]
      rw [he] at h ⊢
      rw [whlL]
      simp [cmp_in, hin, hm, bindT, ih (e + 1) h]
end
end K01

namespace K01
open PySem PySem.Spec PyProof.Rows L2 Mi
noncomputable section
abbrev runBody : MS := (.seq (.ife (.and (.cmp .in_ (.var 2) (.var 0)) (.cmp .notIn (.bin .sub (.var 2) (.cst (.int 1))) (.var 0))) (.seq (.asg (.nm 3) (.var 2)) (.seq (.whl (.cmp .in_ (.var 3) (.var 0)) (.seq (.asg (.nm 3) (.bin .add (.var 3) (.cst (.int 1)))) .skip)) (.seq (.ex (.mt .append (.var 1) (.cons (.tup (.cons (.var 2) (.cons (.ife (.cmp .eq (.var 3) (.cst (.int 13))) (.cst .non) (.var 3)) .nil))) .nil))) .skip))) .skip) .skip)
theorem runs_loop {l : List W} (hl : l.all W.flat = true) {L : List Nat} {S : Sto} (hL : S.length ∉ L) : ∀ (xs : List Nat) (acc : List W) (o2 o3 : Option W), acc.length + xs.length ≤ 1000 → (∀ n ∈ xs, memW l (Lo.endF (memW l) 99 (n : Nat)) = false) →
    ∃ o2' o3', forL (forStep CC 100 L (.nm 2) runBody) (xs.map fun (i : Nat) => .int (0 + i)) [some (.lst l), some (.ref S.length), o2, o3] (S ++ [.lst acc]) = .ok (.nx [some (.lst l), some (.ref S.length), o2', o3']) (S ++ [.lst (acc ++ xs.flatMap fun (c : Nat) => runAt (memW l) c)]) := by
  have hin : ∀ S e, inW S (.int e) (.lst l) = some (memW l e) := fun S e => by simp [inW, W.flat, hl, memW]
  intro xs
  induction xs with
  | nil => intro acc o2 o3 _ _; exact ⟨o2, o3, by simp [forL]⟩
  | cons n xs ih =>
    intro acc o2 o3 hlen h
    have hn := h n List.mem_cons_self
    have hx := fun k hk => h k (List.mem_cons_of_mem _ hk)
    simp only [List.length_cons] at hlen
    rw [List.map_cons, forL]
    have e0 : ((0 : Int) + (n : Nat)) = n := by omega
    by_cases hc : memW l n = true ∧ memW l ((n : Int) - 1) = false
    · have hrun : runAt (memW l) n = [.tup [.int n, if Lo.endF (memW l) 99 n = 13 then .non else .int (Lo.endF (memW l) 99 n)]] := by simp [runAt, hc]
      have hw := whl_end hl (a := some (.ref S.length)) (b := some (.int n)) (L := L) (S := S ++ [.lst acc]) 99 n hn
      have hstep : forStep CC 100 L (.nm 2) runBody (.int (0 + (n : Nat))) [some (.lst l), some (.ref S.length), o2, o3] (S ++ [.lst acc]) = .ok (.nx [some (.lst l), some (.ref S.length), some (.int n), some (.int (Lo.endF (memW l) 99 n))]) (S ++ [.lst (acc ++ runAt (memW l) n)]) := by
        rw [e0, hrun]
        simp only [forStep, bindT]
        by_cases h13 : Lo.endF (memW l) 99 n = 13
        · rw [h13] at hw
          simp [runBody, cmp_in, cmp_notIn, hin, hc, bindT, hw, mtT, mtW, appW, hL, h13, show acc.length < 16777216 by omega]
        · have h13' : (Lo.endF (memW l) 99 n == 13) = false := by simpa using h13
          simp [runBody, cmp_in, cmp_notIn, hin, hc, bindT, hw, mtT, mtW, appW, hL, h13, h13', show acc.length < 16777216 by omega]
      rw [hstep, Out.bind_ok]
      obtain ⟨a, b, hih⟩ := ih (acc ++ runAt (memW l) n) (some (.int n)) (some (.int (Lo.endF (memW l) 99 n))) (by rw [hrun]; simp; omega) hx
      exact ⟨a, b, by dsimp only; rw [hih, List.flatMap_cons, List.append_assoc]⟩
    · have hrun : runAt (memW l) n = [] := by simp [runAt, hc]
      have hstep : forStep CC 100 L (.nm 2) runBody (.int (0 + (n : Nat))) [some (.lst l), some (.ref S.length), o2, o3] (S ++ [.lst acc]) = .ok (.nx [some (.lst l), some (.ref S.length), some (.int n), o3]) (S ++ [.lst acc]) := by
        rw [e0]
        simp only [forStep, bindT]
        cases h1 : memW l n with
        | false => simp [runBody, cmp_in, cmp_notIn, hin, h1, bindT]
        | true =>
          have h2 : memW l ((n : Int) - 1) = true := by simpa [h1] using hc
          simp [runBody, cmp_in, cmp_notIn, hin, h1, h2, bindT]
      rw [hstep, Out.bind_ok]
      obtain ⟨a, b, hih⟩ := ih acc (some (.int n)) o3 (by omega) hx
      exact ⟨a, b, by dsimp only; rw [hih, List.flatMap_cons, hrun, List.nil_append]⟩
theorem fz_run (S : Sto) (n d : Nat) (m : Int → Bool) : ∀ xs : List Nat, fzs S n (d + 1) (xs.flatMap fun (c : Nat) => runAt m c) = some (xs.flatMap fun (c : Nat) => runAt m c)
  | [] => by cases d <;> simp [fzs]
  | x :: xs => by
    rw [List.flatMap_cons]
    by_cases hc : m x = true ∧ m ((x : Int) - 1) = false
    · have hr : runAt m x = [.tup [.int x, if Lo.endF m 99 x = 13 then .non else .int (Lo.endF m 99 x)]] := by simp [runAt, hc]
      rw [hr, List.cons_append, List.nil_append]
      by_cases h13 : Lo.endF m 99 x = 13
      · cases d <;> simp [fzs, fz, fz_run S n _ m xs, h13]
      · cases d <;> simp [fzs, fz, fz_run S n _ m xs, h13]
    · have hr : runAt m x = [] := by simp [runAt, hc]
      rw [hr, List.nil_append]; exact fz_run S n d m xs
theorem r_runs (L : List Nat) (ws : List W) (S : Sto) : OutLe S (runB CC 100 4 b_law_runs L ws S) (g_runs L ws S) := by
  intro h
  right
  unfold g_runs at h ⊢
  split at h
  · rename_i l
    split at h
    · rename_i hc
      obtain ⟨hL, c1, c2⟩ := hc
      have c2' : ∀ n ∈ List.range 13, memW l (Lo.endF (memW l) 99 (n : Nat)) = false := fun n hn => by
        have := List.all_eq_true.mp c2 n hn; simpa using this
      obtain ⟨a, b, hloop⟩ := runs_loop c1 hL (List.range 13) [] none none (by simp) c2'
      refine ⟨.ref S.length, S ++ [.lst (runsW (memW l))], .lst (runsW (memW l)), S, 3, ?_, by rw [if_pos ⟨hL, c1, c2⟩], by simp, Nat.le_refl _, .inl rfl, ?_⟩
      · rw [runB_eq]
        have hr : rngW [.int 13] = some ((List.range 13).map fun (i : Nat) => .int (0 + i)) := rfl
        simp only [b_law_runs, List.map_cons, List.map_nil, List.length_cons, List.length_nil, List.replicate, List.cons_append, List.nil_append, ex_seq, ex_asg, ev_slst, ev_nil, slstK_ok, asgK_ok, bindT, List.set, if_pos (show (0 : Nat) ≤ 16777216 by decide), seqK_nx, ex_for, ev_cons, ev_cst, consK_ok, consK2_ok, forK_ok, items, W.tupl, hr, Option.map_some, forGo_some]
        rw [hloop]
        simp [runsW]
      · have hg : (S ++ [Node.lst (runsW (memW l))])[S.length]? = some (.lst (runsW (memW l))) := by simp
        simp only [fz, Nat.lt_irrefl, if_false, hg]
        rw [show fzs (S ++ [Node.lst (runsW (memW l))]) S.length 2 (runsW (memW l)) = some (runsW (memW l)) from fz_run _ _ 1 _ _]
        rfl
    · exact absurd rfl h
  · exact absurd rfl h
end
end K01

namespace K01
open PySem PySem.Spec PyProof.Rows L2 Mi
noncomputable section
abbrev lotBody : MS := (.seq (.ife (.and (.tr (.var 1)) (.or (.cmp .isN (.ix (.ix (.var 1) (.cst (.int (-1)))) (.cst (.int 1))) (.cst .non)) (.cmp .le (.var 2) (.ix (.ix (.var 1) (.cst (.int (-1)))) (.cst (.int 1)))))) (.seq (.asg (.nm 4) (.ix (.ix (.var 1) (.cst (.int (-1)))) (.cst (.int 1)))) (.seq (.asg (.nm 5) (.ife (.or (.cmp .isN (.var 4) (.cst .non)) (.cmp .isN (.var 3) (.cst .non))) (.cst .non) (.bi .max2 (.cons (.var 4) (.cons (.var 3) .nil))))) (.seq (.setIx (.var 1) (.cst (.int (-1))) (.tup (.cons (.ix (.ix (.var 1) (.cst (.int (-1)))) (.cst (.int 0))) (.cons (.var 5) .nil)))) .skip))) (.seq (.ex (.mt .append (.var 1) (.cons (.tup (.cons (.var 2) (.cons (.var 3) .nil))) .nil))) .skip)) .skip)
theorem at_last (l : List W) (x : W) : atW (l ++ [x]) (-1) = some x := by
  unfold atW ixNat
  rw [if_neg (by decide), if_pos (by simp; omega)]
  simp
  have : ((-1 : Int) + (l.length + 1)).toNat = l.length := by omega
  rw [this]; simp
theorem ix_last (n : Nat) : ixNat (n + 1) (-1) = some n := by
  unfold ixNat
  rw [if_neg (by decide), if_pos (by omega)]
  congr 1; omega
theorem max_eq (a b : Int) : (if b > a then b else a) = max a b := by
  rw [Int.max_def]; split <;> split <;> omega
theorem isN_end (e : Option Int) : W.isN (endW e) = e.isNone := by cases e <;> rfl
def stepP (acc : List Lo.P) (cur q : Lo.P) : List Lo.P := match cur.2 with
  | none => acc ++ [cur]
  | some e => if q.1 ≤ e then acc ++ [(cur.1, match q.2 with
      | none => none
      | some f => some (max e f))] else acc ++ [cur] ++ [q]
theorem lot_step {L : List Nat} {S1 : Sto} {n : Nat} {acc : List Lo.P} {cur q : Lo.P} {x0 o2 o3 o4 o5 : Option W} (hn : n ∉ L) (hS : S1[n]? = some (.lst (acc.map stW ++ [stW cur]))) (hl : acc.length + 1 < 16777216) :
    ∃ o4' o5', forStep CC 100 L (.tp (.cons (.nm 2) (.cons (.nm 3) .nil))) lotBody (stW q) [x0, some (.ref n), o2, o3, o4, o5] S1 = .ok (.nx [x0, some (.ref n), some (.int q.1), some (endW q.2), o4', o5']) (S1.set n (.lst ((stepP acc cur q).map stW))) := by
  have hix : ixW S1 (.ref n) (.int (-1)) = some (stW cur) := by simp [ixW, hS, at_last]
  have htr : W.tru S1 (.ref n) = some true := by simp [W.tru, hS]
  have h1 : ixW S1 (stW cur) (.int 1) = some (endW cur.2) := by simp [stW]
  have h0 : ixW S1 (stW cur) (.int 0) = some (.int cur.1) := by simp [stW]
  have hset : ∀ env w, stIx L env w (.ref n) (.int (-1)) S1 = .ok (.nx env) (S1.set n (.lst (acc.map stW ++ [w]))) := fun env w => by
    have hx : ixNat (acc.map stW ++ [stW cur]).length (-1) = some acc.length := by
      rw [show (acc.map stW ++ [stW cur]).length = acc.length + 1 by simp]; exact ix_last _
    simp only [stIx, if_neg hn, hS, hx]
    congr 3
    rw [List.set_append_right _ _ (by simp)]; simp
  have hmt : mtT S1 .append (.ref n) = true := by simp [mtT, hS]
  have happ : ∀ w, mtW L S1 .append n [w] = some (.non, S1.set n (.lst (acc.map stW ++ [stW cur] ++ [w]))) := fun w => by
    simp only [mtW, appW, hS]
    rw [if_pos ⟨hn, by simp; omega⟩]
  obtain ⟨c1, c2⟩ := cur
  obtain ⟨q1, q2⟩ := q
  simp only [forStep, bindT, stW, Option.bind_some, List.set]
  cases c2 with
  | none =>
    refine ⟨some .non, some .non, ?_⟩
    simp only [stW] at hix h1 h0 hset happ hS
    simp [lotBody, htr, hix, endW, bindT, hset, stepP, stW]
  | some e =>
    by_cases hq : q1 ≤ e
    · cases q2 with
      | none =>
        refine ⟨some (.int e), some .non, ?_⟩
        simp only [stW] at hix h1 h0 hset happ hS
        simp [lotBody, htr, hix, endW, bindT, hset, stepP, stW, hq]
      | some f =>
        refine ⟨some (.int e), some (.int (max e f)), ?_⟩
        simp only [stW] at hix h1 h0 hset happ hS
        have hm : biW S1 .max2 [.int e, .int f] = some (.int (max e f)) := by
          show some (W.int (if f > e then f else e)) = _
          rw [max_eq]
        simp [lotBody, htr, hix, endW, bindT, hset, stepP, stW, hq, hm]
    · refine ⟨o4, o5, ?_⟩
      simp only [stW] at hix h1 h0 hset happ hS
      simp [lotBody, htr, hix, endW, bindT, hset, stepP, stW, hq, hmt, happ]
theorem lot_loop {L : List Nat} {n : Nat} {x0 : Option W} (hn : n ∉ L) : ∀ (r acc : List Lo.P) (cur : Lo.P) (S1 : Sto) (o2 o3 o4 o5 : Option W), S1[n]? = some (.lst (acc.map stW ++ [stW cur])) → acc.length + r.length + 1 ≤ 16777216 →
    ∃ b2 b3 b4 b5, forL (forStep CC 100 L (.tp (.cons (.nm 2) (.cons (.nm 3) .nil))) lotBody) (r.map stW) [x0, some (.ref n), o2, o3, o4, o5] S1 = .ok (.nx [x0, some (.ref n), b2, b3, b4, b5]) (S1.set n (.lst ((acc ++ Lo.mgP cur r).map stW)))
  | [], acc, cur, S1, o2, o3, o4, o5, hS, _ => by
    refine ⟨o2, o3, o4, o5, ?_⟩
    have : S1.set n (.lst ((acc ++ Lo.mgP cur []).map stW)) = S1 := by
      obtain ⟨h1, h2⟩ := List.getElem?_eq_some_iff.mp hS
      have e : (.lst ((acc ++ Lo.mgP cur []).map stW) : Node) = S1[n] := by rw [h2]; simp [Lo.mgP]
      rw [e]; simp
    rw [this]; rfl
  | q :: r, acc, cur, S1, o2, o3, o4, o5, hS, hl => by
    simp only [List.length_cons] at hl
    have lt : n < S1.length := (List.getElem?_eq_some_iff.mp hS).1
    obtain ⟨b4, b5, hstep⟩ := lot_step (x0 := x0) (o2 := o2) (o3 := o3) (o4 := o4) (o5 := o5) (q := q) hn hS (by omega)
    have go : ∀ (acc' : List Lo.P) (cur' : Lo.P), stepP acc cur q = acc' ++ [cur'] → acc'.length ≤ acc.length + 1 → acc ++ Lo.mgP cur (q :: r) = acc' ++ Lo.mgP cur' r → ∃ b2 b3 b4 b5, forL (forStep CC 100 L (.tp (.cons (.nm 2) (.cons (.nm 3) .nil))) lotBody) ((q :: r).map stW) [x0, some (.ref n), o2, o3, o4, o5] S1 = .ok (.nx [x0, some (.ref n), b2, b3, b4, b5]) (S1.set n (.lst ((acc ++ Lo.mgP cur (q :: r)).map stW))) := by
      intro acc' cur' e1 e2 e3
      have hS2 : (S1.set n (.lst ((stepP acc cur q).map stW)))[n]? = some (.lst (acc'.map stW ++ [stW cur'])) := by
        rw [List.getElem?_set_self lt, e1, List.map_append]; rfl
      obtain ⟨a2, a3, a4, a5, ih⟩ := lot_loop hn r acc' cur' _ (some (.int q.1)) (some (endW q.2)) b4 b5 hS2 (by omega)
      refine ⟨a2, a3, a4, a5, ?_⟩
      rw [List.map_cons, forL, hstep, Out.bind_ok]
      dsimp only
      rw [ih, List.set_set, e3]
    cases e : cur.2 with
    | none => exact go acc cur (by simp [stepP, e]) (by omega) (by rw [Lo.mgP, e])
    | some x =>
      by_cases hq : q.1 ≤ x
      · exact go acc _ (by simp only [stepP, e, if_pos hq]; rfl) (by omega) (by rw [Lo.mgP, e]; simp only [if_pos hq]; all_goals (cases q.2 <;> rfl))
      · exact go (acc ++ [cur]) q (by simp only [stepP, e, if_neg hq]) (by simp) (by rw [Lo.mgP, e]; simp only [if_neg hq]; simp)
theorem r_lotof (L : List Nat) (ws : List W) (S : Sto) : OutLe S (runB CC 100 6 b_lot_of L ws S) (g_lotof L ws S) := by
  intro h
  right
  unfold g_lotof at h ⊢
  split at h
  · rename_i x
    split at h
    · rename_i l hx
      split at h
      · rename_i ps hps
        split at h
        · rename_i hc
          obtain ⟨hL, hlen⟩ := hc
          have el := unSs_eq hps
          subst el
          refine ⟨.tup ((Lo.lotF ps).map stW), S ++ [.lst ((Lo.lotF ps).map stW)], .tup ((Lo.lotF ps).map stW), S, 3, ?_, by simp only [hx, hps, if_pos (show S.length ∉ L ∧ ps.length ≤ 16777216 from ⟨hL, hlen⟩)], by simp, Nat.le_refl _, .inl rfl, by simp only [fz, fz_sts, Option.map_some]⟩
          have hseq : ∀ nd, x.seqs (S ++ [nd]) = some (ps.map stW) := fun nd => by
            cases x <;> first | exact hx | skip
            rename_i k
            simp only [W.seqs, W.lis] at hx ⊢
            split at hx
            · rename_i m hm
              rw [get_app hm]; exact hx
            · cases hx
          have hkeys : ∀ S', keysL (fun x S => ev CC L (.ix (.var 0) (.cst (.int 0))) [some x] S) S' (ps.map stW) = some ((ps.map stW).map fstW) := fun S' => keysL_map fun y hy => by
            obtain ⟨p, _, rfl⟩ := List.mem_map.mp hy
            simp [stW, fstW]
          have hsrt := srt_sts (T := T) hlen
          have hdat : CC.dat = W.toD T := rfl
          have hg0 : (S ++ [Node.lst []])[S.length]? = some (.lst []) := by simp
          have hloop : ∃ b2 b3 b4 b5, forL (forStep CC 100 L (.tp (.cons (.nm 2) (.cons (.nm 3) .nil))) lotBody) ((ps.mergeSort Lo.leP).map stW) [some x, some (.ref S.length), none, none, none, none] (S ++ [.lst []]) = .ok (.nx [some x, some (.ref S.length), b2, b3, b4, b5]) (S ++ [.lst ((Lo.lotF ps).map stW)]) := by
            have hsl : (ps.mergeSort Lo.leP).length = ps.length := List.length_mergeSort _
            unfold Lo.lotF
            generalize ps.mergeSort Lo.leP = s at hsl
            cases s with
            | nil => exact ⟨none, none, none, none, rfl⟩
            | cons p r =>
              simp only [List.length_cons] at hsl
              have hmt : mtT (S ++ [Node.lst []]) .append (.ref S.length) = true := by simp [mtT]
              have happ : ∀ w, mtW L (S ++ [Node.lst []]) .append S.length [w] = some (.non, S ++ [.lst [w]]) := fun w => by
                simp [mtW, appW, hL]
              have htr : W.tru (S ++ [Node.lst []]) (.ref S.length) = some false := by simp [W.tru]
              have hstep : forStep CC 100 L (.tp (.cons (.nm 2) (.cons (.nm 3) .nil))) lotBody (stW p) [some x, some (.ref S.length), none, none, none, none] (S ++ [.lst []]) = .ok (.nx [some x, some (.ref S.length), some (.int p.1), some (endW p.2), none, none]) (S ++ [.lst [stW p]]) := by
                simp only [forStep, bindT, stW, Option.bind_some, List.set]
                simp [lotBody, htr, hmt, happ]
              obtain ⟨b2, b3, b4, b5, hl⟩ := lot_loop (x0 := some x) hL r [] p (S ++ [.lst [stW p]]) (some (.int p.1)) (some (endW p.2)) none none (by simp) (by simp; omega)
              refine ⟨b2, b3, b4, b5, ?_⟩
              rw [List.map_cons, forL, hstep, Out.bind_ok]
              dsimp only
              rw [hl]
              simp [Lo.lotS]
          obtain ⟨b2, b3, b4, b5, hloop⟩ := hloop
          have hv : ∀ s : List W, items (S ++ [Node.lst []]) .val (.lst s) = some (s, []) := fun _ => rfl
          have htu : biW (S ++ [Node.lst ((Lo.lotF ps).map stW)]) .tuple [.ref S.length] = some (.tup ((Lo.lotF ps).map stW)) := by simp [biW, one, W.lis]
          rw [runB_eq]
          simp only [b_lot_of, List.map_cons, List.map_nil, List.length_cons, List.length_nil, List.replicate, List.cons_append, List.nil_append, ex_seq, ex_asg, ev_slst, ev_nil, slstK_ok, asgK_ok, bindT, List.set, if_pos (show (0 : Nat) ≤ 16777216 by decide), seqK_nx, ex_for, ev_srt, ev_var0, srtK_ok, hseq, hkeys, hdat, hsrt, Option.map_some, Out.of_some, forK_ok, hv, forGo_some]
          rw [hloop]
          simp [htu]
        · exact absurd rfl h
      · exact absurd rfl h
    · exact absurd rfl h
  · exact absurd rfl h
end
end K01

namespace K01
open PySem PySem.Spec PyProof.Rows L2 Mi
noncomputable section
theorem lotof_noex {L : List Nat} {ws : List W} {S : Sto} {c : Nat} {p : Option W} {S' : Sto} : g_lotof L ws S ≠ .ex c p S' := by
  unfold g_lotof
  split
  · split
    · split
      · split <;> (intro h; cases h)
      · intro h; cases h
    · intro h; cases h
  · intro h; cases h
theorem r_joined (L : List Nat) (ws : List W) (S : Sto) : OutLe S (runB CC 100 2 b_joined L ws S) (g_joined L ws S) := by
  intro h
  left
  unfold g_joined at h ⊢
  split at h
  · rename_i a b
    split at h
    · rename_i hl
      rw [runB_eq, if_pos hl]
      cases e : g_lotof L [.tup (a ++ b)] S with
      | ok w S1 => simp [b_joined, hl, e]
      | ex c p S1 => exact absurd e lotof_noex
      | bad => rw [e] at h; exact absurd rfl h
    · exact absurd rfl h
  · exact absurd rfl h
theorem shp2 (p q : Lo.P) : shO p q = .non ∧ Lo.shP p q = none ∨ ∃ r, Lo.shP p q = some r ∧ shO p q = stW r := by
  unfold shO
  cases Lo.shP p q with
  | none => exact .inl ⟨rfl, rfl⟩
  | some r => exact .inr ⟨r, rfl, rfl⟩
theorem r_shared (L : List Nat) (ws : List W) (S : Sto) : OutLe S (runB CC 100 6 b_shared_part L ws S) (g_shared L ws S) := by
  intro h
  left
  unfold g_shared at h ⊢
  split at h
  · rename_i x y
    split at h
    · rename_i p q hp hq
      have := unS_eq hp; subst this
      have := unS_eq hq; subst this
      rw [runB_eq]
      obtain ⟨p1, p2⟩ := p
      obtain ⟨q1, q2⟩ := q
      try simp only [hp, hq]
      have hm : biW S .max2 [.int p1, .int q1] = some (.int (max p1 q1)) := by
        show some (W.int (if q1 > p1 then q1 else p1)) = _
        rw [max_eq]
      have step : ∀ (a : Int) (b : Option Int) (o0 o1 o2 o3 o4 : Option W), lcStep CC L (.nm 5) [o0, o1, o2, o3, o4, none] (.cmp .notN (.ix (.var 5) (.cst (.int 1))) (.cst .non)) (.ix (.var 5) (.cst (.int 1))) (stW (a, b)) S = .ok (b.map W.int) S := fun a b o0 o1 o2 o3 o4 => by
        cases b <;> simp [lcStep, bindT, Out.calm, stW, endW]
      have hv : ∀ s : List W, items S .val (.tup s) = some (s, []) := fun _ => rfl
      have lc : ∀ (o0 o1 o2 o3 o4 : Option W), lcL (lcStep CC L (.nm 5) [o0, o1, o2, o3, o4, none] (.cmp .notN (.ix (.var 5) (.cst (.int 1))) (.cst .non)) (.ix (.var 5) (.cst (.int 1)))) [stW (p1, p2), stW (q1, q2)] S = .ok ((p2.map W.int).toList ++ (q2.map W.int).toList) S := fun o0 o1 o2 o3 o4 => by
        simp only [lcL, step, Out.bind_ok, List.append_nil]
      have hmin : biW S .minD [.lst ((p2.map W.int).toList ++ ((q2.map W.int).toList ++ []))] = some (endW (Lo.minE p2 q2)) := by
        cases p2 <;> cases q2 <;> rfl
      have hlen : (p2.map W.int).toList.length + (q2.map W.int).toList.length ≤ 16777216 := by
        cases p2 <;> cases q2 <;> simp
      have hm0 : ixW S (stW (p1, p2)) (.int 0) = some (.int p1) := by simp [stW]
      have hm1 : ixW S (stW (q1, q2)) (.int 0) = some (.int q1) := by simp [stW]
      have hsh : shO (p1, p2) (q1, q2) = match Lo.minE p2 q2 with
        | none => stW (max p1 q1, none)
        | some e => if e ≤ max p1 q1 then .non else stW (max p1 q1, some e) := by
        unfold shO Lo.shP
        simp only
        cases Lo.minE p2 q2 with
        | none => rfl
        | some e => by_cases he : e ≤ max p1 q1 <;> simp [he]
      rw [hsh]
      rw [List.append_nil] at hmin
      generalize Lo.minE p2 q2 = E at hmin ⊢
      cases E with
      | none =>
        have hmin : biW S .minD [.lst ((p2.map W.int).toList ++ (q2.map W.int).toList)] = some .non := hmin
        show _ = Out.ok (W.tup [.int (max p1 q1), .non]) S
        simp [b_shared_part, hm0, hm1, hm, bindT, hv, wipeE, lc, hlen, hmin]
      | some e =>
        have hmin : biW S .minD [.lst ((p2.map W.int).toList ++ (q2.map W.int).toList)] = some (.int e) := hmin
        by_cases he : e ≤ max p1 q1
        · simp [b_shared_part, hm0, hm1, hm, bindT, hv, wipeE, lc, hlen, hmin, he]
        · simp only [if_neg he]
          show _ = Out.ok (W.tup [.int (max p1 q1), .int e]) S
          simp [b_shared_part, hm0, hm1, hm, bindT, hv, wipeE, lc, hlen, hmin, he]
    · exact absurd rfl h
  · exact absurd rfl h
theorem r_meets (L : List Nat) (ws : List W) (S : Sto) : OutLe S (runB CC 100 2 b_meets L ws S) (g_meets L ws S) := by
  intro h
  left
  unfold g_meets at h ⊢
  split at h
  · rename_i x y
    split at h
    · rename_i p q hp hq
      rw [runB_eq]
      have e : g_shared L [x, y] S = .ok (shO p q) S := by simp only [g_shared, hp, hq]
      try simp only [hp, hq]
      rcases shp2 p q with ⟨h1, h2⟩ | ⟨r, h1, h2⟩
      · simp [b_meets, e, h1, h2]
      · simp [b_meets, e, h1, h2, stW]
    · exact absurd rfl h
  · exact absurd rfl h
theorem len_fm_map {α β γ : Type} (f : α → β → γ) (b : List β) : ∀ a : List α, (a.flatMap fun p => b.map (f p)).length = a.length * b.length
  | [] => by simp
  | x :: a => by rw [List.flatMap_cons, List.length_append, len_fm_map f b a, List.length_map, List.length_cons, Nat.succ_mul, Nat.add_comm]
theorem r_both (L : List Nat) (ws : List W) (S : Sto) : OutLe S (runB CC 100 5 b_both L ws S) (g_both L ws S) := by
  intro h
  left
  unfold g_both at h ⊢
  split at h
  · rename_i a b
    split at h
    · rename_i ps qs hp hq
      split at h
      · rename_i hc
        have := unSs_eq hp; subst this
        have := unSs_eq hq; subst this
        simp only [hp, hq, if_pos hc]
        have hv : ∀ (S : Sto) (s : List W), items S .val (.tup s) = some (s, []) := fun _ _ => rfl
        have hv2 : ∀ (S : Sto) (s : List W), items S .val (.lst s) = some (s, []) := fun _ _ => rfl
        have inner : ∀ (p q : Lo.P) (o2 : Option W) (b0 b1 : Option W), lcStep CC L (.nm 4) [b0, b1, o2, some (stW p), none] (.cst (.bl true)) (.call 12 (.cons (.var 3) (.cons (.var 4) .nil)) .nil) (stW q) S = .ok (some (shO p q)) S := fun p q o2 b0 b1 => by
          have e : g_shared L [stW p, stW q] S = .ok (shO p q) S := by simp [g_shared]
          simp [lcStep, bindT, Out.calm, e]
        have outer : ∀ (p : Lo.P), lcStep2 CC L (.nm 3) [some (.tup (ps.map stW)), some (.tup (qs.map stW)), none, none, none] (.cst (.bl true)) .val (.var 1) (.nm 4) [4] (.cst (.bl true)) (.call 12 (.cons (.var 3) (.cons (.var 4) .nil)) .nil) (stW p) S = .ok (qs.map fun q => shO p q) S := fun p => by
          have := lcL_fm (step := lcStep CC L (.nm 4) [some (.tup (ps.map stW)), some (.tup (qs.map stW)), none, some (stW p), none] (.cst (.bl true)) (.call 12 (.cons (.var 3) (.cons (.var 4) .nil)) .nil)) (S := S) (e := stW) (f := fun q => some (shO p q)) (l := qs) fun q _ => inner p q _ _ _
          rw [List.filterMap_eq_map'] at this
          simp only [lcStep2, bindT, List.set, ev_cst, Out.calm, Out.bind_ok, ev_varS, ev_var0, hv, wipeE, List.nil_append]
          exact this
        have all := lcL2_fm (step := lcStep2 CC L (.nm 3) [some (.tup (ps.map stW)), some (.tup (qs.map stW)), none, none, none] (.cst (.bl true)) .val (.var 1) (.nm 4) [4] (.cst (.bl true)) (.call 12 (.cons (.var 3) (.cons (.var 4) .nil)) .nil)) (S := S) (e := stW) (f := fun p => qs.map fun q => shO p q) (l := ps) fun p _ => outer p
        have hlen : (ps.flatMap fun p => qs.map fun q => shO p q).length ≤ 16777216 := by rw [len_fm_map]; exact hc.2
        have filt : lcL (lcStep CC L (.nm 3) [some (.tup (ps.map stW)), some (.tup (qs.map stW)), some (.lst (ps.flatMap fun p => qs.map fun q => shO p q)), none, none] (.cmp .notN (.var 3) (.cst .non)) (.var 3)) (ps.flatMap fun p => qs.map fun q => shO p q) S = .ok (((ps.flatMap fun p => qs.map (Lo.shP p)).filterMap id).map stW) S := by
          have e : (ps.flatMap fun p => qs.map fun q => shO p q) = (ps.flatMap fun p => qs.map (Lo.shP p)).map fun o => match o with
              | none => W.non
              | some r => stW r := by
            rw [List.map_flatMap]; congr 1; funext p; rw [List.map_map]; rfl
          rw [e]
          generalize some (W.lst (((ps.flatMap fun p => qs.map (Lo.shP p)).map fun o => match o with
              | none => W.non
              | some r => stW r))) = o2
          have := lcL_fm (step := lcStep CC L (.nm 3) [some (.tup (ps.map stW)), some (.tup (qs.map stW)), o2, none, none] (.cmp .notN (.var 3) (.cst .non)) (.var 3)) (S := S) (e := fun o => match o with
              | none => W.non
              | some r => stW r) (f := fun o => o.map stW) (l := ps.flatMap fun p => qs.map (Lo.shP p)) fun o _ => by
            cases o <;> simp [lcStep, bindT, Out.calm, stW]
          rw [this, List.map_filterMap]
          rfl
        have hlen2 : ((ps.flatMap fun p => qs.map (Lo.shP p)).filterMap id).length ≤ 16777216 := Nat.le_trans (List.length_filterMap_le _ _) (by rw [len_fm_map]; exact hc.2)
        have call : g_lotof L [.lst (((ps.flatMap fun p => qs.map (Lo.shP p)).filterMap id).map stW)] S = .ok (.tup ((Lo.bothF ps qs).map stW)) S := by
          simp only [g_lotof, W.seqs, W.lis, unSs_st]
          rw [if_pos ⟨hc.1, hlen2⟩]; rfl
        rw [runB_eq]
        simp only [b_both, List.map_cons, List.map_nil, List.length_cons, List.length_nil, List.replicate, List.cons_append, List.nil_append, ex_seq, ex_asg, ev_lc2, ev_var0, ev_varS, lc2K_ok, hv, lcGo2_some, wipeE, List.set, all, lcEnd_ok, if_pos hlen, asgK_ok, bindT, seqK_nx, ex_ret, ev_call, ev_cons, ev_nil, ev_lc, lcK_ok, hv2, lcGo_some, filt, List.length_map, if_pos hlen2, consK_ok, consK2_ok, callK_ok, callK2_ok, cc11, List.append_nil, call, retK_ok, seqK_rt]
      · exact absurd rfl h
    · exact absurd rfl h
  · exact absurd rfl h
end
end K01

namespace K01
open PySem PySem.Spec PyProof.Rows L2 Mi
noncomputable section
theorem any_id {α : Type} (f : α → Bool) (l : List α) : (l.map f).any id = l.any f := by simp [List.any_map]
theorem r_has (L : List Nat) (ws : List W) (S : Sto) : OutLe S (runB CC 100 4 b_has L ws S) (g_has L ws S) := by
  intro h
  left
  unfold g_has at h ⊢
  split at h
  · rename_i l c
    split at h
    · rename_i ps hp
      split at h
      · rename_i hc
        have := unSs_eq hp; subst this
        simp only [hp, if_pos hc]
        have hv : ∀ (S : Sto) (s : List W), items S .val (.tup s) = some (s, []) := fun _ _ => rfl
        have lc := lcL_fm (step := lcStep CC L (.tp (.cons (.nm 2) (.cons (.nm 3) .nil))) [some (.tup (ps.map stW)), some (.int c), none, none] (.cst (.bl true)) (.and (.cmp .le (.var 2) (.var 1)) (.or (.cmp .isN (.var 3) (.cst .non)) (.cmp .lt (.var 1) (.var 3))))) (S := S) (e := stW) (f := fun p => some (.bl (Lo.inP p c))) (l := ps) fun p _ => by
          obtain ⟨f, e⟩ := p
          by_cases z : f ≤ c <;> cases e <;> simp [lcStep, bindT, Out.calm, stW, endW, Lo.inP, z]
        rw [List.filterMap_eq_map'] at lc
        have hany : biW S .any [.lst (ps.map fun p => .bl (Lo.inP p c))] = some (.bl (Lo.hasP ps c)) := by
          show Option.map _ (allBls _) = _
          rw [allBls_map, Option.map_some, any_id]; rfl
        rw [runB_eq]
        simp only [b_has, List.map_cons, List.map_nil, List.length_cons, List.length_nil, List.replicate, List.cons_append, List.nil_append, ex_seq, ex_ret, ev_bi, ev_cons, ev_lc, ev_var0, lcK_ok, hv, lcGo_some, wipeE, List.set, lc, lcEnd_ok, List.length_map, if_pos hc, consK_ok, ev_nil, consK2_ok, biK_ok, hany, Out.of_some, retK_ok, seqK_rt]
      · exact absurd rfl h
    · exact absurd rfl h
  · exact absurd rfl h
theorem r_size (L : List Nat) (ws : List W) (S : Sto) : OutLe S (runB CC 100 3 b_size_of L ws S) (g_size L ws S) := by
  intro h
  left
  unfold g_size at h ⊢
  split at h
  · rename_i l
    split at h
    · rename_i ps hp
      split at h
      · rename_i hc
        have := unSs_eq hp; subst this
        simp only [hp, if_pos hc]
        have hne : ev CC L (.cmp .ne (.var 0) (.tup .nil)) [some (.tup (ps.map stW)), none, none] S = .ok (.bl (!decide (ps = []))) S := by
          have e1 : (W.tup (ps.map stW)).shp 50 = true := by rw [W.shp]; exact shps_sts ps 48
          have e2 : (W.tup []).shp 50 = true := rfl
          have e3 : W.eq (.tup (ps.map stW)) (.tup []) = decide (ps = []) := by rw [W.eq]; exact eqs_sts ps []
          simp [cmp_ne, e1, e2, e3]
        have hv : ∀ (S : Sto) (s : List W), items S .val (.tup s) = some (s, []) := fun _ _ => rfl
        have body : ps.all (fun p => p.2.isSome) = true → exS CC 100 L (.seq (.ret (.bi .sum (.cons (.lc .val (.var 0) (.tp (.cons (.nm 1) (.cons (.nm 2) .nil))) [1, 2] (.cst (.bl true)) (.bin .sub (.var 2) (.var 1))) .nil))) .skip) [some (.tup (ps.map stW)), none, none] S = .ok (.rt (.int (Lo.sizeF ps))) S := fun ha => by
          have lc := lcL_fm (step := lcStep CC L (.tp (.cons (.nm 1) (.cons (.nm 2) .nil))) [some (.tup (ps.map stW)), none, none] (.cst (.bl true)) (.bin .sub (.var 2) (.var 1))) (S := S) (e := stW) (f := fun p => some (.int (p.2.getD 0 - p.1))) (l := ps) fun p hp => by
            have := List.all_eq_true.mp ha p hp
            obtain ⟨f, e⟩ := p
            cases e
            · cases this
            · simp [lcStep, bindT, Out.calm, stW, endW]
          rw [List.filterMap_eq_map'] at lc
          have hsum : biW S .sum [.lst (ps.map fun p => .int (p.2.getD 0 - p.1))] = some (.int (Lo.sizeF ps)) := by
            show Option.map _ (allInts _) = _
            rw [allInts_map]; rfl
          simp only [ex_seq, ex_ret, ev_bi, ev_cons, ev_lc, ev_var0, lcK_ok, hv, lcGo_some, wipeE, List.set, List.nil_append, lc, lcEnd_ok, List.length_map, if_pos hc, consK_ok, ev_nil, consK2_ok, biK_ok, hsum, Out.of_some, retK_ok, seqK_rt]
        rw [runB_eq]
        rcases List.eq_nil_or_concat ps with rfl | ⟨q, p, rfl⟩
        · 
          simp only [endless, List.getLast?_nil, Bool.false_eq_true, if_false, List.all_nil, if_true] at h ⊢
          have b := body rfl
          simp only [b_size_of, List.map_cons, List.map_nil, List.length_cons, List.length_nil, List.replicate, List.cons_append, List.nil_append] at b hne ⊢
          rw [ex_seq, ex_ife, ev_and, hne]
          simp only [decide_true, Bool.not_true, andK_f, ifK_f, ex_skip, seqK_nx]
          rw [b]
        · try simp only [List.concat_eq_append] at *
          have hix : ixW S (.tup ((q ++ [p]).map stW)) (.int (-1)) = some (stW p) := by rw [List.map_append]; simp [at_last]
          have h1 : ixW S (stW p) (.int 1) = some (endW p.2) := by simp [stW]
          have he : endless (q ++ [p]) = p.2.isNone := by simp [endless]
          have hn : decide (q ++ [p] = []) = false := by simp
          rw [hn] at hne
          rw [he] at h ⊢
          have b := body
          simp only [b_size_of, List.map_cons, List.map_nil, List.length_cons, List.length_nil, List.replicate, List.cons_append, List.nil_append] at b hne ⊢
          rw [ex_seq, ex_ife, ev_and, hne]
          have hend : ev CC L (.cmp .isN (.ix (.ix (.var 0) (.cst (.int (-1)))) (.cst (.int 1))) (.cst .non)) [some (.tup ((q ++ [p]).map stW)), none, none] S = .ok (.bl p.2.isNone) S := by
            simp only [ev_cmp, ev_ix, ev_var0, ev_cst, opK_ok, opK2_ok, hix, Out.of_some, h1, cmp_isN, isN_end]
          simp only [Bool.not_false, andK_t]
          rw [hend]
          cases hp2 : p.2.isNone with
          | true => simp
          | false =>
            rw [hp2] at h
            simp only [Bool.false_eq_true, if_false] at h ⊢
            split at h
            · rename_i ha
              simp only [ifK_f, ex_skip, seqK_nx]
              rw [b ha, if_pos ha]
            · exact absurd rfl h
      · exact absurd rfl h
    · exact absurd rfl h
  · exact absurd rfl h
end
end K01

namespace K01
open PySem PySem.Spec PyProof.Rows L2 Mi
noncomputable section
abbrev restBody : MS := (.seq (.ife (.cmp .gt (.var 3) (.var 2)) (.seq (.ex (.mt .append (.var 1) (.cons (.tup (.cons (.var 2) (.cons (.var 3) .nil))) .nil))) .skip) .skip) (.seq (.ife (.cmp .isN (.var 4) (.cst .non)) (.seq (.ret (.bi .tuple (.cons (.var 1) .nil))) .skip) .skip) (.seq (.asg (.nm 2) (.var 4)) .skip)))
def gapP (a : Int) (p : Lo.P) : List Lo.P := if a < p.1 then [(a, some p.1)] else []
def restR (n : Nat) (x0 : Option W) (S1 : Sto) (acc : List Lo.P) (p : Lo.P) : Out Fl := match p.2 with
  | none => .ok (.rt (.tup (acc.map stW))) S1
  | some e => .ok (.nx [x0, some (.ref n), some (.int e), some (.int p.1), some (.int e)]) S1
theorem rest_step {L : List Nat} {S1 : Sto} {n : Nat} {acc : List Lo.P} {a : Int} {p : Lo.P} {x0 o3 o4 : Option W} (hn : n ∉ L) (hS : S1[n]? = some (.lst (acc.map stW))) (hl : acc.length < 16777216) :
    forStep CC 100 L (.tp (.cons (.nm 3) (.cons (.nm 4) .nil))) restBody (stW p) [x0, some (.ref n), some (.int a), o3, o4] S1 = restR n x0 (S1.set n (.lst ((acc ++ gapP a p).map stW))) (acc ++ gapP a p) p := by
  have lt : n < S1.length := (List.getElem?_eq_some_iff.mp hS).1
  have hmt : mtT S1 .append (.ref n) = true := by simp [mtT, hS]
  have happ : ∀ w, mtW L S1 .append n [w] = some (.non, S1.set n (.lst (acc.map stW ++ [w]))) := fun w => by
    simp only [mtW, appW, hS]
    rw [if_pos ⟨hn, by simpa using hl⟩]
  have htu : ∀ l, biW (S1.set n (.lst l)) .tuple [.ref n] = some (.tup l) := fun l => by
    simp [biW, one, W.lis, List.getElem?_set_self lt]
  have hid : S1.set n (.lst (acc.map stW)) = S1 := by
    obtain ⟨h1, h2⟩ := List.getElem?_eq_some_iff.mp hS
    rw [← h2]; simp
  have htu0 : biW S1 .tuple [.ref n] = some (.tup (acc.map stW)) := by
    have := htu (acc.map stW); rwa [hid] at this
  obtain ⟨f, e⟩ := p
  by_cases z : a < f
  · have hg : gapP a (f, e) = [(a, some f)] := by simp [gapP, z]
    rw [hg]
    have hw : (W.tup [.int a, .int f]) = stW (a, some f) := rfl
    cases e with
    | none =>
      simp only [forStep, bindT, stW, endW, Option.bind_some, List.set]
      simp [restBody, z, hmt, happ, htu, restR, stW, endW]
    | some e =>
      simp only [forStep, bindT, stW, endW, Option.bind_some, List.set]
      simp [restBody, z, hmt, happ, htu, restR, stW, endW, bindT]
  · have hg : gapP a (f, e) = [] := by simp [gapP, z]
    rw [hg, List.append_nil, hid]
    cases e with
    | none =>
      simp only [forStep, bindT, stW, endW, Option.bind_some, List.set]
      simp [restBody, z, htu0, restR]
    | some e =>
      simp only [forStep, bindT, stW, endW, Option.bind_some, List.set]
      simp [restBody, z, restR, bindT]
theorem rest_loop {L : List Nat} {n : Nat} {x0 : Option W} (hn : n ∉ L) : ∀ (r acc : List Lo.P) (a : Int) (S1 : Sto) (o3 o4 : Option W), S1[n]? = some (.lst (acc.map stW)) → acc.length + r.length < 16777216 →
    ∃ acc' : List Lo.P, (forL (forStep CC 100 L (.tp (.cons (.nm 3) (.cons (.nm 4) .nil))) restBody) (r.map stW) [x0, some (.ref n), some (.int a), o3, o4] S1 = .ok (.rt (.tup (acc'.map stW))) (S1.set n (.lst (acc'.map stW))) ∧ acc' = acc ++ Lo.restF a r)
      ∨ ∃ a' b3 b4, forL (forStep CC 100 L (.tp (.cons (.nm 3) (.cons (.nm 4) .nil))) restBody) (r.map stW) [x0, some (.ref n), some (.int a), o3, o4] S1 = .ok (.nx [x0, some (.ref n), some (.int a'), b3, b4]) (S1.set n (.lst (acc'.map stW))) ∧ acc' ++ [(a', none)] = acc ++ Lo.restF a r ∧ acc'.length ≤ acc.length + r.length
  | [], acc, a, S1, o3, o4, hS, _ => by
    refine ⟨acc, .inr ⟨a, o3, o4, ?_, rfl, by simp⟩⟩
    have hid : S1.set n (.lst (acc.map stW)) = S1 := by
      obtain ⟨h1, h2⟩ := List.getElem?_eq_some_iff.mp hS
      rw [← h2]; simp
    rw [hid]; rfl
  | p :: r, acc, a, S1, o3, o4, hS, hl => by
    simp only [List.length_cons] at hl
    have lt : n < S1.length := (List.getElem?_eq_some_iff.mp hS).1
    have hstep := rest_step (x0 := x0) (o3 := o3) (o4 := o4) (a := a) (p := p) hn hS (by omega)
    have gl : (gapP a p).length ≤ 1 := by unfold gapP; split <;> simp
    rw [List.map_cons, forL, hstep]
    cases e : p.2 with
    | none =>
      refine ⟨acc ++ gapP a p, .inl ⟨by simp only [restR, e, Out.bind_ok], ?_⟩⟩
      rw [Lo.restF, e]; simp [gapP]
    | some x =>
      have hS2 : (S1.set n (.lst ((acc ++ gapP a p).map stW)))[n]? = some (.lst ((acc ++ gapP a p).map stW)) := List.getElem?_set_self lt
      obtain ⟨acc', ih⟩ := rest_loop (x0 := x0) hn r (acc ++ gapP a p) x _ (some (.int p.1)) (some (.int x)) hS2 (by rw [List.length_append]; omega)
      have er : acc ++ Lo.restF a (p :: r) = (acc ++ gapP a p) ++ Lo.restF x r := by rw [Lo.restF, e]; simp [gapP]
      refine ⟨acc', ?_⟩
      simp only [restR, e, Out.bind_ok]
      rw [er]
      rcases ih with ⟨h1, h2⟩ | ⟨a', b3, b4, h1, h2, h3⟩
      · rw [List.set_set] at h1
        exact .inl ⟨h1, h2⟩
      · rw [List.set_set] at h1
        exact .inr ⟨a', b3, b4, h1, h2, by rw [List.length_append] at h3; rw [List.length_cons]; omega⟩
theorem r_rest (L : List Nat) (ws : List W) (S : Sto) : OutLe S (runB CC 100 5 b_rest_of L ws S) (g_rest L ws S) := by
  intro h
  right
  unfold g_rest at h ⊢
  split at h
  · rename_i l
    split at h
    · rename_i ps hp
      split at h
      · rename_i hc
        have := unSs_eq hp; subst this
        have fin : ∃ S', runB CC 100 5 b_rest_of L [.tup (ps.map stW)] S = .ok (.tup ((Lo.restF 0 ps).map stW)) (S ++ S') := by
          have hv : ∀ (S : Sto) (s : List W), items S .val (.tup s) = some (s, []) := fun _ _ => rfl
          obtain ⟨acc', hl⟩ := rest_loop (x0 := some (.tup (ps.map stW))) (n := S.length) hc.1 ps [] 0 (S ++ [.lst []]) none none (by simp) (by simp; omega)
          rw [runB_eq]
          simp only [b_rest_of, List.map_cons, List.map_nil, List.length_cons, List.length_nil, List.replicate, List.cons_append, List.nil_append, ex_seq, ex_par, ev_cons, ev_slst, ev_nil, slstK_ok, if_pos (show (0 : Nat) ≤ 16777216 by decide), consK_ok, ev_cst, consK2_ok, parK_ok, List.set, seqK_nx, ex_for, ev_var0, forK_ok, hv, forGo_some]
          rcases hl with ⟨h1, h2⟩ | ⟨a', b3, b4, h1, h2, h3⟩
          · rw [h1, h2]
            simp
          · rw [h1, ← List.nil_append (Lo.restF 0 ps), ← h2]
            have hadd : ∀ (Z : Sto), Z[S.length]? = some (.lst (acc'.map stW)) → binW Z .add (.ref S.length) (.lst [.tup [.int a', .non]]) = some (.lst (acc'.map stW ++ [stW (a', none)])) := fun Z hZ => by
              simp only [binW, addW, hZ]
              simp only [List.length_nil, List.length_map, Nat.zero_add] at h3
              simp [W.lis, hZ, stW, endW]
              omega
            have hget : (S ++ [Node.lst (acc'.map stW)])[S.length]? = some (.lst (acc'.map stW)) := by simp
            have hset : (S ++ [Node.lst []]).set S.length (.lst (acc'.map stW)) = S ++ [Node.lst (acc'.map stW)] := by simp
            have hadd := hadd _ hget
            rw [hset]
            have htu : ∀ (Z : Sto) l, biW Z .tuple [.lst l] = some (.tup l) := fun _ _ => rfl
            refine ⟨[Node.lst (acc'.map stW)], ?_⟩
            simp only [seqK_nx, ex_seq, ex_ret, ev_bi, ev_cons, ev_bin, ev_varS, ev_var0, opK_ok, ev_lst, ev_tup, ev_cst, ev_nil, consK_ok, consK2_ok, tupK_ok, lstK_ok, List.length_cons, List.length_nil, if_pos (show 0 + 1 + 1 ≤ 16777216 by decide), if_pos (show 0 + 1 ≤ 16777216 by decide), opK2_ok, hadd, Out.of_some, biK_ok, htu, retK_ok, seqK_rt, List.map_append, List.map_cons, List.map_nil]
        obtain ⟨S', hf⟩ := fin
        refine ⟨.tup ((Lo.restF 0 ps).map stW), S ++ S', .tup ((Lo.restF 0 ps).map stW), S, 3, hf, by simp only [hp, if_pos hc], by simp, Nat.le_refl _, .inl rfl, by simp only [fz, fz_sts, Option.map_some]⟩
      · exact absurd rfl h
    · exact absurd rfl h
  · exact absurd rfl h
theorem rest_noex {L : List Nat} {ws : List W} {S : Sto} {c : Nat} {p : Option W} {S' : Sto} : g_rest L ws S ≠ .ex c p S' := by
  unfold g_rest
  split
  · split
    · split <;> (intro h; cases h)
    · intro h; cases h
  · intro h; cases h
theorem both_noex {L : List Nat} {ws : List W} {S : Sto} {c : Nat} {p : Option W} {S' : Sto} : g_both L ws S ≠ .ex c p S' := by
  unfold g_both
  split
  · split
    · split <;> (intro h; cases h)
    · intro h; cases h
  · intro h; cases h
theorem r_without (L : List Nat) (ws : List W) (S : Sto) : OutLe S (runB CC 100 2 b_without L ws S) (g_without L ws S) := by
  intro h
  left
  unfold g_without at h ⊢
  split at h
  · rename_i x y
    cases e : g_rest L [y] S with
    | ok z S1 =>
      rw [e, Out.bind_ok] at h
      rw [Out.bind_ok]
      cases e2 : g_both L [x, z] S1 with
      | ok w S2 =>
        rw [runB_eq]
        simp [b_without, e, e2]
      | ex c p S2 => exact absurd e2 both_noex
      | bad => exact absurd e2 h
    | ex c p S1 => exact absurd e rest_noex
    | bad => rw [e] at h; exact absurd rfl h
  · exact absurd rfl h
abbrev fineP (p : Lo.P) : Bool := decide (0 ≤ p.1) && decide (p.1 ≤ 100) && (match p.2 with | none => true | some e => decide (0 ≤ e) && decide (e ≤ 100))
theorem cover_ok {p : Lo.P} (h : fineP p = true) {L : List Nat} {S : Sto} : g_cover L [stW p] S = .ok (.lst (coverP p)) S := by
  obtain ⟨f, e⟩ := p
  cases e with
  | none =>
    simp [fineP] at h
    simp [g_cover, stW, endW, coverP, h.1, show f ≤ 1000 by omega]
  | some e =>
    simp [fineP] at h
    simp [g_cover, stW, endW, coverP, h.1.1, h.2.1, show f ≤ 1000 by omega, show e ≤ 1000 by omega]
theorem cover_len {p : Lo.P} (h : fineP p = true) : (coverP p).length ≤ 100 := by
  obtain ⟨f, e⟩ := p
  unfold coverP rngI
  rw [List.length_map, List.length_range]
  cases e <;> simp [fineP] at h <;> simp only <;> omega
theorem all_loop {x0 : Option W} {L : List Nat} {S : Sto} : ∀ (ps : List Lo.P) (acc : List W) (a2 : Option W), (∀ p ∈ ps, fineP p = true) → acc.length + 100 * ps.length ≤ 16777216 → ∃ b2, forL (forStep CC 100 L (.nm 2) (.seq (.asg (.nm 1) (.bin .add (.var 1) (.call 9 (.cons (.var 2) .nil) .nil))) .skip)) (ps.map stW) [x0, some (.lst acc), a2] S = .ok (.nx [x0, some (.lst (acc ++ ps.flatMap coverP)), b2]) S
  | [], acc, a2, _, _ => ⟨a2, by simp [forL]⟩
  | p :: ps, acc, a2, h, hl => by
    have hp := h p List.mem_cons_self
    have hc := cover_len hp
    simp only [List.length_cons] at hl
    obtain ⟨b, hb⟩ := all_loop (x0 := x0) (L := L) (S := S) ps (acc ++ coverP p) (some (stW p)) (fun q hq => h q (List.mem_cons_of_mem _ hq)) (by rw [List.length_append]; omega)
    have hs : forStep CC 100 L (.nm 2) (.seq (.asg (.nm 1) (.bin .add (.var 1) (.call 9 (.cons (.var 2) .nil) .nil))) .skip) (stW p) [x0, some (.lst acc), a2] S = .ok (.nx [x0, some (.lst (acc ++ coverP p)), some (stW p)]) S := by
      simp [forStep, bindT, cover_ok hp, show acc.length + (coverP p).length ≤ 16777216 by omega]
    exact ⟨b, by rw [List.map_cons, forL, hs, Out.bind_ok]; dsimp only; rw [hb, List.flatMap_cons, List.append_assoc]⟩
theorem r_all (L : List Nat) (ws : List W) (S : Sto) : OutLe S (runB CC 100 3 b_law_all L ws S) (g_all L ws S) := by
  intro h
  left
  unfold g_all at h ⊢
  split at h
  · rename_i l
    split at h
    · rename_i ps hp
      split at h
      · rename_i hc
        have := unSs_eq hp; subst this
        simp only [hp, if_pos hc]
        have hv : ∀ (S : Sto) (s : List W), items S .val (.tup s) = some (s, []) := fun _ _ => rfl
        obtain ⟨b, hb⟩ := all_loop (x0 := some (.tup (ps.map stW))) (L := L) (S := S) ps [] none (fun p hp => List.all_eq_true.mp hc.2 p hp) (by have := hc.1; simp; omega)
        rw [runB_eq]
        simp only [b_law_all, List.map_cons, List.map_nil, List.length_cons, List.length_nil, List.replicate, List.cons_append, List.nil_append, ex_seq, ex_asg, ev_lst, ev_nil, lstK_ok, if_pos (show (0 : Nat) ≤ 16777216 by decide), asgK_ok, bindT, List.set, seqK_nx, ex_for, ev_var0, forK_ok, hv, forGo_some]
        rw [hb]
        simp
      · exact absurd rfl h
    · exact absurd rfl h
  · exact absurd rfl h
end
end K01

namespace K01
open PySem PySem.Spec PyProof.Rows L2 Mi
noncomputable section
/-! plain facts -/
theorem mem_rng {f e i : Int} : memW (rngI f e) i = true ↔ f ≤ i ∧ i < e := by
  unfold memW rngI
  rw [List.any_map, List.any_eq_true]
  constructor
  · rintro ⟨n, hn, h⟩
    rw [List.mem_range] at hn
    simp only [Function.comp, W.eq, beq_iff_eq] at h
    omega
  · rintro ⟨h1, h2⟩
    refine ⟨(i - f).toNat, by rw [List.mem_range]; omega, ?_⟩
    simp only [Function.comp, W.eq, beq_iff_eq]
    omega
theorem memW_append (l l' : List W) (i : Int) : memW (l ++ l') i = (memW l i || memW l' i) := by simp [memW]
/-- cells -/
def Ints (l : List W) : Prop := ∃ ns : List Int, l = ns.map W.int
theorem Ints.app {a b : List W} (h1 : Ints a) (h2 : Ints b) : Ints (a ++ b) := by
  obtain ⟨x, rfl⟩ := h1; obtain ⟨y, rfl⟩ := h2
  exact ⟨x ++ y, by rw [List.map_append]⟩
theorem Ints.flat {l : List W} (h : Ints l) : l.all W.flat = true := by
  obtain ⟨x, rfl⟩ := h
  rw [List.all_map, List.all_eq_true]; intro n _; rfl
theorem Ints.filter {l : List W} (h : Ints l) (p : W → Bool) : Ints (l.filter p) := by
  obtain ⟨x, rfl⟩ := h
  exact ⟨x.filter (p ∘ W.int), by rw [List.filter_map]⟩
theorem ints_cover (p : Lo.P) : Ints (coverP p) := by
  unfold coverP rngI
  exact ⟨(List.range _).map fun (i : Nat) => p.1 + i, by rw [List.map_map]; rfl⟩
theorem mem_cover {p : Lo.P} (h : Good p) (i : Int) : memW (coverP p) i = true ↔ p.1 ≤ i ∧ i ≤ 12 ∧ ∀ e, p.2 = some e → i < e := by
  unfold coverP
  rw [mem_rng]
  obtain ⟨h1, h2, h3⟩ := h
  cases e : p.2 with
  | none => simp only; constructor
            · rintro ⟨a, b⟩; exact ⟨a, by omega, fun x z => by cases z⟩
            · rintro ⟨a, b, _⟩; exact ⟨a, by omega⟩
  | some x =>
    have := h3 x e
    simp only
    constructor
    · rintro ⟨a, b⟩; exact ⟨a, by omega, fun y z => by cases z; exact b⟩
    · rintro ⟨a, b, c⟩; exact ⟨a, c x rfl⟩
theorem in_cover {p : Lo.P} (h : Good p) (i : Int) : Lo.inP p i = (decide (0 ≤ i) && memW (coverP p) (min i 12)) := by
  rw [Bool.eq_iff_iff, Lo.inP_iff, Bool.and_eq_true, decide_eq_true_eq, mem_cover h]
  obtain ⟨h1, h2, h3⟩ := h
  constructor
  · rintro ⟨a, b⟩
    refine ⟨by omega, by omega, by omega, fun e he => ?_⟩
    have := b e he; have := h3 e he; omega
  · rintro ⟨a, b, c, d⟩
    refine ⟨by omega, fun e he => ?_⟩
    have := d e he; have := h3 e he; omega
/-- the cells of a row -/
def cellsP (ps : List Lo.P) : List W := ps.flatMap coverP
theorem ints_cells : ∀ ps : List Lo.P, Ints (cellsP ps)
  | [] => ⟨[], rfl⟩
  | p :: ps => by unfold cellsP; rw [List.flatMap_cons]; exact (ints_cover p).app (ints_cells ps)
theorem cells_len {ps : List Lo.P} (h : ∀ p ∈ ps, Good p) : (cellsP ps).length ≤ 13 * ps.length := by
  induction ps with
  | nil => simp [cellsP]
  | cons p ps ih =>
    have := ih fun q hq => h q (List.mem_cons_of_mem _ hq)
    obtain ⟨g1, g2, g3⟩ := h p List.mem_cons_self
    unfold cellsP at this ⊢
    rw [List.flatMap_cons, List.length_append, List.length_cons]
    have : (coverP p).length ≤ 13 := by
      unfold coverP rngI
      rw [List.length_map, List.length_range]
      cases e : p.2 with
      | none => simp only; omega
      | some x => have := g3 x e; simp only; omega
    omega
theorem cells_small {ps : List Lo.P} (h : ∀ p ∈ ps, Good p) : Lo.Small (memW (cellsP ps)) := by
  refine ⟨fun i hi => ?_⟩
  induction ps with
  | nil => cases hi
  | cons p ps ih =>
    unfold cellsP at hi
    rw [List.flatMap_cons, memW_append, Bool.or_eq_true] at hi
    rcases hi with hi | hi
    · rw [mem_cover (h p List.mem_cons_self)] at hi
      have := (h p List.mem_cons_self).1
      omega
    · exact ih (fun q hq => h q (List.mem_cons_of_mem _ hq)) hi
theorem cells_has {ps : List Lo.P} (h : ∀ p ∈ ps, Good p) (i : Int) : Lo.hasP ps i = Lo.extB (memW (cellsP ps)) i := by
  induction ps with
  | nil => simp [Lo.hasP, Lo.extB, cellsP, memW]
  | cons p ps ih =>
    rw [Lo.hasP_cons, ih fun q hq => h q (List.mem_cons_of_mem _ hq), in_cover (h p List.mem_cons_self)]
    unfold cellsP Lo.extB
    rw [List.flatMap_cons, memW_append]
    cases decide (0 ≤ i) <;> simp
/-- a lot of cells -/
structure LotOf (l : List Lo.P) (m : Int → Bool) : Prop where
  lot : Lo.LotF 0 l
  has : ∀ i, Lo.hasP l i = Lo.extB m i
theorem LotOf.runs {l : List Lo.P} {m : Int → Bool} (h : LotOf l m) (hs : Lo.Small m) : l = Lo.runsP m :=
  Lo.LotF.uniq h.lot (Lo.runs_lot hs).1 fun i => by rw [h.has, (Lo.runs_lot hs).2]
theorem lot_lotof {ps : List Lo.P} {m : Int → Bool} (h : ∀ p ∈ ps, Lo.okP p ∧ 0 ≤ p.1) (hm : ∀ i, Lo.hasP ps i = Lo.extB m i) : LotOf (Lo.lotF ps) m :=
  ⟨(Lo.lotF_lot h).1, fun i => by rw [(Lo.lotF_lot h).2, hm]⟩
theorem good_ok {p : Lo.P} (h : Good p) : Lo.okP p ∧ 0 ≤ p.1 := ⟨fun e he => (h.2.2 e he).1, h.1⟩
theorem lot_row {ps : List Lo.P} (h : ∀ p ∈ ps, Good p) : LotOf (Lo.lotF ps) (memW (cellsP ps)) := lot_lotof (fun p hp => good_ok (h p hp)) (cells_has h)
theorem lot_joined {a b : List Lo.P} {m m' : Int → Bool} {c : List W} (h1 : LotOf a m) (h2 : LotOf b m') (hc : ∀ i, memW c i = (m i || m' i)) : LotOf (Lo.lotF (a ++ b)) (memW c) := by
  refine lot_lotof (fun p hp => ?_) fun i => ?_
  · rcases List.mem_append.mp hp with hp | hp
    · exact h1.lot.ok p hp
    · exact h2.lot.ok p hp
  · rw [Lo.hasP_append, h1.has, h2.has]
    unfold Lo.extB
    rw [hc]
    cases decide (0 ≤ i) <;> simp
theorem lot_both {a b : List Lo.P} {m m' : Int → Bool} {c : List W} (h1 : LotOf a m) (h2 : LotOf b m') (hc : ∀ i, memW c i = (m i && m' i)) : LotOf (Lo.bothF a b) (memW c) := by
  obtain ⟨g1, g2⟩ := Lo.both_lot (a := a) (b := b) (lo := 0) fun p hp => (h1.lot.ok p hp).2
  refine ⟨g1, fun i => ?_⟩
  rw [g2, h1.has, h2.has]
  unfold Lo.extB
  rw [hc]
  cases decide (0 ≤ i) <;> simp
theorem lot_without {a b : List Lo.P} {m m' : Int → Bool} {c : List W} (h1 : LotOf a m) (h2 : LotOf b m') (hc : ∀ i, memW c i = (m i && !m' i)) : LotOf (Lo.bothF a (Lo.restF 0 b)) (memW c) := by
  obtain ⟨g1, g2⟩ := Lo.both_lot (a := a) (b := Lo.restF 0 b) (lo := 0) fun p hp => (h1.lot.ok p hp).2
  refine ⟨g1, fun i => ?_⟩
  rw [g2, h1.has, (Lo.rest_lot b 0 h2.lot).2, h2.has]
  unfold Lo.extB
  rw [hc]
  cases decide (0 ≤ i) <;> simp
/-! a lot is a lot -/
theorem st_ok {p : Lo.P} (h : Lo.okP p) (h0 : 0 ≤ p.1) : stretchW (stW p) = some true := by
  obtain ⟨f, e⟩ := p
  simp only at h0
  cases e with
  | none => simp [stW, endW, stretchW, h0]
  | some e =>
    have := h e rfl
    simp only at this
    simp [stW, endW, stretchW, wholeW, h0, show f + 1 ≤ e by omega]
theorem lot_pairs : ∀ {l : List Lo.P} {lo : Int}, Lo.LotF lo l → ((l.map stW).zip ((l.map stW).drop 1)).all (fun q => pairB q.1 q.2) = true
  | [], _, _ => rfl
  | [_], _, _ => rfl
  | p :: q :: l, lo, ⟨h1, h2⟩ => by
    cases e : p.2 with
    | none => rw [e] at h2; cases h2
    | some x =>
      rw [e] at h2
      have ih := lot_pairs h2.2
      have hq := h2.2.1
      simp only [List.map_cons, List.drop_succ_cons, List.drop_zero, List.zip_cons_cons, List.all_cons] at ih ⊢
      rw [ih, Bool.and_true]
      obtain ⟨p1, p2⟩ := p
      simp only at e
      subst e
      simp [pairB, stW, endW]; omega
theorem lotW_lot {l : List Lo.P} (h : Lo.LotF 0 l) (hl : l.length ≤ 1000) : lotW (.tup (l.map stW)) = some true := by
  have hs : ∀ x ∈ l.map stW, stretchW x = some true := fun x hx => by
    obtain ⟨p, hp, rfl⟩ := List.mem_map.mp hx
    exact st_ok (h.ok p hp).1 (h.ok p hp).2
  have c : (l.map stW).length ≤ 1000 ∧ (l.map stW).all (fun x => (stretchW x).isSome) = true := ⟨by rw [List.length_map]; exact hl, List.all_eq_true.mpr fun x hx => by rw [hs x hx]; rfl⟩
  have ha : (l.map stW).all stB = true := List.all_eq_true.mpr fun x hx => by simp [stB, hs x hx]
  simp only [lotW, if_pos c, ha, lot_pairs h, Bool.and_self]
/-! how many -/
theorem endless_cons2 (p q : Lo.P) (l : List Lo.P) : endless (p :: q :: l) = endless (q :: l) := by simp [endless]
theorem lot_end : ∀ {l : List Lo.P} {lo : Int}, Lo.LotF lo l → ∃ k : Int, ∀ i, k ≤ i → Lo.hasP l i = endless l
  | [], _, _ => ⟨0, fun i _ => rfl⟩
  | [p], lo, ⟨h1, h2⟩ => by
    cases e : p.2 with
    | none => exact ⟨p.1, fun i hi => by simp [Lo.hasP, Lo.inP, e, endless, hi]⟩
    | some x => exact ⟨x, fun i hi => by simp [Lo.hasP, Lo.inP, e, endless]; omega⟩
  | p :: q :: l, lo, ⟨h1, h2⟩ => by
    cases e : p.2 with
    | none => rw [e] at h2; cases h2
    | some x =>
      rw [e] at h2
      obtain ⟨k, hk⟩ := lot_end h2.2
      refine ⟨max k x, fun i hi => ?_⟩
      rw [Lo.hasP_cons, hk i (by omega), endless_cons2]
      have : Lo.inP p i = false := by
        cases z : Lo.inP p i with
        | false => rfl
        | true => have := (Lo.inP_iff.mp z).2 x e; omega
      rw [this, Bool.false_or]
theorem LotOf.endless {l : List Lo.P} {m : Int → Bool} (h : LotOf l m) : endless l = m 12 := by
  obtain ⟨k, hk⟩ := lot_end h.lot
  have := hk (max k 12) (by omega)
  rw [← this, h.has]
  unfold Lo.extB
  rw [show min (max k 12) 12 = (12 : Int) by omega]
  simp; omega
theorem lot_ends : ∀ {l : List Lo.P} {lo : Int}, Lo.LotF lo l → K01.endless l = false → ∀ p ∈ l, ∃ e, p.2 = some e
  | [], _, _, _, p, hp => by cases hp
  | [q], lo, ⟨h1, h2⟩, hn, p, hp => by
    rw [List.mem_singleton.mp hp]
    cases e : q.2 with
    | none => simp [K01.endless, e] at hn
    | some x => exact ⟨x, rfl⟩
  | q :: r :: l, lo, ⟨h1, h2⟩, hn, p, hp => by
    rw [endless_cons2] at hn
    cases e : q.2 with
    | none => rw [e] at h2; cases h2
    | some x =>
      rw [e] at h2
      rcases List.mem_cons.mp hp with rfl | hp
      · exact ⟨x, e⟩
      · exact lot_ends h2.2 hn p hp
theorem LotOf.size {l : List Lo.P} {m : Int → Bool} (h : LotOf l m) (hn : m 12 = false) : l.all (fun p => p.2.isSome) = true ∧ Lo.sizeF l = Lo.cnt m := by
  have he := h.endless
  rw [hn] at he
  have h1 := lot_ends h.lot he
  refine ⟨List.all_eq_true.mpr fun p hp => by obtain ⟨e, z⟩ := h1 p hp; rw [z]; rfl, ?_⟩
  rw [Lo.size_cnt (Int.le_refl 0) h.lot fun p hp => ?_]
  · congr 1
    refine Lo.cnt_congr fun i h0 h12 => ?_
    rw [h.has]
    unfold Lo.extB
    rw [show min i 12 = i by omega]
    simp [h0]
  · obtain ⟨e, z⟩ := h1 p hp
    refine ⟨e, z, ?_⟩
    obtain ⟨g1, g2⟩ := h.lot.ok p hp
    have lt := g1 e z
    have hin : Lo.hasP l (e - 1) = true := by
      unfold Lo.hasP
      rw [List.any_eq_true]
      exact ⟨p, hp, Lo.inP_iff.mpr ⟨by omega, fun x hx => by rw [z] at hx; cases hx; omega⟩⟩
    rw [h.has] at hin
    unfold Lo.extB at hin
    by_cases q : e ≤ 13
    · exact q
    · rw [show min (e - 1) 12 = (12 : Int) by omega, hn] at hin
      simp at hin
theorem set_len {ps : List Lo.P} (h : ∀ p ∈ ps, Good p) (hl : ps.length ≤ 100) (S : Sto) : biW S .setLen [.lst (cellsP ps)] = some (.int (Lo.cnt (memW (cellsP ps)) : Nat)) := by
  obtain ⟨ns, e⟩ := ints_cells ps
  have h1 := cells_small h
  have h2 := cells_len h
  rw [e] at h1 h2 ⊢
  rw [List.length_map] at h2
  have h3 : ∀ i, memW (ns.map W.int) i = true ↔ i ∈ ns := fun i => by
    unfold memW
    rw [List.any_map, List.any_eq_true]
    constructor
    · rintro ⟨n, hn, z⟩
      simp only [Function.comp, W.eq, beq_iff_eq] at z
      rw [← z]; exact hn
    · intro hi; exact ⟨i, hi, by simp [Function.comp, W.eq]⟩
  have hi : allInts (ns.map W.int) = some ns := by rw [allInts_map (fun x => x) ns]; simp
  show Option.bind (allInts _) _ = _
  rw [hi, Option.bind_some, if_pos (by omega), Lo.distinct_cnt h3 h1]
/-! what two have in common -/
def pI (q : Int → Bool) : W → Bool
  | .int j => q j
  | _ => false
theorem memW_filter {l : List W} (hi : Ints l) (q : Int → Bool) (i : Int) : memW (l.filter (pI q)) i = (memW l i && q i) := by
  obtain ⟨ns, rfl⟩ := hi
  rw [Bool.eq_iff_iff, Bool.and_eq_true]
  unfold memW
  rw [List.any_eq_true, List.any_eq_true]
  constructor
  · rintro ⟨x, hx, z⟩
    rw [List.mem_filter] at hx
    obtain ⟨h1, h2⟩ := hx
    obtain ⟨n, hn, rfl⟩ := List.mem_map.mp h1
    simp only [W.eq, beq_iff_eq] at z
    subst z
    exact ⟨⟨.int n, h1, by simp [W.eq]⟩, h2⟩
  · rintro ⟨⟨x, h1, z⟩, h2⟩
    obtain ⟨n, hn, rfl⟩ := List.mem_map.mp h1
    simp only [W.eq, beq_iff_eq] at z
    subst z
    exact ⟨.int n, List.mem_filter.mpr ⟨h1, h2⟩, by simp [W.eq]⟩
theorem meets_ok {p q : Lo.P} (hp : Good p) (hq : Good q) : (Lo.shP p q).isSome = !((coverP p).filter (pI (memW (coverP q)))).isEmpty := by
  have hin := fun i => Lo.sh_in p q i
  obtain ⟨ns, e⟩ := ints_cover p
  have hm : ∀ i, memW (coverP p) i = true ↔ i ∈ ns := fun i => by
    rw [e]; unfold memW
    rw [List.any_map, List.any_eq_true]
    constructor
    · rintro ⟨n, hn, z⟩
      simp only [Function.comp, W.eq, beq_iff_eq] at z
      rw [← z]; exact hn
    · intro hi; exact ⟨i, hi, by simp [Function.comp, W.eq]⟩
  have hf : ((coverP p).filter (pI (memW (coverP q)))).isEmpty = false ↔ ∃ i, memW (coverP p) i = true ∧ memW (coverP q) i = true := by
    rw [List.isEmpty_eq_false_iff_exists_mem]
    constructor
    · rintro ⟨x, hx⟩
      rw [List.mem_filter, e] at hx
      obtain ⟨⟨i, hi, rfl⟩, h2⟩ := And.imp_left List.mem_map.mp hx
      exact ⟨i, (hm i).mpr hi, h2⟩
    · rintro ⟨i, h1, h2⟩
      exact ⟨.int i, by rw [List.mem_filter, e]; exact ⟨List.mem_map_of_mem ((hm i).mp h1), h2⟩⟩
  cases hs : Lo.shP p q with
  | none =>
    cases he : ((coverP p).filter (pI (memW (coverP q)))).isEmpty with
    | true => rfl
    | false =>
      obtain ⟨i, h1, h2⟩ := hf.mp he
      have := hin i
      rw [hs, in_cover hp, in_cover hq] at this
      have hi := (mem_cover hp i).mp h1
      have := hp.1
      rw [show min i 12 = i by omega, h1, h2] at *
      simp [Lo.inO] at *
      omega
  | some r =>
    have : ((coverP p).filter (pI (memW (coverP q)))).isEmpty = false := by
      rw [hf]
      obtain ⟨g1, g2⟩ := Lo.sh_ok hs
      have h1 := hin r.1
      have hr : Lo.inP r r.1 = true := Lo.inP_iff.mpr ⟨Int.le_refl _, fun e he => g1 e he⟩
      rw [hs] at h1
      simp only [Lo.inO, hr] at h1
      have h1 := h1.symm
      rw [Bool.and_eq_true] at h1
      obtain ⟨h1, h2⟩ := h1
      have e1 : r.1 = max p.1 q.1 := by
        unfold Lo.shP at hs
        split at hs
        · cases hs; rfl
        · split at hs
          · cases hs
          · cases hs; rfl
      have := hp.2.1; have := hq.2.1
      rw [in_cover hp, Bool.and_eq_true] at h1
      rw [in_cover hq, Bool.and_eq_true] at h2
      rw [show min r.1 12 = r.1 by omega] at h1 h2
      exact ⟨r.1, h1.2, h2.2⟩
    rw [this]; rfl
end
end K01

namespace K01
open PySem PySem.Spec PyProof.Rows L2 Mi
noncomputable section
abbrev hasBody : MS := (.seq (.ife (.not (.tr (.call 5 (.cons (.call 19 (.cons (.ix (.var 4) (.var 5)) (.cons (.var 8) .nil)) .nil) (.cons (.cmp .in_ (.bi .min2 (.cons (.var 8) (.cons (.cst (.int 12)) .nil))) (.ix (.var 3) (.var 5))) .nil)) .nil))) (.seq (.ret (.cst (.bl false))) .skip) .skip) .skip)
abbrev t0 : MS := (.ife (.or (.cmp .ne (.ix (.var 4) (.var 5)) (.bi .tuple (.cons (.call 8 (.cons (.ix (.var 3) (.var 5)) .nil) .nil) .nil))) (.not (.tr (.call 4 (.cons (.ix (.var 4) (.var 5)) .nil) .nil)))) (.seq (.ret (.cst (.bl false))) .skip) .skip)
abbrev t1 : MS := (.asg (.nm 7) (.bi .setLen (.cons (.ix (.var 3) (.var 5)) .nil)))
abbrev t2 : MS := (.ife (.cmp .ne (.call 15 (.cons (.ix (.var 4) (.var 5)) .nil) .nil) (.ife (.cmp .in_ (.cst (.int 12)) (.ix (.var 3) (.var 5))) (.cst .non) (.var 7))) (.seq (.ret (.cst (.bl false))) .skip) .skip)
abbrev t3 : MS := (.for_ .rng (.cons (.cst (.int 16)) .nil) (.nm 8) hasBody)
abbrev turnB : MS := .seq t0 (.seq t1 (.seq t2 (.seq t3 .skip)))
abbrev rowM : M := (.bi .tuple (.cons (.lc .rng (.cons (.call 3 (.cons (.var 0) (.cons (.var 1) (.cons (.cst (.int 5)) .nil))) .nil) .nil) (.nm 15) [15] (.cst (.bl true)) (.call 7 (.cons (.var 0) (.cons (.var 1) .nil)) .nil)) .nil))
abbrev k0 : MS := (.asg (.nm 1) (.call 10 .nil .nil))
abbrev k1 : MS := (.asg (.nm 2) (.lc .rng (.cons (.cst (.int 2)) .nil) (.nm 13) [13] (.cst (.bl true)) rowM))
abbrev k2 : MS := (.asg (.nm 3) (.lc .val (.var 2) (.nm 14) [14] (.cst (.bl true)) (.call 21 (.cons (.var 14) .nil) .nil)))
abbrev k3 : MS := (.asg (.nm 4) (.lc .val (.var 2) (.nm 14) [14] (.cst (.bl true)) (.call 20 .nil (.cons (.var 14) .nil))))
abbrev k4 : MS := (.for_ .val (.tup (.cons (.cst (.int 0)) (.cons (.cst (.int 1)) .nil))) (.nm 5) turnB)
abbrev k5 : MS := (.asg (.tp (.cons (.nm 9) (.cons (.nm 10) .nil))) (.var 4))
abbrev k6 : MS := (.ife (.cmp .ne (.call 18 (.cons (.var 9) (.cons (.var 10) .nil)) .nil) (.bi .tuple (.cons (.call 8 (.cons (.bin .add (.ix (.var 3) (.cst (.int 0))) (.ix (.var 3) (.cst (.int 1)))) .nil) .nil) .nil))) (.seq (.ret (.cst (.bl false))) .skip) .skip)
abbrev k7 : MS := (.ife (.cmp .ne (.call 17 (.cons (.var 9) (.cons (.var 10) .nil)) .nil) (.bi .tuple (.cons (.call 8 (.cons (.lc .val (.ix (.var 3) (.cst (.int 0))) (.nm 8) [8] (.cmp .notIn (.var 8) (.ix (.var 3) (.cst (.int 1)))) (.var 8)) .nil) .nil) .nil))) (.seq (.ret (.cst (.bl false))) .skip) .skip)
abbrev k8 : MS := (.ife (.cmp .ne (.call 13 (.cons (.var 9) (.cons (.var 10) .nil)) .nil) (.bi .tuple (.cons (.call 8 (.cons (.lc .val (.ix (.var 3) (.cst (.int 0))) (.nm 8) [8] (.cmp .in_ (.var 8) (.ix (.var 3) (.cst (.int 1)))) (.var 8)) .nil) .nil) .nil))) (.seq (.ret (.cst (.bl false))) .skip) .skip)
abbrev k9 : MS := (.asg (.tp (.cons (.nm 11) (.cons (.nm 12) .nil))) (.tup (.cons (.call 7 (.cons (.var 0) (.cons (.var 1) .nil)) .nil) (.cons (.call 7 (.cons (.var 0) (.cons (.var 1) .nil)) .nil) .nil))))
abbrev k10 : MS := (.asg (.nm 6) (.lc .val (.call 9 (.cons (.var 11) .nil) .nil) (.nm 8) [8] (.cmp .in_ (.var 8) (.call 9 (.cons (.var 12) .nil) .nil)) (.var 8)))
abbrev k11 : MS := (.ret (.and (.call 5 (.cons (.call 16 (.cons (.var 11) (.cons (.var 12) .nil)) .nil) (.cons (.cmp .ne (.var 6) (.lst .nil)) .nil)) .nil) (.and (.cmp .eq (.call 11 (.cons (.tup .nil) .nil) .nil) (.tup .nil)) (.cmp .eq (.call 15 (.cons (.tup .nil) .nil) .nil) (.cst (.int 0))))))
theorem b_law_eq : b_law = (.seq k0 (.seq k1 (.seq k2 (.seq k3 (.seq k4 (.seq k5 (.seq k6 (.seq k7 (.seq k8 (.seq k9 (.seq k10 (.seq k11 .skip)))))))))))) := rfl
/-! small steps -/
section
variable {S : Sto} {e0 : Option W} {env : Mi.Env}
theorem runs_ev {c : List W} (hi : Ints c) (hs : Lo.Small (memW c)) : g_runs [] [.lst c] S = .ok (.lst ((Lo.runsP (memW c)).map stW)) S := by
  have k : S.length ∉ ([] : List Nat) ∧ c.all W.flat = true ∧ ((List.range 13).all fun n => !memW c (Lo.endF (memW c) 99 (n : Nat))) = true := by
    refine ⟨by simp, hi.flat, List.all_eq_true.mpr fun n hn => ?_⟩
    rw [List.mem_range] at hn
    rw [hs.end_ (by omega) (by omega)]; rfl
  simp only [g_runs]; rw [if_pos k, runsW_eq]
theorem shp_sts (a : List Lo.P) : (W.tup (a.map stW)).shp 50 = true := by rw [W.shp]; exact shps_sts a 48
theorem ne_sts (a b : List Lo.P) : cmpW S .ne (.tup (a.map stW)) (.tup (b.map stW)) = some (.bl (!decide (a = b))) := by
  rw [cmp_ne, shp_sts, shp_sts, W.eq, eqs_sts]; rfl
theorem eq_sts (a b : List Lo.P) : cmpW S .eq (.tup (a.map stW)) (.tup (b.map stW)) = some (.bl (decide (a = b))) := by
  rw [cmp_eq, shp_sts, shp_sts, W.eq, eqs_sts]; rfl
theorem tup_of (l : List W) : biW S .tuple [.lst l] = some (.tup l) := rfl
theorem in_cells {c : List W} (hi : Ints c) (i : Int) : cmpW S .in_ (.int i) (.lst c) = some (.bl (memW c i)) := by
  rw [cmp_in]
  simp only [inW, hi.flat]
  rfl
theorem notin_cells {c : List W} (hi : Ints c) (i : Int) : cmpW S .notIn (.int i) (.lst c) = some (.bl (!memW c i)) := by
  rw [cmp_notIn]
  simp only [inW, hi.flat]
  rfl
theorem ne_ev {A D : M} {l : List Lo.P} {c : List W} (hA : ev CC [] A (e0 :: env) S = .ok (.tup (l.map stW)) S) (hC : ev CC [] D (e0 :: env) S = .ok (.lst c) S) (h : LotOf l (memW c)) (hi : Ints c) (hs : Lo.Small (memW c)) :
    ev CC [] (.cmp .ne A (.bi .tuple (.cons (.call 8 (.cons D .nil) .nil) .nil))) (e0 :: env) S = .ok (.bl false) S := by
  rw [ev_cmp, hA, opK_ok, ev_bi, ev_cons, ev_call, ev_cons, hC]
  simp only [consK_ok, ev_nil, consK2_ok, callK_ok, callK2_ok, List.append_nil, cc8, runs_ev hi hs, biK_ok, tup_of, Out.of_some, opK2_ok, ne_sts, h.runs hs, decide_true, Bool.not_true]
theorem ne_ok {A D : M} {l : List Lo.P} {c : List W} (hA : ev CC [] A (e0 :: env) S = .ok (.tup (l.map stW)) S) (hC : ev CC [] D (e0 :: env) S = .ok (.lst c) S) (h : LotOf l (memW c)) (hi : Ints c) (hs : Lo.Small (memW c)) :
    exS CC 100 [] (.ife (.cmp .ne A (.bi .tuple (.cons (.call 8 (.cons D .nil) .nil) .nil))) (.seq (.ret (.cst (.bl false))) .skip) .skip) (e0 :: env) S = .ok (.nx (e0 :: env)) S := by
  rw [ex_ife, ne_ev hA hC h hi hs, ifK_f, ex_skip]
end
section
variable {ns : List Int} {S : Sto} {m : Nat} {a2 a3 a4 a5 a6 a7 a8 a9 a10 a11 a12 a13 a14 a15 : Option W}
/-! the rows -/
theorem row_ok : ∀ (xs : List W) (S : Sto) (m : Nat), Town S 0 1 m → m + 3 * xs.length < 900000 → ∃ (ps : List Lo.P) (S' : Sto), lcL (lcStep CC [] (.nm 15) [some (.scr ns), some (.ref 0), a2, a3, a4, a5, a6, a7, a8, a9, a10, a11, a12, a13, a14, none] (.cst (.bl true)) (.call 7 (.cons (.var 0) (.cons (.var 1) .nil)) .nil)) xs S = .ok (ps.map stW) S' ∧ ps.length = xs.length ∧ (∀ p ∈ ps, Good p) ∧ Town S' 0 1 (m + 3 * xs.length)
  | [], S, m, h, _ => ⟨[], S, rfl, rfl, fun p hp => (by cases hp), h⟩
  | x :: xs, S, m, h, hm => by
    simp only [List.length_cons] at hm
    obtain ⟨p, S1, e1, g1, T1, l1, _⟩ := astretch_spec h (by omega) ns (L := []) (by simp) (by simp)
    obtain ⟨ps, S2, e2, n2, g2, T2⟩ := row_ok xs S1 (m + 3) T1 (by omega)
    have hs : lcStep CC [] (.nm 15) [some (.scr ns), some (.ref 0), a2, a3, a4, a5, a6, a7, a8, a9, a10, a11, a12, a13, a14, none] (.cst (.bl true)) (.call 7 (.cons (.var 0) (.cons (.var 1) .nil)) .nil) x S = .ok (some (stW p)) S1 := by
      simp [lcStep, bindT, Out.calm, e1]
    refine ⟨p :: ps, S2, by rw [lcL, hs, Out.bind_ok, e2]; rfl, by simp [n2], fun q hq => ?_, by rw [List.length_cons]; exact T2.up (by omega)⟩
    rcases List.mem_cons.mp hq with rfl | hq
    · exact g1
    · exact g2 q hq
def GoodR (ps : List Lo.P) : Prop := ps.length ≤ 4 ∧ ∀ p ∈ ps, Good p
theorem rowM_ok (h : Town S 0 1 m) (hm : m < 800000) : ∃ (ps : List Lo.P) (S' : Sto), ev CC [] rowM [some (.scr ns), some (.ref 0), a2, a3, a4, a5, a6, a7, a8, a9, a10, a11, a12, a13, a14, a15] S = .ok (.tup (ps.map stW)) S' ∧ GoodR ps ∧ Town S' 0 1 (m + 13) := by
  obtain ⟨v, S1, e1, v0, v1, T1, _, _⟩ := draw_spec h (by omega) ns (many := 5) (by decide) (by decide) (L := []) (by simp) (by simp)
  obtain ⟨ps, S2, e2, n2, g2, T2⟩ := row_ok (ns := ns) (a2 := a2) (a3 := a3) (a4 := a4) (a5 := a5) (a6 := a6) (a7 := a7) (a8 := a8) (a9 := a9) (a10 := a10) (a11 := a11) (a12 := a12) (a13 := a13) (a14 := a14) ((List.range v.toNat).map fun (i : Nat) => .int (0 + i)) S1 (m + 1) T1 (by simp; omega)
  have hl : ps.length ≤ 4 := by rw [n2]; simp; omega
  have hr : rngW [.int v] = some ((List.range v.toNat).map fun (i : Nat) => .int (0 + i)) := by
    simp only [rngW]; rw [if_pos (by omega)]
  refine ⟨ps, S2, ?_, ⟨hl, g2⟩, T2.up (by simp; omega)⟩
  simp only [rowM, ev_bi, ev_lc, ev_cons, ev_call, ev_var0, ev_varS, ev_cst, ev_nil, consK_ok, consK2_ok, callK_ok, callK2_ok, cc3, List.cons_append, List.nil_append, List.append_nil, e1, lcK_ok, items, W.tupl, hr, Option.map_some, lcGo_some, wipeE, List.set]
  rw [e2]
  simp only [lcEnd_ok, List.length_map, if_pos (show ps.length ≤ 16777216 by omega), consK_ok, ev_nil, consK2_ok, biK_ok, tup_of, Out.of_some]
def rowW (ps : List Lo.P) : W := .tup (ps.map stW)
theorem rows_ok : ∀ (xs : List W) (S : Sto) (m : Nat), Town S 0 1 m → m + 13 * xs.length < 700000 → ∃ (pss : List (List Lo.P)) (S' : Sto), lcL (lcStep CC [] (.nm 13) [some (.scr ns), some (.ref 0), a2, a3, a4, a5, a6, a7, a8, a9, a10, a11, a12, none, a14, a15] (.cst (.bl true)) rowM) xs S = .ok (pss.map rowW) S' ∧ pss.length = xs.length ∧ (∀ ps ∈ pss, GoodR ps) ∧ Town S' 0 1 (m + 13 * xs.length)
  | [], S, m, h, _ => ⟨[], S, rfl, rfl, fun p hp => (by cases hp), h⟩
  | x :: xs, S, m, h, hm => by
    simp only [List.length_cons] at hm
    obtain ⟨p, S1, e1, g1, T1⟩ := rowM_ok (ns := ns) (a2 := a2) (a3 := a3) (a4 := a4) (a5 := a5) (a6 := a6) (a7 := a7) (a8 := a8) (a9 := a9) (a10 := a10) (a11 := a11) (a12 := a12) (a13 := some x) (a14 := a14) (a15 := a15) h (by omega)
    obtain ⟨ps, S2, e2, n2, g2, T2⟩ := rows_ok xs S1 (m + 13) T1 (by omega)
    have hs : lcStep CC [] (.nm 13) [some (.scr ns), some (.ref 0), a2, a3, a4, a5, a6, a7, a8, a9, a10, a11, a12, none, a14, a15] (.cst (.bl true)) rowM x S = .ok (some (rowW p)) S1 := by
      simp only [lcStep, bindT, Out.calm, List.set, ev_cst, Out.bind_ok]
      rw [e1]; rfl
    refine ⟨p :: ps, S2, by rw [lcL, hs, Out.bind_ok, e2]; rfl, by simp [n2], fun q hq => ?_, by rw [List.length_cons]; exact T2.up (by omega)⟩
    rcases List.mem_cons.mp hq with rfl | hq
    · exact g1
    · exact g2 q hq
theorem k1_ok (h : Town S 0 1 m) (hm : m < 600000) : ∃ (ps qs : List Lo.P) (S' : Sto), exS CC 100 [] k1 [some (.scr ns), some (.ref 0), a2, a3, a4, a5, a6, a7, a8, a9, a10, a11, a12, a13, a14, a15] S = .ok (.nx [some (.scr ns), some (.ref 0), some (.lst [rowW ps, rowW qs]), a3, a4, a5, a6, a7, a8, a9, a10, a11, a12, a13, a14, a15]) S' ∧ GoodR ps ∧ GoodR qs ∧ Town S' 0 1 (m + 26) := by
  obtain ⟨pss, S2, e2, n2, g2, T2⟩ := rows_ok (ns := ns) (a2 := a2) (a3 := a3) (a4 := a4) (a5 := a5) (a6 := a6) (a7 := a7) (a8 := a8) (a9 := a9) (a10 := a10) (a11 := a11) (a12 := a12) (a14 := a14) (a15 := a15) [.int 0, .int 1] S m h (by simp; omega)
  have hr : rngW [.int 2] = some [.int 0, .int 1] := rfl
  match pss, n2 with
  | [ps, qs], _ =>
    refine ⟨ps, qs, S2, ?_, g2 _ (by simp), g2 _ (by simp), T2⟩
    simp only [k1, ex_asg, ev_lc, ev_cons, ev_cst, ev_nil, consK_ok, consK2_ok, lcK_ok, items, W.tupl, hr, Option.map_some, lcGo_some, wipeE, List.set, List.nil_append]
    rw [e2]
    simp only [lcEnd_ok, List.map_cons, List.map_nil, List.length_cons, List.length_nil, if_pos (show 0 + 1 + 1 ≤ 16777216 by decide), asgK_ok, bindT, List.set]
theorem all_ev {ps : List Lo.P} (h : GoodR ps) : g_all [] [rowW ps] S = .ok (.lst (cellsP ps)) S := by
  simp only [g_all, rowW, unSs_st]
  rw [if_pos]
  · rfl
  · refine ⟨by have := h.1; omega, List.all_eq_true.mpr fun p hp => ?_⟩
    obtain ⟨h1, h2, h3⟩ := h.2 p hp
    cases e : p.2 with
    | none => simp [h1]; omega
    | some x => have := h3 x e; simp [h1]; omega
theorem lot_ev {ps : List Lo.P} (h : ps.length ≤ 1000) : g_lotof [] [.tup (ps.map stW)] S = .ok (.tup ((Lo.lotF ps).map stW)) S := by
  simp only [g_lotof, W.seqs, unSs_st]
  rw [if_pos ⟨by simp, by omega⟩]
theorem k2_ok {ps qs : List Lo.P} (h1 : GoodR ps) (h2 : GoodR qs) : exS CC 100 [] k2 [some (.scr ns), some (.ref 0), some (.lst [rowW ps, rowW qs]), a3, a4, a5, a6, a7, a8, a9, a10, a11, a12, a13, a14, a15] S = .ok (.nx [some (.scr ns), some (.ref 0), some (.lst [rowW ps, rowW qs]), some (.lst [.lst (cellsP ps), .lst (cellsP qs)]), a4, a5, a6, a7, a8, a9, a10, a11, a12, a13, a14, a15]) S := by
  simp [k2, items, valW, wipeE, lcL, lcStep, bindT, Out.calm, all_ev h1, all_ev h2]
theorem k3_ok {ps qs : List Lo.P} (h1 : GoodR ps) (h2 : GoodR qs) : exS CC 100 [] k3 [some (.scr ns), some (.ref 0), some (.lst [rowW ps, rowW qs]), a3, a4, a5, a6, a7, a8, a9, a10, a11, a12, a13, a14, a15] S = .ok (.nx [some (.scr ns), some (.ref 0), some (.lst [rowW ps, rowW qs]), a3, some (.lst [rowW (Lo.lotF ps), rowW (Lo.lotF qs)]), a5, a6, a7, a8, a9, a10, a11, a12, a13, a14, a15]) S := by
  have l1 : g_lotof [] [rowW ps] S = .ok (rowW (Lo.lotF ps)) S := lot_ev (by have := h1.1; omega)
  have l2 : g_lotof [] [rowW qs] S = .ok (rowW (Lo.lotF qs)) S := lot_ev (by have := h2.1; omega)
  simp [k3, items, valW, wipeE, lcL, lcStep, bindT, Out.calm, l1, l2]
/-! a turn -/
theorem lot_len {l : List Lo.P} {m : Int → Bool} (h : LotOf l m) (hs : Lo.Small m) : l.length ≤ 13 := by rw [h.runs hs]; exact Lo.runs_len m
theorem turn_ok {X3 X4 : List W} {a : Int} {ps : List Lo.P} (hg : GoodR ps) (h3 : atW X3 a = some (.lst (cellsP ps))) (h4 : atW X4 a = some (rowW (Lo.lotF ps))) :
    ∃ b7 b8, exS CC 100 [] turnB [some (.scr ns), some (.ref 0), a2, some (.lst X3), some (.lst X4), some (.int a), a6, a7, a8, a9, a10, a11, a12, a13, a14, a15] S = .ok (.nx [some (.scr ns), some (.ref 0), a2, some (.lst X3), some (.lst X4), some (.int a), a6, b7, b8, a9, a10, a11, a12, a13, a14, a15]) S := by
  have hs := cells_small hg.2
  have hi := ints_cells ps
  have hL := lot_row hg.2
  have hll := lot_len hL hs
  have hlw := lotW_lot hL.lot (by omega)
  have x3 : ∀ (b7 b8 : Option W), ev CC [] (.ix (.var 3) (.var 5)) [some (.scr ns), some (.ref 0), a2, some (.lst X3), some (.lst X4), some (.int a), a6, b7, b8, a9, a10, a11, a12, a13, a14, a15] S = .ok (.lst (cellsP ps)) S := fun b7 b8 => by simp [h3]
  have x4 : ∀ (b7 b8 : Option W), ev CC [] (.ix (.var 4) (.var 5)) [some (.scr ns), some (.ref 0), a2, some (.lst X3), some (.lst X4), some (.int a), a6, b7, b8, a9, a10, a11, a12, a13, a14, a15] S = .ok (.tup ((Lo.lotF ps).map stW)) S := fun b7 b8 => by simp [h4, rowW]
  generalize Lo.lotF ps = l at *
  have e0 : exS CC 100 [] t0 [some (.scr ns), some (.ref 0), a2, some (.lst X3), some (.lst X4), some (.int a), a6, a7, a8, a9, a10, a11, a12, a13, a14, a15] S = .ok (.nx [some (.scr ns), some (.ref 0), a2, some (.lst X3), some (.lst X4), some (.int a), a6, a7, a8, a9, a10, a11, a12, a13, a14, a15]) S := by
    have hlot : g_lot [] [.tup (l.map stW)] S = .ok (.bl true) S := by simp only [g_lot, hlw, Option.map_some, Out.of_some]
    rw [t0, ex_ife, ev_or, ne_ev (x4 _ _) (x3 _ _) hL hi hs, orK_f, ev_not, ev_tr, ev_call, ev_cons, x4]
    simp only [consK_ok, ev_nil, consK2_ok, callK_ok, callK2_ok, List.append_nil, cc4, hlot, trK_ok, W.tru, Option.map_some, Out.of_some, notK_ok, Bool.not_true, ifK_f, ex_skip]
  have hset := set_len hg.2 (by have := hg.1; omega) S
  have e1 : exS CC 100 [] t1 [some (.scr ns), some (.ref 0), a2, some (.lst X3), some (.lst X4), some (.int a), a6, a7, a8, a9, a10, a11, a12, a13, a14, a15] S = .ok (.nx [some (.scr ns), some (.ref 0), a2, some (.lst X3), some (.lst X4), some (.int a), a6, some (.int (Lo.cnt (memW (cellsP ps)) : Nat)), a8, a9, a10, a11, a12, a13, a14, a15]) S := by
    rw [t1, ex_asg, ev_bi, ev_cons, x3]
    simp only [consK_ok, ev_nil, consK2_ok, biK_ok, hset, Out.of_some, asgK_ok, bindT, List.set]
  have e2 : exS CC 100 [] t2 [some (.scr ns), some (.ref 0), a2, some (.lst X3), some (.lst X4), some (.int a), a6, some (.int (Lo.cnt (memW (cellsP ps)) : Nat)), a8, a9, a10, a11, a12, a13, a14, a15] S = .ok (.nx [some (.scr ns), some (.ref 0), a2, some (.lst X3), some (.lst X4), some (.int a), a6, some (.int (Lo.cnt (memW (cellsP ps)) : Nat)), a8, a9, a10, a11, a12, a13, a14, a15]) S := by
    have hz : l.length ≤ 16777216 := by omega
    have hsz : g_size [] [.tup (l.map stW)] S = .ok (if memW (cellsP ps) 12 = true then .non else .int (Lo.cnt (memW (cellsP ps)) : Nat)) S := by
      simp only [g_size, unSs_st, if_pos hz, hL.endless]
      by_cases z : memW (cellsP ps) 12 = true
      · simp only [if_pos z]
      · have z' : memW (cellsP ps) 12 = false := by simpa using z
        obtain ⟨g1, g2⟩ := hL.size z'
        simp only [if_neg z, if_pos g1, g2]
    rw [t2, ex_ife, ev_cmp, ev_call, ev_cons, x4]
    simp only [consK_ok, ev_nil, consK2_ok, callK_ok, callK2_ok, List.append_nil, cc15, hsz, opK_ok]
    rw [ev_ife, ev_cmp, ev_cst, opK_ok, x3]
    simp only [opK2_ok, in_cells hi, Out.of_some]
    cases z : memW (cellsP ps) 12 with
    | true => simp [cmp_ne, W.shp, W.eq]
    | false => simp [cmp_ne, W.shp, W.eq]
  have inner : ∀ (xs : List Nat) (b8 : Option W), ∃ c8, forL (forStep CC 100 [] (.nm 8) hasBody) (xs.map fun (i : Nat) => .int (0 + i)) [some (.scr ns), some (.ref 0), a2, some (.lst X3), some (.lst X4), some (.int a), a6, some (.int (Lo.cnt (memW (cellsP ps)) : Nat)), b8, a9, a10, a11, a12, a13, a14, a15] S = .ok (.nx [some (.scr ns), some (.ref 0), a2, some (.lst X3), some (.lst X4), some (.int a), a6, some (.int (Lo.cnt (memW (cellsP ps)) : Nat)), c8, a9, a10, a11, a12, a13, a14, a15]) S := by
    intro xs
    induction xs with
    | nil => intro b8; exact ⟨b8, rfl⟩
    | cons x xs ih =>
      intro b8
      obtain ⟨c8, hc⟩ := ih (some (.int (0 + (x : Int))))
      refine ⟨c8, ?_⟩
      have hz : l.length ≤ 16777216 := by omega
      have hh : g_has [] [.tup (l.map stW), .int (0 + x)] S = .ok (.bl (memW (cellsP ps) (min (0 + (x : Int)) 12))) S := by
        simp only [g_has, unSs_st, if_pos hz, hL.has]
        unfold Lo.extB
        have : decide ((0 : Int) ≤ 0 + (x : Int)) = true := by simp
        rw [this, Bool.true_and]
      have hmin : biW S .min2 [.int (0 + x), .int 12] = some (.int (min (0 + (x : Int)) 12)) := by
        show some (W.int (if (12 : Int) < 0 + x then 12 else 0 + x)) = _
        congr 2
        rw [Int.min_def]; split <;> split <;> omega
      have hs : forStep CC 100 [] (.nm 8) hasBody (.int (0 + (x : Int))) [some (.scr ns), some (.ref 0), a2, some (.lst X3), some (.lst X4), some (.int a), a6, some (.int (Lo.cnt (memW (cellsP ps)) : Nat)), b8, a9, a10, a11, a12, a13, a14, a15] S = .ok (.nx [some (.scr ns), some (.ref 0), a2, some (.lst X3), some (.lst X4), some (.int a), a6, some (.int (Lo.cnt (memW (cellsP ps)) : Nat)), some (.int (0 + (x : Int))), a9, a10, a11, a12, a13, a14, a15]) S := by
        simp only [forStep, bindT, List.set, hasBody, ex_seq, ex_ife, ev_not, ev_tr, ev_call, ev_cons, x4, consK_ok, ev_varS, ev_var0, ev_nil, consK2_ok, callK_ok, callK2_ok, List.append_nil, List.cons_append, List.nil_append, cc19, hh, ev_cmp, ev_bi, ev_cst, biK_ok, hmin, Out.of_some, opK_ok, x3, opK2_ok, in_cells hi, cc5, g_is, beq_self_eq_true, trK_ok, W.tru, Option.map_some, notK_ok, Bool.not_true, ifK_f, ex_skip, seqK_nx]
      rw [List.map_cons, forL, hs, Out.bind_ok]; exact hc
  obtain ⟨c8, hc⟩ := inner (List.range 16) a8
  have hr : rngW [.int 16] = some ((List.range 16).map fun (i : Nat) => .int (0 + i)) := rfl
  refine ⟨some (.int (Lo.cnt (memW (cellsP ps)) : Nat)), c8, ?_⟩
  have e3 : exS CC 100 [] t3 [some (.scr ns), some (.ref 0), a2, some (.lst X3), some (.lst X4), some (.int a), a6, some (.int (Lo.cnt (memW (cellsP ps)) : Nat)), a8, a9, a10, a11, a12, a13, a14, a15] S = .ok (.nx [some (.scr ns), some (.ref 0), a2, some (.lst X3), some (.lst X4), some (.int a), a6, some (.int (Lo.cnt (memW (cellsP ps)) : Nat)), c8, a9, a10, a11, a12, a13, a14, a15]) S := by
    simp only [t3, ex_for, ev_cons, ev_cst, consK_ok, ev_nil, consK2_ok, forK_ok, items, W.tupl, hr, Option.map_some, forGo_some, List.nil_append]
    exact hc
  rw [turnB, ex_seq, e0, seqK_nx, ex_seq, e1, seqK_nx, ex_seq, e2, seqK_nx, ex_seq, e3, seqK_nx, ex_skip]
theorem k4_ok {ps qs : List Lo.P} (h1 : GoodR ps) (h2 : GoodR qs) : ∃ b5 b7 b8, exS CC 100 [] k4 [some (.scr ns), some (.ref 0), a2, some (.lst [.lst (cellsP ps), .lst (cellsP qs)]), some (.lst [rowW (Lo.lotF ps), rowW (Lo.lotF qs)]), a5, a6, a7, a8, a9, a10, a11, a12, a13, a14, a15] S = .ok (.nx [some (.scr ns), some (.ref 0), a2, some (.lst [.lst (cellsP ps), .lst (cellsP qs)]), some (.lst [rowW (Lo.lotF ps), rowW (Lo.lotF qs)]), b5, a6, b7, b8, a9, a10, a11, a12, a13, a14, a15]) S := by
  obtain ⟨b7, b8, e1⟩ := turn_ok (ns := ns) (S := S) (a2 := a2) (a6 := a6) (a7 := a7) (a8 := a8) (a9 := a9) (a10 := a10) (a11 := a11) (a12 := a12) (a13 := a13) (a14 := a14) (a15 := a15) (X3 := [.lst (cellsP ps), .lst (cellsP qs)]) (X4 := [rowW (Lo.lotF ps), rowW (Lo.lotF qs)]) (a := 0) h1 at_0 at_0
  obtain ⟨c7, c8, e2⟩ := turn_ok (ns := ns) (S := S) (a2 := a2) (a6 := a6) (a7 := b7) (a8 := b8) (a9 := a9) (a10 := a10) (a11 := a11) (a12 := a12) (a13 := a13) (a14 := a14) (a15 := a15) (X3 := [.lst (cellsP ps), .lst (cellsP qs)]) (X4 := [rowW (Lo.lotF ps), rowW (Lo.lotF qs)]) (a := 1) h2 at_1 at_1
  have s1 : forStep CC 100 [] (.nm 5) turnB (.int 0) [some (.scr ns), some (.ref 0), a2, some (.lst [.lst (cellsP ps), .lst (cellsP qs)]), some (.lst [rowW (Lo.lotF ps), rowW (Lo.lotF qs)]), a5, a6, a7, a8, a9, a10, a11, a12, a13, a14, a15] S = .ok (.nx [some (.scr ns), some (.ref 0), a2, some (.lst [.lst (cellsP ps), .lst (cellsP qs)]), some (.lst [rowW (Lo.lotF ps), rowW (Lo.lotF qs)]), some (.int 0), a6, b7, b8, a9, a10, a11, a12, a13, a14, a15]) S := by
    simp only [forStep, bindT, List.set]; exact e1
  have s2 : forStep CC 100 [] (.nm 5) turnB (.int 1) [some (.scr ns), some (.ref 0), a2, some (.lst [.lst (cellsP ps), .lst (cellsP qs)]), some (.lst [rowW (Lo.lotF ps), rowW (Lo.lotF qs)]), some (.int 0), a6, b7, b8, a9, a10, a11, a12, a13, a14, a15] S = .ok (.nx [some (.scr ns), some (.ref 0), a2, some (.lst [.lst (cellsP ps), .lst (cellsP qs)]), some (.lst [rowW (Lo.lotF ps), rowW (Lo.lotF qs)]), some (.int 1), a6, c7, c8, a9, a10, a11, a12, a13, a14, a15]) S := by
    simp only [forStep, bindT, List.set]; exact e2
  refine ⟨some (.int 1), c7, c8, ?_⟩
  simp only [k4, ex_for, ev_tup, ev_cons, ev_cst, consK_ok, ev_nil, consK2_ok, tupK_ok, List.length_cons, List.length_nil, if_pos (show 0 + 1 + 1 ≤ 16777216 by decide), forK_ok, items, valW, forGo_some, List.nil_append, forL, s1, s2, Out.bind_ok]
/-! two lots -/
theorem fil_lc {p q : W → Bool} {c : List W} {o : COp} (hi : Ints c) {d : List W} (hd : Ints d) (f : Int → Bool) {env : Mi.Env} (hf : ∀ i, lcStep CC [] (.nm 8) env (.cmp o (.var 8) (.ix (.var 3) (.cst (.int 1)))) (.var 8) (.int i) S = .ok (if f i = true then some (.int i) else none) S) :
    lcL (lcStep CC [] (.nm 8) env (.cmp o (.var 8) (.ix (.var 3) (.cst (.int 1)))) (.var 8)) c S = .ok (c.filter (pI f)) S := by
  have := lcL_filter (step := lcStep CC [] (.nm 8) env (.cmp o (.var 8) (.ix (.var 3) (.cst (.int 1)))) (.var 8)) (S := S) (p := pI f) (f := id) (l := c) fun x hx => by
    obtain ⟨ns, rfl⟩ := hi
    obtain ⟨i, _, rfl⟩ := List.mem_map.mp hx
    exact hf i
  rwa [List.map_id] at this
theorem small_or {c d : List W} (h1 : Lo.Small (memW c)) (h2 : Lo.Small (memW d)) : Lo.Small (memW (c ++ d)) := ⟨fun i hi => by
  rw [memW_append, Bool.or_eq_true] at hi
  rcases hi with hi | hi
  · exact h1.ok i hi
  · exact h2.ok i hi⟩
theorem small_fil {c : List W} (hi : Ints c) (h1 : Lo.Small (memW c)) (f : Int → Bool) : Lo.Small (memW (c.filter (pI f))) := ⟨fun i h => by
  rw [memW_filter hi, Bool.and_eq_true] at h
  exact h1.ok i h.1⟩
theorem rest_len : ∀ (l : List Lo.P) (a : Int), (Lo.restF a l).length ≤ l.length + 1
  | [], a => by simp [Lo.restF]
  | p :: l, a => by
    rw [Lo.restF]
    cases e : p.2 with
    | none => simp only; split <;> simp
    | some x =>
      have := rest_len l x
      simp only [List.length_append, List.length_cons]
      split <;> simp <;> omega
theorem lots_ok (r : MS) {l l' : List Lo.P} {c d : List W} (hl : LotOf l (memW c)) (hl' : LotOf l' (memW d)) (ci : Ints c) (di : Ints d) (cs : Lo.Small (memW c)) (ds : Lo.Small (memW d)) (cl : c.length ≤ 100) (dl : d.length ≤ 100) :
    exS CC 100 [] (.seq k5 (.seq k6 (.seq k7 (.seq k8 r)))) [some (.scr ns), some (.ref 0), a2, some (.lst [.lst c, .lst d]), some (.lst [rowW l, rowW l']), a5, a6, a7, a8, a9, a10, a11, a12, a13, a14, a15] S = exS CC 100 [] r [some (.scr ns), some (.ref 0), a2, some (.lst [.lst c, .lst d]), some (.lst [rowW l, rowW l']), a5, a6, a7, a8, some (rowW l), some (rowW l'), a11, a12, a13, a14, a15] S := by
  have n1 := lot_len hl cs
  have n2 := lot_len hl' ds
  have e5 : exS CC 100 [] k5 [some (.scr ns), some (.ref 0), a2, some (.lst [.lst c, .lst d]), some (.lst [rowW l, rowW l']), a5, a6, a7, a8, a9, a10, a11, a12, a13, a14, a15] S = .ok (.nx [some (.scr ns), some (.ref 0), a2, some (.lst [.lst c, .lst d]), some (.lst [rowW l, rowW l']), a5, a6, a7, a8, some (rowW l), some (rowW l'), a11, a12, a13, a14, a15]) S := by
    simp [k5, bindT]
  have c0 : ev CC [] (.ix (.var 3) (.cst (.int 0))) [some (.scr ns), some (.ref 0), a2, some (.lst [.lst c, .lst d]), some (.lst [rowW l, rowW l']), a5, a6, a7, a8, some (rowW l), some (rowW l'), a11, a12, a13, a14, a15] S = .ok (.lst c) S := by simp
  have j1 : g_joined [] [rowW l, rowW l'] S = .ok (.tup ((Lo.lotF (l ++ l')).map stW)) S := by
    simp only [g_joined, rowW]
    rw [if_pos (by simp; omega), ← List.map_append]
    exact lot_ev (by rw [List.length_append]; omega)
  have e6 : exS CC 100 [] k6 [some (.scr ns), some (.ref 0), a2, some (.lst [.lst c, .lst d]), some (.lst [rowW l, rowW l']), a5, a6, a7, a8, some (rowW l), some (rowW l'), a11, a12, a13, a14, a15] S = .ok (.nx [some (.scr ns), some (.ref 0), a2, some (.lst [.lst c, .lst d]), some (.lst [rowW l, rowW l']), a5, a6, a7, a8, some (rowW l), some (rowW l'), a11, a12, a13, a14, a15]) S :=
    ne_ok (l := Lo.lotF (l ++ l')) (c := c ++ d) (by simp [j1]) (by simp [show c.length + d.length ≤ 16777216 by omega]) (lot_joined hl hl' fun i => memW_append c d i) (ci.app di) (small_or cs ds)
  have r1 : g_rest [] [rowW l'] S = .ok (rowW (Lo.restF 0 l')) S := by
    simp only [g_rest, rowW, unSs_st]
    rw [if_pos ⟨by simp, by omega⟩]
  have b1 : ∀ q : List Lo.P, q.length ≤ 14 → g_both [] [rowW l, rowW q] S = .ok (.tup ((Lo.bothF l q).map stW)) S := fun q hq => by
    simp only [g_both, rowW, unSs_st]
    have hz : l.length * q.length ≤ 13 * 14 := Nat.mul_le_mul n1 hq
    rw [if_pos ⟨by simp, by omega⟩]
  have w1 : g_without [] [rowW l, rowW l'] S = .ok (.tup ((Lo.bothF l (Lo.restF 0 l')).map stW)) S := by
    simp only [g_without, r1, Out.bind_ok]
    exact b1 _ (by have := rest_len l' 0; omega)
  have fl : ∀ f : Int → Bool, (c.filter (pI f)).length ≤ 16777216 := fun f => Nat.le_trans (List.length_filter_le _ _) (by omega)
  have e7 : exS CC 100 [] k7 [some (.scr ns), some (.ref 0), a2, some (.lst [.lst c, .lst d]), some (.lst [rowW l, rowW l']), a5, a6, a7, a8, some (rowW l), some (rowW l'), a11, a12, a13, a14, a15] S = .ok (.nx [some (.scr ns), some (.ref 0), a2, some (.lst [.lst c, .lst d]), some (.lst [rowW l, rowW l']), a5, a6, a7, a8, some (rowW l), some (rowW l'), a11, a12, a13, a14, a15]) S := by
    refine ne_ok (l := Lo.bothF l (Lo.restF 0 l')) (c := c.filter (pI fun i => !memW d i)) (by simp [w1]) ?_ (lot_without hl hl' fun i => memW_filter ci _ i) (ci.filter _) (small_fil ci cs _)
    rw [ev_lc, c0]
    simp only [lcK_ok, items, valW, lcGo_some, List.nil_append, wipeE, List.set]
    rw [fil_lc (p := fun _ => true) (q := fun _ => true) ci di (fun i => !memW d i) fun i => by
      simp only [lcStep, bindT, List.set, ev_cmp, ev_varS, ev_var0, opK_ok, ev_ix, ev_cst, ix_lst', at_1, opK2_ok, Out.of_some, notin_cells di, Out.calm, Out.bind_ok]
      cases memW d i <;> simp]
    rw [lcEnd_ok, if_pos (fl _)]
  have e8 : exS CC 100 [] k8 [some (.scr ns), some (.ref 0), a2, some (.lst [.lst c, .lst d]), some (.lst [rowW l, rowW l']), a5, a6, a7, a8, some (rowW l), some (rowW l'), a11, a12, a13, a14, a15] S = .ok (.nx [some (.scr ns), some (.ref 0), a2, some (.lst [.lst c, .lst d]), some (.lst [rowW l, rowW l']), a5, a6, a7, a8, some (rowW l), some (rowW l'), a11, a12, a13, a14, a15]) S := by
    refine ne_ok (l := Lo.bothF l l') (c := c.filter (pI fun i => memW d i)) (by simp [b1 l' (by omega)]) ?_ (lot_both hl hl' fun i => memW_filter ci _ i) (ci.filter _) (small_fil ci cs _)
    rw [ev_lc, c0]
    simp only [lcK_ok, items, valW, lcGo_some, List.nil_append, wipeE, List.set]
    rw [fil_lc (p := fun _ => true) (q := fun _ => true) ci di (fun i => memW d i) fun i => by
      simp only [lcStep, bindT, List.set, ev_cmp, ev_varS, ev_var0, opK_ok, ev_ix, ev_cst, ix_lst', at_1, opK2_ok, Out.of_some, in_cells di, Out.calm, Out.bind_ok]
      cases memW d i <;> simp]
    rw [lcEnd_ok, if_pos (fl _)]
  rw [ex_seq, e5, seqK_nx, ex_seq, e6, seqK_nx, ex_seq, e7, seqK_nx, ex_seq, e8, seqK_nx]
/-! two stretches -/
theorem cov_ev {p : Lo.P} (h : Good p) : g_cover [] [stW p] S = .ok (.lst (coverP p)) S := cover_ok (by
  obtain ⟨h1, h2, h3⟩ := h
  cases e : p.2 with
  | none => simp [fineP, e, h1]; omega
  | some x => have := h3 x e; simp [fineP, e, h1]; omega)
theorem k9_ok (h : Town S 0 1 m) (hm : m < 600000) : ∃ (p q : Lo.P) (S' : Sto), exS CC 100 [] k9 [some (.scr ns), some (.ref 0), a2, a3, a4, a5, a6, a7, a8, a9, a10, a11, a12, a13, a14, a15] S = .ok (.nx [some (.scr ns), some (.ref 0), a2, a3, a4, a5, a6, a7, a8, a9, a10, some (stW p), some (stW q), a13, a14, a15]) S' ∧ Good p ∧ Good q := by
  obtain ⟨p, S1, e1, g1, T1, l1, _⟩ := astretch_spec h (by omega) ns (L := []) (by simp) (by simp)
  obtain ⟨q, S2, e2, g2, T2, l2, _⟩ := astretch_spec T1 (by omega) ns (L := []) (by simp) (by simp)
  exact ⟨p, q, S2, by simp [k9, e1, e2, bindT], g1, g2⟩
theorem k10_ok {p q : Lo.P} (hp : Good p) (hq : Good q) : exS CC 100 [] k10 [some (.scr ns), some (.ref 0), a2, a3, a4, a5, a6, a7, a8, a9, a10, some (stW p), some (stW q), a13, a14, a15] S = .ok (.nx [some (.scr ns), some (.ref 0), a2, a3, a4, a5, some (.lst ((coverP p).filter (pI (memW (coverP q))))), a7, a8, a9, a10, some (stW p), some (stW q), a13, a14, a15]) S := by
  have hz : ((coverP p).filter (pI (memW (coverP q)))).length ≤ 16777216 := by
    refine Nat.le_trans (List.length_filter_le _ _) ?_
    have := cells_len (ps := [p]) fun x hx => by rw [List.mem_singleton.mp hx]; exact hp
    simp [cellsP] at this
    omega
  have hf := lcL_filter (step := lcStep CC [] (.nm 8) [some (.scr ns), some (.ref 0), a2, a3, a4, a5, a6, a7, none, a9, a10, some (stW p), some (stW q), a13, a14, a15] (.cmp .in_ (.var 8) (.call 9 (.cons (.var 12) .nil) .nil)) (.var 8)) (S := S) (p := pI (memW (coverP q))) (f := id) (l := coverP p) fun x hx => by
    obtain ⟨zs, e⟩ := ints_cover p
    rw [e] at hx
    obtain ⟨i, _, rfl⟩ := List.mem_map.mp hx
    simp only [lcStep, bindT, List.set, ev_cmp, ev_varS, ev_var0, opK_ok, ev_call, ev_cons, ev_nil, consK_ok, consK2_ok, callK_ok, callK2_ok, List.append_nil, cc9, cov_ev hq, opK2_ok, Out.of_some, in_cells (ints_cover q), Out.calm, Out.bind_ok, pI, id]
    by_cases z : memW (coverP q) i = true
    · simp [z]
    · rw [Bool.not_eq_true] at z; simp [z]
  rw [List.map_id] at hf
  simp only [k10, ex_asg, ev_lc, ev_call, ev_cons, ev_varS, ev_var0, ev_nil, consK_ok, consK2_ok, callK_ok, callK2_ok, List.append_nil, cc9, cov_ev hp, lcK_ok, items, valW, lcGo_some, List.nil_append, wipeE, List.set]
  rw [hf, lcEnd_ok, if_pos hz, asgK_ok]
  simp only [bindT, List.set]
theorem shp_ints {l : List W} (h : Ints l) : (W.lst l).shp 50 = true := by
  rw [W.shp]
  refine shps_of fun x hx => ?_
  obtain ⟨ns, rfl⟩ := h
  obtain ⟨i, _, rfl⟩ := List.mem_map.mp hx
  simp [W.shp]
theorem k11_ok {p q : Lo.P} (hp : Good p) (hq : Good q) : exS CC 100 [] k11 [some (.scr ns), some (.ref 0), a2, a3, a4, a5, some (.lst ((coverP p).filter (pI (memW (coverP q))))), a7, a8, a9, a10, some (stW p), some (stW q), a13, a14, a15] S = .ok (.rt (.bl true)) S := by
  have h1 : g_meets [] [stW p, stW q] S = .ok (.bl (Lo.shP p q).isSome) S := by simp [g_meets]
  have hne : cmpW S .ne (.lst ((coverP p).filter (pI (memW (coverP q))))) (.lst []) = some (.bl (!((coverP p).filter (pI (memW (coverP q)))).isEmpty)) := by
    have : W.eq (.lst ((coverP p).filter (pI (memW (coverP q))))) (.lst []) = ((coverP p).filter (pI (memW (coverP q)))).isEmpty := by
      rw [W.eq]
      cases (coverP p).filter (pI (memW (coverP q))) <;> rfl
    rw [cmp_ne, shp_ints ((ints_cover p).filter _), this]
    rfl
  rw [meets_ok hp hq] at h1
  have h2 : g_lotof [] [.tup []] S = .ok (.tup []) S := by
    have := lot_ev (S := S) (ps := []) (by decide)
    simpa [Lo.lotF, Lo.lotS] using this
  have h3 : g_size [] [.tup []] S = .ok (.int 0) S := by simp [g_size, unSs, endless, Lo.sizeF]
  have h4 : cmpW S .eq (.tup []) (.tup []) = some (.bl true) := eq_sts [] []
  simp [k11, h1, hne, g_is, h2, h3, h4]
end
abbrev env0 (ns : List Int) : Mi.Env := [some (.scr ns), none, none, none, none, none, none, none, none, none, none, none, none, none, none, none]
abbrev S00 : Sto := [.dK [(.t 0, .int 0), (.t 1, .ref 1)], .dK []]
theorem town0 : Town S00 0 1 0 := ⟨0, [], Nat.le_refl _, rfl, by decide, Nat.le_refl _, fun p hp => by cases hp⟩
theorem begun0 : g_begun [] [] [] = .ok (.ref 0) S00 := rfl
theorem k0_ok {ns : List Int} : exS CC 100 [] k0 (env0 ns) [] = .ok (.nx [some (.scr ns), some (.ref 0), none, none, none, none, none, none, none, none, none, none, none, none, none, none]) S00 := by
  rw [ex_asg, ev_call, ev_nil, callK_ok, ev_nil, callK2_ok, cc10, List.append_nil, begun0, asgK_ok]; rfl
theorem law_run (ns : List Int) : ∃ S', exS CC 100 [] b_law (env0 ns) [] = .ok (.rt (.bl true)) S' := by
  obtain ⟨ps, qs, S1, e1, g1, g2, T1⟩ := k1_ok (ns := ns) (a2 := none) (a3 := none) (a4 := none) (a5 := none) (a6 := none) (a7 := none) (a8 := none) (a9 := none) (a10 := none) (a11 := none) (a12 := none) (a13 := none) (a14 := none) (a15 := none) town0 (by decide)
  obtain ⟨b5, b7, b8, e4⟩ := k4_ok (ns := ns) (S := S1) (a2 := some (.lst [rowW ps, rowW qs])) (a5 := none) (a6 := none) (a7 := none) (a8 := none) (a9 := none) (a10 := none) (a11 := none) (a12 := none) (a13 := none) (a14 := none) (a15 := none) g1 g2
  have c1 := cells_len g1.2
  have c2 := cells_len g2.2
  have d1 := g1.1
  have d2 := g2.1
  obtain ⟨p, q, S2, e9, hp, hq⟩ := k9_ok (ns := ns) (a2 := some (.lst [rowW ps, rowW qs])) (a3 := some (.lst [.lst (cellsP ps), .lst (cellsP qs)])) (a4 := some (.lst [rowW (Lo.lotF ps), rowW (Lo.lotF qs)])) (a5 := b5) (a6 := none) (a7 := b7) (a8 := b8) (a9 := some (rowW (Lo.lotF ps))) (a10 := some (rowW (Lo.lotF qs))) (a11 := none) (a12 := none) (a13 := none) (a14 := none) (a15 := none) T1 (by decide)
  refine ⟨S2, ?_⟩
  rw [b_law_eq, ex_seq, k0_ok, seqK_nx, ex_seq, e1, seqK_nx, ex_seq, k2_ok g1 g2, seqK_nx, ex_seq, k3_ok g1 g2, seqK_nx, ex_seq, e4, seqK_nx,
    lots_ok _ (lot_row g1.2) (lot_row g2.2) (ints_cells ps) (ints_cells qs) (cells_small g1.2) (cells_small g2.2) (by omega) (by omega),
    ex_seq, e9, seqK_nx, ex_seq, k10_ok hp hq, seqK_nx, ex_seq, k11_ok hp hq, seqK_rt]
theorem r_law (L : List Nat) (ws : List W) (S : Sto) : OutLe S (runB CC 100 16 b_law L ws S) (g_law L ws S) := by
  intro h
  right
  unfold g_law at h ⊢
  split at h
  · rename_i ns
    obtain ⟨S', hr⟩ := law_run ns
    refine ⟨.bl true, S', .bl true, [], 0, ?_, rfl, List.take_zero, Nat.zero_le _, .inl rfl, by simp [fz]⟩
    rw [runB_eq, show List.map some [W.scr ns] ++ List.replicate (16 - [W.scr ns].length) none = env0 ns from rfl, hr]
  · exact absurd rfl h
end
end K01

namespace K01
open PySem PySem.Spec PyProof.Rows L2 Mi
def d_is_whole : He.DefD := ⟨("is_whole", none), "is_whole", "is_whole", defArgs s_is_whole, defBody s_is_whole, defScope s_is_whole, [], [("least", .int 0)]⟩
def d_is_stretch : He.DefD := ⟨("is_stretch", none), "is_stretch", "is_stretch", defArgs s_is_stretch, defBody s_is_stretch, defScope s_is_stretch, [], []⟩
def d_is_lot : He.DefD := ⟨("is_lot", none), "is_lot", "is_lot", defArgs s_is_lot, defBody s_is_lot, defScope s_is_lot, [], []⟩
def d_lot_of : He.DefD := ⟨("lot_of", none), "lot_of", "lot_of", defArgs s_lot_of, defBody s_lot_of, defScope s_lot_of, [], []⟩
def d_joined : He.DefD := ⟨("joined", none), "joined", "joined", defArgs s_joined, defBody s_joined, defScope s_joined, [], []⟩
def d_rest_of : He.DefD := ⟨("rest_of", none), "rest_of", "rest_of", defArgs s_rest_of, defBody s_rest_of, defScope s_rest_of, [], []⟩
def d_shared_part : He.DefD := ⟨("shared_part", none), "shared_part", "shared_part", defArgs s_shared_part, defBody s_shared_part, defScope s_shared_part, [], []⟩
def d_both : He.DefD := ⟨("both", none), "both", "both", defArgs s_both, defBody s_both, defScope s_both, [], []⟩
def d_without : He.DefD := ⟨("without", none), "without", "without", defArgs s_without, defBody s_without, defScope s_without, [], []⟩
def d_has : He.DefD := ⟨("has", none), "has", "has", defArgs s_has, defBody s_has, defScope s_has, [], []⟩
def d_size_of : He.DefD := ⟨("size_of", none), "size_of", "size_of", defArgs s_size_of, defBody s_size_of, defScope s_size_of, [], []⟩
def d_meets : He.DefD := ⟨("meets", none), "meets", "meets", defArgs s_meets, defBody s_meets, defScope s_meets, [], []⟩
def d_law_draw : He.DefD := ⟨("_law_draw", none), "_law_draw", "_law_draw", defArgs s_law_draw, defBody s_law_draw, defScope s_law_draw, [], []⟩
def d_law_begun : He.DefD := ⟨("_law_begun", none), "_law_begun", "_law_begun", defArgs s_law_begun, defBody s_law_begun, defScope s_law_begun, [], []⟩
def d_law_is : He.DefD := ⟨("_law_is", none), "_law_is", "_law_is", defArgs s_law_is, defBody s_law_is, defScope s_law_is, [], []⟩
def d_law_cover : He.DefD := ⟨("_law_cover", none), "_law_cover", "_law_cover", defArgs s_law_cover, defBody s_law_cover, defScope s_law_cover, [], []⟩
def d_law_a_stretch : He.DefD := ⟨("_law_a_stretch", none), "_law_a_stretch", "_law_a_stretch", defArgs s_law_a_stretch, defBody s_law_a_stretch, defScope s_law_a_stretch, [], []⟩
def d_law_runs : He.DefD := ⟨("_law_runs", none), "_law_runs", "_law_runs", defArgs s_law_runs, defBody s_law_runs, defScope s_law_runs, [], []⟩
def d_law_all : He.DefD := ⟨("_law_all", none), "_law_all", "_law_all", defArgs s_law_all, defBody s_law_all, defScope s_law_all, [], []⟩
def d_law : He.DefD := ⟨("law", none), "law", "law", defArgs s_law, defBody s_law, defScope s_law, [], []⟩
def fn : List He.DefD := [d_is_whole, d_is_stretch, d_is_lot, d_lot_of, d_joined, d_rest_of, d_shared_part, d_both, d_without, d_has, d_size_of, d_meets, d_law_draw, d_law_begun, d_law_is, d_law_cover, d_law_a_stretch, d_law_runs, d_law_all, d_law]
def fa : List He.Fa := [.glo "is_whole", .glo "is_stretch", .glo "is_lot", .glo "lot_of", .glo "joined", .glo "rest_of", .glo "shared_part", .glo "both", .glo "without", .glo "has", .glo "size_of", .glo "meets", .glo "_law_draw", .glo "_law_begun", .glo "_law_is", .glo "_law_cover", .glo "_law_a_stretch", .glo "_law_runs", .glo "_law_all", .glo "law"] ++ bNames.map .free
def loose : List PySem.Str := ["is_whole", "is_stretch", "is_lot", "lot_of", "joined", "rest_of", "shared_part", "both", "without", "has", "size_of", "meets", "_law_draw", "_law_begun", "_law_is", "_law_cover", "_law_a_stretch", "_law_runs", "_law_all"]
abbrev R : PySem.W.OpenRow := PySem.W.OpenLaw.row PySem.Challenge.rw_lockstretch_k01_lots
abbrev hk : PySem.W.Hook := He.hookX 4 fa fn [] tf fun _ => true
def ob (s : PySem.W.SharedT) : He.AlX := He.obsX 4 fa fn [] tf (fun _ => true) (HandSHeadRun.getT s)
theorem ob_eq (s : PySem.W.SharedT) : ob s = hk.obs s.abs := He.obsX_eq (HandSHeadRun.getT_eq s)
theorem run (w : World) : HandSHeadRun.RunEq R (PySem.W.view R.prog [21]) hk ob 20000 loose w := by
  intro os
  kernel_rfl
theorem T_ok : T.Ok := ⟨by decide +kernel, by decide +kernel, by decide +kernel, by decide +kernel⟩
section
variable {P : Program} {w : World} {K : PySem.W.Frag} {h : Heap} {mg : PySem.Str → Option Value}
theorem free_of (X : K.In h) (G : h.Ns mainGlobals mg) (c : He.SaysD fa fn K) : ∀ x ∈ bNames, mg x = none := fun x hx => by
  have hm : He.Fa.free x ∈ fa := List.mem_append_right _ (List.mem_map_of_mem hx)
  obtain ⟨i, hi⟩ := List.getElem?_of_mem hm
  exact He.free_ok X G (c.fact i hi)
theorem stat {base : Heap} {N : List PySem.Str} {F : List (Option (PySem.Str × Nat × List PySem.Str))} {k : Nat} (hb : ∀ x ∈ bNames, mg x = none) (hN : N.Nodup) (hF : ∀ (f : Nat) x n ks, F[f]? = some (some (x, n, ks)) → FunAt P w K mg base T CC k f x n ks) : Stat (ck N F) CC P w K mg base k :=
  ⟨T_ok, hN, hb, fun i x e => (by simp [ck, conN] at e), hF, rfl, fun e => (by cases e), fun c D f x e => (by simp [ck, T] at e)⟩
theorem g_len1 {g : Fn} {n : Nat} (h : ∀ L ws S, ws.length ≠ n → g L ws S = .bad) : ∀ L ws S, g L ws S ≠ .bad → ws.length = n := fun L ws S hg => by
  by_cases z : ws.length = n
  · exact z
  · exact absurd (h L ws S z) hg
theorem statL {base : Heap} {N : List PySem.Str} {F : List (Option (PySem.Str × Nat × List PySem.Str))} {k : Nat} (hb : ∀ x ∈ bNames, mg x = none) (hN : N.Nodup) (hF : ∀ (f : Nat) x n ks, F[f]? = some (some (x, n, ks)) → FunAt P w K mg base T CC (k + 3) f x n ks) : Stat (ckL N F) CC P w K mg base (k + 3) :=
  ⟨T_ok, hN, hb, fun i x e => (by simp [ckL, conN] at e), hF, rfl, fun _ => ⟨k, Nat.le_refl _, fun f x n ks e => (by simp [ckL] at e)⟩, fun c D f x e => (by simp [ckL, T] at e)⟩
def cs (K : PySem.W.Frag) : List (Addr × Addr) := tf.map (He.cT K)
theorem facts (X : K.In h) (G : h.Ns mainGlobals mg) {f : Addr} (hfa : mg ("law" : PySem.Str) = some (.ref f)) (c : He.SaysD fa fn K) :
    ∃ fd : FuncData, (∀ (s : Shared) (v : Value), BindsTo s fd ⟨[v], []⟩ [("_law_script", v)]) ∧ ∀ base : Heap, (∀ p ∈ cs K, LamX.TabB base mg p.1 p.2) → FnOk P w K mg base (L2.CX P w) 7 f fd P_law (spF T K g_law) := by
  have hb := free_of X G c
  have e := hfa.symm.trans (He.glo_ok X G (c.fact 19 (f := .glo "law") rfl))
  cases e
  obtain ⟨fd0, F0⟩ := c.def_ 0 (d := d_is_whole) rfl
  obtain ⟨fd1, F1⟩ := c.def_ 1 (d := d_is_stretch) rfl
  obtain ⟨fd2, F2⟩ := c.def_ 2 (d := d_is_lot) rfl
  obtain ⟨fd3, F3⟩ := c.def_ 3 (d := d_lot_of) rfl
  obtain ⟨fd4, F4⟩ := c.def_ 4 (d := d_joined) rfl
  obtain ⟨fd5, F5⟩ := c.def_ 5 (d := d_rest_of) rfl
  obtain ⟨fd6, F6⟩ := c.def_ 6 (d := d_shared_part) rfl
  obtain ⟨fd7, F7⟩ := c.def_ 7 (d := d_both) rfl
  obtain ⟨fd8, F8⟩ := c.def_ 8 (d := d_without) rfl
  obtain ⟨fd9, F9⟩ := c.def_ 9 (d := d_has) rfl
  obtain ⟨fd10, F10⟩ := c.def_ 10 (d := d_size_of) rfl
  obtain ⟨fd11, F11⟩ := c.def_ 11 (d := d_meets) rfl
  obtain ⟨fd12, F12⟩ := c.def_ 12 (d := d_law_draw) rfl
  obtain ⟨fd13, F13⟩ := c.def_ 13 (d := d_law_begun) rfl
  obtain ⟨fd14, F14⟩ := c.def_ 14 (d := d_law_is) rfl
  obtain ⟨fd15, F15⟩ := c.def_ 15 (d := d_law_cover) rfl
  obtain ⟨fd16, F16⟩ := c.def_ 16 (d := d_law_a_stretch) rfl
  obtain ⟨fd17, F17⟩ := c.def_ 17 (d := d_law_runs) rfl
  obtain ⟨fd18, F18⟩ := c.def_ 18 (d := d_law_all) rfl
  obtain ⟨fd19, F19⟩ := c.def_ 19 (d := d_law) rfl
  have b := FunD.bindsA (ps := P_law) F19 fun _ _ _ _ _ _ us hl => match us, hl with | [_], _ => rfl
  refine ⟨fd19, fun s v => b s [v] rfl, fun base hT => ?_⟩
  have m0 := He.glo_ok X G (c.fact 0 (f := .glo "is_whole") rfl)
  have m1 := He.glo_ok X G (c.fact 1 (f := .glo "is_stretch") rfl)
  have m2 := He.glo_ok X G (c.fact 2 (f := .glo "is_lot") rfl)
  have m3 := He.glo_ok X G (c.fact 3 (f := .glo "lot_of") rfl)
  have m4 := He.glo_ok X G (c.fact 4 (f := .glo "joined") rfl)
  have m5 := He.glo_ok X G (c.fact 5 (f := .glo "rest_of") rfl)
  have m6 := He.glo_ok X G (c.fact 6 (f := .glo "shared_part") rfl)
  have m7 := He.glo_ok X G (c.fact 7 (f := .glo "both") rfl)
  have m8 := He.glo_ok X G (c.fact 8 (f := .glo "without") rfl)
  have m9 := He.glo_ok X G (c.fact 9 (f := .glo "has") rfl)
  have m10 := He.glo_ok X G (c.fact 10 (f := .glo "size_of") rfl)
  have m11 := He.glo_ok X G (c.fact 11 (f := .glo "meets") rfl)
  have m12 := He.glo_ok X G (c.fact 12 (f := .glo "_law_draw") rfl)
  have m13 := He.glo_ok X G (c.fact 13 (f := .glo "_law_begun") rfl)
  have m14 := He.glo_ok X G (c.fact 14 (f := .glo "_law_is") rfl)
  have m15 := He.glo_ok X G (c.fact 15 (f := .glo "_law_cover") rfl)
  have m16 := He.glo_ok X G (c.fact 16 (f := .glo "_law_a_stretch") rfl)
  have m17 := He.glo_ok X G (c.fact 17 (f := .glo "_law_runs") rfl)
  have m18 := He.glo_ok X G (c.fact 18 (f := .glo "_law_all") rfl)
  have G0 : FnOk P w K mg base (L2.CX P w) 1 _ fd0 P_is_whole (spF T K g_whole) := fn_ok (P := ck N_is_whole F_is_whole) (C := CC) (N := 100) F0 (stat hb sc_is_whole.nd fun f x n ks e => by simp [F_is_whole] at e) sc_is_whole c_is_whole (g_len1 fun L ws S z => by unfold g_whole; split <;> first | exact absurd rfl z | rfl) r_whole
  obtain ⟨mv0, hKB0⟩ := F0.kbinds0 (ps := P_is_whole) 1 ["least"] [] (fun us _ ws => us ++ ws) (List.cons_ne_nil _ _) (fun q hq => by cases hq) (fun r1 _ r3 => r1.append r3) fun D doc pm an cdv ct us mv ws h1 h2 h3 => match us, mv, ws, h1, h2, h3 with | [_], [], [_], _, _, _ => rfl
  have A0 : FunAt P w K mg base T CC 1 0 "is_whole" 1 ["least"] := FunAt.kwd G0 m0 F0.kp hKB0 fun vs zs H Q E h _ _ => h
  obtain ⟨ds0, hds0, hB0⟩ := F0.binds0 (ps := P_is_whole) 1 (List.cons_ne_nil _ _) rfl fun D doc pm an cdv ct us ks h1 h2 => match us, ks, h1, h2 with | [_], [_], _, _ => ⟨_, _, _, _, _, _, rfl, rfl, rfl⟩
  have A1 : FunAt P w K mg base T CC 1 1 "is_whole" 1 [] := FunAt.dflt (dvs := [.int 0]) G0 m0 F0.kp hds0 hB0 rfl fun vs H Q E ⟨L, F, μ, S, ws, sr, r, h⟩ hl => by
    match vs, hl with
    | [v], _ =>
      obtain ⟨u, rfl, r1⟩ := RWs.inv1 r
      exact ⟨L, F, μ, S, [u, .int 0], sr, .cons r1 (.cons (.int 0) .nil), h⟩
  have G5 : FnOk P w K mg base (L2.CX P w) 1 _ fd5 P_rest_of (spF T K g_rest) := fn_ok (P := ck N_rest_of F_rest_of) (C := CC) (N := 100) F5 (stat hb sc_rest_of.nd fun f x n ks e => by simp [F_rest_of] at e) sc_rest_of c_rest_of (g_len1 fun L ws S z => by unfold g_rest; split <;> first | exact absurd rfl z | rfl) r_rest
  have A14 : FunAt P w K mg base T CC 1 14 "rest_of" 1 [] := FunAt.plain G5 m5 F5.kp (F5.bindsN (ps := P_rest_of) fun _ _ _ _ _ _ us hl => match us, hl with | [_], _ => rfl) rfl
  have G6 : FnOk P w K mg base (L2.CX P w) 1 _ fd6 P_shared_part (spF T K g_shared) := fn_ok (P := ck N_shared_part F_shared_part) (C := CC) (N := 100) F6 (stat hb sc_shared_part.nd fun f x n ks e => by simp [F_shared_part] at e) sc_shared_part c_shared_part (g_len1 fun L ws S z => by unfold g_shared; split <;> first | exact absurd rfl z | rfl) r_shared
  have A12 : FunAt P w K mg base T CC 1 12 "shared_part" 2 [] := FunAt.plain G6 m6 F6.kp (F6.bindsN (ps := P_shared_part) fun _ _ _ _ _ _ us hl => match us, hl with | [_, _], _ => rfl) rfl
  have G9 : FnOk P w K mg base (L2.CX P w) 1 _ fd9 P_has (spF T K g_has) := fn_ok (P := ck N_has F_has) (C := CC) (N := 100) F9 (stat hb sc_has.nd fun f x n ks e => by simp [F_has] at e) sc_has c_has (g_len1 fun L ws S z => by unfold g_has; split <;> first | exact absurd rfl z | rfl) r_has
  have A19 : FunAt P w K mg base T CC 1 19 "has" 2 [] := FunAt.plain G9 m9 F9.kp (F9.bindsN (ps := P_has) fun _ _ _ _ _ _ us hl => match us, hl with | [_, _], _ => rfl) rfl
  have G10 : FnOk P w K mg base (L2.CX P w) 1 _ fd10 P_size_of (spF T K g_size) := fn_ok (P := ck N_size_of F_size_of) (C := CC) (N := 100) F10 (stat hb sc_size_of.nd fun f x n ks e => by simp [F_size_of] at e) sc_size_of c_size_of (g_len1 fun L ws S z => by unfold g_size; split <;> first | exact absurd rfl z | rfl) r_size
  have A15 : FunAt P w K mg base T CC 1 15 "size_of" 1 [] := FunAt.plain G10 m10 F10.kp (F10.bindsN (ps := P_size_of) fun _ _ _ _ _ _ us hl => match us, hl with | [_], _ => rfl) rfl
  have G12 : FnOk P w K mg base (L2.CX P w) 1 _ fd12 P_law_draw (spF T K g_draw) := fn_ok (P := ck N_law_draw F_law_draw) (C := CC) (N := 100) F12 (stat hb sc_law_draw.nd fun f x n ks e => by simp [F_law_draw] at e) sc_law_draw c_law_draw (g_len1 fun L ws S z => by unfold g_draw; split <;> first | exact absurd rfl z | rfl) r_draw
  have A3 : FunAt P w K mg base T CC 1 3 "_law_draw" 3 [] := FunAt.plain G12 m12 F12.kp (F12.bindsN (ps := P_law_draw) fun _ _ _ _ _ _ us hl => match us, hl with | [_, _, _], _ => rfl) rfl
  have G13 : FnOk P w K mg base (L2.CX P w) 1 _ fd13 P_law_begun (spF T K g_begun) := fn_ok (P := ck N_law_begun F_law_begun) (C := CC) (N := 100) F13 (stat hb sc_law_begun.nd fun f x n ks e => by simp [F_law_begun] at e) sc_law_begun c_law_begun (g_len1 fun L ws S z => by unfold g_begun; split <;> first | exact absurd rfl z | rfl) r_begun
  have A10 : FunAt P w K mg base T CC 1 10 "_law_begun" 0 [] := FunAt.plain G13 m13 F13.kp (F13.bindsN (ps := P_law_begun) fun _ _ _ _ _ _ us hl => match us, hl with | [], _ => rfl) rfl
  have G14 : FnOk P w K mg base (L2.CX P w) 1 _ fd14 P_law_is (spF T K g_is) := fn_ok (P := ck N_law_is F_law_is) (C := CC) (N := 100) F14 (stat hb sc_law_is.nd fun f x n ks e => by simp [F_law_is] at e) sc_law_is c_law_is (g_len1 fun L ws S z => by unfold g_is; split <;> first | exact absurd rfl z | rfl) r_is
  have A5 : FunAt P w K mg base T CC 1 5 "_law_is" 2 [] := FunAt.plain G14 m14 F14.kp (F14.bindsN (ps := P_law_is) fun _ _ _ _ _ _ us hl => match us, hl with | [_, _], _ => rfl) rfl
  have G15 : FnOk P w K mg base (L2.CX P w) 1 _ fd15 P_law_cover (spF T K g_cover) := fn_ok (P := ck N_law_cover F_law_cover) (C := CC) (N := 100) F15 (stat hb sc_law_cover.nd fun f x n ks e => by simp [F_law_cover] at e) sc_law_cover c_law_cover (g_len1 fun L ws S z => by unfold g_cover; split <;> first | exact absurd rfl z | rfl) r_cover
  have A9 : FunAt P w K mg base T CC 1 9 "_law_cover" 1 [] := FunAt.plain G15 m15 F15.kp (F15.bindsN (ps := P_law_cover) fun _ _ _ _ _ _ us hl => match us, hl with | [_], _ => rfl) rfl
  have G17 : FnOk P w K mg base (L2.CX P w) 1 _ fd17 P_law_runs (spF T K g_runs) := fn_ok (P := ck N_law_runs F_law_runs) (C := CC) (N := 100) F17 (stat hb sc_law_runs.nd fun f x n ks e => by simp [F_law_runs] at e) sc_law_runs c_law_runs (g_len1 fun L ws S z => by unfold g_runs; split <;> first | exact absurd rfl z | rfl) r_runs
  have A8 : FunAt P w K mg base T CC 1 8 "_law_runs" 1 [] := FunAt.plain G17 m17 F17.kp (F17.bindsN (ps := P_law_runs) fun _ _ _ _ _ _ us hl => match us, hl with | [_], _ => rfl) rfl
  have G1 : FnOk P w K mg base (L2.CX P w) 2 _ fd1 P_is_stretch (spF T K g_stretch) := fn_ok (P := ck N_is_stretch F_is_stretch) (C := CC) (N := 100) F1 (stat hb sc_is_stretch.nd fun f x n ks e => match f, e with
    | 0, e => by cases e; exact A0
    | 1, e => by cases e; exact A1
    | f + 2, e => by cases e) sc_is_stretch c_is_stretch (g_len1 fun L ws S z => by unfold g_stretch; split <;> first | exact absurd rfl z | rfl) r_stretch
  have A2 : FunAt P w K mg base T CC 2 2 "is_stretch" 1 [] := FunAt.plain G1 m1 F1.kp (F1.bindsN (ps := P_is_stretch) fun _ _ _ _ _ _ us hl => match us, hl with | [_], _ => rfl) rfl
  have G11 : FnOk P w K mg base (L2.CX P w) 2 _ fd11 P_meets (spF T K g_meets) := fn_ok (P := ck N_meets F_meets) (C := CC) (N := 100) F11 (stat hb sc_meets.nd fun f x n ks e => match f, e with
    | 0, e => by cases e
    | 1, e => by cases e
    | 2, e => by cases e
    | 3, e => by cases e
    | 4, e => by cases e
    | 5, e => by cases e
    | 6, e => by cases e
    | 7, e => by cases e
    | 8, e => by cases e
    | 9, e => by cases e
    | 10, e => by cases e
    | 11, e => by cases e
    | 12, e => by cases e; exact A12
    | f + 13, e => by cases e) sc_meets c_meets (g_len1 fun L ws S z => by unfold g_meets; split <;> first | exact absurd rfl z | rfl) r_meets
  have A16 : FunAt P w K mg base T CC 2 16 "meets" 2 [] := FunAt.plain G11 m11 F11.kp (F11.bindsN (ps := P_meets) fun _ _ _ _ _ _ us hl => match us, hl with | [_, _], _ => rfl) rfl
  have G16 : FnOk P w K mg base (L2.CX P w) 2 _ fd16 P_law_a_stretch (spF T K g_astretch) := fn_ok (P := ck N_law_a_stretch F_law_a_stretch) (C := CC) (N := 100) F16 (stat hb sc_law_a_stretch.nd fun f x n ks e => match f, e with
    | 0, e => by cases e
    | 1, e => by cases e
    | 2, e => by cases e
    | 3, e => by cases e; exact A3
    | f + 4, e => by cases e) sc_law_a_stretch c_law_a_stretch (g_len1 fun L ws S z => by unfold g_astretch; split <;> first | exact absurd rfl z | rfl) r_astretch
  have A7 : FunAt P w K mg base T CC 2 7 "_law_a_stretch" 2 [] := FunAt.plain G16 m16 F16.kp (F16.bindsN (ps := P_law_a_stretch) fun _ _ _ _ _ _ us hl => match us, hl with | [_, _], _ => rfl) rfl
  have G18 : FnOk P w K mg base (L2.CX P w) 2 _ fd18 P_law_all (spF T K g_all) := fn_ok (P := ck N_law_all F_law_all) (C := CC) (N := 100) F18 (stat hb sc_law_all.nd fun f x n ks e => match f, e with
    | 0, e => by cases e
    | 1, e => by cases e
    | 2, e => by cases e
    | 3, e => by cases e
    | 4, e => by cases e
    | 5, e => by cases e
    | 6, e => by cases e
    | 7, e => by cases e
    | 8, e => by cases e
    | 9, e => by cases e; exact A9
    | f + 10, e => by cases e) sc_law_all c_law_all (g_len1 fun L ws S z => by unfold g_all; split <;> first | exact absurd rfl z | rfl) r_all
  have A21 : FunAt P w K mg base T CC 2 21 "_law_all" 1 [] := FunAt.plain G18 m18 F18.kp (F18.bindsN (ps := P_law_all) fun _ _ _ _ _ _ us hl => match us, hl with | [_], _ => rfl) rfl
  have G2 : FnOk P w K mg base (L2.CX P w) 3 _ fd2 P_is_lot (spF T K g_lot) := fn_ok (P := ck N_is_lot F_is_lot) (C := CC) (N := 100) F2 (stat hb sc_is_lot.nd fun f x n ks e => match f, e with
    | 0, e => by cases e
    | 1, e => by cases e
    | 2, e => by cases e; exact A2
    | f + 3, e => by cases e) sc_is_lot c_is_lot (g_len1 fun L ws S z => by unfold g_lot; split <;> first | exact absurd rfl z | rfl) r_lot
  have A4 : FunAt P w K mg base T CC 3 4 "is_lot" 1 [] := FunAt.plain G2 m2 F2.kp (F2.bindsN (ps := P_is_lot) fun _ _ _ _ _ _ us hl => match us, hl with | [_], _ => rfl) rfl
  have L3 : ∃ c Pa, fd3.code = .ref c ∧ LamX.TabB base mg c Pa ∧ (Pa, (("lot_of" : PySem.Str) ++ ".<locals>.") ++ "<lambda>") ∈ T.tabs K ∧ ∀ p ∈ T.tabs K, p.1 = Pa → p.2 = (("lot_of" : PySem.Str) ++ ".<locals>.") ++ "<lambda>" := by
    obtain ⟨oc, od, dV, kV, doc, pm, an, cdv, ct, osl, e, lk, hcd, _, _⟩ := F3.ex
    subst e
    obtain ⟨c, hc⟩ := He.codeIn_ref hcd
    have hq : He.codeOf K ("lot_of", none) = c := He.codeOf_eq lk hc
    have ht := hT (He.cT K ("lot_of", none)) (List.mem_map_of_mem (by simp [tf]))
    have e1 : (He.cT K ("lot_of", none)).1 = c := hq
    rw [e1] at ht
    refine ⟨c, _, hc, ht, List.mem_singleton.mpr rfl, fun p hp z => ?_⟩
    rw [List.mem_singleton.mp hp]; rfl
  have G3 : FnOk P w K mg base (L2.CX P w) 4 _ fd3 P_lot_of (spF T K g_lotof) := fn_okL (P := ckL N_lot_of F_lot_of) (C := CC) (N := 100) F3 (statL hb sc_lot_of.nd fun f x n ks e => by simp [F_lot_of] at e) sc_lot_of c_lot_of (fun _ => L3) (g_len1 fun L ws S z => by unfold g_lotof; split <;> first | exact absurd rfl z | rfl) r_lotof
  have A11 : FunAt P w K mg base T CC 4 11 "lot_of" 1 [] := FunAt.plain G3 m3 F3.kp (F3.bindsN (ps := P_lot_of) fun _ _ _ _ _ _ us hl => match us, hl with | [_], _ => rfl) rfl
  have B20 := kbindsN (ps := P_lot_of) F3 0 ["stretches"] (fun _ ws => ws) (fun _ r => r) fun _ _ _ _ _ _ us ws h1 h2 => match us, ws, h1, h2 with | [], [_], _, _ => rfl
  have A20 : FunAt P w K mg base T CC 4 20 "lot_of" 0 ["stretches"] := FunAt.kwd G3 m3 F3.kp B20 fun vs zs H Q E h h1 _ => by rw [List.length_eq_zero_iff.mp h1] at h; exact h
  have G4 : FnOk P w K mg base (L2.CX P w) 5 _ fd4 P_joined (spF T K g_joined) := fn_ok (P := ck N_joined F_joined) (C := CC) (N := 100) F4 (stat hb sc_joined.nd fun f x n ks e => match f, e with
    | 0, e => by cases e
    | 1, e => by cases e
    | 2, e => by cases e
    | 3, e => by cases e
    | 4, e => by cases e
    | 5, e => by cases e
    | 6, e => by cases e
    | 7, e => by cases e
    | 8, e => by cases e
    | 9, e => by cases e
    | 10, e => by cases e
    | 11, e => by cases e; exact A11
    | f + 12, e => by cases e) sc_joined c_joined (g_len1 fun L ws S z => by unfold g_joined; split <;> first | exact absurd rfl z | rfl) r_joined
  have A18 : FunAt P w K mg base T CC 5 18 "joined" 2 [] := FunAt.plain G4 m4 F4.kp (F4.bindsN (ps := P_joined) fun _ _ _ _ _ _ us hl => match us, hl with | [_, _], _ => rfl) rfl
  have G7 : FnOk P w K mg base (L2.CX P w) 5 _ fd7 P_both (spF T K g_both) := fn_ok (P := ck N_both F_both) (C := CC) (N := 100) F7 (stat hb sc_both.nd fun f x n ks e => match f, e with
    | 0, e => by cases e
    | 1, e => by cases e
    | 2, e => by cases e
    | 3, e => by cases e
    | 4, e => by cases e
    | 5, e => by cases e
    | 6, e => by cases e
    | 7, e => by cases e
    | 8, e => by cases e
    | 9, e => by cases e
    | 10, e => by cases e
    | 11, e => by cases e; exact A11
    | 12, e => by cases e; exact A12.mono (by decide)
    | f + 13, e => by cases e) sc_both c_both (g_len1 fun L ws S z => by unfold g_both; split <;> first | exact absurd rfl z | rfl) r_both
  have A13 : FunAt P w K mg base T CC 5 13 "both" 2 [] := FunAt.plain G7 m7 F7.kp (F7.bindsN (ps := P_both) fun _ _ _ _ _ _ us hl => match us, hl with | [_, _], _ => rfl) rfl
  have G8 : FnOk P w K mg base (L2.CX P w) 6 _ fd8 P_without (spF T K g_without) := fn_ok (P := ck N_without F_without) (C := CC) (N := 100) F8 (stat hb sc_without.nd fun f x n ks e => match f, e with
    | 0, e => by cases e
    | 1, e => by cases e
    | 2, e => by cases e
    | 3, e => by cases e
    | 4, e => by cases e
    | 5, e => by cases e
    | 6, e => by cases e
    | 7, e => by cases e
    | 8, e => by cases e
    | 9, e => by cases e
    | 10, e => by cases e
    | 11, e => by cases e
    | 12, e => by cases e
    | 13, e => by cases e; exact A13
    | 14, e => by cases e; exact A14.mono (by decide)
    | f + 15, e => by cases e) sc_without c_without (g_len1 fun L ws S z => by unfold g_without; split <;> first | exact absurd rfl z | rfl) r_without
  have A17 : FunAt P w K mg base T CC 6 17 "without" 2 [] := FunAt.plain G8 m8 F8.kp (F8.bindsN (ps := P_without) fun _ _ _ _ _ _ us hl => match us, hl with | [_, _], _ => rfl) rfl
  have G19 : FnOk P w K mg base (L2.CX P w) 7 _ fd19 P_law (spF T K g_law) := fn_ok (P := ck N_law F_law) (C := CC) (N := 100) F19 (stat hb sc_law.nd fun f x n ks e => match f, e with
    | 0, e => by cases e
    | 1, e => by cases e
    | 2, e => by cases e
    | 3, e => by cases e; exact A3.mono (by decide)
    | 4, e => by cases e; exact A4.mono (by decide)
    | 5, e => by cases e; exact A5.mono (by decide)
    | 6, e => by cases e
    | 7, e => by cases e; exact A7.mono (by decide)
    | 8, e => by cases e; exact A8.mono (by decide)
    | 9, e => by cases e; exact A9.mono (by decide)
    | 10, e => by cases e; exact A10.mono (by decide)
    | 11, e => by cases e; exact A11.mono (by decide)
    | 12, e => by cases e
    | 13, e => by cases e; exact A13.mono (by decide)
    | 14, e => by cases e
    | 15, e => by cases e; exact A15.mono (by decide)
    | 16, e => by cases e; exact A16.mono (by decide)
    | 17, e => by cases e; exact A17
    | 18, e => by cases e; exact A18.mono (by decide)
    | 19, e => by cases e; exact A19.mono (by decide)
    | 20, e => by cases e; exact A20.mono (by decide)
    | 21, e => by cases e; exact A21.mono (by decide)
    | f + 22, e => by cases e) sc_law c_law (g_len1 fun L ws S z => by unfold g_law; split <;> first | exact absurd rfl z | rfl) r_law
  exact G19
theorem law_sp {a : Addr} {H : Hp} {ns : List Int} (hT : ∀ p ∈ cs K, H p.2 = some (.tbl #[])) (hS : SqL K H a (ns.map V.int)) {E : XK} : spF T K g_law [.ref a] H (fun v _ => v = .bl true) E := by
  refine ⟨[], noTbl H, [], [], [.scr ns], ⟨rfl, List.nodup_nil, (noTbl_sub H), fun n nd a e => by simp at e, (fun p hp => by rw [List.mem_singleton.mp hp]; exact LamX.TabS.nil (hT _ (List.mem_map_of_mem (by simp [tf])))), fun n hn => (by cases hn), (noTbl_ft H)⟩, .cons (.scr (sqL_noTbl hS)) .nil, ?_⟩
  exact fun F' μ' H' v x s r => r.bl_inv
end
end K01
open PySem PySem.W PySem.Calls PyProof.Rows
theorem PySem.Challenge.cw_lockstretch_k01_lots_holds : PySem.Challenge.rw_lockstretch_k01_lots.Holds := by
  w_on; o_law
  refine HandSHeadRun.head_any (r := OpenLaw.row PySem.Challenge.rw_lockstretch_k01_lots) (q := view (OpenLaw.row PySem.Challenge.rw_lockstretch_k01_lots).prog [21]) (H := K01.hk) (ob := K01.ob) (M := 20000) (loose := K01.loose) (d := HandSHeadRun.topDef (OpenLaw.row PySem.Challenge.rw_lockstretch_k01_lots).prog 21) (kwd := []) K01.ob_eq
    (by kernel_rfl) (fun s => by kernel_rfl) K01.run (by kernel_rfl) (by kernel_rfl) (by kernel_rfl) (by rfl) (by first | assumption | decide +kernel) (by decide +kernel) ⟨rfl, rfl, rfl, rfl, rfl, by decide +kernel⟩ ?hw ?hc
  case hw => w_witness2
  case hc =>
    refine LamX.walk_ofTsE (l := PySem.Challenge.rw_lockstretch_k01_lots) (n := 63) (k := 7) (x := "_law_script") (CX := fun w => L2.CX PySem.Challenge.rw_lockstretch_k01_lots.prog w) rfl (by decide) (by kernel_rfl) ⟨rfl, by decide, by decide⟩ ?F (fun w H s e s' z => by obtain ⟨_, _, _, _, _, _, _, _, _, _, _, _, z⟩ := z; exact z)
    intro w mg fa h Y G hmg0
    obtain ⟨K, KX, c⟩ := Y
    have hmg : mg ("law" : PySem.Str) = some (.ref fa) := by
      have e : (HandSHeadRun.topDef (OpenLaw.row PySem.Challenge.rw_lockstretch_k01_lots).prog 21).name = ("law" : PySem.Str) := by kernel_rfl
      rw [← e]
      exact hmg0
    obtain ⟨fd, hb, hF⟩ := K01.facts (P := PySem.Challenge.rw_lockstretch_k01_lots.prog) (w := w) KX G hmg c.t.d
    refine ⟨K, KX, fd, K01.cs K, Mi.spF K01.T K K01.g_law, fun p hp => ?_, fun p hp => ?_, fun p hp => ?_, hb, ?_, ?_⟩
    · obtain ⟨q, hq, rfl⟩ := List.mem_map.mp hp
      exact c.empty q hq
    · obtain ⟨q, hq, rfl⟩ := List.mem_map.mp hp
      exact c.out q hq
    · obtain ⟨q, hq, rfl⟩ := List.mem_map.mp hp
      exact PySem.W.codeHd_of_K KX (c.hd q hq)
    · exact fun H a ns _ _ hH hS => K01.law_sp hH hS
    · exact fun base _ _ hT => hF base hT

