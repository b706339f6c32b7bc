import PyProof.Rows.All
import Wide.All
import OpenK.AllK
import Wide.FinOn
import HandS.ForMost
import KE.DataEq
import KE.SortData
import HandS.AnyAll
import HandS.Exc
import HandS.TupMul
import HandS.TupAny
import HandS.IsInst
import HandS.RaiseOp
import KE.KStar
import KE.KMathG
import HandS.Ends
import KE.KUnpack
import HandS.Comp
import KE.GoesRev
import KE.GoesEnum
import KE.GoesCell
import KE.KItem
import HandS.List
import PyProof.WalkInts
import PyProof.SeqI3
import HandS.SetFor
import HandS.Set
import PyProof.SetRoads
import PyProof.SeqIndex
import KE.KLam
import KE.SortUse
import HandS.Defaults
import HandS.EndTab
import HandS.HeadHook4
import HandS.Head0
import HandS.Head1
import HandS.Head2
import HandS.HeadHook1
import HandS.HeadHook2
import HandS.HeadHook3
import HandS.Head3
import PySem.Challenge.RW_eventcore_k58_whole_two_in_a_row
-- M1
set_option Elab.async false
set_option linter.all false
set_option maxRecDepth 100000
/-! Mini 1: a small language over data, its runs. -/
namespace Mini
open PySem

inductive Bop | add | sub | mul | fdiv | mod | pow
  deriving DecidableEq
inductive Cop | eq | ne | lt | le | gt | ge | is | isnot | isin | notin
  deriving DecidableEq
inductive Bi | len | int | tuple | list | sorted | sum | max | min | max2 | min2 | abs
  deriving DecidableEq
inductive Mf | gcd | lcm
  deriving DecidableEq
inductive Gb | all | any | sum | max | min
  deriving DecidableEq
inductive Ty | int | bool | str | tuple | list
  deriving DecidableEq

/-- expressions, argument lists, what a loop walks -/
inductive E
  | var (i : Nat) | lit (d : PyData) | con (x : Str) (d : PyData)
  | bin (o : Bop) (a b : E) | neg (a : E) | not (a : E) | and (a b : E) | or (a b : E)
  | cmp (o : Cop) (a b : E) | chain (o1 o2 : Cop) (a b c : E) | ite (c a b : E)
  | idx (a i : E) | slc (a lo hi : E) | none
  | tup (es : E) | lst (es : E) | nil | cons (e es : E) | star (e es : E)
  | lc (it : E) (tg : List Nat) (one : Bool) (c elt : E)
  | src (a : E) | rng1 (a : E) | rng2 (a b : E) | rng3 (a b : E) (c : Int) | enum (a : E)
  | lrng (a : E) | mf (m : Mf) (es : E)
  | index (a x : E) | lenset (a : E) | srtset (a : E) | skey (a : E) (i : Nat) (f : E)
  | call (f : Nat) (es : E) | bi (b : Bi) (es : E) | isi (a : E) (t : Ty) | isis (a : E) (ts : List Ty)
  | gen (b : Gb) (it : E) (tg : List Nat) (one : Bool) (c elt : E)

/-- statements -/
inductive S
  | pass | asg (i : Nat) (e : E) | unp (is : List Nat) (e : E) | par (is : List Nat) (es : E)
  | sset (i : Nat) (ix e : E) | app (i : Nat) (e : E) | ex (e : E)
  | ite (c : E) (a b : S) | seq (a b : S) | for (it : E) (tg : List Nat) (one : Bool) (b : S)
  | whl (c : E) (b : S) | ret (e : E) | retn | brk | cnt | bad

/-- a slot's content: data that stays; a list of its own -/
inductive W
  | d (x : PyData) | own (xs : List PyData)
abbrev Env := List (Option W)
/-- what an expression gives: a thing of its own; what stands in a slot -/
inductive R
  | v (w : W) | pl (i : Nat)

def W.data : W → PyData
  | .d x => x
  | .own xs => .list xs
def get (e : Env) (i : Nat) : Option W := (e[i]?).bind id
def R.w (e : Env) : R → Option W
  | .v w => some w
  | .pl i => get e i
def R.data (e : Env) (r : R) : Option PyData := (r.w e).map W.data

/-- n ≤ 16777216, said so that nothing counts that far -/
def szOk (n : Nat) : Bool := decide ((n - 1) / 1048576 < 16)
def binop : Bop → PyData → PyData → Option W
  | .add, .int i, .int j => some (.d (.int (i + j)))
  | .sub, .int i, .int j => some (.d (.int (i - j)))
  | .mul, .int i, .int j => if Builtin.Int.intBits j ≤ 64 ∨ Builtin.Int.intBits i ≤ 64 then some (.d (.int (i * j))) else none
  | .fdiv, .int i, .int j => if j ≠ 0 ∧ j.natAbs / 1073741824 < 1073741824 then some (.d (.int (i.fdiv j))) else none
  | .mod, .int i, .int j => if j ≠ 0 then some (.d (.int (i.fmod j))) else none
  | .pow, .int i, .int j => if 0 ≤ j ∧ j ≤ 1000 ∧ i.natAbs < 65536 then some (.d (.int (i ^ j.toNat))) else none
  | .add, .list a, .list b => if szOk (a.length + b.length) then some (.own (a ++ b)) else none
  | .add, .tuple a, .tuple b => if szOk (a.length + b.length) then some (.d (.tuple (a ++ b))) else none
  | .mul, .list a, .int j => if szOk (a.length * j.toNat) ∧ j < 1000000 ∧ -1000000 < j then some (.own (List.replicate j.toNat a).flatten) else none
  | .mul, .tuple a, .int j => if 0 < a.length ∧ a.length ≤ 1000 ∧ -1000 ≤ j ∧ j ≤ 1000 then some (.d (.tuple (List.replicate j.toNat a).flatten)) else none
  | _, _, _ => none
def cmpop : Cop → PyData → PyData → Option Bool
  | .lt, .int i, .int j => some (decide (i < j))
  | .le, .int i, .int j => some (decide (i ≤ j))
  | .gt, .int i, .int j => some (decide (j < i))
  | .ge, .int i, .int j => some (decide (j ≤ i))
  | .eq, .int i, .int j => some (i == j)
  | .ne, .int i, .int j => some (!(i == j))
  | .eq, a, b => if a.depth ≤ 100 ∨ b.depth ≤ 100 then some (PyData.eqv a b) else none
  | .ne, a, b => if a.depth ≤ 100 ∨ b.depth ≤ 100 then some (!PyData.eqv a b) else none
  | .is, .none, .none => some true
  | .is, _, .none => some false
  | .isnot, .none, .none => some false
  | .isnot, _, .none => some true
  | .isin, a, .list xs => if a.depth ≤ 100 ∨ PyData.depthAll xs ≤ 100 then some (xs.any fun x => PyData.eqv x a) else none
  | .isin, a, .tuple xs => if a.depth ≤ 100 ∨ PyData.depthAll xs ≤ 100 then some (xs.any fun x => PyData.eqv x a) else none
  | .notin, a, .list xs => if a.depth ≤ 100 ∨ PyData.depthAll xs ≤ 100 then some (!xs.any fun x => PyData.eqv x a) else none
  | .notin, a, .tuple xs => if a.depth ≤ 100 ∨ PyData.depthAll xs ≤ 100 then some (!xs.any fun x => PyData.eqv x a) else none
  | _, _, _ => none
def truth : PyData → Option Bool
  | .none => some false
  | .bool b => some b
  | .int i => some (i != 0)
  | .list xs => some (!xs.isEmpty)
  | .tuple xs => some (!xs.isEmpty)
  | _ => none
def index : PyData → PyData → Option PyData
  | .list xs, .int i => L2.atI xs i
  | .tuple xs, .int i => L2.atI xs i
  | _, _ => none
/-- a slice's end -/
def part : PyData → Option (Option Int)
  | .none => some Option.none
  | .int i => some (some i)
  | _ => Option.none
def cut (xs : List PyData) (lo hi : Option Int) : List PyData := (xs.drop (HT.sIx xs.length 0 lo)).take (HT.sIx xs.length xs.length hi - HT.sIx xs.length 0 lo)
def slice : PyData → PyData → PyData → Option W
  | .list xs, lo, hi => (part lo).bind fun a => (part hi).map fun b => .own (cut xs a b)
  | .tuple xs, lo, hi => (part lo).bind fun a => (part hi).map fun b => .d (.tuple (cut xs a b))
  | _, _, _ => Option.none
def intsOf : List PyData → Option (List Int)
  | [] => some []
  | .int i :: r => (intsOf r).map fun l => i :: l
  | _ => none
def isTy : Ty → PyData → Bool
  | .int, .int _ => true
  | .int, .bool _ => true
  | .bool, .bool _ => true
  | .str, .str _ => true
  | .tuple, .tuple _ => true
  | .list, .list _ => true
  | _, _ => false
/-- the items of a list or a tuple -/
def items : PyData → Option (List PyData)
  | .list xs => some xs
  | .tuple xs => some xs
  | _ => none
def maxI : Int → List Int → Int
  | m, [] => m
  | m, x :: r => maxI (if m < x then x else m) r
def minI : Int → List Int → Int
  | m, [] => m
  | m, x :: r => minI (if x < m then x else m) r
def extr (f : Int → List Int → Int) (xs : List PyData) : Option PyData := (intsOf xs).bind fun
  | [] => none
  | x :: r => some (.int (f x r))
/-- things of one kind, so that they have an order -/
def sortOk (xs : List PyData) : Bool := szOk xs.length && ((xs.all fun d => xs.all fun d' => PySem.W.alike d d') && ((xs.all (fun | .tuple (_ :: _) => true | _ => false) || xs.all (fun | .none => false | .tuple _ => false | _ => true)) && xs.all fun d => decide (d.depth ≤ 100)))
def sortD (xs : List PyData) : List PyData := xs.mergeSort (PySem.W.dataLe false id)
def builtin : Bi → List PyData → Option W
  | .len, [x] => (items x).map fun xs => .d (.int xs.length)
  | .int, [.int i] => some (.d (.int i))
  | .tuple, [x] => (items x).map fun xs => .d (.tuple xs)
  | .list, [x] => (items x).map fun xs => .own xs
  | .sum, [x] => (items x).bind fun xs => (intsOf xs).map fun l => .d (.int l.sum)
  | .max, [x] => (items x).bind fun xs => (extr maxI xs).map .d
  | .min, [x] => (items x).bind fun xs => (extr minI xs).map .d
  | .sorted, [.list xs] => if sortOk xs then some (.own (sortD xs)) else none
  | .sorted, [.tuple xs] => if (intsOf xs).isSome && sortOk xs then some (.own (sortD xs)) else none
  | .max2, [.int i, .int j] => some (.d (.int (if i < j then j else i)))
  | .min2, [.int i, .int j] => some (.d (.int (if j < i then j else i)))
  | .abs, [.int i] => some (.d (.int (if i < 0 then -i else i)))
  | _, _ => none

/-- of the module math -/
def mathf : Mf → List PyData → Option PyData
  | .gcd, [.int i, .int j] => some (.int (Nat.gcd i.natAbs j.natAbs : Nat))
  | .lcm, [.int i, .int j] => if i.natAbs < 1073741824 ∧ j.natAbs < 1073741824 then some (.int (Nat.lcm i.natAbs j.natAbs : Nat)) else none
  | _, _ => none
/-- a row of whole numbers -/
def intsIn (d : PyData) : Option (List Int) := (items d).bind intsOf
/-- the first place of a number -/
def indexD (d y : PyData) : Option PyData := (intsIn d).bind fun l => match y with
  | .int k => if k ∈ l ∧ szOk l.length = true then some (.int (l.idxOf k : Nat)) else none
  | _ => none
def isTupD : PyData → Bool
  | .tuple _ => true
  | _ => false
def insI (x : Int) : List Int → List Int
  | [] => [x]
  | y :: r => if x < y then x :: y :: r else if x = y then y :: r else y :: insI x r
/-- distinct, ascending -/
def setI (l : List Int) : List Int := l.foldr insI []
def setD (d : PyData) : Option (List Int) := if isTupD d then (intsIn d).bind fun l => if l.length < 60 then some (setI l) else none else none
/-- a range downwards -/
def rngD (a b : Int) : List PyData := (List.range (a - b).toNat).map fun (k : Nat) => .int (a + k * (-1))
/-- calls of the program's defs: as they are; ahead of a generator expression's elements -/
structure Cf where
  q : Bool
  call : Nat → List W → Option (W × List W)
  qcall : Nat → List W → Option (W × List W)
def Cf.quiet (c : Cf) : Cf := ⟨true, c.qcall, fun _ _ => none⟩

/-- the places that hold a list of their own -/
def owned (e : Env) : List R → List Nat
  | [] => []
  | .pl i :: r => match get e i with
    | some (.own _) => i :: owned e r
    | _ => owned e r
  | _ :: r => owned e r
def back : List R → List W → Env → Env
  | .pl i :: r, .own xs :: ws, e => match get e i with
    | some (.own _) => back r ws (e.set i (some (.own xs)))
    | _ => back r ws e
  | _ :: r, _ :: ws, e => back r ws e
  | _, _, e => e
/-- what came back holds a list where one went -/
def keptOwn : List W → List W → Bool
  | .own _ :: r, .own _ :: r' => keptOwn r r'
  | .own _ :: _, _ => false
  | .d _ :: r, _ :: r' => keptOwn r r'
  | [], [] => true
  | _, _ => false
def ws (e : Env) : List R → Option (List W)
  | [] => some []
  | r :: rs => (r.w e).bind fun w => (ws e rs).map fun l => w :: l
def datas (e : Env) (rs : List R) : Option (List PyData) := (ws e rs).map fun l => l.map W.data
def callE (c : Cf) (f : Nat) (rs : List R) (e : Env) : Option (R × Env) :=
  (ws e rs).bind fun l => if (owned e rs).Nodup then (c.call f l).bind fun p => if keptOwn l p.2 then some (.v p.1, back rs p.2 e) else none else none
/-- a list that other things are to hold stays as it is from now on -/
def frz (e : Env) (i : Nat) : Env := match get e i with
  | some (.own xs) => e.set i (some (.d (.list xs)))
  | _ => e
def frzs (e : Env) : List R → Env
  | [] => e
  | .pl i :: r => frzs (frz e i) r
  | _ :: r => frzs e r
def frzAll (e : Env) : Env := e.map fun o => o.map fun w => .d w.data
def lastIs (a : Nat) : List Nat → Bool
  | [] => false
  | [x] => x == a
  | _ :: y :: r => lastIs a (y :: r)
/-- a target a, (b, .., c): its first slot stands at the end once more -/
def nst : List Nat → Bool
  | a :: _ :: c :: r => lastIs a (c :: r)
  | _ => false
def bindFl (tg : List Nat) (x : PyData) (e : Env) : Option Env := match x with
  | .tuple xs => if xs.length = tg.length then some ((tg.zip xs).foldl (fun e p => e.set p.1 (some (.d p.2))) e) else none
  | _ => none
def bindNs (tg : List Nat) (x : PyData) (e : Env) : Option Env := match tg, x with
  | a :: r, .tuple [y, .tuple ys] => bindFl r.dropLast (.tuple ys) (e.set a (some (.d y)))
  | _, _ => none
/-- a turn's target -/
def bindTg (tg : List Nat) (one : Bool) (x : PyData) (e : Env) : Option Env :=
  if one then (match tg with | [i] => some (e.set i (some (.d x))) | _ => none) else if nst tg then bindNs tg x e else bindFl tg x e
def tupD : PyData → PyData
  | .list xs => .tuple xs
  | d => d
def wipe (is : List Nat) (e : Env) : Env := is.foldl (fun e i => e.set i none) e
def resto (e0 : Env) (is : List Nat) (e : Env) : Env := is.foldl (fun e i => e.set i (get e0 i)) e
/-- the slot whose own list is walked -/
def hid (e : Env) : R → List Nat
  | .pl i => match get e i with
    | some (.own _) => [i]
    | _ => []
  | _ => []
def rngL (a b : Int) : List PyData := (List.range (b - a).toNat).map fun (k : Nat) => .int (a + k)
def rngS (a b c : Int) : List PyData := if 0 < c then (List.range ((b - a + c - 1) / c).toNat).map fun (k : Nat) => .int (a + k * c) else (List.range ((a - b - c - 1) / (-c)).toNat).map fun (k : Nat) => .int (a + k * c)
/-- -(2 ^ 30) < a < 2 ^ 30 -/
def inR (a : Int) : Bool := decide (a.natAbs / 1048576 < 1024)
def enumL (xs : List PyData) : List PyData := xs.mapIdx fun i x => .tuple [.int i, x]
/-- the turns of a list comprehension -/
def lcL (bnd : PyData → Env → Option Env) (test : Env → Option (Bool × Env)) (el : Env → Option (R × Env)) (own : List Nat) : List PyData → Env → List PyData → Option (List PyData × Env)
  | [], e, acc => some (acc, e)
  | x :: r, e, acc => (bnd x e).bind fun e1 => (test e1).bind fun (b, e2) => if b then
      (el e2).bind fun (y, e3) => (y.data e3).bind fun d => lcL bnd test el own r (wipe own (frzs e3 [y])) (acc ++ [d])
    else lcL bnd test el own r (wipe own e2) acc
def flat : PyData → Bool
  | .none => true
  | .bool _ => true
  | .int _ => true
  | _ => false
/-- one turn of a generator expression: its element, where its test holds -/
def genV (bnd : PyData → Env → Option Env) (test : Env → Option (Bool × Env)) (el : Env → Option (R × Env)) (e : Env) (x : PyData) : Option (Option PyData) :=
  (bnd x e).bind fun e1 => (test e1).bind fun (b, _) => if b then (el e1).bind fun (y, e3) => (y.data e3).bind fun d => if flat d then some (some d) else none else some none
/-- the elements of a generator expression -/
def genL (bnd : PyData → Env → Option Env) (test : Env → Option (Bool × Env)) (el : Env → Option (R × Env)) (e : Env) : List PyData → Option (List (Option PyData))
  | [] => some []
  | x :: r => (genV bnd test el e x).bind fun o => (genL bnd test el e r).map fun l => o :: l
/-- the keys of a sort -/
def keyL (el : Env → Option (R × Env)) (i : Nat) (e : Env) : List PyData → Option (List PyData)
  | [] => some []
  | x :: r => ((el (e.set i (some (.d x)))).bind fun (y, e3) => y.data e3).bind fun d => (keyL el i e r).map fun l => d :: l
def keyA : PyData → Option Int
  | .int i => some i
  | _ => none
def keyB : PyData → Option (Int × Int)
  | .tuple [.int i, .int j] => some (i, j)
  | _ => none
/-- sorted by keys: whole numbers, or pairs of them; equal keys stay in their order -/
def sortK (xs ks : List PyData) : Option (List PyData) :=
  if szOk xs.length = true then
    match ks.mapM keyA with
    | some ps => some (((xs.zip ps).mergeSort fun a b => decide (a.2 ≤ b.2)).map (·.1))
    | none => (ks.mapM keyB).map fun ps => ((xs.zip ps).mergeSort fun a b => decide (a.2.1 < b.2.1 ∨ (a.2.1 = b.2.1 ∧ a.2.2 ≤ b.2.2))).map (·.1)
  else none
def lstOf : PyData → Option (List PyData)
  | .list xs => some xs
  | _ => none
def genEnd : Gb → List PyData → Option PyData
  | .all, ds => (ds.mapM truth).map fun bs => .bool (bs.all id)
  | .any, ds => (ds.mapM truth).map fun bs => .bool (bs.any id)
  | .sum, ds => (intsOf ds).bind fun l => if l.all inR && szOk l.length then some (.int l.sum) else none
  | .max, ds => extr maxI ds
  | .min, ds => extr minI ds

mutual
def ev (c : Cf) : E → Env → Option (R × Env)
  | .var i, e => (get e i).map fun _ => (.pl i, e)
  | .lit d, e => some (.v (.d d), e)
  | .con _ d, e => some (.v (.d d), e)
  | .none, e => some (.v (.d .none), e)
  | .bin o a b, e => (ev c a e).bind fun (ra, e1) => (ev c b e1).bind fun (rb, e2) => (ra.data e2).bind fun x => (rb.data e2).bind fun y => (binop o x y).map fun w => (.v w, e2)
  | .neg a, e => (ev c a e).bind fun (ra, e1) => (ra.data e1).bind fun | .int i => some (.v (.d (.int (-i))), e1) | _ => none
  | .not a, e => (ev c a e).bind fun (ra, e1) => (ra.data e1).bind fun x => (truth x).map fun b => (.v (.d (.bool (!b))), e1)
  | .and a b, e => (ev c a e).bind fun (ra, e1) => (ra.data e1).bind fun x => (truth x).bind fun t => if t then ev c b e1 else some (ra, e1)
  | .or a b, e => (ev c a e).bind fun (ra, e1) => (ra.data e1).bind fun x => (truth x).bind fun t => if t then some (ra, e1) else ev c b e1
  | .cmp o a b, e => (ev c a e).bind fun (ra, e1) => (ev c b e1).bind fun (rb, e2) => (ra.data e2).bind fun x => (rb.data e2).bind fun y => (cmpop o x y).map fun t => (.v (.d (.bool t)), e2)
  | .chain o1 o2 a b d, e => (ev c a e).bind fun (ra, e1) => (ev c b e1).bind fun (rb, e2) => (ra.data e2).bind fun x => (rb.data e2).bind fun y => (cmpop o1 x y).bind fun t =>
      if t then (ev c d e2).bind fun (rd, e3) => (rb.data e3).bind fun y => (rd.data e3).bind fun z => (cmpop o2 y z).map fun t => (.v (.d (.bool t)), e3) else some (.v (.d (.bool false)), e2)
  | .ite t a b, e => (ev c t e).bind fun (rt, e1) => (rt.data e1).bind fun x => (truth x).bind fun t => if t then ev c a e1 else ev c b e1
  | .idx a i, e => (ev c a e).bind fun (ra, e1) => (ev c i e1).bind fun (ri, e2) => (ra.data e2).bind fun x => (ri.data e2).bind fun y => (index x y).map fun d => (.v (.d d), e2)
  | .slc a lo hi, e => (ev c a e).bind fun (ra, e1) => (ev c lo e1).bind fun (rl, e2) => (ev c hi e2).bind fun (rh, e3) => (ra.data e3).bind fun x => (rl.data e3).bind fun y => (rh.data e3).bind fun z => (slice x y z).map fun w => (.v w, e3)
  | .tup es, e => (evA c es e).bind fun (rs, e1) => (datas e1 rs).map fun ds => (.v (.d (.tuple ds)), frzs e1 rs)
  | .lst es, e => (evA c es e).bind fun (rs, e1) => (datas e1 rs).map fun ds => (.v (.own ds), frzs e1 rs)
  | .lc it tg one t el, e => (evI c it e).bind fun (xs, h, e1) => if !szOk xs.length then none else
      (lcL (bindTg tg one) (fun e => (ev c t e).bind fun (r, e) => (r.data e).bind fun x => (truth x).map fun b => (b, e)) (ev c el) tg xs (wipe tg (wipe h e1)) []).map fun (ds, e2) => (.v (.own ds), resto e1 h (resto e1 tg e2))
  | .lrng a, e => (ev c a e).bind fun (ra, e1) => (ra.data e1).bind fun | .int i => if inR i && szOk (rngL 0 i).length then some (.v (.own (rngL 0 i)), e1) else none | _ => none
  | .call f es, e => (evA c es e).bind fun (rs, e1) => callE c f rs e1
  | .bi b es, e => (evA c es e).bind fun (rs, e1) => (datas e1 rs).bind fun ds => (builtin b ds).map fun w => (.v w, e1)
  | .mf m es, e => (evA c es e).bind fun (rs, e1) => (datas e1 rs).bind fun ds => (mathf m ds).map fun d => (.v (.d d), e1)
  | .index a x, e => (ev c a e).bind fun (ra, e1) => (ra.data e1).bind fun d1 => (ev c x e1).bind fun (rx, e2) => (ra.data e2).bind fun d => (rx.data e2).bind fun y => if isTupD d1 = isTupD d ∧ (intsIn d1).isSome then (indexD d y).map fun d => (.v (.d d), e2) else none
  | .lenset a, e => (ev c a e).bind fun (ra, e1) => (ra.data e1).bind fun d => (setD d).map fun l => (.v (.d (.int (l.length : Nat))), e1)
  | .srtset a, e => if c.q then none else (ev c a e).bind fun (ra, e1) => (ra.data e1).bind fun d => (setD d).map fun l => (.v (.own (l.map .int)), e1)
  | .skey a i f, e => if c.q then none else (ev c a e).bind fun (ra, e1) => (ra.data e1).bind fun d => (lstOf d).bind fun xs => (keyL (ev c.quiet f) i (wipe [i] (frzAll e1)) xs).bind fun ks => (sortK xs ks).map fun l => (.v (.own l), e1)
  | .isi a t, e => (ev c a e).bind fun (ra, e1) => (ra.data e1).map fun x => (.v (.d (.bool (isTy t x))), e1)
  | .isis a ts, e => (ev c a e).bind fun (ra, e1) => (ra.data e1).map fun x => (.v (.d (.bool (ts.any fun t => isTy t x))), e1)
  | .gen b it tg one t el, e => if c.q then none else (evI c it e).bind fun (xs, _, e1) =>
      (genL (bindTg tg one) (fun e => (ev c.quiet t e).bind fun (r, e) => (r.data e).bind fun x => (truth x).map fun b => (b, e)) (ev c.quiet el) (wipe tg (frzAll e1)) xs).bind fun ds => (genEnd b (ds.filterMap id)).map fun d => (.v (.d d), e1)
  | _, _ => none
/-- an argument list, a display's items -/
def evA (c : Cf) : E → Env → Option (List R × Env)
  | .nil, e => some ([], e)
  | .cons a r, e => (ev c a e).bind fun (ra, e1) => (evA c r e1).map fun (rs, e2) => (ra :: rs, e2)
  | .star a r, e => (ev c a e).bind fun (ra, e1) => (ra.data e1).bind fun x => (items x).bind fun xs => if xs.length / 65536 < 16 then (evA c r e1).map fun (rs, e2) => (xs.map (fun d => .v (.d d)) ++ rs, e2) else none
  | _, _ => none
/-- what a loop walks: its items, the slot that is kept back meanwhile -/
def evI (c : Cf) : E → Env → Option (List PyData × List Nat × Env)
  | .rng1 a, e => (ev c a e).bind fun (ra, e1) => (ra.data e1).bind fun | .int i => if inR i then some (rngL 0 i, [], e1) else none | _ => none
  | .rng2 a b, e => (ev c a e).bind fun (ra, e1) => (ev c b e1).bind fun (rb, e2) => (ra.data e2).bind fun | .int i => ((rb.data e2).bind fun | .int j => if inR i && inR j then some (rngL i j, [], e2) else none | _ => none) | _ => none
  | .rng3 a b k, e => if k ≠ -1 then none else (ev c a e).bind fun (ra, e1) => (ev c b e1).bind fun (rb, e2) => (ra.data e2).bind fun | .int i => ((rb.data e2).bind fun | .int j => if inR i && inR j then some (rngD i j, [], e2) else none | _ => none) | _ => none
  | .enum a, e => (ev c a e).bind fun (ra, e1) => (ra.data e1).bind fun x => (items x).map fun xs => (enumL xs, hid e1 ra, e1)
  | .src a, e => (ev c a e).bind fun (ra, e1) => (ra.data e1).bind fun x => (items x).map fun xs => (xs, hid e1 ra, e1)
  | _, _ => none
end

inductive Out
  | nx (e : Env) | rt (w : W) (e : Env) | bk (e : Env) | ct (e : Env)
def forL (bnd : PyData → Env → Option Env) (body : Env → Option Out) : List PyData → Env → Option Out
  | [], e => some (.nx e)
  | x :: r, e => (bnd x e).bind fun e1 => (body e1).bind fun
    | .nx e2 => forL bnd body r e2
    | .ct e2 => forL bnd body r e2
    | .bk e2 => some (.nx e2)
    | .rt w e2 => some (.rt w e2)
def whileL (test : Env → Option (Bool × Env)) (body : Env → Option Out) : Nat → Env → Option Out
  | 0, _ => none
  | n + 1, e => (test e).bind fun (b, e1) => if b then (body e1).bind fun
    | .nx e2 => whileL test body n e2
    | .ct e2 => whileL test body n e2
    | .bk e2 => some (.nx e2)
    | .rt w e2 => some (.rt w e2)
    else some (.nx e1)
/-- a slot that was kept back is given back -/
def unhide (e0 : Env) : List Nat → Env → Option Env
  | [], e => some e
  | i :: r, e => if (get e i).isNone then unhide e0 r (e.set i (get e0 i)) else none
def Out.unhide (e0 : Env) (h : List Nat) : Out → Option Out
  | .nx e => (Mini.unhide e0 h e).map .nx
  | .rt w e => (Mini.unhide e0 h e).map fun e => .rt w e
  | .bk e => (Mini.unhide e0 h e).map .bk
  | .ct e => (Mini.unhide e0 h e).map .ct
/-- a thing is given to a name -/
def giveW (e : Env) : R → Option W
  | .v w => some w
  | .pl i => (get e i).map fun w => .d w.data
def setAll : List Nat → List W → Env → Env
  | i :: r, w :: ws, e => setAll r ws (e.set i (some w))
  | _, _, e => e
def evT (c : Cf) (t : E) (e : Env) : Option (Bool × Env) := (ev c t e).bind fun (r, e) => (r.data e).bind fun x => (truth x).map fun b => (b, e)

/-- the slots that a body stores to -/
def stored : S → List Nat
  | .asg i _ => [i]
  | .unp is _ => is
  | .par is _ => is
  | .ite _ a b => stored a ++ stored b
  | .seq a b => stored a ++ stored b
  | .for _ tg _ b => tg ++ stored b
  | .whl _ b => stored b
  | _ => []
def run (c : Cf) : S → Env → Option Out
  | .pass, e => some (.nx e)
  | .asg i x, e => (ev c x e).bind fun (r, e1) => (giveW e1 r).map fun w => .nx ((frzs e1 [r]).set i (some w))
  | .unp is x, e => (ev c x e).bind fun (r, e1) => (r.data e1).bind fun d => (bindFl is (tupD d) e1).map .nx
  | .par is es, e => (evA c es e).bind fun (rs, e1) => (rs.mapM (giveW e1)).bind fun ws => if ws.length = is.length ∧ is.Nodup then some (.nx (setAll is ws (frzs e1 rs))) else none
  | .sset i ix x, e => (ev c x e).bind fun (r, e1) => (get e1 i).bind fun _ => (ev c ix e1).bind fun (k, e2) => (r.data e2).bind fun d => (k.data e2).bind fun
    | .int k => match get (frzs e2 [r]) i with
      | some (.own xs) => (L2.ixN xs.length k).map fun j => .nx ((frzs e2 [r]).set i (some (.own (xs.set j d))))
      | _ => none
    | _ => none
  | .app i x, e => if (hid e (.pl i)).isEmpty then none else (ev c x e).bind fun (r, e1) => (r.data e1).bind fun d => match get (frzs e1 [r]) i with
      | some (.own xs) => if szOk (xs.length + 1) then some (.nx ((frzs e1 [r]).set i (some (.own (xs ++ [d]))))) else none
      | _ => none
  | .ex x, e => (ev c x e).bind fun (r, e1) => match r with
    | .v (.d .none) => some (.nx e1)
    | _ => none
  | .ite t a b, e => (evT c t e).bind fun (t, e1) => if t then run c a e1 else run c b e1
  | .seq a b, e => (run c a e).bind fun
    | .nx e1 => run c b e1
    | o => some o
  | .for it tg one b, e => (evI c it e).bind fun (xs, h, e1) => if (h.any fun i => (tg ++ stored b).contains i) || decide (1 < h.length) then none else (forL (bindTg tg one) (run c b) xs (wipe h e1)).bind fun o => o.unhide e1 h
  | .whl t b, e => whileL (evT c t) (run c b) 1000000 e
  | .ret x, e => (ev c x e).bind fun (r, e1) => match r with
    | .v w => some (.rt w e1)
    | .pl i => (get e1 i).map fun w => .rt w (e1.set i (match w with | .d x => some (.d x) | .own _ => none))
  | .retn, e => some (.rt (.d .none) e)
  | .brk, e => some (.bk e)
  | .cnt, e => some (.ct e)
  | .bad, _ => none

structure D where
  np : Nat
  n : Nat
  body : S
def isD : W → Bool
  | .d _ => true
  | .own _ => false
def fits (d : D) (ws : List W) : Bool := decide (ws.length = d.np) && (List.range d.np).all fun i => match ws[i]? with
  | some w => isD w || !(stored d.body).contains i
  | none => false
def finals (np : Nat) (e : Env) : List W := (List.range np).map fun i => (get e i).getD (.d .none)
def start (d : D) (ws : List W) : Env := ws.map some ++ List.replicate (d.n - d.np) none
def callD (ds : List D) : Bool → Nat → Nat → List W → Option (W × List W)
  | _, 0, _, _ => none
  | q, k + 1, f, ws => (ds[f]?).bind fun d => if fits d ws then (run ⟨q, callD ds q k, callD ds true k⟩ d.body (start d ws)).bind fun
      | .rt w e => some (w, finals d.np e)
      | .nx e => some (.d .none, finals d.np e)
      | _ => none
    else none
end Mini

-- M2
set_option Elab.async false
set_option linter.all false
set_option maxRecDepth 100000
/-! Mini 2: what stands for what on the heap. -/
namespace Mini
open PySem PyProof.Rows

theorem sizeLine_is : sizeLine = 16777216 := by decide

/-! ### data that stays -/
abbrev LstO (its : List Value) (n : Nat) : Obj := { cls := .type "list", data := .seq its.toArray n }
abbrev TupO (its : List Value) (n : Nat) : Obj := { cls := .type "tuple", data := .seq its.toArray n }
mutual
/-- v stands for d in Z -/
def Fz (Z : Heap) : PyData → Value → Prop
  | .none, v => v = .none
  | .bool b, v => v = .bool b
  | .int i, v => ∃ t, v = .int i t
  | .str x, v => x.length ≤ sizeLine ∧ ∃ t, v = .str x t
  | .list xs, v => ∃ a its n, v = .ref a ∧ Z.get? a = some (LstO its n) ∧ its.length ≤ sizeLine ∧ FzA Z xs its
  | .tuple xs, v => ∃ a its n, v = .ref a ∧ Z.get? a = some (TupO its n) ∧ its.length ≤ sizeLine ∧ FzA Z xs its
  | .dict _, _ => False
def FzA (Z : Heap) : List PyData → List Value → Prop
  | [], vs => vs = []
  | d :: ds, vs => ∃ v vs', vs = v :: vs' ∧ Fz Z d v ∧ FzA Z ds vs'
end
abbrev Ext (h h' : Heap) : Prop := ∀ b o, h.get? b = some o → h'.get? b = some o
mutual
theorem Fz.ext {Z Z' : Heap} (k : Ext Z Z') : ∀ {d : PyData} {v : Value}, Fz Z d v → Fz Z' d v
  | .none, _, x => x
  | .bool _, _, x => x
  | .int _, _, x => x
  | .str _, _, x => x
  | .list xs, v, x => by
    simp only [Fz] at x ⊢
    obtain ⟨a, its, n, e, h, l, y⟩ := x
    exact ⟨a, its, n, e, k _ _ h, l, FzA.ext k y⟩
  | .tuple xs, v, x => by
    simp only [Fz] at x ⊢
    obtain ⟨a, its, n, e, h, l, y⟩ := x
    exact ⟨a, its, n, e, k _ _ h, l, FzA.ext k y⟩
  | .dict _, _, x => x
theorem FzA.ext {Z Z' : Heap} (k : Ext Z Z') : ∀ {ds : List PyData} {vs : List Value}, FzA Z ds vs → FzA Z' ds vs
  | [], _, x => x
  | d :: ds, vs, x => by
    simp only [FzA] at x ⊢
    obtain ⟨v, vs', e, a, b⟩ := x
    exact ⟨v, vs', e, Fz.ext k a, FzA.ext k b⟩
end
mutual
theorem Fz.reads {Z : Heap} : ∀ {d : PyData} {v : Value}, Fz Z d v → ∃ as, Reads Z v d as
  | .none, _, x => by
    simp only [Fz] at x
    subst x
    exact ⟨_, .none⟩
  | .bool b, _, x => by
    simp only [Fz] at x
    subst x
    exact ⟨_, .bool b⟩
  | .int i, _, x => by
    simp only [Fz] at x
    obtain ⟨t, rfl⟩ := x
    exact ⟨_, .int i t⟩
  | .str z, _, x => by
    simp only [Fz] at x
    obtain ⟨_, t, rfl⟩ := x
    exact ⟨_, .str z t⟩
  | .list xs, v, x => by
    simp only [Fz] at x
    obtain ⟨a, its, n, rfl, h, l, y⟩ := x
    obtain ⟨as, r⟩ := FzA.reads y
    exact ⟨_, .list h rfl rfl (by simpa using r)⟩
  | .tuple xs, v, x => by
    simp only [Fz] at x
    obtain ⟨a, its, n, rfl, h, l, y⟩ := x
    obtain ⟨as, r⟩ := FzA.reads y
    exact ⟨_, .tuple h rfl rfl (by simpa using r)⟩
  | .dict _, _, x => by simp only [Fz] at x
theorem FzA.reads {Z : Heap} : ∀ {ds : List PyData} {vs : List Value}, FzA Z ds vs → ∃ as, ReadsAll Z vs ds as
  | [], _, x => by
    simp only [FzA] at x
    subst x
    exact ⟨_, .nil⟩
  | d :: ds, vs, x => by
    simp only [FzA] at x
    obtain ⟨v, vs', rfl, a, b⟩ := x
    obtain ⟨_, r⟩ := Fz.reads a
    obtain ⟨_, q⟩ := FzA.reads b
    exact ⟨_, .cons r q⟩
end
section
variable {Z : Heap} {v : Value} {vs ws : List Value} {d : PyData} {ds es : List PyData}
theorem FzA.nil : FzA Z [] [] := by simp only [FzA]
theorem FzA.cons (x : Fz Z d v) (y : FzA Z ds vs) : FzA Z (d :: ds) (v :: vs) := by
  simp only [FzA]
  exact ⟨v, vs, rfl, x, y⟩
theorem FzA.cons_inv (x : FzA Z (d :: ds) vs) : ∃ v vs', vs = v :: vs' ∧ Fz Z d v ∧ FzA Z ds vs' := by simpa only [FzA] using x
theorem FzA.nil_inv (x : FzA Z [] vs) : vs = [] := by simpa only [FzA] using x
theorem FzA.length : ∀ {ds : List PyData} {vs : List Value}, FzA Z ds vs → vs.length = ds.length
  | [], vs, x => by rw [x.nil_inv]; rfl
  | d :: ds, vs, x => by
    obtain ⟨v, vs', rfl, _, y⟩ := x.cons_inv
    simp [y.length]
theorem FzA.get : ∀ {ds : List PyData} {vs : List Value} {i : Nat} {d : PyData}, FzA Z ds vs → ds[i]? = some d → ∃ v, vs[i]? = some v ∧ Fz Z d v
  | [], vs, i, d, x, h => by simp at h
  | d :: ds, vs, 0, d', x, h => by
    obtain ⟨v, vs', rfl, a, y⟩ := x.cons_inv
    simp at h
    subst h
    exact ⟨v, rfl, a⟩
  | d :: ds, vs, i + 1, d', x, h => by
    obtain ⟨v, vs', rfl, a, y⟩ := x.cons_inv
    obtain ⟨u, h1, h2⟩ := y.get (i := i) (d := d') (by simpa using h)
    exact ⟨u, by simpa using h1, h2⟩
theorem FzA.got : ∀ {ds : List PyData} {vs : List Value} {i : Nat} {v : Value}, FzA Z ds vs → vs[i]? = some v → ∃ d, ds[i]? = some d ∧ Fz Z d v := fun {ds vs i v} x h => by
  obtain ⟨hi, hv⟩ := List.getElem?_eq_some_iff.mp h
  have hi' : i < ds.length := by rw [← x.length]; exact hi
  obtain ⟨u, h1, h2⟩ := x.get (List.getElem?_eq_getElem hi')
  rw [h] at h1
  cases h1
  exact ⟨_, List.getElem?_eq_getElem hi', h2⟩
theorem FzA.append : ∀ {ds : List PyData} {vs : List Value}, FzA Z ds vs → FzA Z es ws → FzA Z (ds ++ es) (vs ++ ws)
  | [], vs, x, y => by rw [x.nil_inv]; exact y
  | d :: ds, vs, x, y => by
    obtain ⟨v, vs', rfl, a, z⟩ := x.cons_inv
    exact .cons a (z.append y)
theorem FzA.take : ∀ {ds : List PyData} {vs : List Value} (n : Nat), FzA Z ds vs → FzA Z (ds.take n) (vs.take n)
  | ds, vs, 0, x => by simpa using FzA.nil
  | [], vs, n + 1, x => by rw [x.nil_inv]; simpa using FzA.nil
  | d :: ds, vs, n + 1, x => by
    obtain ⟨v, vs', rfl, a, z⟩ := x.cons_inv
    exact .cons a (z.take n)
theorem FzA.drop : ∀ {ds : List PyData} {vs : List Value} (n : Nat), FzA Z ds vs → FzA Z (ds.drop n) (vs.drop n)
  | ds, vs, 0, x => by simpa using x
  | [], vs, n + 1, x => by rw [x.nil_inv]; simpa using FzA.nil
  | d :: ds, vs, n + 1, x => by
    obtain ⟨v, vs', rfl, a, z⟩ := x.cons_inv
    exact z.drop n
theorem FzA.set (a : Fz Z d v) : ∀ {ds : List PyData} {vs : List Value} (i : Nat), FzA Z ds vs → FzA Z (ds.set i d) (vs.set i v)
  | [], vs, i, x => by rw [x.nil_inv]; simpa using FzA.nil
  | e :: ds, vs, 0, x => by
    obtain ⟨u, vs', rfl, b, z⟩ := x.cons_inv
    exact .cons a z
  | e :: ds, vs, i + 1, x => by
    obtain ⟨u, vs', rfl, b, z⟩ := x.cons_inv
    exact .cons b (FzA.set a i z)
theorem FzA.flat (x : FzA Z ds vs) : ∀ n : Nat, FzA Z (List.replicate n ds).flatten (List.replicate n vs).flatten
  | 0 => by simpa using FzA.nil
  | n + 1 => by
    rw [List.replicate_succ, List.flatten_cons, List.replicate_succ, List.flatten_cons]
    exact x.append (x.flat n)
theorem FzA.one (x : Fz Z d v) : FzA Z [d] [v] := .cons x .nil
theorem Fz.int_inv {i : Int} (x : Fz Z (.int i) v) : ∃ t, v = .int i t := by simpa only [Fz] using x
theorem Fz.bool_inv {b : Bool} (x : Fz Z (.bool b) v) : v = .bool b := by simpa only [Fz] using x
theorem Fz.none_inv (x : Fz Z .none v) : v = .none := by simpa only [Fz] using x
theorem Fz.str_inv {z : Str} (x : Fz Z (.str z) v) : z.length ≤ sizeLine ∧ ∃ t, v = .str z t := by simpa only [Fz] using x
theorem Fz.lst_inv (x : Fz Z (.list ds) v) : ∃ a its n, v = .ref a ∧ Z.get? a = some (LstO its n) ∧ its.length ≤ sizeLine ∧ FzA Z ds its := by simpa only [Fz] using x
theorem Fz.tup_inv (x : Fz Z (.tuple ds) v) : ∃ a its n, v = .ref a ∧ Z.get? a = some (TupO its n) ∧ its.length ≤ sizeLine ∧ FzA Z ds its := by simpa only [Fz] using x
theorem Fz.int {i : Int} {t : Tok} : Fz Z (.int i) (.int i t) := by
  simp only [Fz]
  exact ⟨t, rfl⟩
theorem Fz.bool {b : Bool} : Fz Z (.bool b) (.bool b) := by simp only [Fz]
theorem Fz.none : Fz Z .none .none := by simp only [Fz]
theorem Fz.str {z : Str} {t : Tok} (h : z.length ≤ sizeLine) : Fz Z (.str z) (.str z t) := by
  simp only [Fz]
  exact ⟨h, t, rfl⟩
theorem Fz.lst {a : Addr} {its : List Value} {n : Nat} (h : Z.get? a = some (LstO its n)) (l : its.length ≤ sizeLine) (x : FzA Z ds its) : Fz Z (.list ds) (.ref a) := by
  simp only [Fz]
  exact ⟨a, its, n, rfl, h, l, x⟩
theorem Fz.tup {a : Addr} {its : List Value} {n : Nat} (h : Z.get? a = some (TupO its n)) (l : its.length ≤ sizeLine) (x : FzA Z ds its) : Fz Z (.tuple ds) (.ref a) := by
  simp only [Fz]
  exact ⟨a, its, n, rfl, h, l, x⟩
end

/-! ### slots -/
def Rep (Z h : Heap) (v : Value) : W → Prop
  | .d x => Fz Z x v
  | .own xs => ∃ a its n, v = .ref a ∧ h.get? a = some (LstO its n) ∧ its.length ≤ sizeLine ∧ FzA Z xs its
theorem Rep.keep {Z Z' h h' : Heap} {v : Value} {w : W} (x : Rep Z h v w) (z : Ext Z Z') (k : ∀ xs a, w = .own xs → v = .ref a → ∀ o, h.get? a = some o → h'.get? a = some o) : Rep Z' h' v w := by
  cases w with
  | d d => exact Fz.ext z x
  | own xs =>
    obtain ⟨a, its, n, rfl, e, l, f⟩ := x
    exact ⟨a, its, n, rfl, k xs a rfl rfl _ e, l, FzA.ext z f⟩
theorem get_zero {o : Option W} {e : Env} : get (o :: e) 0 = o := by cases o <;> rfl
theorem get_succ {o : Option W} {e : Env} {i : Nat} : get (o :: e) (i + 1) = get e i := rfl
theorem get_nil {i : Nat} : get [] i = none := rfl
theorem get_set {e : Env} {i j : Nat} {o : Option W} : get (e.set i o) j = if i = j ∧ i < e.length then o else get e j := by
  unfold get
  rw [List.getElem?_set]
  by_cases h : i = j
  · subst h
    by_cases hl : i < e.length
    · simp [hl]
    · simp [hl, List.getElem?_eq_none (Nat.le_of_not_lt hl)]
  · simp [h]
theorem get_lt {e : Env} {i : Nat} {w : W} (h : get e i = some w) : i < e.length := by
  unfold get at h
  cases q : e[i]? with
  | none => rw [q] at h; cases h
  | some o => exact (List.getElem?_eq_some_iff.mp q).1
theorem get_set_self {e : Env} {i : Nat} {w : W} {o : Option W} (h : get e i = some w) : get (e.set i o) i = o := by
  rw [get_set, if_pos ⟨rfl, get_lt h⟩]
theorem get_set_ne {e : Env} {i j : Nat} {o : Option W} (h : i ≠ j) : get (e.set i o) j = get e j := by
  rw [get_set, if_neg fun q => h q.1]
/-- the addresses of the lists of one's own -/
def Foot (σ : List (Option Value)) (e : Env) (a : Addr) : Prop := ∃ i xs, get e i = some (.own xs) ∧ σ[i]? = some (some (.ref a))
def FootR (v : Value) (r : R) (a : Addr) : Prop := ∃ xs, r = .v (.own xs) ∧ v = .ref a
end Mini

-- M3
set_option Elab.async false
set_option linter.all false
set_option maxRecDepth 100000
/-! Mini 3: the state that a run stands for; what a step may change. -/
namespace Mini
open PySem PyProof.Rows

structure G where
  P : Program
  w : World
  K : PySem.W.Frag
  mg : Str → Option Value
  base : Heap
  tabs : List (Addr × Addr)
  q : Bool
structure G.Ok (g : G) : Prop where
  mod : L2.Mod g.K g.mg g.base
  tab : ∀ p ∈ g.tabs, GxR.TabB g.base g.mg p.1 p.2
  qt : g.q = true → g.tabs = []
/-- a table of code objects; they stay -/
def TabOk (Z : Heap) (ps : Array Value) : Prop := TriplesOk ps.toList ∧ ∀ (pos : Pos) (cv : Value), codeAmong pos ps.toList = some cv → ∃ q, Z.CodeRec cv q
theorem TabOk.ext {Z Z' : Heap} {ps : Array Value} (h : TabOk Z ps) (k : ∀ b o, Z.get? b = some o → Z'.get? b = some o) : TabOk Z' ps := ⟨h.1, fun pos cv hc => let ⟨q, r⟩ := h.2 pos cv hc; ⟨q, r.keeps k⟩⟩
structure Sh (g : G) (Z : Heap) (s : Shared) : Prop where
  zh : Ext Z s.heap
  bz : Ext g.base Z
  tz : ∀ p ∈ g.tabs, Z.get? p.2 = none
  th : ∀ p ∈ g.tabs, ∃ ps : Array Value, s.heap.get? p.2 = some { cls := .none, data := .fields ps } ∧ TabOk Z ps
  bare : g.q = false → AllBare s.gens
structure Frm (g : G) (N : List Str) (en : PySem.Env) : Prop where
  kind : en.scope.kind = .function
  glob : en.globals = mainGlobals
  blt : en.builtins = builtinsNs
  nd : N.Nodup
  has : ∀ x, (en.kindOf x = some .cell ∨ en.kindOf x = some .free) → ∃ c, en.cells.lookup x = some c
  inj : ∀ x y c, en.cells.lookup x = some c → en.cells.lookup y = some c → x = y
  cl : ∀ x c, en.cells.lookup x = some c → c ≠ en.locals
  code : g.q = false → ∃ q ∈ g.tabs, en.code = .ref q.1
/-- the frame's own objects -/
def frm (en : PySem.Env) : List Addr := en.locals :: en.cells.map (·.2)
structure Sees (N : List Str) (en : PySem.Env) (σ : List (Option Value)) (h : Heap) : Prop where
  ns : ∃ m, h.Ns en.locals m ∧ ∀ (i : Nat) (x : Str) (u : Value), N[i]? = some x → σ[i]? = some (some u) → en.kindOf x = some .local → m x = some u
  cell : ∀ x c, en.cells.lookup x = some c → ∃ v, h.IsCell c v ∧ ∀ (i : Nat) (u : Value), N[i]? = some x → σ[i]? = some (some u) → (en.kindOf x = some .cell ∨ en.kindOf x = some .free) → v = some u
/-- an address of one's own: nothing that stays, no part of the frame, no table -/
def Mine (g : G) (en : PySem.Env) (Z : Heap) (a : Addr) : Prop := Z.get? a = none ∧ a ∉ frm en ∧ ∀ p ∈ g.tabs, a ≠ p.2
structure Inv (g : G) (N : List Str) (en : PySem.Env) (Z : Heap) (e : Env) (σ : List (Option Value)) (s : Shared) : Prop where
  ok : g.Ok
  sh : Sh g Z s
  fm : Frm g N en
  fz : ∀ a ∈ frm en, Z.get? a = none ∧ ∀ p ∈ g.tabs, a ≠ p.2
  fl : ∀ a ∈ frm en, ∃ o, s.heap.get? a = some o
  sees : Sees N en σ s.heap
  len : σ.length = N.length
  elen : e.length = N.length
  rep : ∀ (i : Nat) (w : W), get e i = some w → ∃ v, σ[i]? = some (some v) ∧ Rep Z s.heap v w
  inj : ∀ (i j : Nat) (xs ys : List PyData) (a : Addr), get e i = some (.own xs) → get e j = some (.own ys) → σ[i]? = some (some (.ref a)) → σ[j]? = some (some (.ref a)) → i = j
  mine : ∀ (a : Addr), Foot σ e a → Mine g en Z a
structure Step (g : G) (fr : List Addr) (Z : Heap) (F : Addr → Prop) (s : Shared) (Z' : Heap) (F' : Addr → Prop) (s' : Shared) : Prop where
  zz : Ext Z Z'
  keep : ∀ a o, s.heap.get? a = some o → ¬ F a → a ∉ fr → (∀ p ∈ g.tabs, a ≠ p.2) → s'.heap.get? a = some o
  there : ∀ a o, s.heap.get? a = some o → ∃ o', s'.heap.get? a = some o'
  newF : ∀ a, F' a → F a ∨ s.heap.get? a = none
  newZ : ∀ a o, Z'.get? a = some o → Z.get? a = some o ∨ F a ∨ s.heap.get? a = none
  os : s'.os = s.os
  quiet : g.q = true → ∃ h tk, s' = { s with heap := h, toks := tk }
def RepR (g : G) (en : PySem.Env) (Z h : Heap) (σ : List (Option Value)) (e : Env) (v : Value) : R → Prop
  | .v w => Rep Z h v w ∧ ∀ a, FootR v (.v w) a → Mine g en Z a ∧ ¬ Foot σ e a
  | .pl i => σ[i]? = some (some v)
inductive RepA (g : G) (en : PySem.Env) (Z h : Heap) (σ : List (Option Value)) (e : Env) : List Value → List R → Prop
  | nil : RepA g en Z h σ e [] []
  | cons {v r vs rs} : RepR g en Z h σ e v r → RepA g en Z h σ e vs rs → (∀ a, FootR v r a → ∀ p ∈ vs.zip rs, ¬ FootR p.1 p.2 a) → RepA g en Z h σ e (v :: vs) (r :: rs)
def FootA (vs : List Value) (rs : List R) (a : Addr) : Prop := ∃ p ∈ vs.zip rs, FootR p.1 p.2 a
/-- the end of an expression -/
def Post (g : G) (N : List Str) (en : PySem.Env) (σ : List (Option Value)) (Z : Heap) (F : Addr → Prop) (s : Shared) (e' : Env) (r : R) (v : Value) (s' : Shared) : Prop :=
  ∃ Z', Step g [] Z F s Z' (fun a => Foot σ e' a ∨ FootR v r a) s' ∧ Inv g N en Z' e' σ s' ∧ RepR g en Z' s'.heap σ e' v r
def PostA (g : G) (N : List Str) (en : PySem.Env) (σ : List (Option Value)) (Z : Heap) (F : Addr → Prop) (s : Shared) (e' : Env) (rs : List R) (vs : List Value) (s' : Shared) : Prop :=
  ∃ Z', Step g [] Z F s Z' (fun a => Foot σ e' a ∨ FootA vs rs a) s' ∧ Inv g N en Z' e' σ s' ∧ RepA g en Z' s'.heap σ e' vs rs
def PostE (g : G) (N : List Str) (en : PySem.Env) (σ : List (Option Value)) (Z : Heap) (F : Addr → Prop) (s : Shared) (e' : Env) (s' : Shared) : Prop :=
  ∃ Z', Step g [] Z F s Z' (Foot σ e') s' ∧ Inv g N en Z' e' σ s'

section
variable {g : G} {N : List Str} {en : PySem.Env} {Z Z' Z1 Z2 : Heap} {e e' e1 e2 : Env} {σ : List (Option Value)} {F F' F1 F2 : Addr → Prop} {fr : List Addr} {s s' s1 s2 : Shared} {v : Value} {r : R} {vs : List Value} {rs : List R}

theorem Step.refl : Step g fr Z F s Z F s := ⟨fun _ _ h => h, fun _ _ h _ _ _ => h, fun _ o h => ⟨o, h⟩, fun _ h => .inl h, fun _ _ h => .inl h, rfl, fun _ => ⟨s.heap, s.toks, rfl⟩⟩
theorem Step.fresh (a : Step g fr Z F s Z1 F1 s1) {x : Addr} (h : s1.heap.get? x = none) : s.heap.get? x = none := by
  cases q : s.heap.get? x with
  | none => rfl
  | some o =>
    obtain ⟨o', q'⟩ := a.there x o q
    rw [h] at q'
    cases q'
theorem Step.trans (a : Step g fr Z F s Z1 F1 s1) (b : Step g fr Z1 F1 s1 Z2 F2 s2) : Step g fr Z F s Z2 F2 s2 where
  zz := fun x o h => b.zz x o (a.zz x o h)
  keep := fun x o h n1 n2 n3 => b.keep x o (a.keep x o h n1 n2 n3) (fun hx => by
    rcases a.newF x hx with q | q
    · exact n1 q
    · rw [h] at q; cases q) n2 n3
  there := fun x o h => let ⟨o', h'⟩ := a.there x o h; b.there x o' h'
  newF := fun x hx => by
    rcases b.newF x hx with q | q
    · exact a.newF x q
    · exact .inr (a.fresh q)
  newZ := fun x o h => by
    rcases b.newZ x o h with q | q | q
    · exact a.newZ x o q
    · rcases a.newF x q with q | q
      · exact .inr (.inl q)
      · exact .inr (.inr q)
    · exact .inr (.inr (a.fresh q))
  os := b.os.trans a.os
  quiet := fun hq => by
    obtain ⟨h1, t1, rfl⟩ := a.quiet hq
    obtain ⟨h2, t2, rfl⟩ := b.quiet hq
    exact ⟨h2, t2, rfl⟩
/-- fewer things of one's own behind it -/
theorem Step.less (a : Step g fr Z F s Z1 F1 s1) (h : ∀ x, F2 x → F1 x) : Step g fr Z F s Z1 F2 s1 := ⟨a.zz, a.keep, a.there, fun x hx => a.newF x (h x hx), a.newZ, a.os, a.quiet⟩
theorem Step.more (a : Step g fr Z F s Z1 F1 s1) (h : ∀ x, F x → F2 x) : Step g fr Z F2 s Z1 F1 s1 :=
  ⟨a.zz, fun x o e n => a.keep x o e fun q => n (h x q), a.there, fun x hx => (a.newF x hx).imp_left (h x), fun x o e => (a.newZ x o e).imp_right fun q => q.imp_left (h x), a.os, a.quiet⟩
theorem Step.frame (a : Step g fr Z F s Z1 F1 s1) {fr' : List Addr} (h : ∀ x ∈ fr, x ∈ fr') : Step g fr' Z F s Z1 F1 s1 := ⟨a.zz, fun x o e n1 n2 => a.keep x o e n1 fun q => n2 (h x q), a.there, a.newF, a.newZ, a.os, a.quiet⟩
/-- an address that stands, apart from what the step knows -/
theorem Step.away (st : Step g fr Z1 F1 s1 Z2 F2 s2) {a : Addr} {o : Obj} (h : s1.heap.get? a = some o) (n : ¬ F1 a) : ¬ F2 a := fun q => by
  rcases st.newF a q with q | q
  · exact n q
  · rw [h] at q; cases q
theorem Step.noZ (st : Step g fr Z1 F1 s1 Z2 F2 s2) {a : Addr} {o : Obj} (h : s1.heap.get? a = some o) (n : ¬ F1 a) (z : Z1.get? a = none) : Z2.get? a = none := by
  cases q : Z2.get? a with
  | none => rfl
  | some o' =>
    rcases st.newZ a o' q with q | q | q
    · rw [z] at q; cases q
    · exact absurd q n
    · rw [h] at q; cases q
theorem Rep.stands {h : Heap} {xs : List PyData} {a : Addr} (x : Rep Z h v (.own xs)) (e : v = .ref a) : ∃ o, h.get? a = some o := by
  obtain ⟨b, its, n, e', q, _⟩ := x
  rw [e] at e'
  cases e'
  exact ⟨_, q⟩
theorem footR_v {w : W} {a : Addr} (h : FootR v (.v w) a) : (∃ xs, w = .own xs) ∧ v = .ref a := by
  obtain ⟨xs, e, e'⟩ := h
  cases e
  exact ⟨⟨xs, rfl⟩, e'⟩
/-- a result over a step that does not know it -/
theorem RepR.carry (x : RepR g en Z1 s1.heap σ e1 v r) (st : Step g [] Z1 (Foot σ e1) s1 Z2 F2 s2) (hF : ∀ a, Foot σ e2 a → F2 a) : RepR g en Z2 s2.heap σ e2 v r := by
  cases r with
  | pl i => exact x
  | v w =>
    obtain ⟨rp, m⟩ := x
    have key : ∀ a, FootR v (.v w) a → (∃ o, s1.heap.get? a = some o) := fun a ha => by
      obtain ⟨⟨xs, rfl⟩, e⟩ := footR_v ha
      exact rp.stands e
    refine ⟨rp.keep st.zz fun xs a hw hv o ho => ?_, fun a ha => ?_⟩
    · obtain ⟨⟨m1, m2, m3⟩, m4⟩ := m a ⟨xs, by rw [hw], hv⟩
      exact st.keep a o ho m4 (by simp) m3
    · obtain ⟨⟨m1, m2, m3⟩, m4⟩ := m a ha
      obtain ⟨o, ho⟩ := key a ha
      exact ⟨⟨st.noZ ho m4 m1, m2, m3⟩, fun q => st.away ho m4 (hF a q)⟩
/-- .. is apart from what the step makes -/
theorem RepR.apart (x : RepR g en Z1 s1.heap σ e1 v r) (st : Step g [] Z1 (Foot σ e1) s1 Z2 F2 s2) : ∀ a, FootR v r a → ¬ F2 a := fun a ha => by
  cases r with
  | pl i => obtain ⟨_, q, _⟩ := ha; cases q
  | v w =>
    obtain ⟨rp, m⟩ := x
    obtain ⟨⟨xs, rfl⟩, e⟩ := footR_v ha
    obtain ⟨o, ho⟩ := rp.stands e
    exact st.away ho (m a ha).2

/-! ### reading -/
theorem Inv.bk (I : Inv g N en Z e σ s) : Ext g.base s.heap := fun b o h => I.sh.zh b o (I.sh.bz b o h)
theorem Inv.kIn (I : Inv g N en Z e σ s) : g.K.In s.heap := I.ok.mod.kin.keeps I.bk
theorem Inv.lim (I : Inv g N en Z e σ s) : s.heap.NoLimit := I.ok.mod.nolimit.keeps I.bk
theorem Sees.keep (x : Sees N en σ s.heap) {h' : Heap} (k : ∀ a ∈ frm en, ∀ o, s.heap.get? a = some o → h'.get? a = some o) : Sees N en σ h' := by
  refine ⟨?_, fun y c hc => ?_⟩
  · obtain ⟨m, hn, r⟩ := x.ns
    exact ⟨m, hn.at' fun o e => k _ (by simp [frm]) o e, r⟩
  · obtain ⟨v, ⟨o, ho, hd⟩, r⟩ := x.cell y c hc
    exact ⟨v, ⟨o, k c (by simp only [frm, List.mem_cons]; exact .inr (List.mem_map.mpr ⟨(y, c), PySem.mem_of_lookup hc, rfl⟩)) o ho, hd⟩, r⟩
/-- what v reads as -/
theorem Rep.reads {h : Heap} {w : W} (x : Rep Z h v w) (k : Ext Z h) : ∃ as, Reads h v w.data as := by
  cases w with
  | d d =>
    obtain ⟨as, r⟩ := Fz.reads x
    exact ⟨as, Reads.keeps k r⟩
  | own xs =>
    obtain ⟨a, its, n, rfl, e, l, f⟩ := x
    obtain ⟨as, r⟩ := f.reads
    exact ⟨_, .list e rfl rfl (by simpa using ReadsAll.keeps k r)⟩
/-- a result's thing, wherever it stands -/
theorem Inv.resW (I : Inv g N en Z e σ s) {w : W} (x : RepR g en Z s.heap σ e v r) (h : r.w e = some w) : Rep Z s.heap v w := by
  cases r with
  | v w' => cases h; exact x.1
  | pl i =>
    obtain ⟨u, h1, h2⟩ := I.rep i w h
    rw [show σ[i]? = some (some v) from x] at h1
    cases h1
    exact h2
theorem Inv.resD (I : Inv g N en Z e σ s) {d : PyData} (x : RepR g en Z s.heap σ e v r) (h : r.data e = some d) : ∃ w, w.data = d ∧ Rep Z s.heap v w := by
  unfold R.data at h
  cases q : r.w e with
  | none => rw [q] at h; cases h
  | some w =>
    rw [q] at h
    exact ⟨w, Option.some.inj h, I.resW x q⟩
/-- a list's items -/
theorem Rep.list {h : Heap} {w : W} {xs : List PyData} (x : Rep Z h v w) (k : Ext Z h) (e : w.data = .list xs) :
    ∃ a its n, v = .ref a ∧ h.get? a = some (LstO its n) ∧ its.length ≤ sizeLine ∧ FzA Z xs its := by
  cases w with
  | d d =>
    cases (show d = .list xs from e)
    obtain ⟨a, its, n, rfl, h1, h2, h3⟩ := Fz.lst_inv x
    exact ⟨a, its, n, rfl, k _ _ h1, h2, h3⟩
  | own ys =>
    cases e
    exact x
theorem Rep.tuple {h : Heap} {w : W} {xs : List PyData} (x : Rep Z h v w) (k : Ext Z h) (e : w.data = .tuple xs) :
    ∃ a its n, v = .ref a ∧ h.get? a = some (TupO its n) ∧ its.length ≤ sizeLine ∧ FzA Z xs its := by
  cases w with
  | d d =>
    cases (show d = .tuple xs from e)
    obtain ⟨a, its, n, rfl, h1, h2, h3⟩ := Fz.tup_inv x
    exact ⟨a, its, n, rfl, k _ _ h1, h2, h3⟩
  | own ys => cases e
theorem Rep.flat {h : Heap} {w : W} {d : PyData} (x : Rep Z h v w) (e : w.data = d) (n : ∀ xs, d ≠ .list xs) : Fz Z d v := by
  cases w with
  | d y => cases e; exact x
  | own ys => cases e; exact absurd rfl (n ys)

/-! ### new objects -/
/-- heaps where all that stood stands -/
theorem Inv.grow (I : Inv g N en Z e σ s) {h' : Heap} {t' : Nat} (k : Ext s.heap h') : Inv g N en Z e σ { s with heap := h', toks := t' } where
  ok := I.ok
  sh := ⟨fun b o q => k b o (I.sh.zh b o q), I.sh.bz, I.sh.tz, fun p hp => let ⟨ps, a, b⟩ := I.sh.th p hp; ⟨ps, k _ _ a, b⟩, I.sh.bare⟩
  fm := I.fm
  fz := I.fz
  fl := fun a ha => let ⟨o, q⟩ := I.fl a ha; ⟨o, k a o q⟩
  sees := I.sees.keep fun a _ o q => k a o q
  len := I.len
  elen := I.elen
  rep := fun i w h => let ⟨v, a, b⟩ := I.rep i w h; ⟨v, a, b.keep (fun _ _ q => q) fun _ a _ _ o q => k a o q⟩
  inj := I.inj
  mine := I.mine
theorem Step.grow {h' : Heap} {t' : Nat} (k : Ext s.heap h') : Step g fr Z F s Z F { s with heap := h', toks := t' } :=
  ⟨fun _ _ q => q, fun a o q _ _ _ => k a o q, fun a o q => ⟨o, k a o q⟩, fun _ q => .inl q, fun _ _ q => .inl q, rfl, fun _ => ⟨h', t', rfl⟩⟩
theorem Inv.foot_at (I : Inv g N en Z e σ s) {a : Addr} (h : Foot σ e a) : ∃ o, s.heap.get? a = some o := by
  obtain ⟨i, xs, h1, h2⟩ := h
  obtain ⟨v, h3, b, its, n, e1, e2, _⟩ := I.rep i _ h1
  rw [h2] at h3
  cases h3
  cases e1
  exact ⟨_, e2⟩
/-- an address at which nothing stands is one's own -/
theorem Inv.new (I : Inv g N en Z e σ s) {a : Addr} (h : s.heap.get? a = none) : Mine g en Z a ∧ ¬ Foot σ e a := by
  refine ⟨⟨?_, fun q => ?_, fun p hp q => ?_⟩, fun q => ?_⟩
  · cases z : Z.get? a with
    | none => rfl
    | some o => rw [I.sh.zh a o z] at h; cases h
  · obtain ⟨o, z⟩ := I.fl a q
    rw [h] at z; cases z
  · obtain ⟨_, z, _⟩ := I.sh.th p hp
    rw [← q, h] at z; cases z
  · obtain ⟨o, z⟩ := I.foot_at q
    rw [h] at z; cases z
theorem get_size (h : Heap) : h.get? h.objs.size = none := Heap.get?_none_of_le (Nat.le_refl _)
/-- an object of one's own, that no slot holds, stays from now on -/
theorem Inv.fix (I : Inv g N en Z e σ s) {a : Addr} {o : Obj} (h : s.heap.get? a = some o) (m : Mine g en Z a) (n : ¬ Foot σ e a) :
    ∃ Z', Ext Z Z' ∧ Z'.get? a = some o ∧ (∀ b u, Z'.get? b = some u → Z.get? b = some u ∨ b = a) ∧ Inv g N en Z' e σ s := by
  obtain ⟨Z', z1, z2⟩ := L2.restrict s.heap fun b => decide (b = a) || (Z.get? b).isSome
  have ez : Ext Z Z' := fun b u q => by
    rw [z1 b (by simp [q])]
    exact I.sh.zh b u q
  have ea : Z'.get? a = some o := by rw [z1 a (by simp)]; exact h
  have back : ∀ b u, Z'.get? b = some u → Z.get? b = some u ∨ b = a := fun b u q => by
    cases c : decide (b = a) || (Z.get? b).isSome with
    | false => rw [z2 b c] at q; cases q
    | true =>
      rw [z1 b c] at q
      by_cases hb : b = a
      · exact .inr hb
      · simp only [hb, decide_false, Bool.false_or, Option.isSome_iff_exists] at c
        obtain ⟨w, hw⟩ := c
        rw [I.sh.zh b w hw] at q
        cases q
        exact .inl hw
  have zn : ∀ b, Z.get? b = none → b ≠ a → Z'.get? b = none := fun b q hb => by
    cases w : Z'.get? b with
    | none => rfl
    | some u =>
      rcases back b u w with x | x
      · rw [q] at x; cases x
      · exact absurd x hb
  have sub : ∀ b u, Z'.get? b = some u → s.heap.get? b = some u := fun b u q => by
    cases c : decide (b = a) || (Z.get? b).isSome with
    | false => rw [z2 b c] at q; cases q
    | true => rw [z1 b c] at q; exact q
  refine ⟨Z', ez, ea, back, I.ok, ⟨sub, fun b u q => ez b u (I.sh.bz b u q), fun p hp => zn _ (I.sh.tz p hp) fun q => m.2.2 p hp q.symm, fun p hp => let ⟨ps, a, b⟩ := I.sh.th p hp; ⟨ps, a, b.ext ez⟩, I.sh.bare⟩, I.fm, fun b hb => ⟨zn b (I.fz b hb).1 fun q => m.2.1 (q ▸ hb), (I.fz b hb).2⟩, I.fl, I.sees, I.len, I.elen,
    fun i w q => let ⟨v, x, y⟩ := I.rep i w q; ⟨v, x, y.keep ez fun _ _ _ _ _ z => z⟩, I.inj, fun b hb => ?_⟩
  obtain ⟨m1, m2, m3⟩ := I.mine b hb
  exact ⟨zn b m1 fun q => n (q ▸ hb), m2, m3⟩
/-- a result without a list of its own -/
theorem Post.data {d : PyData} (st : Step g [] Z F s Z1 (Foot σ e1) s1) (I : Inv g N en Z1 e1 σ s1) (h : Fz Z1 d v) : Post g N en σ Z F s e1 (.v (.d d)) v s1 := by
  refine ⟨Z1, st.less fun a q => ?_, I, h, fun a ha => ?_⟩
  · rcases q with q | q
    · exact q
    · obtain ⟨⟨_, q⟩, _⟩ := footR_v q; cases q
  · obtain ⟨⟨_, q⟩, _⟩ := footR_v ha; cases q
/-- a new list of one's own -/
theorem Inv.newLst (I : Inv g N en Z e σ s) {ds : List PyData} {its : List Value} {n t' : Nat} {h' : Heap} {a : Addr} (k : Ext s.heap h') (na : s.heap.get? a = none) (ha : h'.get? a = some (LstO its n)) (f : FzA Z ds its) (hl : its.length ≤ sizeLine) :
    Post g N en σ Z (Foot σ e) s e (.v (.own ds)) (.ref a) { s with heap := h', toks := t' } := by
  refine ⟨Z, ⟨fun _ _ q => q, fun a o q _ _ _ => k a o q, fun a o q => ⟨o, k a o q⟩, fun b q => ?_, fun _ _ q => .inl q, rfl, fun _ => ⟨_, _, rfl⟩⟩, I.grow k, ⟨_, its, n, rfl, ha, hl, f⟩, fun b hb => ?_⟩
  · rcases q with q | ⟨_, _, q⟩
    · exact .inl q
    · cases q; exact .inr na
  · obtain ⟨_, q⟩ := footR_v hb
    cases q
    exact I.new na
/-- a new tuple -/
theorem Inv.newTup (I : Inv g N en Z e σ s) {ds : List PyData} {its : List Value} {n t' : Nat} {h' : Heap} {a : Addr} (k : Ext s.heap h') (na : s.heap.get? a = none) (ha : h'.get? a = some (TupO its n)) (f : FzA Z ds its) (hl : its.length ≤ sizeLine) :
    Post g N en σ Z (Foot σ e) s e (.v (.d (.tuple ds))) (.ref a) { s with heap := h', toks := t' } := by
  obtain ⟨m, nf⟩ := I.new na
  obtain ⟨Z', ez, ea, back, I'⟩ := (I.grow (t' := t') k).fix (a := a) ha m nf
  refine .data ⟨ez, fun a o q _ _ _ => k a o q, fun a o q => ⟨o, k a o q⟩, fun a q => .inl q, fun b u q => (back b u q).imp_right fun z => .inr (by rw [z]; exact na), rfl, fun _ => ⟨_, _, rfl⟩⟩ I' (.tup ea hl (f.ext ez))
theorem Inv.pushLst (I : Inv g N en Z e σ s) {ds : List PyData} {its : List Value} {n t' : Nat} (f : FzA Z ds its) (hl : its.length ≤ sizeLine) :
    Post g N en σ Z (Foot σ e) s e (.v (.own ds)) (.ref s.heap.objs.size) { s with heap := s.heap.push (LstO its n), toks := t' } :=
  I.newLst (fun b o q => Heap.get?_push_of_some _ q) (get_size _) (Heap.get?_push_size _ rfl) f hl
theorem Inv.pushTup (I : Inv g N en Z e σ s) {ds : List PyData} {its : List Value} {n t' : Nat} (f : FzA Z ds its) (hl : its.length ≤ sizeLine) :
    Post g N en σ Z (Foot σ e) s e (.v (.d (.tuple ds))) (.ref s.heap.objs.size) { s with heap := s.heap.push (TupO its n), toks := t' } :=
  I.newTup (fun b o q => Heap.get?_push_of_some _ q) (get_size _) (Heap.get?_push_size _ rfl) f hl
theorem Post.after {r' : R} {v' : Value} (st : Step g [] Z F s Z1 F1 s1) (hF : ∀ a, Foot σ e1 a → F1 a) (p : Post g N en σ Z1 (Foot σ e1) s1 e' r' v' s') : Post g N en σ Z F s e' r' v' s' := by
  obtain ⟨Z', a, b, c⟩ := p
  exact ⟨Z', (st.less hF).trans a, b, c⟩
theorem Inv.hereG (I : Inv g N en Z e σ s) {d : PyData} {h' : Heap} {t' : Nat} (k : Ext s.heap h') (h : Fz Z d v) : Post g N en σ Z (Foot σ e) s e (.v (.d d)) v { s with heap := h', toks := t' } :=
  .data (Step.grow k) (I.grow k) h
theorem Inv.here (I : Inv g N en Z e σ s) {d : PyData} {t' : Nat} (h : Fz Z d v) : Post g N en σ Z (Foot σ e) s e (.v (.d d)) v { s with toks := t' } :=
  I.hereG (h' := s.heap) (t' := t') (fun _ _ q => q) h
end
end Mini

-- M4
set_option Elab.async false
set_option linter.all false
set_option maxRecDepth 100000
/-! Mini 4: operators, by their things. -/
namespace Mini
open PySem PyProof.Rows

abbrev WP {α : Type} (g : G) (A : Around) (t : Sem α) (Q : α → Shared → Prop) (s : Shared) : Prop := wpAny (model g.P g.w) A t Q (fun _ _ => False) s
theorem szOk_iff {n : Nat} : szOk n = true ↔ n ≤ sizeLine := by
  simp only [szOk, sizeLine_is, decide_eq_true_eq]
  omega
def bopOf : Bop → Operator
  | .add => .Add | .sub => .Sub | .mul => .Mult | .fdiv => .FloorDiv | .mod => .Mod | .pow => .Pow
def copOf : Cop → CmpOp
  | .eq => .Eq | .ne => .NotEq | .lt => .Lt | .le => .LtE | .gt => .Gt | .ge => .GtE | .is => .Is | .isnot => .IsNot | .isin => .In | .notin => .NotIn

section
variable {g : G} {N : List Str} {en : PySem.Env} {Z : Heap} {e : Env} {σ : List (Option Value)} {s : Shared} {A : Around} {v u : Value} {w1 w2 w : W}

/-- copies put one behind the other -/
theorem flat_rep (l : List Value) (m : Nat) : List.foldl (· ++ ·) #[] (List.replicate m l.toArray) = (List.replicate m l).flatten.toArray := by
  simpa using L2.foldl_rep l m []
theorem mul_lst {l : Addr} {its : List Value} {n : Nat} {k : Int} {t : Tok} {Q : Value → Shared → Prop} (e : s.heap.get? l = some (LstO its n)) (h1 : -(2 ^ 62) < k) (h2 : k < 2 ^ 62) (hz : its.length * k.toNat ≤ sizeLine)
    (h : Q (.ref s.heap.objs.size) { s with heap := s.heap.push (LstO (List.replicate k.toNat its).flatten 0) }) : WP g A (binaryOp .Mult (.ref l) (.int k t)) Q s := by
  have sz : its.toArray.size = its.length := List.size_toArray
  have a1 : ¬ (!Builtin.List.listFitsIndex k) = true := by simp [fitsIndex_both (show -(2 ^ 63) ≤ k by omega) (show k < 2 ^ 63 by omega)]
  have a2 : ¬ (its.toArray.size * k.toNat > (2 ^ 63 - 1) / 8) := by rw [sz]; have := sizeLine_is; omega
  have a3 : ¬ (Builtin.List.listTooLong (its.toArray.size * k.toNat) = true) := by rw [sz, L2.notLongL hz]; simp
  have fin : List.foldl (· ++ ·) #[] (List.replicate (if its.toArray.isEmpty = true then 0 else k.toNat) its.toArray) = (List.replicate k.toNat its).flatten.toArray := by
    rw [flat_rep]
    cases its <;> simp
  have run := AutoListH.list___mul___list_int_3 l its.toArray n k t a1 a2 a3
  have inner := int___rmul___int_list k t l its.toArray n
  refine wpAny_binaryOp_repeat_ref (T := "list") (U := "int") (by decide) ⟨_, e, rfl⟩ (fun s' => ?_) noFill_list_mul F.fills_int_mul F.slot_int_rmul repeat_list F.slot_int_index.lookup ?_
  · exact typeIs_int s' k t
  · refine call_meets F.slot_int_rmul ?_ F.entry_int_rmul (F.args_int_rmul_2 _ _) inner ⟨e, rfl, ⟨_, e, rfl⟩, ?_⟩
    · exact typeIs_int s k t
    · refine call_meets F.slot_list_mul ⟨_, e, rfl⟩ F.entry_list_mul (F.args_list_mul_2 _ _) run ⟨e, ?_⟩
      rw [fin]
      exact h
theorem mul_tup {l : Addr} {its : List Value} {n : Nat} {k : Int} {t : Tok} {Q : Value → Shared → Prop} (e : s.heap.get? l = some (TupO its n)) (h1 : 1 < k) (h2 : k ≤ 1000) (h3 : 0 < its.length) (hz : its.length ≤ 1000)
    (h : Q (.ref s.heap.objs.size) { s with heap := s.heap.push (TupO (List.replicate k.toNat its).flatten 0) }) : WP g A (binaryOp .Mult (.ref l) (.int k t)) Q s := by
  have sz : its.toArray.size = its.length := List.size_toArray
  have ne : its.toArray.isEmpty = false := by cases its with
    | nil => simp at h3
    | cons a r => rfl
  have le : (its.length : Int) * k ≤ 1000 * 1000 := Int.mul_le_mul (by omega) h2 (by omega) (by omega)
  have ln : its.length * k.toNat ≤ 1000 * 1000 := Nat.mul_le_mul hz (by omega)
  have a1 : (decide (k < -(2 ^ 63)) || decide (k ≥ 2 ^ 63)) = false := by rw [Bool.or_eq_false_iff]; exact ⟨decide_eq_false (by omega), decide_eq_false (by omega)⟩
  have a2 : (its.toArray.isEmpty || k == 1) = false := by rw [ne, Bool.false_or]; exact beq_eq_false_iff_ne.mpr (by omega)
  have a3 : (decide (k ≤ 0) || its.toArray.isEmpty) = false := by rw [ne, Bool.or_false]; exact decide_eq_false (by omega)
  have a4 : ¬ ((its.toArray.size : Nat) : Int) * k > (2 ^ 63 - 1) / 8 := by rw [sz]; omega
  have a5 : Builtin.Tuple.tupleTooMany (((its.toArray.size : Nat) : Int) * k) = false := by
    unfold Builtin.Tuple.tupleTooMany
    rw [sizeLine_is, sz]
    exact decide_eq_false (by omega)
  have a6 : (List.foldl (fun x1 x2 => x1 ++ x2) #[] (List.replicate k.toNat its.toArray)).size ≤ sizeLine := by
    rw [flat_rep, List.size_toArray, lm_len_rep_flat, Nat.mul_comm, sizeLine_is]
    omega
  have run := L2.tuple_mulW l its.toArray n none #[] k t a1 a2 a3 a4 a5 a6
  refine wpAny_binaryOp_repeat_ref (T := "tuple") (U := "int") (by decide) ⟨_, e, rfl⟩ (fun s' => typeIs_int s' k t) L2.noFill_tuple_mul F.fills_int_mul F.slot_int_rmul L2.repeat_tuple F.slot_int_index.lookup ?_
  refine call_meets F.slot_int_rmul (typeIs_int s k t) F.entry_int_rmul (F.args_int_rmul_2 _ _) (L2.int_rmul_tuple k t l its.toArray n none #[]) ⟨e, rfl, ⟨_, e, rfl⟩, ?_⟩
  refine call_meets F.slot_tuple_mul ⟨_, e, rfl⟩ F.entry_tuple_mul (F.args_tuple_mul_2 _ _) run ⟨e, ?_⟩
  rw [flat_rep]
  exact h

section
open PySem.Spec
theorem tuple_mul1 (l : Addr) (items : Array Value) (n : Nat) (dd : Option Addr) (sl : Array (Option Value)) (u : Tok) :
    Meets (Builtin.«tuple.__mul__» ⟨[.ref l, .int 1 u], []⟩) (fun _ R s => s.heap.get? l = some { cls := .type "tuple", dict := dd, data := .seq items n, slots := sl } ∧
      R (.ok (.ret (Value.ref l))) s) :=
  .of_wp fun prog w A R s h => by
    obtain ⟨hp, g, d, tk, os⟩ := s
    obtain ⟨hl, h⟩ := h
    have f1 := AutoSeq1.idx_int
    wp_walk using wpAny_loadPart' hl
    exact ⟨_, rfl, h⟩
theorem tuple_mul0 (l : Addr) (items : Array Value) (n : Nat) (dd : Option Addr) (sl : Array (Option Value)) (x : Int) (u : Tok) (c0 : (decide (x < -(2 ^ 63)) || decide (x ≥ 2 ^ 63)) = false) (c1 : (items.isEmpty || x == 1) = false) (c2 : (decide (x ≤ 0) || items.isEmpty) = true) :
    Meets (Builtin.«tuple.__mul__» ⟨[.ref l, .int x u], []⟩) (fun _ R s => s.heap.get? l = some { cls := .type "tuple", dict := dd, data := .seq items n, slots := sl } ∧
      R (.ok (.ret (Value.ref s.heap.objs.size))) { s with heap := s.heap.push { cls := Value.type "tuple", data := Data.seq #[] }, toks := s.toks }) :=
  .of_wp fun prog w A R s h => by
    obtain ⟨hp, g, d, tk, os⟩ := s
    obtain ⟨hl, h⟩ := h
    have f1 := AutoSeq1.idx_int
    wp_walk using wpAny_loadPart' hl
    repeat (first
      | (refine wpAny_ite_false (decide_eq_false (by rw [c0]; exact Bool.false_ne_true)) ?_; wp_walk using wpAny_loadPart' hl)
      | (refine wpAny_ite_false (decide_eq_false (by rw [c1]; exact Bool.false_ne_true)) ?_; wp_walk using wpAny_loadPart' hl)
      | (refine wpAny_ite_true (decide_eq_true (by rw [c2])) ?_; wp_walk using wpAny_loadPart' hl))
    exact ⟨_, rfl, h⟩
end
theorem mul_tup1 {l : Addr} {its : List Value} {n : Nat} {t : Tok} {Q : Value → Shared → Prop} (e : s.heap.get? l = some (TupO its n)) (h : Q (.ref l) s) : WP g A (binaryOp .Mult (.ref l) (.int 1 t)) Q s := by
  refine wpAny_binaryOp_repeat_ref (T := "tuple") (U := "int") (by decide) ⟨_, e, rfl⟩ (fun s' => typeIs_int s' 1 t) L2.noFill_tuple_mul F.fills_int_mul F.slot_int_rmul L2.repeat_tuple F.slot_int_index.lookup ?_
  refine call_meets F.slot_int_rmul (typeIs_int s 1 t) F.entry_int_rmul (F.args_int_rmul_2 _ _) (L2.int_rmul_tuple 1 t l its.toArray n none #[]) ⟨e, rfl, ⟨_, e, rfl⟩, ?_⟩
  exact call_meets F.slot_tuple_mul ⟨_, e, rfl⟩ F.entry_tuple_mul (F.args_tuple_mul_2 _ _) (tuple_mul1 l its.toArray n none #[] t) ⟨e, h⟩
theorem mul_tup0 {l : Addr} {its : List Value} {n : Nat} {k : Int} {t : Tok} {Q : Value → Shared → Prop} (e : s.heap.get? l = some (TupO its n)) (h1 : k ≤ 0) (h2 : -1000 ≤ k) (h3 : 0 < its.length)
    (h : Q (.ref s.heap.objs.size) { s with heap := s.heap.push (TupO [] 0) }) : WP g A (binaryOp .Mult (.ref l) (.int k t)) Q s := by
  have ne : its.toArray.isEmpty = false := by cases its with
    | nil => simp at h3
    | cons a r => rfl
  have a1 : (decide (k < -(2 ^ 63)) || decide (k ≥ 2 ^ 63)) = false := by rw [Bool.or_eq_false_iff]; exact ⟨decide_eq_false (by omega), decide_eq_false (by omega)⟩
  have a2 : (its.toArray.isEmpty || k == 1) = false := by rw [ne, Bool.false_or]; exact beq_eq_false_iff_ne.mpr (by omega)
  have a3 : (decide (k ≤ 0) || its.toArray.isEmpty) = true := by rw [ne, Bool.or_false]; exact decide_eq_true h1
  refine wpAny_binaryOp_repeat_ref (T := "tuple") (U := "int") (by decide) ⟨_, e, rfl⟩ (fun s' => typeIs_int s' k t) L2.noFill_tuple_mul F.fills_int_mul F.slot_int_rmul L2.repeat_tuple F.slot_int_index.lookup ?_
  refine call_meets F.slot_int_rmul (typeIs_int s k t) F.entry_int_rmul (F.args_int_rmul_2 _ _) (L2.int_rmul_tuple k t l its.toArray n none #[]) ⟨e, rfl, ⟨_, e, rfl⟩, ?_⟩
  exact call_meets F.slot_tuple_mul ⟨_, e, rfl⟩ F.entry_tuple_mul (F.args_tuple_mul_2 _ _) (tuple_mul0 l its.toArray n none #[] k t a1 a2 a3) ⟨e, h⟩
theorem len_flat {α : Type} (n : Nat) (l : List α) : (List.replicate n l).flatten.length = l.length * n := by
  induction n with
  | zero => rfl
  | succ n ih => rw [List.replicate_succ, List.flatten_cons, List.length_append, ih, Nat.mul_succ, Nat.add_comm]

/-- a binary operator -/
theorem no_pylong {i j : Int} (h : j.natAbs / 1073741824 < 1073741824) : Builtin.divisionGoesByPylong i j = false := by
  have h1 : j.natAbs < 2 ^ 60 := by
    have : (2 : Nat) ^ 60 = 1073741824 * 1073741824 := by decide
    omega
  have h2 : j.natAbs.log2 < 60 := by
    rcases Nat.eq_zero_or_pos j.natAbs with z | z
    · rw [z]; decide
    · exact (Nat.log2_lt (by omega)).mpr h1
  unfold Builtin.divisionGoesByPylong
  simp only [Bool.and_eq_false_iff]
  refine .inl ?_
  split
  · rfl
  · rw [decide_eq_false_iff_not]
    omega
theorem bin_ok {o : Bop} (I : Inv g N en Z e σ s) (r1 : Rep Z s.heap v w1) (r2 : Rep Z s.heap u w2) (h : binop o w1.data w2.data = some w) :
    WP g A (binaryOp (bopOf o) v u) (Post g N en σ Z (Foot σ e) s e (.v w)) s := by
  generalize e1 : w1.data = x at h
  generalize e2 : w2.data = y at h
  have zx := I.sh.zh
  unfold binop at h
  split at h
  all_goals (try (cases h; done))
  · -- ints: +
    obtain ⟨t, rfl⟩ := (r1.flat e1 (by simp)).int_inv
    obtain ⟨t', rfl⟩ := (r2.flat e2 (by simp)).int_inv
    cases h
    exact add_int (I.here .int)
  · obtain ⟨t, rfl⟩ := (r1.flat e1 (by simp)).int_inv
    obtain ⟨t', rfl⟩ := (r2.flat e2 (by simp)).int_inv
    cases h
    exact sub_int (I.here .int)
  · obtain ⟨t, rfl⟩ := (r1.flat e1 (by simp)).int_inv
    obtain ⟨t', rfl⟩ := (r2.flat e2 (by simp)).int_inv
    split at h
    · rename_i c
      cases h
      exact PyProof.Rows.mul_int (I.here .int) (c.elim .of_right .of_left)
    · cases h
  · obtain ⟨t, rfl⟩ := (r1.flat e1 (by simp)).int_inv
    obtain ⟨t', rfl⟩ := (r2.flat e2 (by simp)).int_inv
    split at h
    · rename_i c
      cases h
      exact floordiv_int c.1 (I.here .int) (.inl (no_pylong c.2))
    · cases h
  · obtain ⟨t, rfl⟩ := (r1.flat e1 (by simp)).int_inv
    obtain ⟨t', rfl⟩ := (r2.flat e2 (by simp)).int_inv
    split at h
    · rename_i c
      cases h
      exact PyProof.Rows.mod_int c (I.here .int)
    · cases h
  · obtain ⟨t, rfl⟩ := (r1.flat e1 (by simp)).int_inv
    obtain ⟨t', rfl⟩ := (r2.flat e2 (by simp)).int_inv
    split at h
    · rename_i c
      cases h
      exact pow_int_small c.1 (by omega) (by omega) (I.here .int)
    · cases h
  · -- lists: +
    obtain ⟨a, its, n, rfl, h1, l1, f1⟩ := r1.list zx e1
    obtain ⟨b, its2, n2, rfl, h2, l2, f2⟩ := r2.list zx e2
    split at h
    · rename_i c
      cases h
      have c' := szOk_iff.mp c
      rw [← f1.length, ← f2.length] at c'
      refine P.add_list h1 h2 ?_ (by simpa using c')
      have q := I.pushLst (n := 0) (t' := s.toks) (f1.append f2) (by simpa using c')
      simpa using q
    · cases h
  · obtain ⟨a, its, n, rfl, h1, l1, f1⟩ := r1.tuple zx e1
    obtain ⟨b, its2, n2, rfl, h2, l2, f2⟩ := r2.tuple zx e2
    split at h
    · rename_i c
      cases h
      have c' := szOk_iff.mp c
      rw [← f1.length, ← f2.length] at c'
      have p1 : IsTup s.heap a its.toArray := ⟨_, h1, rfl, n, rfl⟩
      have p2 : IsTup s.heap b its2.toArray := ⟨_, h2, rfl, n2, rfl⟩
      by_cases hn : its = []
      · subst hn
        refine L2.cat_tup0 p1 p2 ?_
        have : ‹List PyData› = ‹List PyData› := rfl
        have z := List.eq_nil_of_length_eq_zero (f1.length.symm)
        rw [z, List.nil_append]
        exact I.here (s := s) (t' := s.toks) (r2.flat e2 (by simp))
      · refine HT.cat_tup p1 p2 hn (fun hm => ?_) (fun _ => ?_) c'
        · subst hm
          have z := List.eq_nil_of_length_eq_zero (f2.length.symm)
          rw [z, List.append_nil]
          exact I.here (s := s) (t' := s.toks) (r1.flat e1 (by simp))
        · exact I.pushTup (n := 0) (t' := s.toks) (f1.append f2) (by simpa using c')
    · cases h
  · obtain ⟨a, its, n, rfl, h1, l1, f1⟩ := r1.list zx e1
    obtain ⟨t', rfl⟩ := (r2.flat e2 (by simp)).int_inv
    split at h
    · rename_i c
      cases h
      have c' := szOk_iff.mp c.1
      rw [← f1.length] at c'
      exact mul_lst h1 (by omega) (by omega) c' (I.pushLst (n := 0) (t' := s.toks) (f1.flat _) (by rw [len_flat]; exact c'))
    · cases h
  · obtain ⟨a, its, n, rfl, h1, l1, f1⟩ := r1.tuple zx e1
    obtain ⟨t', rfl⟩ := (r2.flat e2 (by simp)).int_inv
    split at h
    · rename_i xs jj c
      cases h
      rw [← f1.length] at c
      rcases Int.lt_or_le 1 jj with c1 | c1
      · refine mul_tup h1 c1 c.2.2.2 c.1 c.2.1 (I.pushTup (n := 0) (t' := s.toks) (f1.flat _) ?_)
        have : its.length * (Int.toNat _) ≤ 1000 * 1000 := Nat.mul_le_mul c.2.1 (Int.toNat_le.mpr c.2.2.2)
        rw [len_flat, sizeLine_is]
        omega
      · by_cases c2 : jj = 1
        · subst c2
          refine mul_tup1 h1 ?_
          have := I.here (s := s) (t' := s.toks) (r1.flat e1 (by simp))
          simpa using this
        · have z : jj.toNat = 0 := Int.toNat_eq_zero.mpr (by omega)
          rw [z]
          exact mul_tup0 h1 (by omega) c.2.2.1 c.1 (I.pushTup (n := 0) (t' := s.toks) (ds := []) .nil (by simp))
    · cases h
mutual
theorem Fz.plain : ∀ {d : PyData} {v : Value}, Fz Z d v → d.plain = true
  | .none, _, _ => rfl
  | .bool _, _, _ => rfl
  | .int _, _, _ => rfl
  | .str _, _, _ => rfl
  | .list xs, v, x => by
    obtain ⟨_, _, _, _, _, _, y⟩ := x.lst_inv
    exact (FzA.plain y : PyData.plainAll xs = true)
  | .tuple xs, v, x => by
    obtain ⟨_, _, _, _, _, _, y⟩ := x.tup_inv
    exact (FzA.plain y : PyData.plainAll xs = true)
  | .dict _, _, x => by simp only [Fz] at x
theorem FzA.plain : ∀ {ds : List PyData} {vs : List Value}, FzA Z ds vs → PyData.plainAll ds = true
  | [], _, _ => rfl
  | d :: ds, vs, x => by
    obtain ⟨v, vs', _, a, b⟩ := x.cons_inv
    simp [PyData.plainAll, Fz.plain a, FzA.plain b]
end
theorem Rep.plain {h : Heap} (x : Rep Z h v w) : w.data.plain = true := by
  cases w with
  | d d => exact Fz.plain x
  | own xs =>
    obtain ⟨a, its, n, _, _, _, f⟩ := x
    exact (f.plain : PyData.plainAll xs = true)
theorem Rep.none_iff {h : Heap} (x : Rep Z h v w) : (v == Value.none) = (match w.data with | .none => true | _ => false) := by
  have nr : ∀ a : Addr, (Value.ref a == Value.none) = false := fun a => rfl
  cases w with
  | own xs =>
    obtain ⟨a, its, n, rfl, _⟩ := x
    exact nr a
  | d d =>
    cases d with
    | none =>
      have x' : Fz Z .none v := x
      rw [x'.none_inv]; rfl
    | bool b =>
      have x' : Fz Z (.bool b) v := x
      rw [x'.bool_inv]; rfl
    | int i => obtain ⟨t, rfl⟩ := Fz.int_inv (Z := Z) x; rfl
    | str z => obtain ⟨_, t, rfl⟩ := Fz.str_inv (Z := Z) x; rfl
    | list xs => obtain ⟨a, _, _, rfl, _⟩ := Fz.lst_inv (Z := Z) x; exact nr a
    | tuple xs => obtain ⟨a, _, _, rfl, _⟩ := Fz.tup_inv (Z := Z) x; exact nr a
    | dict kvs => exact absurd (show Fz Z (.dict kvs) v from x) (by simp [Fz])

/-- a comparison -/
theorem cmp_ok {o : Cop} {b : Bool} (I : Inv g N en Z e σ s) (hu : A.units + 200 < cLine) (r1 : Rep Z s.heap v w1) (r2 : Rep Z s.heap u w2) (h : cmpop o w1.data w2.data = some b) :
    WP g A (compareOp (copOf o) v u) (fun x s' => x = .bool b ∧ s' = s) s := by
  obtain ⟨as, q1⟩ := r1.reads I.sh.zh
  obtain ⟨bs, q2⟩ := r2.reads I.sh.zh
  have p1 := r1.plain
  have p2 := r2.plain
  have n1 := r1.none_iff
  generalize e1 : w1.data = x at h q1 p1 n1
  generalize e2 : w2.data = y at h q2 p2
  unfold cmpop at h
  split at h
  all_goals (try (cases h; done))
  · obtain ⟨t, rfl⟩ := (r1.flat e1 (by simp)).int_inv
    obtain ⟨t', rfl⟩ := (r2.flat e2 (by simp)).int_inv
    cases h
    exact PyProof.Rows.lt_int ⟨rfl, rfl⟩
  · obtain ⟨t, rfl⟩ := (r1.flat e1 (by simp)).int_inv
    obtain ⟨t', rfl⟩ := (r2.flat e2 (by simp)).int_inv
    cases h
    exact PyProof.Rows.le_int ⟨rfl, rfl⟩
  · obtain ⟨t, rfl⟩ := (r1.flat e1 (by simp)).int_inv
    obtain ⟨t', rfl⟩ := (r2.flat e2 (by simp)).int_inv
    cases h
    exact PyProof.Rows.gt_int ⟨rfl, rfl⟩
  · obtain ⟨t, rfl⟩ := (r1.flat e1 (by simp)).int_inv
    obtain ⟨t', rfl⟩ := (r2.flat e2 (by simp)).int_inv
    cases h
    exact PyProof.Rows.ge_int ⟨rfl, rfl⟩
  · obtain ⟨t, rfl⟩ := (r1.flat e1 (by simp)).int_inv
    obtain ⟨t', rfl⟩ := (r2.flat e2 (by simp)).int_inv
    cases h
    exact PyProof.Rows.eq_int ⟨rfl, rfl⟩
  · obtain ⟨t, rfl⟩ := (r1.flat e1 (by simp)).int_inv
    obtain ⟨t', rfl⟩ := (r2.flat e2 (by simp)).int_inv
    cases h
    exact PyProof.Rows.ne_int ⟨rfl, rfl⟩
  · split at h
    · cases h
      exact SeqAt.eq_plain q1 q2 p1 p2 (by omega) ⟨rfl, rfl⟩
    · cases h
  · split at h
    · cases h
      exact SeqAt.ne_plain q1 q2 p1 p2 (by omega) ⟨rfl, rfl⟩
    · cases h
  · obtain rfl := (r2.flat e2 (by simp)).none_inv
    cases h
    exact is_none_gen ⟨by rw [n1], rfl⟩
  · obtain rfl := (r2.flat e2 (by simp)).none_inv
    cases h
    refine is_none_gen ⟨?_, rfl⟩
    rw [n1]
    split <;> simp_all
  · obtain rfl := (r2.flat e2 (by simp)).none_inv
    cases h
    exact isnot_none_gen ⟨by rw [n1]; rfl, rfl⟩
  · obtain rfl := (r2.flat e2 (by simp)).none_inv
    cases h
    refine isnot_none_gen ⟨?_, rfl⟩
    rw [n1]
    split <;> simp_all
  · split at h
    · cases h
      exact SeqAt.in_list_data q2 q1 p2 p1 (by omega) ⟨rfl, rfl⟩
    · cases h
  · split at h
    · cases h
      exact SeqAt.in_tuple_data q2 q1 p2 p1 (by omega) ⟨rfl, rfl⟩
    · cases h
  · split at h
    · cases h
      exact SeqAt.notIn_list_data q2 q1 p2 p1 (by omega) ⟨rfl, rfl⟩
    · cases h
  · split at h
    · cases h
      exact SeqAt.notIn_tuple_data q2 q1 p2 p1 (by omega) ⟨rfl, rfl⟩
    · cases h
/-- a thing's truth -/
theorem truth_ok {b : Bool} (I : Inv g N en Z e σ s) (r1 : Rep Z s.heap v w1) (h : truth w1.data = some b) : WP g A (truthy v) (fun c s' => c = b ∧ ∃ t, s' = { s with toks := t }) s := by
  generalize e1 : w1.data = x at h
  unfold truth at h
  split at h
  all_goals (try (cases h; done))
  · obtain rfl := (r1.flat e1 (by simp)).none_inv
    cases h
    exact fun _ _ _ => ⟨rfl, s.toks, rfl⟩
  · obtain rfl := (r1.flat e1 (by simp)).bool_inv
    cases h
    exact wpAny_truthy_bool ⟨rfl, s.toks, rfl⟩
  · obtain ⟨t, rfl⟩ := (r1.flat e1 (by simp)).int_inv
    cases h
    exact PyProof.Rows.truthy_int ⟨rfl, s.toks, rfl⟩
  · obtain ⟨a, its, n, rfl, h1, l1, f1⟩ := r1.list I.sh.zh e1
    cases h
    refine wpAny_truthy_list ⟨_, h1, rfl, n, rfl⟩ (by have := sizeLine_is; simp; omega) ⟨?_, _, rfl⟩
    have := f1.length
    cases its <;> cases ‹List PyData› <;> simp_all
  · obtain ⟨a, its, n, rfl, h1, l1, f1⟩ := r1.tuple I.sh.zh e1
    cases h
    refine truthy_tuple ⟨_, h1, rfl, n, rfl⟩ (by have := sizeLine_is; simp; omega) ⟨?_, _, rfl⟩
    have := f1.length
    cases its <;> cases ‹List PyData› <;> simp_all
/-- an item -/
theorem idx_ok {d : PyData} {value sl : Expr} (I : Inv g N en Z e σ s) (r1 : Rep Z s.heap v w1) (r2 : Rep Z s.heap u w2) (h : index w1.data w2.data = some d)
    (hs : ∀ o i, subscripted sl false o i = operate [o, i] (getItem o i)) : WP g A (subscriptTail value sl v u) (Post g N en σ Z (Foot σ e) s e (.v (.d d))) s := by
  generalize e1 : w1.data = x at h
  generalize e2 : w2.data = y at h
  have line := sizeLine_is
  unfold index at h
  split at h
  all_goals (try (cases h; done))
  · obtain ⟨a, its, n, rfl, h1, l1, f1⟩ := r1.list I.sh.zh e1
    obtain ⟨t, rfl⟩ := (r2.flat e2 (by simp)).int_inv
    obtain ⟨j, k1, k2, k3, k4, k5⟩ := L2.atI_get h
    obtain ⟨z, ez, fz⟩ := f1.get k2
    have len := f1.length
    have il : s.heap.IsList a its.toArray := ⟨_, h1, rfl, n, rfl⟩
    refine subscriptTail_builtinR (x := z) ⟨_, h1, rfl⟩ slot_list_getitem.lookup ?_ (hs _ _)
    rename_i xs i
    by_cases c : 0 ≤ i
    · have q : i.toNat = j := Option.some.inj ((seqIndex_of c k5).symm.trans k1)
      refine wpAny_getItem_list il c (by omega) (by rw [q]; simpa using ez) ⟨rfl, I.here (t' := s.toks) fz⟩
    · have q : (i + (xs.length : Int)).toNat = j := Option.some.inj ((seqIndex_neg (by omega) k4).symm.trans k1)
      refine wpAny_getItem_list_neg il (by omega) (by rw [List.size_toArray]; omega) (by omega) (by rw [List.size_toArray, len, q]; simpa using ez) ⟨rfl, I.here (t' := s.toks) fz⟩
  · obtain ⟨a, its, n, rfl, h1, l1, f1⟩ := r1.tuple I.sh.zh e1
    obtain ⟨t, rfl⟩ := (r2.flat e2 (by simp)).int_inv
    obtain ⟨j, k1, k2, k3, k4, k5⟩ := L2.atI_get h
    obtain ⟨z, ez, fz⟩ := f1.get k2
    have len := f1.length
    refine subscriptTail_builtinR (x := z) ⟨_, h1, rfl⟩ slot_tuple_getitem.lookup ?_ (hs _ _)
    exact PyProof.Rows.getItem_tuple (by exact ⟨_, h1, rfl, n, rfl⟩) (by omega) (by omega) (by rw [List.size_toArray, len]; exact k1) (by simpa using ez) ⟨rfl, I.here (t' := s.toks) fz⟩
/-- a part of a list, of a tuple -/
theorem part_is {h : Heap} {o : Option Int} {w : W} (r : Rep Z h v w) (h : part w.data = some o) : IsPart v o := by
  generalize e1 : w.data = x at h
  unfold part at h
  split at h
  · obtain rfl := (r.flat e1 (by simp)).none_inv
    cases h
    exact .none
  · obtain ⟨t, rfl⟩ := (r.flat e1 (by simp)).int_inv
    cases h
    exact .int _ _
  · cases h
theorem cut_len {α : Type} (l : List α) (a b : Nat) : ((l.drop a).take b).length ≤ l.length := by
  rw [List.length_take, List.length_drop]
  omega
theorem FzA.cut {xs : List PyData} {its : List Value} (f : FzA Z xs its) (lo hi : Option Int) : FzA Z (cut xs lo hi) ((its.drop (HT.sIx its.length 0 lo)).take (HT.sIx its.length its.length hi - HT.sIx its.length 0 lo)) := by
  unfold Mini.cut
  rw [f.length]
  exact (f.drop _).take _
theorem slice_inv {x y z : PyData} {w : W} (h : slice x y z = some w) : ∃ lo hi, part y = some lo ∧ part z = some hi ∧ ((∃ xs, x = .list xs ∧ w = .own (cut xs lo hi)) ∨ ∃ xs, x = .tuple xs ∧ w = .d (.tuple (cut xs lo hi))) := by
  unfold slice at h
  split at h
  · cases pa : part y with
    | none => rw [pa] at h; cases h
    | some lo =>
      cases pb : part z with
      | none => rw [pa, pb] at h; cases h
      | some hi => rw [pa, pb] at h; cases h; exact ⟨lo, hi, rfl, rfl, .inl ⟨_, rfl, rfl⟩⟩
  · cases pa : part y with
    | none => rw [pa] at h; cases h
    | some lo =>
      cases pb : part z with
      | none => rw [pa, pb] at h; cases h
      | some hi => rw [pa, pb] at h; cases h; exact ⟨lo, hi, rfl, rfl, .inr ⟨_, rfl, rfl⟩⟩
  · cases h
abbrev slcO (vl vh : Value) : Obj := { cls := .type "slice", data := .fields #[vl, vh, .none] }
theorem slc_ok {wl wh : W} {vl vh : Value} {value : Expr} {lo hi : Option Expr} {p : Pos} (I : Inv g N en Z e σ s) (r1 : Rep Z s.heap v w1) (rl : Rep Z s.heap vl wl) (rh : Rep Z s.heap vh wh)
    (h : slice w1.data wl.data wh.data = some w) :
    WP g A (subscriptTail value (.Slice lo hi none p) v (.ref s.heap.objs.size)) (Post g N en σ Z (Foot σ e) s e (.v w)) { s with heap := s.heap.push (slcO vl vh) } := by
  have k0 : Ext s.heap (s.heap.push (slcO vl vh)) := fun b o q => Heap.get?_push_of_some _ q
  have I1 := I.grow (t' := s.toks) k0
  have st1 : Step g [] Z (Foot σ e) s Z (Foot σ e) { s with heap := s.heap.push (slcO vl vh), toks := s.toks } := Step.grow k0
  have sl := Heap.IsSliceOf.new s.heap vl vh .none
  obtain ⟨lo', hi', pa, pb, c⟩ := slice_inv h
  have qa := part_is rl pa
  have qb := part_is rh pb
  rcases c with ⟨xs, e1, rfl⟩ | ⟨xs, e1, rfl⟩
  · obtain ⟨a, its, n, rfl, h1, l1, f1⟩ := r1.list I.sh.zh e1
    have g1 := k0 _ _ h1
    refine tail_any (ops := [.ref s.heap.objs.size, .ref a]) ⟨_, g1, rfl⟩ slot_list_getitem.lookup ?_ (by with_unfolding_all rfl)
    refine wpAny_getItem_list_slice (items := its.toArray) ⟨_, g1, rfl, n, rfl⟩ sl qa qb .none (by simp) ?_ (by rw [List.size_toArray]; exact l1)
    rw [L2.slicePick_cut]
    exact Post.after st1 (fun _ q => q) (I1.pushLst (n := 0) (t' := s.toks) (f1.cut lo' hi') (Nat.le_trans (cut_len _ _ _) l1))
  · obtain ⟨a, its, n, rfl, h1, l1, f1⟩ := r1.tuple I.sh.zh e1
    have fv := r1.flat e1 (by simp)
    have g1 := k0 _ _ h1
    have sz : its.toArray.size = its.length := List.size_toArray
    have it : IsTup (s.heap.push (slcO vl vh)) a its.toArray := ⟨_, g1, rfl, n, rfl⟩
    refine tail_any (ops := [.ref s.heap.objs.size, .ref a]) ⟨_, g1, rfl⟩ slot_tuple_getitem.lookup ?_ (by with_unfolding_all rfl)
    by_cases hw : HT.sIx its.toArray.size 0 lo' = 0 ∧ HT.sIx its.toArray.size its.toArray.size hi' = its.toArray.size
    · refine L2.getItem_tuple_whole it sl qa qb hw (Post.after st1 (fun _ q => q) ?_)
      rw [sz, f1.length] at hw
      have all : cut xs lo' hi' = xs := by
        unfold Mini.cut
        rw [hw.1, hw.2]
        simp
      rw [all]
      exact I1.here (t' := s.toks) fv
    · refine HT.getItem_tuple_cut it sl qa qb hw ?_ (by rw [sz]; exact l1)
      have q := Post.after st1 (fun _ q => q) (I1.pushTup (n := 0) (t' := s.toks) (f1.cut lo' hi') (Nat.le_trans (cut_len _ _ _) l1))
      simpa [sz] using q
end
end Mini

-- M5
set_option Elab.async false
set_option linter.all false
set_option maxRecDepth 100000
/-! Mini 5: built-ins, by their things. -/
namespace Mini
open PySem PyProof.Rows

section
variable {g : G} {N : List Str} {en : PySem.Env} {Z : Heap} {e : Env} {σ : List (Option Value)} {s : Shared} {A : Around} {v u : Value} {w1 w2 w : W}

def biName : Bi → Str
  | .len => "len" | .int => "int" | .tuple => "tuple" | .list => "list" | .sorted => "sorted" | .sum => "sum" | .max => "max" | .min => "min" | .max2 => "max" | .min2 => "min" | .abs => "abs"
def biV : Bi → Value
  | .len => .builtin "len" | .int => .type "int" | .tuple => .type "tuple" | .list => .type "list" | .sorted => .builtin "sorted" | .sum => .builtin "sum"
  | .max => .builtin "max" | .min => .builtin "min" | .max2 => .builtin "max" | .min2 => .builtin "min" | .abs => .builtin "abs"
inductive RepW (Z h : Heap) : List Value → List W → Prop
  | nil : RepW Z h [] []
  | cons {v w vs ws} : Rep Z h v w → RepW Z h vs ws → RepW Z h (v :: vs) (w :: ws)
theorem ints_are {Z : Heap} : ∀ {xs : List PyData} {its : List Value} {l : List Int}, FzA Z xs its → intsOf xs = some l → IntsAre its l
  | [], its, l, f, h => by
    rw [f.nil_inv]
    cases h
    exact .nil
  | x :: xs, its, l, f, h => by
    obtain ⟨v, vs, rfl, a, b⟩ := f.cons_inv
    cases x with
    | int i =>
      obtain ⟨t, rfl⟩ := a.int_inv
      cases q : intsOf xs with
      | none => simp [intsOf, q] at h
      | some l' =>
        simp [intsOf, q] at h
        subst h
        exact .cons _ _ (ints_are b q)
    | _ => simp [intsOf] at h
theorem maxI_spec : ∀ (r : List Int) (m : Int), maxI m r ∈ m :: r ∧ ∀ a ∈ m :: r, a ≤ maxI m r
  | [], m => by simp [maxI]
  | x :: r, m => by
    obtain ⟨h1, h2⟩ := maxI_spec r (if m < x then x else m)
    unfold maxI
    refine ⟨?_, fun a ha => ?_⟩
    · rcases List.mem_cons.mp h1 with q | q
      · rw [q]; split <;> simp
      · simp [q]
    · have b := h2 _ List.mem_cons_self
      rcases List.mem_cons.mp ha with rfl | ha
      · generalize maxI (if a < x then x else a) r = M at b
        split at b <;> omega
      · rcases List.mem_cons.mp ha with rfl | ha
        · generalize maxI (if m < a then a else m) r = M at b
          split at b <;> omega
        · exact h2 a (List.mem_cons_of_mem _ ha)
theorem minI_spec : ∀ (r : List Int) (m : Int), minI m r ∈ m :: r ∧ ∀ a ∈ m :: r, minI m r ≤ a
  | [], m => by simp [minI]
  | x :: r, m => by
    obtain ⟨h1, h2⟩ := minI_spec r (if x < m then x else m)
    unfold minI
    refine ⟨?_, fun a ha => ?_⟩
    · rcases List.mem_cons.mp h1 with q | q
      · rw [q]; split <;> simp
      · simp [q]
    · have b := h2 _ List.mem_cons_self
      rcases List.mem_cons.mp ha with rfl | ha
      · generalize minI (if x < a then x else a) r = M at b
        split at b <;> omega
      · rcases List.mem_cons.mp ha with rfl | ha
        · generalize minI (if a < m then a else m) r = M at b
          split at b <;> omega
        · exact h2 a (List.mem_cons_of_mem _ ha)
theorem extr_inv {f : Int → List Int → Int} {xs : List PyData} {d : PyData} (h : extr f xs = some d) : ∃ x r, intsOf xs = some (x :: r) ∧ d = .int (f x r) := by
  unfold extr at h
  cases q : intsOf xs with
  | none => rw [q] at h; cases h
  | some l =>
    rw [q] at h
    cases l with
    | nil => cases h
    | cons x r => cases h; exact ⟨x, r, rfl, rfl⟩
theorem items_inv {x : PyData} {xs : List PyData} (h : items x = some xs) : x = .list xs ∨ x = .tuple xs := by
  unfold items at h
  split at h
  · cases h; exact .inl rfl
  · cases h; exact .inr rfl
  · cases h
theorem RepW.one {h : Heap} {vs : List Value} {ws : List W} {d : PyData} (r : RepW Z h vs ws) (e : ws.map W.data = [d]) : ∃ v w, vs = [v] ∧ w.data = d ∧ Rep Z h v w := by
  cases r with
  | nil => cases e
  | cons a b =>
    cases b with
    | nil => simp at e; exact ⟨_, _, rfl, e, a⟩
    | cons _ _ => simp at e
theorem RepW.two {h : Heap} {vs : List Value} {ws : List W} {d d' : PyData} (r : RepW Z h vs ws) (e : ws.map W.data = [d, d']) : ∃ v w v' w', vs = [v, v'] ∧ w.data = d ∧ w'.data = d' ∧ Rep Z h v w ∧ Rep Z h v' w' := by
  cases r with
  | nil => cases e
  | cons a b =>
    cases b with
    | nil => simp at e
    | cons a' b' =>
      cases b' with
      | nil => simp at e; exact ⟨_, _, _, _, rfl, e.1, e.2, a, a'⟩
      | cons _ _ => simp at e
section
variable {prog : Program} {w : World} {E : Value → Shared → Prop} {l : Addr} {items : Array Value} {its : List Value} {ns : List Int}
theorem iter_tup {Q : Value → Shared → Prop} (hl : s.heap.IsTuple l items)
    (h : ∀ s₂ : Shared, s₂ = { s with heap := s.heap.push { cls := .type "tuple_iterator", data := .fields #[.ref l, .int 0 0] } } →
      (s₂.heap.IsTupleIter s.heap.objs.size l 0 ∧ s₂.heap.IsTuple l items) → (∀ b ∈ [s.heap.objs.size, l], b < s₂.heap.objs.size) → l ≠ s.heap.objs.size → Q (.ref s.heap.objs.size) s₂) :
    wpAny (model prog w) A (pyIter (.ref l)) Q E s := by
  have hlt : l < s.heap.objs.size := by obtain ⟨_, e, _⟩ := hl; exact Heap.lt_size e
  refine wpAny_pyIter_tuple hl (h _ rfl ⟨⟨_, Heap.get?_push_size _ rfl, rfl, rfl⟩, hl.push _⟩ (fun b hb => ?_) (Nat.ne_of_lt hlt))
  show b < (s.heap.push _).objs.size
  rw [Heap.size_push]
  rcases List.mem_cons.mp hb with rfl | hb
  · exact Nat.lt_succ_self _
  · rcases List.mem_cons.mp hb with rfl | hb
    · exact Nat.lt_succ_of_lt hlt
    · cases hb
theorem tup_kept {h' : Heap} (hk : ∀ b o, b ∉ [s.heap.objs.size] → (s.heap.push { cls := .type "tuple_iterator", data := .fields #[.ref l, .int 0 0] }).get? b = some o → h'.get? b = some o) :
    ∀ b o, s.heap.get? b = some o → h'.get? b = some o := fun b o e => by
  refine hk b o (fun hm => ?_) (Heap.get?_push_of_some _ e)
  rcases List.mem_cons.mp hm with e1 | hm
  · exact absurd (e1 ▸ Heap.lt_size e) (Nat.lt_irrefl _)
  · cases hm
theorem sum_tup {Q : Value → Shared → Prop} (hh : A.handled = none) (hl : s.heap.IsTuple l its.toArray) (hi : IntsAre its ns)
    (h : ∀ h' tk t', (∀ b o, s.heap.get? b = some o → h'.get? b = some o) → Q (.int ns.sum t') { s with heap := h', toks := tk }) : wpAny (model prog w) A (call (.builtin "sum") [.ref l]) Q E s := by
  obtain ⟨xs, e⟩ := hi.allInts.items
  have hn : numsOf (intItems xs).toList = ns := by rw [← e]; exact hi.numsOf
  rw [nums_intItems] at hn
  rw [e] at hl
  refine call_sum_walkG (iter_tup hl fun s₂ e st hfp hlI => ?_)
  subst e
  refine ⟨_, _, _, _, _, _, numAt xs, rfl, Walks.tuple (A := A.in1) hh _ l hlI (intItems xs), st, hfp, (fun _ _ => intItems_at), fun h' tk t' hk => ?_⟩
  have q := h h' tk t' (tup_kept hk)
  have e2 : preSum (numAt xs) xs.size = ns.sum := by rw [preSum_eq, List.take_of_length_le (by simp), hn]
  rw [← e2] at q
  simpa [intItems] using q
theorem max_tup {Q : Value → Shared → Prop} (hh : A.handled = none) (hl : s.heap.IsTuple l its.toArray) (hi : IntsAre its ns) (hne : 0 < ns.length)
    (h : ∀ h' tk M t', (∀ b o, s.heap.get? b = some o → h'.get? b = some o) → M ∈ ns → (∀ a, a ∈ ns → a ≤ M) → Q (.int M t') { s with heap := h', toks := tk }) : wpAny (model prog w) A (call (.builtin "max") [.ref l]) Q E s := by
  obtain ⟨xs, e⟩ := hi.allInts.items
  have hn : numsOf (intItems xs).toList = ns := by rw [← e]; exact hi.numsOf
  rw [nums_intItems] at hn
  subst hn
  rw [e] at hl
  have hsz : 0 < xs.size := by simpa using hne
  refine call_max_walk (iter_tup hl fun s₂ e st hfp hlI => ?_)
  subst e
  refine ⟨_, _, _, _, _, _, _, rfl, Walks.tuple (A := A.in1) hh _ l hlI (intItems xs), st, hfp, by simpa [intItems] using hsz, CmpOf.ints_gt (numAt xs) (fun _ _ => intItems_at), fun v h' tk hP hk => ?_⟩
  obtain ⟨t, rfl⟩ := intItems_at hP
  obtain ⟨h1, h2⟩ := argBest_gt (numAt xs) (xs.size - 1)
  have ez : (intItems xs).size = xs.size := by simp [intItems]
  rw [ez] at hP ⊢
  refine h h' tk _ t (tup_kept hk) ?_ fun a ha => ?_
  · rw [numAt_eq]; exact PySem.getD_mem (by rw [List.length_map, Array.length_toList]; omega)
  · obtain ⟨j, hj, rfl⟩ := mem_getD ha
    rw [List.length_map, Array.length_toList] at hj
    rw [← numAt_eq]; exact h2 j (by omega)
theorem min_tup {Q : Value → Shared → Prop} (hh : A.handled = none) (hl : s.heap.IsTuple l its.toArray) (hi : IntsAre its ns) (hne : 0 < ns.length)
    (h : ∀ h' tk M t', (∀ b o, s.heap.get? b = some o → h'.get? b = some o) → M ∈ ns → (∀ a, a ∈ ns → M ≤ a) → Q (.int M t') { s with heap := h', toks := tk }) : wpAny (model prog w) A (call (.builtin "min") [.ref l]) Q E s := by
  obtain ⟨xs, e⟩ := hi.allInts.items
  have hn : numsOf (intItems xs).toList = ns := by rw [← e]; exact hi.numsOf
  rw [nums_intItems] at hn
  subst hn
  rw [e] at hl
  have hsz : 0 < xs.size := by simpa using hne
  refine call_min_walk (iter_tup hl fun s₂ e st hfp hlI => ?_)
  subst e
  refine ⟨_, _, _, _, _, _, _, rfl, Walks.tuple (A := A.in1) hh _ l hlI (intItems xs), st, hfp, by simpa [intItems] using hsz, CmpOf.ints_lt (numAt xs) (fun _ _ => intItems_at), fun v h' tk hP hk => ?_⟩
  obtain ⟨t, rfl⟩ := intItems_at hP
  obtain ⟨h1, h2⟩ := argBest_lt (numAt xs) (xs.size - 1)
  have ez : (intItems xs).size = xs.size := by simp [intItems]
  rw [ez] at hP ⊢
  refine h h' tk _ t (tup_kept hk) ?_ fun a ha => ?_
  · rw [numAt_eq]; exact PySem.getD_mem (by rw [List.length_map, Array.length_toList]; omega)
  · obtain ⟨j, hj, rfl⟩ := mem_getD ha
    rw [List.length_map, Array.length_toList] at hj
    rw [← numAt_eq]; exact h2 j (by omega)
end
theorem fz_each {Z : Heap} : ∀ {xs : List PyData} {its : List Value}, FzA Z xs its → PySem.W.EachIs (fun v d => Fz Z d v) its xs
  | [], its, f => by rw [f.nil_inv]; exact .nil
  | d :: xs, its, f => by
    obtain ⟨v, vs, rfl, a, b⟩ := f.cons_inv
    exact .cons a (fz_each b)
theorem each_fz {Z : Heap} : ∀ {xs : List PyData} {its : List Value}, PySem.W.EachIs (fun v d => Fz Z d v) its xs → FzA Z xs its
  | _, _, .nil => .nil
  | _, _, .cons a b => .cons a (each_fz b)
theorem ints_plain : ∀ {xs : List PyData} {l : List Int}, intsOf xs = some l → xs = l.map .int
  | [], l, h => by cases h; rfl
  | .int i :: r, l, h => by
    simp only [intsOf, Option.map_eq_some_iff] at h
    obtain ⟨l', h1, rfl⟩ := h
    rw [ints_plain h1]
    rfl
  | .none :: r, l, h => by cases h
  | .bool _ :: r, l, h => by cases h
  | .str _ :: r, l, h => by cases h
  | .list _ :: r, l, h => by cases h
  | .tuple _ :: r, l, h => by cases h
  | .dict _ :: r, l, h => by cases h
theorem reads_int {h : Heap} {a : Addr} : ∀ {xs : List Int} {vs : List Value}, FzA Z (xs.map .int) vs → PySem.W.EachIs (fun v d => ∃ as, Reads h v (id d) as ∧ a ∉ as) vs (xs.map .int)
  | [], vs, f => by rw [f.nil_inv]; exact .nil
  | x :: xs, vs, f => by
    obtain ⟨v, vs', rfl, f1, f2⟩ := f.cons_inv
    obtain ⟨t, rfl⟩ := f1.int_inv
    exact .cons ⟨[], .int x t, by simp⟩ (reads_int f2)
/-- sorted(t), t a tuple of whole numbers -/
theorem sort_tup {a : Addr} {its : List Value} {n : Nat} {xs : List PyData} {l : List Int} (I : Inv g N en Z e σ s) (hu : A.units + 200 < cLine) (h1 : s.heap.get? a = some (TupO its n)) (l1 : its.length ≤ sizeLine) (f1 : FzA Z xs its) (hl : intsOf xs = some l)
    (c2 : ∀ d ∈ xs, ∀ d' ∈ xs, PySem.W.alike d d' = true) (c4 : ∀ d ∈ xs, d.depth ≤ 100) : WP g A (call (.builtin "sorted") [.ref a]) (Post g N en σ Z (Foot σ e) s e (.v (.own (sortD xs)))) s := by
  have ex := ints_plain hl
  have go : WP g A.in1 (Builtin.«sorted» ⟨[.ref a], []⟩) (fun fin s' => ∃ v, fin = .done (.ret v) ∧ Post g N en σ Z (Foot σ e) s e (.v (.own (sortD xs))) v s') s := by
    show WP g A.in1 ((checkCount "sorted" 1 1 1) >>= fun _ => collect (.ref a) >>= fun x => newList x >>= fun l => holding [l] (call (.builtin "list.sort") [l] []) >>= fun _ => ret l) _ s
    refine wpAny_bind (wpAny_pure (wpAny_bind (wpAny_collect_seq a (.inr rfl) h1 rfl rfl (fun h' k => ?_) (by rw [List.size_toArray]; exact l1))))
    rw [List.toList_toArray]
    refine wpAny_bind (wpAny_newList ?_ l1)
    have ho : (h'.push { cls := .type "list", data := .seq its.toArray }).get? h'.objs.size = some (seqObj "list" its.toArray 0) := Heap.get?_push_size _ rfl
    refine wpAny_bind (wpAny_holding (PySem.W.list_sort_data (enc := id) (bs := xs) (R := fun v d => Fz Z d v) ho (fz_each f1) (by rw [ex] at f1 ⊢; exact reads_int f1) (by rw [List.map_id]; exact fun d hd d' hd' => c2 d hd d' hd') ?_ (by rw [← f1.length]; exact l1) (fun b hb => by have := c4 b hb; show _ + b.depth < _; simp only [Around.in1_units]; omega) fun out ho2 eo => ?_))
    · rw [List.map_id]
      refine .inr fun d hd => ⟨fun z => ?_, fun ys z => ?_⟩
      · rw [ex] at hd
        obtain ⟨i, _, rfl⟩ := List.mem_map.mp hd
        cases z
      · rw [ex] at hd
        obtain ⟨i, _, rfl⟩ := List.mem_map.mp hd
        cases z
    · obtain ⟨c, hc⟩ := sortedHeap_at (vs := its) (out := out.toArray) ho
      refine wpAny_pure ⟨_, rfl, ?_⟩
      refine I.newLst (t' := s.toks) (a := h'.objs.size) (ds := sortD xs) (its := out) (n := c) (fun b o q => ?_) ?_ hc (each_fz eo) (by rw [ho2, ← f1.length]; exact l1)
      · have q' := k b o q
        have hlt := Heap.lt_size q'
        rw [sortedHeap_old (Nat.ne_of_lt hlt) (by rw [size_push']; exact Nat.lt_succ_of_lt hlt)]
        exact Heap.get?_push_of_some _ q'
      · cases q : s.heap.get? h'.objs.size with
        | none => rfl
        | some o =>
          have := k _ _ q
          rw [get_size] at this
          cases this
  exact Calls.call_function_entry kind_sorted plain_sorted entry_sorted (args_sorted1 _) go
theorem bi_ok {b : Bi} {vs : List Value} {ws : List W} (I : Inv g N en Z e σ s) (hh : A.handled = none) (hu : A.units + 200 < cLine) (r : RepW Z s.heap vs ws) (h : builtin b (ws.map W.data) = some w) :
    WP g A (call (biV b) vs) (Post g N en σ Z (Foot σ e) s e (.v w)) s := by
  have zx := I.sh.zh
  have line := sizeLine_is
  generalize e0 : ws.map W.data = ds at h
  unfold builtin at h
  split at h
  all_goals (try (cases h; done))
  · -- len
    obtain ⟨v, w', rfl, e1, r1⟩ := r.one e0
    rename_i x
    cases q : items x with
    | none => rw [q] at h; cases h
    | some xs =>
      rw [q] at h
      cases h
      rcases items_inv q with rfl | rfl
      · obtain ⟨a, its, n, rfl, h1, l1, f1⟩ := r1.list zx e1
        dsimp only
        rw [← f1.length]
        exact Calls.call_len_list (items := its.toArray) ⟨_, h1, rfl, n, rfl⟩ (by simp; omega) (I.here (by simpa using Fz.int))
      · obtain ⟨a, its, n, rfl, h1, l1, f1⟩ := r1.tuple zx e1
        dsimp only
        rw [← f1.length]
        exact PyProof.Rows.len_tuple (items := its.toArray) ⟨_, h1, rfl, n, rfl⟩ (by simp; omega) (I.here (by simpa using Fz.int))
  · -- int
    obtain ⟨v, w', rfl, e1, r1⟩ := r.one e0
    obtain ⟨t, rfl⟩ := (r1.flat e1 (by simp)).int_inv
    cases h
    exact call_int_int (I.here (t' := s.toks) .int)
  · -- tuple
    obtain ⟨v, w', rfl, e1, r1⟩ := r.one e0
    rename_i x
    cases q : items x with
    | none => rw [q] at h; cases h
    | some xs =>
      rw [q] at h
      cases h
      rcases items_inv q with rfl | rfl
      · obtain ⟨a, its, n, rfl, h1, l1, f1⟩ := r1.list zx e1
        refine call_tuple_list (items := its.toArray) ⟨_, h1, rfl, n, rfl⟩ (fun h' kp => ?_) (by simp; omega)
        have I1 := I.grow (t' := s.toks) kp
        exact Post.after (Step.grow (t' := s.toks) kp) (fun _ q => q) (I1.pushTup (n := 0) (t' := s.toks) f1 l1)
      · have fv := r1.flat e1 (by simp)
        obtain ⟨a, its, n, rfl, h1, l1, f1⟩ := r1.tuple zx e1
        exact call_tuple_same (items := its.toArray) ⟨_, h1, rfl, n, rfl⟩ (I.here (t' := s.toks) fv)
  · -- list
    obtain ⟨v, w', rfl, e1, r1⟩ := r.one e0
    rename_i x
    cases q : items x with
    | none => rw [q] at h; cases h
    | some xs =>
      rw [q] at h
      cases h
      rcases items_inv q with rfl | rfl
      · obtain ⟨a, its, n, rfl, h1, l1, f1⟩ := r1.list zx e1
        exact call_list_seq a (.inl rfl) h1 rfl rfl (fun h' c' kp ex => I.newLst (t' := s.toks) kp (get_size _) ex f1 l1) (by simp; omega)
      · obtain ⟨a, its, n, rfl, h1, l1, f1⟩ := r1.tuple zx e1
        exact call_list_seq a (.inr rfl) h1 rfl rfl (fun h' c' kp ex => I.newLst (t' := s.toks) kp (get_size _) ex f1 l1) (by simp; omega)
  · -- sum
    obtain ⟨v, w', rfl, e1, r1⟩ := r.one e0
    rename_i x
    cases q : items x with
    | none => rw [q] at h; cases h
    | some xs =>
      rw [q, Option.bind_some] at h
      cases q2 : intsOf xs with
      | none => rw [q2] at h; cases h
      | some l =>
        rw [q2] at h
        cases h
        rcases items_inv q with rfl | rfl
        · obtain ⟨a, its, n, rfl, h1, l1, f1⟩ := r1.list zx e1
          exact L2.sum_raw hh (its := its) ⟨_, h1, rfl, n, rfl⟩ (ints_are f1 q2) fun h' tk t' k => I.hereG k .int
        · obtain ⟨a, its, n, rfl, h1, l1, f1⟩ := r1.tuple zx e1
          exact sum_tup hh (its := its) ⟨_, h1, rfl, n, rfl⟩ (ints_are f1 q2) fun h' tk t' k => I.hereG k .int
  · -- max
    obtain ⟨v, w', rfl, e1, r1⟩ := r.one e0
    rename_i x
    cases q : items x with
    | none => rw [q] at h; cases h
    | some xs =>
      rw [q, Option.bind_some] at h
      cases q2 : extr maxI xs with
      | none => rw [q2] at h; cases h
      | some d =>
        rw [q2] at h
        cases h
        obtain ⟨x, r', q', rfl⟩ := extr_inv q2
        rcases items_inv q with rfl | rfl
        · obtain ⟨a, its, n, rfl, h1, l1, f1⟩ := r1.list zx e1
          refine L2.max_raw hh (its := its) ⟨_, h1, rfl, n, rfl⟩ (ints_are f1 q') (by simp) fun h' tk M t' k m1 m2 => ?_
          obtain ⟨p1, p2⟩ := maxI_spec r' x
          rw [show M = maxI x r' from Int.le_antisymm (p2 M m1) (m2 _ p1)]
          exact I.hereG k .int
        · obtain ⟨a, its, n, rfl, h1, l1, f1⟩ := r1.tuple zx e1
          refine max_tup hh (its := its) ⟨_, h1, rfl, n, rfl⟩ (ints_are f1 q') (by simp) fun h' tk M t' k m1 m2 => ?_
          obtain ⟨p1, p2⟩ := maxI_spec r' x
          rw [show M = maxI x r' from Int.le_antisymm (p2 M m1) (m2 _ p1)]
          exact I.hereG k .int
  · -- min
    obtain ⟨v, w', rfl, e1, r1⟩ := r.one e0
    rename_i x
    cases q : items x with
    | none => rw [q] at h; cases h
    | some xs =>
      rw [q, Option.bind_some] at h
      cases q2 : extr minI xs with
      | none => rw [q2] at h; cases h
      | some d =>
        rw [q2] at h
        cases h
        obtain ⟨x, r', q', rfl⟩ := extr_inv q2
        rcases items_inv q with rfl | rfl
        · obtain ⟨a, its, n, rfl, h1, l1, f1⟩ := r1.list zx e1
          refine L2.min_raw hh (its := its) ⟨_, h1, rfl, n, rfl⟩ (ints_are f1 q') (by simp) fun h' tk M t' k m1 m2 => ?_
          obtain ⟨p1, p2⟩ := minI_spec r' x
          rw [show M = minI x r' from Int.le_antisymm (m2 _ p1) (p2 M m1)]
          exact I.hereG k .int
        · obtain ⟨a, its, n, rfl, h1, l1, f1⟩ := r1.tuple zx e1
          refine min_tup hh (its := its) ⟨_, h1, rfl, n, rfl⟩ (ints_are f1 q') (by simp) fun h' tk M t' k m1 m2 => ?_
          obtain ⟨p1, p2⟩ := minI_spec r' x
          rw [show M = minI x r' from Int.le_antisymm (m2 _ p1) (p2 M m1)]
          exact I.hereG k .int
  · -- sorted
    obtain ⟨v, w', rfl, e1, r1⟩ := r.one e0
    split at h
    · rename_i xs c
      cases h
      simp only [sortOk, Bool.and_eq_true, Bool.or_eq_true, List.all_eq_true, decide_eq_true_eq] at c
      obtain ⟨c1, c2, c3, c4⟩ := c
      obtain ⟨a, its, n, rfl, h1, l1, f1⟩ := r1.list zx e1
      refine PySem.W.sorted_data (enc := id) (bs := xs) (R := fun v d => Fz Z d v) ⟨_, h1, rfl, n, rfl⟩ (fz_each f1) ((fz_each f1).mono fun v d x => let ⟨as, z⟩ := Fz.reads x; ⟨as, Reads.keeps zx z⟩) (by rw [List.map_id]; exact fun d hd d' hd' => c2 d hd d' hd') ?_ (szOk_iff.mp c1) (fun b hb => by have := c4 b hb; show _ + b.depth < _; omega) fun out ho eo => ?_
      · rw [List.map_id]
        rcases c3 with c3 | c3
        · refine .inl fun d hd => ?_
          have := c3 d hd
          split at this
          · exact ⟨_, _, rfl⟩
          · cases this
        · refine .inr fun d hd => ⟨fun z => ?_, fun ys z => ?_⟩
          · have := c3 d hd
            rw [z] at this
            cases this
          · have := c3 d hd
            rw [z] at this
            cases this
      · obtain ⟨c, hc⟩ := sortedAll_at s.heap its out.toArray
        have z := I.newLst (t' := s.toks) (h' := sortedAll s.heap its out.toArray) (fun b o q => sortedAll_old q) (Heap.get?_none_of_le (Nat.le_succ _)) hc (each_fz eo) (by rw [ho]; exact szOk_iff.mp c1)
        exact z
    · cases h
  · -- sorted, a tuple of numbers
    obtain ⟨v, w', rfl, e1, r1⟩ := r.one e0
    split at h
    · rename_i xs c
      cases h
      rw [Bool.and_eq_true] at c
      obtain ⟨c0, c⟩ := c
      simp only [sortOk, Bool.and_eq_true, Bool.or_eq_true, List.all_eq_true, decide_eq_true_eq] at c
      obtain ⟨c1, c2, c3, c4⟩ := c
      obtain ⟨l, hl⟩ := Option.isSome_iff_exists.mp c0
      obtain ⟨a, its, n, rfl, h1, l1, f1⟩ := r1.tuple zx e1
      exact sort_tup I hu h1 (by rw [f1.length]; exact szOk_iff.mp c1) f1 hl c2 c4
    · cases h
  · -- max of two
    obtain ⟨v, w1, u, w2, rfl, e1, e2, r1, r2⟩ := r.two e0
    obtain ⟨t, rfl⟩ := (r1.flat e1 (by simp)).int_inv
    obtain ⟨t', rfl⟩ := (r2.flat e2 (by simp)).int_inv
    cases h
    refine max_two_ints hh fun h' tk k => I.hereG k ?_
    split <;> exact .int
  · obtain ⟨v, w1, u, w2, rfl, e1, e2, r1, r2⟩ := r.two e0
    obtain ⟨t, rfl⟩ := (r1.flat e1 (by simp)).int_inv
    obtain ⟨t', rfl⟩ := (r2.flat e2 (by simp)).int_inv
    cases h
    refine min_two_ints hh fun h' tk k => I.hereG k ?_
    split <;> exact .int
  · -- abs
    obtain ⟨v, w', rfl, e1, r1⟩ := r.one e0
    obtain ⟨t, rfl⟩ := (r1.flat e1 (by simp)).int_inv
    cases h
    exact call_abs_int fun u tk => I.here .int
def tyName : Ty → Str
  | .int => "int" | .bool => "bool" | .str => "str" | .tuple => "tuple" | .list => "list"
def tyV : Ty → Value
  | .int => .type "int" | .bool => .type "bool" | .str => .type "str" | .tuple => .type "tuple" | .list => .type "list"
/-- the class of a thing -/
def clsV : PyData → Value
  | .none => .type "NoneType" | .bool _ => .type "bool" | .int _ => .type "int" | .str _ => .type "str" | .list _ => .type "list" | .tuple _ => .type "tuple" | .dict _ => .type "dict"
theorem kit_is (t : Ty) (d : PyData) (h : ∀ k, d ≠ .dict k) (K : PySem.W.Frag) : PySem.W.kitOne K (clsV d) (tyV t) = some (isTy t d) := by
  cases d <;> (try exact absurd rfl (h _)) <;> cases t <;> first | exact L2.kit_ty (r := true) (by decide +kernel) | exact L2.kit_ty (r := false) (by decide +kernel)
theorem isi_ok {t : Ty} (I : Inv g N en Z e σ s) (r : Rep Z s.heap v w) : WP g A (call (.builtin "isinstance") [v, tyV t]) (Post g N en σ Z (Foot σ e) s e (.v (.d (.bool (isTy t w.data))))) s := by
  have nd : ∀ k, w.data ≠ .dict k := fun k q => by
    have := r.plain
    rw [q] at this
    cases this
  have fin : ∀ tk, Post g N en σ Z (Foot σ e) s e (.v (.d (.bool (isTy t w.data)))) (.bool (isTy t w.data)) { s with toks := tk } := fun tk => I.here .bool
  have kk := kit_is t w.data nd g.K
  generalize e1 : w.data = x at kk fin
  cases x with
  | none =>
    obtain rfl := (r.flat e1 (by simp)).none_inv
    exact PySem.W.kia_one PySem.W.kitx_none I.kIn True.intro kk (fun z => nomatch z) fin
  | bool b =>
    obtain rfl := (r.flat e1 (by simp)).bool_inv
    exact PySem.W.kia_one PySem.W.kitx_bool I.kIn True.intro kk (fun z => nomatch z) fin
  | int i =>
    obtain ⟨t, rfl⟩ := (r.flat e1 (by simp)).int_inv
    exact PySem.W.kia_one PySem.W.kitx_int I.kIn True.intro kk (fun z => nomatch z) fin
  | str z =>
    obtain ⟨_, t, rfl⟩ := (r.flat e1 (by simp)).str_inv
    exact PySem.W.kia_one PySem.W.kitx_str I.kIn True.intro kk (fun z => nomatch z) fin
  | list xs =>
    obtain ⟨a, its, n, rfl, h1, l1, f1⟩ := r.list I.sh.zh e1
    exact PySem.W.kia_one PySem.W.kitx_list I.kIn ⟨_, h1, rfl⟩ kk (fun z => nomatch z) fin
  | tuple xs =>
    obtain ⟨a, its, n, rfl, h1, l1, f1⟩ := r.tuple I.sh.zh e1
    exact PySem.W.kia_one PySem.W.kitx_tuple I.kIn ⟨_, h1, rfl⟩ kk (fun z => nomatch z) fin
  | dict k => exact absurd e1 (nd k)
end
end Mini

-- M6
set_option Elab.async false
set_option linter.all false
set_option maxRecDepth 100000
/-! Mini 6: which text an expression is. -/
namespace Mini
open PySem PyProof.Rows

def vis (sc : Scope) (x : Str) : Bool := sc.names.lookup x == some .local || sc.names.lookup x == some .cell || sc.names.lookup x == some .free
def loc (sc : Scope) (x : Str) : Bool := sc.names.lookup x == some .local || sc.names.lookup x == some .cell
def glb (sc : Scope) (x : Str) : Bool := sc.names.lookup x == some .globalImplicit
def okName (x : Str) : Bool := !(x == ("__debug__" : Str)) && !(x == ("__classdict__" : Str)) && !(x == ("__name__" : Str))
def mB : Bop → Operator → Bool
  | .add, .Add => true | .sub, .Sub => true | .mul, .Mult => true | .fdiv, .FloorDiv => true | .mod, .Mod => true | .pow, .Pow => true
  | _, _ => false
def mC : Cop → CmpOp → Bool
  | .eq, .Eq => true | .ne, .NotEq => true | .lt, .Lt => true | .le, .LtE => true | .gt, .Gt => true | .ge, .GtE => true | .is, .Is => true | .isnot, .IsNot => true | .isin, .In => true | .notin, .NotIn => true
  | _, _ => false
def mN (N : List Str) (i : Nat) (x : Str) : Bool := match N[i]? with
  | some y => y == x
  | none => false
/-- a constant of the module: its value as data -/
def kval : PyData → Bool
  | .int _ => true
  | .str x => szOk x.length
  | .bool _ => true
  | .none => true
  | _ => false
def mK : PyData → Const → Bool
  | .int a, .int b => a == b
  | .bool a, .bool b => a == b
  | .none, .none => true
  | .str a, .str b => a == b && szOk a.length
  | _, _ => false
/-- targets -/
def mT1 (N : List Str) (sc : Scope) (i : Nat) : Expr → Bool
  | .Name x _ => mN N i x && loc sc x && okName x
  | _ => false
def mTs (N : List Str) (sc : Scope) : List Nat → List Expr → Bool
  | [], [] => true
  | i :: is, t :: ts => mT1 N sc i t && mTs N sc is ts
  | _, _ => false
def mNs (N : List Str) (sc : Scope) : List Nat → List Expr → Bool
  | a :: r, [t, .Tuple us _ _] => mT1 N sc a t && mTs N sc r.dropLast us
  | _, _ => false
def mTg (N : List Str) (sc : Scope) (tg : List Nat) (one : Bool) (t : Expr) : Bool :=
  if one then (match tg with
    | [i] => mT1 N sc i t
    | _ => false)
  else (match t with
    | .Tuple ts _ _ => if nst tg then mNs N sc tg ts else mTs N sc tg ts
    | _ => false)
/-- a comprehension's block -/
def blk (N : List Str) (sc scope : Scope) (tg : List Nat) : Bool :=
  (tg.all fun i => match N[i]? with
    | some x => loc scope x
    | none => false) && scope.kind == .function && !scope.isCoroutine && scope.names.all fun y => scope.names.lookup y.1 == some y.2 &&
    (if y.2 == .free then sc.names.lookup y.1 == some .cell || sc.names.lookup y.1 == some .free else true) &&
    (if y.2 == .local || y.2 == .cell then !N.contains y.1 || tg.any fun i => N[i]? == some y.1 else true)
def noSet : Expr → Bool
  | .Set _ _ _ => false
  | _ => true

structure Px where
  fn : List Str
  con : List (Str × PyData)
  mt : List Mf := []
def mfName : Mf → Str
  | .gcd => "gcd" | .lcm => "lcm"
def mfId : Mf → Value
  | .gcd => .builtin "math.gcd" | .lcm => .builtin "math.lcm"
def sameK : PyData → PyData → Bool
  | .int a, .int b => a == b
  | .str a, .str b => a == b
  | _, _ => false
def isNoneE : E → Bool
  | .none => true
  | _ => false
def isYes : E → Bool
  | .lit (.bool true) => true
  | _ => false
def isAnd : E → Bool
  | .and _ _ => true
  | _ => false
def isOr : E → Bool
  | .or _ _ => true
  | _ => false
def noLst : Expr → Bool
  | .List _ _ => false
  | _ => true
def twoT (one : Bool) : Expr → Bool
  | .Name _ _ => one
  | .Tuple [.Name a _, .Name b _] _ _ => !one && !(a == b)
  | .Tuple [.Name a _, .Name b _, .Name d _] _ _ => !one && (!(a == b) && !(a == d) && !(b == d))
  | _ => false
/-- any(..), all(..), .. of a generator expression of one clause, with one test at most -/
def genP : Expr → Option (Str × Expr × Expr × Expr × Option Expr × Scope)
  | .Call (.Name f _) [.GeneratorExp elt [⟨target, iter, ifs, 0⟩] scope _] [] _ => (match ifs with
    | [] => some (f, elt, target, iter, none, scope)
    | [c] => some (f, elt, target, iter, some c, scope)
    | _ => none)
  | _ => none
def isEnum : E → Bool
  | .enum _ => true
  | _ => false
def isRng : E → Bool
  | .rng1 _ => true
  | .rng2 _ _ => true
  | .rng3 _ _ _ => true
  | _ => false
def gbName : Gb → Str
  | .all => "all" | .any => "any" | .sum => "sum" | .max => "max" | .min => "min"

def notCall0 : Expr → Bool
  | .Call _ [] [] _ => false
  | _ => true
def mTy (sc : Scope) : List Ty → List Expr → Bool
  | [], [] => true
  | t :: ts, .Name y _ :: ys => y == tyName t && glb sc y && mTy sc ts ys
  | _, _ => false

mutual
def mE (p : Px) (N : List Str) (sc : Scope) : E → Expr → Bool
  | .var i, .Name x _ => mN N i x && vis sc x && okName x
  | .lit d, .Constant c _ _ => mK d c
  | .none, .Constant .none _ _ => true
  | .con x d, .Name y _ => x == y && glb sc x && okName x && p.con.any fun q => q.1 == x && sameK d q.2
  | .bin o a b, .BinOp l op r _ => mB o op && mE p N sc a l && mE p N sc b r
  | .neg a, .UnaryOp .USub x _ => mE p N sc a x
  | .not a, .UnaryOp .Not x _ => mE p N sc a x
  | .and a b, .BoolOp .And (x :: y :: rest) pos => mE p N sc a x && (match rest with
    | [] => mE p N sc b y
    | _ => isAnd b && mE p N sc b (.BoolOp .And (y :: rest) pos))
  | .or a b, .BoolOp .Or (x :: y :: rest) pos => mE p N sc a x && (match rest with
    | [] => mE p N sc b y
    | _ => isOr b && mE p N sc b (.BoolOp .Or (y :: rest) pos))
  | .cmp o a b, .Compare l [op] [r] _ => mC o op && mE p N sc a l && mE p N sc b r && !behindInMarks op r
  | .chain o1 o2 a b d, .Compare l [op1, op2] [m, r] _ => mC o1 op1 && mC o2 op2 && mE p N sc a l && mE p N sc b m && mE p N sc d r && !lastMarks [op1, op2] [m, r]
  | .ite t a b, .IfExp c x y _ => mE p N sc t c && mE p N sc a x && mE p N sc b y
  | .idx a i, .Subscript x y _ => mE p N sc a x && mE p N sc i y
  | .slc a lo hi, .Subscript x (.Slice l h none _) _ => mE p N sc a x && (match l with
    | none => isNoneE lo
    | some l => mE p N sc lo l) && (match h with
    | none => isNoneE hi
    | some h => mE p N sc hi h)
  | .tup es, .Tuple l _ _ => szOk l.length && (mA p N sc es l || decide (l.length ≤ 15) && mD p N sc es l)
  | .lst es, .List l _ => szOk l.length && (mA p N sc es l || decide (l.length ≤ 15) && mD p N sc es l)
  | .isi a t, .Call (.Name f _) [x, .Name y _] [] _ => f == ("isinstance" : Str) && glb sc f && y == tyName t && glb sc y && mE p N sc a x
  | .isis a ts, .Call (.Name f _) [x, .Tuple ys _ _] [] _ => f == ("isinstance" : Str) && glb sc f && decide (ts.length ≤ 20) && mTy sc ts ys && mE p N sc a x
  | .bi b es, .Call (.Name f _) l [] _ => f == biName b && glb sc f && !l.isEmpty && mA p N sc es l
  | .lrng a, .Call (.Name f _) [.Call (.Name h _) [x] [] _] [] _ => f == ("list" : Str) && glb sc f && (h == ("range" : Str)) && glb sc h && mE p N sc a x
  | .index a y, .Call (.Attribute o m apos) [x] [] pos => m == ("index" : Str) && notCall0 o && mE p N sc a o && mE p N sc y x && apos.endLine == pos.line
  | .lenset a, .Call (.Name f _) [.Call (.Name h _) [x] [] _] [] _ => f == ("len" : Str) && glb sc f && (h == ("set" : Str)) && glb sc h && mE p N sc a x
  | .srtset a, .Call (.Name f _) [.Call (.Name h _) [x] [] _] [] _ => f == ("sorted" : Str) && glb sc f && (h == ("set" : Str)) && glb sc h && mE p N sc a x
  | .skey a i f, .Call (.Name h _) [x] [⟨some kn, .Lambda ⟨[], [⟨y, none, _⟩], none, [], [], none, []⟩ body scope _, _⟩] _ => h == ("sorted" : Str) && glb sc h && kn == ("key" : Str) && mE p N sc a x && mN N i y && scope.names.lookup y == some .local && blk N sc scope [i] && (scope.names.all fun y => !(y.2 == .cell)) && !scope.isGenerator && mE p N scope f body
  | .mf m es, .Call (.Name f _) l [] _ => f == mfName m && glb sc f && p.mt.contains m && !l.isEmpty && mA p N sc es l
  | .call f es, .Call (.Name x _) l [] _ => p.fn[f]? == some x && glb sc x && okName x && !l.isEmpty && mA p N sc es l
  | .lc it tg one t el, .ListComp elt [⟨target, iter, ifs, 0⟩] scope _ => !(one && isEnum it) && mI p N sc it iter && noSet iter && blk N sc scope tg && mTg N (L2.relS scope sc) tg one target && (match ifs with
    | [] => isYes t
    | [c] => mE p N (L2.relS scope sc) t c
    | _ => false) && mE p N (L2.relS scope sc) el elt
  | .gen b it tg one t el, ex => match genP ex with
    | some (f, elt, target, iter, ifs, scope) => f == gbName b && glb sc f && twoT one target && noLst iter && !(one && isEnum it) && mI p N sc it iter && noSet iter && blk N sc scope tg && mTg N scope tg one target && (match ifs with
      | none => isYes t
      | some c => mE p N scope t c) && mE p N scope el elt && scope.names.lookup (".0" : Str) == some .local && scope.names.all fun y => !(y.2 == .cell)
    | none => false
  | _, _ => false
def mA (p : Px) (N : List Str) (sc : Scope) : E → List Expr → Bool
  | .nil, [] => true
  | .cons a r, x :: xs => mE p N sc a x && mA p N sc r xs
  | _, _ => false
/-- a display's things, some of them spread -/
def mD (p : Px) (N : List Str) (sc : Scope) : E → List Expr → Bool
  | .nil, [] => true
  | .cons a r, x :: xs => mE p N sc a x && mD p N sc r xs
  | .star a r, .Starred x _ :: xs => mE p N sc a x && mD p N sc r xs
  | _, _ => false
def mI (p : Px) (N : List Str) (sc : Scope) : E → Expr → Bool
  | .src a, x => mE p N sc a x
  | .rng1 a, .Call (.Name f _) [x] [] _ => f == ("range" : Str) && glb sc f && mE p N sc a x
  | .rng2 a b, .Call (.Name f _) [x, y] [] _ => f == ("range" : Str) && glb sc f && mE p N sc a x && mE p N sc b y
  | .rng3 a b k, .Call (.Name f _) [x, y, z] [] _ => f == ("range" : Str) && glb sc f && mE p N sc a x && mE p N sc b y && (match z with
    | .UnaryOp .USub (.Constant (.int 1) _ _) _ => true
    | _ => false)
  | .enum a, .Call (.Name f _) [x] [] _ => f == ("enumerate" : Str) && glb sc f && mE p N sc a x
  | _, _ => false
end
end Mini

-- M7
set_option Elab.async false
set_option linter.all false
set_option maxRecDepth 100000
set_option maxHeartbeats 4000000
/-! Mini 7: expressions run as they should, part 1. -/
namespace Mini
open PySem PyProof.Rows

def FootW (us : List Value) (ws : List W) (a : Addr) : Prop := ∃ (i : Nat) (xs : List PyData), ws[i]? = some (W.own xs) ∧ us[i]? = some (Value.ref a)
structure CallPost (g : G) (Z : Heap) (us : List Value) (ws : List W) (s : Shared) (w : W) (ws' : List W) (u : Value) (Z' : Heap) (s' : Shared) : Prop where
  step : Step g [] Z (FootW us ws) s Z' (fun a => FootW us ws a ∨ FootR u (.v w) a) s'
  sh : Sh g Z' s'
  res : Rep Z' s'.heap u w
  back : ∀ (i : Nat) (xs : List PyData) (v : Value), ws[i]? = some (W.own xs) → us[i]? = some v → ∃ xs' : List PyData, ws'[i]? = some (W.own xs') ∧ Rep Z' s'.heap v (W.own xs')
  zw : ∀ a, FootW us ws a → Z'.get? a = none
  zr : ∀ a, FootR u (.v w) a → Z'.get? a = none ∧ (∀ p ∈ g.tabs, a ≠ p.2) ∧ s.heap.get? a = none
/-- what is asked of a def's call -/
def CallOk (g : G) (call : Nat → List W → Option (W × List W)) (k f : Nat) (fa : Addr) : Prop :=
  ∀ (A : Around) (Z : Heap) (s : Shared) (us : List Value) (ws : List W) (w : W) (ws' : List W), L2.Room k A → g.Ok → Sh g Z s → RepW Z s.heap us ws →
    (∀ (i j : Nat) (xs ys : List PyData) (a : Addr), ws[i]? = some (W.own xs) → ws[j]? = some (W.own ys) → us[i]? = some (Value.ref a) → us[j]? = some (Value.ref a) → i = j) →
    (∀ a, FootW us ws a → Z.get? a = none ∧ ∀ p ∈ g.tabs, a ≠ p.2) → call f ws = some (w, ws') → keptOwn ws ws' = true →
    codeAny (model g.P g.w) A (.call (.ref fa) ⟨us, []⟩) (fun r s' => ∃ u Z', r = .ok (.ret u) ∧ CallPost g Z us ws s w ws' u Z' s') s
def biNames : List Str := ["len", "int", "tuple", "list", "sorted", "sum", "max", "min", "abs", "range", "enumerate", "isinstance", "all", "any", "bool", "str", "set"]
structure Rn (p : Px) (c : Cf) (g : G) (k : Nat) : Prop where
  bn : ∀ x ∈ biNames, g.mg x = none
  cn : ∀ q ∈ p.con, ∃ v, g.mg q.1 = some v ∧ Fz g.base q.2 v
  fn : ∀ f x, p.fn[f]? = some x → ∃ fa, g.mg x = some (.ref fa) ∧ PySem.W.keepIn g.K (.ref fa) = true ∧ CallOk g c.call k f fa
  q : c.q = g.q
  mt : ∀ m : Mf, p.mt.contains m = true → g.mg (mfName m) = some (mfId m)

section
variable (p : Px) (c : Cf) (g : G) (N : List Str) (k : Nat)
def SE (x : E) : Prop := ∀ (sc : Scope) (ex : Expr) (A : Around) (en : PySem.Env) (Z : Heap) (e : Env) (σ : List (Option Value)) (s : Shared) (r : R) (e' : Env),
  L2.Room k A → en.scope = sc → mE p N sc x ex = true → Inv g N en Z e σ s → ev c x e = some (r, e') → WP g A (eval ex en) (Post g N en σ Z (Foot σ e) s e' r) s
def ST (x : E) : Prop := ∀ (sc : Scope) (ex : Expr) (A : Around) (en : PySem.Env) (Z : Heap) (e : Env) (σ : List (Option Value)) (s : Shared) (b : Bool) (e' : Env),
  L2.Room k A → en.scope = sc → mE p N sc x ex = true → Inv g N en Z e σ s → evT c x e = some (b, e') → WP g A (isTrue ex en (eval ex en)) (fun b' s' => b' = b ∧ PostE g N en σ Z (Foot σ e) s e' s') s
def SA (x : E) : Prop := ∀ (sc : Scope) (es : List Expr) (A : Around) (en : PySem.Env) (Z : Heap) (e : Env) (σ : List (Option Value)) (s : Shared) (rs : List R) (e' : Env) (pos : Pos),
  L2.Room k A → en.scope = sc → mD p N sc x es = true → Inv g N en Z e σ s → evA c x e = some (rs, e') → WP g A (spliced (backTo pos (starEach es en))) (PostA g N en σ Z (Foot σ e) s e' rs) s
end

section
variable {p : Px} {c : Cf} {g : G} {N : List Str} {k : Nat} {en : PySem.Env} {Z Z1 Z2 : Heap} {e e1 e2 e' : Env} {σ : List (Option Value)} {s s1 s2 s' : Shared} {A : Around} {F F1 : Addr → Prop} {v u : Value} {r : R}

theorem wp_mono {α : Type} {t : Sem α} {Q Q' : α → Shared → Prop} (h : WP g A t Q s) (hQ : ∀ a s, Q a s → Q' a s) : WP g A t Q' s := wpAny_mono h hQ fun _ _ x => x
theorem Post.weak {r' : R} (st : Step g [] Z F s Z1 F1 s1) (hF : ∀ a, Foot σ e1 a → F1 a) {v : Value} (q : Post g N en σ Z1 (Foot σ e1) s1 e' r' v s') : Post g N en σ Z F s e' r' v s' := Post.after st hF q
theorem PostE.after (st : Step g [] Z F s Z1 F1 s1) (hF : ∀ a, Foot σ e1 a → F1 a) (q : PostE g N en σ Z1 (Foot σ e1) s1 e' s') : PostE g N en σ Z F s e' s' := by
  obtain ⟨Z', a, b⟩ := q
  exact ⟨Z', (st.less hF).trans a, b⟩

/-! ### names -/
theorem Inv.look (I : Inv g N en Z e σ s) {i : Nat} {x : Str} {pos : Pos} {Q : Value → Shared → Prop} (hN : mN N i x = true) (hv : vis en.scope x = true) (ho : okName x = true) (hs : σ[i]? = some (some v)) (h : Q v s) : WP g A (eval (.Name x pos) en) Q s := by
  have hN' : N[i]? = some x := by
    unfold mN at hN
    split at hN
    · rename_i y q
      rw [q, beq_iff_eq.mp hN]
    · cases hN
  have n1 : (x == ("__debug__" : Str)) = false := by simp only [okName, Bool.and_eq_true, Bool.not_eq_true'] at ho; exact ho.1.1
  have n2 : (x == ("__classdict__" : Str)) = false := by simp only [okName, Bool.and_eq_true, Bool.not_eq_true'] at ho; exact ho.1.2
  have vv : en.kindOf x = some .local ∨ en.kindOf x = some .cell ∨ en.kindOf x = some .free := by
    simp only [vis, Bool.or_eq_true, beq_iff_eq] at hv
    exact hv.elim (fun z => z.elim .inl fun z => .inr (.inl z)) fun z => .inr (.inr z)
  rcases vv with q | q | q
  · obtain ⟨m, hn, hl⟩ := I.sees.ns
    exact wpAny_Name (wpAny_loadName_local I.fm.kind q hn (hl i x v hN' hs q) h) n1
  · obtain ⟨cl, hc⟩ := I.fm.has x (.inl q)
    obtain ⟨v', hcell, r⟩ := I.sees.cell x cl hc
    rw [r i v hN' hs (.inl q)] at hcell
    exact wpAny_Name (wpAny_loadName_cell I.fm.kind q hc hcell h) n1
  · obtain ⟨cl, hc⟩ := I.fm.has x (.inr q)
    obtain ⟨v', hcell, r⟩ := I.sees.cell x cl hc
    rw [r i v hN' hs (.inr q)] at hcell
    exact wpAny_Name (wpAny_loadName_free I.fm.kind q hc hcell h n2) n1
theorem Inv.glob (I : Inv g N en Z e σ s) {x : Str} {pos : Pos} {Q : Value → Shared → Prop} (hg : glb en.scope x = true) (ho : okName x = true) (hm : g.mg x = some v) (h : Q v s) : WP g A (eval (.Name x pos) en) Q s := by
  have n1 : (x == ("__debug__" : Str)) = false := by simp only [okName, Bool.and_eq_true, Bool.not_eq_true'] at ho; exact ho.1.1
  refine Calls.Name_function_global I.fm.kind (beq_iff_eq.mp hg) (Calls.loadGlobal_global ?_ hm h) n1
  rw [I.fm.glob]
  exact I.ok.mod.glob.keeps I.bk
theorem Inv.bltin (I : Inv g N en Z e σ s) {x : Str} {pos : Pos} {Q : Value → Shared → Prop} (hg : glb en.scope x = true) (hm : g.mg x = none) (hv : bootBuiltins x = some v) (h : Q v s)
    (hn : x ≠ "__name__" := by decide) (hd : (x == ("__debug__" : Str)) = false := by decide) : WP g A (eval (.Name x pos) en) Q s := by
  obtain ⟨mb, h1, h2⟩ := I.ok.mod.blt
  refine Calls.Name_function_global I.fm.kind (beq_iff_eq.mp hg) (Calls.loadGlobal_builtin ?_ hm ?_ ((h2 x hn).trans hv) h) hd
  · rw [I.fm.glob]
    exact I.ok.mod.glob.keeps I.bk
  · rw [I.fm.blt]
    exact h1.keeps I.bk

theorem se_var (i : Nat) : SE p c g N k (.var i) := by
  intro sc ex A en Z e σ s r e' hr hsc hm I h
  subst hsc
  cases ex with
  | Name x pos =>
    simp only [mE, Bool.and_eq_true] at hm
    simp only [ev, Option.map_eq_some_iff] at h
    obtain ⟨w, hw, h⟩ := h
    cases h
    obtain ⟨v, hv, _⟩ := I.rep i w hw
    refine I.look hm.1.1 hm.1.2 hm.2 hv ⟨Z, Step.refl.less fun a q => ?_, I, hv⟩
    rcases q with q | ⟨_, q, _⟩
    · exact q
    · cases q
  | _ => simp [mE, genP] at hm
theorem se_lit (d : PyData) : SE p c g N k (.lit d) := by
  intro sc ex A en Z e σ s r e' hr hsc hm I h
  cases ex with
  | Constant ct kk pos =>
    simp only [mE] at hm
    simp only [ev] at h
    cases h
    unfold mK at hm
    split at hm
    · rw [beq_iff_eq.mp hm]
      exact wpAny_Constant_int (I.here .int)
    · rw [beq_iff_eq.mp hm]
      exact Constant_bool (I.here (t' := s.toks) .bool)
    · exact Constant_none (I.here (t' := s.toks) .none)
    · simp only [Bool.and_eq_true] at hm
      rw [← beq_iff_eq.mp hm.1]
      exact Calls.Constant_str (I.here (.str (szOk_iff.mp hm.2)))
    · cases hm
  | _ => simp [mE, genP] at hm
theorem se_none : SE p c g N k .none := by
  intro sc ex A en Z e σ s r e' hr hsc hm I h
  cases ex with
  | Constant ct kk pos =>
    cases ct with
    | none =>
      simp only [ev] at h
      cases h
      exact Constant_none (I.here (t' := s.toks) .none)
    | _ => simp [mE, genP] at hm
  | _ => simp [mE, genP] at hm
theorem se_con (rn : Rn p c g k) (x : Str) (d : PyData) : SE p c g N k (.con x d) := by
  intro sc ex A en Z e σ s r e' hr hsc hm I h
  subst hsc
  cases ex with
  | Name y pos =>
    simp only [mE, Bool.and_eq_true, List.any_eq_true] at hm
    obtain ⟨⟨⟨h1, h2⟩, h3⟩, q, hq, h4, h5⟩ := hm
    simp only [ev] at h
    cases h
    have e1 := beq_iff_eq.mp h1
    subst e1
    obtain ⟨v, hv, fv⟩ := rn.cn q hq
    rw [beq_iff_eq.mp h4] at hv
    refine I.glob h2 h3 hv (I.here (t' := s.toks) ?_)
    have : d = q.2 := by
      unfold sameK at h5
      split at h5
      · rename_i e1 e2; rw [e2, beq_iff_eq.mp h5]
      · rename_i e1 e2; rw [e2, beq_iff_eq.mp h5]
      · cases h5
    rw [this]
    exact fv.ext I.sh.bz
  | _ => simp [mE, genP] at hm

/-! ### one, two things -/
theorem Post.resD {d : PyData} (q : Post g N en σ Z F s e1 r v s1) (h : r.data e1 = some d) : ∃ Z1 w, Step g [] Z F s Z1 (fun a => Foot σ e1 a ∨ FootR v r a) s1 ∧ Inv g N en Z1 e1 σ s1 ∧ RepR g en Z1 s1.heap σ e1 v r ∧ w.data = d ∧ Rep Z1 s1.heap v w := by
  obtain ⟨Z1, st, I, rr⟩ := q
  obtain ⟨w, hw, rw'⟩ := I.resD rr h
  exact ⟨Z1, w, st, I, rr, hw, rw'⟩
/-- one expression, then what is done with its thing -/
theorem one {x : E} {ex : Expr} {sc : Scope} {d : PyData} {Q : Value → Shared → Prop} (hx : SE p c g N k x) (hr : L2.Room k A) (hsc : en.scope = sc) (hm : mE p N sc x ex = true) (I : Inv g N en Z e σ s) (h : ev c x e = some (r, e1)) (hd : r.data e1 = some d)
    (go : ∀ v Z1 w s1, Step g [] Z (Foot σ e) s Z1 (Foot σ e1) s1 → Inv g N en Z1 e1 σ s1 → w.data = d → Rep Z1 s1.heap v w → Q v s1) : WP g A (eval ex en) Q s := by
  refine wp_mono (hx sc ex A en Z e σ s r e1 hr hsc hm I h) fun v s1 q => ?_
  obtain ⟨Z1, w, st, I1, rr, hw, rw'⟩ := q.resD hd
  exact go v Z1 w s1 (st.less fun a q => .inl q) I1 hw rw'
theorem two {x y : E} {ex ey : Expr} {sc : Scope} {ra rb : R} {d d' : PyData} {Q : Value → Value → Shared → Prop} (hx : SE p c g N k x) (hy : SE p c g N k y) (hr : L2.Room k A) (hsc : en.scope = sc) (hm : mE p N sc x ex = true) (hm2 : mE p N sc y ey = true)
    (I : Inv g N en Z e σ s) (h : ev c x e = some (ra, e1)) (h2 : ev c y e1 = some (rb, e2)) (hd : ra.data e2 = some d) (hd2 : rb.data e2 = some d')
    (go : ∀ v u Z2 w w' s2, Step g [] Z (Foot σ e) s Z2 (Foot σ e2) s2 → Inv g N en Z2 e2 σ s2 → w.data = d → w'.data = d' → Rep Z2 s2.heap v w → Rep Z2 s2.heap u w' → RepR g en Z2 s2.heap σ e2 u rb → Q v u s2) :
    WP g A (eval ex en) (fun v s1 => WP g A (eval ey en) (fun u s2 => Q v u s2) s1) s := by
  refine wp_mono (hx sc ex A en Z e σ s ra e1 hr hsc hm I h) fun v s1 q1 => ?_
  obtain ⟨Z1, st1, I1, rr1⟩ := q1
  refine wp_mono (hy sc ey A en Z1 e1 σ s1 rb e2 hr hsc hm2 I1 h2) fun u s2 q2 => ?_
  obtain ⟨Z2, st2, I2, rr2⟩ := q2
  have rr1' := rr1.carry st2 (fun a q => .inl q)
  obtain ⟨w, hw, rw1⟩ := I2.resD rr1' hd
  obtain ⟨w', hw', rw2⟩ := I2.resD rr2 hd2
  exact go v u Z2 w w' s2 ((st1.less fun a q => .inl q).trans (st2.less fun a q => .inl q)) I2 hw hw' rw1 rw2 rr2

theorem mB_is {o : Bop} {op : Operator} (h : mB o op = true) : op = bopOf o := by
  cases o <;> cases op <;> first | rfl | cases h
theorem mC_is {o : Cop} {op : CmpOp} (h : mC o op = true) : op = copOf o := by
  cases o <;> cases op <;> first | rfl | cases h

theorem se_bin {o : Bop} {a b : E} (ha : SE p c g N k a) (hb : SE p c g N k b) : SE p c g N k (.bin o a b) := by
  intro sc ex A en Z e σ s r e' hr hsc hm I h
  cases ex with
  | BinOp l op rr pos =>
    simp only [mE, Bool.and_eq_true] at hm
    obtain ⟨⟨h0, h1⟩, h2⟩ := hm
    simp only [ev, Option.bind_eq_some_iff, Option.map_eq_some_iff, Prod.exists] at h
    obtain ⟨ra, e1, k1, rb, e2, k2, x, dx, y, dy, w, hw, h⟩ := h
    cases h
    rw [mB_is h0]
    refine wpAny_BinOp (two ha hb hr hsc h1 h2 I k1 k2 dx dy fun v u Z2 w1 w2 s2 st I2 ew ew' r1 r2 _ => ?_)
    subst ew ew'
    exact wp_mono (bin_ok I2 r1 r2 hw) fun _ _ q => q.weak st (fun _ z => z)
  | _ => simp [mE, genP] at hm
theorem se_neg {a : E} (ha : SE p c g N k a) : SE p c g N k (.neg a) := by
  intro sc ex A en Z e σ s r e' hr hsc hm I h
  cases ex with
  | UnaryOp op x pos =>
    cases op with
    | USub =>
      simp only [mE] at hm
      simp only [ev, Option.bind_eq_some_iff, Prod.exists] at h
      obtain ⟨ra, e1, k1, x', dx, h⟩ := h
      split at h
      · cases h
        refine UnaryOp_ (one ha hr hsc hm I k1 dx fun v Z1 w s1 st I1 ew r1 => ?_)
        obtain ⟨t, rfl⟩ := (r1.flat ew (by simp)).int_inv
        exact PyProof.Rows.neg_int ((I1.here .int).weak st fun _ z => z)
      · cases h
    | _ => simp [mE, genP] at hm
  | _ => simp [mE, genP] at hm
end
end Mini

-- M8
set_option Elab.async false
set_option linter.all false
set_option maxRecDepth 100000
set_option maxHeartbeats 4000000
/-! Mini 8: expressions run as they should, part 2: tests, items, parts. -/
namespace Mini
open PySem PyProof.Rows

section
variable {p : Px} {c : Cf} {g : G} {N : List Str} {k : Nat} {en : PySem.Env} {Z Z1 Z2 : Heap} {e e1 e2 e' : Env} {σ : List (Option Value)} {s s1 s2 s' : Shared} {A : Around} {F F1 : Addr → Prop} {v u : Value} {r : R}

theorem room_units (hr : L2.Room k A) : A.units + 200 < cLine := by
  have := hr.un
  omega
theorem PostE.of (st : Step g [] Z F s Z1 (Foot σ e1) s1) (I : Inv g N en Z1 e1 σ s1) : PostE g N en σ Z F s e1 s1 := ⟨Z1, st, I⟩
theorem PostE.tok {t : Nat} (st : Step g [] Z F s Z1 (Foot σ e1) s1) (I : Inv g N en Z1 e1 σ s1) : PostE g N en σ Z F s e1 { s1 with toks := t } :=
  ⟨Z1, st.trans (Step.grow (h' := s1.heap) fun _ _ q => q), I.grow (h' := s1.heap) fun _ _ q => q⟩
theorem Inv.toks (I : Inv g N en Z e σ s) {t : Nat} : Inv g N en Z e σ { s with toks := t } := I.grow (h' := s.heap) fun _ _ q => q
theorem Step.toks {fr : List Addr} (st : Step g fr Z F s Z1 F1 s1) {t : Nat} : Step g fr Z F s Z1 F1 { s1 with toks := t } := st.trans (Step.grow (h' := s1.heap) fun _ _ q => q)
theorem truth_is {b : Bool} {x : PyData} (I : Inv g N en Z1 e1 σ s1) (st : Step g [] Z F s Z1 (Foot σ e1) s1) {w : W} (ew : w.data = x) (rw' : Rep Z1 s1.heap v w) (h : truth x = some b) : WP g A (truthy v) (fun b' s' => b' = b ∧ PostE g N en σ Z F s e1 s') s1 := by
  subst ew
  refine wp_mono (truth_ok I rw' h) fun c s' q => ?_
  obtain ⟨q1, t, rfl⟩ := q
  exact ⟨q1, .tok st I⟩
theorem evT_inv {x : E} {b : Bool} (h : evT c x e = some (b, e')) : ∃ r d, ev c x e = some (r, e') ∧ r.data e' = some d ∧ truth d = some b := by
  unfold evT at h
  simp only [Option.bind_eq_some_iff, Option.map_eq_some_iff, Prod.exists] at h
  obtain ⟨r, e1, h1, x, h2, b, h3, h4⟩ := h
  cases h4
  exact ⟨r, x, h1, h2, h3⟩
theorem evT_of {x : E} {b : Bool} {d : PyData} (h1 : ev c x e = some (r, e')) (h2 : r.data e' = some d) (h3 : truth d = some b) : evT c x e = some (b, e') := by
  unfold evT
  simp [h1, h2, h3]
/-- a test that asks its thing's truth -/
theorem st_plain {x : E} (hx : SE p c g N k x) (hp : ∀ sc ex, mE p N sc x ex = true → ∀ en whole, isTrue ex en whole = (do let v ← whole; standAt ex.pos; holding [v] (truthy v))) : ST p c g N k x := by
  intro sc ex A en Z e σ s b e' hr hsc hm I h
  obtain ⟨r, d, h1, h2, h3⟩ := evT_inv h
  refine isTrue_plain (one hx hr hsc hm I h1 h2 fun v Z1 w s1 st I1 ew r1 => ?_) (hp sc ex hm _ _)
  exact truth_is I1 st ew r1 h3
theorem se_not {a : E} (ha : ST p c g N k a) (ha' : SE p c g N k a) : SE p c g N k (.not a) := by
  intro sc ex A en Z e σ s r e' hr hsc hm I h
  cases ex with
  | UnaryOp op x pos =>
    cases op with
    | Not =>
      simp only [mE] at hm
      simp only [ev, Option.bind_eq_some_iff, Option.map_eq_some_iff, Prod.exists] at h
      obtain ⟨ra, e1, k1, x', dx, b, hb, h⟩ := h
      cases h
      refine UnaryOp_ (one ha' hr hsc hm I k1 dx fun v Z1 w s1 st I1 ew r1 => not_of ?_)
      refine wp_mono (truth_is I1 st ew r1 hb) fun b' s' q => ?_
      obtain ⟨rfl, Z2, st2, I2⟩ := q
      exact .data st2 I2 .bool
    | _ => simp [mE, genP] at hm
  | _ => simp [mE, genP] at hm
theorem st_not {a : E} (ha : ST p c g N k a) : ST p c g N k (.not a) := by
  intro sc ex A en Z e σ s b e' hr hsc hm I h
  cases ex with
  | UnaryOp op x pos =>
    cases op with
    | Not =>
      simp only [mE] at hm
      obtain ⟨r, d, h1, h2, h3⟩ := evT_inv h
      simp only [ev, Option.bind_eq_some_iff, Option.map_eq_some_iff, Prod.exists] at h1
      obtain ⟨ra, e1, k1, x', dx, b', hb, h1⟩ := h1
      cases h1
      cases h2
      cases h3
      refine isTrue_not (wp_mono (ha sc x A en Z e σ s b' e' hr hsc hm I (evT_of k1 dx hb)) fun b s' q => ?_)
      obtain ⟨rfl, q⟩ := q
      exact ⟨rfl, q⟩
    | _ => simp [mE, genP] at hm
  | _ => simp [mE, genP] at hm
/-- two tests, the second where the first says so -/
theorem se_and {a b : E} (ha : SE p c g N k a) (hb : SE p c g N k b) : SE p c g N k (.and a b) := by
  intro sc ex A en Z e σ s r e' hr hsc hm I h
  simp only [ev, Option.bind_eq_some_iff, Prod.exists] at h
  obtain ⟨ra, e1, k1, x, dx, t, ht, h⟩ := h
  cases ex with
  | BoolOp op vals pos =>
    have key : ∀ x0 y0 rest, mE p N sc a x0 = true → mE p N sc b (.BoolOp .And (y0 :: rest) pos) = true ∨ (rest = [] ∧ mE p N sc b y0 = true) → WP g A (eval (.BoolOp .And (x0 :: y0 :: rest) pos) en) (Post g N en σ Z (Foot σ e) s e' r) s := by
      intro x0 y0 rest h0 h00
      refine BoolOp_and (wp_mono (ha sc x0 A en Z e σ s ra e1 hr hsc h0 I k1) fun v s1 q => ?_)
      obtain ⟨Z1, w, st, I1, rr, ew, r1⟩ := q.resD dx
      have q0 := q
      have st1 := st.less (F2 := Foot σ e1) fun _ z => .inl z
      refine wp_mono (truth_ok I1 r1 (by rw [ew]; exact ht)) fun b' s' qq => ?_
      obtain ⟨rfl, tk, rfl⟩ := qq
      cases b' with
      | true =>
        simp only [if_true] at h ⊢
        have st2 := st1.toks (t := tk)
        rcases h00 with z | ⟨rfl, z⟩
        · exact wp_mono (hb sc _ A en Z1 e1 σ _ r e' hr hsc z (I1.toks) h) fun _ _ q => q.weak st2 fun _ z => z
        · refine BoolOp_one ?_
          exact wp_mono (hb sc _ A en Z1 e1 σ _ r e' hr hsc z (I1.toks) h) fun _ _ q => q.weak st2 fun _ z => z
      | false =>
        simp only [Bool.false_eq_true, if_false] at h ⊢
        cases h
        refine ⟨Z1, st.toks, I1.toks, ?_⟩
        cases r with
        | pl i => exact rr
        | v w => exact rr
    cases op with
    | And =>
      match vals, hm with
      | [x0, y0], hm =>
        simp only [mE, Bool.and_eq_true] at hm
        exact key x0 y0 [] hm.1 (.inr ⟨rfl, hm.2⟩)
      | x0 :: y0 :: z0 :: rest, hm =>
        simp only [mE, Bool.and_eq_true] at hm
        exact key x0 y0 (z0 :: rest) hm.1 (.inl hm.2.2)
      | [], hm => simp [mE, genP] at hm
      | [x0], hm => simp [mE, genP] at hm
    | Or => simp [mE, genP] at hm
  | _ => simp [mE, genP] at hm
theorem se_or {a b : E} (ha : SE p c g N k a) (hb : SE p c g N k b) : SE p c g N k (.or a b) := by
  intro sc ex A en Z e σ s r e' hr hsc hm I h
  simp only [ev, Option.bind_eq_some_iff, Prod.exists] at h
  obtain ⟨ra, e1, k1, x, dx, t, ht, h⟩ := h
  cases ex with
  | BoolOp op vals pos =>
    have key : ∀ x0 y0 rest, mE p N sc a x0 = true → mE p N sc b (.BoolOp .Or (y0 :: rest) pos) = true ∨ (rest = [] ∧ mE p N sc b y0 = true) → WP g A (eval (.BoolOp .Or (x0 :: y0 :: rest) pos) en) (Post g N en σ Z (Foot σ e) s e' r) s := by
      intro x0 y0 rest h0 h00
      refine BoolOp_or (wp_mono (ha sc x0 A en Z e σ s ra e1 hr hsc h0 I k1) fun v s1 q => ?_)
      obtain ⟨Z1, w, st, I1, rr, ew, r1⟩ := q.resD dx
      have st1 := st.less (F2 := Foot σ e1) fun _ z => .inl z
      refine wp_mono (truth_ok I1 r1 (by rw [ew]; exact ht)) fun b' s' qq => ?_
      obtain ⟨rfl, tk, rfl⟩ := qq
      cases b' with
      | false =>
        simp only [Bool.false_eq_true, if_false] at h ⊢
        have st2 := st1.toks (t := tk)
        rcases h00 with z | ⟨rfl, z⟩
        · exact wp_mono (hb sc _ A en Z1 e1 σ _ r e' hr hsc z (I1.toks) h) fun _ _ q => q.weak st2 fun _ z => z
        · refine BoolOp_one ?_
          exact wp_mono (hb sc _ A en Z1 e1 σ _ r e' hr hsc z (I1.toks) h) fun _ _ q => q.weak st2 fun _ z => z
      | true =>
        simp only [if_true] at h ⊢
        cases h
        refine ⟨Z1, st.toks, I1.toks, ?_⟩
        cases r with
        | pl i => exact rr
        | v w => exact rr
    cases op with
    | Or =>
      match vals, hm with
      | [x0, y0], hm =>
        simp only [mE, Bool.and_eq_true] at hm
        exact key x0 y0 [] hm.1 (.inr ⟨rfl, hm.2⟩)
      | x0 :: y0 :: z0 :: rest, hm =>
        simp only [mE, Bool.and_eq_true] at hm
        exact key x0 y0 (z0 :: rest) hm.1 (.inl hm.2.2)
      | [], hm => simp [mE, genP] at hm
      | [x0], hm => simp [mE, genP] at hm
    | And => simp [mE, genP] at hm
  | _ => simp [mE, genP] at hm
theorem st_and {a b : E} (ha : ST p c g N k a) (hb : ST p c g N k b) : ST p c g N k (.and a b) := by
  intro sc ex A en Z e σ s b' e' hr hsc hm I h
  obtain ⟨r, d, h1, h2, h3⟩ := evT_inv h
  simp only [ev, Option.bind_eq_some_iff, Prod.exists] at h1
  obtain ⟨ra, e1, k1, x, dx, t, ht, h1⟩ := h1
  cases ex with
  | BoolOp op vals pos =>
    have key : ∀ x0 rest (whole : Sem Value), mE p N sc a x0 = true → mE p N sc b (.BoolOp .And rest pos) = true ∨ (∃ y0, rest = [y0] ∧ mE p N sc b y0 = true) → WP g A (isTrue (.BoolOp .And (x0 :: rest) pos) en whole) (fun c s' => c = b' ∧ PostE g N en σ Z (Foot σ e) s e' s') s := by
      intro x0 rest whole h0 h00
      refine isTrue_and (wp_mono (ha sc x0 A en Z e σ s t e1 hr hsc h0 I (evT_of k1 dx ht)) fun t' s1 q => ?_)
      obtain ⟨rfl, Z1, st1, I1⟩ := q
      cases t' with
      | true =>
        simp only [if_true] at h1 ⊢
        rcases h00 with z | ⟨y0, rfl, z⟩
        · exact wp_mono (hb sc _ A en Z1 e1 σ s1 b' e' hr hsc z I1 (evT_of h1 h2 h3)) fun _ _ q => ⟨q.1, q.2.after st1 fun _ z => z⟩
        · refine isTrue_and (wp_mono (hb sc _ A en Z1 e1 σ s1 b' e' hr hsc z I1 (evT_of h1 h2 h3)) fun t2 s2 q => ?_)
          obtain ⟨rfl, q⟩ := q
          have q' := q.after st1 fun _ z => z
          cases t2 with
          | true => exact isTrue_and_nil ⟨rfl, q'⟩
          | false => exact ⟨rfl, q'⟩
      | false =>
        simp only [Bool.false_eq_true, if_false] at h1 ⊢
        cases h1
        rw [dx] at h2
        cases h2
        rw [ht] at h3
        cases h3
        exact ⟨rfl, Z1, st1, I1⟩
    cases op with
    | And =>
      match vals, hm with
      | [x0, y0], hm =>
        simp only [mE, Bool.and_eq_true] at hm
        exact key x0 [y0] _ hm.1 (.inr ⟨y0, rfl, hm.2⟩)
      | x0 :: y0 :: z0 :: rest, hm =>
        simp only [mE, Bool.and_eq_true] at hm
        exact key x0 (y0 :: z0 :: rest) _ hm.1 (.inl hm.2.2)
      | [], hm => simp [mE, genP] at hm
      | [x0], hm => simp [mE, genP] at hm
    | Or => simp [mE, genP] at hm
  | _ => simp [mE, genP] at hm
theorem st_or {a b : E} (ha : ST p c g N k a) (hb : ST p c g N k b) : ST p c g N k (.or a b) := by
  intro sc ex A en Z e σ s b' e' hr hsc hm I h
  obtain ⟨r, d, h1, h2, h3⟩ := evT_inv h
  simp only [ev, Option.bind_eq_some_iff, Prod.exists] at h1
  obtain ⟨ra, e1, k1, x, dx, t, ht, h1⟩ := h1
  cases ex with
  | BoolOp op vals pos =>
    have key : ∀ x0 rest (whole : Sem Value), mE p N sc a x0 = true → mE p N sc b (.BoolOp .Or rest pos) = true ∨ (∃ y0, rest = [y0] ∧ mE p N sc b y0 = true) → WP g A (isTrue (.BoolOp .Or (x0 :: rest) pos) en whole) (fun c s' => c = b' ∧ PostE g N en σ Z (Foot σ e) s e' s') s := by
      intro x0 rest whole h0 h00
      refine isTrue_or (wp_mono (ha sc x0 A en Z e σ s t e1 hr hsc h0 I (evT_of k1 dx ht)) fun t' s1 q => ?_)
      obtain ⟨rfl, Z1, st1, I1⟩ := q
      cases t' with
      | false =>
        simp only [Bool.false_eq_true, if_false] at h1 ⊢
        rcases h00 with z | ⟨y0, rfl, z⟩
        · exact wp_mono (hb sc _ A en Z1 e1 σ s1 b' e' hr hsc z I1 (evT_of h1 h2 h3)) fun _ _ q => ⟨q.1, q.2.after st1 fun _ z => z⟩
        · refine isTrue_or (wp_mono (hb sc _ A en Z1 e1 σ s1 b' e' hr hsc z I1 (evT_of h1 h2 h3)) fun t2 s2 q => ?_)
          obtain ⟨rfl, q⟩ := q
          have q' := q.after st1 fun _ z => z
          cases t2 with
          | false => exact isTrue_or_nil ⟨rfl, q'⟩
          | true => exact ⟨rfl, q'⟩
      | true =>
        simp only [if_true] at h1 ⊢
        cases h1
        rw [dx] at h2
        cases h2
        rw [ht] at h3
        cases h3
        exact ⟨rfl, Z1, st1, I1⟩
    cases op with
    | Or =>
      match vals, hm with
      | [x0, y0], hm =>
        simp only [mE, Bool.and_eq_true] at hm
        exact key x0 [y0] _ hm.1 (.inr ⟨y0, rfl, hm.2⟩)
      | x0 :: y0 :: z0 :: rest, hm =>
        simp only [mE, Bool.and_eq_true] at hm
        exact key x0 (y0 :: z0 :: rest) _ hm.1 (.inl hm.2.2)
      | [], hm => simp [mE, genP] at hm
      | [x0], hm => simp [mE, genP] at hm
    | And => simp [mE, genP] at hm
  | _ => simp [mE, genP] at hm
theorem se_ite {t a b : E} (ht : ST p c g N k t) (ha : SE p c g N k a) (hb : SE p c g N k b) : SE p c g N k (.ite t a b) := by
  intro sc ex A en Z e σ s r e' hr hsc hm I h
  cases ex with
  | IfExp q x y pos =>
    simp only [mE, Bool.and_eq_true] at hm
    simp only [ev, Option.bind_eq_some_iff, Prod.exists] at h
    obtain ⟨rt, e1, k1, d, dx, b', hb', h⟩ := h
    refine IfExp_ (wp_mono (ht sc q A en Z e σ s b' e1 hr hsc hm.1.1 I (evT_of k1 dx hb')) fun b2 s1 q => ?_)
    obtain ⟨rfl, Z1, st1, I1⟩ := q
    cases b2 with
    | true =>
      simp only [if_true] at h ⊢
      exact wp_mono (ha sc x A en Z1 e1 σ s1 r e' hr hsc hm.1.2 I1 h) fun _ _ q => q.weak st1 fun _ z => z
    | false =>
      simp only [Bool.false_eq_true, if_false] at h ⊢
      exact wp_mono (hb sc y A en Z1 e1 σ s1 r e' hr hsc hm.2 I1 h) fun _ _ q => q.weak st1 fun _ z => z
  | _ => simp [mE, genP] at hm
theorem st_ite {t a b : E} (ht : ST p c g N k t) (ha : ST p c g N k a) (hb : ST p c g N k b) : ST p c g N k (.ite t a b) := by
  intro sc ex A en Z e σ s bb e' hr hsc hm I h
  obtain ⟨r, d0, h1, h2, h3⟩ := evT_inv h
  cases ex with
  | IfExp q x y pos =>
    simp only [mE, Bool.and_eq_true] at hm
    simp only [ev, Option.bind_eq_some_iff, Prod.exists] at h1
    obtain ⟨rt, e1, k1, d, dx, b', hb', h1⟩ := h1
    refine isTrue_IfExp (wp_mono (ht sc q A en Z e σ s b' e1 hr hsc hm.1.1 I (evT_of k1 dx hb')) fun b2 s1 q => ?_)
    obtain ⟨rfl, Z1, st1, I1⟩ := q
    cases b2 with
    | true =>
      simp only [if_true] at h1 ⊢
      exact wp_mono (ha sc x A en Z1 e1 σ s1 bb e' hr hsc hm.1.2 I1 (evT_of h1 h2 h3)) fun _ _ q => ⟨q.1, q.2.after st1 fun _ z => z⟩
    | false =>
      simp only [Bool.false_eq_true, if_false] at h1 ⊢
      exact wp_mono (hb sc y A en Z1 e1 σ s1 bb e' hr hsc hm.2 I1 (evT_of h1 h2 h3)) fun _ _ q => ⟨q.1, q.2.after st1 fun _ z => z⟩
  | _ => simp [mE, genP] at hm
theorem se_cmp {o : Cop} {a b : E} (ha : SE p c g N k a) (hb : SE p c g N k b) : SE p c g N k (.cmp o a b) := by
  intro sc ex A en Z e σ s r e' hr hsc hm I h
  cases ex with
  | Compare l ops rs pos =>
    match ops, rs, hm with
    | [op], [rr], hm =>
      simp only [mE, Bool.and_eq_true, Bool.not_eq_true'] at hm
      obtain ⟨⟨⟨h0, h1⟩, h2⟩, h3⟩ := hm
      simp only [ev, Option.bind_eq_some_iff, Option.map_eq_some_iff, Prod.exists] at h
      obtain ⟨ra, e1, k1, rb, e2, k2, x, dx, y, dy, t, hw, h⟩ := h
      cases h
      refine wpAny_Compare1 (two ha hb hr hsc h1 h2 I k1 k2 dx dy fun v u Z2 w1 w2 s2 st I2 ew ew' r1 r2 _ => ?_) h3
      subst ew ew'
      rw [mC_is h0]
      refine wp_mono (cmp_ok I2 (room_units hr) r1 r2 hw) fun x s' q => ?_
      obtain ⟨rfl, rfl⟩ := q
      exact .data st I2 .bool
    | [], _, hm => simp [mE, genP] at hm
    | [_], [], hm => simp [mE, genP] at hm
    | [_], _ :: _ :: _, hm => simp [mE, genP] at hm
    | _ :: _ :: _, _, hm => simp [mE, genP] at hm
  | _ => simp [mE, genP] at hm
theorem st_cmp {o : Cop} {a b : E} (ha : SE p c g N k a) (hb : SE p c g N k b) : ST p c g N k (.cmp o a b) := by
  intro sc ex A en Z e σ s bb e' hr hsc hm I h
  obtain ⟨r, d0, h1, h2, h3⟩ := evT_inv h
  cases ex with
  | Compare l ops rs pos =>
    match ops, rs, hm with
    | [op], [rr], hm =>
      simp only [mE, Bool.and_eq_true, Bool.not_eq_true'] at hm
      obtain ⟨⟨⟨m0, m1⟩, m2⟩, m3⟩ := hm
      simp only [ev, Option.bind_eq_some_iff, Option.map_eq_some_iff, Prod.exists] at h1
      obtain ⟨ra, e1, k1, rb, e2, k2, x, dx, y, dy, t, hw, h1⟩ := h1
      cases h1
      cases h2
      cases h3
      refine wpAny_isTrue_Compare1 (two ha hb hr hsc m1 m2 I k1 k2 dx dy fun v u Z2 w1 w2 s2 st I2 ew ew' r1 r2 _ => ?_) m3
      subst ew ew'
      rw [mC_is m0]
      refine wp_mono (cmp_ok I2 (room_units hr) r1 r2 hw) fun x s' q => ?_
      obtain ⟨rfl, rfl⟩ := q
      exact wpAny_truthy_bool ⟨rfl, .of st I2⟩
    | [], _, hm => simp [mE, genP] at hm
    | [_], [], hm => simp [mE, genP] at hm
    | [_], _ :: _ :: _, hm => simp [mE, genP] at hm
    | _ :: _ :: _, _, hm => simp [mE, genP] at hm
  | _ => simp [mE, genP] at hm
/-- a < b < c -/
theorem se_chain {o1 o2 : Cop} {a b d : E} (ha : SE p c g N k a) (hb : SE p c g N k b) (hd : SE p c g N k d) : SE p c g N k (.chain o1 o2 a b d) := by
  intro sc ex A en Z e σ s r e' hr hsc hm I h
  cases ex with
  | Compare l ops rs pos =>
    match ops, rs, hm with
    | [op1, op2], [m, rr], hm =>
      simp only [mE, Bool.and_eq_true, Bool.not_eq_true'] at hm
      obtain ⟨⟨⟨⟨⟨m1, m2⟩, m3⟩, m4⟩, m5⟩, m6⟩ := hm
      simp only [ev, Option.bind_eq_some_iff, Prod.exists] at h
      obtain ⟨ra, e1, k1, rb, e2, k2, x, dx, y, dy, t, ht, h⟩ := h
      refine Compare_chain (wp_mono (ha sc l A en Z e σ s ra e1 hr hsc m3 I k1) fun v s1 q1 => chain_link ?_) m6
      obtain ⟨Z1, st1, I1, rr1⟩ := q1
      refine wp_mono (hb sc m A en Z1 e1 σ s1 rb e2 hr hsc m4 I1 k2) fun u s2 q2 => ?_
      obtain ⟨Z2, st2, I2, rr2⟩ := q2
      have rr1' := rr1.carry st2 (fun a q => .inl q)
      obtain ⟨w, hw, rw1⟩ := I2.resD rr1' dx
      obtain ⟨w', hw', rw2⟩ := I2.resD rr2 dy
      have st := (st1.less (F2 := Foot σ e1) fun a q => .inl q).trans (st2.less (F2 := Foot σ e2) fun a q => .inl q)
      rw [mC_is m1]
      refine wp_mono (cmp_ok I2 (room_units hr) rw1 rw2 (by rw [hw, hw']; exact ht)) fun x' s' q => ?_
      obtain ⟨rfl, rfl⟩ := q
      refine wpAny_truthy_bool ?_
      cases t with
      | false =>
        simp only [Bool.false_eq_true, if_false] at h ⊢
        cases h
        exact .data st I2 .bool
      | true =>
        simp only [if_true, Option.bind_eq_some_iff, Option.map_eq_some_iff, Prod.exists] at h ⊢
        obtain ⟨rd, e3, k3, y', dy', z, dz, t2, ht2, h⟩ := h
        cases h
        refine chain_last (wp_mono (hd sc rr A en Z2 e2 σ s' rd e' hr hsc m5 I2 k3) fun x3 s3 q3 => ?_)
        obtain ⟨Z3, st3, I3, rr3⟩ := q3
        have rr2' := rr2.carry st3 (fun a q => .inl q)
        obtain ⟨w2, hw2, rw2'⟩ := I3.resD rr2' dy'
        obtain ⟨w3, hw3, rw3'⟩ := I3.resD rr3 dz
        rw [mC_is m2]
        refine wp_mono (cmp_ok I3 (room_units hr) rw2' rw3' (by rw [hw2, hw3]; exact ht2)) fun x' s' q => ?_
        obtain ⟨rfl, rfl⟩ := q
        exact .data (st.trans (st3.less fun a q => .inl q)) I3 .bool
    | [], _, hm => simp [mE, genP] at hm
    | [_], [], hm => simp [mE, genP] at hm
    | [_], [_], hm => simp [mE, genP] at hm
    | [_], _ :: _ :: _, hm => simp [mE, genP] at hm
    | [_, _], [], hm => simp [mE, genP] at hm
    | [_, _], [_], hm => simp [mE, genP] at hm
    | [_, _], _ :: _ :: _ :: _, hm => simp [mE, genP] at hm
    | _ :: _ :: _ :: _, _, hm => simp [mE, genP] at hm
  | _ => simp [mE, genP] at hm
theorem st_chain {o1 o2 : Cop} {a b d : E} (ha : SE p c g N k a) (hb : SE p c g N k b) (hd : SE p c g N k d) : ST p c g N k (.chain o1 o2 a b d) := by
  intro sc ex A en Z e σ s bb e' hr hsc hm I h
  obtain ⟨r, d0, h, h2, h3⟩ := evT_inv h
  cases ex with
  | Compare l ops rs pos =>
    match ops, rs, hm with
    | [op1, op2], [m, rr], hm =>
      simp only [mE, Bool.and_eq_true, Bool.not_eq_true'] at hm
      obtain ⟨⟨⟨⟨⟨m1, m2⟩, m3⟩, m4⟩, m5⟩, m6⟩ := hm
      simp only [ev, Option.bind_eq_some_iff, Prod.exists] at h
      obtain ⟨ra, e1, k1, rb, e2, k2, x, dx, y, dy, t, ht, h⟩ := h
      refine isTrue_chain (wp_mono (ha sc l A en Z e σ s ra e1 hr hsc m3 I k1) fun v s1 q1 => test_link ?_) m6
      obtain ⟨Z1, st1, I1, rr1⟩ := q1
      refine wp_mono (hb sc m A en Z1 e1 σ s1 rb e2 hr hsc m4 I1 k2) fun u s2 q2 => ?_
      obtain ⟨Z2, st2, I2, rr2⟩ := q2
      have rr1' := rr1.carry st2 (fun a q => .inl q)
      obtain ⟨w, hw, rw1⟩ := I2.resD rr1' dx
      obtain ⟨w', hw', rw2⟩ := I2.resD rr2 dy
      have st := (st1.less (F2 := Foot σ e1) fun a q => .inl q).trans (st2.less (F2 := Foot σ e2) fun a q => .inl q)
      rw [mC_is m1]
      refine wp_mono (cmp_ok I2 (room_units hr) rw1 rw2 (by rw [hw, hw']; exact ht)) fun x' s' q => ?_
      obtain ⟨rfl, rfl⟩ := q
      refine wpAny_truthy_bool ?_
      cases t with
      | false =>
        simp only [Bool.false_eq_true, if_false] at h ⊢
        cases h
        cases h2
        cases h3
        exact ⟨rfl, .of st I2⟩
      | true =>
        simp only [if_true, Option.bind_eq_some_iff, Option.map_eq_some_iff, Prod.exists] at h ⊢
        obtain ⟨rd, e3, k3, y', dy', z, dz, t2, ht2, h⟩ := h
        cases h
        cases h2
        cases h3
        refine test_last (wp_mono (hd sc rr A en Z2 e2 σ s' rd e' hr hsc m5 I2 k3) fun x3 s3 q3 => ?_)
        obtain ⟨Z3, st3, I3, rr3⟩ := q3
        have rr2' := rr2.carry st3 (fun a q => .inl q)
        obtain ⟨w2, hw2, rw2'⟩ := I3.resD rr2' dy'
        obtain ⟨w3, hw3, rw3'⟩ := I3.resD rr3 dz
        rw [mC_is m2]
        refine wp_mono (cmp_ok I3 (room_units hr) rw2' rw3' (by rw [hw2, hw3]; exact ht2)) fun x' s' q => ?_
        obtain ⟨rfl, rfl⟩ := q
        exact wpAny_truthy_bool ⟨rfl, .of (st.trans (st3.less fun a q => .inl q)) I3⟩
    | [], _, hm => simp [mE, genP] at hm
    | [_], [], hm => simp [mE, genP] at hm
    | [_], [_], hm => simp [mE, genP] at hm
    | [_], _ :: _ :: _, hm => simp [mE, genP] at hm
    | [_, _], [], hm => simp [mE, genP] at hm
    | [_, _], [_], hm => simp [mE, genP] at hm
    | [_, _], _ :: _ :: _ :: _, hm => simp [mE, genP] at hm
    | _ :: _ :: _ :: _, _, hm => simp [mE, genP] at hm
  | _ => simp [mE, genP] at hm
/-- no expression of ours is a slice by itself -/
theorem no_slice {x : E} {ex : Expr} {sc : Scope} (hm : mE p N sc x ex = true) : ∀ o i, subscripted ex false o i = operate [o, i] (getItem o i) := by
  cases ex <;> intro o i <;> first | rfl | (cases x <;> simp [mE, genP] at hm)
theorem no_star {x : E} {ex : Expr} {sc : Scope} (hm : mE p N sc x ex = true) (rest : List Expr) (en : PySem.Env) : starEach (ex :: rest) en = (false, eval ex en) :: starEach rest en := by
  cases ex <;> first | rfl | (cases x <;> simp [mE, genP] at hm)
theorem se_idx {a i : E} (ha : SE p c g N k a) (hi : SE p c g N k i) : SE p c g N k (.idx a i) := by
  intro sc ex A en Z e σ s r e' hr hsc hm I h
  cases ex with
  | Subscript l x pos =>
    simp only [mE, Bool.and_eq_true] at hm
    simp only [ev, Option.bind_eq_some_iff, Option.map_eq_some_iff, Prod.exists] at h
    obtain ⟨ra, e1, k1, rb, e2, k2, x', dx, y, dy, d, hw, h⟩ := h
    cases h
    refine Subscript_ (two ha hi hr hsc hm.1 hm.2 I k1 k2 dx dy fun v u Z2 w1 w2 s2 st I2 ew ew' r1 r2 _ => ?_)
    subst ew ew'
    exact wp_mono (idx_ok I2 r1 r2 hw (no_slice hm.2)) fun _ _ q => q.weak st fun _ z => z
  | _ => simp [mE, genP] at hm
/-- an end of a slice -/
theorem se_part {x : E} {o : Option Expr} {sc : Scope} (hx : SE p c g N k x) (hr : L2.Room k A) (hsc : en.scope = sc) (hm : (match o with
    | none => isNoneE x
    | some l => mE p N sc x l) = true) (I : Inv g N en Z e σ s) (h : ev c x e = some (r, e')) : WP g A (evalPart o en) (Post g N en σ Z (Foot σ e) s e' r) s := by
  cases o with
  | none =>
    cases x with
    | none =>
      simp only [ev] at h
      cases h
      exact evalPart_none_step (I.here (t' := s.toks) .none)
    | _ => simp [isNoneE] at hm
  | some l => exact hx sc l A en Z e σ s r e' hr hsc hm I h
theorem se_slc {a lo hi : E} (ha : SE p c g N k a) (hl : SE p c g N k lo) (hh : SE p c g N k hi) : SE p c g N k (.slc a lo hi) := by
  intro sc ex A en Z e σ s r e' hr hsc hm I h
  cases ex with
  | Subscript l x pos =>
    cases x with
    | Slice lo' hi' st' pp =>
      cases st' with
      | none =>
        simp only [mE, Bool.and_eq_true] at hm
        simp only [ev, Option.bind_eq_some_iff, Option.map_eq_some_iff, Prod.exists] at h
        obtain ⟨ra, e1, k1, rl, e2, k2, rh, e3, k3, x, dx, y, dy, z, dz, w, hw, h⟩ := h
        cases h
        refine Subscript_ (wp_mono (ha sc l A en Z e σ s ra e1 hr hsc hm.1.1 I k1) fun v s1 q1 => ?_)
        obtain ⟨Z1, st1, I1, rr1⟩ := q1
        refine wpAny_Slice (wp_mono (se_part hl hr hsc hm.1.2 I1 k2) fun vl s2 q2 => ?_)
        obtain ⟨Z2, st2, I2, rr2⟩ := q2
        refine wp_mono (se_part hh hr hsc hm.2 I2 k3) fun vh s3 q3 => ?_
        obtain ⟨Z3, st3, I3, rr3⟩ := q3
        rw [evalPart_none]
        refine wpAny_pure ?_
        have a1 := (rr1.carry st2 fun a q => .inl q).carry st3 fun a q => .inl q
        have a2 := rr2.carry st3 fun a q => .inl q
        obtain ⟨w1, ew1, b1⟩ := I3.resD a1 dx
        obtain ⟨w2, ew2, b2⟩ := I3.resD a2 dy
        obtain ⟨w3, ew3, b3⟩ := I3.resD rr3 dz
        have st := ((st1.less (F2 := Foot σ e1) fun a q => .inl q).trans (st2.less (F2 := Foot σ e2) fun a q => .inl q)).trans (st3.less (F2 := Foot σ e') fun a q => .inl q)
        subst ew1 ew2 ew3
        exact wp_mono (slc_ok I3 b1 b2 b3 hw) fun _ _ q => q.weak st fun _ z => z
      | some _ => simp [mE, genP] at hm
    | _ => simp [mE, genP] at hm
  | _ => simp [mE, genP] at hm
end
end Mini

-- M9
set_option Elab.async false
set_option linter.all false
set_option maxRecDepth 100000
set_option maxHeartbeats 4000000
/-! Mini 9: expressions run as they should, part 3: arguments, displays, built-ins, calls. -/
namespace Mini
open PySem PyProof.Rows

section
variable {p : Px} {c : Cf} {g : G} {N : List Str} {k : Nat} {en : PySem.Env} {Z Z1 Z2 : Heap} {e e1 e2 e' : Env} {σ : List (Option Value)} {s s1 s2 s' : Shared} {A : Around} {F F1 : Addr → Prop} {v u : Value} {r : R} {vs : List Value} {rs : List R}

/-! ### slots change their word -/
theorem Inv.lay (I : Inv g N en Z e σ s) {e2 : Env} (hl : e2.length = e.length) (h : ∀ (i : Nat) (w : W), get e2 i = some w → get e i = some w ∨ ∃ v d, w = .d d ∧ σ[i]? = some (some v) ∧ Fz Z d v) : Inv g N en Z e2 σ s where
  ok := I.ok
  sh := I.sh
  fm := I.fm
  fz := I.fz
  fl := I.fl
  sees := I.sees
  len := I.len
  elen := hl.trans I.elen
  rep := fun i w hw => by
    rcases h i w hw with q | ⟨v, d, rfl, q1, q2⟩
    · exact I.rep i w q
    · exact ⟨v, q1, q2⟩
  inj := fun i j xs ys a h1 h2 h3 h4 => by
    rcases h i _ h1 with q | ⟨_, _, q, _⟩
    · rcases h j _ h2 with q' | ⟨_, _, q', _⟩
      · exact I.inj i j xs ys a q q' h3 h4
      · cases q'
    · cases q
  mine := fun a ⟨i, xs, h1, h2⟩ => by
    rcases h i _ h1 with q | ⟨_, _, q, _⟩
    · exact I.mine a ⟨i, xs, q, h2⟩
    · cases q
theorem foot_set {i : Nat} {o : Option W} {a : Addr} (ho : ∀ xs, o ≠ some (.own xs)) (h : Foot σ (e.set i o) a) : Foot σ e a := by
  obtain ⟨j, xs, h1, h2⟩ := h
  rw [get_set] at h1
  split at h1
  · exact absurd h1 (ho xs)
  · exact ⟨j, xs, h1, h2⟩
theorem Inv.drop (I : Inv g N en Z e σ s) (i : Nat) : Inv g N en Z (e.set i none) σ s := I.lay (by simp) fun j w h => by
  rw [get_set] at h
  split at h
  · cases h
  · exact .inl h
theorem Inv.claim (I : Inv g N en Z e σ s) {i : Nat} {d : PyData} (h1 : σ[i]? = some (some v)) (h2 : Fz Z d v) : Inv g N en Z (e.set i (some (.d d))) σ s := I.lay (by simp) fun j w h => by
  rw [get_set] at h
  split at h
  · rename_i q
    obtain ⟨rfl, _⟩ := q
    cases h
    exact .inr ⟨v, d, rfl, h1, h2⟩
  · exact .inl h
theorem frz_d {i : Nat} {d : PyData} (h : get e i = some (.d d)) : frz e i = e := by simp [frz, h]
theorem frz_own {i : Nat} {xs : List PyData} (h : get e i = some (.own xs)) : frz e i = e.set i (some (.d (.list xs))) := by simp [frz, h]
theorem frz_none {i : Nat} (h : get e i = none) : frz e i = e := by simp [frz, h]
/-- the word for a slot's thing, as data -/
theorem frz_data {i j : Nat} : (get (frz e i) j).map W.data = (get e j).map W.data := by
  cases h : get e i with
  | none => rw [frz_none h]
  | some w =>
    cases w with
    | d d => rw [frz_d h]
    | own xs =>
      rw [frz_own h, get_set]
      split
      · rename_i q
        rw [← q.1, h]
        rfl
      · rfl
theorem data_frz {i : Nat} (r : R) : r.data (frz e i) = r.data e := by
  cases r with
  | v w => rfl
  | pl j => exact frz_data
theorem datas_cons {r : R} {rs : List R} {ds : List PyData} (h : datas e (r :: rs) = some ds) : ∃ d ds', ds = d :: ds' ∧ r.data e = some d ∧ datas e rs = some ds' := by
  unfold datas at h
  simp only [ws, Option.map_eq_some_iff, Option.bind_eq_some_iff] at h
  obtain ⟨l, ⟨w, hw, l', hl, rfl⟩, rfl⟩ := h
  exact ⟨_, _, rfl, by simp [R.data, hw], by simp [datas, hl]⟩
theorem datas_of {r : R} {rs : List R} {d : PyData} {ds : List PyData} (h1 : r.data e = some d) (h2 : datas e rs = some ds) : datas e (r :: rs) = some (d :: ds) := by
  unfold R.data at h1
  unfold datas at h2
  rw [Option.map_eq_some_iff] at h1 h2
  obtain ⟨w, hw, rfl⟩ := h1
  obtain ⟨l, hl, rfl⟩ := h2
  simp [datas, ws, hw, hl]
theorem datas_frz {e : Env} {i : Nat} : ∀ {rs : List R}, datas (frz e i) rs = datas e rs
  | [] => rfl
  | r :: rs => by
    have ih := @datas_frz e i rs
    cases h : datas e (r :: rs) with
    | some ds =>
      obtain ⟨d, ds', rfl, h1, h2⟩ := datas_cons h
      exact datas_of (by rw [data_frz]; exact h1) (by rw [ih]; exact h2)
    | none =>
      cases h' : datas (frz e i) (r :: rs) with
      | none => rfl
      | some ds =>
        obtain ⟨d, ds', rfl, h1, h2⟩ := datas_cons h'
        rw [data_frz] at h1
        rw [ih] at h2
        rw [datas_of h1 h2] at h
        cases h
/-- a slot's own list stays as it is from now on -/
theorem Inv.freeze1 (I : Inv g N en Z e σ s) {i : Nat} {xs : List PyData} (h : get e i = some (.own xs)) (hv : σ[i]? = some (some v)) :
    ∃ Z', Step g [] Z (Foot σ e) s Z' (Foot σ (frz e i)) s ∧ Inv g N en Z' (frz e i) σ s ∧ Fz Z' (.list xs) v ∧ ∀ b o, Z'.get? b = some o → Z.get? b = some o ∨ Foot σ e b := by
  obtain ⟨v', hv', a, its, n, rfl, h1, h2, h3⟩ := I.rep i _ h
  rw [hv] at hv'
  cases hv'
  have fa : Foot σ e a := ⟨i, xs, h, hv⟩
  obtain ⟨Z', ez, ea, bk, I'⟩ := (I.drop i).fix h1 (I.mine a fa) fun ⟨j, ys, q1, q2⟩ => by
    rw [get_set] at q1
    split at q1
    · cases q1
    · rename_i ne
      exact ne ⟨I.inj i j xs ys a h q1 hv q2, get_lt h⟩
  have f' : Fz Z' (.list xs) (.ref a) := .lst ea h2 (h3.ext ez)
  have bk' : ∀ b o, Z'.get? b = some o → Z.get? b = some o ∨ Foot σ e b := fun b o q => (bk b o q).imp_right fun z => by rw [z]; exact fa
  have I2 := I'.claim hv f'
  rw [List.set_set] at I2
  rw [frz_own h]
  exact ⟨Z', ⟨ez, fun _ _ q _ _ _ => q, fun _ o q => ⟨o, q⟩, fun b q => .inl (foot_set (fun ys z => by cases z) q), fun b o q => (bk' b o q).imp_right .inl, rfl, fun _ => ⟨_, _, rfl⟩⟩, I2, f', bk'⟩
theorem RepA.zs (x : RepA g en Z s.heap σ e vs rs) (hz : Ext Z Z1) (hb : ∀ b o, Z1.get? b = some o → Z.get? b = some o ∨ ∀ q ∈ vs.zip rs, ¬ FootR q.1 q.2 b) (hF : ∀ a, Foot σ e1 a → Foot σ e a) : RepA g en Z1 s.heap σ e1 vs rs := by
  induction x with
  | nil => exact .nil
  | @cons v r vs rs h1 h2 h3 ih =>
    refine .cons ?_ (ih fun b o q => (hb b o q).imp_right fun z p hp => z p (List.mem_cons_of_mem _ hp)) h3
    cases r with
    | pl i => exact h1
    | v w =>
      refine ⟨h1.1.keep hz fun _ _ _ _ _ q => q, fun a ha => ?_⟩
      obtain ⟨⟨m1, m2, m3⟩, m4⟩ := h1.2 a ha
      refine ⟨⟨?_, m2, m3⟩, fun q => m4 (hF a q)⟩
      cases z : Z1.get? a with
      | none => rfl
      | some o =>
        rcases hb a o z with q | q
        · rw [m1] at q; cases q
        · exact absurd ha (q (v, .v w) List.mem_cons_self)
theorem footA_cons {a : Addr} : FootA (v :: vs) (r :: rs) a ↔ FootR v r a ∨ FootA vs rs a := by
  unfold FootA
  simp
/-- what other things are to hold stays from now on -/
theorem Inv.freeze : ∀ {rs : List R} {vs : List Value} {ds : List PyData} {e : Env} {Z : Heap}, Inv g N en Z e σ s → RepA g en Z s.heap σ e vs rs → datas e rs = some ds →
    ∃ Z', Step g [] Z (fun a => Foot σ e a ∨ FootA vs rs a) s Z' (Foot σ (frzs e rs)) s ∧ Inv g N en Z' (frzs e rs) σ s ∧ FzA Z' ds vs := by
  intro rs
  induction rs with
  | nil =>
    intro vs ds e Z I ra hd
    cases ra
    cases hd
    exact ⟨Z, Step.refl.more fun _ q => .inl q, I, .nil⟩
  | cons r rs ih =>
    intro vs ds e Z I ra hd
    obtain ⟨d, ds', rfl, d1, d2⟩ := datas_cons hd
    cases ra with
    | @cons v _ vs' _ h1 h2 h3 =>
      cases r with
      | pl i =>
        unfold R.data at d1
        rw [Option.map_eq_some_iff] at d1
        obtain ⟨w, hw, rfl⟩ := d1
        have hw' : get e i = some w := hw
        cases w with
        | d d =>
          obtain ⟨v', q1, q2⟩ := I.rep i _ hw'
          rw [show σ[i]? = some (some v) from h1] at q1
          cases q1
          have ef : frzs e (R.pl i :: rs) = frzs e rs := by simp only [frzs, frz_d hw']
          obtain ⟨Z', st, I', f'⟩ := ih I h2 d2
          rw [ef]
          exact ⟨Z', st.more fun a q => q.imp_right fun z => footA_cons.mpr (.inr z), I', .cons (Fz.ext st.zz q2) f'⟩
        | own xs =>
          obtain ⟨Z1, st1, I1, f1, bk⟩ := I.freeze1 hw' (show σ[i]? = some (some v) from h1)
          have ra1 : RepA g en Z1 s.heap σ (frz e i) vs' rs := h2.zs st1.zz (fun b o q => (bk b o q).imp_right fun fb q' hq' hf => by
            have : ∀ (us : List Value) (l : List R), RepA g en Z s.heap σ e us l → ∀ q ∈ us.zip l, ∀ b, FootR q.1 q.2 b → ¬ Foot σ e b := by
              intro us l ra
              induction ra with
              | nil => intro q hq; simp at hq
              | @cons v r vs rs a1 a2 a3 ih =>
                intro q hq b hb
                rcases List.mem_cons.mp hq with rfl | hq
                · cases r with
                  | pl i => obtain ⟨_, z, _⟩ := hb; cases z
                  | v w => exact (a1.2 b hb).2
                · exact ih q hq b hb
            exact this vs' rs h2 q' hq' b hf fb) fun a q => by rw [frz_own hw'] at q; exact foot_set (fun ys z => by cases z) q
          obtain ⟨Z', st, I', f'⟩ := ih I1 ra1 (by rw [datas_frz]; exact d2)
          have ef : frzs e (R.pl i :: rs) = frzs (frz e i) rs := by simp only [frzs]
          rw [ef]
          refine ⟨Z', ?_, I', .cons (Fz.ext st.zz f1) f'⟩
          have st1' : Step g [] Z (fun a => Foot σ e a ∨ FootA (v :: vs') (R.pl i :: rs) a) s Z1 (fun a => Foot σ (frz e i) a ∨ FootA vs' rs a) s :=
            ⟨st1.zz, fun _ _ q _ _ _ => q, fun _ o q => ⟨o, q⟩, fun b q => q.elim (fun z => (st1.newF b z).imp_left .inl) fun z => .inl (.inr (footA_cons.mpr (.inr z))), fun b o q => (st1.newZ b o q).imp_right fun z => z.imp_left .inl, rfl, st1.quiet⟩
          exact st1'.trans st
      | v w =>
        cases w with
        | d d =>
          cases d1
          obtain ⟨Z', st, I', f'⟩ := ih I h2 d2
          exact ⟨Z', st.more fun a q => q.imp_right fun z => footA_cons.mpr (.inr z), I', .cons (Fz.ext st.zz h1.1) f'⟩
        | own xs =>
          cases d1
          obtain ⟨⟨a, its, n, rfl, g1, g2, g3⟩, m⟩ := h1
          obtain ⟨m1, m2⟩ := m a ⟨xs, rfl, rfl⟩
          obtain ⟨Z1, ez, ea, bk, I1⟩ := I.fix g1 m1 m2
          have ra1 : RepA g en Z1 s.heap σ e vs' rs := h2.zs ez (fun b o q => (bk b o q).imp_right fun z q' hq' hf => h3 a ⟨xs, rfl, rfl⟩ q' hq' (by rw [← z]; exact hf)) fun _ q => q
          obtain ⟨Z', st, I', f'⟩ := ih I1 ra1 d2
          refine ⟨Z', ?_, I', .cons (Fz.ext st.zz (.lst ea g2 (g3.ext ez))) f'⟩
          have fa : FootA (.ref a :: vs') (R.v (.own xs) :: rs) a := footA_cons.mpr (.inl ⟨xs, rfl, rfl⟩)
          have st1' : Step g [] Z (fun b => Foot σ e b ∨ FootA (.ref a :: vs') (R.v (.own xs) :: rs) b) s Z1 (fun b => Foot σ e b ∨ FootA vs' rs b) s :=
            ⟨ez, fun _ _ q _ _ _ => q, fun _ o q => ⟨o, q⟩, fun b q => .inl (q.imp_right fun z => footA_cons.mpr (.inr z)), fun b o q => (bk b o q).imp_right fun z => .inl (.inr (by rw [z]; exact fa)), rfl, fun _ => ⟨_, _, rfl⟩⟩
          exact st1'.trans st

/-! ### argument lists -/
theorem sa_nil : SA p c g N k .nil := by
  intro sc es A en Z e σ s rs e' pos hr hsc hm I h
  cases es with
  | nil =>
    simp only [evA] at h
    cases h
    refine args_nil ⟨Z, Step.refl.less fun a q => ?_, I, .nil⟩
    rcases q with q | ⟨_, q, _⟩
    · exact q
    · simp at q
  | cons _ _ => simp [mD] at hm
theorem sa_cons {a r : E} (ha : SE p c g N k a) (hb : SA p c g N k r) : SA p c g N k (.cons a r) := by
  intro sc es A en Z e σ s rs e' pos hr hsc hm I h
  cases es with
  | nil => simp [mD] at hm
  | cons x xs =>
    simp only [mD, Bool.and_eq_true] at hm
    simp only [evA, Option.bind_eq_some_iff, Option.map_eq_some_iff, Prod.exists] at h
    obtain ⟨ra, e1, k1, rl, e2, k2, h⟩ := h
    cases h
    refine args_cons (wp_mono (ha sc x A en Z e σ s ra e1 hr hsc hm.1 I k1) fun v s1 q1 => ?_) (no_star hm.1 _ _)
    obtain ⟨Z1, st1, I1, rr1⟩ := q1
    refine wp_mono (hb sc xs A en Z1 e1 σ s1 rl e' pos hr hsc hm.2 I1 k2) fun vs s2 q2 => ?_
    obtain ⟨Z2, st2, I2, rr2⟩ := q2
    have rr1' := rr1.carry st2 fun a q => .inl q
    have ap := rr1.apart st2
    refine ⟨Z2, ?_, I2, .cons rr1' rr2 fun a ha p hp hf => ap a ha (.inr ⟨p, hp, hf⟩)⟩
    have st2' : Step g [] Z1 (fun a => Foot σ e1 a ∨ FootR v ra a) s1 Z2 (fun a => Foot σ e' a ∨ FootA (v :: vs) (ra :: rl) a) s2 :=
      ⟨st2.zz, fun b o q n1 n2 n3 => st2.keep b o q (fun z => n1 (.inl z)) n2 n3, st2.there, fun b q => by
        rcases q with q | q
        · exact (st2.newF b (.inl q)).imp_left .inl
        · rcases footA_cons.mp q with z | z
          · exact .inl (.inr z)
          · exact (st2.newF b (.inr z)).imp_left .inl, fun b o q => (st2.newZ b o q).imp_right fun z => z.imp_left .inl, st2.os, st2.quiet⟩
    exact st1.trans st2'
theorem mA_plain {sc : Scope} {pos : Pos} : ∀ {x : E} {es : List Expr}, mA p N sc x es = true → (backTo pos (starEach es en)).any (·.1) = false
  | x, [], _ => rfl
  | .cons a r, ex :: es, h => by
    simp only [mA, Bool.and_eq_true] at h
    rw [no_star h.1]
    show (false || (backTo pos (starEach es en)).any (·.1)) = false
    rw [mA_plain h.2]
    rfl
  | .nil, _ :: _, h => by simp [mA] at h
  | .var _, _ :: _, h => by simp [mA] at h
  | .lit _, _ :: _, h => by simp [mA] at h
  | .con _ _, _ :: _, h => by simp [mA] at h
  | .bin _ _ _, _ :: _, h => by simp [mA] at h
  | .neg _, _ :: _, h => by simp [mA] at h
  | .not _, _ :: _, h => by simp [mA] at h
  | .and _ _, _ :: _, h => by simp [mA] at h
  | .or _ _, _ :: _, h => by simp [mA] at h
  | .cmp _ _ _, _ :: _, h => by simp [mA] at h
  | .chain _ _ _ _ _, _ :: _, h => by simp [mA] at h
  | .ite _ _ _, _ :: _, h => by simp [mA] at h
  | .idx _ _, _ :: _, h => by simp [mA] at h
  | .slc _ _ _, _ :: _, h => by simp [mA] at h
  | .none, _ :: _, h => by simp [mA] at h
  | .tup _, _ :: _, h => by simp [mA] at h
  | .lst _, _ :: _, h => by simp [mA] at h
  | .star _ _, _ :: _, h => by simp [mA] at h
  | .lc _ _ _ _ _, _ :: _, h => by simp [mA] at h
  | .src _, _ :: _, h => by simp [mA] at h
  | .rng1 _, _ :: _, h => by simp [mA] at h
  | .rng2 _ _, _ :: _, h => by simp [mA] at h
  | .rng3 _ _ _, _ :: _, h => by simp [mA] at h
  | .enum _, _ :: _, h => by simp [mA] at h
  | .lrng _, _ :: _, h => by simp [mA] at h
  | .call _ _, _ :: _, h => by simp [mA] at h
  | .bi _ _, _ :: _, h => by simp [mA] at h
  | .isi _ _, _ :: _, h => by simp [mA] at h
  | .isis _ _, _ :: _, h => by simp [mA] at h
  | .gen _ _ _ _ _ _, _ :: _, h => by simp [mA] at h
/-- an argument list as things -/
theorem Inv.words : ∀ {rs : List R} {vs : List Value} {l : List W}, Inv g N en Z e σ s → RepA g en Z s.heap σ e vs rs → ws e rs = some l → RepW Z s.heap vs l
  | [], vs, l, I, ra, h => by
    cases ra
    cases h
    exact .nil
  | r :: rs, vs, l, I, ra, h => by
    simp only [ws, Option.bind_eq_some_iff, Option.map_eq_some_iff] at h
    obtain ⟨w, hw, l', hl, rfl⟩ := h
    cases ra with
    | cons h1 h2 h3 => exact .cons (I.resW h1 hw) (Inv.words I h2 hl)
theorem lim_len {vs : List Value} {ds : List PyData} (f : FzA Z ds vs) (h : ds.length ≤ sizeLine) : vs.length ≤ sizeLine := by rw [f.length]; exact h

theorem ws_len : ∀ {rs : List R} {l : List W}, ws e rs = some l → l.length = rs.length
  | [], l, h => by cases h; rfl
  | r :: rs, l, h => by
    simp only [ws, Option.bind_eq_some_iff, Option.map_eq_some_iff] at h
    obtain ⟨w, hw, l', hl, rfl⟩ := h
    simp [ws_len hl]
theorem datas_len {rs : List R} {l : List PyData} (h : datas e rs = some l) : l.length = rs.length := by
  unfold datas at h
  rw [Option.map_eq_some_iff] at h
  obtain ⟨w, hw, rfl⟩ := h
  simp [ws_len hw]
theorem RepA.len (x : RepA g en Z s.heap σ e vs rs) : vs.length = rs.length := by
  induction x with
  | nil => rfl
  | cons _ _ _ ih => simp [ih]
theorem sa_len : ∀ {l : List Expr} {x : E} {sc : Scope} {e : Env} {rs : List R} {e' : Env}, mA p N sc x l = true → evA c x e = some (rs, e') → rs.length = l.length
  | [], x, sc, e, rs, e', hm, h => by
    cases x <;> simp [mA] at hm
    simp only [evA] at h
    cases h
    rfl
  | ex :: l, x, sc, e, rs, e', hm, h => by
    cases x <;> simp only [mA, Bool.and_eq_true] at hm <;> (try (simp at hm; done))
    simp only [evA, Option.bind_eq_some_iff, Option.map_eq_some_iff, Prod.exists] at h
    obtain ⟨ra, e1, k1, rl, e2, k2, h⟩ := h
    cases h
    simp [sa_len hm.2 k2]
theorem Post.same {Q Q' : Addr → Prop} {r' : R} (st : Step g [] Z F s Z1 (Foot σ e1) s1) (I : Inv g N en Z1 e1 σ s1) (q : Post g N en σ Z1 (Foot σ e1) s1 e1 r' v s') : Post g N en σ Z F s e1 r' v s' := Post.after st (fun _ z => z) q
theorem mA_mD : ∀ {l : List Expr} {x : E} {sc : Scope}, mA p N sc x l = true → mD p N sc x l = true
  | [], x, sc, hm => by
    cases x <;> simp [mA] at hm
    rfl
  | ex :: l, x, sc, hm => by
    cases x <;> simp only [mA, Bool.and_eq_true] at hm <;> (try (simp at hm; done))
    simp only [mD, Bool.and_eq_true]
    exact ⟨hm.1, mA_mD hm.2⟩
theorem sd_cap : ∀ {l : List Expr} {x : E} {sc : Scope} {e : Env} {rs : List R} {e' : Env}, mD p N sc x l = true → evA c x e = some (rs, e') → rs.length ≤ 1048576 * l.length
  | [], x, sc, e, rs, e', hm, h => by
    cases x <;> simp [mD] at hm
    simp only [evA] at h
    cases h
    exact Nat.zero_le _
  | ex :: l, x, sc, e, rs, e', hm, h => by
    cases x with
    | cons a r =>
      simp only [mD, Bool.and_eq_true] at hm
      simp only [evA, Option.bind_eq_some_iff, Option.map_eq_some_iff, Prod.exists] at h
      obtain ⟨ra, e1, k1, rl, e2, k2, h⟩ := h
      cases h
      have := sd_cap hm.2 k2
      rw [List.length_cons, List.length_cons]
      omega
    | star a r =>
      cases ex <;> simp only [mD, Bool.and_eq_true] at hm <;> (try (simp at hm; done))
      simp only [evA, Option.bind_eq_some_iff, Prod.exists] at h
      obtain ⟨ra, e1, k1, d, kd, xs, kx, h⟩ := h
      split at h
      · rename_i hz
        simp only [Option.map_eq_some_iff, Prod.exists] at h
        obtain ⟨rl, e2, k2, h⟩ := h
        cases h
        have := sd_cap hm.2 k2
        rw [List.length_append, List.length_map, List.length_cons]
        omega
      · cases h
    | _ => simp [mD] at hm
theorem sd_mD {l : List Expr} {x : E} {sc : Scope} (h : (mA p N sc x l || decide (l.length ≤ 15) && mD p N sc x l) = true) : mD p N sc x l = true := by
  rw [Bool.or_eq_true] at h
  rcases h with h | h
  · exact mA_mD h
  · exact (Bool.and_eq_true_iff.mp h).2
theorem sd_len {l : List Expr} {x : E} {sc : Scope} {e : Env} {rs : List R} {e' : Env} (hz : szOk l.length = true) (h : (mA p N sc x l || decide (l.length ≤ 15) && mD p N sc x l) = true) (k : evA c x e = some (rs, e')) : rs.length ≤ sizeLine := by
  rw [Bool.or_eq_true] at h
  rcases h with h | h
  · rw [sa_len h k]
    exact szOk_iff.mp hz
  · obtain ⟨h1, h2⟩ := Bool.and_eq_true_iff.mp h
    have := sd_cap h2 k
    have h1 := of_decide_eq_true h1
    have : rs.length ≤ 1048576 * 15 := Nat.le_trans this (Nat.mul_le_mul_left _ h1)
    exact Nat.le_trans this (by decide)
/-! ### a thing that is spread -/
theorem star_at {prog : Program} {w : World} {X : Value → Shared → Prop} {a : Addr} {o : Obj} {T : String} {its : Array Value} {n : Nat} {Q : List Value → Shared → Prop} (D : s.heap.get? a = some o) (hc : o.cls = .type T) (hd : o.data = .seq its n) (hT : T = "list" ∨ T = "tuple")
    (hz : its.size ≤ sizeLine) (h : ∀ h', Ext s.heap h' → Q its.toList { s with heap := h' }) : PySem.W.StarOf (model prog w) A X (.ref a) Q s := by
  have hT' : s.TypeIs (.ref a) T := ⟨o, D, hc⟩
  have z : wpAny (model prog w) A (collect (.ref a)) Q X s := wpAny_collect_seq a hT D hc hd (fun h' hk => h h' hk) hz
  unfold PySem.W.StarOf notIterableAtAll
  rcases hT with rfl | rfl
  · exact wpAny_bind (wpAny_specialOf hT' PySem.F.slot_list_iter.lookup (wpAny_pure ⟨rfl, z⟩))
  · exact wpAny_bind (wpAny_specialOf hT' PySem.F.slot_tuple_iter.lookup (wpAny_pure ⟨rfl, z⟩))
theorem footA_spread : ∀ {its : List Value} {xs : List PyData} {vs : List Value} {rs : List R} {a : Addr}, FzA Z xs its → (FootA (its ++ vs) (xs.map (fun d => R.v (.d d)) ++ rs) a ↔ FootA vs rs a)
  | its, [], vs, rs, a, f => by rw [f.nil_inv]; exact Iff.rfl
  | its, d :: xs, vs, rs, a, f => by
    obtain ⟨u, us, rfl, f1, f2⟩ := f.cons_inv
    show FootA (u :: (us ++ vs)) (R.v (.d d) :: (xs.map (fun d => R.v (.d d)) ++ rs)) a ↔ _
    rw [footA_cons, footA_spread f2]
    exact ⟨fun z => z.resolve_left fun ⟨ys, q, _⟩ => (by cases q), fun z => Or.inr z⟩
theorem repA_spread {h : Heap} : ∀ {its : List Value} {xs : List PyData} {vs : List Value} {rs : List R}, FzA Z xs its → RepA g en Z h σ e vs rs → RepA g en Z h σ e (its ++ vs) (xs.map (fun d => R.v (.d d)) ++ rs)
  | its, [], vs, rs, f, r => by rw [f.nil_inv]; exact r
  | its, d :: xs, vs, rs, f, r => by
    obtain ⟨u, us, rfl, f1, f2⟩ := f.cons_inv
    exact .cons ⟨f1, fun a ⟨ys, q, _⟩ => by cases q⟩ (repA_spread f2 r) fun a ⟨ys, q, _⟩ => by cases q
theorem sa_star {a r : E} (ha : SE p c g N k a) (hb : SA p c g N k r) : SA p c g N k (.star a r) := by
  intro sc es A en Z e σ s rs e' pos hr hsc hm I h
  cases es with
  | nil => simp [mD] at hm
  | cons ex xs =>
    cases ex <;> simp only [mD, Bool.and_eq_true] at hm <;> (try (simp at hm; done))
    simp only [evA, Option.bind_eq_some_iff, Prod.exists] at h
    obtain ⟨ra, e1, k1, d, kd, l, kl, h⟩ := h
    split at h
    · rename_i hz
      simp only [Option.map_eq_some_iff, Prod.exists] at h
      obtain ⟨rl, e2, k2, h⟩ := h
      cases h
      refine PySem.W.items_star (wp_mono (ha sc _ A en Z e σ s ra e1 hr hsc hm.1 I k1) fun v s1 q1 => ?_)
      obtain ⟨Z1, st1, I1, rr1⟩ := q1
      obtain ⟨w, hw, ew⟩ : ∃ w, ra.w e1 = some w ∧ w.data = d := by
        unfold R.data at kd
        obtain ⟨w, q1, q2⟩ := Option.map_eq_some_iff.mp kd
        exact ⟨w, q1, q2⟩
      have rw' := I1.resW rr1 hw
      obtain ⟨b, o, T, its, n, rfl, D, hc, hd', hT, f, hl⟩ : ∃ b o T its n, v = .ref b ∧ s1.heap.get? b = some o ∧ o.cls = .type T ∧ o.data = .seq its n ∧ (T = "list" ∨ T = "tuple") ∧ FzA Z1 l its.toList ∧ its.size ≤ sizeLine := by
        rcases items_inv kl with rfl | rfl
        · obtain ⟨b, its, n, rfl, h1, l1, f1⟩ := rw'.list I1.sh.zh ew
          exact ⟨b, _, "list", its.toArray, n, rfl, h1, rfl, rfl, .inl rfl, f1, by simpa using l1⟩
        · cases w with
          | own ys => cases ew
          | d dd =>
            obtain rfl : dd = .tuple l := ew
            have z : Fz Z1 (.tuple l) v := rw'
            simp only [Fz] at z
            obtain ⟨b, its, n, rfl, h1, l1, f1⟩ := z
            exact ⟨b, _, "tuple", its.toArray, n, rfl, I1.sh.zh _ _ h1, rfl, rfl, .inr rfl, f1, by simpa using l1⟩
      refine star_at D hc hd' hT hl fun h' k => ?_
      have I2 := I1.grow (t' := s1.toks) k
      have st2 : Step g [] Z1 (Foot σ e1) s1 Z1 (Foot σ e1) { s1 with heap := h' } := Step.grow (t' := s1.toks) k
      refine wp_mono (hb sc xs A en Z1 e1 σ _ rl e' pos hr hsc hm.2 I2 k2) fun vs s3 q3 => ?_
      obtain ⟨Z3, st3, I3, rr3⟩ := q3
      have f3 := f.ext st3.zz
      refine ⟨Z3, (st1.less fun a q => .inl q).trans (st2.trans (st3.less fun a q => q.imp_right fun z => (footA_spread f3).mp z)), I3, repA_spread f3 rr3⟩
    · cases h
theorem se_tup {es : E} (ha : SA p c g N k es) : SE p c g N k (.tup es) := by
  intro sc ex A en Z e σ s r e' hr hsc hm I h
  cases ex with
  | Tuple l x1 pos =>
    simp only [mE, Bool.and_eq_true] at hm
    simp only [ev, Option.bind_eq_some_iff, Option.map_eq_some_iff, Prod.exists] at h
    obtain ⟨rs, e1, k1, ds, hd, h⟩ := h
    cases h
    have len := (datas_len hd).trans rfl
    have lrs := sd_len hm.1 hm.2 k1
    have hmd := sd_mD hm.2
    refine wpAny_Tuple_spliced (wp_mono (ha sc l A en Z e σ s rs e1 pos hr hsc hmd I k1) fun vs s1 q => ?_)
    obtain ⟨Z1, st, I1, ra⟩ := q
    obtain ⟨Z2, st2, I2, f⟩ := I1.freeze ra hd
    have lv : vs.length ≤ sizeLine := by rw [f.length, len]; exact lrs
    refine ⟨lv, ?_⟩
    have q := I2.pushTup (n := 0) (t' := s1.toks) f lv
    exact q.weak (st.trans st2) fun _ z => z
  | _ => simp [mE, genP] at hm
theorem se_lst {es : E} (ha : SA p c g N k es) : SE p c g N k (.lst es) := by
  intro sc ex A en Z e σ s r e' hr hsc hm I h
  cases ex with
  | List l pos =>
    simp only [mE, Bool.and_eq_true] at hm
    simp only [ev, Option.bind_eq_some_iff, Option.map_eq_some_iff, Prod.exists] at h
    obtain ⟨rs, e1, k1, ds, hd, h⟩ := h
    cases h
    have len := (datas_len hd).trans rfl
    have lrs := sd_len hm.1 hm.2 k1
    have hmd := sd_mD hm.2
    refine wpAny_List_spliced (wp_mono (ha sc l A en Z e σ s rs e1 pos hr hsc hmd I k1) fun vs s1 q => ?_)
    obtain ⟨Z1, st, I1, ra⟩ := q
    obtain ⟨Z2, st2, I2, f⟩ := I1.freeze ra hd
    have lv : vs.length ≤ sizeLine := by rw [f.length, len]; exact lrs
    refine ⟨lv, ?_⟩
    have q := I2.pushLst (n := 0) (t' := s1.toks) f lv
    exact q.weak (st.trans st2) fun _ z => z
  | _ => simp [mE, genP] at hm

end
end Mini

-- M10
set_option Elab.async false
set_option linter.all false
set_option maxRecDepth 100000
set_option maxHeartbeats 4000000
/-! Mini 10: built-ins and calls in the text. -/
namespace Mini
open PySem PyProof.Rows

section
variable {p : Px} {c : Cf} {g : G} {N : List Str} {k : Nat} {en : PySem.Env} {Z Z1 Z2 Z' : Heap} {e e1 e2 e' : Env} {σ : List (Option Value)} {s s1 s2 s' : Shared} {A : Around} {F F1 : Addr → Prop} {v u : Value} {r : R} {vs us : List Value} {rs : List R} {l l' : List W} {w : W}

theorem boot_bi (b : Bi) : bootBuiltins (biName b) = some (biV b) := by cases b <;> rfl
theorem bn_bi (b : Bi) : biName b ∈ biNames := by cases b <;> simp [biName, biNames]
theorem call_bi {b : Bi} {pos : Pos} {ex : Expr} {rest : List Expr} {Q : Value → Shared → Prop} (h : WP g A (spliced (backTo pos (starEach (ex :: rest) en))) (fun vs s1 => WP g A (call (biV b) vs) Q s1) s)
    (he : starEach (ex :: rest) en = (false, eval ex en) :: starEach rest en) (hp : (backTo pos (starEach rest en)).any (·.1) = false) : WP g A (callWith pos (biV b) [] (backTo pos (starEach (ex :: rest) en)) []) Q s := by
  have q : (∃ id, biV b = .builtin id) ∨ ∃ T, biV b = .type T := by cases b <;> simp [biV]
  rcases q with ⟨id, q⟩ | ⟨T, q⟩
  · rw [q] at h ⊢
    exact PyProof.Rows.callWith_builtin1 h he hp
  · rw [q] at h ⊢
    exact PyProof.Rows.callWith_type1 h he hp
theorem se_bi (rn : Rn p c g k) {b : Bi} {es : E} (ha : SA p c g N k es) : SE p c g N k (.bi b es) := by
  intro sc ex A en Z e σ s r e' hr hsc hm I h
  cases ex with
  | Call f l kws pos =>
    cases f with
    | Name x np =>
      match kws, l, hm with
      | [], ex :: rest, hm =>
        simp only [mE, Bool.and_eq_true] at hm
        obtain ⟨⟨⟨h1, h2⟩, _⟩, h3⟩ := hm
        simp only [ev, Option.bind_eq_some_iff, Option.map_eq_some_iff, Prod.exists] at h
        obtain ⟨rs, e1, k1, ds, hd, w, hw, h⟩ := h
        cases h
        have ex1 := beq_iff_eq.mp h1
        subst ex1
        subst hsc
        have ne : (biName b == ("__debug__" : Str)) = false := by cases b <;> decide
        have nn : biName b ≠ "__name__" := by cases b <;> decide
        refine wpAny_Call_Name_kw (I.bltin h2 (rn.bn _ (bn_bi b)) (boot_bi b) ?_ nn ne)
        have h3' := h3
        have hs : starEach (ex :: rest) en = (false, eval ex en) :: starEach rest en := by
          cases es <;> simp only [mA, Bool.and_eq_true] at h3' <;> first | exact no_star h3'.1 _ _ | (simp at h3')
        have hp : (backTo pos (starEach rest en)).any (·.1) = false := by
          cases es <;> simp only [mA, Bool.and_eq_true] at h3' <;> first | exact mA_plain h3'.2 | (simp at h3')
        refine call_bi (wp_mono (ha _ _ A en Z e σ s rs e' pos hr rfl (mA_mD h3) I k1) fun vs s1 q => ?_) hs hp
        obtain ⟨Z1, st, I1, ra⟩ := q
        unfold datas at hd
        rw [Option.map_eq_some_iff] at hd
        obtain ⟨ll, hl, rfl⟩ := hd
        exact wp_mono (bi_ok I1 hr.hd (room_units hr) (I1.words ra hl) hw) fun _ _ q => q.weak (st.less (F2 := Foot σ e') fun _ z => .inl z) fun _ z => z
      | [], [], hm => simp [mE, genP] at hm
      | _ :: _, _, hm => simp [mE, genP] at hm
    | _ => simp [mE, genP] at hm
  | _ => simp [mE, genP] at hm
theorem mf_ok {m : Mf} {vs : List Value} {ws : List W} {d : PyData} {g : G} {N : List Str} {en : PySem.Env} {Z : Heap} {e : Env} {σ : List (Option Value)} {s : Shared} {A : Around} (I : Inv g N en Z e σ s) (r : RepW Z s.heap vs ws) (h : mathf m (ws.map W.data) = some d) :
    WP g A (call (mfId m) vs) (Post g N en σ Z (Foot σ e) s e (.v (.d d))) s := by
  generalize e0 : ws.map W.data = ds at h
  unfold mathf at h
  split at h
  · obtain ⟨v, w1, u, w2, rfl, e1, e2, r1, r2⟩ := r.two e0
    obtain ⟨t, rfl⟩ := (r1.flat e1 (by simp)).int_inv
    obtain ⟨t', rfl⟩ := (r2.flat e2 (by simp)).int_inv
    cases h
    exact PySem.W.mg_gcd fun _ => I.here .int
  · rename_i i j
    obtain ⟨v, w1, u, w2, rfl, e1, e2, r1, r2⟩ := r.two e0
    obtain ⟨t, rfl⟩ := (r1.flat e1 (by simp)).int_inv
    obtain ⟨t', rfl⟩ := (r2.flat e2 (by simp)).int_inv
    split at h
    · rename_i c
      cases h
      have e3 : (Nat.lcm 1 i.natAbs).lcm j.natAbs = Nat.lcm i.natAbs j.natAbs := by rw [Nat.lcm_one_left]
      refine PySem.W.mg_lcm (by omega) (by omega) ?_ ?_
      · rw [e3, Int.natAbs_natCast]
        have h1 : Nat.lcm i.natAbs j.natAbs ≤ i.natAbs * j.natAbs := by
          rcases Nat.eq_zero_or_pos (i.natAbs * j.natAbs) with z | z
          · have : Nat.lcm i.natAbs j.natAbs = 0 := by
              unfold Nat.lcm
              rw [z, Nat.zero_div]
            omega
          · exact Nat.le_of_dvd z (Nat.lcm_dvd_mul _ _)
        have h2 : i.natAbs * j.natAbs ≤ 1073741824 * 1073741824 := Nat.mul_le_mul (Nat.le_of_lt c.1) (Nat.le_of_lt c.2)
        have h3 : (Nat.lcm i.natAbs j.natAbs).log2 < 64 := by
          rcases Nat.eq_zero_or_pos (Nat.lcm i.natAbs j.natAbs) with z | z
          · rw [z]; decide
          · exact (Nat.log2_lt (by omega)).mpr (by omega)
        have : 64 < bitsLine := by decide
        omega
      · rw [e3]
        exact I.here .int
    · cases h
  · cases h
theorem se_mf (rn : Rn p c g k) {m : Mf} {es : E} (ha : SA p c g N k es) : SE p c g N k (.mf m es) := by
  intro sc ex A en Z e σ s r e' hr hsc hm I h
  cases ex with
  | Call f l kws pos =>
    cases f with
    | Name x np =>
      match kws, l, hm with
      | [], ex :: rest, hm =>
        simp only [mE, Bool.and_eq_true] at hm
        obtain ⟨⟨⟨⟨h1, h2⟩, h2'⟩, _⟩, h3⟩ := hm
        simp only [ev, Option.bind_eq_some_iff, Option.map_eq_some_iff, Prod.exists] at h
        obtain ⟨rs, e1, k1, ds, hd, w, hw, h⟩ := h
        cases h
        have ex1 := beq_iff_eq.mp h1
        subst ex1
        subst hsc
        refine wpAny_Call_Name_kw (I.glob h2 (by cases m <;> decide) (rn.mt m h2') ?_)
        have h3' := h3
        have hs : starEach (ex :: rest) en = (false, eval ex en) :: starEach rest en := by
          cases es <;> simp only [mA, Bool.and_eq_true] at h3' <;> first | exact no_star h3'.1 _ _ | (simp at h3')
        have hp : (backTo pos (starEach rest en)).any (·.1) = false := by
          cases es <;> simp only [mA, Bool.and_eq_true] at h3' <;> first | exact mA_plain h3'.2 | (simp at h3')
        have go : WP g A (spliced (backTo pos (starEach (ex :: rest) en))) (fun vs s1 => WP g A (call (mfId m) vs) (Post g N en σ Z (Foot σ e) s e' (.v (.d w))) s1) s := by
          refine wp_mono (ha _ _ A en Z e σ s rs e' pos hr rfl (mA_mD h3) I k1) fun vs s1 q => ?_
          obtain ⟨Z1, st, I1, ra⟩ := q
          unfold datas at hd
          rw [Option.map_eq_some_iff] at hd
          obtain ⟨ll, hl, rfl⟩ := hd
          exact wp_mono (mf_ok I1 (I1.words ra hl) hw) fun _ _ q => q.weak (st.less (F2 := Foot σ e') fun _ z => .inl z) fun _ z => z
        cases m with
        | gcd => exact PyProof.Rows.callWith_builtin1 go hs hp
        | lcm => exact PyProof.Rows.callWith_builtin1 go hs hp
      | [], [], hm => simp [mE, genP] at hm
      | _ :: _, _, hm => simp [mE, genP] at hm
    | _ => simp [mE, genP] at hm
  | _ => simp [mE, genP] at hm
theorem boot_ty (t : Ty) : bootBuiltins (tyName t) = some (tyV t) := by cases t <;> rfl
theorem bn_ty (t : Ty) : tyName t ∈ biNames := by cases t <;> simp [tyName, biNames]
theorem se_isi (rn : Rn p c g k) {a : E} {t : Ty} (ha : SE p c g N k a) : SE p c g N k (.isi a t) := by
  intro sc ex A en Z e σ s r e' hr hsc hm I h
  cases ex with
  | Call f l kws pos =>
    cases f with
    | Name x np =>
      match kws, l, hm with
      | [], [ex, .Name y yp], hm =>
        simp only [mE, Bool.and_eq_true] at hm
        obtain ⟨⟨⟨⟨h1, h2⟩, h3⟩, h4⟩, h5⟩ := hm
        simp only [ev, Option.bind_eq_some_iff, Option.map_eq_some_iff, Prod.exists] at h
        obtain ⟨ra, e1, k1, x', dx, h⟩ := h
        cases h
        have ex1 := beq_iff_eq.mp h1
        have ex2 := beq_iff_eq.mp h3
        subst ex1 ex2
        subst hsc
        refine wpAny_Call_Name_kw (I.bltin (v := .builtin "isinstance") h2 (rn.bn _ (by simp [biNames])) rfl ?_)
        have ne : (tyName t == ("__debug__" : Str)) = false := by cases t <;> decide
        have nn : tyName t ≠ "__name__" := by cases t <;> decide
        refine PyProof.Rows.callWith_builtin1 (args_cons (one ha hr rfl h5 I k1 dx fun v Z1 w s1 st I1 ew r1 => ?_) (no_star h5 _ _)) (no_star h5 _ _) rfl
        refine args_cons (I1.bltin h4 (rn.bn _ (bn_ty t)) (boot_ty t) ?_ nn ne) rfl
        refine args_nil ?_
        subst ew
        exact wp_mono (isi_ok I1 r1) fun _ _ q => q.weak st fun _ z => z
      | [], [], hm => simp [mE, genP] at hm
      | [], [_], hm => simp [mE, genP] at hm
      | [], _ :: _ :: _ :: _, hm => simp [mE, genP] at hm
      | _ :: _, _, hm => simp [mE, genP] at hm
    | _ => simp [mE, genP] at hm
  | _ => simp [mE, genP] at hm

/-! ### the program's defs -/
theorem RepA.at (x : RepA g en Z s.heap σ e vs rs) : ∀ {n : Nat} {r : R}, rs[n]? = some r → ∃ v, vs[n]? = some v ∧ RepR g en Z s.heap σ e v r := by
  induction x with
  | nil => intro n r h; simp at h
  | @cons v r vs rs h1 h2 h3 ih =>
    intro n r' h
    cases n with
    | zero => simp at h; subst h; exact ⟨v, rfl, h1⟩
    | succ n => simpa using ih (by simpa using h)
theorem RepA.once (x : RepA g en Z s.heap σ e vs rs) : ∀ {i j : Nat} {r r' : R} {a : Addr}, rs[i]? = some r → rs[j]? = some r' → (∃ v, vs[i]? = some v ∧ FootR v r a) → (∃ v, vs[j]? = some v ∧ FootR v r' a) → i = j := by
  induction x with
  | nil => intro i j r r' a h; simp at h
  | @cons v r vs rs h1 h2 h3 ih =>
    have far : ∀ {n : Nat} {r' : R} {a : Addr} {v' : Value}, rs[n]? = some r' → vs[n]? = some v' → FootR v' r' a → FootR v r a → False := fun q1 q2 q3 q4 =>
      h3 _ q4 (_, _) (List.mem_iff_getElem?.mpr ⟨_, by rw [List.getElem?_zip_eq_some]; exact ⟨q2, q1⟩⟩) q3
    intro i j r1 r2 a hi hj fi fj
    obtain ⟨v1, w1, f1⟩ := fi
    obtain ⟨v2, w2, f2⟩ := fj
    cases i with
    | zero =>
      cases j with
      | zero => rfl
      | succ j =>
        simp at hi w1 hj w2
        subst hi w1
        exact (far hj w2 f2 f1).elim
    | succ i =>
      cases j with
      | zero =>
        simp at hi w1 hj w2
        subst hj w2
        exact (far hi w1 f1 f2).elim
      | succ j =>
        simp at hi w1 hj w2
        rw [ih hi hj ⟨v1, w1, f1⟩ ⟨v2, w2, f2⟩]
theorem ws_at : ∀ {rs : List R} {l : List W}, ws e rs = some l → ∀ {n : Nat} {r : R}, rs[n]? = some r → ∃ w, l[n]? = some w ∧ r.w e = some w
  | [], l, h, n, r, q => by simp at q
  | r0 :: rs, l, h, n, r, q => by
    simp only [ws, Option.bind_eq_some_iff, Option.map_eq_some_iff] at h
    obtain ⟨w, hw, l', hl, rfl⟩ := h
    cases n with
    | zero => simp at q; subst q; exact ⟨w, rfl, hw⟩
    | succ n => simpa using ws_at hl (by simpa using q)
theorem ws_of (h : ws e rs = some l) {n : Nat} (q : l[n]? = some w) : ∃ r, rs[n]? = some r ∧ r.w e = some w := by
  have := ws_len h
  obtain ⟨hn, _⟩ := List.getElem?_eq_some_iff.mp q
  have hn' : n < rs.length := by omega
  obtain ⟨w', q1, q2⟩ := ws_at h (List.getElem?_eq_getElem hn')
  rw [q] at q1
  cases q1
  exact ⟨_, List.getElem?_eq_getElem hn', q2⟩
theorem kept_at : ∀ {l l' : List W}, keptOwn l l' = true → ∀ {n : Nat} {xs : List PyData}, l[n]? = some (W.own xs) → ∃ ys : List PyData, l'[n]? = some (W.own ys)
  | [], l', h, n, xs, q => by simp at q
  | .own ys :: l, [], h, n, xs, q => by simp [keptOwn] at h
  | .own ys :: l, .d d :: l', h, n, xs, q => by simp [keptOwn] at h
  | .own ys :: l, .own zs :: l', h, n, xs, q => by
    cases n with
    | zero => exact ⟨zs, rfl⟩
    | succ n => simpa using kept_at (l := l) (l' := l') (by simpa [keptOwn] using h) (n := n) (xs := xs) (by simpa using q)
  | .d d :: l, [], h, n, xs, q => by simp [keptOwn] at h
  | .d d :: l, z :: l', h, n, xs, q => by
    cases n with
    | zero => simp at q
    | succ n => simpa using kept_at (l := l) (l' := l') (by simpa [keptOwn] using h) (n := n) (xs := xs) (by simpa using q)
theorem owned_cons_own {i : Nat} {xs : List PyData} (h : get e i = some (.own xs)) : owned e (.pl i :: rs) = i :: owned e rs := by simp [owned, h]
theorem owned_cons (h : ∀ i xs, r = .pl i → get e i ≠ some (.own xs)) : owned e (r :: rs) = owned e rs := by
  cases r with
  | v w => simp [owned]
  | pl i =>
    cases q : get e i with
    | none => simp [owned, q]
    | some w =>
      cases w with
      | d d => simp [owned, q]
      | own xs => exact absurd q (h i xs rfl)
theorem owned_mem : ∀ {rs : List R} {n i : Nat} {xs : List PyData}, rs[n]? = some (.pl i) → get e i = some (.own xs) → i ∈ owned e rs
  | [], n, i, xs, h, _ => by simp at h
  | r :: rs, n, i, xs, h, hg => by
    cases n with
    | zero =>
      simp at h
      subst h
      rw [owned_cons_own hg]
      exact List.mem_cons_self
    | succ n =>
      have ih := owned_mem (rs := rs) (n := n) (by simpa using h) hg
      cases r with
      | v w => rw [owned_cons fun i xs q => by cases q]; exact ih
      | pl j =>
        cases q : get e j with
        | none => rw [owned_cons fun i xs z => by cases z; rw [q]; simp]; exact ih
        | some w =>
          cases w with
          | d d => rw [owned_cons fun i xs z => by cases z; rw [q]; simp]; exact ih
          | own ys => rw [owned_cons_own q]; exact List.mem_cons_of_mem _ ih
theorem owned_once : ∀ {rs : List R} {m n i : Nat} {xs : List PyData}, (owned e rs).Nodup → rs[m]? = some (.pl i) → rs[n]? = some (.pl i) → get e i = some (.own xs) → m = n
  | [], m, n, i, xs, _, h, _, _ => by simp at h
  | r :: rs, m, n, i, xs, hn, h1, h2, hg => by
    have tl : (owned e rs).Nodup := by
      cases r with
      | v w => rwa [owned_cons fun i xs q => by cases q] at hn
      | pl j =>
        cases q : get e j with
        | none => rwa [owned_cons fun i xs z => by cases z; rw [q]; simp] at hn
        | some w =>
          cases w with
          | d d => rwa [owned_cons fun i xs z => by cases z; rw [q]; simp] at hn
          | own ys => rw [owned_cons_own q, List.nodup_cons] at hn; exact hn.2
    have hd : ∀ n : Nat, r = .pl i → rs[n]? = some (R.pl i) → False := fun n q z => by
      subst q
      rw [owned_cons_own hg, List.nodup_cons] at hn
      exact hn.1 (owned_mem z hg)
    cases m with
    | zero =>
      cases n with
      | zero => rfl
      | succ n => simp at h1 h2; exact (hd n h1 h2).elim
    | succ m =>
      cases n with
      | zero => simp at h1 h2; exact (hd m h2 h1).elim
      | succ n => simp at h1 h2; rw [owned_once tl h1 h2 hg]
/-- the slots after a call -/
theorem back_at : ∀ {rs : List R} {l' : List W} {e : Env}, (∀ (n i : Nat) (xs : List PyData), rs[n]? = some (.pl i) → get e i = some (.own xs) → ∃ ys : List PyData, l'[n]? = some (W.own ys)) → ∀ (j : Nat) (w : W), get (back rs l' e) j = some w →
    (get e j = some w ∧ ∀ (n : Nat) (xs : List PyData), rs[n]? = some (R.pl j) → w ≠ .own xs) ∨ ∃ (n : Nat) (xs ys : List PyData), rs[n]? = some (R.pl j) ∧ get e j = some (.own xs) ∧ l'[n]? = some (W.own ys) ∧ w = .own ys := by
  intro rs
  induction rs with
  | nil =>
    intro l' e hk j w h
    left
    refine ⟨by simpa [back] using h, fun n xs q => by simp at q⟩
  | cons r rs ih =>
    intro l' e hk j w h
    have skip : ∀ {l2 : List W} (y : W), l' = y :: l2 → (∀ i xs, r = .pl i → get e i ≠ some (.own xs)) → get (back rs l2 e) j = some w → (get e j = some w ∧ ∀ (n : Nat) (xs : List PyData), (r :: rs)[n]? = some (R.pl j) → w ≠ .own xs) ∨ ∃ (n : Nat) (xs ys : List PyData), (r :: rs)[n]? = some (R.pl j) ∧ get e j = some (.own xs) ∧ l'[n]? = some (W.own ys) ∧ w = .own ys := by
      intro l2 y hl hr hb
      subst hl
      rcases ih (fun n i xs q1 q2 => by simpa using hk (n + 1) i xs (by simpa using q1) q2) j w hb with ⟨q1, q2⟩ | ⟨n, xs, ys, q1, q2, q3, q4⟩
      · refine .inl ⟨q1, fun n xs z hw => ?_⟩
        cases n with
        | zero => simp at z; exact hr j xs z (hw ▸ q1)
        | succ n => exact q2 n xs (by simpa using z) hw
      · exact .inr ⟨n + 1, xs, ys, by simpa using q1, q2, by simpa using q3, q4⟩
    cases r with
    | v w0 =>
      cases l' with
      | nil =>
        refine .inl ⟨by simpa [back] using h, fun n xs z hw => ?_⟩
        have hg : get e j = some (.own xs) := by rw [← hw]; simpa [back] using h
        obtain ⟨ys, q⟩ := hk n j xs z hg
        simp at q
      | cons y l2 => exact skip y rfl (fun i xs q => by cases q) (by simpa [back] using h)
    | pl i =>
      cases l' with
      | nil =>
        refine .inl ⟨by simpa [back] using h, fun n xs z hw => ?_⟩
        have hg : get e j = some (.own xs) := by rw [← hw]; simpa [back] using h
        obtain ⟨ys, q⟩ := hk n j xs z hg
        simp at q
      | cons y l2 =>
        cases q : get e i with
        | none =>
          refine skip y rfl (fun i' xs z => by cases z; rw [q]; simp) ?_
          cases y <;> simpa [back, q] using h
        | some w0 =>
          cases w0 with
          | d d =>
            refine skip y rfl (fun i' xs z => by cases z; rw [q]; simp) ?_
            cases y <;> simpa [back, q] using h
          | own xs0 =>
            obtain ⟨ys, hy⟩ := hk 0 i xs0 rfl q
            simp at hy
            subst hy
            simp only [back, q] at h
            have hk' : ∀ (n i' : Nat) (xs : List PyData), rs[n]? = some (.pl i') → get (e.set i (some (.own ys))) i' = some (.own xs) → ∃ ys : List PyData, l2[n]? = some (W.own ys) := fun n i' xs q1 q2 => by
              rw [get_set] at q2
              split at q2
              · rename_i z
                obtain ⟨rfl, _⟩ := z
                simpa using hk (n + 1) i xs0 (by simpa using q1) q
              · simpa using hk (n + 1) i' xs (by simpa using q1) q2
            rcases ih hk' j w h with ⟨q1, q2⟩ | ⟨n, xs, ys', q1, q2, q3, q4⟩
            · rw [get_set] at q1
              split at q1
              · rename_i z
                obtain ⟨rfl, _⟩ := z
                cases q1
                exact .inr ⟨0, xs0, ys, rfl, q, rfl, rfl⟩
              · rename_i z
                refine .inl ⟨q1, fun n xs z' hw => ?_⟩
                cases n with
                | zero => simp at z'; exact z ⟨z', get_lt q⟩
                | succ n => exact q2 n xs (by simpa using z') hw
            · rw [get_set] at q2
              split at q2
              · rename_i z
                obtain ⟨rfl, _⟩ := z
                exact .inr ⟨n + 1, xs0, ys', by simpa using q1, q, by simpa using q3, q4⟩
              · exact .inr ⟨n + 1, xs, ys', by simpa using q1, q2, by simpa using q3, q4⟩
theorem back_len : ∀ {rs : List R} {l' : List W} {e : Env}, (back rs l' e).length = e.length
  | [], l', e => by simp [back]
  | .v w :: rs, [], e => by simp [back]
  | .pl i :: rs, [], e => by simp [back]
  | .v w :: rs, y :: l', e => by simp only [back]; exact back_len
  | .pl i :: rs, .d d :: l', e => by simp only [back]; exact back_len
  | .pl i :: rs, .own xs :: l', e => by
    simp only [back]
    split
    · rw [back_len, List.length_set]
    · exact back_len
/-- the lists of one's own among the arguments -/
theorem footW_is (ra : RepA g en Z s.heap σ e us rs) (hl : ws e rs = some l) {a : Addr} (h : FootW us l a) : Foot σ e a ∨ FootA us rs a := by
  obtain ⟨n, xs, h1, h2⟩ := h
  obtain ⟨r, q1, q2⟩ := ws_of hl h1
  obtain ⟨v, q3, q4⟩ := ra.at q1
  rw [h2] at q3
  cases q3
  cases r with
  | pl i => exact .inl ⟨i, xs, q2, q4⟩
  | v w =>
    cases q2
    exact .inr ⟨(.ref a, .v (.own xs)), List.mem_iff_getElem?.mpr ⟨n, by rw [List.getElem?_zip_eq_some]; exact ⟨h2, q1⟩⟩, xs, rfl, rfl⟩
theorem footA_mine (ra : RepA g en Z s.heap σ e us rs) {a : Addr} (h : FootA us rs a) : Mine g en Z a ∧ ¬ Foot σ e a := by
  obtain ⟨⟨v, r⟩, hm, hf⟩ := h
  obtain ⟨n, hn⟩ := List.mem_iff_getElem?.mp hm
  rw [List.getElem?_zip_eq_some] at hn
  obtain ⟨v', q1, q2⟩ := ra.at hn.2
  rw [hn.1] at q1
  cases q1
  cases r with
  | pl i => obtain ⟨_, z, _⟩ := hf; cases z
  | v w => exact q2.2 a hf
/-- a call of one of the program's defs -/
theorem Inv.called (I : Inv g N en Z e σ s) (ra : RepA g en Z s.heap σ e us rs) (hl : ws e rs = some l) (hk : keptOwn l l' = true) (cp : CallPost g Z us l s w l' u Z' s') : Post g N en σ Z (fun a => Foot σ e a ∨ FootA us rs a) s (back rs l' e) (.v w) u s' := by
  have hb := back_at (rs := rs) (l' := l') (e := e) fun n i xs q1 q2 => by
    obtain ⟨w, z1, z2⟩ := ws_at hl q1
    have z2' : get e i = some w := z2
    rw [q2] at z2'
    cases z2'
    exact kept_at hk z1
  have fo : ∀ a, Foot σ (back rs l' e) a → Foot σ e a := fun a ⟨j, xs, h1, h2⟩ => by
    rcases hb j _ h1 with ⟨q, _⟩ | ⟨n, xs', ys, _, q, _⟩
    · exact ⟨j, xs, q, h2⟩
    · exact ⟨j, xs', q, h2⟩
  have mn : ∀ a, Foot σ e a ∨ FootA us rs a → Mine g en Z a := fun a h => h.elim (I.mine a) fun q => (footA_mine ra q).1
  have nofr : ∀ a ∈ frm en, ¬ FootW us l a := fun a ha q => (mn a (footW_is ra hl q)).2.1 ha
  have stand : ∀ a, Foot σ e a → ∃ o, s.heap.get? a = some o := fun a h => I.foot_at h
  refine ⟨Z', ⟨cp.step.zz, fun a o h n1 n2 n3 => cp.step.keep a o h (fun q => n1 (footW_is ra hl q)) n2 n3, cp.step.there, fun a q => ?_, fun a o h => (cp.step.newZ a o h).imp_right fun z => z.imp_left fun q => footW_is ra hl q, cp.step.os, cp.step.quiet⟩, ?_, cp.res, fun a ha => ?_⟩
  · rcases q with q | q
    · exact .inl (.inl (fo a q))
    · exact .inr (cp.zr a q).2.2
  · refine ⟨I.ok, cp.sh, I.fm, fun a ha => ⟨?_, (I.fz a ha).2⟩, fun a ha => let ⟨o, q⟩ := I.fl a ha; cp.step.there a o q, I.sees.keep fun a ha o q => cp.step.keep a o q (nofr a ha) (by simp) (I.fz a ha).2, I.len, back_len.trans I.elen, fun j w' h => ?_, fun i j xs ys a h1 h2 h3 h4 => ?_, fun a ha => ?_⟩
    · obtain ⟨o, q⟩ := I.fl a ha
      exact cp.step.noZ q (nofr a ha) (I.fz a ha).1
    · rcases hb j w' h with ⟨q1, q2⟩ | ⟨n, xs, ys, q1, q2, q3, rfl⟩
      · obtain ⟨v, hv, rp⟩ := I.rep j w' q1
        refine ⟨v, hv, rp.keep cp.step.zz fun xs a hw hva o ho => ?_⟩
        subst hw hva
        have fa : Foot σ e a := ⟨j, xs, q1, hv⟩
        refine cp.step.keep a o ho (fun ⟨n, ys, z1, z2⟩ => ?_) (by simp) (I.mine a fa).2.2
        obtain ⟨r, y1, y2⟩ := ws_of hl z1
        obtain ⟨v', y3, y4⟩ := ra.at y1
        rw [z2] at y3
        cases y3
        cases r with
        | pl m =>
          have := I.inj m j ys xs a y2 q1 y4 hv
          subst this
          exact q2 n xs y1 rfl
        | v w0 =>
          cases y2
          exact (y4.2 a ⟨ys, rfl, rfl⟩).2 fa
      · obtain ⟨v, hv, rp⟩ := I.rep j _ q2
        obtain ⟨v', z1, z2⟩ := ra.at q1
        rw [show σ[j]? = some (some v') from z2] at hv
        cases hv
        obtain ⟨w0, y1, y2⟩ := ws_at hl q1
        have y2' : get e j = some w0 := y2
        rw [q2] at y2'
        cases y2'
        obtain ⟨xs', x1, x2⟩ := cp.back n xs v y1 z1
        rw [q3] at x1
        cases x1
        exact ⟨v, z2, x2⟩
    · obtain ⟨xs', q1⟩ : ∃ xs', get e i = some (.own xs') := by
        rcases hb i _ h1 with ⟨q, _⟩ | ⟨n, xs', ys, _, q, _⟩
        · exact ⟨xs, q⟩
        · exact ⟨xs', q⟩
      obtain ⟨ys', q2⟩ : ∃ ys', get e j = some (.own ys') := by
        rcases hb j _ h2 with ⟨q, _⟩ | ⟨n, xs', ys, _, q, _⟩
        · exact ⟨ys, q⟩
        · exact ⟨xs', q⟩
      exact I.inj i j xs' ys' a q1 q2 h3 h4
    · obtain ⟨m1, m2, m3⟩ := I.mine a (fo a ha)
      refine ⟨?_, m2, m3⟩
      obtain ⟨o, q⟩ := stand a (fo a ha)
      by_cases fw : FootW us l a
      · exact cp.zw a fw
      · exact cp.step.noZ q fw m1
  · obtain ⟨z1, z2, z3⟩ := cp.zr a ha
    refine ⟨⟨z1, fun q => ?_, z2⟩, fun q => ?_⟩
    · obtain ⟨o, y⟩ := I.fl a q
      rw [z3] at y
      cases y
    · obtain ⟨o, y⟩ := stand a (fo a q)
      rw [z3] at y
      cases y
theorem callE_inv {f : Nat} (h : callE c f rs e = some (r, e')) : ∃ l w l', ws e rs = some l ∧ (owned e rs).Nodup ∧ c.call f l = some (w, l') ∧ keptOwn l l' = true ∧ r = .v w ∧ e' = back rs l' e := by
  unfold callE at h
  rw [Option.bind_eq_some_iff] at h
  obtain ⟨l, hl, h⟩ := h
  split at h
  · rename_i hn
    rw [Option.bind_eq_some_iff] at h
    obtain ⟨⟨w, l'⟩, hc, h⟩ := h
    dsimp only at h
    split at h
    · cases h
      exact ⟨l, w, l', hl, hn, hc, ‹_›, rfl, rfl⟩
    · cases h
  · cases h
theorem Inv.call_ok {f : Nat} {fa : Addr} (I : Inv g N en Z e σ s) (hr : L2.Room k A) (co : CallOk g c.call k f fa) (ra : RepA g en Z s.heap σ e us rs) (h : callE c f rs e = some (r, e')) :
    WP g A (call (.ref fa) us) (Post g N en σ Z (fun a => Foot σ e a ∨ FootA us rs a) s e' r) s := by
  obtain ⟨l, w, l', hl, hn, hc, hk, rfl, rfl⟩ := callE_inv h
  refine wpAny_call (codeAny_mono (co A Z s us l w l' hr I.ok I.sh (I.words ra hl) ?_ ?_ hc hk) ?_)
  · intro i j xs ys a h1 h2 h3 h4
    obtain ⟨r1, q1, q2⟩ := ws_of hl h1
    obtain ⟨r2, q3, q4⟩ := ws_of hl h2
    obtain ⟨v1, y1, y2⟩ := ra.at q1
    obtain ⟨v2, y3, y4⟩ := ra.at q3
    rw [h3] at y1
    rw [h4] at y3
    cases y1
    cases y3
    cases r1 with
    | pl m =>
      cases r2 with
      | pl n =>
        have := I.inj m n xs ys a q2 q4 y2 y4
        subst this
        exact owned_once hn q1 q3 q2
      | v w2 =>
        cases q4
        exact absurd ⟨m, xs, q2, y2⟩ (y4.2 a ⟨ys, rfl, rfl⟩).2
    | v w1 =>
      cases q2
      cases r2 with
      | pl n => exact absurd ⟨n, ys, q4, y4⟩ (y2.2 a ⟨xs, rfl, rfl⟩).2
      | v w2 =>
        cases q4
        exact ra.once q1 q3 ⟨_, h3, xs, rfl, rfl⟩ ⟨_, h4, ys, rfl, rfl⟩
  · intro a ha
    rcases footW_is ra hl ha with q | q
    · exact ⟨(I.mine a q).1, (I.mine a q).2.2⟩
    · obtain ⟨⟨m1, m2, m3⟩, _⟩ := footA_mine ra q
      exact ⟨m1, m3⟩
  · intro r s2 q
    obtain ⟨u, Z', rfl, cp⟩ := q
    exact I.called ra hl hk cp
theorem se_call (rn : Rn p c g k) {f : Nat} {es : E} (ha : SA p c g N k es) : SE p c g N k (.call f es) := by
  intro sc ex A en Z e σ s r e' hr hsc hm I h
  cases ex with
  | Call fe l kws pos =>
    cases fe with
    | Name x np =>
      match kws, l, hm with
      | [], ex :: rest, hm =>
        simp only [mE, Bool.and_eq_true] at hm
        obtain ⟨⟨⟨⟨h1, h2⟩, h0⟩, _⟩, h3⟩ := hm
        simp only [ev, Option.bind_eq_some_iff, Prod.exists] at h
        obtain ⟨rs, e1, k1, h⟩ := h
        have ex1 := beq_iff_eq.mp h1
        subst hsc
        obtain ⟨fa, hm1, hm2, hco⟩ := rn.fn f x ex1
        refine wpAny_Call_Name_kw (I.glob h2 h0 hm1 ?_)
        have h3' := h3
        have hs : starEach (ex :: rest) en = (false, eval ex en) :: starEach rest en := by
          cases es <;> simp only [mA, Bool.and_eq_true] at h3' <;> first | exact no_star h3'.1 _ _ | (simp at h3')
        have hp : (backTo pos (starEach rest en)).any (·.1) = false := by
          cases es <;> simp only [mA, Bool.and_eq_true] at h3' <;> first | exact mA_plain h3'.2 | (simp at h3')
        refine PySem.W.callWith_K I.kIn hm2 (wp_mono (ha _ _ A en Z e σ s rs e1 pos hr rfl (mA_mD h3) I k1) fun vs s1 q => ?_) hs hp
        obtain ⟨Z1, st, I1, ra⟩ := q
        refine ⟨I1.kIn, ?_⟩
        rw [List.nil_append]
        refine wp_mono (I1.call_ok hr hco ra h) fun _ _ q => ?_
        obtain ⟨Z2, a, b, c⟩ := q
        exact ⟨Z2, st.trans a, b, c⟩
      | [], [], hm => simp [mE, genP] at hm
      | _ :: _, _, hm => simp [mE, genP] at hm
    | _ => simp [mE, genP] at hm
  | _ => simp [mE, genP] at hm
end
end Mini

-- M11
set_option Elab.async false
set_option linter.all false
set_option maxRecDepth 100000
set_option maxHeartbeats 4000000
/-! Mini 11: what is given to names. -/
namespace Mini
open PySem PyProof.Rows

section
variable {g : G} {N : List Str} {k : Nat} {en : PySem.Env} {Z Z1 Z2 Z' : Heap} {e e1 e2 e' : Env} {σ σ1 : List (Option Value)} {s s1 s2 s' : Shared} {A : Around} {F F1 : Addr → Prop} {v u : Value} {r : R} {fr : List Addr} {x : Str} {i : Nat}

/-- where a name's thing stands -/
def adr (en : PySem.Env) (x : Str) : Addr := match en.kindOf x with
  | some .local => en.locals
  | _ => (en.cells.lookup x).getD 0
theorem name_at {N : List Str} {i : Nat} {x : Str} (h : mN N i x = true) : N[i]? = some x := by
  unfold mN at h
  split at h
  · rename_i y q
    rw [q, beq_iff_eq.mp h]
  · cases h
theorem sig_set {σ : List (Option Value)} {i j : Nat} {o : Option Value} : (σ.set i o)[j]? = if i = j ∧ i < σ.length then some o else σ[j]? := by
  rw [List.getElem?_set]
  by_cases h : i = j
  · subst h
    by_cases hl : i < σ.length
    · simp [hl]
    · simp [hl, List.getElem?_eq_none (Nat.le_of_not_lt hl)]
  · simp [h]
/-- a heap that differs at one of the frame's own things alone -/
theorem Inv.laid (I : Inv g N en Z e σ s) {a : Addr} (ha : a ∈ frm en) {h' : Heap} {t : Nat} (sb : ∀ b o, b ≠ a → s.heap.get? b = some o → h'.get? b = some o) (hs : ∃ o, h'.get? a = some o) (hi : i < N.length) (se : Sees N en (σ.set i (some v)) h') :
    Inv g N en Z (e.set i none) (σ.set i (some v)) { s with heap := h', toks := t } ∧ (a ∈ fr → Step g fr Z F s Z F { s with heap := h', toks := t }) := by
  have old : ∀ (j : Nat) (w : W), get (e.set i none) j = some w → j ≠ i ∧ get e j = some w := fun j w h => by
    rw [get_set] at h
    split at h
    · cases h
    · rename_i q
      refine ⟨fun z => q ⟨z.symm, ?_⟩, h⟩
      rw [I.elen]
      exact hi
  have sg : ∀ (j : Nat), j ≠ i → (σ.set i (some v))[j]? = σ[j]? := fun j h => List.getElem?_set_ne (Ne.symm h)
  have fo : ∀ b, Foot (σ.set i (some v)) (e.set i none) b → Foot σ e b := fun b ⟨j, xs, h1, h2⟩ => by
    obtain ⟨q1, q2⟩ := old j _ h1
    rw [sg j q1] at h2
    exact ⟨j, xs, q2, h2⟩
  refine ⟨⟨I.ok, ⟨fun b o q => sb b o (fun z => ?_) (I.sh.zh b o q), I.sh.bz, I.sh.tz, fun p hp => ?_, I.sh.bare⟩, I.fm, I.fz, fun b hb => ?_, se, (by rw [List.length_set]; exact I.len), (by rw [List.length_set]; exact I.elen), fun j w h => ?_, fun j m xs ys b h1 h2 h3 h4 => ?_, fun b hb => I.mine b (fo b hb)⟩, fun hf => ⟨fun _ _ q => q, fun b o q n1 n2 n3 => sb b o (fun z => n2 (z ▸ hf)) q, fun b o q => ?_, fun b q => .inl q, fun b o q => .inl q, rfl, fun _ => ⟨_, _, rfl⟩⟩⟩
  · rw [z, (I.fz a ha).1] at q
    cases q
  · obtain ⟨ps, q1, q2⟩ := I.sh.th p hp
    exact ⟨ps, sb _ _ (fun z => (I.fz a ha).2 p hp z.symm) q1, q2⟩
  · by_cases z : b = a
    · rw [z]; exact hs
    · obtain ⟨o, q⟩ := I.fl b hb
      exact ⟨o, sb b o z q⟩
  · obtain ⟨q1, q2⟩ := old j w h
    obtain ⟨u, r1, r2⟩ := I.rep j w q2
    refine ⟨u, by rw [sg j q1]; exact r1, r2.keep (fun _ _ q => q) fun xs b hw hu o ho => sb b o (fun z => ?_) ho⟩
    subst hw hu
    exact (I.mine b ⟨j, xs, q2, r1⟩).2.1 (z ▸ ha)
  · obtain ⟨q1, q2⟩ := old j _ h1
    obtain ⟨q3, q4⟩ := old m _ h2
    rw [sg j q1] at h3
    rw [sg m q3] at h4
    exact I.inj j m xs ys b q2 q4 h3 h4
  · by_cases z : b = a
    · rw [z]; exact hs
    · exact ⟨o, sb b o z q⟩
theorem cell_frm {c : Addr} (h : en.cells.lookup x = some c) : c ∈ frm en := by
  simp only [frm, List.mem_cons]
  exact .inr (List.mem_map.mpr ⟨(x, c), PySem.mem_of_lookup h, rfl⟩)
/-- a thing is given to a name -/
theorem Inv.put (I : Inv g N en Z e σ s) (hN : mN N i x = true) (hl : loc en.scope x = true) (hf : adr en x ∈ fr) : WP g A (storeName en x v) (fun _ s' => Inv g N en Z (e.set i none) (σ.set i (some v)) s' ∧ Step g fr Z F s Z F s') s := by
  have hN' := name_at hN
  obtain ⟨hi, hx⟩ := List.getElem?_eq_some_iff.mp hN'
  have one : ∀ {j : Nat} {y : Str} {w : Value}, N[j]? = some y → (σ.set i (some v))[j]? = some (some w) → (y = x ∧ w = v) ∨ (y ≠ x ∧ σ[j]? = some (some w)) := fun {j y w} h1 h2 => by
    by_cases q : i = j
    · subst q
      rw [hN'] at h1
      cases h1
      rw [List.getElem?_set_self (by rw [I.len]; exact hi)] at h2
      cases h2
      exact .inl ⟨rfl, rfl⟩
    · rw [List.getElem?_set_ne q] at h2
      refine .inr ⟨fun z => q ?_, h2⟩
      subst z
      exact L2.nodup_ix I.fm.nd hN' h1
  have kd : en.kindOf x = some .local ∨ en.kindOf x = some .cell := by
    simp only [loc, Bool.or_eq_true, beq_iff_eq] at hl
    exact hl
  rcases kd with q | q
  · have ha : adr en x = en.locals := by unfold adr; rw [q]
    rw [ha] at hf
    obtain ⟨m, hn, hm⟩ := I.sees.ns
    refine wpAny_storeName_local q hn (fun h' hn' sb => ?_) (by rw [I.fm.kind]; rfl)
    have sb' : ∀ b o, b ≠ en.locals → s.heap.get? b = some o → h'.get? b = some o := fun b o hb ho => by rw [sb.2 b hb]; exact ho
    refine (I.laid (a := en.locals) (by simp [frm]) sb' (let ⟨o, _, _, q, _⟩ := hn'; ⟨o, q⟩) hi ⟨⟨_, hn', fun j y w h1 h2 h3 => ?_⟩, fun y c hc => ?_⟩).imp id fun z => z hf
    · rcases one h1 h2 with ⟨rfl, rfl⟩ | ⟨n1, n2⟩
      · simp
      · simp only [n1, if_false]
        exact hm j y w h1 n2 h3
    · obtain ⟨w, ⟨o, ho, hd⟩, r⟩ := I.sees.cell y c hc
      refine ⟨w, ⟨o, sb' c o (I.fm.cl y c hc) ho, hd⟩, fun j u h1 h2 h3 => ?_⟩
      rcases one h1 h2 with ⟨rfl, rfl⟩ | ⟨n1, n2⟩
      · rw [q] at h3
        rcases h3 with h3 | h3 <;> cases h3
      · exact r j u h1 n2 h3
  · obtain ⟨c, hc⟩ := I.fm.has x (.inl q)
    have ha : adr en x = c := by unfold adr; rw [q, hc]; rfl
    rw [ha] at hf
    obtain ⟨w0, hw0, r0⟩ := I.sees.cell x c hc
    refine wpAny_storeName_cell I.fm.kind q hc hw0 fun h' hn' sb => ?_
    have sb' : ∀ b o, b ≠ c → s.heap.get? b = some o → h'.get? b = some o := fun b o hb ho => by rw [sb.2 b hb]; exact ho
    refine (I.laid (t := s.toks) (a := c) (cell_frm hc) sb' (let ⟨o, q, _⟩ := hn'; ⟨o, q⟩) hi ⟨?_, fun y c' hc' => ?_⟩).imp id fun z => z hf
    · obtain ⟨m, hn, hm⟩ := I.sees.ns
      refine ⟨m, hn.at' fun o e => sb' _ o (fun z => I.fm.cl x c hc z.symm) e, fun j y w h1 h2 h3 => ?_⟩
      rcases one h1 h2 with ⟨rfl, rfl⟩ | ⟨n1, n2⟩
      · rw [q] at h3; cases h3
      · exact hm j y w h1 n2 h3
    · by_cases z : c' = c
      · subst z
        refine ⟨_, hn', fun j u h1 h2 h3 => ?_⟩
        rcases one h1 h2 with ⟨rfl, rfl⟩ | ⟨n1, n2⟩
        · rfl
        · exact absurd (I.fm.inj y x c' hc' hc) n1
      · obtain ⟨w, ⟨o, ho, hd⟩, r⟩ := I.sees.cell y c' hc'
        refine ⟨w, ⟨o, sb' c' o z ho, hd⟩, fun j u h1 h2 h3 => ?_⟩
        rcases one h1 h2 with ⟨rfl, rfl⟩ | ⟨n1, n2⟩
        · rw [hc] at hc'; cases hc'; exact absurd rfl z
        · exact r j u h1 n2 h3
/-- a slot without a word holds no list of one's own -/
theorem foot_put {o : Option Value} {a : Addr} (hi : i < e.length) (h : Foot (σ.set i o) (e.set i none) a) : Foot σ e a := by
  obtain ⟨j, xs, h1, h2⟩ := h
  rw [get_set] at h1
  split at h1
  · cases h1
  · rename_i q
    have ne : i ≠ j := fun z => q ⟨z, hi⟩
    rw [List.getElem?_set_ne ne] at h2
    exact ⟨j, xs, h1, h2⟩
theorem sig_self {o : Option Value} (h : i < σ.length) : (σ.set i o)[i]? = some o := List.getElem?_set_self h
/-- a thing that stays is given to a name -/
theorem Inv.putD (I : Inv g N en Z e σ s) (hN : mN N i x = true) (hl : loc en.scope x = true) (hf : adr en x ∈ fr) {d : PyData} (hv : Fz Z d v) :
    WP g A (storeName en x v) (fun _ s' => Inv g N en Z (e.set i (some (.d d))) (σ.set i (some v)) s' ∧ Step g fr Z (Foot σ e) s Z (Foot (σ.set i (some v)) (e.set i (some (.d d)))) s') s := by
  have hi : i < N.length := (List.getElem?_eq_some_iff.mp (name_at hN)).1
  refine wp_mono (I.put (F := Foot σ e) hN hl hf) fun _ s' q => ?_
  obtain ⟨I', st⟩ := q
  have I2 := I'.claim (i := i) (v := v) (sig_self (by rw [I.len]; exact hi)) hv
  rw [List.set_set] at I2
  refine ⟨I2, st.less fun a q => ?_⟩
  have := foot_set (e := e.set i none) (i := i) (o := some (.d d)) (fun xs z => by cases z) (by rw [List.set_set]; exact q)
  exact foot_put (by rw [I.elen]; exact hi) this
/-- a list of one's own, that no slot holds, becomes a slot's -/
theorem Inv.claimOwn (I : Inv g N en Z e σ s) {xs : List PyData} {a : Addr} (h1 : σ[i]? = some (some (.ref a))) (rp : Rep Z s.heap (.ref a) (.own xs)) (m : Mine g en Z a) (nf : ¬ Foot σ e a) : Inv g N en Z (e.set i (some (.own xs))) σ s where
  ok := I.ok
  sh := I.sh
  fm := I.fm
  fz := I.fz
  fl := I.fl
  sees := I.sees
  len := I.len
  elen := by rw [List.length_set]; exact I.elen
  rep := fun j w hw => by
    rw [get_set] at hw
    split at hw
    · rename_i q
      obtain ⟨rfl, _⟩ := q
      cases hw
      exact ⟨_, h1, rp⟩
    · exact I.rep j w hw
  inj := fun j n ys zs b g1 g2 g3 g4 => by
    rw [get_set] at g1 g2
    split at g1
    · rename_i q1
      split at g2
      · rename_i q2; exact q1.1.symm.trans q2.1
      · rw [← q1.1, h1] at g3
        cases g3
        exact absurd ⟨n, zs, g2, g4⟩ nf
    · split at g2
      · rename_i q2
        rw [← q2.1, h1] at g4
        cases g4
        exact absurd ⟨j, ys, g1, g3⟩ nf
      · exact I.inj j n ys zs b g1 g2 g3 g4
  mine := fun b ⟨j, ys, g1, g2⟩ => by
    rw [get_set] at g1
    split at g1
    · rename_i q1
      rw [← q1.1, h1] at g2
      cases g2
      exact m
    · exact I.mine b ⟨j, ys, g1, g2⟩
theorem foot_own {xs : List PyData} {a b : Addr} (h1 : σ[i]? = some (some (.ref a))) (h : Foot σ (e.set i (some (.own xs))) b) : Foot σ e b ∨ b = a := by
  obtain ⟨j, ys, g1, g2⟩ := h
  rw [get_set] at g1
  split at g1
  · rename_i q1
    rw [← q1.1, h1] at g2
    cases g2
    exact .inr rfl
  · exact .inl ⟨j, ys, g1, g2⟩

/-! ### targets -/
/-- a turn's thing -/
structure ItemOk (b1 : Bool) (Z h : Heap) (v : Value) (x : PyData) : Prop where
  one : b1 = true → Fz Z x v
  tup : b1 = false → ∀ xs, x = .tuple xs → ∃ T vals, v = .ref T ∧ h.IsTuple T vals ∧ FzA Z xs vals.toList
theorem mTs_len {sc : Scope} : ∀ {tg : List Nat} {ts : List Expr}, mTs N sc tg ts = true → tg.length = ts.length
  | [], [], _ => rfl
  | i :: is, t :: ts, h => by
    simp only [mTs, Bool.and_eq_true] at h
    simp [mTs_len h.2]
  | [], _ :: _, h => by simp [mTs] at h
  | _ :: _, [], h => by simp [mTs] at h
theorem mT1_is {sc : Scope} {t : Expr} (h : mT1 N sc i t = true) : ∃ x pos, t = .Name x pos ∧ mN N i x = true ∧ loc sc x = true ∧ okName x = true := by
  cases t <;> simp [mT1] at h
  exact ⟨_, _, rfl, h.1.1, h.1.2, h.2⟩
theorem mTs_each {en : PySem.Env} {sc : Scope} : ∀ {tg : List Nat} {ts : List Expr}, mTs N sc tg ts = true → (assignEach ts en).length = tg.length ∧ (assignEach ts en).findIdx? (·.1) = none
  | [], [], _ => ⟨rfl, rfl⟩
  | i :: is, t :: ts, h => by
    simp only [mTs, Bool.and_eq_true] at h
    obtain ⟨x, pos, rfl, _⟩ := mT1_is h.1
    obtain ⟨h1, h2⟩ := mTs_each (en := en) h.2
    constructor
    · simp [assignEach, h1]
    · simp [assignEach, List.findIdx?_cons, h2]
  | [], _ :: _, h => by simp [mTs] at h
  | _ :: _, [], h => by simp [mTs] at h
/-- where a target's things stand -/
def adrs (N : List Str) (en : PySem.Env) (tg : List Nat) : List Addr := tg.map fun i => match N[i]? with
  | some x => adr en x
  | none => 0
theorem adrs_cons {tg : List Nat} (h : mN N i x = true) : adrs N en (i :: tg) = adr en x :: adrs N en tg := by simp [adrs, name_at h]
theorem fold_cons {i : Nat} {is : List Nat} {x : PyData} {xs : List PyData} : ((i :: is).zip (x :: xs)).foldl (fun (e : Env) p => e.set p.1 (some (.d p.2))) e = (is.zip xs).foldl (fun (e : Env) p => e.set p.1 (some (.d p.2))) (e.set i (some (.d x))) := rfl
theorem order_ok : ∀ {tg : List Nat} {ts : List Expr} {xs : List PyData} {vals : List Value} {e : Env} {σ : List (Option Value)} {s : Shared}, mTs N en.scope tg ts = true → (∀ a ∈ adrs N en tg, a ∈ fr) → FzA Z xs vals → xs.length = tg.length → Inv g N en Z e σ s →
    WP g A (assignInOrder ((assignEach ts en).map (·.2)) vals) (fun _ s' => ∃ σ', Inv g N en Z ((tg.zip xs).foldl (fun e p => e.set p.1 (some (.d p.2))) e) σ' s' ∧ Step g fr Z (Foot σ e) s Z (Foot σ' ((tg.zip xs).foldl (fun e p => e.set p.1 (some (.d p.2))) e)) s' ∧ (∀ j, j ∉ tg → σ'[j]? = σ[j]?)) s := by
  intro tg
  induction tg with
  | nil =>
    intro ts xs vals e σ s hm hf f hx I
    cases ts with
    | cons _ _ => simp [mTs] at hm
    | nil =>
      obtain rfl := List.eq_nil_of_length_eq_zero hx
      rw [f.nil_inv]
      exact wpAny_assignInOrder_none ⟨σ, I, Step.refl, fun _ _ => rfl⟩
  | cons i tg ih =>
    intro ts xs vals e σ s hm hf f hx I
    cases ts with
    | nil => simp [mTs] at hm
    | cons t ts =>
      cases xs with
      | nil => simp at hx
      | cons x xs =>
        simp only [mTs, Bool.and_eq_true] at hm
        obtain ⟨y, pos, rfl, m1, m2, m3⟩ := mT1_is hm.1
        obtain ⟨v, vs, rfl, fv, fs⟩ := f.cons_inv
        rw [adrs_cons m1] at hf
        show WP g A (assignInOrder (assign (.Name y pos) en :: (assignEach ts en).map (·.2)) (v :: vs)) _ s
        refine wpAny_assignInOrder_more (wpAny_assign_Name (wp_mono (I.putD m1 m2 (hf _ List.mem_cons_self) fv) fun _ s1 q => ?_))
        obtain ⟨I1, st1⟩ := q
        refine wp_mono (ih hm.2 (fun a ha => hf a (List.mem_cons_of_mem _ ha)) fs (by simpa using hx) I1) fun _ s2 q => ?_
        obtain ⟨σ2, I2, st2, so⟩ := q
        rw [fold_cons]
        refine ⟨σ2, I2, st1.trans st2, fun j hj => ?_⟩
        simp only [List.mem_cons, not_or] at hj
        rw [so j hj.2, List.getElem?_set_ne (Ne.symm hj.1)]
theorem mTg_fl {tg : List Nat} {sc : Scope} {t : Expr} (h : nst tg = false) (hm : mTg N sc tg false t = true) : ∃ ts kk pos, t = .Tuple ts kk pos ∧ mTs N sc tg ts = true := by
  unfold mTg at hm
  simp only [Bool.false_eq_true, if_false, h] at hm
  split at hm
  · exact ⟨_, _, _, rfl, hm⟩
  · cases hm
theorem mTg_ns {tg : List Nat} {sc : Scope} {t : Expr} (h : nst tg = true) (hm : mTg N sc tg false t = true) : ∃ a r t0 us k2 p2 kk pos, tg = a :: r ∧ t = .Tuple [t0, .Tuple us k2 p2] kk pos ∧ mT1 N sc a t0 = true ∧ mTs N sc r.dropLast us = true := by
  unfold mTg at hm
  simp only [Bool.false_eq_true, if_false, h, if_true] at hm
  split at hm
  · unfold mNs at hm
    split at hm
    · rw [Bool.and_eq_true] at hm
      exact ⟨_, _, _, _, _, _, _, _, rfl, rfl, hm.1, hm.2⟩
    · cases hm
  · cases hm
/-- a tuple's items go to names -/
theorem bindFl_ok {tg : List Nat} {ts : List Expr} {kk} {pos : Pos} {d : PyData} (I : Inv g N en Z e σ s) (hh : A.handled = none) (hm2 : mTs N en.scope tg ts = true) (hf : ∀ a ∈ adrs N en tg, a ∈ fr) (h : bindFl tg d e = some e1) (io : ItemOk false Z s.heap v d) :
    WP g A (assign (.Tuple ts kk pos) en v) (fun _ s' => ∃ σ', Inv g N en Z e1 σ' s' ∧ Step g fr Z (Foot σ e) s Z (Foot σ' e1) s' ∧ (∀ j, j ∉ tg → σ'[j]? = σ[j]?)) s := by
  unfold bindFl at h
  split at h
  · rename_i xs
    split at h
    · rename_i hl
      cases h
      obtain ⟨T, vals, rfl, ht, f⟩ := io.tup rfl xs rfl
      obtain ⟨a1, a2⟩ := mTs_each (en := en) hm2
      refine wpAny_assign_Tuple hh ht (by rw [a1, ← hl, ← f.length]; simp) a2 fun h' xb => ?_
      have k : Ext s.heap h' := fun b o q => xb b o (fun z => by rw [z, get_size] at q; cases q) q
      have I1 := I.grow (t' := s.toks) k
      have st1 : Step g fr Z (Foot σ e) s Z (Foot σ e) { s with heap := h' } := Step.grow (t' := s.toks) k
      refine wp_mono (order_ok hm2 hf f hl I1) fun _ s2 q => ?_
      obtain ⟨σ2, I2, st2, so⟩ := q
      exact ⟨σ2, I2, st1.trans st2, so⟩
    · cases h
  · cases h
/-- a turn's target is given its thing -/
theorem bind_ok {tg : List Nat} {one : Bool} {t : Expr} {d : PyData} (I : Inv g N en Z e σ s) (hh : A.handled = none) (hm : mTg N en.scope tg one t = true) (hf : ∀ a ∈ adrs N en tg, a ∈ fr) (h : bindTg tg one d e = some e1) (io : ItemOk one Z s.heap v d) :
    WP g A (assign t en v) (fun _ s' => ∃ σ', Inv g N en Z e1 σ' s' ∧ Step g fr Z (Foot σ e) s Z (Foot σ' e1) s' ∧ (∀ j, j ∉ tg → σ'[j]? = σ[j]?)) s := by
  unfold bindTg at h
  cases one with
  | true =>
    simp only [if_true] at h
    split at h
    · rename_i i
      cases h
      simp only [mTg, if_true] at hm
      obtain ⟨y, pos, rfl, m1, m2, m3⟩ := mT1_is hm
      rw [adrs_cons m1] at hf
      refine wpAny_assign_Name (wp_mono (I.putD m1 m2 (hf _ List.mem_cons_self) (io.one rfl)) fun _ s1 q => ?_)
      obtain ⟨I1, st1⟩ := q
      refine ⟨_, I1, st1, fun j hj => ?_⟩
      simp at hj
      rw [List.getElem?_set_ne (Ne.symm hj)]
    · cases h
  | false =>
    simp only [Bool.false_eq_true, if_false] at h
    cases hn : nst tg with
    | false =>
      simp only [hn, Bool.false_eq_true, if_false] at h
      obtain ⟨ts, x1, pos, rfl, hm2⟩ := mTg_fl hn hm
      exact bindFl_ok I hh hm2 hf h io
    | true =>
      simp only [hn, if_true] at h
      obtain ⟨a, r, t0, us, k2, p2, x1, pos, rfl, rfl, m1, m2⟩ := mTg_ns hn hm
      unfold bindNs at h
      split at h
      · rename_i a' r' y ys eq
        cases eq
        obtain ⟨T, vals, rfl, ht, f⟩ := io.tup rfl _ rfl
        obtain ⟨v0, vs, e0, f0, fs⟩ := f.cons_inv
        obtain ⟨v1, vs', e2, f1, fs'⟩ := fs.cons_inv
        rw [fs'.nil_inv] at e2
        subst e2
        obtain ⟨x, px, rfl, q1, q2, q3⟩ := mT1_is m1
        have hsz : vals.size = 2 := by rw [← Array.length_toList, e0]; rfl
        refine wpAny_assign_Tuple hh ht (by rw [hsz]; rfl) (by simp [assignEach]) fun h' xb => ?_
        have k : Ext s.heap h' := fun b o q => xb b o (fun z => by rw [z, get_size] at q; cases q) q
        have I1 := I.grow (t' := s.toks) k
        have st1 : Step g fr Z (Foot σ e) s Z (Foot σ e) { s with heap := h' } := Step.grow (t' := s.toks) k
        rw [e0]
        rw [adrs_cons q1] at hf
        show WP g A (assignInOrder [assign (.Name x px) en, assign (.Tuple us k2 p2) en] [v0, v1]) _ _
        refine wpAny_assignInOrder_more (wpAny_assign_Name (wp_mono (I1.putD q1 q2 (hf _ List.mem_cons_self) f0) fun _ s1 q => ?_))
        obtain ⟨I2, st2⟩ := q
        obtain ⟨b, its, n, rfl, g1, l1, f2⟩ := f1.tup_inv
        have hdl : ∀ j, j ∈ r.dropLast → j ∈ r := fun j hj => List.dropLast_subset _ hj
        refine wpAny_assignInOrder_more (wp_mono (bindFl_ok (d := .tuple ys) I2 hh m2 (fun z hz => hf z (List.mem_cons_of_mem _ ?_)) h ⟨fun z => (by cases z), fun _ xs' ex => ?_⟩) fun _ s3 q => ?_)
        · obtain ⟨j, hj, ej⟩ := List.mem_map.mp hz
          exact List.mem_map.mpr ⟨j, hdl j hj, ej⟩
        · cases ex
          exact ⟨b, its.toArray, rfl, ⟨_, I2.sh.zh _ _ g1, rfl, n, rfl⟩, by simpa using f2⟩
        · obtain ⟨σ3, I3, st3, so3⟩ := q
          refine wpAny_assignInOrder_none ⟨σ3, I3, (st1.trans st2).trans st3, fun j hj => ?_⟩
          simp only [List.mem_cons, not_or] at hj
          rw [so3 j fun z => hj.2 (hdl j z), List.getElem?_set_ne (Ne.symm hj.1)]
      · cases h
/-- a list's items go to names -/
theorem bind_unl {tg : List Nat} {ts : List Expr} {x1} {pos : Pos} {a : Addr} {its : List Value} {n : Nat} {xs : List PyData} (I : Inv g N en Z e σ s) (hh : A.handled = none) (hm2 : mTs N en.scope tg ts = true) (hf : ∀ a ∈ adrs N en tg, a ∈ fr)
    (ha : s.heap.get? a = some (LstO its n)) (f : FzA Z xs its) (h : bindFl tg (.tuple xs) e = some e1) :
    WP g A (assign (.Tuple ts x1 pos) en (.ref a)) (fun _ s' => ∃ σ', Inv g N en Z e1 σ' s' ∧ Step g fr Z (Foot σ e) s Z (Foot σ' e1) s' ∧ (∀ j, j ∉ tg → σ'[j]? = σ[j]?)) s := by
  unfold bindFl at h
  dsimp only at h
  split at h
  · rename_i hl
    cases h
    obtain ⟨a1, a2⟩ := mTs_each (en := en) hm2
    have hl' : s.heap.IsList a its.toArray := ⟨_, ha, rfl, n, rfl⟩
    have hn' : (assignEach ts en).length = its.toArray.size := by rw [a1, ← hl, ← f.length]; simp
    rw [PyProof.Rows.assign_Tuple]
    refine wpAny_bind (wpAny_standAt ?_)
    unfold unpack
    rw [hn', a2]
    refine wpAny_bind (wpAny_holding (PySem.W.kun_itemsOf hh hl' fun h' xb => ?_))
    have k : Ext s.heap h' := fun b o q => xb b o (fun z => by rw [z, get_size] at q; cases q) q
    have I1 := I.grow (t' := s.toks) k
    have st1 : Step g fr Z (Foot σ e) s Z (Foot σ e) { s with heap := h' } := Step.grow (t' := s.toks) k
    refine wp_mono (order_ok hm2 hf f hl I1) fun _ s2 q => ?_
    obtain ⟨σ2, I2, st2, so⟩ := q
    exact ⟨σ2, I2, st1.trans st2, so⟩
  · cases h
end
end Mini

-- M12
set_option Elab.async false
set_option linter.all false
set_option maxRecDepth 100000
set_option maxHeartbeats 4000000
/-! Mini 12: what a loop walks. -/
namespace Mini
open PySem PyProof.Rows

def isTupT : Expr → Bool
  | .Tuple _ _ _ => true
  | _ => false
/-- where an iterator stands -/
structure Src (g : G) (N : List Str) (en : PySem.Env) (σ : List (Option Value)) (Z0 : Heap) (F : Addr → Prop) (s0 : Shared) (A : Around) (target : Expr) (b1 : Bool) (xs : List PyData) (h : List Nat) (e' : Env) (it : Value) (s : Shared) (Z : Heap) (I : Addr) (fp wr : List Addr) (Y : Nat → Value → Heap → Prop) (St : Nat → Heap → Prop) : Prop where
  is : it = .ref I
  goes : Goes g.P g.w A target I fp wr xs.length Y St
  st : St 0 s.heap
  step : Step g [] Z0 F s0 Z (Foot σ e') s
  inv : Inv g N en Z e' σ s
  live : ∀ i h, St i h → ∀ b ∈ fp, ∃ o, h.get? b = some o
  apart : ∀ b ∈ fp, ¬ Foot σ (wipe h e') b ∧ b ∉ frm en ∧ ∀ p ∈ g.tabs, b ≠ p.2
  wrt : ∀ b ∈ wr, Z.get? b = none ∧ s0.heap.get? b = none ∧ ¬ Foot σ e' b
  wk : b1 = true → ∃ (fp' wr' : List Addr) (P : Nat → Value → Prop) (St' : Nat → Heap → Prop), (∀ A' : Around, A'.handled = none → Walks g.P g.w A' I fp' wr' xs.length P St') ∧ St' 0 s.heap ∧ (∀ b ∈ fp', (∃ o, s.heap.get? b = some o) ∧ ∀ p ∈ g.tabs, b ≠ p.2) ∧ (∀ b ∈ wr', b ∈ wr) ∧ ∀ i v, P i v → ∃ x, xs[i]? = some x ∧ Fz Z x v
  wu : b1 = false → (∀ x ∈ xs, ∃ zs, x = .tuple zs) → ∃ (fp' wr' : List Addr) (Pt : Nat → Array Value → Prop) (St' : Nat → Heap → Prop) (Mid : Nat → Addr → Heap → Prop), (∀ A' : Around, A'.handled = none → WalksU g.P g.w A' I fp' wr' xs.length Pt St' Mid) ∧ St' 0 s.heap ∧ (∀ b ∈ fp', (∃ o, s.heap.get? b = some o) ∧ ∀ p ∈ g.tabs, b ≠ p.2) ∧ (∀ b ∈ wr', b ∈ wr) ∧ ∀ i vals, Pt i vals → ∃ zs, xs[i]? = some (.tuple zs) ∧ FzA Z zs vals.toList
  val : ∀ i v h', Ext Z h' → Y i v h' → ∃ x, xs[i]? = some x ∧ ItemOk b1 Z h' v x
def SrcPost (g : G) (N : List Str) (en : PySem.Env) (σ : List (Option Value)) (Z0 : Heap) (F : Addr → Prop) (s0 : Shared) (A : Around) (target : Expr) (b1 : Bool) (xs : List PyData) (h : List Nat) (e' : Env) (it : Value) (s : Shared) : Prop :=
  ∃ Z I fp wr Y St, Src g N en σ Z0 F s0 A target b1 xs h e' it s Z I fp wr Y St
section
variable (p : Px) (c : Cf) (g : G) (N : List Str) (k : Nat)
def SI (x : E) : Prop := ∀ (sc : Scope) (ex : Expr) (A : Around) (en : PySem.Env) (Z : Heap) (e : Env) (σ : List (Option Value)) (s : Shared) (xs : List PyData) (h : List Nat) (e' : Env) (target : Expr) (b1 : Bool),
  L2.Room k A → en.scope = sc → mI p N sc x ex = true → (isEnum x = true → b1 = false ∧ isTupT target = true) → Inv g N en Z e σ s → evI c x e = some (xs, h, e') →
  WP g A (eval ex en) (fun xv s1 => WP g A (pyIter xv) (fun it s2 => SrcPost g N en σ Z (Foot σ e) s A target b1 xs h e' it s2) s1) s
end
section
variable {p : Px} {c : Cf} {g : G} {N : List Str} {k : Nat} {en : PySem.Env} {Z Z1 Z2 Z' : Heap} {e e1 e2 e' : Env} {σ σ1 : List (Option Value)} {s s1 s2 s' : Shared} {A : Around} {F F1 : Addr → Prop} {v u : Value} {r : R} {b1 : Bool} {target : Expr}

theorem wipe_nil : wipe [] e = e := rfl
theorem wipe_one {i : Nat} : wipe [i] e = e.set i none := rfl
theorem get_wipe {is : List Nat} : ∀ {e : Env} {j : Nat}, get (wipe is e) j = if j ∈ is then none else get e j := by
  induction is with
  | nil => intro e j; simp [wipe]
  | cons i is ih =>
    intro e j
    show get (wipe is (e.set i none)) j = _
    rw [ih, get_set]
    by_cases h : j ∈ is
    · simp [h]
    · by_cases q : i = j
      · subst q
        by_cases hl : i < e.length
        · simp [hl]
        · simp only [hl, and_false, if_false, h, List.mem_cons, true_or, if_true]
          cases z : get e i with
          | none => rfl
          | some w => exact absurd (get_lt z) hl
      · simp [q, h, Ne.symm q]
theorem foot_wipe {is : List Nat} {a : Addr} (h : Foot σ (wipe is e) a) : Foot σ e a := by
  obtain ⟨j, xs, h1, h2⟩ := h
  rw [get_wipe] at h1
  split at h1
  · cases h1
  · exact ⟨j, xs, h1, h2⟩
/-- an item of data that stays -/
theorem item_fz {x : PyData} {h : Heap} (f : Fz Z x v) (zh : Ext Z h) : ItemOk b1 Z h v x := ⟨fun _ => f, fun _ xs ex => by
  subst ex
  obtain ⟨a, its, n, rfl, h1, _, f1⟩ := Fz.tup_inv f
  exact ⟨a, its.toArray, rfl, ⟨_, zh _ _ h1, rfl, n, rfl⟩, by simpa using f1⟩⟩
/-- a walk's list is no list that the loop's own steps change -/
theorem Inv.hidden (I : Inv g N en Z e σ s) (rr : RepR g en Z s.heap σ e (.ref u_1) r) {d : PyData} (hd : r.data e = some d) : (∃ o, s.heap.get? u_1 = some o) → ¬ Foot σ (wipe (hid e r) e) u_1 := fun ⟨o, ho⟩ hf => by
  cases r with
  | v w =>
    cases w with
    | own xs => exact (rr.2 u_1 ⟨xs, rfl, rfl⟩).2 (foot_wipe hf)
    | d d =>
      obtain ⟨m1, _, _⟩ := I.mine u_1 (foot_wipe hf)
      have f : Fz Z d (.ref u_1) := rr.1
      cases d with
      | none => cases f.none_inv
      | bool b => cases f.bool_inv
      | int i => obtain ⟨t, q⟩ := f.int_inv; cases q
      | str z => obtain ⟨_, t, q⟩ := f.str_inv; cases q
      | list xs => obtain ⟨a, its, n, q, h1, _⟩ := f.lst_inv; cases q; rw [m1] at h1; cases h1
      | tuple xs => obtain ⟨a, its, n, q, h1, _⟩ := f.tup_inv; cases q; rw [m1] at h1; cases h1
      | dict kv => simp only [Fz] at f
  | pl i =>
    unfold R.data at hd
    rw [Option.map_eq_some_iff] at hd
    obtain ⟨w, hw, _⟩ := hd
    have hw' : get e i = some w := hw
    cases w with
    | own xs =>
      obtain ⟨j, ys, h1, h2⟩ := hf
      have : hid e (.pl i) = [i] := by simp [hid, hw']
      rw [this, wipe_one, get_set] at h1
      split at h1
      · cases h1
      · rename_i ne
        exact ne ⟨I.inj i j xs ys u_1 hw' h1 rr h2, get_lt hw'⟩
    | d d =>
      obtain ⟨m1, _, _⟩ := I.mine u_1 (foot_wipe hf)
      obtain ⟨v', q1, q2⟩ := I.rep i _ hw'
      rw [show σ[i]? = some (some (.ref u_1)) from rr] at q1
      cases q1
      have f : Fz Z d (.ref u_1) := q2
      cases d with
      | none => cases f.none_inv
      | bool b => cases f.bool_inv
      | int i => obtain ⟨t, q⟩ := f.int_inv; cases q
      | str z => obtain ⟨_, t, q⟩ := f.str_inv; cases q
      | list xs => obtain ⟨a, its, n, q, h1, _⟩ := f.lst_inv; cases q; rw [m1] at h1; cases h1
      | tuple xs => obtain ⟨a, its, n, q, h1, _⟩ := f.tup_inv; cases q; rw [m1] at h1; cases h1
      | dict kv => simp only [Fz] at f
/-- .. and no part of the frame, no table -/
theorem Inv.notFrm (I : Inv g N en Z e σ s) {a : Addr} {w : W} (rr : RepR g en Z s.heap σ e (.ref a) r) (hw : r.w e = some w) (hl : ∃ xs, w.data = .list xs ∨ w.data = .tuple xs) : a ∉ frm en ∧ ∀ p ∈ g.tabs, a ≠ p.2 := by
  have inZ : ∀ o, Z.get? a = some o → a ∉ frm en ∧ ∀ p ∈ g.tabs, a ≠ p.2 := fun o ho => ⟨fun q => (by rw [(I.fz a q).1] at ho; cases ho), fun p hp q => (by rw [q, I.sh.tz p hp] at ho; cases ho)⟩
  have stays : ∀ d, w = .d d → Fz Z d (.ref a) → a ∉ frm en ∧ ∀ p ∈ g.tabs, a ≠ p.2 := fun d hd f => by
    obtain ⟨xs, hx⟩ := hl
    subst hd
    rcases hx with hx | hx <;> cases hx
    · obtain ⟨_, its, n, q, h1, _⟩ := f.lst_inv; cases q; exact inZ _ h1
    · obtain ⟨_, its, n, q, h1, _⟩ := f.tup_inv; cases q; exact inZ _ h1
  cases r with
  | v w' =>
    cases hw
    cases w with
    | d d => exact stays d rfl rr.1
    | own xs => exact (rr.2 a ⟨xs, rfl, rfl⟩).1.2
  | pl i =>
    have hw' : get e i = some w := hw
    cases w with
    | d d =>
      obtain ⟨v', q1, q2⟩ := I.rep i _ hw'
      rw [show σ[i]? = some (some (.ref a)) from rr] at q1
      cases q1
      exact stays d rfl q2
    | own xs => exact (I.mine a ⟨i, xs, hw', rr⟩).2
theorem walks_lt {A : Around} {I : Addr} {fp wr : List Addr} {n : Nat} {P : Nat → Value → Prop} {St : Nat → Heap → Prop} (W : Walks g.P g.w A I fp wr n P St) : Walks g.P g.w A I fp wr n (fun i v => i < n ∧ P i v) St :=
  ⟨W.sub, W.frame, fun i s Q E hi st hQ => W.item i s Q E hi st fun v h' tk hP => hQ v h' tk ⟨hi, hP⟩, W.done, W.self⟩
/-- a walk over tuples that stay -/
theorem walksU_of {A : Around} {I : Addr} {fp wr : List Addr} {n : Nat} {P : Nat → Value → Prop} {St : Nat → Heap → Prop} (W : Walks g.P g.w A I fp wr n P St) (TS : List Addr) (H : Heap) (hT : ∀ a ∈ TS, a ∉ wr)
    (hP : ∀ i v, i < n → P i v → ∃ T vals, v = .ref T ∧ T ∈ TS ∧ H.IsTuple T vals) (hgo : ∀ i h, St i h → ∃ o c vs, h.get? I = some o ∧ o.cls = .type c ∧ o.data = .fields vs ∧ (["enumerate", "zip", "dict_itemiterator", "dict_reverseitemiterator", "odict_iterator", "itertools.zip_longest", "itertools.pairwise"].contains c) = false) :
    WalksU g.P g.w A I (fp ++ TS) wr n (fun i vals => i < n ∧ ∃ T, P i (.ref T) ∧ H.IsTuple T vals) (fun i h => St i h ∧ ∀ a ∈ TS, ∀ o, H.get? a = some o → h.get? a = some o) (fun i T h => T ∉ wr ∧ St (i + 1) h ∧ ∀ a ∈ TS, ∀ o, H.get? a = some o → h.get? a = some o) where
  sub := fun b hb => List.mem_append_left _ (W.sub b hb)
  frame := fun i h h' st k => ⟨W.frame i h h' st.1 fun b hb o q => k b (List.mem_append_left _ hb) o q, fun a ha o q => k a (List.mem_append_right _ ha) o (st.2 a ha o q)⟩
  item := fun i s Q E hi st hQ => W.item i s Q E hi st.1 fun v h' tk hv st' kp => by
    obtain ⟨T, vals, rfl, hm, ht⟩ := hP i v hi hv
    have keep : ∀ a ∈ TS, ∀ o, H.get? a = some o → h'.get? a = some o := fun a ha o q => kp a o (hT a ha) (st.2 a ha o q)
    exact hQ T vals h' tk ⟨hi, T, hv, ht⟩ (ht.at fun o q => keep T hm o q) ⟨hT T hm, st', keep⟩ kp
  go := fun elts k pos i T s Q E hm hQ => by
    obtain ⟨o, cc, vs, q1, q2, q3, q4⟩ := hgo _ _ hm.2.1
    exact letGo_of_cls q1 q2 q3 q4 (hQ s.heap ⟨hm.2.1, hm.2.2⟩ fun b o _ q => q)
  apart := fun i T h hm => hm.1
  done := fun s Q E st hQ => W.done s Q E st.1 hQ
  self := fun i s Q E st q => W.self i s Q E st.1 q
def refsOf : List Value → List Addr
  | [] => []
  | .ref a :: r => a :: refsOf r
  | _ :: r => refsOf r
theorem refsOf_mem {a : Addr} : ∀ {l : List Value}, .ref a ∈ l → a ∈ refsOf l
  | v :: r, h => by
    rcases List.mem_cons.mp h with q | q
    · subst q; simp [refsOf]
    · cases v <;> simp [refsOf, refsOf_mem q]
theorem mem_refsOf {a : Addr} : ∀ {l : List Value}, a ∈ refsOf l → .ref a ∈ l
  | v :: r, h => by
    cases v with
    | ref b =>
      simp only [refsOf, List.mem_cons] at h
      rcases h with q | q
      · rw [q]; exact List.mem_cons_self
      · exact List.mem_cons_of_mem _ (mem_refsOf q)
    | _ => exact List.mem_cons_of_mem _ (mem_refsOf (by simpa [refsOf] using h))
/-- a walk over the things of a list, of a tuple -/
theorem src_of (I : Inv g N en Z1 e1 σ s1) (hh : A.handled = none) {Z0 : Heap} {F0 : Addr → Prop} {s0 : Shared} {ra : R} {w : W} {d : PyData} {xs : List PyData} (st : Step g [] Z0 F0 s0 Z1 (Foot σ e1) s1) (rr : RepR g en Z1 s1.heap σ e1 v ra) (hw : ra.w e1 = some w) (ew : w.data = d) (hi : items d = some xs) :
    WP g A (pyIter v) (SrcPost g N en σ Z0 F0 s0 A target b1 xs (hid e1 ra) e1) s1 := by
  have rw' := I.resW rr hw
  have hd : ra.data e1 = some d := by unfold R.data; rw [hw, ← ew]; rfl
  have nI : s1.heap.get? s1.heap.objs.size = none := get_size _
  obtain ⟨⟨m1, m2, m3⟩, m4⟩ := I.new nI
  have s0I : s0.heap.get? s1.heap.objs.size = none := st.fresh nI
  rcases items_inv hi with rfl | rfl
  · obtain ⟨a, its, n, rfl, h1, l1, f1⟩ := rw'.list I.sh.zh ew
    have ne : a ≠ s1.heap.objs.size := fun z => by rw [z, nI] at h1; cases h1
    have hx := I.hidden rr hd ⟨_, h1⟩
    obtain ⟨nf1, nf2⟩ := I.notFrm rr hw ⟨_, .inl ew⟩
    refine wpAny_pyIter_list (items := its.toArray) ⟨_, h1, rfl, n, rfl⟩ ?_
    have k0 : Ext s1.heap (s1.heap.push { cls := .type "list_iterator", data := .fields #[.ref a, .int 0 0] }) := fun b o q => Heap.get?_push_of_some _ q
    have szx : its.toArray.size = xs.length := by rw [List.size_toArray, f1.length]
    have st0 : (s1.heap.push { cls := .type "list_iterator", data := .fields #[.ref a, .int 0 0] }).IsListIter s1.heap.objs.size a 0 ∧ (s1.heap.push { cls := .type "list_iterator", data := .fields #[.ref a, .int 0 0] }).IsList a its.toArray := ⟨⟨_, Heap.get?_push_size _ rfl, rfl, rfl⟩, ⟨_, k0 _ _ h1, rfl, n, rfl⟩⟩
    have stands : ∀ b ∈ [s1.heap.objs.size, a], ∃ o, (s1.heap.push { cls := .type "list_iterator", data := .fields #[.ref a, .int 0 0] }).get? b = some o := fun b hb => by
      simp at hb
      rcases hb with rfl | rfl
      · exact ⟨_, Heap.get?_push_size _ rfl⟩
      · exact ⟨_, k0 _ _ h1⟩
    have tabs : ∀ b ∈ [s1.heap.objs.size, a], ∀ p ∈ g.tabs, b ≠ p.2 := fun b hb => by
      simp at hb
      rcases hb with rfl | rfl
      · exact m3
      · exact nf2
    refine ⟨Z1, s1.heap.objs.size, [s1.heap.objs.size, a], [s1.heap.objs.size], _, _, rfl, szx ▸ Goes.list hh s1.heap.objs.size a ne its.toArray, st0, st.trans (Step.grow (t' := s1.toks) k0), I.grow (t' := s1.toks) k0, ?_, ?_, ?_, ?_, ?_, ?_⟩
    · rintro i h ⟨⟨o, q, _⟩, ⟨o', q', _⟩⟩ b hb
      simp at hb
      rcases hb with rfl | rfl
      · exact ⟨o, q⟩
      · exact ⟨o', q'⟩
    · intro b hb
      simp at hb
      rcases hb with rfl | rfl
      · exact ⟨fun q => m4 (foot_wipe q), m2, m3⟩
      · exact ⟨hx, nf1, nf2⟩
    · intro b hb
      simp at hb
      subst hb
      exact ⟨m1, s0I, m4⟩
    · exact fun _ => ⟨_, _, _, _, fun A' hA => szx ▸ Walks.list hA s1.heap.objs.size a ne its.toArray, st0, fun b hb => ⟨stands b hb, tabs b hb⟩, fun b hb => hb, fun i v hv => f1.got (i := i) (v := v) (by simpa using hv)⟩
    · intro _ htup
      have tupAt : ∀ (i : Nat) (v : Value), its[i]? = some v → ∃ T zs its2 n2, v = .ref T ∧ xs[i]? = some (.tuple zs) ∧ Z1.get? T = some (TupO its2 n2) ∧ FzA Z1 zs its2 := fun i v hv => by
        obtain ⟨x, hx1, hx2⟩ := f1.got hv
        obtain ⟨zs, rfl⟩ := htup x (List.mem_of_getElem? hx1)
        obtain ⟨T, its2, n2, rfl, q1, _, q2⟩ := hx2.tup_inv
        exact ⟨T, zs, its2, n2, rfl, hx1, q1, q2⟩
      have refT : ∀ T ∈ refsOf its, ∃ its2 n2, Z1.get? T = some (TupO its2 n2) := fun T hT => by
        obtain ⟨i, hi⟩ := List.mem_iff_getElem?.mp (mem_refsOf hT)
        obtain ⟨T', zs, its2, n2, q0, _, q1, _⟩ := tupAt i _ hi
        cases q0
        exact ⟨its2, n2, q1⟩
      refine ⟨_, _, _, _, _, fun A' hA => walksU_of (szx ▸ Walks.list hA s1.heap.objs.size a ne its.toArray) (refsOf its) Z1 (fun T hT => ?_) (fun i v hi hv => ?_) (fun i h hst => ?_), ⟨st0, fun T hT o q => k0 _ _ (I.sh.zh T o q)⟩, fun b hb => ?_, fun b hb => hb, fun i vals hv => ?_⟩
      · obtain ⟨its2, n2, q⟩ := refT T hT
        simp only [List.mem_singleton]
        intro z
        rw [z, m1] at q; cases q
      · obtain ⟨T, zs, its2, n2, rfl, _, q1, _⟩ := tupAt i v (by simpa using hv)
        exact ⟨T, its2.toArray, rfl, refsOf_mem (List.mem_of_getElem? (by simpa using hv)), _, q1, rfl, n2, rfl⟩
      · obtain ⟨o, q1, q2, q3⟩ := hst.1
        exact ⟨o, _, _, q1, q2, q3, by decide⟩
      · rcases List.mem_append.mp hb with z | z
        · exact ⟨stands b z, tabs b z⟩
        · obtain ⟨its2, n2, q⟩ := refT b z
          exact ⟨⟨_, k0 _ _ (I.sh.zh b _ q)⟩, fun p hp w => by rw [w, I.sh.tz p hp] at q; cases q⟩
      · obtain ⟨hi, T, hv, o, q1, _, n3, q3⟩ := hv
        obtain ⟨T', zs, its2, n2, q0, q4, q5, q6⟩ := tupAt i _ (by simpa using hv)
        cases q0
        rw [q5] at q1
        cases q1
        cases q3
        exact ⟨zs, q4, by simpa using q6⟩
    · intro i v h' hz hv
      obtain ⟨x, hx1, hx2⟩ := f1.got (i := i) (v := v) (by simpa using hv)
      exact ⟨x, hx1, item_fz hx2 hz⟩
  · obtain ⟨a, its, n, rfl, h1, l1, f1⟩ := rw'.tuple I.sh.zh ew
    have ne : a ≠ s1.heap.objs.size := fun z => by rw [z, nI] at h1; cases h1
    have hx := I.hidden rr hd ⟨_, h1⟩
    obtain ⟨nf1, nf2⟩ := I.notFrm rr hw ⟨_, .inr ew⟩
    refine wpAny_pyIter_tuple (items := its.toArray) ⟨_, h1, rfl, n, rfl⟩ ?_
    have k0 : Ext s1.heap (s1.heap.push { cls := .type "tuple_iterator", data := .fields #[.ref a, .int 0 0] }) := fun b o q => Heap.get?_push_of_some _ q
    have szx : its.toArray.size = xs.length := by rw [List.size_toArray, f1.length]
    have st0 : (s1.heap.push { cls := .type "tuple_iterator", data := .fields #[.ref a, .int 0 0] }).IsTupleIter s1.heap.objs.size a 0 ∧ (s1.heap.push { cls := .type "tuple_iterator", data := .fields #[.ref a, .int 0 0] }).IsTuple a its.toArray := ⟨⟨_, Heap.get?_push_size _ rfl, rfl, rfl⟩, ⟨_, k0 _ _ h1, rfl, n, rfl⟩⟩
    have stands : ∀ b ∈ [s1.heap.objs.size, a], ∃ o, (s1.heap.push { cls := .type "tuple_iterator", data := .fields #[.ref a, .int 0 0] }).get? b = some o := fun b hb => by
      simp at hb
      rcases hb with rfl | rfl
      · exact ⟨_, Heap.get?_push_size _ rfl⟩
      · exact ⟨_, k0 _ _ h1⟩
    have tabs : ∀ b ∈ [s1.heap.objs.size, a], ∀ p ∈ g.tabs, b ≠ p.2 := fun b hb => by
      simp at hb
      rcases hb with rfl | rfl
      · exact m3
      · exact nf2
    refine ⟨Z1, s1.heap.objs.size, [s1.heap.objs.size, a], [s1.heap.objs.size], _, _, rfl, szx ▸ Goes.tuple hh s1.heap.objs.size a ne its.toArray, st0, st.trans (Step.grow (t' := s1.toks) k0), I.grow (t' := s1.toks) k0, ?_, ?_, ?_, ?_, ?_, ?_⟩
    · rintro i h ⟨⟨o, q, _⟩, ⟨o', q', _⟩⟩ b hb
      simp at hb
      rcases hb with rfl | rfl
      · exact ⟨o, q⟩
      · exact ⟨o', q'⟩
    · intro b hb
      simp at hb
      rcases hb with rfl | rfl
      · exact ⟨fun q => m4 (foot_wipe q), m2, m3⟩
      · exact ⟨hx, nf1, nf2⟩
    · intro b hb
      simp at hb
      subst hb
      exact ⟨m1, s0I, m4⟩
    · exact fun _ => ⟨_, _, _, _, fun A' hA => szx ▸ Walks.tuple hA s1.heap.objs.size a ne its.toArray, st0, fun b hb => ⟨stands b hb, tabs b hb⟩, fun b hb => hb, fun i v hv => f1.got (i := i) (v := v) (by simpa using hv)⟩
    · intro _ htup
      have tupAt : ∀ (i : Nat) (v : Value), its[i]? = some v → ∃ T zs its2 n2, v = .ref T ∧ xs[i]? = some (.tuple zs) ∧ Z1.get? T = some (TupO its2 n2) ∧ FzA Z1 zs its2 := fun i v hv => by
        obtain ⟨x, hx1, hx2⟩ := f1.got hv
        obtain ⟨zs, rfl⟩ := htup x (List.mem_of_getElem? hx1)
        obtain ⟨T, its2, n2, rfl, q1, _, q2⟩ := hx2.tup_inv
        exact ⟨T, zs, its2, n2, rfl, hx1, q1, q2⟩
      have refT : ∀ T ∈ refsOf its, ∃ its2 n2, Z1.get? T = some (TupO its2 n2) := fun T hT => by
        obtain ⟨i, hi⟩ := List.mem_iff_getElem?.mp (mem_refsOf hT)
        obtain ⟨T', zs, its2, n2, q0, _, q1, _⟩ := tupAt i _ hi
        cases q0
        exact ⟨its2, n2, q1⟩
      refine ⟨_, _, _, _, _, fun A' hA => walksU_of (szx ▸ Walks.tuple hA s1.heap.objs.size a ne its.toArray) (refsOf its) Z1 (fun T hT => ?_) (fun i v hi hv => ?_) (fun i h hst => ?_), ⟨st0, fun T hT o q => k0 _ _ (I.sh.zh T o q)⟩, fun b hb => ?_, fun b hb => hb, fun i vals hv => ?_⟩
      · obtain ⟨its2, n2, q⟩ := refT T hT
        simp only [List.mem_singleton]
        intro z
        rw [z, m1] at q; cases q
      · obtain ⟨T, zs, its2, n2, rfl, _, q1, _⟩ := tupAt i v (by simpa using hv)
        exact ⟨T, its2.toArray, rfl, refsOf_mem (List.mem_of_getElem? (by simpa using hv)), _, q1, rfl, n2, rfl⟩
      · obtain ⟨o, q1, q2, q3⟩ := hst.1
        exact ⟨o, _, _, q1, q2, q3, by decide⟩
      · rcases List.mem_append.mp hb with z | z
        · exact ⟨stands b z, tabs b z⟩
        · obtain ⟨its2, n2, q⟩ := refT b z
          exact ⟨⟨_, k0 _ _ (I.sh.zh b _ q)⟩, fun p hp w => by rw [w, I.sh.tz p hp] at q; cases q⟩
      · obtain ⟨hi, T, hv, o, q1, _, n3, q3⟩ := hv
        obtain ⟨T', zs, its2, n2, q0, q4, q5, q6⟩ := tupAt i _ (by simpa using hv)
        cases q0
        rw [q5] at q1
        cases q1
        cases q3
        exact ⟨zs, q4, by simpa using q6⟩
    · intro i v h' hz hv
      obtain ⟨x, hx1, hx2⟩ := f1.got (i := i) (v := v) (by simpa using hv)
      exact ⟨x, hx1, item_fz hx2 hz⟩
theorem si_src {a : E} (ha : SE p c g N k a) : SI p c g N k (.src a) := by
  intro sc ex A en Z e σ s xs h e' target b1 hr hsc hm hen I he
  simp only [mI] at hm
  simp only [evI, Option.bind_eq_some_iff, Option.map_eq_some_iff, Prod.exists] at he
  obtain ⟨ra, e1, k1, d, dx, ys, hi, he⟩ := he
  cases he
  refine wp_mono (ha sc ex A en Z e σ s ra e' hr hsc hm I k1) fun v s1 q => ?_
  obtain ⟨Z1, st, I1, rr⟩ := q
  unfold R.data at dx
  rw [Option.map_eq_some_iff] at dx
  obtain ⟨w, hw, ew⟩ := dx
  exact src_of I1 hr.hd (st.less (F2 := Foot σ e') fun _ z => .inl z) rr hw ew hi
/-- a range object just made, walked -/
theorem src_range (I : Inv g N en Z1 e1 σ s1) (hh : A.handled = none) {Z0 : Heap} {F0 : Addr → Prop} {s0 : Shared} {i j : Int} {t u v : Tok} {tk : Nat} (st : Step g [] Z0 F0 s0 Z1 (Foot σ e1) s1) (hi : inR i = true) (hj : inR j = true) :
    WP g A (pyIter (.ref s1.heap.objs.size)) (SrcPost g N en σ Z0 F0 s0 A target b1 (rngL i j) [] e1) { s1 with heap := s1.heap.push { cls := .type "range", data := .fields #[.int i t, .int j u, .int 1 v] }, toks := tk } := by
  simp only [inR, decide_eq_true_eq] at hi hj
  have k0 : Ext s1.heap (s1.heap.push { cls := .type "range", data := .fields #[.int i t, .int j u, .int 1 v] }) := fun b o q => Heap.get?_push_of_some _ q
  have I1 := I.grow (t' := tk) k0
  have st1 := st.trans (Step.grow (t' := tk) k0)
  generalize hs : ({ s1 with heap := s1.heap.push { cls := .type "range", data := .fields #[.int i t, .int j u, .int 1 v] }, toks := tk } : Shared) = s2 at I1 st1
  have hr : IsRange s2.heap s1.heap.objs.size i j 1 t u v := by rw [← hs]; exact IsRange.new ..
  have sm : Builtin.Range.small i j 1 = true := PySem.small_one (by omega) (by omega) (by omega) (by omega)
  have nI : s2.heap.get? s2.heap.objs.size = none := get_size _
  obtain ⟨⟨m1, m2, m3⟩, m4⟩ := I1.new nI
  have s0I := st1.fresh nI
  have len : (rngL i j).length = (j - i).toNat := by simp [rngL]
  refine range_begins hr sm (n := (rngL i j).length) (by rw [rangeSize_one, len]; split <;> omega) fun h' hit hsz kp => ?_
  refine ⟨Z1, s2.heap.objs.size, [s2.heap.objs.size], [s2.heap.objs.size], _, _, rfl, (Goes.range hh s2.heap.objs.size i 1 (rngL i j).length).mono (Y' := fun n v _ => n < (rngL i j).length ∧ ∃ t, v = .int (i + n * 1) t) (fun _ _ _ a b => ⟨a, b⟩), range_st hit, st1.trans (Step.grow (t' := s2.toks) kp), I1.grow (t' := s2.toks) kp, ?_, ?_, ?_, ?_, ?_, ?_⟩
  · intro i h st b hb
    simp at hb
    subst hb
    exact ⟨_, st⟩
  · intro b hb
    simp at hb
    subst hb
    exact ⟨fun q => m4 (foot_wipe q), m2, m3⟩
  · intro b hb
    simp at hb
    subst hb
    exact ⟨m1, s0I, m4⟩
  · refine fun _ => ⟨_, _, _, _, fun A' hA => walks_lt (Walks.range hA s2.heap.objs.size i 1 (rngL i j).length), range_st hit, fun b hb => ?_, fun b hb => hb, fun n v hv => ?_⟩
    · simp at hb
      subst hb
      exact ⟨⟨_, hit⟩, m3⟩
    · obtain ⟨hn, t, rfl⟩ := hv
      rw [Int.mul_one]
      refine ⟨.int (i + n), ?_, .int⟩
      rw [len] at hn
      simp [rngL, List.getElem?_range hn]
  · intro _ ht
    by_cases h0 : (rngL i j).length = 0
    · refine ⟨_, _, _, _, _, fun A' hA => walksU_of (Walks.range hA s2.heap.objs.size i 1 (rngL i j).length) [] Z1 (fun a ha => by cases ha) (fun n v hn => absurd hn (by omega)) (fun n h hst => ⟨_, _, _, hst, rfl, rfl, by decide⟩), ⟨range_st hit, fun a ha => by cases ha⟩, fun b hb => ?_, fun b hb => hb, fun n vals hv => absurd hv.1 (by omega)⟩
      simp at hb
      subst hb
      exact ⟨⟨_, hit⟩, m3⟩
    · obtain ⟨zs, hz⟩ := ht (.int (i + (0 : Nat))) (by
        unfold rngL at h0 ⊢
        rw [List.length_map, List.length_range] at h0
        exact List.mem_map.mpr ⟨0, List.mem_range.mpr (by omega), rfl⟩)
      cases hz
  · rintro n v h' hz ⟨hn, t, rfl⟩
    rw [Int.mul_one]
    refine ⟨.int (i + n), ?_, item_fz .int hz⟩
    rw [len] at hn
    simp [rngL, List.getElem?_range hn]
theorem size_down (a b : Int) : Builtin.Range.rangeSize a b (-1) = if b < a then a - b else 0 := by
  unfold Builtin.Range.rangeSize
  simp only [show ¬ (-1 : Int) > 0 by decide, if_false, Int.neg_neg, Int.ediv_one]
  split <;> omega
theorem small_down {a b : Int} (ha : -(2 ^ 62) ≤ a) (ha' : a < 2 ^ 62) (hb : -(2 ^ 62) ≤ b) (hb' : b < 2 ^ 62) : Builtin.Range.small a b (-1) = true := by
  unfold Builtin.Range.small
  rw [size_down]
  simp only [Builtin.Range.rangeFitsLong, Bool.and_eq_true, Bool.or_eq_true, decide_eq_true_eq, beq_iff_eq, show ¬ (-1 : Int) > 0 by decide, if_false]
  split <;> omega
theorem src_rangeD (I : Inv g N en Z1 e1 σ s1) (hh : A.handled = none) {Z0 : Heap} {F0 : Addr → Prop} {s0 : Shared} {i j : Int} {t u v : Tok} {tk : Nat} (st : Step g [] Z0 F0 s0 Z1 (Foot σ e1) s1) (hi : inR i = true) (hj : inR j = true) :
    WP g A (pyIter (.ref s1.heap.objs.size)) (SrcPost g N en σ Z0 F0 s0 A target b1 (rngD i j) [] e1) { s1 with heap := s1.heap.push { cls := .type "range", data := .fields #[.int i t, .int j u, .int (-1) v] }, toks := tk } := by
  simp only [inR, decide_eq_true_eq] at hi hj
  have k0 : Ext s1.heap (s1.heap.push { cls := .type "range", data := .fields #[.int i t, .int j u, .int (-1) v] }) := fun b o q => Heap.get?_push_of_some _ q
  have I1 := I.grow (t' := tk) k0
  have st1 := st.trans (Step.grow (t' := tk) k0)
  generalize hs : ({ s1 with heap := s1.heap.push { cls := .type "range", data := .fields #[.int i t, .int j u, .int (-1) v] }, toks := tk } : Shared) = s2 at I1 st1
  have hr : IsRange s2.heap s1.heap.objs.size i j (-1) t u v := by rw [← hs]; exact IsRange.new ..
  have sm : Builtin.Range.small i j (-1) = true := small_down (by omega) (by omega) (by omega) (by omega)
  have nI : s2.heap.get? s2.heap.objs.size = none := get_size _
  obtain ⟨⟨m1, m2, m3⟩, m4⟩ := I1.new nI
  have s0I := st1.fresh nI
  have len : (rngD i j).length = (i - j).toNat := by simp [rngD]
  refine range_begins hr sm (n := (rngD i j).length) (by rw [size_down, len]; split <;> omega) fun h' hit hsz kp => ?_
  refine ⟨Z1, s2.heap.objs.size, [s2.heap.objs.size], [s2.heap.objs.size], _, _, rfl, (Goes.range hh s2.heap.objs.size i (-1) (rngD i j).length).mono (Y' := fun n v _ => n < (rngD i j).length ∧ ∃ t, v = .int (i + n * (-1)) t) (fun _ _ _ a b => ⟨a, b⟩), range_st hit, st1.trans (Step.grow (t' := s2.toks) kp), I1.grow (t' := s2.toks) kp, ?_, ?_, ?_, ?_, ?_, ?_⟩
  · intro i h st b hb
    simp at hb
    subst hb
    exact ⟨_, st⟩
  · intro b hb
    simp at hb
    subst hb
    exact ⟨fun q => m4 (foot_wipe q), m2, m3⟩
  · intro b hb
    simp at hb
    subst hb
    exact ⟨m1, s0I, m4⟩
  · refine fun _ => ⟨_, _, _, _, fun A' hA => walks_lt (Walks.range hA s2.heap.objs.size i (-1) (rngD i j).length), range_st hit, fun b hb => ?_, fun b hb => hb, fun n v hv => ?_⟩
    · simp at hb
      subst hb
      exact ⟨⟨_, hit⟩, m3⟩
    · obtain ⟨hn, t, rfl⟩ := hv
      refine ⟨.int (i + n * (-1)), ?_, .int⟩
      rw [len] at hn
      simp [rngD, List.getElem?_range hn]
  · intro _ ht
    by_cases h0 : (rngD i j).length = 0
    · refine ⟨_, _, _, _, _, fun A' hA => walksU_of (Walks.range hA s2.heap.objs.size i (-1) (rngD i j).length) [] Z1 (fun a ha => by cases ha) (fun n v hn => absurd hn (by omega)) (fun n h hst => ⟨_, _, _, hst, rfl, rfl, by decide⟩), ⟨range_st hit, fun a ha => by cases ha⟩, fun b hb => ?_, fun b hb => hb, fun n vals hv => absurd hv.1 (by omega)⟩
      simp at hb
      subst hb
      exact ⟨⟨_, hit⟩, m3⟩
    · obtain ⟨zs, hz⟩ := ht (.int (i + (0 : Nat) * (-1))) (by
        unfold rngD at h0 ⊢
        rw [List.length_map, List.length_range] at h0
        exact List.mem_map.mpr ⟨0, List.mem_range.mpr (by omega), rfl⟩)
      cases hz
  · rintro n v h' hz ⟨hn, t, rfl⟩
    refine ⟨.int (i + n * (-1)), ?_, item_fz .int hz⟩
    rw [len] at hn
    simp [rngD, List.getElem?_range hn]
theorem si_rng1 (rn : Rn p c g k) {a : E} (ha : SE p c g N k a) : SI p c g N k (.rng1 a) := by
  intro sc ex A en Z e σ s xs h e' target b1 hr hsc hm hen I he
  cases ex with
  | Call f l kws pos =>
    cases f with
    | Name x np =>
      match l, kws, hm with
      | [ex], [], hm =>
        simp only [mI, Bool.and_eq_true] at hm
        obtain ⟨⟨h1, h2⟩, h3⟩ := hm
        have ex1 := beq_iff_eq.mp h1
        subst ex1
        subst hsc
        simp only [evI, Option.bind_eq_some_iff, Prod.exists] at he
        obtain ⟨ra, e1, k1, d, dx, he⟩ := he
        split at he
        · split at he
          · rename_i hin
            cases he
            refine wpAny_Call_Name_kw (I.bltin (v := .type "range") h2 (rn.bn _ (by simp [biNames])) rfl ?_)
            refine PyProof.Rows.callWith_type1 (args_cons (one ha hr rfl h3 I k1 dx fun v Z1 w s1 st I1 ew r1 => ?_) (no_star h3 _ _)) (no_star h3 _ _) rfl
            obtain ⟨t, rfl⟩ := (r1.flat ew (by simp)).int_inv
            exact args_nil (call_range_1 (src_range I1 hr.hd st (by decide) hin))
          · cases he
        · cases he
      | [], _, hm => simp [mI] at hm
      | _ :: _ :: _, _, hm => simp [mI] at hm
      | [_], _ :: _, hm => simp [mI] at hm
    | _ => simp [mI] at hm
  | _ => simp [mI] at hm
theorem si_rng2 (rn : Rn p c g k) {a b : E} (ha : SE p c g N k a) (hb : SE p c g N k b) : SI p c g N k (.rng2 a b) := by
  intro sc ex A en Z e σ s xs h e' target b1 hr hsc hm hen I he
  cases ex with
  | Call f l kws pos =>
    cases f with
    | Name x np =>
      match l, kws, hm with
      | [ex, ey], [], hm =>
        simp only [mI, Bool.and_eq_true] at hm
        obtain ⟨⟨⟨h1, h2⟩, h3⟩, h4⟩ := hm
        have ex1 := beq_iff_eq.mp h1
        subst ex1
        subst hsc
        simp only [evI, Option.bind_eq_some_iff, Prod.exists] at he
        obtain ⟨ra, e1, k1, rb, e2, k2, d, dx, he⟩ := he
        split at he
        · simp only [Option.bind_eq_some_iff] at he
          obtain ⟨d', dy, he⟩ := he
          split at he
          · split at he
            · rename_i hin
              cases he
              simp only [Bool.and_eq_true] at hin
              refine wpAny_Call_Name_kw (I.bltin (v := .type "range") h2 (rn.bn _ (by simp [biNames])) rfl ?_)
              refine PyProof.Rows.callWith_type1 (args_cons ?_ (no_star h3 _ _)) (no_star h3 _ _) ?_
              · refine wp_mono (two ha hb hr rfl h3 h4 I k1 k2 dx dy fun v u Z2 w1 w2 s2 st I2 ew ew' r1 r2 _ => ?_) fun v s1 q => args_cons q (no_star h4 _ _)
                obtain ⟨t, rfl⟩ := (r1.flat ew (by simp)).int_inv
                obtain ⟨t', rfl⟩ := (r2.flat ew' (by simp)).int_inv
                exact args_nil (call_range_2 (src_range I2 hr.hd st hin.1 hin.2))
              · rw [no_star h4]; rfl
            · cases he
          · cases he
        · cases he
      | [], _, hm => simp [mI] at hm
      | [_], _, hm => simp [mI] at hm
      | _ :: _ :: _ :: _, _, hm => simp [mI] at hm
      | [_, _], _ :: _, hm => simp [mI] at hm
    | _ => simp [mI] at hm
  | _ => simp [mI] at hm
theorem si_rng3 (rn : Rn p c g k) {a b : E} (ha : SE p c g N k a) (hb : SE p c g N k b) : ∀ (st : Int), SI p c g N k (.rng3 a b st) := by
  intro st3 sc ex A en Z e σ s xs h e' target b1 hr hsc hm hen I he
  cases ex with
  | Call f l kws pos =>
    cases f with
    | Name x np =>
      match l, kws, hm with
      | [ex, ey, ez], [], hm =>
        simp only [mI, Bool.and_eq_true] at hm
        obtain ⟨⟨⟨⟨h1, h2⟩, h3⟩, h4⟩, h5⟩ := hm
        have ex1 := beq_iff_eq.mp h1
        subst ex1
        subst hsc
        simp only [evI] at he
        split at he
        · cases he
        simp only [Option.bind_eq_some_iff, Prod.exists] at he
        obtain ⟨ra, e1, k1, rb, e2, k2, d, dx, he⟩ := he
        split at he
        · simp only [Option.bind_eq_some_iff] at he
          obtain ⟨d', dy, he⟩ := he
          split at he
          · split at he
            · rename_i hin
              cases he
              simp only [Bool.and_eq_true] at hin
              have hz : mE p N en.scope (.neg (.lit (.int 1))) ez = true := by
                split at h5
                · simp [mE, mK]
                · cases h5
              refine wpAny_Call_Name_kw (I.bltin (v := .type "range") h2 (rn.bn _ (by simp [biNames])) rfl ?_)
              refine PyProof.Rows.callWith_type1 (args_cons ?_ (no_star h3 _ _)) (no_star h3 _ _) ?_
              · refine wp_mono (two ha hb hr rfl h3 h4 I k1 k2 dx dy fun v u Z2 w1 w2 s2 st I2 ew ew' r1 r2 _ => ?_) fun v s1 q => args_cons q (no_star h4 _ _)
                obtain ⟨t, rfl⟩ := (r1.flat ew (by simp)).int_inv
                obtain ⟨t', rfl⟩ := (r2.flat ew' (by simp)).int_inv
                refine args_cons (wp_mono (se_neg (c := c) (se_lit (.int 1)) _ ez A en Z2 e' σ s2 (.v (.d (.int (-1)))) e' hr rfl hz I2 rfl) fun v3 s3 q3 => ?_) (no_star hz _ _)
                obtain ⟨Z3, st3', I3, r3⟩ := q3
                obtain ⟨t3, rfl⟩ := (show ∃ t, v3 = .int (-1) t from Fz.int_inv (Z := Z3) r3.1)
                simp only [inR, decide_eq_true_eq] at hin
                exact args_nil (call_range_3 (by decide) (src_rangeD I3 hr.hd (st.trans (st3'.less fun a q => .inl q)) (by simp only [inR, decide_eq_true_eq]; exact hin.1) (by simp only [inR, decide_eq_true_eq]; exact hin.2)) (.inl (PyProof.noPylong_small (by omega))))
              · rw [no_star h4, no_star hz]; rfl
            · cases he
          · cases he
        · cases he
      | [], _, hm => simp [mI] at hm
      | [_], _, hm => simp [mI] at hm
      | [_, _], _, hm => simp [mI] at hm
      | _ :: _ :: _ :: _ :: _, _, hm => simp [mI] at hm
      | [_, _, _], _ :: _, hm => simp [mI] at hm
    | _ => simp [mI] at hm
  | _ => simp [mI] at hm
theorem enum_newT (l : Addr) (items : Array Value) (n : Nat) (dct : Option Addr) (sl : Array (Option Value)) :
    Meets (Builtin.«enumerate.__new__» ⟨[.type "enumerate", .ref l], []⟩) (fun _ R s => s.heap.get? l = some { cls := .type "tuple", dict := dct, data := .seq items n, slots := sl } ∧
      R (.ok (.ret (.ref (s.heap.push { cls := .type "tuple_iterator", data := .fields #[.ref l, .int 0 0] }).objs.size)))
        { s with heap := (s.heap.push { cls := .type "tuple_iterator", data := .fields #[.ref l, .int 0 0] }).push { cls := .type "enumerate", data := .fields #[.none, .bool false, .ref s.heap.objs.size, rawInt 0, .none, .none] } }) :=
  .of_wp fun prog w A R s h => by
    obtain ⟨hp, g, d, tk, os⟩ := s; obtain ⟨hl, h⟩ := h
    have hsub := sub_enumerate
    have hL : Heap.IsTuple (Shared.heap ⟨hp, g, d, tk, os⟩) l items := ⟨_, hl, rfl, n, rfl⟩
    wp_walk using AutoSeq1.wpAny_loadPart' hl
    refine wpAny_stack_any fun st => wpAny_pure ?_
    split
    · rename_i c _ _ _ _ _
      cases (c == Value.type "enumerate")
      · wp_walk using AutoSeq1.wpAny_loadPart' hl, wpAny_pyIter_tuple hL
        exact ⟨_, rfl, h⟩
      · wp_walk using AutoSeq1.wpAny_loadPart' hl, wpAny_pyIter_tuple hL
        exact ⟨_, rfl, h⟩
    · wp_walk using AutoSeq1.wpAny_loadPart' hl, wpAny_pyIter_tuple hL
      exact ⟨_, rfl, h⟩
theorem enum_tuple {prog : Program} {w : World} {A : Around} {X : Value → Shared → Prop} {s : Shared} {l : Addr} {items : Array Value} {Q : Value → Shared → Prop} (hL : s.heap.IsTuple l items)
    (h : ∀ h', IsEnum h' (s.heap.objs.size + 1) s.heap.objs.size 0 .none → h'.IsTupleIter s.heap.objs.size l 0 → h'.objs.size = s.heap.objs.size + 2 →
      (∀ b o, s.heap.get? b = some o → h'.get? b = some o) → Q (.ref (s.heap.objs.size + 1)) { s with heap := h' }) :
    wpAny (model prog w) A (call (.type "enumerate") [.ref l]) Q X s := by
  obtain ⟨⟨c, dct, dt, sl⟩, hl, hc, n, hd⟩ := hL
  replace hc : c = .type "tuple" := hc
  replace hd : dt = .seq items n := hd
  subst hc hd
  refine callType_new F.called_enumerate (by decide) (F.typeCall_enumerate_1 _) (F.newCall_enumerate_1 _) (fun obj => F.args_object_init_2 obj _) F.entry_enumerate_new
    (enum_newT l items n dct sl) ⟨hl, ?_⟩
  have hz : (s.heap.push { cls := .type "tuple_iterator", data := .fields #[.ref l, .int 0 0] }).objs.size = s.heap.objs.size + 1 := Heap.size_push ..
  show _ ∧ _
  rw [hz]
  have he : IsEnum ((s.heap.push { cls := .type "tuple_iterator", data := .fields #[.ref l, .int 0 0] }).push
      { cls := .type "enumerate", data := .fields #[.none, .bool false, .ref s.heap.objs.size, rawInt 0, .none, .none] }) (s.heap.objs.size + 1) s.heap.objs.size 0 .none := by
    have := Heap.get?_push_size (s.heap.push { cls := .type "tuple_iterator", data := .fields #[.ref l, .int 0 0] })
      (o := { cls := .type "enumerate", data := .fields #[.none, .bool false, .ref s.heap.objs.size, rawInt 0, .none, .none] }) rfl
    rw [hz] at this; exact this
  refine ⟨⟨_, he, rfl⟩, h _ he ⟨_, Heap.get?_push_of_some _ (Heap.get?_push_size _ rfl), rfl, rfl⟩ (by rw [Heap.size_push, hz]) fun b o x => Heap.get?_push_of_some _ (Heap.get?_push_of_some _ x)⟩
theorem si_enum (rn : Rn p c g k) {a : E} (ha : SE p c g N k a) : SI p c g N k (.enum a) := by
  intro sc ex A en Z e σ s xs h e' target b1 hr hsc hm hen I he
  obtain ⟨hb1, htt⟩ := hen rfl
  subst hb1
  have htt' : ∃ elts kk tpos, target = .Tuple elts kk tpos := by
    cases target <;> simp [isTupT] at htt
    exact ⟨_, _, _, rfl⟩
  obtain ⟨elts, kk, tpos, rfl⟩ := htt'
  cases ex with
  | Call f l kws pos =>
    cases f with
    | Name x np =>
      match l, kws, hm with
      | [ex], [], hm =>
        simp only [mI, Bool.and_eq_true] at hm
        obtain ⟨⟨h1, h2⟩, h3⟩ := hm
        have ex1 := beq_iff_eq.mp h1
        subst ex1
        subst hsc
        simp only [evI, Option.bind_eq_some_iff, Prod.exists] at he
        obtain ⟨ra, e1, k1, d, dx, he⟩ := he
        cases q9 : items d with
        | none => rw [q9] at he; cases he
        | some ys =>
        rw [q9] at he
        cases he
        rcases items_inv q9 with rfl | rfl
        · refine wpAny_Call_Name_kw (I.bltin (v := .type "enumerate") h2 (rn.bn _ (by simp [biNames])) rfl ?_)
          refine PyProof.Rows.callWith_type1 (args_cons (wp_mono (ha _ ex A en Z e σ s ra e' hr rfl h3 I k1) fun v s1 q => ?_) (no_star h3 _ _)) (no_star h3 _ _) rfl
          obtain ⟨Z1, st, I1, rr⟩ := q
          have hd := dx
          unfold R.data at dx
          rw [Option.map_eq_some_iff] at dx
          obtain ⟨w, hw, ew⟩ := dx
          have rw' := I1.resW rr hw
          obtain ⟨a, its, n, rfl, g1, l1, f1⟩ := rw'.list I1.sh.zh ew
          have hx := I1.hidden rr hd ⟨_, g1⟩
          obtain ⟨nf1, nf2⟩ := I1.notFrm rr hw ⟨_, .inl ew⟩
          have st' := st.less (F2 := Foot σ e') fun _ z => .inl z
          refine args_nil (call_enumerate_list (items := its.toArray) ⟨_, g1, rfl, n, rfl⟩ fun h' he hit hsz kp => wpAny_pyIter_enum he ?_)
          have nI : s1.heap.get? s1.heap.objs.size = none := get_size _
          have nI2 : s1.heap.get? (s1.heap.objs.size + 1) = none := Heap.get?_none_of_le (by omega)
          obtain ⟨⟨m1, m2, m3⟩, m4⟩ := I1.new nI
          obtain ⟨⟨p1, p2, p3⟩, p4⟩ := I1.new nI2
          have lt := Heap.lt_size g1
          have szx : its.toArray.size = (enumL ys).length := by simp [enumL, f1.length]
          have ne : a ≠ s1.heap.objs.size := Nat.ne_of_lt lt
          have D : Draws g.P g.w A.in1 s1.heap.objs.size [s1.heap.objs.size, a] (enumL ys).length (fun i v => its.toArray[i]? = some v) (fun i h => h.IsListIter s1.heap.objs.size a i ∧ h.IsList a its.toArray) := szx ▸ Draws.list (A := A.in1) hr.hd s1.heap.objs.size a ne its.toArray
          refine ⟨Z1, s1.heap.objs.size + 1, [s1.heap.objs.size + 1, s1.heap.objs.size, a], [s1.heap.objs.size + 1, s1.heap.objs.size], _, _, rfl, Goes.enumFrom 0 D (s1.heap.objs.size + 1) (Nat.succ_ne_self _) (fun z => by rcases List.mem_cons.mp z with z | z; exact Nat.succ_ne_self _ z; simp at z; rw [← z] at lt; exact absurd lt (Nat.not_lt.mpr (Nat.le_succ _))) (by simp), ⟨⟨.none, by simpa using he⟩, hit, ⟨_, kp _ _ g1, rfl, n, rfl⟩⟩, st'.trans (Step.grow (t' := s1.toks) kp), I1.grow (t' := s1.toks) kp, ?_, ?_, ?_, fun q => (by cases q), ?_, ?_⟩
          · rintro i h ⟨⟨old, q0⟩, ⟨o, q, _⟩, ⟨o', q', _⟩⟩ b hb
            simp at hb
            rcases hb with rfl | rfl | rfl
            · exact ⟨_, q0⟩
            · exact ⟨o, q⟩
            · exact ⟨o', q'⟩
          · intro b hb
            simp at hb
            rcases hb with rfl | rfl | rfl
            · exact ⟨fun q => p4 (foot_wipe q), p2, p3⟩
            · exact ⟨fun q => m4 (foot_wipe q), m2, m3⟩
            · exact ⟨hx, nf1, nf2⟩
          · intro b hb
            simp at hb
            rcases hb with rfl | rfl
            · exact ⟨p1, st'.fresh nI2, p4⟩
            · exact ⟨m1, st'.fresh nI, m4⟩
          · intro _ _
            refine ⟨_, _, _, _, _, fun A' hA => (WalksT.enumFrom (A := A') 0 (szx ▸ Draws.list (A := A'.in1) hA s1.heap.objs.size a ne its.toArray) (s1.heap.objs.size + 1) (Nat.succ_ne_self _) (fun z => by rcases List.mem_cons.mp z with z | z; exact Nat.succ_ne_self _ z; simp at z; rw [← z] at lt; exact absurd lt (Nat.not_lt.mpr (Nat.le_succ _))) (by simp)).toU, ⟨⟨.none, by simpa using he⟩, hit, ⟨_, kp _ _ g1, rfl, n, rfl⟩⟩, fun b hb => ?_, fun b hb => hb, fun i vals hv => ?_⟩
            · simp at hb
              rcases hb with rfl | rfl | rfl
              · exact ⟨⟨_, he⟩, p3⟩
              · obtain ⟨o, q, _⟩ := hit; exact ⟨⟨o, q⟩, m3⟩
              · exact ⟨⟨_, kp _ _ g1⟩, nf2⟩
            · obtain ⟨t, x, hx1, rfl⟩ := hv
              obtain ⟨y, hy1, hy2⟩ := f1.got (i := i) (v := x) (by simpa using hx1)
              refine ⟨[.int i, y], by simp [enumL, hy1], ?_⟩
              simp only [Int.zero_add]
              exact .cons .int (.cons hy2 .nil)
          · rintro i v h' hz ⟨T, t, x, rfl, hx1, hx2⟩
            obtain ⟨y, hy1, hy2⟩ := f1.got (i := i) (v := x) (by simpa using hx1)
            refine ⟨.tuple [.int i, y], by simp [enumL, hy1], ⟨fun q => (by cases q), fun _ xs ex => ?_⟩⟩
            cases ex
            refine ⟨T, _, rfl, hx2, ?_⟩
            simp only [Int.zero_add]
            exact .cons .int (.cons hy2 .nil)
        · refine wpAny_Call_Name_kw (I.bltin (v := .type "enumerate") h2 (rn.bn _ (by simp [biNames])) rfl ?_)
          refine PyProof.Rows.callWith_type1 (args_cons (wp_mono (ha _ ex A en Z e σ s ra e' hr rfl h3 I k1) fun v s1 q => ?_) (no_star h3 _ _)) (no_star h3 _ _) rfl
          obtain ⟨Z1, st, I1, rr⟩ := q
          have hd := dx
          unfold R.data at dx
          rw [Option.map_eq_some_iff] at dx
          obtain ⟨w, hw, ew⟩ := dx
          have rw' := I1.resW rr hw
          obtain ⟨a, its, n, rfl, g1, l1, f1⟩ := rw'.tuple I1.sh.zh ew
          have hx := I1.hidden rr hd ⟨_, g1⟩
          obtain ⟨nf1, nf2⟩ := I1.notFrm rr hw ⟨_, .inr ew⟩
          have st' := st.less (F2 := Foot σ e') fun _ z => .inl z
          refine args_nil (enum_tuple (items := its.toArray) ⟨_, g1, rfl, n, rfl⟩ fun h' he hit hsz kp => wpAny_pyIter_enum he ?_)
          have nI : s1.heap.get? s1.heap.objs.size = none := get_size _
          have nI2 : s1.heap.get? (s1.heap.objs.size + 1) = none := Heap.get?_none_of_le (by omega)
          obtain ⟨⟨m1, m2, m3⟩, m4⟩ := I1.new nI
          obtain ⟨⟨p1, p2, p3⟩, p4⟩ := I1.new nI2
          have lt := Heap.lt_size g1
          have szx : its.toArray.size = (enumL ys).length := by simp [enumL, f1.length]
          have ne : a ≠ s1.heap.objs.size := Nat.ne_of_lt lt
          have D : Draws g.P g.w A.in1 s1.heap.objs.size [s1.heap.objs.size, a] (enumL ys).length (fun i v => its.toArray[i]? = some v) (fun i h => h.IsTupleIter s1.heap.objs.size a i ∧ h.IsTuple a its.toArray) := szx ▸ Draws.tuple (A := A.in1) hr.hd s1.heap.objs.size a ne its.toArray
          refine ⟨Z1, s1.heap.objs.size + 1, [s1.heap.objs.size + 1, s1.heap.objs.size, a], [s1.heap.objs.size + 1, s1.heap.objs.size], _, _, rfl, Goes.enumFrom 0 D (s1.heap.objs.size + 1) (Nat.succ_ne_self _) (fun z => by rcases List.mem_cons.mp z with z | z; exact Nat.succ_ne_self _ z; simp at z; rw [← z] at lt; exact absurd lt (Nat.not_lt.mpr (Nat.le_succ _))) (by simp), ⟨⟨.none, by simpa using he⟩, hit, ⟨_, kp _ _ g1, rfl, n, rfl⟩⟩, st'.trans (Step.grow (t' := s1.toks) kp), I1.grow (t' := s1.toks) kp, ?_, ?_, ?_, fun q => (by cases q), ?_, ?_⟩
          · rintro i h ⟨⟨old, q0⟩, ⟨o, q, _⟩, ⟨o', q', _⟩⟩ b hb
            simp at hb
            rcases hb with rfl | rfl | rfl
            · exact ⟨_, q0⟩
            · exact ⟨o, q⟩
            · exact ⟨o', q'⟩
          · intro b hb
            simp at hb
            rcases hb with rfl | rfl | rfl
            · exact ⟨fun q => p4 (foot_wipe q), p2, p3⟩
            · exact ⟨fun q => m4 (foot_wipe q), m2, m3⟩
            · exact ⟨hx, nf1, nf2⟩
          · intro b hb
            simp at hb
            rcases hb with rfl | rfl
            · exact ⟨p1, st'.fresh nI2, p4⟩
            · exact ⟨m1, st'.fresh nI, m4⟩
          · intro _ _
            refine ⟨_, _, _, _, _, fun A' hA => (WalksT.enumFrom (A := A') 0 (szx ▸ Draws.tuple (A := A'.in1) hA s1.heap.objs.size a ne its.toArray) (s1.heap.objs.size + 1) (Nat.succ_ne_self _) (fun z => by rcases List.mem_cons.mp z with z | z; exact Nat.succ_ne_self _ z; simp at z; rw [← z] at lt; exact absurd lt (Nat.not_lt.mpr (Nat.le_succ _))) (by simp)).toU, ⟨⟨.none, by simpa using he⟩, hit, ⟨_, kp _ _ g1, rfl, n, rfl⟩⟩, fun b hb => ?_, fun b hb => hb, fun i vals hv => ?_⟩
            · simp at hb
              rcases hb with rfl | rfl | rfl
              · exact ⟨⟨_, he⟩, p3⟩
              · obtain ⟨o, q, _⟩ := hit; exact ⟨⟨o, q⟩, m3⟩
              · exact ⟨⟨_, kp _ _ g1⟩, nf2⟩
            · obtain ⟨t, x, hx1, rfl⟩ := hv
              obtain ⟨y, hy1, hy2⟩ := f1.got (i := i) (v := x) (by simpa using hx1)
              refine ⟨[.int i, y], by simp [enumL, hy1], ?_⟩
              simp only [Int.zero_add]
              exact .cons .int (.cons hy2 .nil)
          · rintro i v h' hz ⟨T, t, x, rfl, hx1, hx2⟩
            obtain ⟨y, hy1, hy2⟩ := f1.got (i := i) (v := x) (by simpa using hx1)
            refine ⟨.tuple [.int i, y], by simp [enumL, hy1], ⟨fun q => (by cases q), fun _ xs ex => ?_⟩⟩
            cases ex
            refine ⟨T, _, rfl, hx2, ?_⟩
            simp only [Int.zero_add]
            exact .cons .int (.cons hy2 .nil)
      | [], _, hm => simp [mI] at hm
      | _ :: _ :: _, _, hm => simp [mI] at hm
      | [_], _ :: _, hm => simp [mI] at hm
    | _ => simp [mI] at hm
  | _ => simp [mI] at hm
/-- list(range(..)) -/
theorem each_rng {i : Int} {Z : Heap} {acc : Array Value} (h : ItemsOf (fun n v => ∃ t, v = .int (0 + n * 1) t) acc i.toNat) : FzA Z (rngL 0 i) acc.toList := by
  have key : ∀ (us : List Value) (f : Nat → PyData), (∀ j u, us[j]? = some u → Fz Z (f j) u) → FzA Z ((List.range us.length).map f) us := by
    intro us
    induction us with
    | nil => intro f _; exact .nil
    | cons u r ih =>
      intro f hf
      rw [List.length_cons, List.range_succ_eq_map, List.map_cons, List.map_map]
      exact .cons (hf 0 u rfl) (ih (f ∘ Nat.succ) fun j v e => hf (j + 1) v e)
  have e : acc.toList.length = i.toNat := by rw [Array.length_toList]; exact h.1
  unfold rngL
  rw [Int.sub_zero, ← e]
  refine key acc.toList _ fun j u hj => ?_
  obtain ⟨t, rfl⟩ := h.2 j u (by rw [← hj, Array.getElem?_toList])
  rw [Int.mul_one]
  exact .int
theorem lrng_is {a : E} {sc : Scope} {ex : Expr} (hm : mE p N sc (.lrng a) ex = true) : ∃ x np y yp z ypos pos, ex = .Call (.Name x np) [.Call (.Name y yp) [z] [] ypos] [] pos ∧ mE p N sc (.lrng a) (.Call (.Name x np) [.Call (.Name y yp) [z] [] ypos] [] pos) = true := by
  cases ex with
  | Call f l kws pos =>
    cases f with
    | Name x np =>
      rcases kws with _ | ⟨q, kws⟩
      · rcases l with _ | ⟨z, _ | ⟨z2, l⟩⟩
        · simp [mE, genP] at hm
        · cases z with
          | Call f2 l2 k2 p2 =>
            cases f2 with
            | Name y yp =>
              rcases k2 with _ | ⟨q, k2⟩
              · rcases l2 with _ | ⟨z, _ | ⟨z2, l2⟩⟩
                · simp [mE, genP] at hm
                · exact ⟨_, _, _, _, _, _, _, rfl, hm⟩
                · simp [mE, genP] at hm
              · rcases l2 with _ | ⟨z, _ | ⟨z2, l2⟩⟩ <;> simp [mE, genP] at hm
            | _ => simp [mE, genP] at hm
          | _ => simp [mE, genP] at hm
        · simp [mE, genP] at hm
      · rcases l with _ | ⟨z, _ | ⟨z2, l⟩⟩ <;> simp [mE, genP] at hm
    | _ => simp [mE, genP] at hm
  | _ => simp [mE, genP] at hm
theorem se_lrng (rn : Rn p c g k) {a : E} (ha : SE p c g N k a) : SE p c g N k (.lrng a) := by
  intro sc ex A en Z e σ s r e' hr hsc hm I h
  subst hsc
  simp only [ev, Option.bind_eq_some_iff, Prod.exists] at h
  obtain ⟨ra, e1, k1, d, dx, h⟩ := h
  split at h
  · rename_i i
    split at h
    · rename_i hin
      cases h
      · simp only [Bool.and_eq_true] at hin
        obtain ⟨hin, hsz⟩ := hin
        simp only [inR, decide_eq_true_eq] at hin
        have len : (rngL 0 i).length = i.toNat := by simp [rngL]
        have hz := szOk_iff.mp hsz
        rw [sizeLine_is, len] at hz
        obtain ⟨x, np, y, yp, ex, ypos, pos, rfl, hm⟩ := lrng_is hm
        simp only [mE, Bool.and_eq_true] at hm
        obtain ⟨⟨⟨⟨h1, h2⟩, h3⟩, h4⟩, h5⟩ := hm
        have ex1 := beq_iff_eq.mp h1
        have ex2 := beq_iff_eq.mp h3
        subst ex1 ex2
        refine wpAny_Call_Name_kw (I.bltin (v := .type "list") h2 (rn.bn _ (by simp [biNames])) rfl ?_)
        refine PyProof.Rows.callWith_type1 (args_cons ?_ rfl) rfl rfl
        refine wpAny_Call_Name_kw (I.bltin (v := .type "range") h4 (rn.bn _ (by simp [biNames])) rfl ?_)
        refine PyProof.Rows.callWith_type1 (args_cons (one ha hr rfl h5 I k1 dx fun v Z1 w s1 st I1 ew r1 => ?_) (no_star h5 _ _)) (no_star h5 _ _) rfl
        obtain ⟨t, rfl⟩ := (r1.flat ew (by simp)).int_inv
        refine args_nil (call_range_1 (args_nil ?_))
        have k0 : Ext s1.heap (s1.heap.push { cls := .type "range", data := .fields #[.int 0 s1.toks, .int i t, .int 1 (s1.toks + 1)] }) := fun b o q => Heap.get?_push_of_some _ q
        have I2 := I1.grow (t' := s1.toks + 1 + 1) k0
        have st2 := st.trans (Step.grow (t' := s1.toks + 1 + 1) k0)
        refine call_list_range (n := i.toNat) hr.hd (IsRange.new ..) (PySem.small_one (by omega) (by omega) (by omega) (by omega)) (by rw [rangeSize_one]; split <;> omega) (by omega) fun h' tk acc c' hk e' hi => ?_
        refine Post.after st2 (fun _ q => q) (I2.newLst (t' := tk) (n := c') (its := acc.toList) hk (get_size _) (by rw [Array.toArray_toList]; exact e') (each_rng hi) ?_)
        rw [Array.length_toList, hi.1, sizeLine_is]
        omega
    · cases h
  · cases h
end
end Mini

-- M13
set_option Elab.async false
set_option linter.all false
set_option maxRecDepth 100000
set_option maxHeartbeats 4000000
/-! Mini 13: a comprehension's block begins and ends. -/
namespace Mini
open PySem PyProof.Rows

section
variable {p : Px} {c : Cf} {g : G} {N : List Str} {k : Nat} {en : PySem.Env} {Z Z1 Z2 Z3 Z' : Heap} {e e1 e2 e3 e' : Env} {σ σ1 σ3 : List (Option Value)} {s s1 s2 s3 s' : Shared} {A : Around} {F F1 F2 : Addr → Prop} {v u : Value} {r : R} {fr : List Addr} {scope : Scope} {tg : List Nat} {D C : Addr}

/-- slots without a thing -/
def wip (tg : List Nat) (σ : List (Option Value)) : List (Option Value) := tg.foldl (fun σ i => σ.set i none) σ
theorem wip_len : ∀ {tg : List Nat} {σ : List (Option Value)}, (wip tg σ).length = σ.length
  | [], _ => rfl
  | i :: tg, σ => by
    show (wip tg (σ.set i none)).length = _
    rw [wip_len, List.length_set]
theorem wip_at : ∀ {tg : List Nat} {σ : List (Option Value)} {j : Nat}, (wip tg σ)[j]? = if j ∈ tg then (if j < σ.length then some none else none) else σ[j]?
  | [], σ, j => by simp [wip]
  | i :: tg, σ, j => by
    show (wip tg (σ.set i none))[j]? = _
    rw [wip_at, List.length_set]
    by_cases h : j ∈ tg
    · simp [h]
    · simp only [h, if_false, List.mem_cons, or_false]
      by_cases q : j = i
      · subst q
        by_cases hl : j < σ.length
        · simp [hl]
        · simp [hl, List.getElem?_eq_none (Nat.le_of_not_lt hl)]
      · simp [q, List.getElem?_set_ne (Ne.symm q)]
theorem wipe_len : ∀ {is : List Nat} {e : Env}, (wipe is e).length = e.length
  | [], _ => rfl
  | i :: is, e => by
    show (wipe is (e.set i none)).length = _
    rw [wipe_len, List.length_set]
abbrev blkEnv (en : PySem.Env) (scope : Scope) (C : Addr) : PySem.Env := compEnvC scope (cellsFrom (C + 1) scope.names (L2.cloFrom en.cells scope.names [])) C en
structure Blk (N : List Str) (sc scope : Scope) (tg : List Nat) : Prop where
  tgs : ∀ i ∈ tg, ∃ x, N[i]? = some x ∧ (scope.names.lookup x = some .local ∨ scope.names.lookup x = some .cell)
  kind : scope.kind = .function
  co : scope.isCoroutine = false
  uniq : ∀ y ∈ scope.names, scope.names.lookup y.1 = some y.2
  free : ∀ y ∈ scope.names, y.2 = .free → sc.names.lookup y.1 = some .cell ∨ sc.names.lookup y.1 = some .free
  own : ∀ y ∈ scope.names, y.2 = .local ∨ y.2 = .cell → y.1 ∉ N ∨ ∃ i ∈ tg, N[i]? = some y.1
theorem blk_is {sc : Scope} (h : blk N sc scope tg = true) : Blk N sc scope tg := by
  unfold blk at h
  simp only [Bool.and_eq_true, List.all_eq_true, beq_iff_eq, Bool.not_eq_true'] at h
  obtain ⟨⟨⟨h1, h2⟩, h3⟩, h4⟩ := h
  refine ⟨fun i hi => ?_, h2, h3, fun y hy => (h4 y hy).1.1, fun y hy q => ?_, fun y hy q => ?_⟩
  · have := h1 i hi
    split at this
    · rename_i x hx
      refine ⟨x, hx, ?_⟩
      simpa only [loc, Bool.or_eq_true, beq_iff_eq] using this
    · cases this
  · have := (h4 y hy).1.2
    rw [if_pos q] at this
    simpa only [Bool.or_eq_true, beq_iff_eq] using this
  · have := (h4 y hy).2
    rw [if_pos (by simpa using q)] at this
    simp only [Bool.or_eq_true, Bool.not_eq_true', List.any_eq_true, beq_iff_eq] at this
    rcases this with z | z
    · left; simpa using z
    · exact .inr z
theorem lookup_append {α : Type} {x : Str} : ∀ {l l' : List (Str × α)}, (l ++ l').lookup x = match l.lookup x with | some v => some v | none => l'.lookup x
  | [], l' => rfl
  | (y, v) :: l, l' => by
    show List.lookup x ((y, v) :: (l ++ l')) = _
    rw [List.lookup_cons, List.lookup_cons]
    cases x == y with
    | true => rfl
    | false => exact lookup_append
/-- the words of the block's names -/
theorem Blk.cells (B : Blk N en.scope scope tg) (hf : ∀ y, en.kindOf y = some .cell ∨ en.kindOf y = some .free → ∃ c, en.cells.lookup y = some c) {y : Str} {cc : Addr} (h : (blkEnv en scope C).cells.lookup y = some cc) :
    (∃ n, (y, n) ∈ cellsFrom (C + 1) scope.names [] ∧ n = cc ∧ scope.names.lookup y = some .cell) ∨ (en.cells.lookup y = some cc ∧ scope.names.lookup y = some .free) := by
  have h' : (cellsFrom (C + 1) scope.names (L2.cloFrom en.cells scope.names [])).lookup y = some cc := h
  rw [cellsFrom_over, lookup_append] at h'
  split at h'
  · rename_i v hv
    cases h'
    refine .inl ⟨cc, PySem.mem_of_lookup hv, rfl, ?_⟩
    have : ∀ (names : List (Str × NameKind)) (n : Nat) (acc : List (Str × Addr)) (q : Str × Addr), q ∈ cellsFrom n names acc → q ∈ acc ∨ (q.1, NameKind.cell) ∈ names := by
      intro names
      induction names with
      | nil => intro n acc q hq; exact .inl hq
      | cons z r ih =>
        intro n acc q hq
        obtain ⟨m, kk⟩ := z
        unfold cellsFrom at hq
        split at hq
        · rename_i hk
          rcases ih _ _ _ hq with z | z
          · rcases List.mem_cons.mp z with z | z
            · right
              have : kk = .cell := by simpa using hk
              rw [z, this]
              exact List.mem_cons_self
            · exact .inl z
          · exact .inr (List.mem_cons_of_mem _ z)
        · exact (ih _ _ _ hq).imp id (List.mem_cons_of_mem _)
    rcases this _ _ _ _ (PySem.mem_of_lookup hv) with z | z
    · cases z
    · exact B.uniq _ z
  · rcases L2.cloFrom_mem (PySem.mem_of_lookup h') with z | ⟨z, q⟩
    · cases z
    · have h1 := B.free _ z rfl
      obtain ⟨c', hc'⟩ := hf y (by simpa [PySem.Env.kindOf] using h1)
      rw [hc'] at q
      exact .inr ⟨by rw [hc', q]; rfl, B.uniq _ z⟩
theorem Blk.cellHas (B : Blk N en.scope scope tg) {y : Str} (h : scope.names.lookup y = some .cell) : ∃ cc, (blkEnv en scope C).cells.lookup y = some cc ∧ (y, cc) ∈ cellsFrom (C + 1) scope.names [] := by
  obtain ⟨cc, hm⟩ := L2.cells_has (n := C + 1) (acc := []) (PySem.mem_of_lookup h)
  obtain ⟨c', h'⟩ := L2.mem_lookup hm
  refine ⟨c', ?_, PySem.mem_of_lookup h'⟩
  show (cellsFrom (C + 1) scope.names (L2.cloFrom en.cells scope.names [])).lookup y = some c'
  rw [cellsFrom_over, lookup_append, h']
theorem Blk.freeHas (B : Blk N en.scope scope tg) (hf : ∀ y, en.kindOf y = some .cell ∨ en.kindOf y = some .free → ∃ c, en.cells.lookup y = some c) {y : Str} (h : scope.names.lookup y = some .free) : ∃ cc, (blkEnv en scope C).cells.lookup y = some cc ∧ en.cells.lookup y = some cc := by
  have hm := L2.cloFrom_has (cells := en.cells) (acc := []) (PySem.mem_of_lookup h)
  have : ∃ cc, (blkEnv en scope C).cells.lookup y = some cc := by
    show ∃ cc, (cellsFrom (C + 1) scope.names (L2.cloFrom en.cells scope.names [])).lookup y = some cc
    exact L2.mem_lookup (L2.cells_acc (n := C + 1) (names := scope.names) hm)
  obtain ⟨cc, hcc⟩ := this
  refine ⟨cc, hcc, ?_⟩
  rcases B.cells hf hcc with ⟨n, _, _, q⟩ | ⟨q, _⟩
  · rw [h] at q; cases q
  · exact q
theorem blk_kind (B : Blk N en.scope scope tg) {y : Str} {kk : NameKind} (h : (blkEnv en scope C).kindOf y = some kk) : scope.names.lookup y = some kk ∨ (scope.names.lookup y = some .free ∧ kk = .cell) := by
  obtain ⟨k', q, r⟩ := L2.lookup_relS (sc := en.scope) (names := scope.names) (x := y) (k := kk) h
  rcases r with rfl | ⟨rfl, rfl⟩
  · exact .inl q
  · exact .inr ⟨q, rfl⟩
theorem frm_blk (B : Blk N en.scope scope tg) (hf : ∀ y, en.kindOf y = some .cell ∨ en.kindOf y = some .free → ∃ c, en.cells.lookup y = some c) {a : Addr} (h : a ∈ frm (blkEnv en scope C)) : a = C ∨ (∃ y, (y, a) ∈ cellsFrom (C + 1) scope.names []) ∨ a ∈ frm en := by
  simp only [frm, List.mem_cons] at h
  rcases h with h | h
  · exact .inl h
  · obtain ⟨⟨y, b⟩, hm, rfl⟩ := List.mem_map.mp h
    have hm' : (y, b) ∈ cellsFrom (C + 1) scope.names (L2.cloFrom en.cells scope.names []) := hm
    rw [cellsFrom_over, List.mem_append] at hm'
    rcases hm' with z | z
    · exact .inr (.inl ⟨y, z⟩)
    · rcases L2.cloFrom_mem z with z | ⟨z, q⟩
      · cases z
      · obtain ⟨c', hc'⟩ := hf y (by simpa [PySem.Env.kindOf] using B.free _ z rfl)
        rw [hc'] at q
        right; right
        have : b = c' := q
        show b ∈ frm en
        rw [this]
        exact cell_frm hc'
theorem cellsFrom_pairwise : ∀ (names : List (Str × NameKind)) (n : Nat) {x y : Str} {cc : Addr}, (x, cc) ∈ cellsFrom n names [] → (y, cc) ∈ cellsFrom n names [] → x = y := by
  have lo : ∀ (names : List (Str × NameKind)) (n : Nat) (acc : List (Str × Addr)) {x : Str} {cc : Addr}, (x, cc) ∈ cellsFrom n names acc → (x, cc) ∈ acc ∨ n ≤ cc := by
    intro names
    induction names with
    | nil => intro n acc x cc h; exact .inl h
    | cons z r ih =>
      intro n acc x cc h
      obtain ⟨m, kk⟩ := z
      unfold cellsFrom at h
      split at h
      · rcases ih (n + 1) _ h with q | q
        · rcases List.mem_cons.mp q with q | q
          · cases q; exact .inr (Nat.le_refl _)
          · exact .inl q
        · exact .inr (Nat.le_of_succ_le q)
      · exact ih n _ h
  have key : ∀ (names : List (Str × NameKind)) (n : Nat) (acc : List (Str × Addr)), (∀ p ∈ acc, p.2 < n) → (∀ x y cc, (x, cc) ∈ acc → (y, cc) ∈ acc → x = y) → ∀ {x y : Str} {cc : Addr}, (x, cc) ∈ cellsFrom n names acc → (y, cc) ∈ cellsFrom n names acc → x = y := by
    intro names
    induction names with
    | nil => intro n acc _ hi x y cc h1 h2; exact hi _ _ _ h1 h2
    | cons z r ih =>
      intro n acc hl hi x y cc h1 h2
      obtain ⟨m, kk⟩ := z
      unfold cellsFrom at h1 h2
      split at h1
      · rename_i hk
        rw [if_pos hk] at h2
        refine ih (n + 1) ((m, n) :: acc) (fun p hp => ?_) (fun x y cc a b => ?_) h1 h2
        · rcases List.mem_cons.mp hp with q | q
          · rw [q]; exact Nat.lt_succ_self _
          · exact Nat.lt_succ_of_lt (hl p q)
        · rcases List.mem_cons.mp a with q | q
          · cases q
            rcases List.mem_cons.mp b with q' | q'
            · cases q'; rfl
            · exact absurd (hl _ q') (Nat.lt_irrefl _)
          · rcases List.mem_cons.mp b with q' | q'
            · cases q'
              exact absurd (hl _ q) (Nat.lt_irrefl _)
            · exact hi _ _ _ q q'
      · rename_i hk
        rw [if_neg hk] at h2
        exact ih n acc hl hi h1 h2
  exact fun names n x y cc => key names n [] (fun p hp => nomatch hp) (fun x y cc a => nomatch a)
/-- the block begins -/
theorem Inv.block (I : Inv g N en Z e σ s) (B : Blk N en.scope scope tg) (cb : CompBeginsC scope s D C s3) : Inv g N (blkEnv en scope C) Z (wipe tg e) (wip tg σ) s3 := by
  obtain ⟨h3, t3, rfl⟩ := cb.toBegins.only
  have k0 : Ext s.heap h3 := cb.toBegins.old
  have I0 := I.grow (t' := t3) k0
  have fresh : ∀ a, s.heap.objs.size ≤ a → s.heap.get? a = none := fun a h => Heap.get?_none_of_le h
  have cell : ∀ {y : Str} {b : Addr}, (y, b) ∈ cellsFrom (C + 1) scope.names [] → h3.IsCell b none ∧ s.heap.get? b = none ∧ C < b := fun {y b} hm => by
    obtain ⟨q1, q2⟩ := cb.cells _ hm
    exact ⟨q1, fresh b (Nat.le_trans cb.toBegins.newC (Nat.le_of_lt q2)), q2⟩
  have fC : s.heap.get? C = none := fresh C cb.toBegins.newC
  have hasO := I.fm.has
  have sg : ∀ {j : Nat} {u : Value}, (wip tg σ)[j]? = some (some u) → j ∉ tg ∧ σ[j]? = some (some u) := fun {j u} h => by
    rw [wip_at] at h
    split at h
    · split at h <;> cases h
    · exact ⟨‹_›, h⟩
  refine ⟨I.ok, I0.sh, ⟨B.kind, I.fm.glob, I.fm.blt, I.fm.nd, fun y hy => ?_, fun x y cc h1 h2 => ?_, fun y cc h1 => ?_, I.fm.code⟩, fun a ha => ?_, fun a ha => ?_, ⟨⟨_, cb.toBegins.names, fun j y u h1 h2 h3 => ?_⟩, fun y cc hc => ?_⟩, (by rw [wip_len]; exact I.len), (by rw [wipe_len]; exact I.elen), fun j w h => ?_, fun i j xs ys a h1 h2 h3 h4 => ?_, fun a ⟨j, xs, h1, h2⟩ => ?_⟩
  · have key : ∀ kk, (blkEnv en scope C).kindOf y = some kk → kk = .cell ∨ kk = .free → ∃ cc, (blkEnv en scope C).cells.lookup y = some cc := fun kk h1 h2 => by
      rcases blk_kind B h1 with q | ⟨q, _⟩
      · rcases h2 with rfl | rfl
        · obtain ⟨cc, z, _⟩ := B.cellHas (en := en) (C := C) q
          exact ⟨cc, z⟩
        · obtain ⟨cc, z, _⟩ := B.freeHas (C := C) hasO q
          exact ⟨cc, z⟩
      · obtain ⟨cc, z, _⟩ := B.freeHas (C := C) hasO q
        exact ⟨cc, z⟩
    rcases hy with hy | hy
    · exact key _ hy (.inl rfl)
    · exact key _ hy (.inr rfl)
  · rcases B.cells hasO h1 with ⟨n, q1, rfl, _⟩ | ⟨q1, _⟩
    · rcases B.cells hasO h2 with ⟨n, q2, rfl, _⟩ | ⟨q2, _⟩
      · exact cellsFrom_pairwise _ _ q1 q2
      · obtain ⟨o, z⟩ := I.fl _ (cell_frm q2)
        rw [(cell q1).2.1] at z; cases z
    · rcases B.cells hasO h2 with ⟨n, q2, rfl, _⟩ | ⟨q2, _⟩
      · obtain ⟨o, z⟩ := I.fl _ (cell_frm q1)
        rw [(cell q2).2.1] at z; cases z
      · exact I.fm.inj x y cc q1 q2
  · show cc ≠ C
    rcases B.cells hasO h1 with ⟨n, q1, rfl, _⟩ | ⟨q1, _⟩
    · exact Nat.ne_of_gt (cell q1).2.2
    · intro z
      obtain ⟨o, q⟩ := I.fl _ (cell_frm q1)
      rw [z, fC] at q; cases q
  · have new : ∀ b, s.heap.get? b = none → Z.get? b = none ∧ ∀ p ∈ g.tabs, b ≠ p.2 := fun b hb => ⟨(I.new hb).1.1, (I.new hb).1.2.2⟩
    rcases frm_blk B hasO ha with rfl | ⟨y, z⟩ | z
    · exact new _ fC
    · exact new _ (cell z).2.1
    · exact I.fz a z
  · rcases frm_blk B hasO ha with rfl | ⟨y, z⟩ | z
    · obtain ⟨o, _, _, q, _⟩ := cb.toBegins.names; exact ⟨o, q⟩
    · obtain ⟨o, q, _⟩ := (cell z).1; exact ⟨o, q⟩
    · obtain ⟨o, q⟩ := I.fl a z; exact ⟨o, k0 _ _ q⟩
  · obtain ⟨n1, n2⟩ := sg h2
    rcases blk_kind B h3 with q | ⟨_, q⟩
    · rcases B.own _ (PySem.mem_of_lookup q) (.inl rfl) with z | ⟨i, z1, z2⟩
      · exact absurd (List.mem_of_getElem? h1) z
      · have := L2.nodup_ix I.fm.nd z2 h1
        subst this
        exact absurd z1 n1
    · cases q
  · rcases B.cells hasO hc with ⟨n, q1, rfl, q2⟩ | ⟨q1, q2⟩
    · refine ⟨none, (cell q1).1, fun j u h1 h2 h3 => ?_⟩
      obtain ⟨n1, _⟩ := sg h2
      rcases B.own _ (PySem.mem_of_lookup q2) (.inr rfl) with z | ⟨i, z1, z2⟩
      · exact absurd (List.mem_of_getElem? h1) z
      · have := L2.nodup_ix I.fm.nd z2 h1
        subst this
        exact absurd z1 n1
    · obtain ⟨v, ⟨o, z1, z2⟩, r⟩ := I.sees.cell y cc q1
      refine ⟨v, ⟨o, k0 _ _ z1, z2⟩, fun j u h1 h2 h3 => ?_⟩
      exact r j u h1 (sg h2).2 (by simpa [PySem.Env.kindOf] using B.free _ (PySem.mem_of_lookup q2) rfl)
  · rw [get_wipe] at h
    split at h
    · cases h
    · rename_i hj
      obtain ⟨v, q1, q2⟩ := I0.rep j w h
      exact ⟨v, by rw [wip_at, if_neg hj]; exact q1, q2⟩
  · rw [get_wipe] at h1 h2
    split at h1
    · cases h1
    · split at h2
      · cases h2
      · exact I.inj i j xs ys a h1 h2 (sg h3).2 (sg h4).2
  · rw [get_wipe] at h1
    split at h1
    · cases h1
    · have fa : Foot σ e a := ⟨j, xs, h1, (sg h2).2⟩
      obtain ⟨m1, m2, m3⟩ := I.mine a fa
      obtain ⟨o, q⟩ := I.foot_at fa
      refine ⟨m1, fun z => ?_, m3⟩
      rcases frm_blk B hasO z with rfl | ⟨y, z⟩ | z
      · rw [fC] at q; cases q
      · rw [(cell z).2.1] at q; cases q
      · exact m2 z
/-- the addresses that the block's own names stand at are new -/
theorem adrs_new (I : Inv g N en Z e σ s) (B : Blk N en.scope scope tg) (cb : CompBeginsC scope s D C s3) : ∀ a ∈ adrs N (blkEnv en scope C) tg, s.heap.get? a = none := by
  intro a ha
  have fresh : ∀ a, s.heap.objs.size ≤ a → s.heap.get? a = none := fun a h => Heap.get?_none_of_le h
  unfold adrs at ha
  obtain ⟨i, hi, rfl⟩ := List.mem_map.mp ha
  obtain ⟨x, hx, hk⟩ := B.tgs i hi
  rw [hx]
  show s.heap.get? (adr (blkEnv en scope C) x) = none
  unfold adr
  rcases hk with hk | hk
  · have : (blkEnv en scope C).kindOf x = some .local := L2.lookup_relS_keep (sc := en.scope) (by simp) hk
    rw [this]
    exact fresh _ cb.toBegins.newC
  · have : (blkEnv en scope C).kindOf x = some .cell := L2.lookup_relS_keep (sc := en.scope) (by simp) hk
    rw [this]
    obtain ⟨cc, q1, q2⟩ := B.cellHas (en := en) (C := C) hk
    rw [q1]
    exact fresh _ (Nat.le_trans cb.toBegins.newC (Nat.le_of_lt (cb.cells _ q2).2))
/-- a heap that differs at things of no one's -/
theorem Inv.loose (I : Inv g N en Z e σ s) {wr : List Addr} {h' : Heap} {t' : Nat} (hk : ∀ b o, b ∉ wr → s.heap.get? b = some o → h'.get? b = some o) (hw : ∀ b ∈ wr, Z.get? b = none ∧ ¬ Foot σ e b ∧ b ∉ frm en ∧ ∀ p ∈ g.tabs, b ≠ p.2) : Inv g N en Z e σ { s with heap := h', toks := t' } where
  ok := I.ok
  sh := ⟨fun b o q => hk b o (fun z => by rw [(hw b z).1] at q; cases q) (I.sh.zh b o q), I.sh.bz, I.sh.tz, fun p hp => let ⟨ps, a, b⟩ := I.sh.th p hp; ⟨ps, hk _ _ (fun z => (hw _ z).2.2.2 p hp rfl) a, b⟩, I.sh.bare⟩
  fm := I.fm
  fz := I.fz
  fl := fun a ha => let ⟨o, q⟩ := I.fl a ha; ⟨o, hk a o (fun z => (hw a z).2.2.1 ha) q⟩
  sees := I.sees.keep fun a ha o q => hk a o (fun z => (hw a z).2.2.1 ha) q
  len := I.len
  elen := I.elen
  rep := fun i w h => let ⟨v, a, b⟩ := I.rep i w h; ⟨v, a, b.keep (fun _ _ q => q) fun xs b hw' hv o ho => hk b o (fun z => (hw b z).2.1 ⟨i, xs, by rw [← hw']; exact h, by rw [a, hv]⟩) ho⟩
  inj := I.inj
  mine := I.mine
theorem Step.loose {wr : List Addr} {h' : Heap} {t' : Nat} (hk : ∀ b o, b ∉ wr → s.heap.get? b = some o → h'.get? b = some o) (hs : ∀ b ∈ wr, ∃ o, h'.get? b = some o) (hf : ∀ b ∈ wr, b ∈ fr) : Step g fr Z F s Z F { s with heap := h', toks := t' } :=
  ⟨fun _ _ q => q, fun a o q _ n _ => hk a o (fun z => n (hf a z)) q, fun a o q => (Classical.em (a ∈ wr)).elim (hs a) fun z => ⟨o, hk a o z q⟩, fun _ q => .inl q, fun _ _ q => .inl q, rfl, fun _ => ⟨_, _, rfl⟩⟩
theorem Step.close {fr0 : List Addr} {F0 : Addr → Prop} (a : Step g fr0 Z F0 s Z1 F1 s1) (b : Step g fr Z1 F1 s1 Z2 F2 s2) (h : ∀ x ∈ fr, s.heap.get? x = none) : Step g fr0 Z F0 s Z2 F2 s2 := by
  have t := (a.frame (fr' := fr0 ++ fr) fun x hx => List.mem_append_left _ hx).trans (b.frame (fr' := fr0 ++ fr) fun x hx => List.mem_append_right _ hx)
  exact ⟨t.zz, fun x o q n1 n2 n3 => t.keep x o q n1 (fun z => (List.mem_append.mp z).elim n2 fun z => by rw [h x z] at q; cases q) n3, t.there, t.newF, t.newZ, t.os, t.quiet⟩

/-! ### the block ends -/
theorem get_resto {e0 : Env} {is : List Nat} : ∀ {e : Env} {j : Nat}, e.length = e0.length → get (resto e0 is e) j = if j ∈ is then get e0 j else get e j := by
  induction is with
  | nil => intro e j _; simp [resto]
  | cons i is ih =>
    intro e j hl
    show get (resto e0 is (e.set i (get e0 i))) j = _
    rw [ih (by rw [List.length_set]; exact hl), get_set]
    by_cases h : j ∈ is
    · simp [h]
    · by_cases q : i = j
      · subst q
        by_cases hlt : i < e.length
        · simp [h, hlt]
        · simp only [h, hlt, and_false, if_false, List.mem_cons, true_or, if_true]
          have h1 : get e i = none := by
            cases z : get e i with
            | none => rfl
            | some w => exact absurd (get_lt z) hlt
          have h2 : get e0 i = none := by
            cases z : get e0 i with
            | none => rfl
            | some w => exact absurd (hl ▸ get_lt z) hlt
          rw [h1, h2]
      · simp [h, q, Ne.symm q]
theorem resto_len {e0 : Env} : ∀ {is : List Nat} {e : Env}, (resto e0 is e).length = e.length
  | [], _ => rfl
  | i :: is, e => by
    show (resto e0 is (e.set i (get e0 i))).length = _
    rw [resto_len, List.length_set]
/-- back in the frame around -/
theorem Inv.unblock {en' : PySem.Env} {e0 : Env} {hs : List Nat} (I : Inv g N en Z e0 σ s) (I3 : Inv g N en' Z3 e3 σ3 s3) (st : Step g fr Z (Foot (wip tg σ) (wipe tg (wipe hs e0))) s Z3 (Foot σ3 e3) s3) (hf : ∀ a ∈ fr, ∀ o, s.heap.get? a = some o → a ∉ frm en ∧ ¬ Foot σ e0 a) (so : ∀ j, j ∉ tg → σ3[j]? = σ[j]?) :
    Inv g N en Z3 (resto e0 hs (resto e0 tg e3)) σ s3 ∧ ∀ a, Foot σ (resto e0 hs (resto e0 tg e3)) a → Foot σ e0 a ∨ s.heap.get? a = none := by
  have gl : ∀ j, get (resto e0 hs (resto e0 tg e3)) j = if j ∈ hs ∨ j ∈ tg then get e0 j else get e3 j := fun j => by
    have hl : e3.length = e0.length := I3.elen.trans I.elen.symm
    rw [get_resto (by rw [resto_len]; exact hl), get_resto hl]
    by_cases h1 : j ∈ hs
    · simp [h1]
    · by_cases h2 : j ∈ tg <;> simp [h1, h2]
  have F2sub : ∀ a, Foot (wip tg σ) (wipe tg (wipe hs e0)) a → ∃ j xs, j ∉ hs ∧ j ∉ tg ∧ get e0 j = some (.own xs) ∧ σ[j]? = some (some (.ref a)) := fun a ⟨j, xs, h1, h2⟩ => by
    rw [get_wipe] at h1
    split at h1
    · cases h1
    · rename_i n1
      rw [get_wipe] at h1
      split at h1
      · cases h1
      · rename_i n2
        rw [wip_at, if_neg n1] at h2
        exact ⟨j, xs, n2, n1, h1, h2⟩
  have F2foot : ∀ a, Foot (wip tg σ) (wipe tg (wipe hs e0)) a → Foot σ e0 a := fun a h => by
    obtain ⟨j, xs, _, _, h1, h2⟩ := F2sub a h
    exact ⟨j, xs, h1, h2⟩
  have keepF : ∀ a ∈ frm en, ∀ o, s.heap.get? a = some o → s3.heap.get? a = some o := fun a ha o ho => st.keep a o ho (fun z => (I.mine a (F2foot a z)).2.1 ha) (fun z => (hf a z o ho).1 ha) (I.fz a ha).2
  -- the slots given back
  have back : ∀ j xs a, (j ∈ hs ∨ j ∈ tg) → get e0 j = some (.own xs) → σ[j]? = some (some (.ref a)) → ¬ Foot (wip tg σ) (wipe tg (wipe hs e0)) a := fun j xs a hj h1 h2 z => by
    obtain ⟨i, ys, n1, n2, g1, g2⟩ := F2sub a z
    have := I.inj i j ys xs a g1 h1 g2 h2
    subst this
    exact hj.elim n1 n2
  have keepB : ∀ j xs a, (j ∈ hs ∨ j ∈ tg) → get e0 j = some (.own xs) → σ[j]? = some (some (.ref a)) → ∀ o, s.heap.get? a = some o → s3.heap.get? a = some o := fun j xs a hj h1 h2 o ho =>
    st.keep a o ho (back j xs a hj h1 h2) (fun z => (hf a z o ho).2 ⟨j, xs, h1, h2⟩) (I.mine a ⟨j, xs, h1, h2⟩).2.2
  have foot3 : ∀ a, Foot σ3 e3 a → Foot σ e0 a ∨ s.heap.get? a = none := fun a h => (st.newF a h).imp_left (F2foot a)
  refine ⟨⟨I.ok, I3.sh, I.fm, fun a ha => ⟨?_, (I.fz a ha).2⟩, fun a ha => let ⟨o, q⟩ := I.fl a ha; ⟨o, keepF a ha o q⟩, I.sees.keep keepF, I.len, ?_, fun j w h => ?_, fun i j xs ys a h1 h2 h3 h4 => ?_, fun a ⟨j, xs, h1, h2⟩ => ?_⟩, fun a ⟨j, xs, h1, h2⟩ => ?_⟩
  · obtain ⟨o, q⟩ := I.fl a ha
    exact st.noZ q (fun z => (I.mine a (F2foot a z)).2.1 ha) (I.fz a ha).1
  · rw [resto_len, resto_len]; exact I3.elen
  · rw [gl] at h
    split at h
    · rename_i hj
      obtain ⟨v, q1, q2⟩ := I.rep j w h
      exact ⟨v, q1, q2.keep st.zz fun xs a hw hv o ho => by
        subst hw hv
        exact keepB j xs a hj h q1 o ho⟩
    · rename_i hj
      simp only [not_or] at hj
      obtain ⟨v, q1, q2⟩ := I3.rep j w h
      rw [so j hj.2] at q1
      exact ⟨v, q1, q2⟩
  · rw [gl] at h1 h2
    have mixed : ∀ {i j : Nat} {xs ys : List PyData}, (i ∈ hs ∨ i ∈ tg) → get e0 i = some (.own xs) → ¬ (j ∈ hs ∨ j ∈ tg) → get e3 j = some (.own ys) → σ[i]? = some (some (.ref a)) → σ[j]? = some (some (.ref a)) → False := fun {i j xs ys} hi h1 hj h2 h3 h4 => by
      simp only [not_or] at hj
      have f3 : Foot σ3 e3 a := ⟨j, ys, h2, by rw [so j hj.2]; exact h4⟩
      rcases st.newF a f3 with z | z
      · exact back i xs a hi h1 h3 z
      · obtain ⟨o, q⟩ := I.foot_at ⟨i, xs, h1, h3⟩
        rw [z] at q; cases q
    split at h1
    · rename_i hi
      split at h2
      · exact I.inj i j xs ys a h1 h2 h3 h4
      · rename_i hj
        exact (mixed hi h1 hj h2 h3 h4).elim
    · rename_i hi
      split at h2
      · rename_i hj
        exact (mixed hj h2 hi h1 h4 h3).elim
      · rename_i hj
        simp only [not_or] at hi hj
        exact I3.inj i j xs ys a h1 h2 (by rw [so i hi.2]; exact h3) (by rw [so j hj.2]; exact h4)
  · rw [gl] at h1
    split at h1
    · rename_i hj
      have fa : Foot σ e0 a := ⟨j, xs, h1, h2⟩
      obtain ⟨m1, m2, m3⟩ := I.mine a fa
      obtain ⟨o, q⟩ := I.foot_at fa
      exact ⟨st.noZ q (back j xs a hj h1 h2) m1, m2, m3⟩
    · rename_i hj
      simp only [not_or] at hj
      have f3 : Foot σ3 e3 a := ⟨j, xs, h1, by rw [so j hj.2]; exact h2⟩
      obtain ⟨m1, m2, m3⟩ := I3.mine a f3
      refine ⟨m1, fun z => ?_, m3⟩
      rcases foot3 a f3 with q | q
      · exact (I.mine a q).2.1 z
      · obtain ⟨o, q'⟩ := I.fl a z
        rw [q] at q'; cases q'
  · rw [gl] at h1
    split at h1
    · exact .inl ⟨j, xs, h1, h2⟩
    · rename_i hj
      simp only [not_or] at hj
      exact foot3 a ⟨j, xs, h1, by rw [so j hj.2]; exact h2⟩
end
end Mini

-- M14
set_option Elab.async false
set_option linter.all false
set_option maxRecDepth 100000
set_option maxHeartbeats 4000000
/-! Mini 14: list comprehensions. -/
namespace Mini
open PySem PyProof.Rows

section
variable {p : Px} {c : Cf} {g : G} {N : List Str} {k : Nat} {en : PySem.Env} {Z Z1 Z2 Z3 Z' : Heap} {e e1 e2 e3 e' : Env} {σ σ1 σ3 : List (Option Value)} {s s1 s2 s3 s' : Shared} {A : Around} {F F1 F2 : Addr → Prop} {v u : Value} {r : R} {fr : List Addr} {scope : Scope} {tg : List Nat} {D C : Addr}

theorem noSet_is {it : Expr} (h : noSet it = true) : ∀ x, foldedSetIterable it en x = pure x := by
  intro x
  cases it <;> first | rfl | cases h
/-- how a list comprehension's block begins, with the places of its things -/
theorem lc_starts {target iter elt : Expr} {ifs : List Expr} {pos : Pos} {use : Option (Value → Sem Unit)} {Q : Value → Shared → Prop} {I : Addr} {fp wr : List Addr} {n : Nat} {Y : Nat → Value → Heap → Prop} {St : Nat → Heap → Prop} {cl : List (Str × Addr)}
    (W : Goes g.P g.w A target I fp wr n Y St) (st : St 0 s.heap)
    (h : ∀ s3, CompBeginsC scope s s.heap.objs.size (s.heap.objs.size + 1) s3 → s3.heap.PlainList s.heap.objs.size #[] → St 0 s3.heap →
      codeAny (model g.P g.w) A (.compLoop (.ListComp elt [⟨target, iter, ifs, 0⟩] scope pos) 0 (.ref I) (.ref s.heap.objs.size) (compEnvC scope (cellsFrom (s.heap.objs.size + 1 + 1) scope.names cl) (s.heap.objs.size + 1) en))
        (compEnds (model g.P g.w) A (fun _ _ => False) use Q (.ref s.heap.objs.size) (compEnvC scope (cellsFrom (s.heap.objs.size + 1 + 1) scope.names cl) (s.heap.objs.size + 1) en)) s3) :
    WP g A (newList []) (fun acc s4 => WP g A (newFunctionEnv scope en.globals cl [] en.qual none .none (some en)) (fun ce s5 =>
      codeAny (model g.P g.w) A (.compStart (.ListComp elt [⟨target, iter, ifs, 0⟩] scope pos) 0 (.ref I) acc { ce with scope := relabel scope en }) (compEnds (model g.P g.w) A (fun _ _ => False) use Q acc { ce with scope := relabel scope en }) s5) s4) s := by
  refine wpAny_newObj_type (wpAny_newCompEnv ?_)
  generalize e1 : s.heap.push { cls := .type "list", dict := none, data := .seq ([] : List Value).toArray } = h1
  have z1 : h1.objs.size = s.heap.objs.size + 1 := by rw [← e1, Heap.size_push]
  have z2 : (h1.push { cls := .type "dict", data := .dict #[] }).objs.size = s.heap.objs.size + 1 + 1 := by rw [Heap.size_push, z1]
  have k1 : Ext s.heap h1 := fun b o q => by rw [← e1]; exact Heap.get?_push_of_some _ q
  have k2 : Ext h1 (pushCells (h1.push { cls := .type "dict", data := .dict #[] }) scope.names) := fun b o q => pushCells_keeps _ _ b o (Heap.get?_push_of_some _ q)
  have list1 : h1.PlainList s.heap.objs.size #[] := ⟨0, by rw [← e1]; exact Heap.get?_push_size _ rfl⟩
  have names1 : (pushCells (h1.push { cls := .type "dict", data := .dict #[] }) scope.names).Ns (s.heap.objs.size + 1) fun _ => none := by
    rw [← z1]
    exact (Heap.Ns.new h1 (.type "dict")).keeps (pushCells_keeps _ _)
  have cells1 : ∀ x ∈ cellsFrom (s.heap.objs.size + 1 + 1) scope.names [], (pushCells (h1.push { cls := .type "dict", data := .dict #[] }) scope.names).IsCell x.2 none ∧ s.heap.objs.size + 1 < x.2 := fun x hx => by
    have ok := cellsFrom_ok scope.names (h1.push { cls := .type "dict", data := .dict #[] }) (h1.objs.size + 1) [] ⟨fun _ _ q => (nomatch q), List.Pairwise.nil⟩ (by rw [z2, z1]; exact Nat.le_refl _)
    rw [z2, z1] at ok
    exact ok.empty x.1 x.2 hx
  dsimp only
  rw [z1, z2]
  generalize e3 : pushCells (h1.push { cls := .type "dict", data := .dict #[] }) scope.names = h3 at k2 names1 cells1 ⊢
  have st3 : St 0 h3 := W.frame _ _ _ st fun b _ o q => k2 _ _ (k1 _ _ q)
  have all := h { s with heap := h3 } ⟨⟨⟨h3, s.toks, rfl⟩, fun b o q => k2 _ _ (k1 _ _ q), Nat.le_refl _, Nat.le_succ _, Nat.ne_of_lt (Nat.lt_succ_self _), names1⟩, cells1⟩ (let ⟨n, q⟩ := list1; ⟨n, k2 _ _ q⟩) st3
  exact codeAny_compStart_list all (W.self 0 _ _ _ st3 all)
/-- where a comprehension ends -/
structure LcEnd (g : G) (N : List Str) (en : PySem.Env) (σ : List (Option Value)) (Z0 : Heap) (F0 : Addr → Prop) (s0 : Shared) (ds : List PyData) (e' : Env) (D C : Addr) (s : Shared) (Z : Heap) : Prop where
  inv : Inv g N en Z e' σ s
  step : Step g [] Z0 F0 s0 Z (Foot σ e') s
  rep : Rep Z s.heap (.ref D) (.own ds)
  mine : Mine g en Z D ∧ ¬ Foot σ e' D
  fresh : s0.heap.get? D = none
  ns : ∃ m, s.heap.Ns C m
  loose : Z.get? C = none ∧ ¬ Foot σ e' C ∧ C ∉ frm en ∧ ∀ p ∈ g.tabs, C ≠ p.2
  freshC : s0.heap.get? C = none
  ne : D ≠ C
theorem adr_frm {x : Str} (I : Inv g N en Z e σ s) (h : en.kindOf x = some .local ∨ en.kindOf x = some .cell) : adr en x ∈ frm en := by
  unfold adr
  rcases h with h | h
  · rw [h]; simp [frm]
  · rw [h]
    obtain ⟨cc, hc⟩ := I.fm.has x (.inl h)
    rw [hc]
    exact cell_frm hc
theorem adrs_frm (I : Inv g N (blkEnv en scope C) Z e σ s) (B : Blk N en.scope scope tg) : ∀ a ∈ adrs N (blkEnv en scope C) tg, a ∈ frm (blkEnv en scope C) := by
  intro a ha
  obtain ⟨i, hi, rfl⟩ := List.mem_map.mp ha
  obtain ⟨x, hx, hk⟩ := B.tgs i hi
  rw [hx]
  exact adr_frm I (hk.imp (fun q => L2.lookup_relS_keep (sc := en.scope) (by simp) q) fun q => L2.lookup_relS_keep (sc := en.scope) (by simp) q)
/-- the turns' own state -/
structure LcI (g : G) (N : List Str) (en' : PySem.Env) (Z2 : Heap) (F2 : Addr → Prop) (s3 : Shared) (σ : List (Option Value)) (tg : List Nat) (W : List Addr) (fr : List Addr) (more : Env → List PyData → Prop) (ys : List Value) (s : Shared) (Z' : Heap) (ee : Env) (σ' : List (Option Value)) (acc : List PyData) : Prop where
  inv : Inv g N en' Z' ee σ' s
  step : Step g fr Z2 F2 s3 Z' (Foot σ' ee) s
  loose : ∀ b ∈ W, Z'.get? b = none ∧ ¬ Foot σ' ee b
  fz : FzA Z' acc ys
  run : more ee acc
  so : ∀ j, j ∉ tg → σ'[j]? = σ[j]?
theorem LcI.at {en' : PySem.Env} {W : List Addr} {more : Env → List PyData → Prop} {ys : List Value} {ee : Env} {σ' : List (Option Value)} {acc : List PyData} {hh : Heap} {tk : Nat}
    (x : LcI g N en' Z2 F2 s3 σ tg W fr more ys { s with heap := hh, toks := tk } Z' ee σ' acc) (k : ∀ b o, b ∉ W → hh.get? b = some o → s.heap.get? b = some o) (hs : ∀ b ∈ W, ∃ o, s.heap.get? b = some o) (hf : ∀ b ∈ W, b ∈ fr) (ho : ∀ b ∈ W, b ∉ frm en' ∧ ∀ p ∈ g.tabs, b ≠ p.2) :
    LcI g N en' Z2 F2 s3 σ tg W fr more ys s Z' ee σ' acc := by
  have I := x.inv.loose (h' := s.heap) (t' := s.toks) (wr := W) k fun b hb => ⟨(x.loose b hb).1, (x.loose b hb).2, ho b hb⟩
  have st : Step g fr Z' (Foot σ' ee) { s with heap := hh, toks := tk } Z' (Foot σ' ee) { s with heap := s.heap, toks := s.toks } := Step.loose (wr := W) k hs hf
  exact ⟨I, x.step.trans st, x.loose, x.fz, x.run, x.so⟩
def mIf (p : Px) (N : List Str) (sc : Scope) (t : E) : List Expr → Bool
  | [] => isYes t
  | [c] => mE p N sc t c
  | _ => false
theorem mE_lc {sc : Scope} {it t el : E} {one : Bool} {elt target iter : Expr} {ifs : List Expr} {pos : Pos} : mE p N sc (.lc it tg one t el) (.ListComp elt [⟨target, iter, ifs, 0⟩] scope pos) =
    (!(one && isEnum it) && mI p N sc it iter && noSet iter && blk N sc scope tg && mTg N (L2.relS scope sc) tg one target && mIf p N (L2.relS scope sc) t ifs && mE p N (L2.relS scope sc) el elt) := by
  match ifs with
  | [] => simp only [mE, mIf]
  | [c] => simp only [mE, mIf]
  | _ :: _ :: _ => simp only [mE, mIf]
theorem tests_ok {ifs : List Expr} {t : E} {sc : Scope} (ht : ST p c g N k t) (hr : L2.Room k A) (hsc : en.scope = sc) (hm : mIf p N sc t ifs = true) (I : Inv g N en Z e σ s) {b : Bool} (h : evT c t e = some (b, e')) : WP g A (testsOf ifs en) (fun b' s' => b' = b ∧ PostE g N en σ Z (Foot σ e) s e' s') s := by
  unfold mIf at hm
  split at hm
  · have hy : t = .lit (.bool true) := by
      unfold isYes at hm
      split at hm
      · rfl
      · cases hm
    subst hy
    unfold evT at h
    simp only [ev, R.data, R.w, Option.bind_some, Option.map_some, W.data, truth] at h
    cases h
    exact wpAny_tests_nil ⟨rfl, Z, Step.refl, I⟩
  · exact wpAny_tests_one (ht sc _ A en Z e σ s b e' hr hsc hm I h)
  · cases hm
theorem lcL_len {bnd : PyData → Env → Option Env} {test : Env → Option (Bool × Env)} {el : Env → Option (R × Env)} {own : List Nat} : ∀ {xs : List PyData} {e : Env} {acc ds : List PyData} {e' : Env}, lcL bnd test el own xs e acc = some (ds, e') → ds.length ≤ acc.length + xs.length
  | [], e, acc, ds, e', h => by
    simp only [lcL] at h
    cases h
    exact Nat.le_refl _
  | x :: r, e, acc, ds, e', h => by
    simp only [lcL, Option.bind_eq_some_iff, Prod.exists] at h
    obtain ⟨eb, _, b, ec, _, h⟩ := h
    cases b with
    | false =>
      have := lcL_len (by simpa using h)
      simp only [List.length_cons]
      omega
    | true =>
      simp only [if_true, Option.bind_eq_some_iff, Prod.exists] at h
      obtain ⟨y, e3, _, d, _, h⟩ := h
      have := lcL_len h
      simp only [List.length_cons, List.length_append, List.length_nil] at this ⊢
      omega
theorem lc_core {t el : E} {h : List Nat} {one : Bool} {xs ds : List PyData} {target iter elt : Expr} {ifs : List Expr} {pos : Pos} {use : Option (Value → Sem Unit)} {Q : Value → Shared → Prop} {Z0 : Heap} {F0 : Addr → Prop} {s0 : Shared} {itv : Value} {I : Addr} {fp wr : List Addr} {Y : Nat → Value → Heap → Prop} {St : Nat → Heap → Prop}
    (S : Src g N en σ Z0 F0 s0 A target one xs h e1 itv s2 Z2 I fp wr Y St) (ht : ST p c g N k t) (hel : SE p c g N k el) (hr : L2.Room k A) (B : Blk N en.scope scope tg) (hsz : xs.length ≤ sizeLine)
    (hmt : mTg N (L2.relS scope en.scope) tg one target = true) (hmi : mIf p N (L2.relS scope en.scope) t ifs = true) (hme : mE p N (L2.relS scope en.scope) el elt = true)
    (hrun : lcL (bindTg tg one) (evT c t) (ev c el) tg xs (wipe tg (wipe h e1)) [] = some (ds, e2))
    (fin : ∀ s4 Z4, LcEnd g N en σ Z0 F0 s0 ds (resto e1 h (resto e1 tg e2)) s2.heap.objs.size (s2.heap.objs.size + 1) s4 Z4 → compEnds (model g.P g.w) A (fun _ _ => False) use Q (.ref s2.heap.objs.size) (blkEnv en scope (s2.heap.objs.size + 1)) (.ok .next) s4) :
    WP g A (newList []) (fun acc s4 => WP g A (newFunctionEnv scope en.globals (L2.cloFrom en.cells scope.names []) [] en.qual none .none (some en)) (fun ce s5 =>
      codeAny (model g.P g.w) A (.compStart (.ListComp elt [⟨target, iter, ifs, 0⟩] scope pos) 0 itv acc { ce with scope := relabel scope en }) (compEnds (model g.P g.w) A (fun _ _ => False) use Q acc { ce with scope := relabel scope en }) s5) s4) s2 := by
  have hI := S.is
  subst hI
  refine lc_starts S.goes S.st fun s3 cb acc3 st3 => ?_
  generalize hD : s2.heap.objs.size = D at cb acc3 fin ⊢
  have fD : s2.heap.get? D = none := by rw [← hD]; exact get_size _
  have fC : s2.heap.get? (D + 1) = none := by rw [← hD]; exact Heap.get?_none_of_le (Nat.le_succ _)
  have Ib : Inv g N (blkEnv en scope (D + 1)) Z2 (wipe tg (wipe h e1)) (wip tg σ) s3 := by
    have I0 : Inv g N en Z2 (wipe h e1) σ s2 := S.inv.lay wipe_len fun i w q => by
      rw [get_wipe] at q
      split at q
      · cases q
      · exact .inl q
    exact I0.block B cb
  have hasO := S.inv.fm.has
  have standF : ∀ a ∈ frm en, ∃ o, s2.heap.get? a = some o := S.inv.fl
  have Dfrm : D ∉ frm (blkEnv en scope (D + 1)) := fun z => by
    rcases frm_blk B hasO z with q | ⟨y, q⟩ | q
    · exact absurd q (Nat.ne_of_lt (Nat.lt_succ_self _))
    · have := (cb.cells _ q).2
      exact absurd this (Nat.not_lt.mpr (Nat.le_succ _))
    · obtain ⟨o, w⟩ := standF D q
      rw [fD] at w; cases w
  have Dtab : ∀ p ∈ g.tabs, D ≠ p.2 := (S.inv.new fD).1.2.2
  have ZD : Z2.get? D = none := (S.inv.new fD).1.1
  have anew : ∀ a ∈ adrs N (blkEnv en scope (D + 1)) tg, s2.heap.get? a = none := adrs_new S.inv B cb
  have afrm := adrs_frm Ib B
  have k23 : Ext s2.heap s3.heap := cb.toBegins.old
  have live2 : ∀ b ∈ fp, ∃ o, s2.heap.get? b = some o := S.live 0 _ S.st
  have F2sub : ∀ a, Foot (wip tg σ) (wipe tg (wipe h e1)) a → Foot σ (wipe h e1) a := fun a ⟨j, xs, q1, q2⟩ => by
    rw [get_wipe] at q1
    split at q1
    · cases q1
    · rename_i hj
      rw [wip_at, if_neg hj] at q2
      exact ⟨j, xs, q1, q2⟩
  have blkF : ∀ a, a ∈ frm (blkEnv en scope (D + 1)) → (s2.heap.get? a = none ∨ a ∈ frm en) := fun a ha => by
    rcases frm_blk B hasO ha with q | ⟨y, q⟩ | q
    · rw [q]; exact .inl fC
    · left
      have := (cb.cells _ q).2
      rw [← hD] at this
      exact Heap.get?_none_of_le (Nat.le_of_lt (Nat.lt_of_succ_lt this))
    · exact .inr q
  have fpOut : ∀ b ∈ fp, b ∉ frm (blkEnv en scope (D + 1)) ∧ ∀ p ∈ g.tabs, b ≠ p.2 := fun b hb => ⟨fun z => by
    rcases blkF b z with q | q
    · obtain ⟨o, w⟩ := live2 b hb
      rw [q] at w; cases w
    · exact (S.apart b hb).2.1 q, (S.apart b hb).2.2⟩
  have wsub : ∀ b ∈ wr, b ∈ fp := S.goes.sub
  have hDf : D ∉ fp := fun z => by
    obtain ⟨o, w⟩ := live2 D z
    rw [fD] at w; cases w
  have outW : ∀ b ∈ D :: wr, b ∉ frm (blkEnv en scope (D + 1)) ∧ ∀ p ∈ g.tabs, b ≠ p.2 := fun b hb => by
    rcases List.mem_cons.mp hb with q | q
    · rw [q]; exact ⟨Dfrm, Dtab⟩
    · exact fpOut b (wsub b q)
  let fr : List Addr := D :: wr ++ adrs N (blkEnv en scope (D + 1)) tg
  have hfrW : ∀ b ∈ D :: wr, b ∈ fr := fun b hb => List.mem_append_left _ hb
  have hfrA : ∀ b ∈ adrs N (blkEnv en scope (D + 1)) tg, b ∈ fr := fun b hb => List.mem_append_right _ hb
  let G0 : Nat → List Value → Shared → Prop := fun i ys s => ∃ Z' ee σ' acc, LcI g N (blkEnv en scope (D + 1)) Z2 (Foot (wip tg σ) (wipe tg (wipe h e1))) s3 (wip tg σ) tg (D :: wr) fr (fun ee acc => lcL (bindTg tg one) (evT c t) (ev c el) tg (xs.drop i) ee acc = some (ds, e2)) ys s Z' ee σ' acc
  let Gt : Nat → List Value → Shared → Prop := fun i ys s => ∃ hh tk, G0 i ys { s with heap := hh, toks := tk } ∧ ∀ b o, b ∉ D :: wr → hh.get? b = some o → s.heap.get? b = some o
  have here : ∀ {i ys s}, G0 i ys s → Gt i ys s := fun {i ys s} x => ⟨s.heap, s.toks, x, fun _ _ _ q => q⟩
  have open_ : ∀ {i ys} {s : Shared}, Gt i ys s → (∀ b ∈ D :: wr, ∃ o, s.heap.get? b = some o) → G0 i ys s := fun {i ys s} x hs => by
    obtain ⟨hh, tk, ⟨Z', ee, σ', acc, y⟩, k⟩ := x
    exact ⟨Z', ee, σ', acc, y.at k hs hfrW outW⟩
  refine lc_goes (G := Gt) S.goes hsz hDf st3 acc3 (here ⟨Z2, _, _, [], ⟨Ib, Step.refl, fun b hb => ?_, .nil, ?_, fun _ _ => rfl⟩⟩) (fun i ys s1 h' tk x hk htk => ?_) (fun i v ys s1 hi hY hst x hpl => ?_) (fun ys s1 x hpl => ?_)
  · rcases List.mem_cons.mp hb with q | q
    · rw [q]
      refine ⟨ZD, fun z => ?_⟩
      have := foot_wipe (F2sub D z)
      obtain ⟨o, w⟩ := S.inv.foot_at this
      rw [fD] at w; cases w
    · obtain ⟨q1, _, q2⟩ := S.wrt b q
      exact ⟨q1, fun z => q2 (foot_wipe (F2sub b z))⟩
  · simpa using hrun
  · obtain ⟨hh, tk', y, k⟩ := x
    exact ⟨hh, tk', y, fun b o nb q => hk b o nb (k b o nb q)⟩
  · -- a turn
    obtain ⟨nD, hpl'⟩ := hpl
    have stW : ∀ b ∈ D :: wr, ∃ o, s1.heap.get? b = some o := fun b hb => by
      rcases List.mem_cons.mp hb with q | q
      · rw [q]; exact ⟨_, hpl'⟩
      · exact S.live _ _ hst b (wsub b q)
    obtain ⟨Z', ee, σ', acc, y⟩ := open_ x stW
    have z2' : Ext Z2 Z' := y.step.zz
    obtain ⟨x0, hx0, io0⟩ := S.val i v s1.heap (fun b o q => y.inv.sh.zh b o (z2' b o q)) hY
    have io : ItemOk one Z' s1.heap v x0 := ⟨fun q => (io0.one q).ext z2', fun q zs ez => let ⟨T, vals, a, b, f⟩ := io0.tup q zs ez; ⟨T, vals, a, b, f.ext z2'⟩⟩
    have hrun1 := y.run
    have hdrop : xs.drop i = x0 :: xs.drop (i + 1) := by
      obtain ⟨hlt, hget⟩ := List.getElem?_eq_some_iff.mp hx0
      rw [List.drop_eq_getElem_cons hlt, hget]
    rw [hdrop] at hrun1
    simp only [lcL, Option.bind_eq_some_iff, Prod.exists] at hrun1
    obtain ⟨eb, hb1, b, ec, hb2, hb3⟩ := hrun1
    refine wpAny_mono (bind_ok (fr := adrs N (blkEnv en scope (D + 1)) tg) y.inv hr.hd hmt (fun a ha => ha) hb1 io) (fun _ s4 q4 => ?_) fun _ _ z => z.elim
    obtain ⟨σ4, I4, st4, so4⟩ := q4
    refine wpAny_mono (tests_ok ht hr rfl hmi I4 hb2) (fun b' s5 q5 => ?_) fun _ _ z => z.elim
    obtain ⟨rfl, Z5, st5, I5⟩ := q5
    -- what a turn leaves behind
    have close : ∀ {s6 : Shared} {Z6 : Heap} {e6 : Env} {acc6 : List PyData} {ys6 : List Value}, Inv g N (blkEnv en scope (D + 1)) Z6 e6 σ4 s6 → Step g (adrs N (blkEnv en scope (D + 1)) tg) Z' (Foot σ' ee) s1 Z6 (Foot σ4 e6) s6 → FzA Z6 acc6 ys6 → lcL (bindTg tg one) (evT c t) (ev c el) tg (xs.drop (i + 1)) (wipe tg e6) acc6 = some (ds, e2) →
        Gt (i + 1) ys6 s6 ∧ St (i + 1) s6.heap ∧ s6.heap.PlainList D ys.toArray := fun {s6 Z6 e6 acc6 ys6} I6 st6 f6 r6 => by
      have kp : ∀ b, (b ∈ fp ∨ b = D) → ∀ o, s1.heap.get? b = some o → s6.heap.get? b = some o := fun b hb o ho => by
        refine st6.keep b o ho (fun z => ?_) (fun z => ?_) ?_
        · rcases hb with hb | hb
          · rcases y.step.newF b z with q | q
            · exact (S.apart b hb).1 (F2sub b q)
            · obtain ⟨o', w⟩ := live2 b hb
              rw [k23 _ _ w] at q; cases q
          · exact (y.loose b (by rw [hb]; exact List.mem_cons_self)).2 z
        · rcases hb with hb | hb
          · obtain ⟨o', w⟩ := live2 b hb
            rw [anew b z] at w; cases w
          · subst hb; exact Dfrm (afrm _ z)
        · rcases hb with hb | hb
          · exact (fpOut b hb).2
          · rw [hb]; exact Dtab
      refine ⟨here ⟨Z6, wipe tg e6, σ4, acc6, ⟨I6.lay wipe_len fun j w q => ?_, ?_, fun b hb => ?_, f6, r6, fun j hj => ?_⟩⟩, S.goes.frame _ _ _ hst fun b hb o ho => kp b (.inl hb) o ho, ⟨nD, kp D (.inr rfl) _ hpl'⟩⟩
      · rw [get_wipe] at q
        split at q
        · cases q
        · exact .inl q
      · exact (y.step.trans (st6.frame hfrA)).less fun a q => foot_wipe q
      · obtain ⟨n1, n2⟩ := y.loose b hb
        obtain ⟨o, ho⟩ := stW b hb
        exact ⟨st6.noZ ho n2 n1, fun z => st6.away ho n2 (foot_wipe z)⟩
      · rw [so4 j hj, y.so j hj]
    cases b' with
    | false =>
      simp only [Bool.false_eq_true, if_false] at hb3 ⊢
      have st15 := st4.trans (st5.frame (fr' := adrs N (blkEnv en scope (D + 1)) tg) (by simp))
      exact close I5 st15 (y.fz.ext st15.zz) hb3
    | true =>
      simp only [if_true, Option.bind_eq_some_iff, Prod.exists] at hb3 ⊢
      obtain ⟨ry, e6, hb4, d, hb5, hb6⟩ := hb3
      refine wpAny_mono (hel _ elt A _ Z5 ec σ4 s5 ry e6 hr rfl hme I5 hb4) (fun u s6 q6 => ?_) fun _ _ z => z.elim
      obtain ⟨Z6, st6, I6, rr6⟩ := q6
      obtain ⟨Z7, st7, I7, f7⟩ := I6.freeze (rs := [ry]) (vs := [u]) (ds := [d]) (.cons rr6 .nil fun a _ q hq => by simp at hq) (datas_of hb5 rfl)
      have st67 := (st6.less (F2 := fun a => Foot σ4 e6 a ∨ FootA [u] [ry] a) fun a q => q.imp_right fun z => by rcases footA_cons.mp z with w | ⟨_, w, _⟩; exact w; simp at w).trans st7
      have st17 := (st4.trans (st5.frame (fr' := adrs N (blkEnv en scope (D + 1)) tg) (by simp))).trans (st67.frame (fr' := adrs N (blkEnv en scope (D + 1)) tg) (by simp))
      exact close I7 st17 ((y.fz.ext st17.zz).append f7) hb6
  · -- the end
    obtain ⟨nD, hpl'⟩ := hpl
    obtain ⟨hh, tk, ⟨Z', ee, σ', acc, y⟩, k⟩ := x
    have hrun1 := y.run
    rw [List.drop_length] at hrun1
    simp only [lcL] at hrun1
    cases hrun1
    have stand3 : ∀ b ∈ D :: wr, ∃ o, s3.heap.get? b = some o := fun b hb => by
      rcases List.mem_cons.mp hb with q | q
      · obtain ⟨n, w⟩ := acc3; rw [q]; exact ⟨_, w⟩
      · obtain ⟨o, w⟩ := live2 b (wsub b q); exact ⟨o, k23 _ _ w⟩
    have nofoot : ∀ b ∈ D :: wr, ¬ Foot σ e1 b := fun b hb z => by
      rcases List.mem_cons.mp hb with q | q
      · obtain ⟨o, w⟩ := S.inv.foot_at z
        rw [q, fD] at w; cases w
      · exact (S.wrt b q).2.2 z
    have nofrm : ∀ b ∈ D :: wr, b ∉ frm en := fun b hb z => by
      rcases List.mem_cons.mp hb with q | q
      · obtain ⟨o, w⟩ := standF b z
        rw [q, fD] at w; cases w
      · exact (S.apart b (wsub b q)).2.1 z
    have I3 : Inv g N en Z2 e1 σ s3 := by
      obtain ⟨h3, t3, rfl⟩ := cb.toBegins.only
      exact S.inv.grow k23
    have fr0 : ∀ a ∈ fr, s0.heap.get? a = none := fun a ha => by
      rcases List.mem_append.mp ha with q | q
      · rcases List.mem_cons.mp q with q | q
        · rw [q]; exact S.step.fresh fD
        · exact (S.wrt a q).2.1
      · exact S.step.fresh (anew a q)
    obtain ⟨Iu, fu⟩ := I3.unblock y.inv y.step (fun a ha o ho => by
      rcases List.mem_append.mp ha with q | q
      · exact ⟨nofrm a q, nofoot a q⟩
      · refine ⟨fun z => ?_, fun z => ?_⟩
        · obtain ⟨o, w⟩ := standF a z
          rw [anew a q] at w; cases w
        · obtain ⟨o, w⟩ := S.inv.foot_at z
          rw [anew a q] at w; cases w) fun j hj => by rw [y.so j hj, wip_at, if_neg hj]
    have nofoot' : ∀ b ∈ D :: wr, ¬ Foot σ (resto e1 h (resto e1 tg e2)) b := fun b hb z => by
      rcases fu b z with q | q
      · exact nofoot b hb q
      · obtain ⟨o, w⟩ := stand3 b hb
        rw [q] at w; cases w
    have Iend := Iu.loose (h' := s1.heap) (t' := s1.toks) (wr := D :: wr) k fun b hb => ⟨(y.loose b hb).1, nofoot' b hb, nofrm b hb, (outW b hb).2⟩
    have stA : Step g [] Z0 F0 s0 Z2 (Foot (wip tg σ) (wipe tg (wipe h e1))) s3 := by
      obtain ⟨h3, t3, rfl⟩ := cb.toBegins.only
      exact (S.step.trans (Step.grow k23)).less fun a q => foot_wipe (F2sub a q)
    have stB := stA.close y.step fr0
    have Cin : D + 1 ∈ frm (blkEnv en scope (D + 1)) := List.mem_cons_self
    have s3C : ∃ o, s3.heap.get? (D + 1) = some o := let ⟨o, _, _, q, _⟩ := cb.toBegins.names; ⟨o, q⟩
    refine fin s1 Z' ⟨Iend, ⟨stB.zz, fun a o q n1 n2 n3 => ?_, fun a o q => ?_, fun a q => ?_, stB.newZ, stB.os, fun hq => ?_⟩, ⟨D, ys, nD, rfl, hpl', ?_, y.fz⟩, ⟨⟨(y.loose D List.mem_cons_self).1, nofrm D List.mem_cons_self, Dtab⟩, nofoot' D List.mem_cons_self⟩, S.step.fresh fD, ?_, ⟨(y.inv.fz _ Cin).1, fun z => ?_, fun z => ?_, (y.inv.fz _ Cin).2⟩, S.step.fresh fC, Nat.ne_of_lt (Nat.lt_succ_self _)⟩
    · exact k a o (fun z => by rw [fr0 a (hfrW a z)] at q; cases q) (stB.keep a o q n1 n2 n3)
    · obtain ⟨o', q'⟩ := stB.there a o q
      exact ⟨o', k a o' (fun z => by rw [fr0 a (hfrW a z)] at q; cases q) q'⟩
    · rcases fu a q with z | z
      · exact S.step.newF a z
      · right
        cases w : s0.heap.get? a with
        | none => rfl
        | some o =>
          obtain ⟨o', w'⟩ := stA.there a o w
          rw [z] at w'; cases w'
    · obtain ⟨h1, t1, q⟩ := stB.quiet hq
      refine ⟨s1.heap, s1.toks, ?_⟩
      have : ({ ({ s1 with heap := hh, toks := tk } : Shared) with heap := s1.heap, toks := s1.toks } : Shared) = { ({ s0 with heap := h1, toks := t1 } : Shared) with heap := s1.heap, toks := s1.toks } := by rw [q]
      exact this
    · have := lcL_len hrun
      rw [y.fz.length]
      simpa using Nat.le_trans this (by simpa using hsz)
    · obtain ⟨m, hn, _⟩ := y.inv.sees.ns
      exact ⟨m, hn.at' fun o q => k _ o (fun z => (outW _ z).1 Cin) q⟩
    · rcases fu _ z with q | q
      · obtain ⟨o, w⟩ := S.inv.foot_at q
        rw [fC] at w; cases w
      · obtain ⟨o, w⟩ := s3C
        rw [q] at w; cases w
    · obtain ⟨o, w⟩ := standF _ z
      rw [fC] at w; cases w
theorem tup_of_tg {sc : Scope} {one : Bool} {target : Expr} (h : mTg N sc tg one target = true) (h1 : one = false) : isTupT target = true := by
  subst h1
  unfold mTg at h
  simp only [Bool.false_eq_true, if_false] at h
  split at h
  · rfl
  · cases h
theorem se_lc {it t el : E} {one : Bool} (hi : SI p c g N k it) (ht : ST p c g N k t) (hel : SE p c g N k el) : SE p c g N k (.lc it tg one t el) := by
  intro sc ex A en Z e σ s r e' hr hsc hm I h
  subst hsc
  cases ex with
  | ListComp elt gens scope pos =>
    match gens, hm with
    | [⟨target, iter, ifs, as⟩], hm =>
      have h0 : as = 0 := by
        cases as with
        | ofNat n =>
          cases n with
          | zero => rfl
          | succ n => exact absurd hm Bool.false_ne_true
        | negSucc n => exact absurd hm Bool.false_ne_true
      subst h0
      rw [mE_lc] at hm
      simp only [Bool.and_eq_true, Bool.not_eq_true'] at hm
      obtain ⟨⟨⟨⟨⟨⟨m0, m1⟩, m2⟩, m3⟩, m4⟩, m5⟩, m6⟩ := hm
      simp only [ev, Option.bind_eq_some_iff, Prod.exists] at h
      obtain ⟨xs, hs, e1, k1, h⟩ := h
      split at h
      · cases h
      · rename_i hz
        rw [Option.map_eq_some_iff] at h
        obtain ⟨⟨ds, e2⟩, k2, h⟩ := h
        cases h
        have B := blk_is m3
        have hsz : xs.length ≤ sizeLine := szOk_iff.mp (by simpa using hz)
        have hfree : ∀ y ∈ scope.names, y.2 = .free → ∃ c, en.cells.lookup y.1 = some c := fun y hy q => I.fm.has _ (by simpa [PySem.Env.kindOf] using B.free y hy q)
        rw [eval_ListComp]
        refine comprehension_at (use := none) (cl := L2.cloFrom en.cells scope.names []) rfl (noSet_is m2) (L2.closure_ok hfree) B.kind (fun y hy q => by rw [B.uniq y hy, q]) ?_
        refine wpAny_mono (hi _ iter A en Z e σ s xs hs e1 target one hr rfl m1 (fun q => ?_) I k1) (fun xv s1 q1 => wpAny_mono q1 (fun itv s2 q2 => ?_) fun _ _ z => z) fun _ _ z => z
        · have h1 : one = false := by
            cases one with
            | false => rfl
            | true => rw [q] at m0; cases m0
          exact ⟨h1, tup_of_tg m4 h1⟩
        · obtain ⟨Z2, I2, fp, wr, Y, St, S⟩ := q2
          refine lc_core S ht hel hr B hsz m4 m5 m6 k2 fun s4 Z4 le => ?_
          obtain ⟨m, hn⟩ := le.ns
          refine ⟨m, hn, fun h' sb => ?_⟩
          have kp : ∀ b o, b ∉ [s2.heap.objs.size + 1] → s4.heap.get? b = some o → h'.get? b = some o := fun b o nb q => by
            have : b ≠ s2.heap.objs.size + 1 := by simpa using nb
            rw [sb.2 b this]; exact q
          have one : ∀ b ∈ [s2.heap.objs.size + 1], b = s2.heap.objs.size + 1 := fun b hb => by simpa using hb
          have I5 := le.inv.loose (t' := s4.toks) kp fun b hb => by rw [one b hb]; exact le.loose
          refine ⟨Z4, ⟨le.step.zz, fun a o q n1 n2 n3 => kp a o (fun z => ?_) (le.step.keep a o q n1 n2 n3), fun a o q => ?_, fun a q => ?_, le.step.newZ, le.step.os, fun hq => ?_⟩, I5, le.rep.keep (fun _ _ q => q) fun xs a _ ha o ho => kp a o (fun z => ?_) ho, fun a ha => ?_⟩
          · rw [one a z, le.freshC] at q; cases q
          · obtain ⟨o', q'⟩ := le.step.there a o q
            exact ⟨o', kp a o' (fun z => by rw [one a z, le.freshC] at q; cases q) q'⟩
          · rcases q with q | ⟨_, _, q⟩
            · exact le.step.newF a q
            · cases q; exact .inr le.fresh
          · obtain ⟨h1, t1, q⟩ := le.step.quiet hq
            exact ⟨h', t1, by rw [q]⟩
          · have := one a z
            cases ha
            exact le.ne this
          · obtain ⟨_, q⟩ := footR_v ha
            cases q
            exact le.mine
    | [], hm => simp [mE, genP] at hm
    | _ :: _ :: _, hm => simp [mE, genP] at hm
  | _ => simp [mE, genP] at hm
end
end Mini

-- M15
set_option Elab.async false
set_option linter.all false
set_option maxRecDepth 100000
set_option maxHeartbeats 4000000
/-! Mini 15: isinstance with many classes; things given to names; lists of one's own changed. -/
namespace Mini
open PySem PyProof.Rows

section
variable {p : Px} {c : Cf} {g : G} {N : List Str} {k : Nat} {en : PySem.Env} {Z Z1 Z2 Z3 Z' : Heap} {e e1 e2 e3 e' : Env} {σ σ1 σ3 : List (Option Value)} {s s1 s2 s3 s' : Shared} {A : Around} {F F1 F2 : Addr → Prop} {v u : Value} {r : R} {fr : List Addr} {i : Nat} {x : Str} {w : W} {vs : List Value} {rs : List R}

theorem kit_any (ts : List Ty) (d : PyData) (h : ∀ k, d ≠ .dict k) (K : PySem.W.Frag) : PySem.W.kitAny K (clsV d) (ts.map tyV) = some (ts.any fun t => isTy t d) := by
  induction ts with
  | nil => rfl
  | cons t ts ih =>
    rw [List.map_cons, List.any_cons]
    unfold PySem.W.kitAny
    rw [kit_is t d h K]
    cases isTy t d with
    | true => rfl
    | false => simpa using ih
theorem isis_ok {ts : List Ty} {tp : Addr} (I : Inv g N en Z e σ s) (r : Rep Z s.heap v w) (ht : s.heap.get? tp = some (TupO (ts.map tyV) 0)) : WP g A (call (.builtin "isinstance") [v, .ref tp]) (Post g N en σ Z (Foot σ e) s e (.v (.d (.bool (ts.any fun t => isTy t w.data))))) s := by
  have nd : ∀ k, w.data ≠ .dict k := fun k q => by
    have := r.plain
    rw [q] at this
    cases this
  have fin : ∀ tk, Post g N en σ Z (Foot σ e) s e (.v (.d (.bool (ts.any fun t => isTy t w.data)))) (.bool (ts.any fun t => isTy t w.data)) { s with toks := tk } := fun tk => I.here .bool
  have kk := kit_any ts w.data nd g.K
  generalize e1 : w.data = x at kk fin
  cases x with
  | none =>
    obtain rfl := (r.flat e1 (by simp)).none_inv
    exact PySem.W.kia_tup PySem.W.kitx_none I.kIn True.intro ht kk (fun z => nomatch z) fin
  | bool b =>
    obtain rfl := (r.flat e1 (by simp)).bool_inv
    exact PySem.W.kia_tup PySem.W.kitx_bool I.kIn True.intro ht kk (fun z => nomatch z) fin
  | int i =>
    obtain ⟨t, rfl⟩ := (r.flat e1 (by simp)).int_inv
    exact PySem.W.kia_tup PySem.W.kitx_int I.kIn True.intro ht kk (fun z => nomatch z) fin
  | str z =>
    obtain ⟨_, t, rfl⟩ := (r.flat e1 (by simp)).str_inv
    exact PySem.W.kia_tup PySem.W.kitx_str I.kIn True.intro ht kk (fun z => nomatch z) fin
  | list xs =>
    obtain ⟨a, its, n, rfl, h1, l1, f1⟩ := r.list I.sh.zh e1
    exact PySem.W.kia_tup PySem.W.kitx_list I.kIn ⟨_, h1, rfl⟩ ht kk (fun z => nomatch z) fin
  | tuple xs =>
    obtain ⟨a, its, n, rfl, h1, l1, f1⟩ := r.tuple I.sh.zh e1
    exact PySem.W.kia_tup PySem.W.kitx_tuple I.kIn ⟨_, h1, rfl⟩ ht kk (fun z => nomatch z) fin
  | dict k => exact absurd e1 (nd k)
theorem ty_names (rn : Rn p c g k) : ∀ {ts : List Ty} {ys : List Expr} {pos : Pos} {s : Shared}, mTy en.scope ts ys = true → Inv g N en Z e σ s → WP g A (spliced (backTo pos (starEach ys en))) (fun us s' => us = ts.map tyV ∧ s' = s) s
  | [], [], pos, s, h, I => args_nil ⟨rfl, rfl⟩
  | t :: ts, y :: ys, pos, s, h, I => by
    cases y with
    | Name y np =>
      simp only [mTy, Bool.and_eq_true] at h
      have e1 := beq_iff_eq.mp h.1.1
      subst e1
      have ne : (tyName t == ("__debug__" : Str)) = false := by cases t <;> decide
      have nn : tyName t ≠ "__name__" := by cases t <;> decide
      refine args_cons (I.bltin h.1.2 (rn.bn _ (bn_ty t)) (boot_ty t) ?_ nn ne) rfl
      refine wp_mono (ty_names rn h.2 I) fun us s' q => ?_
      obtain ⟨rfl, rfl⟩ := q
      exact ⟨rfl, rfl⟩
    | _ => simp [mTy] at h
  | [], _ :: _, pos, s, h, I => by simp [mTy] at h
  | _ :: _, [], pos, s, h, I => by simp [mTy] at h
theorem se_isis (rn : Rn p c g k) {a : E} {ts : List Ty} (ha : SE p c g N k a) : SE p c g N k (.isis a ts) := by
  intro sc ex A en Z e σ s r e' hr hsc hm I h
  cases ex with
  | Call f l kws pos =>
    cases f with
    | Name x np =>
      match kws, l, hm with
      | [], [ex, .Tuple ys y1 y2], hm =>
        simp only [mE, Bool.and_eq_true] at hm
        obtain ⟨⟨⟨⟨h1, h2⟩, h3⟩, h4⟩, h5⟩ := hm
        simp only [ev, Option.bind_eq_some_iff, Option.map_eq_some_iff, Prod.exists] at h
        obtain ⟨ra, e1, k1, x', dx, h⟩ := h
        cases h
        have ex1 := beq_iff_eq.mp h1
        subst ex1
        subst hsc
        refine wpAny_Call_Name_kw (I.bltin (v := .builtin "isinstance") h2 (rn.bn _ (by simp [biNames])) rfl ?_)
        refine PyProof.Rows.callWith_builtin1 (args_cons (one ha hr rfl h5 I k1 dx fun v Z1 w s1 st I1 ew r1 => ?_) (no_star h5 _ _)) (no_star h5 _ _) rfl
        refine args_cons (wpAny_Tuple_spliced (wp_mono (ty_names rn h4 I1) fun us s2 q => ?_)) rfl
        obtain ⟨rfl, rfl⟩ := q
        have k0 : Ext s2.heap (s2.heap.push (TupO (ts.map tyV) 0)) := fun b o q => Heap.get?_push_of_some _ q
        refine ⟨by rw [List.length_map, sizeLine_is]; have := of_decide_eq_true h3; omega, args_nil ?_⟩
        subst ew
        have I2 := I1.grow (t' := s2.toks) k0
        refine wp_mono (isis_ok I2 (r1.keep (fun _ _ q => q) fun _ _ _ _ o q => k0 _ o q) (Heap.get?_push_size _ rfl)) fun _ _ q => q.weak (st.trans (Step.grow (t' := s2.toks) k0)) fun _ z => z
      | [], [], hm => simp [mE, genP] at hm
      | [], [_], hm => simp [mE, genP] at hm
      | [], _ :: _ :: _ :: _, hm => simp [mE, genP] at hm
      | _ :: _, _, hm => simp [mE, genP] at hm
    | _ => simp [mE, genP] at hm
  | _ => simp [mE, genP] at hm

/-! ### things given to names -/
/-- a thing, a list of one's own too, is given to a name -/
theorem Inv.putW (I : Inv g N en Z e σ s) (hN : mN N i x = true) (hl : loc en.scope x = true) (hf : adr en x ∈ fr) (rr : RepR g en Z s.heap σ e v (.v w)) :
    WP g A (storeName en x v) (fun _ s' => Inv g N en Z (e.set i (some w)) (σ.set i (some v)) s' ∧ Step g fr Z (fun a => Foot σ e a ∨ FootR v (.v w) a) s Z (Foot (σ.set i (some v)) (e.set i (some w))) s') s := by
  have hi : i < N.length := (List.getElem?_eq_some_iff.mp (name_at hN)).1
  cases w with
  | d d => exact wp_mono (I.putD hN hl hf rr.1) fun _ s' q => ⟨q.1, q.2.more fun a z => .inl z⟩
  | own xs =>
    obtain ⟨a, its, n, rfl, h1, h2, h3⟩ := rr.1
    obtain ⟨m, nf⟩ := rr.2 a ⟨xs, rfl, rfl⟩
    have hfr : adr en x ∈ frm en := adr_frm I (by simpa [loc, PySem.Env.kindOf, Bool.or_eq_true, beq_iff_eq] using hl)
    refine wp_mono (I.put (F := Foot σ e) (fr := [adr en x]) hN hl List.mem_cons_self) fun _ s' q => ?_
    obtain ⟨I', st⟩ := q
    have sl := sig_self (σ := σ) (i := i) (o := some (Value.ref a)) (by rw [I.len]; exact hi)
    have ha' : s'.heap.get? a = some (LstO its n) := st.keep a _ h1 nf (fun z => m.2.1 (by simp at z; rw [z]; exact hfr)) m.2.2
    have I2 := I'.claimOwn (i := i) (xs := xs) sl ⟨a, its, n, rfl, ha', h2, h3⟩ m (fun z => nf (foot_put (by rw [I.elen]; exact hi) z))
    rw [List.set_set] at I2
    refine ⟨I2, ?_⟩
    have st' := st.frame (fr' := fr) fun b hb => by simp at hb; rw [hb]; exact hf
    refine ⟨st'.zz, fun b o q n1 n2 n3 => st'.keep b o q (fun z => n1 (.inl z)) n2 n3, st'.there, fun b q => ?_, fun b o q => (st'.newZ b o q).imp_right fun z => z.imp_left .inl, st'.os, st'.quiet⟩
    have := foot_own (e := e.set i none) (i := i) (xs := xs) sl (by rw [List.set_set]; exact q)
    rcases this with z | rfl
    · exact .inl (.inl (foot_put (by rw [I.elen]; exact hi) z))
    · exact .inl (.inr ⟨xs, rfl, rfl⟩)
/-- what giveW says of a place -/
theorem giveW_pl {j : Nat} (h : giveW e (.pl j) = some w) : ∃ w0, get e j = some w0 ∧ w = .d w0.data := by
  unfold giveW at h
  rw [Option.map_eq_some_iff] at h
  obtain ⟨w0, q, rfl⟩ := h
  exact ⟨w0, q, rfl⟩
theorem giveW_frz {j : Nat} (r : R) : giveW (frz e j) r = giveW e r := by
  cases r with
  | v w => rfl
  | pl m =>
    have := frz_data (e := e) (i := j) (j := m)
    show (get (frz e j) m).map (fun w => W.d w.data) = (get e m).map fun w => W.d w.data
    have q := congrArg (Option.map W.d) this
    rw [Option.map_map, Option.map_map] at q
    exact q
theorem repA_no {us : List Value} {l : List R} (ra : RepA g en Z s.heap σ e us l) : ∀ q ∈ us.zip l, ∀ b, FootR q.1 q.2 b → ¬ Foot σ e b := by
  induction ra with
  | nil => intro q hq; simp at hq
  | @cons v r vs rs a1 a2 a3 ih =>
    intro q hq b hb
    rcases List.mem_cons.mp hq with rfl | hq
    · cases r with
      | pl i => obtain ⟨_, z, _⟩ := hb; cases z
      | v w => exact (a1.2 b hb).2
    · exact ih q hq b hb
/-- places become things -/
theorem Inv.give : ∀ {rs : List R} {vs : List Value} {ws : List W} {e : Env} {Z : Heap}, Inv g N en Z e σ s → RepA g en Z s.heap σ e vs rs → rs.mapM (giveW e) = some ws →
    ∃ Z', Step g [] Z (fun a => Foot σ e a ∨ FootA vs rs a) s Z' (fun a => Foot σ (frzs e rs) a ∨ FootA vs (ws.map .v) a) s ∧ Inv g N en Z' (frzs e rs) σ s ∧ RepA g en Z' s.heap σ (frzs e rs) vs (ws.map .v) := by
  intro rs
  induction rs with
  | nil =>
    intro vs ws e Z I ra hw
    cases ra
    simp at hw
    subst hw
    exact ⟨Z, Step.refl, I, .nil⟩
  | cons r rs ih =>
    intro vs ws e Z I ra hw
    simp only [List.mapM_cons, Option.bind_eq_bind, Option.bind_eq_some_iff, Option.pure_def, Option.some.injEq] at hw
    obtain ⟨w, hw1, ws', hw2, rfl⟩ := hw
    cases ra with
    | @cons v _ vs' _ h1 h2 h3 =>
      -- what the rest leaves of the head
      have fin : ∀ {e1 : Env} {Z1 : Heap}, frzs e (r :: rs) = frzs e1 rs → Inv g N en Z1 e1 σ s → RepA g en Z1 s.heap σ e1 vs' rs → rs.mapM (giveW e1) = some ws' → RepR g en Z1 s.heap σ e1 v (.v w) → (∀ a, FootR v (.v w) a → ∀ q ∈ vs'.zip rs, ¬ FootR q.1 q.2 a) → Step g [] Z (fun a => Foot σ e a ∨ FootA (v :: vs') (r :: rs) a) s Z1 (fun a => Foot σ e1 a ∨ FootA (v :: vs') (.v w :: rs) a) s →
          ∃ Z', Step g [] Z (fun a => Foot σ e a ∨ FootA (v :: vs') (r :: rs) a) s Z' (fun a => Foot σ (frzs e (r :: rs)) a ∨ FootA (v :: vs') ((w :: ws').map .v) a) s ∧ Inv g N en Z' (frzs e (r :: rs)) σ s ∧ RepA g en Z' s.heap σ (frzs e (r :: rs)) (v :: vs') ((w :: ws').map .v) := by
        intro e1 Z1 ee I1 ra1 hw' rr dis st1
        obtain ⟨Z', st, I', ra'⟩ := ih I1 ra1 hw'
        rw [ee]
        have key : ∀ a, FootR v (.v w) a → ¬ (Foot σ e1 a ∨ FootA vs' rs a) := fun a ha q => by
          rcases q with q | ⟨q, hq, hf⟩
          · exact (rr.2 a ha).2 q
          · exact dis a ha q hq hf
        have stands : ∀ a, FootR v (.v w) a → ∃ o, s.heap.get? a = some o := fun a ha => by
          obtain ⟨⟨xs, rfl⟩, q⟩ := footR_v ha
          exact rr.1.stands q
        have away : ∀ a, FootR v (.v w) a → ¬ (Foot σ (frzs e1 rs) a ∨ FootA vs' (ws'.map .v) a) := fun a ha => by
          obtain ⟨o, ho⟩ := stands a ha
          exact st.away ho (key a ha)
        refine ⟨Z', st1.trans ⟨st.zz, fun a o q n1 n2 n3 => st.keep a o q (fun z => n1 (z.imp_right fun z => footA_cons.mpr (.inr z))) n2 n3, st.there, fun a q => ?_, fun a o q => (st.newZ a o q).imp_right fun z => z.imp_left fun z => z.imp_right fun z => footA_cons.mpr (.inr z), st.os, st.quiet⟩, I', .cons ⟨rr.1.keep st.zz fun _ _ _ _ _ q => q, fun a ha => ?_⟩ ra' fun a ha q hq hf => away a ha (.inr ⟨q, hq, hf⟩)⟩
        · rcases q with q | q
          · exact (st.newF a (.inl q)).imp_left fun z => z.imp_right fun z => footA_cons.mpr (.inr z)
          · rcases footA_cons.mp q with z | z
            · exact .inl (.inr (footA_cons.mpr (.inl z)))
            · exact (st.newF a (.inr z)).imp_left fun z => z.imp_right fun z => footA_cons.mpr (.inr z)
        · obtain ⟨⟨m1, m2, m3⟩, m4⟩ := rr.2 a ha
          obtain ⟨o, ho⟩ := stands a ha
          exact ⟨⟨st.noZ ho (key a ha) m1, m2, m3⟩, fun z => away a ha (.inl z)⟩
      cases r with
      | v w0 =>
        cases hw1
        exact fin (e1 := e) rfl I h2 hw2 h1 h3 Step.refl
      | pl i =>
        obtain ⟨w0, hg, rfl⟩ := giveW_pl hw1
        have noR : ∀ a, ¬ FootR v (.v (.d w0.data)) a := fun a ⟨_, q, _⟩ => by cases q
        cases w0 with
        | d d =>
          obtain ⟨v', q1, q2⟩ := I.rep i _ hg
          rw [show σ[i]? = some (some v) from h1] at q1
          cases q1
          refine fin (e1 := e) (by simp only [frzs, frz_d hg]) I h2 hw2 ⟨q2, fun a ha => absurd ha (noR a)⟩ (fun a ha => absurd ha (noR a)) (Step.refl.less fun a q => q.imp_right fun z => ?_)
          rcases footA_cons.mp z with z | z
          · exact absurd z (noR a)
          · exact footA_cons.mpr (.inr z)
        | own xs =>
          obtain ⟨Z1, st1, I1, f1, bk⟩ := I.freeze1 hg (show σ[i]? = some (some v) from h1)
          have ra1 : RepA g en Z1 s.heap σ (frz e i) vs' rs := h2.zs st1.zz (fun b o q => (bk b o q).imp_right fun fb q' hq' hf => repA_no h2 q' hq' b hf fb) fun a q => by rw [frz_own hg] at q; exact foot_set (fun ys z => by cases z) q
          refine fin (e1 := frz e i) (by simp only [frzs]) I1 ra1 (by rw [← hw2]; exact congrArg (fun f => rs.mapM f) (funext fun r => giveW_frz r)) ⟨f1, fun a ha => absurd ha (noR a)⟩ (fun a ha => absurd ha (noR a)) ?_
          refine ⟨st1.zz, fun _ _ q _ _ _ => q, fun _ o q => ⟨o, q⟩, fun b q => ?_, fun b o q => (st1.newZ b o q).imp_right fun z => z.imp_left .inl, rfl, st1.quiet⟩
          rcases q with q | q
          · exact (st1.newF b q).imp_left .inl
          · rcases footA_cons.mp q with z | z
            · exact absurd z (noR b)
            · exact .inl (.inr (footA_cons.mpr (.inr z)))
/-- a list of one's own changes -/
theorem Inv.upd (I : Inv g N en Z e σ s) {xs ys : List PyData} {a : Addr} {its : List Value} {n t' : Nat} {h' : Heap} (hg : get e i = some (.own xs)) (hs : σ[i]? = some (some (.ref a))) (sb : ∀ b o, b ≠ a → s.heap.get? b = some o → h'.get? b = some o) (ha : h'.get? a = some (LstO its n)) (hl : its.length ≤ sizeLine) (f : FzA Z ys its) :
    Inv g N en Z (e.set i (some (.own ys))) σ { s with heap := h', toks := t' } ∧ Step g fr Z (Foot σ e) s Z (Foot σ (e.set i (some (.own ys)))) { s with heap := h', toks := t' } := by
  have fa : Foot σ e a := ⟨i, xs, hg, hs⟩
  obtain ⟨m1, m2, m3⟩ := I.mine a fa
  have fo : ∀ b, Foot σ (e.set i (some (.own ys))) b → Foot σ e b := fun b h => by
    rcases foot_own hs h with q | rfl
    · exact q
    · exact fa
  have sg : ∀ (j : Nat) (w : W), get (e.set i (some (.own ys))) j = some w → (j = i ∧ w = .own ys) ∨ (j ≠ i ∧ get e j = some w) := fun j w h => by
    rw [get_set] at h
    split at h
    · rename_i q
      cases h
      exact .inl ⟨q.1.symm, rfl⟩
    · rename_i q
      exact .inr ⟨fun z => q ⟨z.symm, get_lt hg⟩, h⟩
  refine ⟨⟨I.ok, ⟨fun b o q => sb b o (fun z => by rw [z, m1] at q; cases q) (I.sh.zh b o q), I.sh.bz, I.sh.tz, fun q hq => let ⟨ps, z1, z2⟩ := I.sh.th q hq; ⟨ps, sb _ _ (fun z => m3 q hq z.symm) z1, z2⟩, I.sh.bare⟩, I.fm, I.fz, fun b hb => let ⟨o, q⟩ := I.fl b hb; ⟨o, sb b o (fun z => m2 (z ▸ hb)) q⟩, I.sees.keep fun b hb o q => sb b o (fun z => m2 (z ▸ hb)) q, I.len, (by rw [List.length_set]; exact I.elen), fun j w h => ?_, fun j m zs ws b h1 h2 h3 h4 => ?_, fun b hb => I.mine b (fo b hb)⟩,
    ⟨fun _ _ q => q, fun b o q n1 n2 n3 => sb b o (fun z => n1 (z ▸ fa)) q, fun b o q => (Classical.em (b = a)).elim (fun z => ⟨_, z ▸ ha⟩) fun z => ⟨o, sb b o z q⟩, fun b q => .inl (fo b q), fun b o q => .inl q, rfl, fun _ => ⟨_, _, rfl⟩⟩⟩
  · rcases sg j w h with ⟨rfl, rfl⟩ | ⟨n1, q⟩
    · exact ⟨_, hs, a, its, n, rfl, ha, hl, f⟩
    · obtain ⟨v, q1, q2⟩ := I.rep j w q
      refine ⟨v, q1, q2.keep (fun _ _ z => z) fun zs b hw hv o ho => sb b o (fun z => ?_) ho⟩
      subst hw hv z
      exact n1 (I.inj j i zs xs b q hg q1 hs)
  · have back : ∀ (j : Nat) (zs : List PyData), get (e.set i (some (.own ys))) j = some (.own zs) → ∃ zs', get e j = some (.own zs') := fun j zs h => by
      rcases sg j _ h with ⟨rfl, _⟩ | ⟨_, q⟩
      · exact ⟨xs, hg⟩
      · exact ⟨zs, q⟩
    obtain ⟨zs', q1⟩ := back j zs h1
    obtain ⟨ws', q2⟩ := back m ws h2
    exact I.inj j m zs' ws' b q1 q2 h3 h4
end
end Mini

-- M16
set_option Elab.async false
set_option linter.all false
set_option maxRecDepth 100000
set_option maxHeartbeats 4000000
/-! Mini 16: which text a statement is; what a statement leaves. -/
namespace Mini
open PySem PyProof.Rows

/-- the order of the stores of a pair's things, where the machine has one of its own -/
def isStar : Expr → Bool
  | .Starred _ _ => true
  | _ => false
def nameOn (sc : Scope) (line : Nat) : Expr → Option Str
  | .Name id pos => if sc.names.lookup id == some .local && pos.line == line then some id else none
  | _ => none
def namesOn (sc : Scope) (ts : List Expr) : List Str := ts.filterMap (nameOn sc ((ts.head?.map (·.pos.line)).getD 0))
def parSw (sc : Scope) (ts vs : List Expr) : Option (Option (List Str)) :=
  if (!(ts.length == 2 || ts.length == 3) || vs.length != ts.length) then some none
  else if vs.any isStar then some none
  else if (namesOn sc ts).length != ts.length || (namesOn sc ts).eraseDups.length != (namesOn sc ts).length then some none
  else if vs.all (foldedForSure 8) then some none
  else if vs.all (constantsAlone 8) then none
  else some (some (namesOn sc ts))
def notTup : Expr → Bool
  | .Tuple _ _ _ => false
  | _ => true
def isCallX : Expr → Bool
  | .Call _ _ _ _ => true
  | _ => false
mutual
def mSt (p : Px) (N : List Str) (sc : Scope) : S → Stmt → Bool
  | .pass, .Pass _ => true
  | .asg i x, .Assign [.Name y _] v _ => mN N i y && loc sc y && okName y && mE p N sc x v
  | .unp is x, .Assign [.Tuple ts _ _] v _ => mTs N sc is ts && mE p N sc x v && notTup v
  | .par is es, .Assign [.Tuple ts _ _] (.Tuple vs _ _) _ => mTs N sc is ts && mA p N sc es vs && szOk vs.length && (match parSw sc ts vs with
    | none => false
    | some none => true
    | some (some names) => (is.map fun i => N[i]?) == names.map some)
  | .sset i ix x, .Assign [.Subscript (.Name y _) ie _] v _ => mN N i y && vis sc y && okName y && mE p N sc ix ie && mE p N sc x v
  | .app i x, .Expr (.Call (.Attribute (.Name y _) a apos) [v] [] cpos) _ => a == ("append" : Str) && mN N i y && vis sc y && okName y && mE p N sc x v && apos.endLine == cpos.line
  | .ex x, .Expr v _ => mE p N sc x v && isCallX v
  | .ite t a b, .If c x y _ => mE p N sc t c && mBs p N sc a x && mBs p N sc b y
  | .for it tg one b, .For target iter body [] _ => !(one && isEnum it) && mI p N sc it iter && noSet iter && mTg N sc tg one target && mBs p N sc b body
  | .whl t b, .While c body [] _ => mE p N sc t c && mBs p N sc b body
  | .ret x, .Return (some v) _ => mE p N sc x v
  | .retn, .Return none _ => true
  | .brk, .Break _ => true
  | .cnt, .Continue _ => true
  | .bad, _ => true
  | _, _ => false
def mBs (p : Px) (N : List Str) (sc : Scope) : S → List Stmt → Bool
  | .pass, [] => true
  | .seq a b, st :: rest => mSt p N sc a st && mBs p N sc b rest
  | _, _ => false
end

/-- what goes on behind a statement -/
def PostS (g : G) (N : List Str) (en : PySem.Env) (σ0 : List (Option Value)) (st : List Nat) (Z : Heap) (F : Addr → Prop) (s : Shared) (e' : Env) (s' : Shared) : Prop :=
  ∃ Z' σ', Step g (frm en) Z F s Z' (Foot σ' e') s' ∧ Inv g N en Z' e' σ' s' ∧ ∀ j, j ∉ st → σ'[j]? = σ0[j]?
def PostR (g : G) (N : List Str) (en : PySem.Env) (σ0 : List (Option Value)) (st : List Nat) (Z : Heap) (F : Addr → Prop) (s : Shared) (w : W) (e' : Env) (v : Value) (s' : Shared) : Prop :=
  ∃ Z' σ', Step g (frm en) Z F s Z' (fun a => Foot σ' e' a ∨ FootR v (.v w) a) s' ∧ Inv g N en Z' e' σ' s' ∧ RepR g en Z' s'.heap σ' e' v (.v w) ∧ ∀ j, j ∉ st → σ'[j]? = σ0[j]?
def PostO (g : G) (N : List Str) (en : PySem.Env) (σ0 : List (Option Value)) (st : List Nat) (Z : Heap) (F : Addr → Prop) (s : Shared) : Out → Flow → Shared → Prop
  | .nx e', f, s' => f = .next ∧ PostS g N en σ0 st Z F s e' s'
  | .bk e', f, s' => f = .brk ∧ PostS g N en σ0 st Z F s e' s'
  | .ct e', f, s' => f = .cont ∧ PostS g N en σ0 st Z F s e' s'
  | .rt w e', f, s' => ∃ v, f = .ret v ∧ PostR g N en σ0 st Z F s w e' v s'
section
variable (p : Px) (c : Cf) (g : G) (N : List Str) (k : Nat)
def SS1 (b : S) : Prop := ∀ (sc : Scope) (st : Stmt) (A : Around) (en : PySem.Env) (Z : Heap) (e : Env) (σ : List (Option Value)) (s : Shared) (o : Out),
  L2.Room k A → en.scope = sc → mSt p N sc b st = true → Inv g N en Z e σ s → run c b e = some o → WP g A (exec st en) (PostO g N en σ (stored b) Z (Foot σ e) s o) s
def SSB (b : S) : Prop := ∀ (sc : Scope) (body : List Stmt) (A : Around) (en : PySem.Env) (Z : Heap) (e : Env) (σ : List (Option Value)) (s : Shared) (o : Out),
  L2.Room k A → en.scope = sc → mBs p N sc b body = true → Inv g N en Z e σ s → run c b e = some o → WP g A (execs body en) (PostO g N en σ (stored b) Z (Foot σ e) s o) s
end
section
variable {p : Px} {c : Cf} {g : G} {N : List Str} {k : Nat} {en : PySem.Env} {Z Z1 Z2 Z3 Z' : Heap} {e e1 e2 e3 e' : Env} {σ σ0 σ1 σ3 : List (Option Value)} {s s1 s2 s3 s' : Shared} {A : Around} {F F1 F2 : Addr → Prop} {v u : Value} {r : R} {fr : List Addr} {i : Nat} {x : Str} {w : W} {vs : List Value} {rs : List R} {st st1 st2 : List Nat} {o : Out} {f : Flow}

theorem PostO.after {F1 : Addr → Prop} (q : PostO g N en σ1 st1 Z1 (Foot σ1 e1) s1 o f s') (a : Step g (frm en) Z F s Z1 F1 s1) (hF : ∀ x, Foot σ1 e1 x → F1 x) (so : ∀ j, j ∉ st → σ1[j]? = σ0[j]?) (hs : ∀ j, j ∈ st1 → j ∈ st) : PostO g N en σ0 st Z F s o f s' := by
  have a' := a.less hF
  cases o with
  | nx e' => obtain ⟨q0, Z', σ', b1, b2, b3⟩ := q; exact ⟨q0, Z', σ', a'.trans b1, b2, fun j hj => (b3 j fun z => hj (hs j z)).trans (so j hj)⟩
  | bk e' => obtain ⟨q0, Z', σ', b1, b2, b3⟩ := q; exact ⟨q0, Z', σ', a'.trans b1, b2, fun j hj => (b3 j fun z => hj (hs j z)).trans (so j hj)⟩
  | ct e' => obtain ⟨q0, Z', σ', b1, b2, b3⟩ := q; exact ⟨q0, Z', σ', a'.trans b1, b2, fun j hj => (b3 j fun z => hj (hs j z)).trans (so j hj)⟩
  | rt w e' => obtain ⟨v, q0, Z', σ', b1, b2, b3, b4⟩ := q; exact ⟨v, q0, Z', σ', a'.trans b1, b2, b3, fun j hj => (b4 j fun z => hj (hs j z)).trans (so j hj)⟩
theorem Step.wide (a : Step g [] Z F s Z1 F1 s1) : Step g (frm en) Z F s Z1 F1 s1 := a.frame (by simp)
theorem nx_of (h : PostS g N en σ0 st Z F s e' s') : PostO g N en σ0 st Z F s (.nx e') .next s' := ⟨rfl, h⟩

/-! ### single statements -/
theorem ss_pass : SS1 p c g N k .pass := by
  intro sc stm A en Z e σ s o hr hsc hm I h
  simp only [run] at h
  cases h
  cases stm with
  | Pass pos => exact wpAny_Pass (nx_of ⟨Z, σ, Step.refl, I, fun _ _ => rfl⟩)
  | _ => simp [mSt] at hm
theorem ss_brk : SS1 p c g N k .brk := by
  intro sc stm A en Z e σ s o hr hsc hm I h
  simp only [run] at h
  cases h
  cases stm with
  | Break pos => exact wpAny_Break ⟨rfl, Z, σ, Step.refl, I, fun _ _ => rfl⟩
  | _ => simp [mSt] at hm
theorem ss_cnt : SS1 p c g N k .cnt := by
  intro sc stm A en Z e σ s o hr hsc hm I h
  simp only [run] at h
  cases h
  cases stm with
  | Continue pos => exact wpAny_Continue ⟨rfl, Z, σ, Step.refl, I, fun _ _ => rfl⟩
  | _ => simp [mSt] at hm
theorem ss_bad : SS1 p c g N k .bad := by
  intro sc stm A en Z e σ s o hr hsc hm I h
  simp [run] at h
theorem ss_retn : SS1 p c g N k .retn := by
  intro sc stm A en Z e σ s o hr hsc hm I h
  simp only [run] at h
  cases h
  cases stm with
  | Return v pos =>
    cases v with
    | none =>
      refine wpAny_Return_none ⟨.none, rfl, Z, σ, Step.refl.less fun a q => ?_, I, ⟨Fz.none (Z := Z), fun a ha => ?_⟩, fun _ _ => rfl⟩
      · rcases q with q | ⟨_, q, _⟩
        · exact q
        · cases q
      · obtain ⟨_, q, _⟩ := ha; cases q
    | some v => simp [mSt] at hm
  | _ => simp [mSt] at hm
theorem ss_ret {x : E} (hx : SE p c g N k x) : SS1 p c g N k (.ret x) := by
  intro sc stm A en Z e σ s o hr hsc hm I h
  simp only [run, Option.bind_eq_some_iff, Prod.exists] at h
  obtain ⟨r, e1, k1, h⟩ := h
  cases stm with
  | Return v pos =>
    cases v with
    | none => simp [mSt] at hm
    | some ex =>
      simp only [mSt] at hm
      refine wpAny_Return_some (wp_mono (hx sc ex A en Z e σ s r e1 hr hsc hm I k1) fun v s1 q => ?_)
      obtain ⟨Z1, st, I1, rr⟩ := q
      cases r with
      | v w =>
        cases h
        exact ⟨v, rfl, Z1, σ, st.wide, I1, rr, fun _ _ => rfl⟩
      | pl i =>
        simp only [Option.map_eq_some_iff] at h
        obtain ⟨w, hw, h⟩ := h
        cases h
        obtain ⟨v', hv', rp⟩ := I1.rep i w hw
        rw [show σ[i]? = some (some v) from rr] at hv'
        cases hv'
        have st' := (st.less (F2 := Foot σ e1) fun _ z => .inl z).wide (en := en)
        cases w with
        | d d =>
          have es : ∀ j, get (e1.set i (some (.d d))) j = get e1 j := fun j => by
            rw [get_set]
            split
            · rename_i q; rw [← q.1, hw]
            · rfl
          refine ⟨v, rfl, Z1, σ, st'.less fun a q => ?_, I1.lay (by simp) fun j w q => by rw [es] at q; exact .inl q, ⟨rp, fun a ha => ?_⟩, fun _ _ => rfl⟩
          · rcases q with ⟨j, xs, q1, q2⟩ | ⟨_, q, _⟩
            · rw [es] at q1; exact ⟨j, xs, q1, q2⟩
            · cases q
          · obtain ⟨_, q, _⟩ := ha; cases q
        | own xs =>
          obtain ⟨a, its, n, rfl, g1, g2, g3⟩ := rp
          have fa : Foot σ e1 a := ⟨i, xs, hw, rr⟩
          refine ⟨.ref a, rfl, Z1, σ, st'.less fun b q => ?_, I1.drop i, ⟨⟨a, its, n, rfl, g1, g2, g3⟩, fun b hb => ?_⟩, fun _ _ => rfl⟩
          · rcases q with q | ⟨_, _, q⟩
            · exact foot_set (fun ys z => by cases z) q
            · cases q; exact fa
          · obtain ⟨_, q⟩ := footR_v hb
            cases q
            refine ⟨I1.mine a fa, fun ⟨j, ys, q1, q2⟩ => ?_⟩
            rw [get_set] at q1
            split at q1
            · cases q1
            · rename_i ne
              exact ne ⟨I1.inj i j xs ys a hw q1 rr q2, get_lt hw⟩
  | _ => simp [mSt] at hm
theorem ss_ex {x : E} (hx : SE p c g N k x) : SS1 p c g N k (.ex x) := by
  intro sc stm A en Z e σ s o hr hsc hm I h
  simp only [run, Option.bind_eq_some_iff, Prod.exists] at h
  obtain ⟨r, e1, k1, h⟩ := h
  split at h
  · cases h
    cases stm with
    | Expr ex pos =>
      simp only [mSt, Bool.and_eq_true] at hm
      have hi : interactive en = false := by unfold interactive; rw [I.fm.kind]; rfl
      have hs : swapsWith ex none pos.line en = pure false := by
        have := hm.2
        cases ex <;> simp [isCallX] at this
        rfl
      refine wpAny_Expr (wp_mono (hx sc ex A en Z e σ s _ e1 hr hsc hm.1 I k1) fun v s1 q => ?_) hi hs
      obtain ⟨Z1, st, I1, rr⟩ := q
      have : v = .none := Fz.none_inv (Z := Z1) rr.1
      subst this
      exact nx_of ⟨Z1, σ, (st.less fun _ z => .inl z).wide, I1, fun _ _ => rfl⟩
    | _ => simp [mSt] at hm
  · cases h
theorem ss_ite {t : E} {a b : S} (ht : ST p c g N k t) (ha : SSB p c g N k a) (hb : SSB p c g N k b) : SS1 p c g N k (.ite t a b) := by
  intro sc stm A en Z e σ s o hr hsc hm I h
  simp only [run, Option.bind_eq_some_iff, Prod.exists] at h
  obtain ⟨t', e1, k1, h⟩ := h
  cases stm with
  | If q xs ys pos =>
    simp only [mSt, Bool.and_eq_true] at hm
    refine wpAny_If (wp_mono (ht sc q A en Z e σ s t' e1 hr hsc hm.1.1 I k1) fun b' s1 q => ?_)
    obtain ⟨rfl, Z1, st, I1⟩ := q
    cases b' with
    | true =>
      simp only [if_true] at h ⊢
      exact wp_mono (ha sc xs A en Z1 e1 σ s1 o hr hsc hm.1.2 I1 h) fun _ _ q => q.after st.wide (fun _ z => z) (fun _ _ => rfl) fun j hj => List.mem_append_left _ hj
    | false =>
      simp only [Bool.false_eq_true, if_false] at h ⊢
      exact wp_mono (hb sc ys A en Z1 e1 σ s1 o hr hsc hm.2 I1 h) fun _ _ q => q.after st.wide (fun _ z => z) (fun _ _ => rfl) fun j hj => List.mem_append_right _ hj
  | _ => simp [mSt] at hm
/-! ### blocks -/
theorem sb_pass : SSB p c g N k .pass := by
  intro sc body A en Z e σ s o hr hsc hm I h
  simp only [run] at h
  cases h
  cases body with
  | nil => exact wpAny_execs_nil (nx_of ⟨Z, σ, Step.refl, I, fun _ _ => rfl⟩)
  | cons _ _ => simp [mBs] at hm
theorem sb_seq {a b : S} (ha : SS1 p c g N k a) (hb : SSB p c g N k b) : SSB p c g N k (.seq a b) := by
  intro sc body A en Z e σ s o hr hsc hm I h
  simp only [run, Option.bind_eq_some_iff] at h
  obtain ⟨o1, k1, h⟩ := h
  cases body with
  | nil => simp [mBs] at hm
  | cons stm rest =>
    simp only [mBs, Bool.and_eq_true] at hm
    refine wpAny_execs_cons (wp_mono (ha sc stm A en Z e σ s o1 hr hsc hm.1 I k1) fun f s1 q => ?_)
    have hl : ∀ j, j ∈ stored a → j ∈ stored (.seq a b) := fun j hj => List.mem_append_left _ hj
    cases o1 with
    | nx e1 =>
      obtain ⟨rfl, Z1, σ1, st, I1, so⟩ := q
      exact wp_mono (hb sc rest A en Z1 e1 σ1 s1 o hr hsc hm.2 I1 h) fun _ _ q => q.after st (fun _ z => z) (fun j hj => so j fun z => hj (hl j z)) fun j hj => List.mem_append_right _ hj
    | bk e1 =>
      obtain ⟨rfl, Z1, σ1, st, I1, so⟩ := q
      cases h
      exact ⟨rfl, Z1, σ1, st, I1, fun j hj => so j fun z => hj (hl j z)⟩
    | ct e1 =>
      obtain ⟨rfl, Z1, σ1, st, I1, so⟩ := q
      cases h
      exact ⟨rfl, Z1, σ1, st, I1, fun j hj => so j fun z => hj (hl j z)⟩
    | rt w e1 =>
      obtain ⟨v, rfl, Z1, σ1, st, I1, rr, so⟩ := q
      cases h
      exact ⟨v, rfl, Z1, σ1, st, I1, rr, fun j hj => so j fun z => hj (hl j z)⟩

/-! ### stores -/
theorem sw_name {v : Expr} {y : Str} {yp : Pos} {line : Nat} : (∃ b, swapsWith v (some (.Name y yp)) line en = pure b) ∧ ((∀ elt gens scope pos, v ≠ .ListComp elt gens scope pos) → (∀ x, mE p N en.scope x v = false) ∨ swapsWith v (some (.Name y yp)) line en = pure false) := by
  refine ⟨?_, fun h => ?_⟩
  · cases v <;> exact ⟨_, rfl⟩
  · cases v <;> first | exact .inr rfl | (exact absurd rfl (h _ _ _ _)) | (left; intro x; cases x <;> simp [mE, genP])
theorem sw_tup {v : Expr} {ts : List Expr} {kk : Nat} {tp : Pos} {line : Nat} : swapsWithSole [.Tuple ts kk tp] v line en = pure false := by
  cases v <;> rfl
theorem sw_sub {v o i : Expr} {tp : Pos} {line : Nat} : swapsWith v (some (.Subscript o i tp)) line en = pure false := by
  cases v <;> rfl
/-- the place of a thing that is given away is kept as it is -/
theorem Inv.give1 (I : Inv g N en Z e σ s) (rr : RepR g en Z s.heap σ e v r) (hw : giveW e r = some w) : ∃ Z', Step g [] Z (fun a => Foot σ e a ∨ FootR v r a) s Z' (fun a => Foot σ (frzs e [r]) a ∨ FootR v (.v w) a) s ∧ Inv g N en Z' (frzs e [r]) σ s ∧ RepR g en Z' s.heap σ (frzs e [r]) v (.v w) := by
  obtain ⟨Z', st, I', ra⟩ := I.give (rs := [r]) (vs := [v]) (ws := [w]) (.cons rr .nil fun a _ q hq => by simp at hq) (by simp [hw])
  refine ⟨Z', ?_, I', ?_⟩
  · have one : ∀ {v : Value} {r : R} {a : Addr}, FootA [v] [r] a ↔ FootR v r a := fun {v r a} => by
      rw [footA_cons]
      constructor
      · rintro (z | ⟨_, z, _⟩)
        · exact z
        · simp at z
      · exact .inl
    exact (st.more fun a q => q.imp_right fun z => one.mp z).less fun a q => q.imp_right fun z => one.mpr z
  · cases ra with
    | cons a _ _ => exact a
end
end Mini

-- M17
set_option Elab.async false
set_option linter.all false
set_option maxRecDepth 100000
set_option maxHeartbeats 4000000
/-! Mini 17: statements that store. -/
namespace Mini
open PySem PyProof.Rows

section
variable {p : Px} {c : Cf} {g : G} {N : List Str} {k : Nat} {en : PySem.Env} {Z Z1 Z2 Z3 Z' : Heap} {e e1 e2 e3 e' : Env} {σ σ0 σ1 σ3 : List (Option Value)} {s s1 s2 s3 s' : Shared} {A : Around} {F F1 F2 : Addr → Prop} {v u : Value} {r : R} {fr : List Addr} {i : Nat} {x : Str} {w : W} {vs : List Value} {rs : List R} {st st1 st2 : List Nat} {o : Out} {f : Flow}

theorem loc_frm (I : Inv g N en Z e σ s) (h : loc en.scope x = true) : adr en x ∈ frm en := adr_frm I (by simpa [loc, PySem.Env.kindOf, Bool.or_eq_true, beq_iff_eq] using h)
/-- the name's own store, its thing at hand -/
theorem asg_end (I : Inv g N en Z1 e1 σ s1) (st : Step g [] Z F s Z1 (fun a => Foot σ e1 a ∨ FootR v r a) s1) (rr : RepR g en Z1 s1.heap σ e1 v r) (hw : giveW e1 r = some w) (hN : mN N i x = true) (hl : loc en.scope x = true) :
    WP g A (storeName en x v) (fun _ s' => PostS g N en σ [i] Z F s ((frzs e1 [r]).set i (some w)) s') s1 := by
  obtain ⟨Z2, st2, I2, rr2⟩ := I.give1 rr hw
  refine wp_mono (I2.putW (fr := frm en) hN hl (loc_frm I2 hl) rr2) fun _ s' q => ?_
  obtain ⟨I3, st3⟩ := q
  refine ⟨Z2, _, (st.trans st2).wide.trans st3, I3, fun j hj => ?_⟩
  simp at hj
  rw [List.getElem?_set_ne (Ne.symm hj)]
theorem ss_asg {a : E} (ha : SE p c g N k a) (hlc : ∀ it tg one t el, a = .lc it tg one t el → SI p c g N k it ∧ ST p c g N k t ∧ SE p c g N k el) : SS1 p c g N k (.asg i a) := by
  intro sc stm A en Z e σ s o hr hsc hm I h
  simp only [run, Option.bind_eq_some_iff, Option.map_eq_some_iff, Prod.exists] at h
  obtain ⟨r, e1, k1, w, hw, h⟩ := h
  cases h
  cases stm with
  | Assign tgs val pos =>
    match tgs, hm with
    | [.Name y yp], hm =>
      simp only [mSt, Bool.and_eq_true] at hm
      obtain ⟨⟨⟨h1, h2⟩, h3⟩, h4⟩ := hm
      subst hsc
      have plain : swapsWith val (some (.Name y yp)) pos.line en = pure false → WP g A (exec (.Assign [.Name y yp] val pos) en) (PostO g N en σ (stored (.asg i a)) Z (Foot σ e) s (.nx ((frzs e1 [r]).set i (some w)))) s := fun hs => by
        refine wpAny_Assign_Name (wp_mono (ha _ val A en Z e σ s r e1 hr rfl h4 I k1) fun v s1 q => ?_) hs
        obtain ⟨Z1, st, I1, rr⟩ := q
        exact wp_mono (asg_end I1 st rr hw h1 h2) fun _ _ q => nx_of q
      obtain ⟨b, hb⟩ := (sw_name (en := en) (v := val) (y := y) (yp := yp) (line := pos.line) (p := p) (N := N)).1
      cases b with
      | false => exact plain hb
      | true =>
        cases val with
        | ListComp elt gens scope lpos =>
          cases a with
          | lc it tg one t el =>
            obtain ⟨hi, ht, hel⟩ := hlc it tg one t el rfl
            match gens, h4 with
            | [⟨target, iter, ifs, as⟩], h4 =>
              have h0 : as = 0 := by
                cases as with
                | ofNat n =>
                  cases n with
                  | zero => rfl
                  | succ n => exact absurd h4 Bool.false_ne_true
                | negSucc n => exact absurd h4 Bool.false_ne_true
              subst h0
              rw [mE_lc] at h4
              simp only [Bool.and_eq_true, Bool.not_eq_true'] at h4
              obtain ⟨⟨⟨⟨⟨⟨m0, m1⟩, m2⟩, m3⟩, m4⟩, m5⟩, m6⟩ := h4
              simp only [ev, Option.bind_eq_some_iff, Prod.exists] at k1
              obtain ⟨xs, hs, e2, k1, k2⟩ := k1
              split at k2
              · cases k2
              · rename_i hz
                rw [Option.map_eq_some_iff] at k2
                obtain ⟨⟨ds, e3⟩, k2, k3⟩ := k2
                cases k3
                cases hw
                have B := blk_is m3
                have hsz : xs.length ≤ sizeLine := szOk_iff.mp (by simpa using hz)
                have hfree : ∀ y ∈ scope.names, y.2 = .free → ∃ c, en.cells.lookup y.1 = some c := fun y hy q => I.fm.has _ (by simpa [PySem.Env.kindOf] using B.free y hy q)
                rw [exec_Assign_Name_used _ _ _ _ hb]
                refine wpAny_bind (wpAny_standAt (wpAny_bind ?_))
                show WP g A (do let _ ← comprehension (.ListComp elt [⟨target, iter, ifs, 0⟩] scope lpos) scope en _ (newList []) false (eval iter en) (some (assign (.Name y yp) en))) _ s
                refine wpAny_bind (wpAny_mono (comprehension_at (use := some (assign (.Name y yp) en)) (cl := L2.cloFrom en.cells scope.names []) (Q := fun _ s' => PostO g N en σ (stored (.asg i (.lc it tg one t el))) Z (Foot σ e) s (.nx ((frzs (resto e2 hs (resto e2 tg e3)) [R.v (.own ds)]).set i (some (.own ds)))) .next s') rfl (noSet_is m2) (L2.closure_ok hfree) B.kind (fun y hy q => by rw [B.uniq y hy, q]) ?_) (fun _ s' q => wpAny_pure (wpAny_pure q)) fun _ _ z => z)
                refine wpAny_mono (hi _ iter A en Z e σ s xs hs e2 target one hr rfl m1 (fun q => ?_) I k1) (fun xv s1 q1 => wpAny_mono q1 (fun itv s2 q2 => ?_) fun _ _ z => z) fun _ _ z => z
                · have h1 : one = false := by
                    cases one with
                    | false => rfl
                    | true => rw [q] at m0; cases m0
                  exact ⟨h1, tup_of_tg m4 h1⟩
                · obtain ⟨Z2, I2, fp, wr, Y, St, S⟩ := q2
                  refine lc_core S ht hel hr B hsz m4 m5 m6 k2 fun s4 Z4 le => ?_
                  have rr4 : RepR g en Z4 s4.heap σ (resto e2 hs (resto e2 tg e3)) (.ref s2.heap.objs.size) (.v (.own ds)) := ⟨le.rep, fun a ha => by
                    obtain ⟨_, q⟩ := footR_v ha
                    cases q
                    exact le.mine⟩
                  have st4 : Step g [] Z (Foot σ e) s Z4 (fun a => Foot σ (resto e2 hs (resto e2 tg e3)) a ∨ FootR (.ref s2.heap.objs.size) (.v (.own ds)) a) s4 := ⟨le.step.zz, le.step.keep, le.step.there, fun a q => by
                    rcases q with q | ⟨_, _, q⟩
                    · exact le.step.newF a q
                    · cases q; exact .inr le.fresh, le.step.newZ, le.step.os, le.step.quiet⟩
                  show WP g A (assign (.Name y yp) en (.ref s2.heap.objs.size)) (fun _ s'' => ∃ m, s''.heap.Ns (s2.heap.objs.size + 1) m ∧ ∀ h', Heap.SameBut (s2.heap.objs.size + 1) s''.heap h' → _) s4
                  refine wpAny_assign_Name ?_
                  -- the store keeps the block's own names
                  have hfr : adr en y ∈ frm en := loc_frm le.inv h2
                  refine wp_mono (le.inv.putW (fr := [adr en y]) h1 h2 List.mem_cons_self rr4) fun _ s5 q5 => ?_
                  obtain ⟨I5, st5⟩ := q5
                  have neC : s2.heap.objs.size + 1 ≠ adr en y := fun z => le.loose.2.2.1 (z ▸ hfr)
                  have nfC : ¬ (Foot σ (resto e2 hs (resto e2 tg e3)) (s2.heap.objs.size + 1) ∨ FootR (.ref s2.heap.objs.size) (.v (.own ds)) (s2.heap.objs.size + 1)) := fun z => by
                    rcases z with z | ⟨_, _, z⟩
                    · exact le.loose.2.1 z
                    · exact le.ne (Value.ref.inj z)
                  obtain ⟨m, hn⟩ := le.ns
                  refine ⟨m, hn.at' fun o q => st5.keep _ o q nfC (by simpa using neC) le.loose.2.2.2, fun h' sb => ?_⟩
                  have kp : ∀ b o, b ∉ [s2.heap.objs.size + 1] → s5.heap.get? b = some o → h'.get? b = some o := fun b o nb q => by
                    have : b ≠ s2.heap.objs.size + 1 := by simpa using nb
                    rw [sb.2 b this]; exact q
                  have one : ∀ b ∈ [s2.heap.objs.size + 1], b = s2.heap.objs.size + 1 := fun b hb => by simpa using hb
                  obtain ⟨oC, hoC⟩ : ∃ oC, s4.heap.get? (s2.heap.objs.size + 1) = some oC := let ⟨o, _, _, q, _⟩ := hn; ⟨o, q⟩
                  have I6 := I5.loose (t' := s5.toks) kp fun b hb => by
                    rw [one b hb]
                    exact ⟨le.loose.1, st5.away hoC nfC, le.loose.2.2⟩
                  have all := st4.wide.trans (st5.frame (fr' := frm en) fun b hb => by simp at hb; rw [hb]; exact hfr)
                  refine nx_of ⟨Z4, _, ⟨all.zz, fun a o q n1 n2 n3 => kp a o (fun z => ?_) (all.keep a o q n1 n2 n3), fun a o q => ?_, all.newF, all.newZ, all.os, fun hq => ?_⟩, I6, fun j hj => ?_⟩
                  · rw [one a z, le.freshC] at q; cases q
                  · obtain ⟨o', q'⟩ := all.there a o q
                    exact ⟨o', kp a o' (fun z => by rw [one a z, le.freshC] at q; cases q) q'⟩
                  · obtain ⟨h1, t1, q⟩ := all.quiet hq
                    exact ⟨h', t1, by rw [q]⟩
                  · have hj' : j ≠ i := fun z => hj (by rw [z]; exact List.mem_singleton_self _)
                    rw [List.getElem?_set_ne (Ne.symm hj')]
            | [], h4 => simp [mE, genP] at h4
            | _ :: _ :: _, h4 => simp [mE, genP] at h4
          | _ => simp [mE, genP] at h4
        | SetComp _ _ _ _ => cases a <;> simp [mE, genP] at h4
        | DictComp _ _ _ _ _ => cases a <;> simp [mE, genP] at h4
        | _ => cases (show (pure false : Sem Bool) = pure true from hb)
    | [], hm => simp [mSt] at hm
    | [.Tuple _ _ _], hm => simp [mSt] at hm
    | t :: _ :: _, hm => cases t <;> simp [mSt] at hm
  | _ => simp [mSt] at hm
end
end Mini

-- M18
set_option Elab.async false
set_option linter.all false
set_option maxRecDepth 100000
set_option maxHeartbeats 4000000
/-! Mini 18: more statements that store. -/
namespace Mini
open PySem PyProof.Rows

section
variable {p : Px} {c : Cf} {g : G} {N : List Str} {k : Nat} {en : PySem.Env} {Z Z1 Z2 Z3 Z' : Heap} {e e1 e2 e3 e' : Env} {σ σ0 σ1 σ3 : List (Option Value)} {s s1 s2 s3 s' : Shared} {A : Around} {F F1 F2 : Addr → Prop} {v u : Value} {r : R} {fr : List Addr} {i : Nat} {x : Str} {w : W} {vs : List Value} {rs : List R} {st st1 st2 : List Nat} {o : Out} {f : Flow}

theorem mTs_adrs (I : Inv g N en Z e σ s) : ∀ {tg : List Nat} {ts : List Expr}, mTs N en.scope tg ts = true → ∀ a ∈ adrs N en tg, a ∈ frm en
  | [], _, _, a, ha => by simp [adrs] at ha
  | i :: tg, [], h, a, ha => by simp [mTs] at h
  | i :: tg, t :: ts, h, a, ha => by
    simp only [mTs, Bool.and_eq_true] at h
    obtain ⟨y, pos, rfl, m1, m2, m3⟩ := mT1_is h.1
    rw [adrs_cons m1] at ha
    rcases List.mem_cons.mp ha with q | q
    · rw [q]; exact loc_frm I m2
    · exact mTs_adrs I h.2 a q
theorem last_in {a : Nat} : ∀ {r : List Nat} {j : Nat}, lastIs a r = true → j ∈ r → j ∈ r.dropLast ∨ j = a
  | [], j, _, h => by cases h
  | [x], j, h, hj => by
    rw [List.mem_singleton.mp hj]
    exact .inr (by simpa [lastIs] using h)
  | x :: y :: r, j, h, hj => by
    rcases List.mem_cons.mp hj with e | e
    · exact .inl (by rw [e]; simp)
    · rcases last_in (r := y :: r) (by simpa [lastIs] using h) e with w | w
      · exact .inl (by rw [List.dropLast_cons₂]; exact List.mem_cons_of_mem _ w)
      · exact .inr w
theorem nst_last {a : Nat} {r : List Nat} (h : nst (a :: r) = true) : ∀ j ∈ r, j ∈ r.dropLast ∨ j = a := by
  match r, h with
  | [], h => simp [nst] at h
  | [_], h => simp [nst] at h
  | b :: c :: r, h =>
    intro j hj
    have h' : lastIs a (b :: c :: r) = true := by simpa [nst, lastIs] using h
    exact last_in h' hj
theorem mTg_adrs (I : Inv g N en Z e σ s) {tg : List Nat} {one : Bool} {t : Expr} (h : mTg N en.scope tg one t = true) : ∀ a ∈ adrs N en tg, a ∈ frm en := by
  cases one with
  | true =>
    simp only [mTg, if_true] at h
    split at h
    · obtain ⟨y, pos, rfl, m1, m2, m3⟩ := mT1_is h
      intro a ha
      rw [adrs_cons m1] at ha
      rcases List.mem_cons.mp ha with q | q
      · rw [q]; exact loc_frm I m2
      · simp [adrs] at q
    · cases h
  | false =>
    cases hn : nst tg with
    | false =>
      obtain ⟨ts, x1, pos, rfl, h2⟩ := mTg_fl hn h
      exact mTs_adrs I h2
    | true =>
      obtain ⟨a, r, t0, us, k2, p2, x1, pos, rfl, rfl, m1, m2⟩ := mTg_ns hn h
      obtain ⟨y, py, rfl, q1, q2, q3⟩ := mT1_is m1
      intro b hb
      rw [adrs_cons q1] at hb
      rcases List.mem_cons.mp hb with z | z
      · rw [z]; exact loc_frm I q2
      · obtain ⟨j, hj, ej⟩ := List.mem_map.mp z
        rcases nst_last hn j hj with w | w
        · exact mTs_adrs I m2 b (List.mem_map.mpr ⟨j, w, ej⟩)
        · subst w
          rw [name_at q1] at ej
          rw [← ej]
          exact loc_frm I q2
theorem ss_unp {is : List Nat} {a : E} (ha : SE p c g N k a) : SS1 p c g N k (.unp is a) := by
  intro sc stm A en Z e σ s o hr hsc hm I h
  simp only [run, Option.bind_eq_some_iff, Option.map_eq_some_iff, Prod.exists] at h
  obtain ⟨r, e1, k1, d, dx, e2, hb, h⟩ := h
  cases h
  cases stm with
  | Assign tgs val pos =>
    match tgs, hm with
    | [.Tuple ts kk tp], hm =>
      have hm' : (mTs N sc is ts && mE p N sc a val && notTup val) = true := by
        cases val <;> first | exact hm | (simp [notTup] at hm ⊢; done) | exact hm
      simp only [Bool.and_eq_true] at hm'
      obtain ⟨⟨h1, h2⟩, h3⟩ := hm'
      subst hsc
      have hw : swappedStores [.Tuple ts kk tp] val en = pure none := by
        cases val <;> first | rfl | simp [notTup] at h3
      refine Assign_Tuple (wp_mono (ha _ val A en Z e σ s r e1 hr rfl h2 I k1) fun v s1 q => ?_) sw_tup hw
      obtain ⟨Z1, st, I1, rr⟩ := q
      obtain ⟨w, ew, rw'⟩ := I1.resD rr dx
      have go : WP g A (assign (.Tuple ts kk tp) en v) (fun _ s' => ∃ σ', Inv g N en Z1 e2 σ' s' ∧ Step g (frm en) Z1 (Foot σ e1) s1 Z1 (Foot σ' e2) s' ∧ (∀ j, j ∉ is → σ'[j]? = σ[j]?)) s1 := by
        cases d with
        | list xs =>
          obtain ⟨b, its, n, rfl, g1, l1, f1⟩ := rw'.list I1.sh.zh ew
          exact bind_unl (fr := frm en) I1 hr.hd h1 (mTs_adrs I1 h1) g1 f1 hb
        | tuple xs => exact bindFl_ok (fr := frm en) I1 hr.hd h1 (mTs_adrs I1 h1) hb (item_fz (rw'.flat ew (fun _ z => nomatch z)) I1.sh.zh)
        | none => simp [tupD, bindFl] at hb
        | bool _ => simp [tupD, bindFl] at hb
        | int _ => simp [tupD, bindFl] at hb
        | str _ => simp [tupD, bindFl] at hb
        | dict _ => simp [tupD, bindFl] at hb
      refine wp_mono go fun _ s2 q => ?_
      obtain ⟨σ2, I2, st2, so⟩ := q
      exact nx_of ⟨Z1, σ2, (st.less fun _ z => .inl z).wide.trans st2, I2, so⟩
    | [], hm => simp [mSt] at hm
    | [.Name _ _], hm => simp [mSt] at hm
    | t :: _ :: _, hm => cases t <;> simp [mSt] at hm
  | _ => simp [mSt] at hm
theorem RepA.grow {h' : Heap} (x : RepA g en Z s.heap σ e vs rs) (k : Ext s.heap h') : RepA g en Z h' σ e vs rs := by
  induction x with
  | nil => exact .nil
  | @cons v r vs rs h1 h2 h3 ih =>
    refine .cons ?_ ih h3
    cases r with
    | pl i => exact h1
    | v w => exact ⟨h1.1.keep (fun _ _ q => q) fun _ a _ _ o q => k a o q, h1.2⟩
/-- one name's store in a row of stores -/
structure Sto where
  i : Nat
  x : Str
  t : Value → Sem Unit
  v : Value
  w : W
def layS (l : List Sto) (e : Env) : Env := l.foldl (fun e q => e.set q.i (some q.w)) e
theorem layS_len : ∀ {l : List Sto} {e : Env}, (layS l e).length = e.length
  | [], _ => rfl
  | q :: l, e => by
    show (layS l (e.set q.i (some q.w))).length = _
    rw [layS_len, List.length_set]
theorem layS_get : ∀ {l : List Sto} {e : Env} {j : Nat} {w : W}, (l.map (·.i)).Nodup → (∀ q ∈ l, q.i < e.length) → (get (layS l e) j = some w ↔ (∃ q ∈ l, q.i = j ∧ q.w = w) ∨ (j ∉ l.map (·.i) ∧ get e j = some w))
  | [], e, j, w, _, _ => by simp [layS]
  | q :: l, e, j, w, hn, hl => by
    have hn' := List.nodup_cons.mp (by simpa using hn : (q.i :: l.map (·.i)).Nodup)
    show get (layS l (e.set q.i (some q.w))) j = some w ↔ _
    rw [layS_get hn'.2 fun q' hq => by rw [List.length_set]; exact hl q' (List.mem_cons_of_mem _ hq), get_set]
    have hq := hl q List.mem_cons_self
    constructor
    · rintro (⟨q', h1, h2, h3⟩ | ⟨h1, h2⟩)
      · exact .inl ⟨q', List.mem_cons_of_mem _ h1, h2, h3⟩
      · split at h2
        · rename_i z
          cases h2
          exact .inl ⟨q, List.mem_cons_self, z.1, rfl⟩
        · rename_i z
          refine .inr ⟨fun m => ?_, h2⟩
          rcases List.mem_cons.mp (by simpa using m : j ∈ q.i :: l.map (·.i)) with y | y
          · exact z ⟨y.symm, hq⟩
          · exact h1 y
    · rintro (⟨q', h1, h2, h3⟩ | ⟨h1, h2⟩)
      · rcases List.mem_cons.mp h1 with y | y
        · subst y
          refine .inr ⟨fun m => hn'.1 (h2 ▸ m), ?_⟩
          rw [if_pos ⟨h2, hq⟩, h3]
        · exact .inl ⟨q', y, h2, h3⟩
      · have h1' : j ≠ q.i ∧ j ∉ l.map (·.i) := by simpa using h1
        refine .inr ⟨h1'.2, ?_⟩
        rw [if_neg fun z => h1'.1 z.1.symm]
        exact h2
theorem stores_ok : ∀ {l : List Sto} {e : Env} {σ : List (Option Value)} {s : Shared}, (∀ q ∈ l, mN N q.i q.x = true ∧ loc en.scope q.x = true ∧ ∀ v Q s, WP g A (storeName en q.x v) Q s → WP g A (q.t v) Q s) → Inv g N en Z e σ s → RepA g en Z s.heap σ e (l.map (·.v)) (l.map fun q => .v q.w) →
    WP g A (assignInOrder (l.map (·.t)) (l.map (·.v))) (fun _ s' => ∃ σ', Inv g N en Z (layS l e) σ' s' ∧ Step g (frm en) Z (fun a => Foot σ e a ∨ FootA (l.map (·.v)) (l.map fun q => .v q.w) a) s Z (Foot σ' (layS l e)) s' ∧ ∀ j, j ∉ l.map (·.i) → σ'[j]? = σ[j]?) s
  | [], e, σ, s, hl, I, ra => wpAny_assignInOrder_none ⟨σ, I, Step.refl.more fun _ z => .inl z, fun _ _ => rfl⟩
  | q :: l, e, σ, s, hl, I, ra => by
    obtain ⟨h1, h2, h3⟩ := hl q List.mem_cons_self
    cases ra with
    | cons a1 a2 a3 =>
      refine wpAny_assignInOrder_more (h3 _ _ _ (wp_mono (I.putW (fr := frm en) h1 h2 (loc_frm I h2) a1) fun _ s1 q1 => ?_))
      obtain ⟨I1, st1⟩ := q1
      have hi : q.i < σ.length := by rw [I.len]; exact (List.getElem?_eq_some_iff.mp (name_at h1)).1
      -- the rest over the first store
      have carry : ∀ (us : List Value) (ls : List R), RepA g en Z s.heap σ e us ls → (∀ r ∈ ls, ∃ w, r = .v w) → (∀ a, FootR q.v (.v q.w) a → ∀ z ∈ us.zip ls, ¬ FootR z.1 z.2 a) → RepA g en Z s1.heap (σ.set q.i (some q.v)) (e.set q.i (some q.w)) us ls := by
        intro us ls ra
        induction ra with
        | nil => intro _ _; exact .nil
        | @cons v r vs rs b1 b2 b3 ih =>
          intro hv hd
          obtain ⟨w, rfl⟩ := hv r List.mem_cons_self
          have no : ∀ a, FootR v (.v w) a → ¬ (Foot σ e a ∨ FootR q.v (.v q.w) a) := fun a ha z => by
            rcases z with z | z
            · exact (b1.2 a ha).2 z
            · exact hd a z (v, .v w) List.mem_cons_self ha
          have stands : ∀ a, FootR v (.v w) a → ∃ o, s.heap.get? a = some o := fun a ha => by
            obtain ⟨⟨xs, rfl⟩, z⟩ := footR_v ha
            exact b1.1.stands z
          refine .cons ⟨b1.1.keep (fun _ _ z => z) fun xs a hw hv o ho => ?_, fun a ha => ⟨(b1.2 a ha).1, fun z => ?_⟩⟩ (ih (fun r hr => hv r (List.mem_cons_of_mem _ hr)) fun a ha z hz => hd a ha z (List.mem_cons_of_mem _ hz)) b3
          · have fa : FootR v (.v w) a := ⟨xs, by rw [hw], hv⟩
            exact st1.keep a o ho (no a fa) (b1.2 a fa).1.2.1 (b1.2 a fa).1.2.2
          · obtain ⟨o, ho⟩ := stands a ha
            exact st1.away ho (no a ha) z
      have ra1 := carry _ _ a2 (fun r hr => by obtain ⟨q', _, rfl⟩ := List.mem_map.mp hr; exact ⟨_, rfl⟩) a3
      refine wp_mono (stores_ok (l := l) (fun q' hq => hl q' (List.mem_cons_of_mem _ hq)) I1 ra1) fun _ s2 q2 => ?_
      obtain ⟨σ2, I2, st2, so⟩ := q2
      refine ⟨σ2, I2, ?_, fun j hj => ?_⟩
      · have st1' : Step g (frm en) Z (fun a => Foot σ e a ∨ FootA (q.v :: l.map (·.v)) (.v q.w :: l.map fun q => .v q.w) a) s Z (fun a => Foot (σ.set q.i (some q.v)) (e.set q.i (some q.w)) a ∨ FootA (l.map (·.v)) (l.map fun q => .v q.w) a) s1 :=
          ⟨st1.zz, fun b o z n1 n2 n3 => st1.keep b o z (fun y => n1 (y.imp_right fun y => footA_cons.mpr (.inl y))) n2 n3, st1.there, fun b z => by
            rcases z with z | z
            · exact (st1.newF b z).imp_left fun y => y.imp_right fun y => footA_cons.mpr (.inl y)
            · exact .inl (.inr (footA_cons.mpr (.inr z))), fun b o z => (st1.newZ b o z).imp_right fun y => y.imp_left fun y => y.imp_right fun y => footA_cons.mpr (.inl y), st1.os, st1.quiet⟩
        exact st1'.trans st2
      · have hj' : j ≠ q.i ∧ j ∉ l.map (·.i) := by simpa using hj
        rw [so j hj'.2, List.getElem?_set_ne (Ne.symm hj'.1)]
end
end Mini

-- M19
set_option Elab.async false
set_option linter.all false
set_option maxRecDepth 100000
set_option maxHeartbeats 4000000
/-! Mini 19: pairs stored at once; items set, appended. -/
namespace Mini
open PySem PyProof.Rows

section
variable {p : Px} {c : Cf} {g : G} {N : List Str} {k : Nat} {en : PySem.Env} {Z Z1 Z2 Z3 Z' : Heap} {e e1 e2 e3 e' : Env} {σ σ0 σ1 σ3 : List (Option Value)} {s s1 s2 s3 s' : Shared} {A : Around} {F F1 F2 : Addr → Prop} {v u : Value} {r : R} {fr : List Addr} {i : Nat} {x : Str} {w : W} {vs : List Value} {rs : List R} {st st1 st2 : List Nat} {o : Out} {f : Flow}

theorem parSw_ok {ts vs : List Expr} {kk k2 : Nat} {tp p2 : Pos} {o : Option (List Str)} (hk : en.blockKind = .function) (h : parSw en.scope ts vs = some o) : swappedStores [.Tuple ts kk tp] (.Tuple vs k2 p2) en = pure o := by
  unfold parSw at h
  unfold swappedStores
  dsimp only
  rw [hk]
  by_cases c1 : (!(ts.length == 2 || ts.length == 3) || vs.length != ts.length) = true
  · rw [if_pos c1] at h
    cases h
    have c1' : (!(ts.length == 2 || ts.length == 3) || vs.length != ts.length || ScopeKind.function != ScopeKind.function) = true := by rw [c1]; rfl
    exact if_pos c1'
  · rw [if_neg c1] at h
    have c1' : ¬ (!(ts.length == 2 || ts.length == 3) || vs.length != ts.length || ScopeKind.function != ScopeKind.function) = true := by
      have : (!(ts.length == 2 || ts.length == 3) || vs.length != ts.length) = false := by simpa using c1
      rw [this]; decide
    refine (if_neg c1').trans ?_
    by_cases c2 : vs.any isStar = true
    · rw [if_pos c2] at h
      cases h
      exact if_pos c2
    · rw [if_neg c2] at h
      refine (if_neg c2).trans ?_
      by_cases c3 : ((namesOn en.scope ts).length != ts.length || (namesOn en.scope ts).eraseDups.length != (namesOn en.scope ts).length) = true
      · rw [if_pos c3] at h
        cases h
        exact if_pos c3
      · rw [if_neg c3] at h
        refine (if_neg c3).trans ?_
        by_cases c4 : vs.all (foldedForSure 8) = true
        · rw [if_pos c4] at h
          cases h
          exact if_pos c4
        · rw [if_neg c4] at h
          refine (if_neg c4).trans ?_
          by_cases c5 : vs.all (constantsAlone 8) = true
          · rw [if_pos c5] at h
            cases h
          · rw [if_neg c5] at h
            cases h
            exact if_neg c5
theorem blockKind_fn (I : Inv g N en Z e σ s) : en.blockKind = .function := by
  unfold PySem.Env.blockKind
  rw [I.fm.kind]
  rfl
theorem repA_w : ∀ {ws : List W} {vs : List Value}, RepA g en Z s.heap σ e vs (ws.map .v) → vs.length = ws.length := fun {ws vs} h => by simpa using h.len
theorem setAll_lay : ∀ {is : List Nat} {ws : List W} {l : List Sto} {e : Env}, l.map (·.i) = is → l.map (·.w) = ws → setAll is ws e = layS l e
  | _, _, [], e, rfl, rfl => rfl
  | _, _, q :: l, e, rfl, rfl => by
    show setAll (l.map (·.i)) (l.map (·.w)) (e.set q.i (some q.w)) = layS l (e.set q.i (some q.w))
    exact setAll_lay rfl rfl
/-- the names' stores, one behind the other -/
theorem each_sto {sc : Scope} : ∀ {is : List Nat} {ts : List Expr} {ws : List W} {vs : List Value}, mTs N sc is ts = true → ws.length = is.length → vs.length = is.length → en.scope = sc →
    ∃ l : List Sto, l.map (·.i) = is ∧ l.map (·.w) = ws ∧ l.map (·.v) = vs ∧ l.map (·.t) = (assignEach ts en).map (·.2) ∧ ∀ q ∈ l, mN N q.i q.x = true ∧ loc sc q.x = true ∧ ∀ (A : Around) v Q s, WP g A (storeName en q.x v) Q s → WP g A (q.t v) Q s
  | [], [], [], [], _, _, _, _ => ⟨[], rfl, rfl, rfl, rfl, fun q hq => by simp at hq⟩
  | i :: is, t :: ts, w :: ws, v :: vs, h, h1, h2, hsc => by
    simp only [mTs, Bool.and_eq_true] at h
    obtain ⟨y, pos, rfl, m1, m2, m3⟩ := mT1_is h.1
    obtain ⟨l, l1, l2, l3, l4, l5⟩ := each_sto (ws := ws) (vs := vs) h.2 (by simpa using h1) (by simpa using h2) hsc
    refine ⟨⟨i, y, assign (.Name y pos) en, v, w⟩ :: l, by simp [l1], by simp [l2], by simp [l3], by simp [l4, assignEach], fun q hq => ?_⟩
    rcases List.mem_cons.mp hq with rfl | hq
    · exact ⟨m1, m2, fun A v Q s hq => wpAny_assign_Name hq⟩
    · exact l5 q hq
  | [], _ :: _, _, _, h, _, _, _ => by simp [mTs] at h
  | _ :: _, [], _, _, h, _, _, _ => by simp [mTs] at h
  | [], [], _ :: _, _, _, h, _, _ => by simp at h
  | [], [], [], _ :: _, _, _, h, _ => by simp at h
  | _ :: _, _ :: _, [], _, _, h, _, _ => by simp at h
  | _ :: _, _ :: _, _ :: _, [], _, _, h, _ => by simp at h
theorem name_sto {sc : Scope} : ∀ {is : List Nat} {ts : List Expr} {names : List Str} {ws : List W} {vs : List Value}, mTs N sc is ts = true → (is.map fun i => N[i]?) = names.map some → ws.length = is.length → vs.length = is.length → en.scope = sc →
    ∃ l : List Sto, l.map (·.i) = is ∧ l.map (·.w) = ws ∧ l.map (·.v) = vs ∧ l.map (·.t) = names.map (fun n => bindName en n) ∧ ∀ q ∈ l, mN N q.i q.x = true ∧ loc sc q.x = true ∧ ∀ (A : Around) v Q s, WP g A (storeName en q.x v) Q s → WP g A (q.t v) Q s
  | [], [], [], [], [], _, _, _, _, _ => ⟨[], rfl, rfl, rfl, rfl, fun q hq => by simp at hq⟩
  | i :: is, t :: ts, n :: names, w :: ws, v :: vs, h, hn, h1, h2, hsc => by
    simp only [mTs, Bool.and_eq_true] at h
    obtain ⟨y, pos, rfl, m1, m2, m3⟩ := mT1_is h.1
    have hn' : N[i]? = some n ∧ (is.map fun i => N[i]?) = names.map some := by simpa using hn
    have : n = y := by
      have := name_at m1
      rw [hn'.1] at this
      exact Option.some.inj this
    subst this
    obtain ⟨l, l1, l2, l3, l4, l5⟩ := name_sto (ws := ws) (vs := vs) h.2 hn'.2 (by simpa using h1) (by simpa using h2) hsc
    refine ⟨⟨i, n, fun v => bindName en n v, v, w⟩ :: l, by simp [l1], by simp [l2], by simp [l3], by simp [l4], fun q hq => ?_⟩
    rcases List.mem_cons.mp hq with rfl | hq
    · exact ⟨m1, m2, fun A v Q s hq => wpAny_bindName hq⟩
    · exact l5 q hq
  | [], _ :: _, _, _, _, h, _, _, _, _ => by simp [mTs] at h
  | _ :: _, [], _, _, _, h, _, _, _, _ => by simp [mTs] at h
  | [], [], _ :: _, _, _, _, h, _, _, _ => by simp at h
  | _ :: _, _ :: _, [], _, _, _, h, _, _, _ => by simp at h
  | [], [], [], _ :: _, _, _, _, h, _, _ => by simp at h
  | [], [], [], [], _ :: _, _, _, _, h, _ => by simp at h
  | _ :: _, _ :: _, _ :: _, [], _, _, _, h, _, _ => by simp at h
  | _ :: _, _ :: _, _ :: _, _ :: _, [], _, _, _, h, _ => by simp at h
theorem zip_rev {α β : Type} : ∀ (l : List α) (m : List β), l.length = m.length → l.reverse.zip m.reverse = (l.zip m).reverse
  | [], [], _ => rfl
  | a :: l, b :: m, h => by
    have h' : l.length = m.length := by simpa using h
    rw [List.reverse_cons, List.reverse_cons, List.zip_append (by simpa using h'), zip_rev l m h']
    simp
  | [], _ :: _, h => by simp at h
  | _ :: _, [], h => by simp at h
theorem repA_rev : ∀ {vs : List Value} {rs : List R}, RepA g en Z s.heap σ e vs rs → RepA g en Z s.heap σ e vs.reverse rs.reverse := by
  have app : ∀ {vs : List Value} {rs : List R} {us : List Value} {ls : List R}, RepA g en Z s.heap σ e vs rs → RepA g en Z s.heap σ e us ls → (∀ a, FootA vs rs a → ¬ FootA us ls a) → RepA g en Z s.heap σ e (vs ++ us) (rs ++ ls) := by
    intro vs rs us ls h
    induction h with
    | nil => intro h2 _; exact h2
    | @cons v r vs rs b1 b2 b3 ih =>
      intro h2 hd
      refine .cons b1 (ih h2 fun a ha => hd a (footA_cons.mpr (.inr ha))) fun a ha q hq hf => ?_
      have hq' : q ∈ (vs ++ us).zip (rs ++ ls) := hq
      rw [List.zip_append b2.len] at hq'
      rcases List.mem_append.mp hq' with z | z
      · exact b3 a ha q z hf
      · exact hd a (footA_cons.mpr (.inl ha)) ⟨q, z, hf⟩
  have foot_rev : ∀ {vs : List Value} {rs : List R} {a : Addr}, vs.length = rs.length → FootA vs.reverse rs.reverse a → FootA vs rs a := by
    intro vs rs a hl ⟨q, hq, hf⟩
    refine ⟨q, ?_, hf⟩
    rw [zip_rev _ _ hl] at hq
    exact List.mem_reverse.mp hq
  intro vs rs h
  induction h with
  | nil => exact .nil
  | @cons v r vs rs b1 b2 b3 ih =>
    rw [List.reverse_cons, List.reverse_cons]
    refine app ih (.cons b1 .nil fun a _ q hq => by simp at hq) fun a ha hb => ?_
    rcases footA_cons.mp hb with z | ⟨_, z, _⟩
    · obtain ⟨q, hq, hf⟩ := foot_rev b2.len ha
      exact b3 a z q hq hf
    · simp at z
theorem footA_rev {us : List Value} {ls : List R} {a : Addr} (hl : us.length = ls.length) : FootA us.reverse ls.reverse a → FootA us ls a := by
  intro ⟨q, hq, hf⟩
  refine ⟨q, ?_, hf⟩
  rw [zip_rev _ _ hl] at hq
  exact List.mem_reverse.mp hq
theorem mapM_len {α β : Type} {f : α → Option β} : ∀ {l : List α} {m : List β}, l.mapM f = some m → m.length = l.length
  | [], m, h => by simp at h; subst h; rfl
  | a :: l, m, h => by
    simp only [List.mapM_cons, Option.bind_eq_bind, Option.bind_eq_some_iff, Option.pure_def, Option.some.injEq] at h
    obtain ⟨b, _, m', h2, rfl⟩ := h
    simp [mapM_len h2]
/-- the end of a pair's stores, whatever their order -/
theorem par_end {is : List Nat} {ws : List W} {l l' : List Sto} {tk : Nat} (hnd : is.Nodup) (h1 : l.map (·.i) = is) (h2 : l.map (·.w) = ws) (hl : l' = l ∨ l' = l.reverse)
    (I : Inv g N en Z e σ s) (ra : RepA g en Z s.heap σ e (l.map (·.v)) (l.map fun q => .v q.w)) (ok : ∀ q ∈ l, mN N q.i q.x = true ∧ loc en.scope q.x = true ∧ ∀ v Q s, WP g A (storeName en q.x v) Q s → WP g A (q.t v) Q s) :
    WP g A (assignInOrder (l'.map (·.t)) (l'.map (·.v))) (fun _ s' => ∃ σ', Inv g N en Z (setAll is ws e) σ' s' ∧ Step g (frm en) Z (fun a => Foot σ e a ∨ FootA (l.map (·.v)) (l.map fun q => .v q.w) a) s Z (Foot σ' (setAll is ws e)) s' ∧ ∀ j, j ∉ is → σ'[j]? = σ[j]?) s := by
  have lt : ∀ q ∈ l, q.i < e.length := fun q hq => by
    rw [I.elen]
    exact (List.getElem?_eq_some_iff.mp (name_at (ok q hq).1)).1
  rcases hl with rfl | rfl
  · refine wp_mono (stores_ok ok I ra) fun _ s' q => ?_
    obtain ⟨σ', I', st, so⟩ := q
    rw [setAll_lay h1 h2]
    exact ⟨σ', I', st, fun j hj => so j (by rw [h1]; exact hj)⟩
  · have ra' : RepA g en Z s.heap σ e (l.reverse.map (·.v)) (l.reverse.map fun q => .v q.w) := by
      rw [List.map_reverse, List.map_reverse]
      exact repA_rev ra
    refine wp_mono (stores_ok (l := l.reverse) (fun q hq => ok q (List.mem_reverse.mp hq)) I ra') fun _ s' q => ?_
    obtain ⟨σ', I', st, so⟩ := q
    rw [setAll_lay h1 h2]
    have nd : (l.map (·.i)).Nodup := by rw [h1]; exact hnd
    have nd' : (l.reverse.map (·.i)).Nodup := by rw [List.map_reverse]; unfold List.Nodup; rw [List.pairwise_reverse]; exact nd.imp Ne.symm
    have same : ∀ j w, get (layS l e) j = some w ↔ get (layS l.reverse e) j = some w := fun j w => by
      rw [layS_get nd lt, layS_get nd' fun q hq => lt q (List.mem_reverse.mp hq)]
      simp
    have back : ∀ a, FootA (l.reverse.map (·.v)) (l.reverse.map fun q => .v q.w) a → FootA (l.map (·.v)) (l.map fun q => .v q.w) a := fun a z => by
      rw [List.map_reverse, List.map_reverse] at z
      exact footA_rev (by simp) z
    refine ⟨σ', I'.lay (by rw [layS_len, layS_len]) fun j w q => .inl ((same j w).mp q), ⟨st.zz, fun b o q n1 n2 n3 => st.keep b o q (fun z => n1 (z.imp_right (back b))) n2 n3, st.there, fun b ⟨j, xs, q1, q2⟩ => (st.newF b ⟨j, xs, (same j _).mp q1, q2⟩).imp_left fun z => z.imp_right (back b), fun b o q => (st.newZ b o q).imp_right fun z => z.imp_left fun z => z.imp_right (back b), st.os, st.quiet⟩, fun j hj => so j fun m => hj (by rw [List.map_reverse, List.mem_reverse, h1] at m; exact m)⟩
theorem ss_par {is : List Nat} {es : E} (ha : SA p c g N k es) : SS1 p c g N k (.par is es) := by
  intro sc stm A en Z e σ s o hr hsc hm I h
  simp only [run, Option.bind_eq_some_iff, Prod.exists] at h
  obtain ⟨rs, e1, k1, ws, hw, h⟩ := h
  split at h
  · rename_i hlen
    cases h
    cases stm with
    | Assign tgs val pos =>
      match tgs, hm with
      | [.Tuple ts kk tp], hm =>
        cases val with
        | Tuple vs k2 p2 =>
          simp only [mSt, Bool.and_eq_true] at hm
          obtain ⟨⟨⟨h1, h2⟩, h3⟩, h4⟩ := hm
          subst hsc
          have sz := szOk_iff.mp h3
          have value : ∀ Q : Value → Shared → Prop, (∀ us s1 Z2, Step g [] Z (Foot σ e) s Z2 (fun a => Foot σ (frzs e1 rs) a ∨ FootA us (ws.map .v) a) s1 → Inv g N en Z2 (frzs e1 rs) σ s1 → RepA g en Z2 s1.heap σ (frzs e1 rs) us (ws.map .v) → IsTup s1.heap 0 #[] ∨ True → ∀ T, s1.heap.get? T = some (TupO us 0) → Q (.ref T) s1) → WP g A (eval (.Tuple vs k2 p2) en) Q s := by
            intro Q hQ
            refine wpAny_Tuple_spliced (wp_mono (ha _ vs A en Z e σ s rs e1 p2 hr rfl (mA_mD h2) I k1) fun us s1 q => ?_)
            obtain ⟨Z1, st, I1, ra⟩ := q
            obtain ⟨Z2, st2, I2, ra2⟩ := I1.give ra hw
            have lu : us.length = vs.length := ra.len.trans (sa_len h2 k1)
            refine ⟨by rw [lu]; exact sz, ?_⟩
            have k0 : Ext s1.heap (s1.heap.push (TupO us 0)) := fun b o q => Heap.get?_push_of_some _ q
            exact hQ us { s1 with heap := s1.heap.push (TupO us 0) } Z2 ((st.trans st2).trans (Step.grow (t' := s1.toks) k0)) (I2.grow (t' := s1.toks) k0) (ra2.grow k0) (.inr trivial) _ (Heap.get?_push_size _ rfl)
          have fin : ∀ {us : List Value} {s1 s2 : Shared} {Z2 : Heap}, Step g [] Z (Foot σ e) s Z2 (fun a => Foot σ (frzs e1 rs) a ∨ FootA us (ws.map .v) a) s1 → (∀ {b o}, s1.heap.get? b = some o → s2.heap.get? b = some o) → True := fun _ _ => trivial
          have wl : ws.length = is.length := hlen.1
          have ul : ∀ {us : List Value} {Z2 : Heap} {s1 : Shared}, RepA g en Z2 s1.heap σ (frzs e1 rs) us (ws.map .v) → us.length = is.length := fun ra => (repA_w ra).trans wl
          cases q4 : parSw en.scope ts vs with
          | none => rw [q4] at h4; cases h4
          | some o =>
            have hsw := parSw_ok (kk := kk) (k2 := k2) (tp := tp) (p2 := p2) (blockKind_fn I) q4
            rw [q4] at h4
            cases o with
            | none =>
              refine Assign_Tuple (value _ fun us s1 Z2 st1 I1 ra _ T hT => ?_) sw_tup hsw
              obtain ⟨a1, a2⟩ := mTs_each (en := en) h1
              refine wpAny_assign_Tuple (items := us.toArray) hr.hd ⟨_, hT, rfl, 0, rfl⟩ (by rw [a1, ← ul ra]; simp) a2 fun h' xb => ?_
              have k0 : Ext s1.heap h' := fun b o q => xb b o (fun z => by rw [z, get_size] at q; cases q) q
              obtain ⟨l, l1, l2, l3, l4, l5⟩ := each_sto (en := en) (sc := en.scope) (ws := ws) (vs := us) (g := g) h1 wl (ul ra) rfl
              have ra' : RepA g en Z2 h' σ (frzs e1 rs) (l.map (·.v)) (l.map fun q => .v q.w) := by
                have e1 : (l.map fun q => R.v q.w) = ws.map R.v := by rw [← l2, List.map_map]; rfl
                rw [l3, e1]
                exact ra.grow k0
              have all := par_end (A := A) (s := { s1 with heap := h' }) (l' := l) (tk := 0) hlen.2 l1 l2 (.inl rfl) (I1.grow (t' := s1.toks) k0) ra' fun q hq => ⟨(l5 q hq).1, (l5 q hq).2.1, (l5 q hq).2.2 A⟩
              rw [l4, l3] at all
              refine wp_mono all fun _ s' q => ?_
              obtain ⟨σ', I', st', so⟩ := q
              have e1' : (l.map fun q => R.v q.w) = ws.map R.v := by rw [← l2, List.map_map]; rfl
              rw [e1'] at st'
              exact nx_of ⟨Z2, σ', ((st1.trans (Step.grow (t' := s1.toks) k0)).wide).trans st', I', so⟩
            | some names =>
              have hn : (is.map fun i => N[i]?) = names.map some := beq_iff_eq.mp h4
              have nl : names.length = is.length := by have := congrArg List.length hn; simpa using this.symm
              refine Assign_Tuple_swapped (names := names) (value _ fun us s1 Z2 st1 I1 ra _ T hT => ?_) sw_tup hsw
              have en' : names.length = us.toArray.size := by rw [nl, List.size_toArray, ul ra]
              rw [en']
              refine unpackItems_tuple (items := us.toArray) hr.hd ⟨_, hT, rfl, 0, rfl⟩ fun h' xb => ?_
              have k0 : Ext s1.heap h' := fun b o q => xb b o (fun z => by rw [z, get_size] at q; cases q) q
              obtain ⟨l, l1, l2, l3, l4, l5⟩ := name_sto (en := en) (sc := en.scope) (ws := ws) (vs := us) (g := g) h1 hn wl (ul ra) rfl
              have ra' : RepA g en Z2 h' σ (frzs e1 rs) (l.map (·.v)) (l.map fun q => .v q.w) := by
                have e1 : (l.map fun q => R.v q.w) = ws.map R.v := by rw [← l2, List.map_map]; rfl
                rw [l3, e1]
                exact ra.grow k0
              have all := par_end (A := A) (s := { s1 with heap := h' }) (l' := l.reverse) (tk := 0) hlen.2 l1 l2 (.inr rfl) (I1.grow (t' := s1.toks) k0) ra' fun q hq => ⟨(l5 q hq).1, (l5 q hq).2.1, (l5 q hq).2.2 A⟩
              rw [List.map_reverse, List.map_reverse, l4, l3] at all
              have e2 : (names.reverse.map fun n => bindName en n) = (names.map fun n => bindName en n).reverse := List.map_reverse
              rw [e2]
              refine wp_mono all fun _ s' q => ?_
              obtain ⟨σ', I', st', so⟩ := q
              have e1' : (l.map fun q => R.v q.w) = ws.map R.v := by rw [← l2, List.map_map]; rfl
              rw [e1'] at st'
              exact nx_of ⟨Z2, σ', ((st1.trans (Step.grow (t' := s1.toks) k0)).wide).trans st', I', so⟩
        | _ => simp [mSt] at hm
      | [], hm => simp [mSt] at hm
      | [.Name _ _], hm => simp [mSt] at hm
      | t :: _ :: _, hm => cases t <;> simp [mSt] at hm
    | _ => simp [mSt] at hm
  · cases h
end
end Mini

-- M20
set_option Elab.async false
set_option linter.all false
set_option maxRecDepth 100000
set_option maxHeartbeats 4000000
/-! Mini 20: items set, appended; loops. -/
namespace Mini
open PySem PyProof.Rows

section
variable {p : Px} {c : Cf} {g : G} {N : List Str} {k : Nat} {en : PySem.Env} {Z Z1 Z2 Z3 Z' : Heap} {e e1 e2 e3 e' : Env} {σ σ0 σ1 σ3 : List (Option Value)} {s s1 s2 s3 s' : Shared} {A : Around} {F F1 F2 : Addr → Prop} {v u : Value} {r : R} {fr : List Addr} {i : Nat} {x : Str} {w : W} {vs : List Value} {rs : List R} {st st1 st2 : List Nat} {o : Out} {f : Flow}

theorem Inv.freezeOne (I : Inv g N en Z e σ s) (rr : RepR g en Z s.heap σ e v r) {d : PyData} (hd : r.data e = some d) : ∃ Z', Step g [] Z (fun a => Foot σ e a ∨ FootR v r a) s Z' (Foot σ (frzs e [r])) s ∧ Inv g N en Z' (frzs e [r]) σ s ∧ Fz Z' d v := by
  obtain ⟨Z', st, I', f⟩ := I.freeze (rs := [r]) (vs := [v]) (ds := [d]) (.cons rr .nil fun a _ q hq => by simp at hq) (datas_of hd rfl)
  obtain ⟨_, _, e1, f1, _⟩ := f.cons_inv
  cases e1
  exact ⟨Z', st.more fun a q => q.imp_right fun z => by rcases footA_cons.mp z with w | ⟨_, w, _⟩; exact w; simp at w, I', f1⟩
theorem Inv.lookV (I : Inv g N en Z e σ s) {y : Str} {pos : Pos} {Q : Value → Shared → Prop} (hN : mN N i y = true) (hv : vis en.scope y = true) (ho : okName y = true) (hg : get e i = some w) (h : ∀ v, σ[i]? = some (some v) → Rep Z s.heap v w → Q v s) : WP g A (eval (.Name y pos) en) Q s := by
  obtain ⟨v, h1, h2⟩ := I.rep i w hg
  exact I.look hN hv ho h1 (h v h1 h2)
theorem ss_sset {ix a : E} (ha : SE p c g N k a) (hix : SE p c g N k ix) : SS1 p c g N k (.sset i ix a) := by
  intro sc stm A en Z e σ s o hr hsc hm I h
  simp only [run, Option.bind_eq_some_iff, Prod.exists] at h
  obtain ⟨r, e1, k1, w0, hw0, rk, e2, k2, d, dd, kd, dk, h⟩ := h
  split at h
  · rename_i ki
    split at h
    · rename_i xs hg
      rw [Option.map_eq_some_iff] at h
      obtain ⟨j, hj, h⟩ := h
      cases h
      cases stm with
      | Assign tgs val pos =>
        have hm' : ∃ y yp ie tp, tgs = [.Subscript (.Name y yp) ie tp] ∧ mN N i y = true ∧ vis sc y = true ∧ okName y = true ∧ mE p N sc ix ie = true ∧ mE p N sc a val = true := by
          unfold mSt at hm
          split at hm <;> (try (simp at hm; done)) <;> (rename_i e1 e2; cases e1 <;> cases e2)
          simp only [Bool.and_eq_true] at hm
          obtain ⟨⟨⟨⟨m1, m2⟩, m3⟩, m4⟩, m5⟩ := hm
          exact ⟨_, _, _, _, rfl, m1, m2, m3, m4, m5⟩
        obtain ⟨y, yp, ie, tp, rfl, h1, h2, h3, h4, h5⟩ := hm'
        subst hsc
        refine wpAny_Assign_Subscript (wp_mono (ha _ val A en Z e σ s r e1 hr rfl h5 I k1) fun v s1 q => ?_) sw_sub
        obtain ⟨Z1, st1, I1, rr1⟩ := q
        refine I1.lookV h1 h2 h3 hw0 fun ov hov _ => ?_
        refine wp_mono (hix _ ie A en Z1 e1 σ s1 rk e2 hr rfl h4 I1 k2) fun iv s2 q => ?_
        obtain ⟨Z2, st2, I2, rr2⟩ := q
        obtain ⟨wk, ewk, rwk⟩ := I2.resD rr2 dk
        obtain ⟨t, rfl⟩ := (rwk.flat ewk (by simp)).int_inv
        have rr1' := rr1.carry st2 fun a q => .inl q
        obtain ⟨Z3, st3, I3, fd⟩ := I2.freezeOne rr1' dd
        obtain ⟨v', hv', l, its, n, rfl, ho, hl, ff⟩ := I3.rep i _ hg
        rw [hov] at hv'
        cases hv'
        obtain ⟨g1, g2, g3, g4⟩ := L2.ixN_seq hj
        have hlen := ff.length
        have line := sizeLine_is
        have hu : ∀ b o, b ≠ l → s2.heap.get? b = some o → (s2.heap.update l (Obj.mapSeq (·.setIfInBounds j v))).get? b = some o := fun b o hb ho => (Heap.get?_update_other _ _ (Ne.symm hb)).trans ho
        have hset : (s2.heap.update l (Obj.mapSeq (·.setIfInBounds j v))).get? l = some (LstO (its.set j v) n) := by
          rw [Heap.get?_update_self _ ho (by rw [L2.mapSeq_set]; rfl), L2.mapSeq_set]
        obtain ⟨I4, st4⟩ := I3.upd (fr := []) (t' := s2.toks) hg hov hu hset (by rw [List.length_set]; exact hl) (ff.set fd j)
        have rr1s : Step g [] Z1 (fun a => Foot σ e1 a ∨ FootR v r a) s1 Z2 (fun a => Foot σ e2 a ∨ FootR v r a) s2 := ⟨st2.zz, fun b o q n1 n2 n3 => st2.keep b o q (fun z => n1 (.inl z)) n2 n3, st2.there, fun b q => by
          rcases q with q | q
          · exact (st2.newF b (.inl q)).imp_left .inl
          · exact .inl (.inr q), fun b o q => (st2.newZ b o q).imp_right fun z => z.imp_left .inl, st2.os, st2.quiet⟩
        have all := ((st1.trans rr1s).trans st3).trans st4
        have done : PostO g N en σ (stored (.sset i ix a)) Z (Foot σ e) s (.nx ((frzs e2 [r]).set i (some (.own (xs.set j d))))) .next { s2 with heap := s2.heap.update l (Obj.mapSeq (·.setIfInBounds j v)), toks := s2.toks } :=
          nx_of ⟨Z3, σ, all.wide, I4, fun _ _ => rfl⟩
        by_cases h0 : 0 ≤ ki
        · have hk : ki.toNat = j := by
            rw [seqIndex_of h0 g4] at g1
            exact Option.some.inj g1
          exact PySem.W.ki_setAt ho h0 (by omega) (by rw [List.size_toArray, hlen]; exact g4) (by rw [hk]; exact done)
        · have hk : (ki + (its.toArray.size : Int)).toNat = j := by
            rw [seqIndex_neg (by omega) g3] at g1
            rw [List.size_toArray, hlen]
            exact Option.some.inj g1
          exact PySem.W.ki_setBack ho (by omega) (by rw [List.size_toArray, hlen]; exact g3) (by omega) (by rw [hk]; exact done)
      | _ => simp [mSt] at hm
    · cases h
  · cases h
theorem hid_own (h : ¬ (hid e (.pl i)).isEmpty = true) : ∃ xs, get e i = some (.own xs) := by
  unfold hid at h
  cases q : get e i with
  | none => simp [q] at h
  | some w =>
    cases w with
    | d d => simp [q] at h
    | own xs => exact ⟨xs, rfl⟩
theorem ss_app {a : E} (ha : SE p c g N k a) : SS1 p c g N k (.app i a) := by
  intro sc stm A en Z e σ s o hr hsc hm I h
  simp only [run] at h
  split at h
  · cases h
  rename_i hh
  obtain ⟨xs0, hg0⟩ := hid_own hh
  simp only [Option.bind_eq_some_iff, Prod.exists] at h
  obtain ⟨r, e1, k1, d, dd, h⟩ := h
  split at h
  · rename_i xs hg
    split at h
    · rename_i hz
      cases h
      cases stm with
      | Expr val pos =>
        have hm' : ∃ y yp apos ex cpos, val = .Call (.Attribute (.Name y yp) "append" apos) [ex] [] cpos ∧ mN N i y = true ∧ vis sc y = true ∧ okName y = true ∧ mE p N sc a ex = true ∧ (apos.endLine == cpos.line) = true := by
          unfold mSt at hm
          split at hm <;> (try (simp at hm; done)) <;> (rename_i e1 e2; cases e1 <;> cases e2)
          simp only [Bool.and_eq_true] at hm
          obtain ⟨⟨⟨⟨⟨m1, m2⟩, m3⟩, m4⟩, m5⟩, m6⟩ := hm
          have := beq_iff_eq.mp m1
          subst this
          exact ⟨_, _, _, _, _, rfl, m2, m3, m4, m5, m6⟩
        obtain ⟨y, yp, apos, ex, cpos, rfl, m2, m3, m4, m5, m6⟩ := hm'
        subst hsc
        have hi : interactive en = false := by unfold interactive; rw [I.fm.kind]; rfl
        refine wpAny_Expr ?_ hi rfl
        have hs := no_star m5 [] en
        refine wpAny_Call_method_late (o := .Name y yp) rfl (by rw [hs]; rfl) m6 rfl (I.lookV m2 m3 m4 hg0 fun ov hov rp => ?_)
        obtain ⟨l, its0, n0, rfl, ho0, _, _⟩ := rp
        refine ⟨"list", "list.append", PySem.F.plainAttrs_list, PySem.F.slot_list_append, PySem.F.type_list_append, ⟨_, ho0, rfl⟩, fun b hb => by cases hb; exact ⟨_, ho0, rfl⟩, ?_⟩
        suffices key : WP g A (spliced (backTo cpos (starEach [ex] en))) (fun vs s1 => WP g A (call (.builtin "list.append") (.ref l :: vs)) (fun v s' => match v with
            | .ref _ => False
            | _ => PostO g N en σ (stored (.app i a)) Z (Foot σ e) s (.nx ((frzs e1 [r]).set i (some (.own (xs ++ [d]))))) .next s') s1) s by
          rw [hs] at key ⊢
          exact Calls.callWith_builtin rfl (Calls.evalArgs_plain key)
        refine args_cons (wp_mono (ha _ ex A en Z e σ s r e1 hr rfl m5 I k1) fun v s1 q => args_nil ?_) (no_star m5 _ _)
        obtain ⟨Z1, st1, I1, rr1⟩ := q
        obtain ⟨Z3, st3, I3, fd⟩ := I1.freezeOne rr1 dd
        obtain ⟨v', hv', l', its, n, rfl, ho, hl, ff⟩ := I3.rep i _ hg
        rw [hov] at hv'
        cases hv'
        have hz' := szOk_iff.mp hz
        have hlen := ff.length
        refine append_at (its := its.toArray) (n := n) ho (fun h' sb hp => ?_) (by rw [List.size_toArray]; exact hl)
        have hp' : h'.get? l = some (LstO (its ++ [v]) (n + 1)) := by rw [hp]; simp
        obtain ⟨I4, st4⟩ := I3.upd (fr := []) (t' := s1.toks) hg hov (fun b o hb ho => by rw [sb.2 b hb]; exact ho) hp' (by rw [List.length_append, List.length_singleton, hlen]; exact hz') (ff.append (.one fd))
        exact nx_of ⟨Z3, σ, ((st1.trans st3).trans st4).wide, I4, fun _ _ => rfl⟩
      | _ => simp [mSt] at hm
    · cases h
  · cases h
end
end Mini

-- M21
set_option Elab.async false
set_option linter.all false
set_option maxRecDepth 100000
set_option maxHeartbeats 4000000
/-! Mini 21: loops. -/
namespace Mini
open PySem PyProof.Rows

section
variable {p : Px} {c : Cf} {g : G} {N : List Str} {k : Nat} {en : PySem.Env} {Z Z0 Z1 Z2 Z3 Z' : Heap} {e e1 e2 e3 e' : Env} {σ σ0 σ1 σ2 σ3 σ' : List (Option Value)} {s s0 s1 s2 s3 s' : Shared} {A : Around} {F F0 F1 F2 : Addr → Prop} {v u : Value} {r : R} {fr : List Addr} {i : Nat} {x : Str} {w : W} {vs : List Value} {rs : List R} {st st1 st2 : List Nat} {o : Out} {f : Flow} {hs tg : List Nat}

/-- the slot that was kept back is given back -/
theorem unhide_ok (I1 : Inv g N en Z2 e1 σ s2) (hl : hs.length ≤ 1) (I : Inv g N en Z' e σ' s') (zz : Ext Z2 Z') (so : ∀ i ∈ hs, σ'[i]? = σ[i]?)
    (kb : ∀ i ∈ hs, ∀ xs a, get e1 i = some (.own xs) → σ[i]? = some (some (.ref a)) → (∀ o, s2.heap.get? a = some o → s'.heap.get? a = some o) ∧ Z'.get? a = none ∧ ¬ Foot σ' e a) (h : unhide e1 hs e = some e') :
    Inv g N en Z' e' σ' s' ∧ ∀ a, Foot σ' e' a → Foot σ' e a ∨ ∃ i ∈ hs, ∃ xs, get e1 i = some (.own xs) ∧ σ[i]? = some (some (.ref a)) := by
  match hs, hl with
  | [], _ =>
    simp only [unhide] at h
    cases h
    exact ⟨I, fun a q => .inl q⟩
  | [i], _ =>
    simp only [unhide] at h
    split at h
    · cases h
      have hso := so i List.mem_cons_self
      cases hg : get e1 i with
      | none => exact ⟨I.drop i, fun a q => .inl (foot_set (fun xs z => by cases z) q)⟩
      | some w =>
        obtain ⟨v, hv, rp⟩ := I1.rep i w hg
        rw [← hso] at hv
        cases w with
        | d d => exact ⟨I.claim hv (Fz.ext zz rp), fun a q => .inl (foot_set (fun xs z => by cases z) q)⟩
        | own xs =>
          obtain ⟨a, its, n, rfl, q1, q2, q3⟩ := rp
          have hv' := hv
          rw [hso] at hv'
          obtain ⟨b1, b2, b3⟩ := kb i List.mem_cons_self xs a hg hv'
          obtain ⟨m1, m2, m3⟩ := I1.mine a ⟨i, xs, hg, hv'⟩
          refine ⟨I.claimOwn hv ⟨a, its, n, rfl, b1 _ q1, q2, q3.ext zz⟩ ⟨b2, m2, m3⟩ b3, fun b q => ?_⟩
          rcases foot_own hv q with z | rfl
          · exact .inl z
          · exact .inr ⟨i, List.mem_cons_self, xs, hg, hv'⟩
    · cases h
  | _ :: _ :: _, hl => simp at hl
/-- a loop's outcome, the slot given back -/
theorem PostS.unhide {h1 : e.length = e.length} (I1 : Inv g N en Z2 e1 σ s2) (hl : hs.length ≤ 1) (st0 : Step g [] Z0 F0 s0 Z2 (Foot σ e1) s2) (I : Inv g N en Z' e σ' s') (st : Step g (frm en) Z0 F0 s0 Z' (Foot σ' e) s') (zz : Ext Z2 Z') (so : ∀ j, j ∉ tg → σ'[j]? = σ[j]?) (hn : ∀ i ∈ hs, i ∉ tg)
    (kb : ∀ i ∈ hs, ∀ xs a, get e1 i = some (.own xs) → σ[i]? = some (some (.ref a)) → (∀ o, s2.heap.get? a = some o → s'.heap.get? a = some o) ∧ Z'.get? a = none ∧ ¬ Foot σ' e a) (h : Mini.unhide e1 hs e = some e') : PostS g N en σ tg Z0 F0 s0 e' s' := by
  obtain ⟨I', fo⟩ := unhide_ok I1 hl I zz (fun i hi => so i (hn i hi)) kb h
  refine ⟨Z', σ', ⟨st.zz, st.keep, st.there, fun a q => ?_, st.newZ, st.os, st.quiet⟩, I', so⟩
  rcases fo a q with z | ⟨i, hi, xs, z1, z2⟩
  · exact st.newF a z
  · exact st0.newF a ⟨i, xs, z1, z2⟩
theorem ss_for {it : E} {one : Bool} {b : S} (hi : SI p c g N k it) (hb : SSB p c g N k b) : SS1 p c g N k (.for it tg one b) := by
  intro sc stm A en Z e σ s o hr hsc hm I h
  simp only [run, Option.bind_eq_some_iff, Prod.exists] at h
  obtain ⟨xs, hs, e1, k1, h⟩ := h
  split at h
  · cases h
  rename_i hcond
  have hcond' : (hs.any fun i => (tg ++ stored b).contains i) = false ∧ decide (1 < hs.length) = false := by
    have : ((hs.any fun i => (tg ++ stored b).contains i) || decide (1 < hs.length)) = false := by simpa using hcond
    exact Bool.or_eq_false_iff.mp this
  have hl : hs.length ≤ 1 := Nat.not_lt.mp (of_decide_eq_false hcond'.2)
  have hn : ∀ i ∈ hs, i ∉ tg ++ stored b := fun i hi hj => by
    have := hcond'.1
    rw [List.any_eq_false] at this
    exact this i hi (List.contains_iff_mem.mpr hj)
  rw [Option.bind_eq_some_iff] at h
  obtain ⟨o1, k2, k3⟩ := h
  have hm' : ∃ target iter body pos, stm = .For target iter body [] pos ∧ (one && isEnum it) = false ∧ mI p N sc it iter = true ∧ noSet iter = true ∧ mTg N sc tg one target = true ∧ mBs p N sc b body = true := by
    unfold mSt at hm
    split at hm <;> (try (simp at hm; done)) <;> (rename_i e1 e2; cases e1 <;> cases e2)
    simp only [Bool.and_eq_true, Bool.not_eq_true'] at hm
    obtain ⟨⟨⟨⟨m1, m2⟩, m3⟩, m4⟩, m5⟩ := hm
    exact ⟨_, _, _, _, rfl, m1, m2, m3, m4, m5⟩
  obtain ⟨target, iter, body, pos, rfl, m1, m2, m3, m4, m5⟩ := hm'
  subst hsc
  refine exec_For_goes (wp_mono (hi _ iter A en Z e σ s xs hs e1 target one hr rfl m2 (fun q => ?_) I k1) fun xv s1 q1 => wp_mono q1 fun itv s2 q2 => ?_) (noSet_is m3)
  · have h1 : one = false := by
      cases one with
      | false => rfl
      | true => rw [q] at m1; cases m1
    exact ⟨h1, tup_of_tg m4 h1⟩
  obtain ⟨Z2, II, fp, wr, Y, St, S⟩ := q2
  have live2 : ∀ b ∈ fp, ∃ o, s2.heap.get? b = some o := S.live 0 _ S.st
  have wsub : ∀ b ∈ wr, b ∈ fp := S.goes.sub
  have I2 : Inv g N en Z2 (wipe hs e1) σ s2 := S.inv.lay wipe_len fun i w q => by
    rw [get_wipe] at q
    split at q
    · cases q
    · exact .inl q
  have outW : ∀ b ∈ wr, b ∉ frm en ∧ ∀ p ∈ g.tabs, b ≠ p.2 := fun b hb => (S.apart b (wsub b hb)).2
  let fr : List Addr := wr ++ frm en
  have hfrW : ∀ b ∈ wr, b ∈ fr := fun b hb => List.mem_append_left _ hb
  have hfrA : ∀ b ∈ frm en, b ∈ fr := fun b hb => List.mem_append_right _ hb
  let more : Nat → Env → List PyData → Prop := fun i ee _ => forL (bindTg tg one) (run c b) (xs.drop i) ee = some o1
  let G0 : Nat → Shared → Prop := fun i s => ∃ Z' ee σ', LcI g N en Z2 (Foot σ (wipe hs e1)) s2 σ (tg ++ stored b) wr fr (more i) [] s Z' ee σ' []
  let Gt : Nat → Shared → Prop := fun i s => ∃ hh tk, G0 i { s with heap := hh, toks := tk } ∧ ∀ b o, b ∉ wr → hh.get? b = some o → s.heap.get? b = some o
  have here : ∀ {i s}, G0 i s → Gt i s := fun {i s} x => ⟨s.heap, s.toks, x, fun _ _ _ q => q⟩
  have open_ : ∀ {i} {s : Shared}, Gt i s → (∀ b ∈ wr, ∃ o, s.heap.get? b = some o) → G0 i s := fun {i s} x hw => by
    obtain ⟨hh, tk, ⟨Z', ee, σ', y⟩, q⟩ := x
    exact ⟨Z', ee, σ', y.at q hw hfrW outW⟩
  -- the step from the start of the statement
  have outer : ∀ {s' : Shared} {Z' : Heap} {F' : Addr → Prop}, Step g fr Z2 (Foot σ (wipe hs e1)) s2 Z' F' s' → Step g (frm en) Z (Foot σ e) s Z' F' s' := fun {s' Z' F'} t => by
    have a : Step g fr Z (Foot σ e) s Z2 (Foot σ (wipe hs e1)) s2 := (S.step.less fun a q => foot_wipe q).frame (by simp)
    have t' := a.trans t
    exact ⟨t'.zz, fun b o q n1 n2 n3 => t'.keep b o q n1 (fun z => (List.mem_append.mp z).elim (fun z => by rw [(S.wrt b z).2.1] at q; cases q) n2) n3, t'.there, t'.newF, t'.newZ, t'.os, t'.quiet⟩
  have kb0 : ∀ {s' : Shared} {Z' : Heap} {F' : Addr → Prop}, Step g fr Z2 (Foot σ (wipe hs e1)) s2 Z' F' s' → ∀ i ∈ hs, ∀ xs a, get e1 i = some (.own xs) → σ[i]? = some (some (.ref a)) → (∀ o, s2.heap.get? a = some o → s'.heap.get? a = some o) ∧ Z'.get? a = none ∧ ¬ F' a := fun {s' Z' F'} t i hi xs a h1 h2 => by
    have fa : Foot σ e1 a := ⟨i, xs, h1, h2⟩
    obtain ⟨z1, z2, z3⟩ := S.inv.mine a fa
    obtain ⟨o, ho⟩ := S.inv.foot_at fa
    have nf : ¬ Foot σ (wipe hs e1) a := fun ⟨j, ys, q1, q2⟩ => by
      rw [get_wipe] at q1
      split at q1
      · cases q1
      · rename_i hj
        have := S.inv.inj i j xs ys a h1 q1 h2 q2
        exact hj (this ▸ hi)
    have nw : a ∉ fr := fun z => (List.mem_append.mp z).elim (fun z => (S.wrt a z).2.2 fa) z2
    exact ⟨fun o q => t.keep a o q nf nw z3, t.noZ ho nf z1, t.away ho nf⟩
  refine ⟨II, fp, wr, xs.length, Y, St, Gt, S.is, S.goes, S.st, here ⟨Z2, _, σ, I2, Step.refl, fun b hb => ⟨(S.wrt b hb).1, fun z => (S.wrt b hb).2.2 (foot_wipe z)⟩, .nil, by simpa [more] using k2, fun _ _ => rfl⟩, fun i s1 h' tk x hk htk => ?_, fun i v s1 hlt hY hst x => ?_, fun s1 x => ?_⟩
  · obtain ⟨hh, tk', y, q⟩ := x
    exact ⟨hh, tk', y, fun b o nb z => hk b o nb (q b o nb z)⟩
  · have stW : ∀ b ∈ wr, ∃ o, s1.heap.get? b = some o := fun b hb => S.live _ _ hst b (wsub b hb)
    obtain ⟨Z', ee, σ', y⟩ := open_ x stW
    have z2' : Ext Z2 Z' := y.step.zz
    obtain ⟨x0, hx0, io0⟩ := S.val i v s1.heap (fun b o q => y.inv.sh.zh b o (z2' b o q)) hY
    have io : ItemOk one Z' s1.heap v x0 := ⟨fun q => (io0.one q).ext z2', fun q zs ez => let ⟨T, vals, a, b, f⟩ := io0.tup q zs ez; ⟨T, vals, a, b, f.ext z2'⟩⟩
    have hrun1 : forL (bindTg tg one) (run c b) (xs.drop i) ee = some o1 := y.run
    have hdrop : xs.drop i = x0 :: xs.drop (i + 1) := by
      obtain ⟨hlt, hget⟩ := List.getElem?_eq_some_iff.mp hx0
      rw [List.drop_eq_getElem_cons hlt, hget]
    rw [hdrop] at hrun1
    simp only [forL, Option.bind_eq_some_iff] at hrun1
    obtain ⟨eb, hb1, o2, hb2, hb3⟩ := hrun1
    refine wp_mono (bind_ok (fr := frm en) y.inv hr.hd m4 (mTg_adrs y.inv m4) hb1 io) fun _ s4 q4 => ?_
    obtain ⟨σ4, I4, st4, so4⟩ := q4
    refine wp_mono (hb _ body A en Z' eb σ4 s4 o2 hr rfl m5 I4 hb2) fun fl s5 q5 => ?_
    have so4' : ∀ j, j ∉ tg ++ stored b → σ4[j]? = σ[j]? := fun j hj => (so4 j fun z => hj (List.mem_append_left _ z)).trans (y.so j hj)
    -- on to the next turn
    have next : ∀ {e5 : Env}, PostS g N en σ4 (stored b) Z' (Foot σ4 eb) s4 e5 s5 → forL (bindTg tg one) (run c b) (xs.drop (i + 1)) e5 = some o1 → Gt (i + 1) s5 ∧ St (i + 1) s5.heap := fun {e5} q hrun => by
      obtain ⟨Z5, σ5, st5, I5, so5⟩ := q
      have t15 := st4.trans st5
      have kp : ∀ b ∈ fp, ∀ o, s1.heap.get? b = some o → s5.heap.get? b = some o := fun b hb o ho => by
        refine t15.keep b o ho (fun z => ?_) (S.apart b hb).2.1 (S.apart b hb).2.2
        rcases y.step.newF b z with q | q
        · exact (S.apart b hb).1 q
        · obtain ⟨o', w⟩ := live2 b hb
          rw [w] at q; cases q
      refine ⟨here ⟨Z5, e5, σ5, I5, y.step.trans (t15.frame hfrA), fun b hb => ?_, .nil, hrun, fun j hj => (so5 j fun z => hj (List.mem_append_right _ z)).trans (so4' j hj)⟩, S.goes.frame _ _ _ hst kp⟩
      obtain ⟨n1, n2⟩ := y.loose b hb
      obtain ⟨o, ho⟩ := stW b hb
      exact ⟨t15.noZ ho n2 n1, t15.away ho n2⟩
    cases o2 with
    | nx e5 =>
      obtain ⟨rfl, q⟩ := q5
      exact next q hb3
    | ct e5 =>
      obtain ⟨rfl, q⟩ := q5
      exact next q hb3
    | bk e5 =>
      obtain ⟨rfl, Z5, σ5, st5, I5, so5⟩ := q5
      cases hb3
      have t := y.step.trans ((st4.trans st5).frame hfrA)
      simp only [Out.unhide, Option.map_eq_some_iff] at k3
      obtain ⟨e6, k3, rfl⟩ := k3
      exact nx_of (PostS.unhide (h1 := rfl) S.inv hl S.step I5 (outer t) t.zz (fun j hj => (so5 j fun z => hj (List.mem_append_right _ z)).trans (so4' j hj)) hn (kb0 t) k3)
    | rt w e5 =>
      obtain ⟨v', rfl, Z5, σ5, st5, I5, rr5, so5⟩ := q5
      cases hb3
      have t := y.step.trans ((st4.trans st5).frame hfrA)
      have tF := t.less (F2 := Foot σ5 e5) fun a q => .inl q
      simp only [Out.unhide, Option.map_eq_some_iff] at k3
      obtain ⟨e6, k3, rfl⟩ := k3
      have so6 : ∀ j, j ∉ tg ++ stored b → σ5[j]? = σ[j]? := fun j hj => (so5 j fun z => hj (List.mem_append_right _ z)).trans (so4' j hj)
      obtain ⟨I6, fo⟩ := unhide_ok S.inv hl I5 tF.zz (fun i hi => so6 i (hn i hi)) (kb0 tF) k3
      have to := outer t
      refine ⟨v', rfl, Z5, σ5, ⟨to.zz, to.keep, to.there, fun a q => ?_, to.newZ, to.os, to.quiet⟩, I6, ⟨rr5.1, fun a ha => ⟨(rr5.2 a ha).1, fun z => ?_⟩⟩, so6⟩
      · rcases q with q | q
        · rcases fo a q with z | ⟨j, hj, ys, z1, z2⟩
          · exact to.newF a (.inl z)
          · exact S.step.newF a ⟨j, ys, z1, z2⟩
        · exact to.newF a (.inr q)
      · rcases fo a z with z | ⟨j, hj, ys, z1, z2⟩
        · exact (rr5.2 a ha).2 z
        · exact (kb0 t j hj ys a z1 z2).2.2 (.inr ha)
  · refine wpAny_execs_nil ?_
    obtain ⟨hh, tk, ⟨Z', ee, σ', y⟩, q⟩ := x
    have hrun1 : forL (bindTg tg one) (run c b) (xs.drop xs.length) ee = some o1 := y.run
    rw [List.drop_length] at hrun1
    simp only [forL] at hrun1
    cases hrun1
    simp only [Out.unhide, Option.map_eq_some_iff] at k3
    obtain ⟨e6, k3, rfl⟩ := k3
    have Ie := y.inv.loose (h' := s1.heap) (t' := s1.toks) (wr := wr) q fun b hb => ⟨(y.loose b hb).1, (y.loose b hb).2, (outW b hb)⟩
    have to := outer y.step
    have nos : ∀ b ∈ wr, s.heap.get? b = none := fun b hb => (S.wrt b hb).2.1
    have to1 : Step g (frm en) Z (Foot σ e) s Z' (Foot σ' ee) s1 := ⟨to.zz, fun a o z n1 n2 n3 => q a o (fun w => by rw [nos a w] at z; cases z) (to.keep a o z n1 n2 n3), fun a o z => by
      obtain ⟨o', z'⟩ := to.there a o z
      exact ⟨o', q a o' (fun w => by rw [nos a w] at z; cases z) z'⟩, to.newF, to.newZ, to.os, fun hq => by
      obtain ⟨h1, t1, z⟩ := to.quiet hq
      have : ({ ({ s1 with heap := hh, toks := tk } : Shared) with heap := s1.heap, toks := s1.toks } : Shared) = { ({ s with heap := h1, toks := t1 } : Shared) with heap := s1.heap, toks := s1.toks } := by rw [z]
      exact ⟨s1.heap, s1.toks, this⟩⟩
    refine nx_of (PostS.unhide (h1 := rfl) S.inv hl S.step Ie to1 y.step.zz y.so hn (fun i hi xs a h1 h2 => ?_) k3)
    obtain ⟨b1, b2, b3⟩ := kb0 y.step i hi xs a h1 h2
    exact ⟨fun o ho => q a o (fun w => (S.wrt a w).2.2 ⟨i, xs, h1, h2⟩) (b1 o ho), b2, b3⟩
theorem ss_whl {t : E} {b : S} (ht : ST p c g N k t) (hb : SSB p c g N k b) : SS1 p c g N k (.whl t b) := by
  intro sc stm A en Z e σ s o hr hsc hm I h
  simp only [run] at h
  have hm' : ∃ q body pos, stm = .While q body [] pos ∧ mE p N sc t q = true ∧ mBs p N sc b body = true := by
    unfold mSt at hm
    split at hm <;> (try (simp at hm; done)) <;> (rename_i e1 e2; cases e1 <;> cases e2)
    simp only [Bool.and_eq_true] at hm
    exact ⟨_, _, _, rfl, hm.1, hm.2⟩
  obtain ⟨q, body, pos, rfl, m1, m2⟩ := hm'
  refine wpAny_While (codeAny_whileLoop (fun n s' => ∃ Z' ee σ', Step g (frm en) Z (Foot σ e) s Z' (Foot σ' ee) s' ∧ Inv g N en Z' ee σ' s' ∧ whileL (evT c t) (run c b) n ee = some o ∧ ∀ j, j ∉ stored b → σ'[j]? = σ[j]?) ?_ 1000000 ⟨Z, e, σ, Step.refl, I, h, fun _ _ => rfl⟩)
  rintro n s1 ⟨Z1, e1, σ1, st1, I1, hw, so1⟩
  cases n with
  | zero => simp [whileL] at hw
  | succ n =>
    simp only [whileL, Option.bind_eq_some_iff, Prod.exists] at hw
    obtain ⟨bt, e2, k1, k2⟩ := hw
    refine wpAny_mono (ht sc q A en Z1 e1 σ1 s1 bt e2 hr hsc m1 I1 k1) (fun b' s2 q2 => ?_) fun _ _ z => z.elim
    obtain ⟨rfl, Z2, st2, I2⟩ := q2
    have t2 := st1.trans st2.wide
    cases b' with
    | false =>
      simp only [Bool.false_eq_true, if_false] at k2 ⊢
      cases k2
      exact wpAny_execs_nil (nx_of ⟨Z2, σ1, t2, I2, so1⟩)
    | true =>
      simp only [if_true, Option.bind_eq_some_iff] at k2 ⊢
      obtain ⟨o2, k3, k4⟩ := k2
      refine wpAny_mono (hb sc body A en Z2 e2 σ1 s2 o2 hr hsc m2 I2 k3) (fun fl s3 q3 => ?_) fun _ _ z => z.elim
      cases o2 with
      | nx e3 =>
        obtain ⟨rfl, Z3, σ3, st3, I3, so3⟩ := q3
        exact ⟨n, Nat.lt_succ_self n, Z3, e3, σ3, t2.trans st3, I3, k4, fun j hj => (so3 j hj).trans (so1 j hj)⟩
      | ct e3 =>
        obtain ⟨rfl, Z3, σ3, st3, I3, so3⟩ := q3
        exact ⟨n, Nat.lt_succ_self n, Z3, e3, σ3, t2.trans st3, I3, k4, fun j hj => (so3 j hj).trans (so1 j hj)⟩
      | bk e3 =>
        obtain ⟨rfl, Z3, σ3, st3, I3, so3⟩ := q3
        cases k4
        exact nx_of ⟨Z3, σ3, t2.trans st3, I3, fun j hj => (so3 j hj).trans (so1 j hj)⟩
      | rt w e3 =>
        obtain ⟨v, rfl, Z3, σ3, st3, I3, rr, so3⟩ := q3
        cases k4
        exact ⟨v, rfl, Z3, σ3, t2.trans st3, I3, rr, fun j hj => (so3 j hj).trans (so1 j hj)⟩
end
end Mini

-- M22
set_option Elab.async false
set_option linter.all false
set_option maxRecDepth 100000
set_option maxHeartbeats 4000000
/-! Mini 22: a generator expression's elements: nothing changes meanwhile. -/
namespace Mini
open PySem PyProof.Rows

def G.quiet (g : G) : G := { g with tabs := [], q := true }
section
variable {p : Px} {c : Cf} {g : G} {N : List Str} {k : Nat} {en : PySem.Env} {Z Z1 Z2 Z3 Zq Z' : Heap} {e e1 e2 e3 e' : Env} {σ σ1 σ3 : List (Option Value)} {s s1 s2 s3 s' : Shared} {A : Around} {F F1 F2 : Addr → Prop} {v u : Value} {r : R} {fr : List Addr} {scope : Scope} {tg : List Nat} {wr : List Addr}

theorem G.Ok.quiet (h : g.Ok) : g.quiet.Ok := ⟨h.mod, fun p hp => (by cases hp), fun _ => rfl⟩
theorem get_frzAll {e : Env} {j : Nat} : get (frzAll e) j = (get e j).map fun w => W.d w.data := by
  unfold frzAll get
  rw [List.getElem?_map]
  cases q : e[j]? with
  | none => rfl
  | some o => cases o <;> rfl
/-- what stays while a generator expression runs -/
theorem Inv.still (I : Inv g N en Z e σ s) (hwr : ∀ b ∈ wr, Z.get? b = none ∧ ¬ Foot σ e b) :
    ∃ Zq, Ext Z Zq ∧ Ext Zq s.heap ∧ (∀ b, b ∈ wr ∨ b ∈ frm en → Zq.get? b = none) ∧ ∀ (j : Nat) (w : W), get e j = some w → ∃ v, σ[j]? = some (some v) ∧ Fz Zq w.data v := by
  obtain ⟨Zq, z1, z2⟩ := L2.restrict s.heap fun b => decide (b ∉ wr ∧ b ∉ frm en)
  have out : ∀ b, b ∈ wr ∨ b ∈ frm en → Zq.get? b = none := fun b hb => z2 b (by
    rw [decide_eq_false_iff_not]
    exact fun q => hb.elim q.1 q.2)
  have inn : ∀ b, b ∉ wr → b ∉ frm en → Zq.get? b = s.heap.get? b := fun b h1 h2 => z1 b (by simp [h1, h2])
  have zz : Ext Z Zq := fun b o q => by
    rw [inn b (fun h => by rw [(hwr b h).1] at q; cases q) fun h => by rw [(I.fz b h).1] at q; cases q]
    exact I.sh.zh b o q
  refine ⟨Zq, zz, fun b o q => ?_, out, fun j w hw => ?_⟩
  · by_cases h : b ∈ wr ∨ b ∈ frm en
    · rw [out b h] at q; cases q
    · rw [not_or] at h
      rw [← inn b h.1 h.2]; exact q
  · obtain ⟨v, h1, h2⟩ := I.rep j w hw
    refine ⟨v, h1, ?_⟩
    cases w with
    | d d => exact Fz.ext zz h2
    | own xs =>
      obtain ⟨a, its, n, rfl, q1, q2, q3⟩ := h2
      have fa : Foot σ e a := ⟨j, xs, hw, h1⟩
      refine .lst (n := n) ?_ q2 (q3.ext zz)
      rw [inn a (fun h => (hwr a h).2 fa) (I.mine a fa).2.1]
      exact q1
/-- the frame of a generator expression's block -/
theorem Inv.gblock (I : Inv g N en Z e σ s) (B : Blk N en.scope scope tg) (nc : ∀ y ∈ scope.names, y.2 ≠ .cell) {code : Value} {C : Addr} (hC : s.heap.get? C = none) {s4 : Shared} {m : Str → Option Value}
    (hz : ∀ b, b ∈ wr ∨ b ∈ frm en → Zq.get? b = none) (zb : Ext Z Zq) (zs : Ext Zq s.heap) (keep : ∀ b o, b ∉ wr → s.heap.get? b = some o → s4.heap.get? b = some o) (wf : ∀ b ∈ wr, b ∉ frm en) (hn : s4.heap.Ns C m)
    (rp : ∀ (j : Nat) (w : W), get e j = some w → ∃ v, σ[j]? = some (some v) ∧ Fz Zq w.data v) {e4 : Env} {σ4 : List (Option Value)} (hl : e4.length = e.length) (hl2 : σ4.length = σ.length)
    (h4 : ∀ (j : Nat) (w : W), get e4 j = some w → ∃ d v, w = .d d ∧ σ4[j]? = some (some v) ∧ Fz Zq d v) (ht : ∀ i ∈ tg, ∀ x v, N[i]? = some x → σ4[i]? = some (some v) → m x = some v) (so : ∀ j, j ∉ tg → σ4[j]? = σ[j]?) :
    Inv g.quiet N (genEnv scope (L2.cloFrom en.cells scope.names []) C code builtinsNs en) Zq e4 σ4 s4 := by
  have zC : Zq.get? C = none := by
    cases q : Zq.get? C with
    | none => rfl
    | some o => rw [zs C o q] at hC; cases hC
  have hasO := I.fm.has
  have cellm : ∀ {y cc}, (L2.cloFrom en.cells scope.names []).lookup y = some cc → en.cells.lookup y = some cc ∧ scope.names.lookup y = some .free := fun {y cc} h => by
    rcases L2.cloFrom_mem (PySem.mem_of_lookup h) with z | ⟨z, q⟩
    · cases z
    · obtain ⟨c', hc'⟩ := hasO y (by simpa [PySem.Env.kindOf] using B.free _ z rfl)
      rw [hc'] at q
      exact ⟨by rw [hc', q]; rfl, B.uniq _ z⟩
  have frms : ∀ a, a ∈ frm (genEnv scope (L2.cloFrom en.cells scope.names []) C code builtinsNs en) → a = C ∨ a ∈ frm en := fun a ha => by
    simp only [frm, List.mem_cons] at ha
    rcases ha with h | h
    · exact .inl h
    · obtain ⟨⟨y, b⟩, hm, rfl⟩ := List.mem_map.mp h
      rcases L2.cloFrom_mem (show (y, b) ∈ L2.cloFrom en.cells scope.names [] from hm) with z | ⟨z, q⟩
      · cases z
      · obtain ⟨c', hc'⟩ := hasO y (by simpa [PySem.Env.kindOf] using B.free _ z rfl)
        rw [hc'] at q
        have : b = c' := q
        right
        show b ∈ frm en
        rw [this]
        exact cell_frm hc'
  have noF : ∀ a, ¬ Foot σ4 e4 a := fun a ⟨j, xs, h1, _⟩ => by
    obtain ⟨d, v, q, _⟩ := h4 j _ h1
    cases q
  refine ⟨I.ok.quiet, ⟨fun b o q => keep b o (fun h => by rw [hz b (.inl h)] at q; cases q) (zs b o q), fun b o q => zb b o (I.sh.bz b o q), fun p hp => (by cases hp), fun p hp => (by cases hp), fun q => (by cases q)⟩, ⟨B.kind, I.fm.glob, rfl, I.fm.nd, fun y hy => ?_, fun x y cc h1 h2 => I.fm.inj x y cc (cellm h1).1 (cellm h2).1, fun y cc h => ?_, fun q => (by cases q)⟩, fun a ha => ⟨?_, fun p hp => (by cases hp)⟩, fun a ha => ?_, ⟨⟨m, hn, fun j y w h1 h2 h3 => ?_⟩, fun y cc hc => ?_⟩, hl2.trans I.len, hl.trans I.elen, fun j w hw => ?_, fun i j xs ys a h1 _ h3 _ => absurd ⟨i, xs, h1, h3⟩ (noF a), fun a ha => absurd ha (noF a)⟩
  · rcases hy with hy | hy
    · exact absurd rfl (nc _ (PySem.mem_of_lookup (show scope.names.lookup y = some .cell from hy)))
    · exact L2.mem_lookup (L2.cloFrom_has (cells := en.cells) (acc := []) (PySem.mem_of_lookup (show scope.names.lookup y = some .free from hy)))
  · show cc ≠ C
    intro z
    obtain ⟨o, q⟩ := I.fl _ (cell_frm (cellm h).1)
    rw [z, hC] at q; cases q
  · rcases frms a ha with rfl | h
    · exact zC
    · exact hz a (.inr h)
  · rcases frms a ha with rfl | h
    · obtain ⟨o, _, _, q, _⟩ := hn; exact ⟨o, q⟩
    · obtain ⟨o, q⟩ := I.fl a h
      exact ⟨o, keep a o (fun z => wf a z h) q⟩
  · rcases B.own _ (PySem.mem_of_lookup (show scope.names.lookup y = some .local from h3)) (.inl rfl) with z | ⟨i, z1, z2⟩
    · exact absurd (List.mem_of_getElem? h1) z
    · have := L2.nodup_ix I.fm.nd z2 h1
      subst this
      exact ht i z1 y w h1 h2
  · obtain ⟨q1, q2⟩ := cellm hc
    obtain ⟨v, ⟨o, z1, z2⟩, r⟩ := I.sees.cell y cc q1
    refine ⟨v, ⟨o, keep cc o (fun z => wf cc z (cell_frm q1)) z1, z2⟩, fun j u h1 h2 h3 => ?_⟩
    have nt : j ∉ tg := fun hj => by
      obtain ⟨x, hx, hk⟩ := B.tgs j hj
      rw [h1] at hx
      cases hx
      rw [q2] at hk
      rcases hk with hk | hk <;> cases hk
    rw [so j nt] at h2
    exact r j u h1 h2 (by simpa [PySem.Env.kindOf] using B.free _ (PySem.mem_of_lookup q2) rfl)
  · obtain ⟨d, v, rfl, q1, q2⟩ := h4 j w hw
    exact ⟨v, q1, q2⟩
/-- a step in which nothing changes -/
theorem Step.keeps {Z0 : Heap} {F0 F' : Addr → Prop} (st : Step g.quiet [] Z0 F0 s Z' F' s') (hF : ∀ a, ¬ F0 a) : Keeps s s' := by
  obtain ⟨h, t, e⟩ := st.quiet rfl
  refine ⟨h, t, e, fun b o q => ?_⟩
  have := st.keep b o q (hF b) (by simp) (fun p hp => by cases hp)
  rw [e] at this
  exact this
theorem keeps_trans (a : Keeps s s1) (b : Keeps s1 s2) : Keeps s s2 := by
  obtain ⟨h1, t1, rfl, k1⟩ := a
  obtain ⟨h2, t2, rfl, k2⟩ := b
  exact ⟨h2, t2, rfl, fun b o q => k2 b o (k1 b o q)⟩
end
end Mini

-- M23
set_option Elab.async false
set_option linter.all false
set_option maxRecDepth 100000
set_option maxHeartbeats 4000000
/-! Mini 23: generator expressions begin, and are gone through. -/
namespace Mini
open PySem PyProof.Rows

section
variable {p : Px} {c : Cf} {g : G} {N : List Str} {k : Nat} {en : PySem.Env} {Z Z0 Z1 Z2 Z3 Zq Z' : Heap} {e e1 e2 e3 e' : Env} {σ σ1 σ3 : List (Option Value)} {s s0 s1 s2 s3 s' : Shared} {A : Around} {F F0 F1 F2 : Addr → Prop} {v u : Value} {r : R} {fr : List Addr} {scope : Scope} {tg : List Nat} {wr : List Addr}

def FlatV : PyData → Value → Prop
  | .none, v => v = .none
  | .bool b, v => v = .bool b
  | .int i, v => ∃ t, v = .int i t
  | _, _ => False
theorem flatV_of {h : Heap} {w : W} {d : PyData} (x : Rep Z h v w) (e : w.data = d) (hf : Mini.flat d = true) : FlatV d v := by
  cases d with
  | none => exact (x.flat e (by simp)).none_inv
  | bool b => exact (x.flat e (by simp)).bool_inv
  | int i => exact (x.flat e (by simp)).int_inv
  | _ => simp [Mini.flat] at hf
theorem genL_at {bnd : PyData → Env → Option Env} {test : Env → Option (Bool × Env)} {el : Env → Option (R × Env)} : ∀ {xs : List PyData} {os : List (Option PyData)}, genL bnd test el e xs = some os → os.length = xs.length ∧ ∀ (i : Nat) x, xs[i]? = some x → ∃ o, os[i]? = some o ∧ genV bnd test el e x = some o
  | [], os, h => by
    simp only [genL] at h
    cases h
    exact ⟨rfl, fun i x q => by simp at q⟩
  | x :: xs, os, h => by
    simp only [genL, Option.bind_eq_some_iff, Option.map_eq_some_iff] at h
    obtain ⟨o, h1, l, h2, rfl⟩ := h
    obtain ⟨h3, h4⟩ := genL_at h2
    refine ⟨by simp [h3], fun i y q => ?_⟩
    cases i with
    | zero => simp at q; subst q; exact ⟨o, rfl, h1⟩
    | succ i => simpa using h4 i y (by simpa using q)
def pzOf (os : List (Option PyData)) (i : Nat) : Bool := match os[i]? with
  | some (some _) => true
  | _ => false
theorem passing_os : ∀ (os : List (Option PyData)) (n : Nat) (pz : Nat → Bool), (∀ i, pz (n + i) = pzOf os i) → ((List.range' n os.length).filter pz).length = (os.filterMap id).length ∧ ∀ (j i : Nat), ((List.range' n os.length).filter pz)[j]? = some i → ∃ d, os[i - n]? = some (some d) ∧ (os.filterMap id)[j]? = some d
  | [], n, pz, h => ⟨rfl, fun j i q => by simp at q⟩
  | o :: os, n, pz, h => by
    have ih := passing_os os (n + 1) pz fun i => by
      have := h (i + 1)
      rw [show n + 1 + i = n + (i + 1) by omega, this]
      simp [pzOf]
    have h0 : pz n = pzOf (o :: os) 0 := by simpa using h 0
    have rg : List.range' n (o :: os).length = n :: List.range' (n + 1) os.length := by simp [List.range'_succ]
    rw [rg]
    have lt : ∀ {j i : Nat}, ((List.range' (n + 1) os.length).filter pz)[j]? = some i → n + 1 ≤ i := fun {j i} q => by
      have := List.mem_of_getElem? q
      have := (List.mem_filter.mp this).1
      rw [List.mem_range'_1] at this
      exact this.1
    cases o with
    | none =>
      have : pz n = false := by rw [h0]; rfl
      rw [List.filter_cons_of_neg (by simp [this])]
      refine ⟨by simpa using ih.1, fun j i q => ?_⟩
      obtain ⟨d, q1, q2⟩ := ih.2 j i q
      have := lt q
      refine ⟨d, ?_, by simpa using q2⟩
      rw [show i - n = (i - (n + 1)) + 1 by omega]
      simpa using q1
    | some d0 =>
      have : pz n = true := by rw [h0]; rfl
      rw [List.filter_cons_of_pos this]
      refine ⟨by simpa using ih.1, fun j i q => ?_⟩
      cases j with
      | zero =>
        simp at q
        subst q
        exact ⟨d0, by simp, by simp⟩
      | succ j =>
        have q' : ((List.range' (n + 1) os.length).filter pz)[j]? = some i := by simpa using q
        obtain ⟨d, q1, q2⟩ := ih.2 j i q'
        have := lt q'
        refine ⟨d, ?_, by simpa using q2⟩
        rw [show i - n = (i - (n + 1)) + 1 by omega]
        simpa using q1
theorem passing_is {os : List (Option PyData)} {n : Nat} (hn : n = os.length) : (passing (pzOf os) n 0).length = (os.filterMap id).length ∧ ∀ (j i : Nat), (passing (pzOf os) n 0)[j]? = some i → ∃ d, os[i]? = some (some d) ∧ (os.filterMap id)[j]? = some d := by
  subst hn
  have := passing_os os 0 (pzOf os) fun i => by rw [Nat.zero_add]
  unfold passing
  rw [List.drop_zero, List.range_eq_range']
  exact ⟨this.1, fun j i q => by simpa using this.2 j i q⟩
/-- .. where the code table has grown -/
theorem Inv.tabbed (I : Inv g N en Z e σ s) {q : Addr × Addr} (hq : q ∈ g.tabs) {h' : Heap} {t' : Nat} {Z' : Heap} (zz : Ext Z Z') (zh : Ext Z' h') (back : ∀ b o, Z'.get? b = some o → Z.get? b = some o ∨ s.heap.get? b = none) (k : ∀ b o, b ≠ q.2 → s.heap.get? b = some o → h'.get? b = some o) (hp : ∃ ps : Array Value, h'.get? q.2 = some { cls := .none, data := .fields ps } ∧ TabOk Z' ps) : Inv g N en Z' e σ { s with heap := h', toks := t' } := by
  have zn : ∀ b, Z.get? b = none → (∃ o, s.heap.get? b = some o) → Z'.get? b = none := fun b h1 ⟨o, h2⟩ => by
    cases z : Z'.get? b with
    | none => rfl
    | some u =>
      rcases back b u z with w | w
      · rw [h1] at w; cases w
      · rw [h2] at w; cases w
  refine ⟨I.ok, ⟨zh, fun b o z => zz b o (I.sh.bz b o z), fun p hp' => zn _ (I.sh.tz p hp') (let ⟨ps, z, _⟩ := I.sh.th p hp'; ⟨_, z⟩), fun p hp' => ?_, I.sh.bare⟩, I.fm, fun a ha => ⟨zn a (I.fz a ha).1 (I.fl a ha), (I.fz a ha).2⟩, fun a ha => let ⟨o, z⟩ := I.fl a ha; ⟨o, k a o ((I.fz a ha).2 q hq) z⟩, I.sees.keep fun a ha o z => k a o ((I.fz a ha).2 q hq) z, I.len, I.elen,
    fun i w h => let ⟨v, a, b⟩ := I.rep i w h; ⟨v, a, b.keep zz fun xs b hw hv o ho => k b o ((I.mine b ⟨i, xs, by rw [← hw]; exact h, by rw [a, hv]⟩).2.2 q hq) ho⟩, I.inj, fun a ha => ?_⟩
  · by_cases w : p.2 = q.2
    · rw [w]; exact hp
    · obtain ⟨ps, z1, z2⟩ := I.sh.th p hp'
      exact ⟨ps, k _ _ w z1, z2.ext zz⟩
  · obtain ⟨m1, m2⟩ := I.mine a ha
    exact ⟨zn a m1 (I.foot_at ha), m2⟩
/-- .. where a generator has been gone through -/
theorem Inv.movedTo (I : Inv g N en Z e σ s) {wr : List Addr} (hk : ∀ b o, b ∉ wr → s.heap.get? b = some o → s'.heap.get? b = some o) (hw : ∀ b ∈ wr, Z.get? b = none ∧ ¬ Foot σ e b ∧ b ∉ frm en ∧ ∀ p ∈ g.tabs, b ≠ p.2) (hb : g.q = false → AllBare s'.gens) : Inv g N en Z e σ s' := by
  have J := I.loose (h' := s'.heap) (t' := s'.toks) hk hw
  exact ⟨J.ok, ⟨J.sh.zh, J.sh.bz, J.sh.tz, J.sh.th, hb⟩, J.fm, J.fz, J.fl, J.sees, J.len, J.elen, J.rep, J.inj, J.mine⟩
/-- a generator stands at its beginning -/
def GenReady (g : G) (N : List Str) (en : PySem.Env) (σ : List (Option Value)) (Z0 : Heap) (F0 : Addr → Prop) (s0 : Shared) (e1 : Env) (A : Around) (ds : List PyData) (ga : Value) (s5 : Shared) : Prop :=
  ∃ I fp wr G P St, ga = .ref I ∧ WalksS g.P g.w A.in1 I fp wr G ds.length P St ∧ St 0 s5 ∧ (∀ b ∈ fp, b < s5.heap.objs.size) ∧ (∀ j v, P j v → ∃ d, ds[j]? = some d ∧ FlatV d v) ∧ ∀ s', Moved wr G s5 s' → PostE g N en σ Z0 F0 s0 e1 s'
theorem room_gen {A' : Around} (hr : L2.Room (k + 1) A) (h1 : A'.handled = none) (h2 : A'.depth ≤ A.depth + 1) (h3 : A'.units ≤ A.units + 8) : L2.Room k A' := ⟨h1, by have := hr.dp; omega, by have := hr.un; omega⟩
/-- what the block's tests and elements give, over whatever state that keeps what stood -/
theorem gen_turn {t el : E} {elt : Expr} {ifs : List Expr} {x : PyData} {o : Option PyData} {one : Bool} {A' : Around} {C : Addr} {code : Value} {s4 s5 : Shared} {m : Str → Option Value}
    (ht : ST p c.quiet g.quiet N k t) (hel : SE p c.quiet g.quiet N k el) (hr' : L2.Room k A') (hmi : mIf p N scope t ifs = true) (hme : mE p N scope el elt = true)
    (I : ∀ {eb : Env}, bindTg tg one x (wipe tg (frzAll e1)) = some eb → ∃ σ4, Inv g.quiet N (genEnv scope (L2.cloFrom en.cells scope.names []) C code builtinsNs en) Zq eb σ4 s5 ∧ ∀ a, ¬ Foot σ4 eb a)
    (hv : genV (bindTg tg one) (evT c.quiet t) (ev c.quiet el) (wipe tg (frzAll e1)) x = some o) :
    wpAny (model g.P g.w) A' (testsOf ifs (genEnv scope (L2.cloFrom en.cells scope.names []) C code builtinsNs en)) (fun ok s3 => ok = o.isSome ∧ Keeps s5 s3) (fun _ _ => False) s5 ∧
    (o.isSome = true → wpAny (model g.P g.w) A' (eval elt (genEnv scope (L2.cloFrom en.cells scope.names []) C code builtinsNs en)) (fun y s3 => (∃ d, o = some d ∧ FlatV d y) ∧ Keeps s5 s3) (fun _ _ => False) s5) := by
  unfold genV at hv
  simp only [Option.bind_eq_some_iff, Prod.exists] at hv
  obtain ⟨eb, h1, b, ec, h2, h3⟩ := hv
  obtain ⟨σ4, I4, nf⟩ := I h1
  have hs : (if b = true then o.isSome = true else o.isSome = false) := by
    cases b with
    | true =>
      simp only [if_true, Option.bind_eq_some_iff, Prod.exists] at h3 ⊢
      obtain ⟨y, e3, _, d, _, h5⟩ := h3
      split at h5
      · cases h5; rfl
      · cases h5
    | false =>
      simp only [Bool.false_eq_true, if_false] at h3 ⊢
      cases h3; rfl
  have hb : b = o.isSome := by cases b <;> simp_all
  refine ⟨wp_mono (tests_ok ht hr' rfl hmi I4 h2) fun ok s3 q => ?_, fun ho => ?_⟩
  · obtain ⟨rfl, Z5, st, _⟩ := q
    exact ⟨hb, st.keeps nf⟩
  · have hbt : b = true := hb.trans ho
    subst hbt
    simp only [if_true, Option.bind_eq_some_iff, Prod.exists] at h3
    obtain ⟨y, e3, h4, d, h5, h6⟩ := h3
    split at h6
    · rename_i hf
      cases h6
      refine wp_mono (hel scope elt A' _ Zq eb σ4 s5 y e3 hr' rfl hme I4 h4) fun u s3 q => ?_
      obtain ⟨Z5, st, I5, rr⟩ := q
      obtain ⟨w, ew, rw'⟩ := I5.resD rr h5
      exact ⟨⟨d, rfl, flatV_of rw' ew hf⟩, (st.less (F2 := Foot σ4 e3) fun a z => .inl z).keeps nf⟩
    · cases h6
end
end Mini

-- M24
set_option Elab.async false
set_option linter.all false
set_option maxRecDepth 100000
set_option maxHeartbeats 4000000
/-! Mini 24: generator expressions of one name. -/
namespace Mini
open PySem PyProof.Rows

section
variable {p : Px} {c : Cf} {g : G} {N : List Str} {k : Nat} {en : PySem.Env} {Z Z0 Z1 Z2 Z3 Zq Z' : Heap} {e e1 e2 e3 e' : Env} {σ σ1 σ3 : List (Option Value)} {s s0 s1 s2 s3 s' : Shared} {A : Around} {F F0 F1 F2 : Addr → Prop} {v u : Value} {r : R} {fr : List Addr} {scope : Scope} {tg : List Nat} {wr : List Addr}

/-- the state behind the code object: all is as it was but for the def's table -/
structure Coded (g : G) (q : Addr × Addr) (Z Z' : Heap) (s s4 : Shared) : Prop where
  only : ∃ h t, s4 = { s with heap := h, toks := t }
  keep : ∀ b o, b ≠ q.2 → s.heap.get? b = some o → s4.heap.get? b = some o
  zz : Ext Z Z'
  zh : Ext Z' s4.heap
  back : ∀ b o, Z'.get? b = some o → Z.get? b = some o ∨ s.heap.get? b = none
  tab : ∃ ps : Array Value, s4.heap.get? q.2 = some { cls := .none, data := .fields ps } ∧ TabOk Z' ps
theorem among_app {pos p' : Pos} {c cv : Value} (l : List Value) (h : TriplesOk l) (hc : codeAmong p' (l ++ [rawInt pos.line, rawInt pos.col, c]) = some cv) : codeAmong p' l = some cv ∨ cv = c := by
  fun_induction TriplesOk l with
  | case1 =>
    simp only [List.nil_append, rawInt, codeAmong] at hc
    split at hc
    · exact .inr (Option.some.inj hc).symm
    · cases hc
  | case2 a t b u x rest ih =>
    simp only [List.cons_append, codeAmong] at hc ⊢
    split at hc
    · rename_i q
      rw [if_pos q]
      exact .inl hc
    · rename_i q
      rw [if_neg q]
      exact ih h hc
  | case3 l h1 h2 => exact h.elim
/-- a new code object stays from now on -/
theorem zgrow (I : Inv g N en Z e σ s) {q : Addr × Addr} (hq : q ∈ g.tabs) {h' : Heap} {c' : Addr} {qn : Str} {pos : Pos} {ps : Array Value} (hP : s.heap.get? q.2 = some { cls := .none, data := .fields ps }) (ht : TabOk Z ps) (hx : Heap.ExtBut q.2 s.heap h') (hge : s.heap.objs.size ≤ c') (hrec : h'.CodeRec (.ref c') qn) :
    ∃ Z', Ext Z Z' ∧ Ext Z' h' ∧ (∀ b o, Z'.get? b = some o → Z.get? b = some o ∨ s.heap.get? b = none) ∧ TabOk Z' (ps ++ #[rawInt pos.line, rawInt pos.col, .ref c']) ∧ Z'.CodeRec (.ref c') qn := by
  obtain ⟨Z', z1, z2⟩ := L2.restrict h' fun b => decide (b = c') || (Z.get? b).isSome
  have zs : ∀ b o, Z.get? b = some o → h'.get? b = some o := fun b o z => hx b o (fun w => by rw [w, I.sh.tz q hq] at z; cases z) (I.sh.zh b o z)
  have ez : Ext Z Z' := fun b o z => by
    rw [z1 b (by simp [z])]
    exact zs b o z
  have nc : s.heap.get? c' = none := Heap.get?_none_of_le hge
  have cr : Z'.CodeRec (.ref c') qn := by
    obtain ⟨c2, oc, vs, t, e2, hoc, hd, hv⟩ := hrec
    cases e2
    exact ⟨_, oc, vs, t, rfl, by rw [z1 _ (by simp)]; exact hoc, hd, hv⟩
  refine ⟨Z', ez, fun b o z => ?_, fun b o z => ?_, ⟨?_, fun p' cv hcv => ?_⟩, cr⟩
  · cases c : decide (b = c') || (Z.get? b).isSome with
    | false => rw [z2 b c] at z; cases z
    | true => rw [z1 b c] at z; exact z
  · cases c : decide (b = c') || (Z.get? b).isSome with
    | false => rw [z2 b c] at z; cases z
    | true =>
      rw [z1 b c] at z
      by_cases hb : b = c'
      · rw [hb]; exact .inr nc
      · simp only [hb, decide_false, Bool.false_or, Option.isSome_iff_exists] at c
        obtain ⟨w, hw⟩ := c
        rw [zs b w hw] at z
        cases z
        exact .inl hw
  · have eL : (ps ++ #[rawInt pos.line, rawInt pos.col, .ref c']).toList = ps.toList ++ [rawInt pos.line, rawInt pos.col, .ref c'] := by simp
    rw [eL]
    exact PySem.TriplesOk_snoc _ _ _ _ ht.1
  · have eL : (ps ++ #[rawInt pos.line, rawInt pos.col, .ref c']).toList = ps.toList ++ [rawInt pos.line, rawInt pos.col, .ref c'] := by simp
    rw [eL] at hcv
    rcases among_app _ ht.1 hcv with z | z
    · obtain ⟨q', r⟩ := ht.2 _ _ z
      exact ⟨q', r.keeps ez⟩
    · rw [z]; exact ⟨qn, cr⟩
/-- a generator expression's own code, its built-ins -/
theorem gen_code {Q : Value → Addr → Shared → Prop} {gpos : Pos} (I : Inv g N en Z e σ s) (hg : g.q = false) (h : ∀ q ∈ g.tabs, ∀ code s4 Z4, Coded g q Z Z4 s s4 → Q code builtinsNs s4) :
    WP g A (genexprCode en gpos (en.qual ++ "<genexpr>") scope) (fun code s3 => WP g A (builtinsFor en.globals en.builtins) (fun bi s4 => Q code bi s4) s3) s := by
  obtain ⟨q, hq, hcode⟩ := I.fm.code hg
  have TB := I.ok.tab q hq
  obtain ⟨ps, hP, ht⟩ := I.sh.th q hq
  have cd : PySem.W.CodeHd s.heap q.1 q.2 := TB.code.keeps I.bk
  have cont : ∀ (code : Value) (h3 : Heap) (tk : Nat) (ps' : Array Value) (Z4 : Heap), (∀ b o, b ≠ q.2 → s.heap.get? b = some o → h3.get? b = some o) → h3.get? q.2 = some { cls := .none, data := .fields ps' } → Ext Z Z4 → Ext Z4 h3 → (∀ b o, Z4.get? b = some o → Z.get? b = some o ∨ s.heap.get? b = none) → TabOk Z4 ps' → WP g A (builtinsFor en.globals en.builtins) (fun bi s4 => Q code bi s4) { s with heap := h3, toks := tk } := by
    intro code h3 tk ps' Z4 hk hP3 y1 y2 y3 ht3
    obtain ⟨bm, ob, e1, e2, e3, e4, e5, e6, e7, e8⟩ := TB.bm
    refine wpAny_builtinsFor (m := g.mg) ?_ e1 e2 (hk _ _ e4 (I.bk _ _ e5)) e6 e7 e8 (h q hq code _ Z4 ⟨⟨h3, tk, rfl⟩, hk, y1, y2, y3, ps', hP3, ht3⟩)
    rw [I.fm.glob]
    exact (I.ok.mod.glob.keeps I.bk).at' fun o z => hk _ o TB.gP z
  cases hf : codeAmong gpos ps.toList with
  | none =>
    refine wpAny_genexprCodeX hcode (cd.code hP ht.1) (cd.tab hP) hf fun c' h' tk hx hge hlt hco' hrec htab' _ => ?_
    obtain ⟨Z4, y1, y2, y3, y4, _⟩ := zgrow (pos := gpos) I hq hP ht hx hge hrec
    exact cont _ h' tk _ Z4 (fun b o hb z => hx b o hb z) htab'.2 y1 y2 y3 y4
  | some cv =>
    refine wpAny_genexprCode_hit hcode (cd.code hP ht.1) hf ?_
    exact cont cv s.heap s.toks ps Z (fun b o _ z => z) hP (fun _ _ z => z) I.sh.zh (fun _ _ z => .inl z) ht
theorem Coded.inv (x : Coded g q Z Z' s s3) (hq : q ∈ g.tabs) (I : Inv g N en Z e σ s) : Inv g N en Z' e σ s3 := by
  obtain ⟨h, t, rfl⟩ := x.only
  exact I.tabbed hq x.zz x.zh x.back x.keep x.tab
theorem Coded.out (x : Coded g q Z Z' s s3) {b : Addr} (h1 : Z.get? b = none) (h2 : ∃ o, s.heap.get? b = some o) : Z'.get? b = none := by
  obtain ⟨o, h2⟩ := h2
  cases z : Z'.get? b with
  | none => rfl
  | some u =>
    rcases x.back b u z with w | w
    · rw [h1] at w; cases w
    · rw [h2] at w; cases w
theorem statics_in (I : Inv g N en Z e σ s) : ∃ o, g.base.get? cStatics = some o := by
  obtain ⟨_, hn, _⟩ := I.ok.mod.nolimit
  obtain ⟨o, _, _, z, _⟩ := hn
  exact ⟨o, z⟩
theorem genFold_is {it : Expr} (h1 : noSet it = true) (h2 : noLst it = true) : ∀ x, genFold it en x = pure x := by
  intro x
  have := noSet_is (en := en) h1 x
  cases it <;> first | exact this | (simp [noLst] at h2)
/-- behind a generator: what the statement's start knows -/
theorem gen_after {q : Addr × Addr} {s4 s5 : Shared} {wr' : List Addr} {gi : Nat} (st : Step g [] Z0 F0 s0 Z2 (Foot σ e1) s2) (I : Inv g N en Z2 e1 σ s2) (hq : q ∈ g.tabs) (hg : g.q = false) (cd : Coded g q Z2 Z3 s2 s4)
    (hw : ∀ b ∈ wr', Z3.get? b = none ∧ s0.heap.get? b = none ∧ ¬ Foot σ e1 b ∧ b ∉ frm en ∧ ∀ p ∈ g.tabs, b ≠ p.2)
    (k5 : ∀ b o, s4.heap.get? b = some o → s5.heap.get? b = some o) (os5 : s5.os = s4.os) (bare5 : AllBare s5.gens) (mv : Moved (s4.heap.objs.size :: wr') (GenOnlyQ gi) s5 s') : PostE g N en σ Z0 F0 s0 e1 s' := by
  have I4 := cd.inv hq I
  have nC : s4.heap.get? s4.heap.objs.size = none := get_size _
  obtain ⟨⟨m1, m2, m3⟩, m4⟩ := I4.new nC
  have k4 : ∀ b o, b ∉ s4.heap.objs.size :: wr' → s4.heap.get? b = some o → s'.heap.get? b = some o := fun b o nb z => mv.heap b o nb (k5 b o z)
  have I' : Inv g N en Z3 e1 σ s' := I4.movedTo (wr := s4.heap.objs.size :: wr') k4 (fun b hb => by
    rcases List.mem_cons.mp hb with w | w
    · rw [w]; exact ⟨m1, m4, m2, m3⟩
    · obtain ⟨z1, _, z2, z3⟩ := hw b w; exact ⟨z1, z2, z3⟩) fun _ => AllBare.movedS bare5 mv
  have nos : ∀ b o, s0.heap.get? b = some o → b ∉ s4.heap.objs.size :: wr' := fun b o z w => by
    rcases List.mem_cons.mp w with w | w
    · obtain ⟨o2, z2⟩ := st.there b o z
      have : s4.heap.get? b = none := by rw [w]; exact nC
      by_cases hb : b = q.2
      · obtain ⟨ps, y, _⟩ := cd.tab
        rw [hb, y] at this; cases this
      · rw [cd.keep b o2 hb z2] at this; cases this
    · rw [(hw b w).2.1] at z; cases z
  refine ⟨Z3, ⟨fun b o z => cd.zz b o (st.zz b o z), fun b o z n1 n2 n3 => k4 b o (nos b o z) (cd.keep b o (fun w => n3 q hq w) (st.keep b o z n1 n2 n3)), fun b o z => ?_, st.newF, fun b o z => (cd.back b o z).elim (st.newZ b o) fun w => .inr (.inr (st.fresh w)), ?_, fun h => by rw [hg] at h; cases h⟩, I'⟩
  · obtain ⟨o2, z2⟩ := st.there b o z
    by_cases hb : b = q.2
    · obtain ⟨ps, y, _⟩ := cd.tab
      exact ⟨_, k4 b _ (nos b o z) (by rw [hb]; exact y)⟩
    · exact ⟨o2, k4 b _ (nos b o z) (cd.keep b o2 hb z2)⟩
  · obtain ⟨h, t, rfl⟩ := cd.only
    rw [mv.os, os5]
    exact st.os
theorem gen_one {it t el : E} {x : Str} {px gpos : Pos} {iter elt : Expr} {ifs : List Expr} {xs : List PyData} {os : List (Option PyData)} {hs : List Nat} (hi : SI p c g N (k + 1) it) (ht : ST p c.quiet g.quiet N k t) (hel : SE p c.quiet g.quiet N k el) (hr : L2.Room (k + 1) A) (hg : g.q = false)
    (h1 : isEnum it = false) (h2 : mI p N en.scope it iter = true) (h3 : noSet iter = true) (h3' : noLst iter = true) (h4 : blk N en.scope scope tg = true) (h5 : mTg N scope tg true (.Name x px) = true) (h6 : mIf p N scope t ifs = true) (h7 : mE p N scope el elt = true)
    (h8 : scope.names.lookup (".0" : Str) = some .local) (h9 : ∀ y ∈ scope.names, y.2 ≠ .cell) (I : Inv g N en Z e σ s) (k1 : evI c it e = some (xs, hs, e1)) (k2 : genL (bindTg tg true) (evT c.quiet t) (ev c.quiet el) (wipe tg (frzAll e1)) xs = some os) :
    WP g A (eval (.GeneratorExp elt [⟨.Name x px, iter, ifs, 0⟩] scope gpos) en) (GenReady g N en σ Z (Foot σ e) s e1 A (os.filterMap id)) s := by
  have B := blk_is h4
  obtain ⟨i, rfl, hN, hloc⟩ : ∃ i, tg = [i] ∧ mN N i x = true ∧ loc scope x = true := by
    match tg, h5 with
    | [i], h5 =>
      simp only [mTg, if_true, mT1, Bool.and_eq_true] at h5
      exact ⟨i, rfl, h5.1.1, h5.1.2⟩
    | [], h5 => simp [mTg] at h5
    | _ :: _ :: _, h5 => simp [mTg] at h5
  have hx : scope.names.lookup x = some .local := by
    simp only [loc, Bool.or_eq_true, beq_iff_eq] at hloc
    rcases hloc with z | z
    · exact z
    · exact absurd rfl (h9 _ (PySem.mem_of_lookup z))
  have hfree : ∀ y ∈ scope.names, y.2 = .free → ∃ c, en.cells.lookup y.1 = some c := fun y hy q => I.fm.has _ (by simpa [PySem.Env.kindOf] using B.free y hy q)
  refine wpAny_GeneratorExp_walksQD hr.hd B.co (L2.closure_ok hfree) h9 h8 hx B.kind (by have := hr.dp; omega) ?_ (genFold_is h3 h3')
  refine wp_mono (hi _ iter A en Z e σ s xs hs e1 (.Name x px) true hr rfl h2 (fun q => by rw [h1] at q; cases q) I k1) fun xv s1 q1 => wp_mono q1 fun itv s2 q2 => ?_
  obtain ⟨Z2, II, fp, wr, Y, St, S⟩ := q2
  refine ⟨S.inv.lim, gen_code S.inv hg fun q hq code s4 Z3 cd => ?_⟩
  obtain ⟨fp', wr', Pf, St', WW, hst, hfp, hwr, hval⟩ := S.wk rfl
  have I4 := cd.inv hq S.inv
  have hw : ∀ b ∈ wr', Z3.get? b = none ∧ s.heap.get? b = none ∧ ¬ Foot σ e1 b ∧ b ∉ frm en ∧ ∀ p ∈ g.tabs, b ≠ p.2 := fun b hb => by
    obtain ⟨z1, z2, z3⟩ := S.wrt b (hwr b hb)
    obtain ⟨_, z4, z5⟩ := S.apart b (S.goes.sub b (hwr b hb))
    exact ⟨cd.out z1 (S.live _ _ S.st b (S.goes.sub b (hwr b hb))), z2, z3, z4, z5⟩
  obtain ⟨Zq, zz3, zs, out, rp⟩ := I4.still (wr := wr') fun b hb => ⟨(hw b hb).1, (hw b hb).2.2.1⟩
  have zz : Ext Z2 Zq := fun b o z => zz3 b o (cd.zz b o z)
  obtain ⟨hlen, hall⟩ := genL_at k2
  have turn : ∀ (href : Heap), (∀ b o, s4.heap.get? b = some o → href.get? b = some o) → ∀ (A' : Around) (i' : Nat) (v : Value) (s₂ : Shared) (m₂ : Str → Option Value), A'.handled = none → A'.depth ≤ A.depth + 1 → A'.units ≤ A.units + 8 → Pf i' v → s₂.heap.Ns s4.heap.objs.size m₂ → m₂ x = some v → (∀ b ∈ List.range s4.heap.objs.size, b ∉ wr' → ∀ o, href.get? b = some o → s₂.heap.get? b = some o) →
      ∃ o, os[i']? = some o ∧ wpAny (model g.P g.w) A' (testsOf ifs (genEnv scope (L2.cloFrom en.cells scope.names []) s4.heap.objs.size code builtinsNs en)) (fun ok s3 => ok = o.isSome ∧ Keeps s₂ s3) (fun _ _ => False) s₂ ∧
        (o.isSome = true → wpAny (model g.P g.w) A' (eval elt (genEnv scope (L2.cloFrom en.cells scope.names []) s4.heap.objs.size code builtinsNs en)) (fun y s3 => (∃ d, o = some d ∧ FlatV d y) ∧ Keeps s₂ s3) (fun _ _ => False) s₂) := by
    intro href hhref A' i' v s₂ m₂ hA hd hu hP hn hm hk
    obtain ⟨x0, hx0, fx0⟩ := hval i' v hP
    obtain ⟨o, ho, hv⟩ := hall i' x0 hx0
    refine ⟨o, ho, gen_turn (Zq := Zq) (s4 := s4) (m := m₂) ht hel (room_gen hr hA hd hu) h6 h7 (fun {eb} hb => ?_) hv⟩
    have eb' : eb = (wipe [i] (frzAll e1)).set i (some (.d x0)) := by
      simp only [bindTg, if_true, Option.some.injEq] at hb
      exact hb.symm
    have hi' : i < N.length := (List.getElem?_eq_some_iff.mp (name_at hN)).1
    have g4 : ∀ (j : Nat) (w : W), get eb j = some w → ∃ d u, w = .d d ∧ (σ.set i (some v))[j]? = some (some u) ∧ Fz Zq d u := fun j w hw' => by
      rw [eb', get_set] at hw'
      split at hw'
      · rename_i z
        cases hw'
        exact ⟨x0, v, rfl, by rw [← z.1]; exact sig_self (by rw [I4.len]; exact hi'), fx0.ext zz⟩
      · rename_i z
        rw [get_wipe] at hw'
        split at hw'
        · cases hw'
        · rename_i nj
          rw [get_frzAll, Option.map_eq_some_iff] at hw'
          obtain ⟨w0, q0, rfl⟩ := hw'
          obtain ⟨u, q1, q2⟩ := rp j w0 q0
          refine ⟨w0.data, u, rfl, ?_, q2⟩
          have : i ≠ j := fun z => nj (by rw [z]; exact List.mem_singleton_self _)
          rw [List.getElem?_set_ne this]
          exact q1
    refine ⟨σ.set i (some v), ?_, fun a ⟨j, ys, q1, _⟩ => ?_⟩
    · refine I4.gblock (tg := [i]) B h9 (get_size _) out zz3 zs (fun b o nb z => hk b (List.mem_range.mpr (Heap.lt_size z)) nb o (hhref b o z)) (fun b hb => (hw b hb).2.2.2.1) hn rp ?_ (by rw [List.length_set]) g4 (fun j hj y u q1 q2 => ?_) fun j hj => ?_
      · rw [eb', List.length_set, wipe_len]
        simp [frzAll]
      · have : j = i := by simpa using hj
        subst this
        rw [name_at hN] at q1
        cases q1
        rw [sig_self (by rw [I4.len]; exact hi')] at q2
        cases q2
        exact hm
      · have : i ≠ j := fun z => hj (by rw [z]; exact List.mem_singleton_self _)
        rw [List.getElem?_set_ne this]
    · obtain ⟨d, u, q, _⟩ := g4 j _ q1
      cases q
  have hnst : cStatics ∉ wr' := fun z => by
    obtain ⟨o, w⟩ := statics_in S.inv
    have := (hw _ z).1
    rw [I4.sh.bz _ _ w] at this
    cases this
  refine ⟨II, fp', wr', xs.length, Pf, St', pzOf os, fun i' y => ∃ d, os[i']? = some (some d) ∧ FlatV d y, S.is, WW, (WW A hr.hd).frame _ _ _ hst fun b hb o z => cd.keep b o ((hfp b hb).2 q hq) z, fun b hb => ?_, I4.lim, hnst, fun href hhref => ⟨fun A' E' i' v s₂ m₂ hA hd hu hP hn hm hk => ?_, fun A' E' i' v s₂ m₂ hA hd hu hP hp hn hm hk => ?_⟩, fun ga h₅ tk gs hgb hag hsz5 hk5 W5 hat => ?_⟩
  · obtain ⟨o, z⟩ := (hfp b hb).1
    exact Heap.lt_size (cd.keep b o ((hfp b hb).2 q hq) z)
  · obtain ⟨o, ho, h, _⟩ := turn href hhref A' i' v s₂ m₂ hA hd hu hP hn hm hk
    refine wpAny_mono h (fun ok s3 z => ⟨?_, z.2⟩) fun _ _ z => z.elim
    rw [z.1]
    unfold pzOf
    rw [ho]
    cases o <;> rfl
  · obtain ⟨o, ho, _, h⟩ := turn href hhref A' i' v s₂ m₂ hA hd hu hP hn hm hk
    have : o.isSome = true := by
      unfold pzOf at hp
      rw [ho] at hp
      cases o with
      | none => cases hp
      | some d => rfl
    refine wpAny_mono (h this) (fun y s3 z => ?_) fun _ _ z => z.elim
    obtain ⟨⟨d, rfl, hf⟩, z2⟩ := z
    exact ⟨⟨d, ho, hf⟩, z2⟩
  · obtain ⟨l1, l2⟩ := passing_is (os := os) (n := xs.length) hlen.symm
    rw [l1] at W5
    refine ⟨ga, _, _, _, _, _, rfl, W5.in4_1, hat, fun b hb => ?_, fun j y hy => ?_, fun s' mv => ?_⟩
    · show b < h₅.objs.size
      rw [hsz5]
      rcases List.mem_cons.mp hb with z | z
      · rw [z]; exact Nat.lt_succ_self _
      · rcases List.mem_cons.mp z with z | z
        · rw [z]; exact Nat.lt_succ_of_lt hag
        · exact Nat.lt_succ_of_lt (Nat.lt_trans (List.mem_range.mp z) hag)
    · obtain ⟨i', hij, d, hd, hf⟩ := hy
      obtain ⟨d', q1, q2⟩ := l2 j i' hij
      rw [hd] at q1
      cases q1
      exact ⟨d, q2, hf⟩
    · exact gen_after (s5 := { s4 with gens := s4.gens.push gs, toks := tk, heap := h₅ }) S.step S.inv hq hg cd hw hk5 rfl ((I4.sh.bare hg).push hgb) mv
end
end Mini

-- M25
set_option Elab.async false
set_option linter.all false
set_option maxRecDepth 100000
set_option maxHeartbeats 4000000
/-! Mini 25: generator expressions of two names. -/
namespace Mini
open PySem PyProof.Rows

section
variable {p : Px} {c : Cf} {g : G} {N : List Str} {k : Nat} {en : PySem.Env} {Z Z0 Z1 Z2 Z3 Zq Z' : Heap} {e e1 e2 e3 e' : Env} {σ σ1 σ3 : List (Option Value)} {s s0 s1 s2 s3 s' : Shared} {A : Around} {F F0 F1 F2 : Addr → Prop} {v u : Value} {r : R} {fr : List Addr} {scope : Scope} {tg : List Nat} {wr : List Addr}

theorem gen_two {it t el : E} {x y : Str} {px py pt gpos : Pos} {kt : Nat} {iter elt : Expr} {ifs : List Expr} {xs : List PyData} {os : List (Option PyData)} {hs : List Nat} (hi : SI p c g N (k + 1) it) (ht : ST p c.quiet g.quiet N k t) (hel : SE p c.quiet g.quiet N k el) (hr : L2.Room (k + 1) A) (hg : g.q = false)
    (h1 : x ≠ y) (h2 : mI p N en.scope it iter = true) (h3 : noSet iter = true) (h3' : noLst iter = true) (h4 : blk N en.scope scope tg = true) (h5 : mTg N scope tg false (.Tuple [.Name x px, .Name y py] kt pt) = true) (h6 : mIf p N scope t ifs = true) (h7 : mE p N scope el elt = true)
    (h8 : scope.names.lookup (".0" : Str) = some .local) (h9 : ∀ y ∈ scope.names, y.2 ≠ .cell) (I : Inv g N en Z e σ s) (k1 : evI c it e = some (xs, hs, e1)) (k2 : genL (bindTg tg false) (evT c.quiet t) (ev c.quiet el) (wipe tg (frzAll e1)) xs = some os) :
    WP g A (eval (.GeneratorExp elt [⟨.Tuple [.Name x px, .Name y py] kt pt, iter, ifs, 0⟩] scope gpos) en) (GenReady g N en σ Z (Foot σ e) s e1 A (os.filterMap id)) s := by
  have B := blk_is h4
  obtain ⟨i, i2, rfl, hN, hloc, hN2, hloc2⟩ : ∃ i i2, tg = [i, i2] ∧ mN N i x = true ∧ loc scope x = true ∧ mN N i2 y = true ∧ loc scope y = true := by
    match tg, h5 with
    | [i, i2], h5 =>
      have hn : nst [i, i2] = false := rfl
      simp only [mTg, hn, Bool.false_eq_true, if_false, mTs, mT1, Bool.and_eq_true] at h5
      exact ⟨i, i2, rfl, h5.1.1.1, h5.1.1.2, h5.2.1.1.1, h5.2.1.1.2⟩
    | [], h5 => simp [mTg, mTs, nst] at h5
    | [_], h5 => simp [mTg, mTs, nst] at h5
    | _ :: _ :: _ :: _, h5 => simp [mTg, mTs, mNs] at h5
  have hnst : nst [i, i2] = false := rfl
  have loc2 : ∀ {z : Str}, loc scope z = true → scope.names.lookup z = some .local := fun {z} hl => by
    simp only [loc, Bool.or_eq_true, beq_iff_eq] at hl
    rcases hl with w | w
    · exact w
    · exact absurd rfl (h9 _ (PySem.mem_of_lookup w))
  have hx := loc2 hloc
  have hy := loc2 hloc2
  have ni : i ≠ i2 := fun z => by
    have q1 := name_at hN
    rw [z, name_at hN2] at q1
    exact h1 (Option.some.inj q1).symm
  have hfree : ∀ y ∈ scope.names, y.2 = .free → ∃ c, en.cells.lookup y.1 = some c := fun y hy q => I.fm.has _ (by simpa [PySem.Env.kindOf] using B.free y hy q)
  refine wpAny_GeneratorExp_walksQTD hr.hd B.co (L2.closure_ok hfree) h9 h8 hx hy h1 B.kind (by have := hr.dp; omega) ?_ (genFold_is h3 h3')
  refine wp_mono (hi _ iter A en Z e σ s xs hs e1 (.Tuple [.Name x px, .Name y py] kt pt) false hr rfl h2 (fun q => ⟨rfl, rfl⟩) I k1) fun xv s1 q1 => wp_mono q1 fun itv s2 q2 => ?_
  obtain ⟨Z2, II, fp, wr, Y, St, S⟩ := q2
  refine ⟨S.inv.lim, gen_code S.inv hg fun q hq code s4 Z3 cd => ?_⟩
  obtain ⟨hlen, hall⟩ := genL_at k2
  obtain ⟨fp', wr', Pf, St', Mid, WW, hst, hfp, hwr, hval⟩ := S.wu rfl fun x0 hx0 => by
    obtain ⟨i0, hi0⟩ := List.mem_iff_getElem?.mp hx0
    obtain ⟨o, _, hv⟩ := hall i0 x0 hi0
    unfold genV at hv
    rw [Option.bind_eq_some_iff] at hv
    obtain ⟨eb, hb, _⟩ := hv
    simp only [bindTg, (show nst [i, i2] = false by assumption), bindFl, Bool.false_eq_true, if_false] at hb
    split at hb
    · exact ⟨_, rfl⟩
    · cases hb
  have I4 := cd.inv hq S.inv
  have hw : ∀ b ∈ wr', Z3.get? b = none ∧ s.heap.get? b = none ∧ ¬ Foot σ e1 b ∧ b ∉ frm en ∧ ∀ p ∈ g.tabs, b ≠ p.2 := fun b hb => by
    obtain ⟨z1, z2, z3⟩ := S.wrt b (hwr b hb)
    obtain ⟨_, z4, z5⟩ := S.apart b (S.goes.sub b (hwr b hb))
    exact ⟨cd.out z1 (S.live _ _ S.st b (S.goes.sub b (hwr b hb))), z2, z3, z4, z5⟩
  obtain ⟨Zq, zz3, zs, out, rp⟩ := I4.still (wr := wr') fun b hb => ⟨(hw b hb).1, (hw b hb).2.2.1⟩
  have zz : Ext Z2 Zq := fun b o z => zz3 b o (cd.zz b o z)
  have turn : ∀ (href : Heap), (∀ b o, s4.heap.get? b = some o → href.get? b = some o) → ∀ (A' : Around) (i' : Nat) (v v2 : Value) (s₂ : Shared) (m₂ : Str → Option Value), A'.handled = none → A'.depth ≤ A.depth + 1 → A'.units ≤ A.units + 8 → (i' < xs.length ∧ Pf i' #[v, v2]) → s₂.heap.Ns s4.heap.objs.size m₂ → m₂ x = some v → m₂ y = some v2 → (∀ b ∈ List.range s4.heap.objs.size, b ∉ wr' → ∀ o, href.get? b = some o → s₂.heap.get? b = some o) →
      ∃ o, os[i']? = some o ∧ wpAny (model g.P g.w) A' (testsOf ifs (genEnv scope (L2.cloFrom en.cells scope.names []) s4.heap.objs.size code builtinsNs en)) (fun ok s3 => ok = o.isSome ∧ Keeps s₂ s3) (fun _ _ => False) s₂ ∧
        (o.isSome = true → wpAny (model g.P g.w) A' (eval elt (genEnv scope (L2.cloFrom en.cells scope.names []) s4.heap.objs.size code builtinsNs en)) (fun y s3 => (∃ d, o = some d ∧ FlatV d y) ∧ Keeps s₂ s3) (fun _ _ => False) s₂) := by
    intro href hhref A' i' v v2 s₂ m₂ hA hd hu hP hn hm hm2 hk
    obtain ⟨zs, hx0, fx0⟩ := hval i' _ hP.2
    obtain ⟨o, ho, hv⟩ := hall i' _ hx0
    obtain ⟨d1, d2, rfl, f1, f2⟩ : ∃ d1 d2, zs = [d1, d2] ∧ Fz Z2 d1 v ∧ Fz Z2 d2 v2 := by
      have fl : FzA Z2 zs [v, v2] := fx0
      match zs, fl with
      | [], fl => cases fl.nil_inv
      | [d1], fl =>
        obtain ⟨u, us, q, _, q2⟩ := fl.cons_inv
        cases q
        cases q2.nil_inv
      | [d1, d2], fl =>
        obtain ⟨u, us, q, q1, q2⟩ := fl.cons_inv
        cases q
        obtain ⟨u, us, q, q3, q4⟩ := q2.cons_inv
        cases q
        exact ⟨d1, d2, rfl, q1, q3⟩
      | _ :: _ :: _ :: _, fl =>
        obtain ⟨u, us, q, _, q2⟩ := fl.cons_inv
        cases q
        obtain ⟨u, us, q, _, q4⟩ := q2.cons_inv
        cases q
        obtain ⟨u, us, q, _⟩ := q4.cons_inv
        cases q
    refine ⟨o, ho, gen_turn (Zq := Zq) (s4 := s4) (m := m₂) ht hel (room_gen hr hA hd hu) h6 h7 (fun {eb} hb => ?_) hv⟩
    have eb' : eb = ((wipe [i, i2] (frzAll e1)).set i (some (.d d1))).set i2 (some (.d d2)) := by
      simp only [bindTg, (show nst [i, i2] = false by assumption), bindFl, Bool.false_eq_true, if_false, List.length_cons, List.length_nil, if_true, Option.some.injEq] at hb
      exact hb.symm
    have hi' : i < N.length := (List.getElem?_eq_some_iff.mp (name_at hN)).1
    have hi2' : i2 < N.length := (List.getElem?_eq_some_iff.mp (name_at hN2)).1
    have sg1 : ((σ.set i (some v)).set i2 (some v2))[i]? = some (some v) := by
      rw [List.getElem?_set_ne (Ne.symm ni)]
      exact sig_self (by rw [I4.len]; exact hi')
    have sg2 : ((σ.set i (some v)).set i2 (some v2))[i2]? = some (some v2) := sig_self (by rw [List.length_set, I4.len]; exact hi2')
    have g4 : ∀ (j : Nat) (w : W), get eb j = some w → ∃ d u, w = .d d ∧ ((σ.set i (some v)).set i2 (some v2))[j]? = some (some u) ∧ Fz Zq d u := fun j w hw' => by
      rw [eb', get_set] at hw'
      split at hw'
      · rename_i z
        cases hw'
        exact ⟨d2, v2, rfl, by rw [← z.1]; exact sg2, f2.ext zz⟩
      · rename_i z2
        rw [get_set] at hw'
        split at hw'
        · rename_i z
          cases hw'
          exact ⟨d1, v, rfl, by rw [← z.1]; exact sg1, f1.ext zz⟩
        · rename_i z
          rw [get_wipe] at hw'
          split at hw'
          · cases hw'
          · rename_i nj
            rw [get_frzAll, Option.map_eq_some_iff] at hw'
            obtain ⟨w0, q0, rfl⟩ := hw'
            obtain ⟨u, q1, q2⟩ := rp j w0 q0
            refine ⟨w0.data, u, rfl, ?_, q2⟩
            have n1 : i ≠ j := fun z => nj (by rw [z]; exact List.mem_cons_self)
            have n2 : i2 ≠ j := fun z => nj (by rw [z]; simp)
            rw [List.getElem?_set_ne n2, List.getElem?_set_ne n1]
            exact q1
    refine ⟨(σ.set i (some v)).set i2 (some v2), ?_, fun a ⟨j, ys, q1, _⟩ => ?_⟩
    · refine I4.gblock (tg := [i, i2]) B h9 (get_size _) out zz3 zs (fun b o nb z => hk b (List.mem_range.mpr (Heap.lt_size z)) nb o (hhref b o z)) (fun b hb => (hw b hb).2.2.2.1) hn rp ?_ (by rw [List.length_set, List.length_set]) g4 (fun j hj y u q1 q2 => ?_) fun j hj => ?_
      · rw [eb', List.length_set, List.length_set, wipe_len]
        simp [frzAll]
      · have : j = i ∨ j = i2 := by simpa using hj
        rcases this with rfl | rfl
        · rw [name_at hN] at q1
          cases q1
          rw [sg1] at q2
          cases q2
          exact hm
        · rw [name_at hN2] at q1
          cases q1
          rw [sg2] at q2
          cases q2
          exact hm2
      · have n1 : i ≠ j := fun z => hj (by rw [z]; exact List.mem_cons_self)
        have n2 : i2 ≠ j := fun z => hj (by rw [z]; simp)
        rw [List.getElem?_set_ne n2, List.getElem?_set_ne n1]
    · obtain ⟨d, u, q, _⟩ := g4 j _ q1
      cases q
  have hnst : cStatics ∉ wr' := fun z => by
    obtain ⟨o, w⟩ := statics_in S.inv
    have := (hw _ z).1
    rw [I4.sh.bz _ _ w] at this
    cases this
  refine ⟨II, fp', wr', xs.length, fun i' vals => i' < xs.length ∧ Pf i' vals ∧ ∃ va vb, vals = #[va, vb], St', Mid, pzOf os, fun i' y => ∃ d, os[i']? = some (some d) ∧ FlatV d y, S.is, fun A' hA => ?wl, fun i' vals hv => hv.2.2, (WW A hr.hd).frame _ _ _ hst fun b hb o z => cd.keep b o ((hfp b hb).2 q hq) z, fun b hb => ?_, I4.lim, hnst, fun href hhref => ⟨fun A' E' i' v v2 s₂ m₂ hA hd hu hP hn hm hm2 hk => ?_, fun A' E' i' v v2 s₂ m₂ hA hd hu hP hp hn hm hm2 hk => ?_⟩, fun ga h₅ tk gs hgb hag hsz5 hk5 W5 hat => ?_⟩
  case wl =>
    have two : ∀ i' vals, i' < xs.length → Pf i' vals → ∃ va vb, vals = #[va, vb] := fun i' vals hi' hP => by
      obtain ⟨zs, hx0, fx0⟩ := hval i' vals hP
      obtain ⟨o, _, hv⟩ := hall i' _ hx0
      unfold genV at hv
      rw [Option.bind_eq_some_iff] at hv
      obtain ⟨eb, hb, _⟩ := hv
      simp only [bindTg, (show nst [i, i2] = false by assumption), bindFl, Bool.false_eq_true, if_false] at hb
      split at hb
      · rename_i hl
        have l2 : vals.toList.length = 2 := by rw [fx0.length, hl]; rfl
        obtain ⟨l⟩ := vals
        match l, l2 with
        | [va, vb], _ => exact ⟨va, vb, rfl⟩
      · cases hb
    have W0 := WW A' hA
    exact ⟨W0.sub, W0.frame, fun i' s Q E hi' hst hQ => W0.item i' s Q E hi' hst fun T vals h' tk hP => hQ T vals h' tk ⟨hi', hP, two i' vals hi' hP⟩, W0.go, W0.apart, W0.done, W0.self⟩
  · obtain ⟨o, z⟩ := (hfp b hb).1
    exact Heap.lt_size (cd.keep b o ((hfp b hb).2 q hq) z)
  · obtain ⟨o, ho, h, _⟩ := turn href hhref A' i' v v2 s₂ m₂ hA hd hu ⟨hP.1, hP.2.1⟩ hn hm hm2 hk
    refine wpAny_mono h (fun ok s3 z => ⟨?_, z.2⟩) fun _ _ z => z.elim
    rw [z.1]
    unfold pzOf
    rw [ho]
    cases o <;> rfl
  · obtain ⟨o, ho, _, h⟩ := turn href hhref A' i' v v2 s₂ m₂ hA hd hu ⟨hP.1, hP.2.1⟩ hn hm hm2 hk
    have : o.isSome = true := by
      unfold pzOf at hp
      rw [ho] at hp
      cases o with
      | none => cases hp
      | some d => rfl
    refine wpAny_mono (h this) (fun y s3 z => ?_) fun _ _ z => z.elim
    obtain ⟨⟨d, rfl, hf⟩, z2⟩ := z
    exact ⟨⟨d, ho, hf⟩, z2⟩
  · obtain ⟨l1, l2⟩ := passing_is (os := os) (n := xs.length) hlen.symm
    rw [l1] at W5
    refine ⟨ga, _, _, _, _, _, rfl, W5.in4_1, hat, fun b hb => ?_, fun j y hy => ?_, fun s' mv => ?_⟩
    · show b < h₅.objs.size
      rw [hsz5]
      rcases List.mem_cons.mp hb with z | z
      · rw [z]; exact Nat.lt_succ_self _
      · rcases List.mem_cons.mp z with z | z
        · rw [z]; exact Nat.lt_succ_of_lt hag
        · exact Nat.lt_succ_of_lt (Nat.lt_trans (List.mem_range.mp z) hag)
    · obtain ⟨i', hij, d, hd, hf⟩ := hy
      obtain ⟨d', q1, q2⟩ := l2 j i' hij
      rw [hd] at q1
      cases q1
      exact ⟨d, q2, hf⟩
    · exact gen_after (s5 := { s4 with gens := s4.gens.push gs, toks := tk, heap := h₅ }) S.step S.inv hq hg cd hw hk5 rfl ((I4.sh.bare hg).push hgb) mv
end
end Mini

-- M25w
set_option Elab.async false
set_option linter.all false
set_option maxRecDepth 100000
set_option maxHeartbeats 4000000
/-! Mini 25w: a generator expression over a tuple target of ANY number of names. -/
namespace Mini
open PySem PyProof.Rows
open Sem (wp)
abbrev Nms := List (Str × Pos)
abbrev nmE (q : Str × Pos) : Expr := .Name q.1 q.2
def updN (m : Str → Option Value) : Nms → List Value → Str → Option Value
  | q :: ns, v :: vs => updN (fun y => if y = q.1 then some v else m y) ns vs
  | _, _ => m
theorem updN_out {y : Str} : ∀ {ns : Nms} {vs : List Value} {m : Str → Option Value}, (∀ q ∈ ns, q.1 ≠ y) → updN m ns vs y = m y
  | [], vs, m, _ => by cases vs <;> rfl
  | q :: ns, [], m, _ => rfl
  | q :: ns, v :: vs, m, h => by
    show updN _ ns vs y = m y
    rw [updN_out fun q' hq => h q' (List.mem_cons_of_mem _ hq)]
    rw [if_neg (Ne.symm (h q List.mem_cons_self))]
theorem updN_at : ∀ {ns : Nms} {vs : List Value} {m : Str → Option Value}, (ns.map (·.1)).Nodup → vs.length = ns.length → ∀ (j : Nat) (q : Str × Pos), ns[j]? = some q → updN m ns vs q.1 = vs[j]?
  | [], vs, m, _, _, j, q, h => by simp at h
  | q0 :: ns, [], m, _, hl, _, _, _ => by simp at hl
  | q0 :: ns, v :: vs, m, hd, hl, j, q, h => by
    rw [List.map_cons, List.nodup_cons] at hd
    cases j with
    | zero =>
      obtain rfl : q0 = q := by simpa using h
      show updN _ ns vs q0.1 = some v
      rw [updN_out fun q' hq z => hd.1 (List.mem_map.mpr ⟨q', hq, z⟩)]
      rw [if_pos rfl]
    | succ j => exact updN_at hd.2 (by simpa using hl) j q (by simpa using h)
section
variable {prog : Program} {w : World} {A : Around} {E : Value → Shared → Prop}
theorem each_len {en : PySem.Env} : ∀ ns : Nms, (assignEach (ns.map nmE) en).length = ns.length ∧ (assignEach (ns.map nmE) en).findIdx? (·.1) = none
  | [] => ⟨rfl, rfl⟩
  | q :: ns => by
    obtain ⟨h1, h2⟩ := each_len (en := en) ns
    show ((false, assign (.Name q.1 q.2) en) :: assignEach (ns.map nmE) en).length = _ ∧ ((false, assign (.Name q.1 q.2) en) :: assignEach (ns.map nmE) en).findIdx? (·.1) = none
    refine ⟨by rw [List.length_cons, List.length_cons, h1], ?_⟩
    rw [List.findIdx?_cons, h2]
    rfl
theorem assign_names {cenv : PySem.Env} (hp : (cenv.scope.kind == .class || (cenv.scope.kind == .module && cenv.locals != cenv.globals)) = false) {Q : Unit → Shared → Prop} :
    ∀ (ns : Nms) (vs : List Value) (s : Shared) (m : Str → Option Value), (∀ q ∈ ns, cenv.kindOf q.1 = some .local) → vs.length = ns.length → s.heap.Ns cenv.locals m →
      (∀ h' tk, h'.Ns cenv.locals (updN m ns vs) → (∀ b o, b ≠ cenv.locals → s.heap.get? b = some o → h'.get? b = some o) → Q () { s with heap := h', toks := tk }) →
      wpAny (model prog w) A (assignInOrder ((assignEach (ns.map nmE) cenv).map (·.2)) vs) Q E s
  | [], vs, s, m, _, hl, hn, h => by
    obtain rfl := List.eq_nil_of_length_eq_zero hl
    exact wpAny_assignInOrder_none (h s.heap s.toks hn fun _ _ _ z => z)
  | q :: ns, [], s, m, _, hl, _, _ => by simp at hl
  | q :: ns, v :: vs, s, m, hk, hl, hn, h => by
    show wpAny _ _ (assignInOrder (assign (.Name q.1 q.2) cenv :: (assignEach (ns.map nmE) cenv).map (·.2)) (v :: vs)) _ _ _
    refine wpAny_assignInOrder_more (wpAny_assign_Name (wpAny_storeName_local (hk q List.mem_cons_self) hn (fun h1 hn1 hs1 => ?_) hp))
    refine assign_names hp ns vs _ _ (fun q' hq => hk q' (List.mem_cons_of_mem _ hq)) (by simpa using hl) hn1 fun h2 tk hn2 hs2 => ?_
    exact h h2 tk hn2 fun b o hb z => hs2 b o hb (hs1.extBut b o hb z)
structure QuietN (prog : Program) (w : World) (cenv : PySem.Env) (ns : Nms) (ifs : List Expr) (elt : Expr) (fp wr : List Addr) (Pt : Nat → Array Value → Prop) (pz : Nat → Bool) (F : Nat → Value → Prop) (href : Heap) (D U : Nat) : Prop where
  tests : ∀ (A' : Around) E' i vals (s₂ : Shared) m₂, A'.handled = none → A'.depth ≤ D → A'.units ≤ U → Pt i vals → s₂.heap.Ns cenv.locals m₂ → (∀ (j : Nat) (q : Str × Pos), ns[j]? = some q → m₂ q.1 = vals.toList[j]?) → (∀ b ∈ fp, b ∉ wr → ∀ o, href.get? b = some o → s₂.heap.get? b = some o) →
    wpAny (model prog w) A' (forIn ifs true fun c r => if r = true then do let ok ← isTrue c cenv (eval c cenv); pure (ForInStep.yield ok) else pure (ForInStep.yield r)) (fun ok s₃ => ok = pz i ∧ Keeps s₂ s₃) E' s₂
  elt : ∀ (A' : Around) E' i vals (s₂ : Shared) m₂, A'.handled = none → A'.depth ≤ D → A'.units ≤ U → Pt i vals → pz i = true → s₂.heap.Ns cenv.locals m₂ → (∀ (j : Nat) (q : Str × Pos), ns[j]? = some q → m₂ q.1 = vals.toList[j]?) → (∀ b ∈ fp, b ∉ wr → ∀ o, href.get? b = some o → s₂.heap.get? b = some o) →
    wpAny (model prog w) A' (eval elt cenv) (fun y s₃ => F i y ∧ Keeps s₂ s₃) E' s₂
end
section
variable {prog : Program} {w : World} {A : Around} {elt iter : Expr} {ns : Nms} {pt : Pos} {kt : Nat} {ifs : List Expr} {scope : Scope} {pos : Pos} {I : Addr} {fp wr : List Addr} {n₀ : Nat} {Pt : Nat → Array Value → Prop} {St₀ : Nat → Heap → Prop} {Mid : Nat → Addr → Heap → Prop} {cenv : PySem.Env}
abbrev genX (elt iter : Expr) (ns : Nms) (kt : Nat) (pt : Pos) (ifs : List Expr) (scope : Scope) (pos : Pos) : Expr := .GeneratorExp elt [⟨.Tuple (ns.map nmE) kt pt, iter, ifs, 0⟩] scope pos
theorem seg_loopN
    (hh : A.handled = none) (W₀ : ∀ A' : Around, A'.handled = none → WalksU prog w A' I fp wr n₀ Pt St₀ Mid) (hsz : ∀ i vals, Pt i vals → vals.size = ns.length) (hnd : (ns.map (·.1)).Nodup) (pz : Nat → Bool) (F : Nat → Value → Prop) (href : Heap)
    (hx : ∀ q ∈ ns, cenv.kindOf q.1 = some .local) (hp : (cenv.scope.kind == .class || (cenv.scope.kind == .module && cenv.locals != cenv.globals)) = false)
    (hco : cenv.scope.isCoroutine = false) (hCf : cenv.locals ∉ fp) (hq : QuietN prog w cenv ns ifs elt fp wr Pt pz F href (A.depth + 1) (A.units + 3)) :
    ∀ (k i : Nat) (s₀ s : Shared) (m : Str → Option Value), n₀ - i = k → i ≤ n₀ → St₀ i s.heap → s.heap.Ns cenv.locals m → GenSince cenv.locals wr s₀ s →
      (∀ b ∈ fp, b ∉ wr → ∀ o, href.get? b = some o → s.heap.get? b = some o) →
      Seg (model prog w) A (fun n s₀ r s₁ => r = .ok .next ∧ (n = 0 ∧ GenSince cenv.locals wr s₀ s₁)) (genProto cenv.locals fp wr pz n₀ F) (passing pz n₀ i).length s₀
        (.compLoop (genX elt iter ns kt pt ifs scope pos) 0 (.ref I) .none cenv)
        ((model prog w).den (.compLoop (genX elt iter ns kt pt ifs scope pos) 0 (.ref I) .none cenv)) [] s := by
  have hh' : (A.over (.compLoop (genX elt iter ns kt pt ifs scope pos) 0 (.ref I) .none cenv) []).handled = none := hh
  have hdep' : (A.over (.compLoop (genX elt iter ns kt pt ifs scope pos) 0 (.ref I) .none cenv) []).depth ≤ A.depth + 1 := Nat.le_of_eq rfl
  have huni' : (A.over (.compLoop (genX elt iter ns kt pt ifs scope pos) 0 (.ref I) .none cenv) []).units ≤ A.units + 3 := Nat.le_of_eq rfl
  have hCw : cenv.locals ∉ wr := fun h => hCf ((W₀ A hh).sub _ h)
  intro k
  induction k with
  | zero =>
    intro i s₀ s m hk hi hst hn hsince hkp
    obtain rfl : i = n₀ := by omega
    show Seg _ A _ _ _ s₀ _ ((compTurn (genX elt iter ns kt pt ifs scope pos) 0 (.ref I) .none cenv).onRaise (leaving cenv)) [] s
    rw [compTurn_gen, Sem.onRaise_eq_wrap]
    refine seg_bind_wrap (wpAny_standAt (seg_bind_wrap ((W₀ _ hh').done s _ _ hst fun h' tk hk' => ?_)))
    exact seg_end (.ok .next) ⟨rfl, by rw [passing_end]; rfl, hsince.step fun b o _ hw e => hk' b o hw e⟩
  | succ k ih =>
    intro i s₀ s m hk hi hst hn hsince hkp
    have hlt : i < n₀ := by omega
    show Seg _ A _ _ _ s₀ _ ((compTurn (genX elt iter ns kt pt ifs scope pos) 0 (.ref I) .none cenv).onRaise (leaving cenv)) [] s
    rw [compTurn_gen, Sem.onRaise_eq_wrap]
    refine seg_bind_wrap (wpAny_standAt (seg_bind_wrap ((W₀ _ hh').item i s _ _ hlt hst fun T vals g1 tk1 hP hT hmid j1 => ?_)))
    refine seg_bind_wrap ((W₀ _ hh').go _ _ _ i T _ _ _ hmid fun g2 hst2 j2 => ?_)
    have hT2 : g2.IsTuple T vals := let ⟨o, e, r⟩ := hT; ⟨o, j2 _ o ((W₀ _ hh').apart i T _ hmid) e, r⟩
    obtain ⟨c1, c2⟩ := each_len (en := cenv) ns
    refine seg_bind_wrap (wpAny_assign_Tuple hh' hT2 (by rw [c1, hsz i vals hP]) c2 fun g3 x3 => ?_)
    replace x3 : Heap.ExtBut g2.objs.size g2 g3 := x3
    have j3 : ∀ b o, g2.get? b = some o → g3.get? b = some o := fun b o e => x3 b o (Nat.ne_of_lt (Heap.lt_size e)) e
    refine assign_names hp ns vals.toList _ m hx (by rw [Array.length_toList, hsz i vals hP]) (hn.at' fun o e => j3 _ o (j2 _ o hCw (j1 _ o hCw e))) fun g4 tk4 hn4 j4 => ?_
    have u4 : ∀ b o, b ≠ cenv.locals → b ∉ wr → s.heap.get? b = some o → g4.get? b = some o := fun b o hb hw e => j4 b o hb (j3 b o (j2 b o hw (j1 b o hw e)))
    have hst4 : St₀ (i + 1) g4 := (W₀ A hh).frame _ _ _ hst2 fun b hb o e => j4 b o (fun h => hCf (h ▸ hb)) (j3 b o e)
    have hkp4 : ∀ b ∈ fp, b ∉ wr → ∀ o, href.get? b = some o → g4.get? b = some o := fun b hb hw o e => u4 b o (fun h => hCf (h ▸ hb)) hw (hkp b hb hw o e)
    have at4 : ∀ (j : Nat) (q : Str × Pos), ns[j]? = some q → updN m ns vals.toList q.1 = vals.toList[j]? := updN_at hnd (by rw [Array.length_toList, hsz i vals hP])
    refine seg_bind_wrap (wpAny_mono (hq.tests _ _ i vals _ _ hh' hdep' huni' hP hn4 at4 hkp4) (fun ok s5 h5 => ?_) fun _ _ e => e)
    obtain ⟨rfl, g5, tk5, rfl, j5⟩ := h5
    have hst5 : St₀ (i + 1) g5 := (W₀ A hh).frame _ _ _ hst4 fun b _ o e => j5 b o e
    have hn5 := hn4.keeps j5
    have since5 : GenSince cenv.locals wr s₀ { s with heap := g5, toks := tk5 } := hsince.step fun b o hb hw e => j5 b o (u4 b o hb hw e)
    cases hpz : pz i with
    | false =>
      rw [passing_false hlt hpz]
      simp only [Bool.false_eq_true, if_false]
      exact seg_again rfl (ih (i + 1) s₀ _ _ (by omega) hlt hst5 hn5 since5 fun b hb hw o e => j5 b o (hkp4 b hb hw o e))
    | true =>
      rw [passing_true hlt hpz, List.length_cons]
      simp only [if_true]
      have hy : ∀ v, yieldOut cenv v = yieldValue v := fun v => by simp only [yieldOut, hco, Bool.false_eq_true, if_false]
      simp only [hy]
      rw [Sem.bind_eq_wrap', Sem.bind_eq_wrap', Sem.wrap_wrap, Sem.wrap_wrap]
      refine seg_wrap (wpAny_mono (hq.elt _ _ i vals _ _ hh' hdep' huni' hP hpz hn5 at4 fun b hb hw o e => j5 b o (hkp4 b hb hw o e)) (fun y s6 h6 => ?_) fun _ _ e => e)
      obtain ⟨hFy, g6, tk6, rfl, j6⟩ := h6
      refine seg_at (seg_yield rfl rfl rfl ⟨⟨i, passing_here hlt hpz, hFy⟩, since5.step fun b o _ _ e => j6 b o e, fun s'' hal => ?_⟩)
      refine seg_again rfl (ih (i + 1) s'' s'' _ (by omega) hlt ((W₀ A hh).frame _ _ _ hst5 fun b hb o e => hal b (List.mem_cons_of_mem _ hb) o (j6 b o e))
        ((hn5.keeps j6).at' fun o e => hal _ (List.mem_cons_self ..) o e) (GenSince.refl _ _ _) fun b hb hw o e => hal b (List.mem_cons_of_mem _ hb) o (j6 b o (j5 b o (hkp4 b hb hw o e))))
theorem seg_startN
    (hh : A.handled = none) (W₀ : ∀ A' : Around, A'.handled = none → WalksU prog w A' I fp wr n₀ Pt St₀ Mid) (hsz : ∀ i vals, Pt i vals → vals.size = ns.length) (hnd : (ns.map (·.1)).Nodup) (pz : Nat → Bool) (F : Nat → Value → Prop) (href : Heap)
    (hx : ∀ q ∈ ns, cenv.kindOf q.1 = some .local) (hp : (cenv.scope.kind == .class || (cenv.scope.kind == .module && cenv.locals != cenv.globals)) = false)
    (hco : cenv.scope.isCoroutine = false) (hCf : cenv.locals ∉ fp) (hq : QuietN prog w cenv ns ifs elt fp wr Pt pz F href (A.depth + 1) (A.units + 3))
    (s₀ s : Shared) (m : Str → Option Value) (hst : St₀ 0 s.heap) (hn : s.heap.Ns cenv.locals m) (hsince : GenSince cenv.locals wr s₀ s)
    (hkp : ∀ b ∈ fp, b ∉ wr → ∀ o, href.get? b = some o → s.heap.get? b = some o) :
    Seg (model prog w) A (fun n s₀ r s₁ => r = .ok .next ∧ (n = 0 ∧ GenSince cenv.locals wr s₀ s₁)) (genProto cenv.locals fp wr pz n₀ F) (passing pz n₀ 0).length s₀
      (.compStart (genX elt iter ns kt pt ifs scope pos) 0 (.ref I) .none cenv)
      ((model prog w).den (.compStart (genX elt iter ns kt pt ifs scope pos) 0 (.ref I) .none cenv)) [] s := by
  have hh' : (A.over (.compStart (genX elt iter ns kt pt ifs scope pos) 0 (.ref I) .none cenv) []).handled = none := hh
  have loop := seg_loopN (elt := elt) (iter := iter) (kt := kt) (pt := pt) (scope := scope) (pos := pos) hh W₀ hsz hnd pz F href hx hp hco hCf hq n₀ 0 s₀ s m (Nat.sub_zero _) (Nat.zero_le _) hst hn hsince hkp
  show Seg _ A _ _ _ s₀ _ ((compStart (genX elt iter ns kt pt ifs scope pos) 0 (.ref I) .none cenv).onRaise (leaving cenv)) [] s
  unfold compStart
  rw [Sem.onRaise_eq_wrap]
  show Seg _ A _ _ _ s₀ _ ((ask >>= _).wrap _ _ _ _) [] s
  refine seg_bind_wrap (wpAny_askSetting ?_)
  split
  · exact seg_again rfl loop
  · first
      | exact seg_bind_wrap (wpAny_rule (seg_bind_wrap (wpAny_standAt (seg_bind_wrap ((W₀ _ hh').self 0 s _ _ hst (seg_again rfl loop))))))
      | (refine seg_bind_wrap (wpAny_rule ?_); show Seg _ A _ _ _ s₀ _ ((standAt iter.pos >>= _).wrap _ _ _ _) [] s; exact seg_bind_wrap (wpAny_standAt (seg_bind_wrap ((W₀ _ hh').self 0 s _ _ hst (seg_again rfl loop)))))
theorem freshN {a : Addr} {gi : Nat} {s : Shared} {m : Str → Option Value}
    (hh : A.handled = none) (W₀ : ∀ A' : Around, A'.handled = none → WalksU prog w A' I fp wr n₀ Pt St₀ Mid) (hsz : ∀ i vals, Pt i vals → vals.size = ns.length) (hnd : (ns.map (·.1)).Nodup) (pz : Nat → Bool) (F : Nat → Value → Prop)
    (hx : ∀ q ∈ ns, cenv.kindOf q.1 = some .local) (hp : (cenv.scope.kind == .class || (cenv.scope.kind == .module && cenv.locals != cenv.globals)) = false)
    (hco : cenv.scope.isCoroutine = false) (hCf : cenv.locals ∉ fp) (hq : QuietN prog w cenv ns ifs elt fp wr Pt pz F s.heap (A.depth + 1) (A.units + 4))
    (hg : s.heap.IsGen a gi) (hgs : s.gens[gi]? = some (.fresh (.compStart (genX elt iter ns kt pt ifs scope pos) 0 (.ref I) .none cenv)))
    (hst : St₀ 0 s.heap) (hn : s.heap.Ns cenv.locals m) (hl : s.heap.NoLimit) : GenAt prog w A a gi cenv.locals fp wr pz n₀ F 0 s :=
  ⟨hg, hl, _, hgs, fun s'' hal => ⟨rfl, seg_startN (A := A.in1) hh W₀ hsz hnd pz F s.heap hx hp hco hCf hq s'' s'' m ((W₀ A hh).frame _ _ _ hst fun b hb o e => hal b (List.mem_cons_of_mem _ hb) o e)
    (hn.at' fun o e => hal _ (List.mem_cons_self ..) o e) (GenSince.refl _ _ _) fun b hb _ o e => hal b (List.mem_cons_of_mem _ hb) o e⟩⟩
end
section
variable {prog : Program} {w : World} {A : Around} {E : Value → Shared → Prop} {s : Shared}
theorem wp_genN {env : PySem.Env} {elt iter : Expr} {ns : Nms} {pt : Pos} {kt : Nat} {ifs : List Expr} {scope : Scope} {cl : List (Str × Addr)} {pos : Pos} {Q : Value → Shared → Prop}
    (hh : A.handled = none) (hco : scope.isCoroutine = false) (hclos : closureFor scope env = pure cl) (hcell : ∀ y ∈ scope.names, y.2 ≠ .cell) (h0 : scope.names.lookup (".0" : Str) = some NameKind.local)
    (hx : ∀ q ∈ ns, scope.names.lookup q.1 = some .local) (hnd : (ns.map (·.1)).Nodup) (hkind : scope.kind = .function) (hroom : A.depth < recursionLimit)
    (h : wpAny (model prog w) A (eval iter env) (fun xv s₁ => wpAny (model prog w) A (pyIter xv) (fun it s₂ => s₂.heap.NoLimit ∧
      wpAny (model prog w) A (genexprCode env pos (env.qual ++ "<genexpr>") scope) (fun code s₃ => wpAny (model prog w) A (builtinsFor env.globals env.builtins) (fun bi s₄ =>
        ∃ I fp wr n₀ Pt St₀ Mid pz F, it = .ref I ∧ (∀ A' : Around, A'.handled = none → WalksU prog w A' I fp wr n₀ Pt St₀ Mid) ∧ (∀ i vals, Pt i vals → vals.size = ns.length) ∧ St₀ 0 s₄.heap ∧ (∀ b ∈ fp, b < s₄.heap.objs.size) ∧ s₄.heap.NoLimit ∧ cStatics ∉ wr ∧
          (∀ href : Heap, (∀ b o, s₄.heap.get? b = some o → href.get? b = some o) →
            QuietN prog w (genEnv scope cl s₄.heap.objs.size code bi env) ns ifs elt (List.range s₄.heap.objs.size) wr Pt pz F href (A.depth + 1) (A.units + 8)) ∧
          (∀ a h₅ tk gs, gs.bare = true → s₄.heap.objs.size < a → h₅.objs.size = a + 1 → (∀ b o, s₄.heap.get? b = some o → h₅.get? b = some o) →
            WalksS prog w A.in4 a (a :: s₄.heap.objs.size :: List.range s₄.heap.objs.size) (s₄.heap.objs.size :: wr) (GenOnlyQ s₄.gens.size) (passing pz n₀ 0).length
              (fun j y => ∃ i, (passing pz n₀ 0)[j]? = some i ∧ F i y) (GenAt prog w A.in4 a s₄.gens.size s₄.heap.objs.size (List.range s₄.heap.objs.size) wr pz n₀ F) →
            GenAt prog w A.in4 a s₄.gens.size s₄.heap.objs.size (List.range s₄.heap.objs.size) wr pz n₀ F 0 { s₄ with gens := s₄.gens.push gs, toks := tk, heap := h₅ } →
            Q (.ref a) { s₄ with gens := s₄.gens.push gs, toks := tk, heap := h₅ })) E s₃) E s₂) E s₁) E s)
    (hs : ∀ x, genFold iter env x = pure x) : wpAny (model prog w) A (eval (genX elt iter ns kt pt ifs scope pos) env) Q E s := by
  refine wpAny_GeneratorExp_make hco hclos hcell h0 hkind hroom (wpAny_mono h (fun xv s₁ h₁ => wpAny_mono h₁ (fun it s₂ h₂ => ⟨h₂.1, wpAny_mono h₂.2 (fun code s₃ h₃ => wpAny_mono h₃ (fun bi s₄ h₄ => ?_)
    fun _ _ e => e) fun _ _ e => e⟩) fun _ _ e => e) fun _ _ e => e) hs
  obtain ⟨I, fp, wr, n₀, Pt, St₀, Mid, pz, F, rfl, W₀, hsz2, hst, hfp, hl₄, hcw, hq, hQ⟩ := h₄
  have hclt : cStatics < s₄.heap.objs.size := let ⟨_, hn, _⟩ := hl₄; hn.lt
  intro h' hn' hs'
  have hsz : h'.objs.size = s₄.heap.objs.size + 1 := by rw [hs'.1, Heap.size_push]
  have keep' : ∀ b o, s₄.heap.get? b = some o → h'.get? b = some o := fun b o e => hs'.extBut b o (Nat.ne_of_lt (Heap.lt_size e)) (Heap.get?_push_of_some _ e)
  have hsub : ∀ b ∈ wr, b ∈ List.range s₄.heap.objs.size := fun b hb => List.mem_range.mpr (hfp b ((W₀ A hh).sub b hb))
  have haC : h'.objs.size ≠ s₄.heap.objs.size := by rw [hsz]; exact Nat.succ_ne_self _
  have haf : h'.objs.size ∉ List.range s₄.heap.objs.size := fun hm => by have := List.mem_range.mp hm; omega
  have keep₅ : ∀ b o, s₄.heap.get? b = some o → (h'.push { cls := .type "generator", data := .fields #[.int s₄.gens.size 0, .str "<genexpr>" (s₄.toks + 1), .str (env.qual ++ "<genexpr>") (s₄.toks + 1 + 1)] }).get? b = some o :=
    fun b o e => Heap.get?_push_of_some _ (keep' b o e)
  refine hQ _ _ _ _ rfl (by omega) (by rw [Heap.size_push]) keep₅ (WalksS.genexpQ (A := A.in4) hh _ _ _ _ wr pz n₀ F haC haf hsub hroom (List.mem_range.mpr hclt) (Nat.ne_of_lt hclt) hcw) ?_
  refine freshN (A := A.in4) (cenv := genEnv scope cl s₄.heap.objs.size code bi env) (m := fun y => if y = ".0" then some (.ref I) else none) hh
    (fun A' hA => (W₀ A' hA).mono_fp fun b hb => List.mem_range.mpr (hfp b hb)) hsz2 hnd pz F hx (by simp [genEnv, hkind]) hco
    (fun hm => Nat.lt_irrefl _ (List.mem_range.mp hm)) (hq _ keep₅) ⟨_, _, _, Heap.get?_push_size _ rfl, rfl, rfl, rfl⟩ (Array.getElem?_push_size ..) ((W₀ A hh).frame _ _ _ hst fun b _ o e => keep₅ b o e) (hn'.push _) (hl₄.keeps keep₅)
end
end Mini

-- M25x
set_option Elab.async false
set_option linter.all false
set_option maxRecDepth 100000
set_option maxHeartbeats 4000000
/-! Mini 25x: generator expressions of three names. -/
namespace Mini
open PySem PyProof.Rows

section
variable {p : Px} {c : Cf} {g : G} {N : List Str} {k : Nat} {en : PySem.Env} {Z Z0 Z1 Z2 Z3 Zq Z' : Heap} {e e1 e2 e3 e' : Env} {σ σ1 σ3 : List (Option Value)} {s s0 s1 s2 s3 s' : Shared} {A : Around} {F F0 F1 F2 : Addr → Prop} {v u : Value} {r : R} {fr : List Addr} {scope : Scope} {tg : List Nat} {wr : List Addr}

theorem gen_tri {it t el : E} {x y x3 : Str} {px py px3 pt gpos : Pos} {kt : Nat} {iter elt : Expr} {ifs : List Expr} {xs : List PyData} {os : List (Option PyData)} {hs : List Nat} (hi : SI p c g N (k + 1) it) (ht : ST p c.quiet g.quiet N k t) (hel : SE p c.quiet g.quiet N k el) (hr : L2.Room (k + 1) A) (hg : g.q = false)
    (h1 : x ≠ y) (h13 : x ≠ x3) (h23 : y ≠ x3) (h2 : mI p N en.scope it iter = true) (h3 : noSet iter = true) (h3' : noLst iter = true) (h4 : blk N en.scope scope tg = true) (h5 : mTg N scope tg false (.Tuple [.Name x px, .Name y py, .Name x3 px3] kt pt) = true) (h6 : mIf p N scope t ifs = true) (h7 : mE p N scope el elt = true)
    (h8 : scope.names.lookup (".0" : Str) = some .local) (h9 : ∀ y ∈ scope.names, y.2 ≠ .cell) (I : Inv g N en Z e σ s) (k1 : evI c it e = some (xs, hs, e1)) (k2 : genL (bindTg tg false) (evT c.quiet t) (ev c.quiet el) (wipe tg (frzAll e1)) xs = some os) :
    WP g A (eval (.GeneratorExp elt [⟨.Tuple [.Name x px, .Name y py, .Name x3 px3] kt pt, iter, ifs, 0⟩] scope gpos) en) (GenReady g N en σ Z (Foot σ e) s e1 A (os.filterMap id)) s := by
  have B := blk_is h4
  obtain ⟨i, i2, i3, rfl, hnst, hN, hloc, hN2, hloc2, hN3, hloc3⟩ : ∃ i i2 i3, tg = [i, i2, i3] ∧ nst [i, i2, i3] = false ∧ mN N i x = true ∧ loc scope x = true ∧ mN N i2 y = true ∧ loc scope y = true ∧ mN N i3 x3 = true ∧ loc scope x3 = true := by
    match tg, h5 with
    | [i, i2, i3], h5 =>
      have hn : nst [i, i2, i3] = false := by
        cases q : nst [i, i2, i3] with
        | false => rfl
        | true => simp [mTg, q, mNs] at h5
      simp only [mTg, hn, Bool.false_eq_true, if_false, mTs, mT1, Bool.and_eq_true] at h5
      exact ⟨i, i2, i3, rfl, hn, h5.1.1.1, h5.1.1.2, h5.2.1.1.1, h5.2.1.1.2, h5.2.2.1.1.1, h5.2.2.1.1.2⟩
    | [], h5 => simp [mTg, mTs, nst] at h5
    | [_], h5 => simp [mTg, mTs, nst] at h5
    | [_, _], h5 => simp [mTg, mTs, nst] at h5
    | _ :: _ :: _ :: _ :: _, h5 => simp [mTg, mTs, mNs] at h5
  have loc2 : ∀ {z : Str}, loc scope z = true → scope.names.lookup z = some .local := fun {z} hl => by
    simp only [loc, Bool.or_eq_true, beq_iff_eq] at hl
    rcases hl with w | w
    · exact w
    · exact absurd rfl (h9 _ (PySem.mem_of_lookup w))
  have hx := loc2 hloc
  have hy := loc2 hloc2
  have hz := loc2 hloc3
  have ni : i ≠ i2 := fun z => by
    have q1 := name_at hN
    rw [z, name_at hN2] at q1
    exact h1 (Option.some.inj q1).symm
  have ni13 : i ≠ i3 := fun z => by
    have q1 := name_at hN
    rw [z, name_at hN3] at q1
    exact h13 (Option.some.inj q1).symm
  have ni23 : i2 ≠ i3 := fun z => by
    have q1 := name_at hN2
    rw [z, name_at hN3] at q1
    exact h23 (Option.some.inj q1).symm
  have hfree : ∀ y ∈ scope.names, y.2 = .free → ∃ c, en.cells.lookup y.1 = some c := fun y hy q => I.fm.has _ (by simpa [PySem.Env.kindOf] using B.free y hy q)
  refine wp_genN (ns := [(x, px), (y, py), (x3, px3)]) hr.hd B.co (L2.closure_ok hfree) h9 h8 (fun q hq => by
    simp only [List.mem_cons, List.not_mem_nil, or_false] at hq
    rcases hq with rfl | rfl | rfl
    · exact hx
    · exact hy
    · exact hz) (by simp [h1, h13, h23]) B.kind (by have := hr.dp; omega) ?_ (genFold_is h3 h3')
  refine wp_mono (hi _ iter A en Z e σ s xs hs e1 (.Tuple [.Name x px, .Name y py, .Name x3 px3] kt pt) false hr rfl h2 (fun q => ⟨rfl, rfl⟩) I k1) fun xv s1 q1 => wp_mono q1 fun itv s2 q2 => ?_
  obtain ⟨Z2, II, fp, wr, Y, St, S⟩ := q2
  refine ⟨S.inv.lim, gen_code S.inv hg fun q hq code s4 Z3 cd => ?_⟩
  obtain ⟨hlen, hall⟩ := genL_at k2
  obtain ⟨fp', wr', Pf, St', Mid, WW, hst, hfp, hwr, hval⟩ := S.wu rfl fun x0 hx0 => by
    obtain ⟨i0, hi0⟩ := List.mem_iff_getElem?.mp hx0
    obtain ⟨o, _, hv⟩ := hall i0 x0 hi0
    unfold genV at hv
    rw [Option.bind_eq_some_iff] at hv
    obtain ⟨eb, hb, _⟩ := hv
    simp only [bindTg, (show nst [i, i2, i3] = false by assumption), bindFl, Bool.false_eq_true, if_false] at hb
    split at hb
    · exact ⟨_, rfl⟩
    · cases hb
  have I4 := cd.inv hq S.inv
  have hw : ∀ b ∈ wr', Z3.get? b = none ∧ s.heap.get? b = none ∧ ¬ Foot σ e1 b ∧ b ∉ frm en ∧ ∀ p ∈ g.tabs, b ≠ p.2 := fun b hb => by
    obtain ⟨z1, z2, z3⟩ := S.wrt b (hwr b hb)
    obtain ⟨_, z4, z5⟩ := S.apart b (S.goes.sub b (hwr b hb))
    exact ⟨cd.out z1 (S.live _ _ S.st b (S.goes.sub b (hwr b hb))), z2, z3, z4, z5⟩
  obtain ⟨Zq, zz3, zs, out, rp⟩ := I4.still (wr := wr') fun b hb => ⟨(hw b hb).1, (hw b hb).2.2.1⟩
  have zz : Ext Z2 Zq := fun b o z => zz3 b o (cd.zz b o z)
  have turn : ∀ (href : Heap), (∀ b o, s4.heap.get? b = some o → href.get? b = some o) → ∀ (A' : Around) (i' : Nat) (v v2 v3 : Value) (s₂ : Shared) (m₂ : Str → Option Value), A'.handled = none → A'.depth ≤ A.depth + 1 → A'.units ≤ A.units + 8 → (i' < xs.length ∧ Pf i' #[v, v2, v3]) → s₂.heap.Ns s4.heap.objs.size m₂ → m₂ x = some v → m₂ y = some v2 → m₂ x3 = some v3 → (∀ b ∈ List.range s4.heap.objs.size, b ∉ wr' → ∀ o, href.get? b = some o → s₂.heap.get? b = some o) →
      ∃ o, os[i']? = some o ∧ wpAny (model g.P g.w) A' (testsOf ifs (genEnv scope (L2.cloFrom en.cells scope.names []) s4.heap.objs.size code builtinsNs en)) (fun ok s3 => ok = o.isSome ∧ Keeps s₂ s3) (fun _ _ => False) s₂ ∧
        (o.isSome = true → wpAny (model g.P g.w) A' (eval elt (genEnv scope (L2.cloFrom en.cells scope.names []) s4.heap.objs.size code builtinsNs en)) (fun y s3 => (∃ d, o = some d ∧ FlatV d y) ∧ Keeps s₂ s3) (fun _ _ => False) s₂) := by
    intro href hhref A' i' v v2 v3 s₂ m₂ hA hd hu hP hn hm hm2 hm3 hk
    obtain ⟨zs, hx0, fx0⟩ := hval i' _ hP.2
    obtain ⟨o, ho, hv⟩ := hall i' _ hx0
    obtain ⟨d1, d2, d3, rfl, f1, f2, f3⟩ : ∃ d1 d2 d3, zs = [d1, d2, d3] ∧ Fz Z2 d1 v ∧ Fz Z2 d2 v2 ∧ Fz Z2 d3 v3 := by
      have fl : FzA Z2 zs [v, v2, v3] := fx0
      match zs, fl with
      | [], fl => cases fl.nil_inv
      | [d1], fl =>
        obtain ⟨u, us, q, _, q2⟩ := fl.cons_inv
        cases q
        cases q2.nil_inv
      | [d1, d2], fl =>
        obtain ⟨u, us, q, q1, q2⟩ := fl.cons_inv
        cases q
        obtain ⟨u, us, q, q3, q4⟩ := q2.cons_inv
        cases q
        cases q4.nil_inv
      | [d1, d2, d3], fl =>
        obtain ⟨u, us, q, q1, q2⟩ := fl.cons_inv
        cases q
        obtain ⟨u, us, q, q3, q4⟩ := q2.cons_inv
        cases q
        obtain ⟨u, us, q, q5, q6⟩ := q4.cons_inv
        cases q
        exact ⟨d1, d2, d3, rfl, q1, q3, q5⟩
      | _ :: _ :: _ :: _ :: _, fl =>
        obtain ⟨u, us, q, _, q2⟩ := fl.cons_inv
        cases q
        obtain ⟨u, us, q, _, q4⟩ := q2.cons_inv
        cases q
        obtain ⟨u, us, q, _, q6⟩ := q4.cons_inv
        cases q
        obtain ⟨u, us, q, _⟩ := q6.cons_inv
        cases q
    refine ⟨o, ho, gen_turn (Zq := Zq) (s4 := s4) (m := m₂) ht hel (room_gen hr hA hd hu) h6 h7 (fun {eb} hb => ?_) hv⟩
    have eb' : eb = (((wipe [i, i2, i3] (frzAll e1)).set i (some (.d d1))).set i2 (some (.d d2))).set i3 (some (.d d3)) := by
      simp only [bindTg, (show nst [i, i2, i3] = false by assumption), bindFl, Bool.false_eq_true, if_false, List.length_cons, List.length_nil, if_true, Option.some.injEq] at hb
      exact hb.symm
    have hi' : i < N.length := (List.getElem?_eq_some_iff.mp (name_at hN)).1
    have hi2' : i2 < N.length := (List.getElem?_eq_some_iff.mp (name_at hN2)).1
    have hi3' : i3 < N.length := (List.getElem?_eq_some_iff.mp (name_at hN3)).1
    have sg1 : (((σ.set i (some v)).set i2 (some v2)).set i3 (some v3))[i]? = some (some v) := by
      rw [List.getElem?_set_ne (Ne.symm ni13), List.getElem?_set_ne (Ne.symm ni)]
      exact sig_self (by rw [I4.len]; exact hi')
    have sg2 : (((σ.set i (some v)).set i2 (some v2)).set i3 (some v3))[i2]? = some (some v2) := by
      rw [List.getElem?_set_ne (Ne.symm ni23)]
      exact sig_self (by rw [List.length_set, I4.len]; exact hi2')
    have sg3 : (((σ.set i (some v)).set i2 (some v2)).set i3 (some v3))[i3]? = some (some v3) := sig_self (by rw [List.length_set, List.length_set, I4.len]; exact hi3')
    have g4 : ∀ (j : Nat) (w : W), get eb j = some w → ∃ d u, w = .d d ∧ (((σ.set i (some v)).set i2 (some v2)).set i3 (some v3))[j]? = some (some u) ∧ Fz Zq d u := fun j w hw' => by
      rw [eb', get_set] at hw'
      split at hw'
      · rename_i z
        cases hw'
        exact ⟨d3, v3, rfl, by rw [← z.1]; exact sg3, f3.ext zz⟩
      · rename_i z3
        rw [get_set] at hw'
        split at hw'
        · rename_i z
          cases hw'
          exact ⟨d2, v2, rfl, by rw [← z.1]; exact sg2, f2.ext zz⟩
        · rename_i z2
          rw [get_set] at hw'
          split at hw'
          · rename_i z
            cases hw'
            exact ⟨d1, v, rfl, by rw [← z.1]; exact sg1, f1.ext zz⟩
          · rename_i z
            rw [get_wipe] at hw'
            split at hw'
            · cases hw'
            · rename_i nj
              rw [get_frzAll, Option.map_eq_some_iff] at hw'
              obtain ⟨w0, q0, rfl⟩ := hw'
              obtain ⟨u, q1, q2⟩ := rp j w0 q0
              refine ⟨w0.data, u, rfl, ?_, q2⟩
              have n1 : i ≠ j := fun z => nj (by rw [z]; exact List.mem_cons_self)
              have n2 : i2 ≠ j := fun z => nj (by rw [z]; simp)
              have n3 : i3 ≠ j := fun z => nj (by rw [z]; simp)
              rw [List.getElem?_set_ne n3, List.getElem?_set_ne n2, List.getElem?_set_ne n1]
              exact q1
    refine ⟨((σ.set i (some v)).set i2 (some v2)).set i3 (some v3), ?_, fun a ⟨j, ys, q1, _⟩ => ?_⟩
    · refine I4.gblock (tg := [i, i2, i3]) B h9 (get_size _) out zz3 zs (fun b o nb z => hk b (List.mem_range.mpr (Heap.lt_size z)) nb o (hhref b o z)) (fun b hb => (hw b hb).2.2.2.1) hn rp ?_ (by rw [List.length_set, List.length_set, List.length_set]) g4 (fun j hj y u q1 q2 => ?_) fun j hj => ?_
      · rw [eb', List.length_set, List.length_set, List.length_set, wipe_len]
        simp [frzAll]
      · have : j = i ∨ j = i2 ∨ j = i3 := by simpa using hj
        rcases this with rfl | rfl | rfl
        · rw [name_at hN] at q1
          cases q1
          rw [sg1] at q2
          cases q2
          exact hm
        · rw [name_at hN2] at q1
          cases q1
          rw [sg2] at q2
          cases q2
          exact hm2
        · rw [name_at hN3] at q1
          cases q1
          rw [sg3] at q2
          cases q2
          exact hm3
      · have n1 : i ≠ j := fun z => hj (by rw [z]; exact List.mem_cons_self)
        have n2 : i2 ≠ j := fun z => hj (by rw [z]; simp)
        have n3 : i3 ≠ j := fun z => hj (by rw [z]; simp)
        rw [List.getElem?_set_ne n3, List.getElem?_set_ne n2, List.getElem?_set_ne n1]
    · obtain ⟨d, u, q, _⟩ := g4 j _ q1
      cases q
  have hnst : cStatics ∉ wr' := fun z => by
    obtain ⟨o, w⟩ := statics_in S.inv
    have := (hw _ z).1
    rw [I4.sh.bz _ _ w] at this
    cases this
  refine ⟨II, fp', wr', xs.length, fun i' vals => i' < xs.length ∧ Pf i' vals ∧ ∃ va vb vc, vals = #[va, vb, vc], St', Mid, pzOf os, fun i' y => ∃ d, os[i']? = some (some d) ∧ FlatV d y, S.is, fun A' hA => ?wl, fun i' vals hv => (by obtain ⟨_, _, _, rfl⟩ := hv.2.2; rfl), (WW A hr.hd).frame _ _ _ hst fun b hb o z => cd.keep b o ((hfp b hb).2 q hq) z, fun b hb => ?_, I4.lim, hnst, fun href hhref => ⟨fun A' E' i' vals s₂ m₂ hA hd hu hP hn hma hk => ?_, fun A' E' i' vals s₂ m₂ hA hd hu hP hp hn hma hk => ?_⟩, fun ga h₅ tk gs hgb hag hsz5 hk5 W5 hat => ?_⟩
  case wl =>
    have two : ∀ i' vals, i' < xs.length → Pf i' vals → ∃ va vb vc, vals = #[va, vb, vc] := fun i' vals hi' hP => by
      obtain ⟨zs, hx0, fx0⟩ := hval i' vals hP
      obtain ⟨o, _, hv⟩ := hall i' _ hx0
      unfold genV at hv
      rw [Option.bind_eq_some_iff] at hv
      obtain ⟨eb, hb, _⟩ := hv
      simp only [bindTg, (show nst [i, i2, i3] = false by assumption), bindFl, Bool.false_eq_true, if_false] at hb
      split at hb
      · rename_i hl
        have l2 : vals.toList.length = 3 := by rw [fx0.length, hl]; rfl
        obtain ⟨l⟩ := vals
        match l, l2 with
        | [va, vb, vc], _ => exact ⟨va, vb, vc, rfl⟩
      · cases hb
    have W0 := WW A' hA
    exact ⟨W0.sub, W0.frame, fun i' s Q E hi' hst hQ => W0.item i' s Q E hi' hst fun T vals h' tk hP => hQ T vals h' tk ⟨hi', hP, two i' vals hi' hP⟩, W0.go, W0.apart, W0.done, W0.self⟩
  · obtain ⟨o, z⟩ := (hfp b hb).1
    exact Heap.lt_size (cd.keep b o ((hfp b hb).2 q hq) z)
  · obtain ⟨v, v2, v3, rfl⟩ := hP.2.2
    obtain ⟨o, ho, h, _⟩ := turn href hhref A' i' v v2 v3 s₂ m₂ hA hd hu ⟨hP.1, hP.2.1⟩ hn (hma 0 _ rfl) (hma 1 _ rfl) (hma 2 _ rfl) hk
    refine wpAny_mono h (fun ok s3 z => ⟨?_, z.2⟩) fun _ _ z => z.elim
    rw [z.1]
    unfold pzOf
    rw [ho]
    cases o <;> rfl
  · obtain ⟨v, v2, v3, rfl⟩ := hP.2.2
    obtain ⟨o, ho, _, h⟩ := turn href hhref A' i' v v2 v3 s₂ m₂ hA hd hu ⟨hP.1, hP.2.1⟩ hn (hma 0 _ rfl) (hma 1 _ rfl) (hma 2 _ rfl) hk
    have : o.isSome = true := by
      unfold pzOf at hp
      rw [ho] at hp
      cases o with
      | none => cases hp
      | some d => rfl
    refine wpAny_mono (h this) (fun y s3 z => ?_) fun _ _ z => z.elim
    obtain ⟨⟨d, rfl, hf⟩, z2⟩ := z
    exact ⟨⟨d, ho, hf⟩, z2⟩
  · obtain ⟨l1, l2⟩ := passing_is (os := os) (n := xs.length) hlen.symm
    rw [l1] at W5
    refine ⟨ga, _, _, _, _, _, rfl, W5.in4_1, hat, fun b hb => ?_, fun j y hy => ?_, fun s' mv => ?_⟩
    · show b < h₅.objs.size
      rw [hsz5]
      rcases List.mem_cons.mp hb with z | z
      · rw [z]; exact Nat.lt_succ_self _
      · rcases List.mem_cons.mp z with z | z
        · rw [z]; exact Nat.lt_succ_of_lt hag
        · exact Nat.lt_succ_of_lt (Nat.lt_trans (List.mem_range.mp z) hag)
    · obtain ⟨i', hij, d, hd, hf⟩ := hy
      obtain ⟨d', q1, q2⟩ := l2 j i' hij
      rw [hd] at q1
      cases q1
      exact ⟨d, q2, hf⟩
    · exact gen_after (s5 := { s4 with gens := s4.gens.push gs, toks := tk, heap := h₅ }) S.step S.inv hq hg cd hw hk5 rfl ((I4.sh.bare hg).push hgb) mv
end
end Mini

-- M26
set_option Elab.async false
set_option linter.all false
set_option maxRecDepth 100000
set_option maxHeartbeats 4000000
/-! Mini 26: any, all, sum, max, min of a generator expression. -/
namespace Mini
open PySem PyProof.Rows

section
variable {p : Px} {c : Cf} {g : G} {N : List Str} {k : Nat} {en : PySem.Env} {Z Z0 Z1 Z2 Z3 Zq Z' : Heap} {e e1 e2 e3 e' : Env} {σ σ1 σ3 : List (Option Value)} {s s0 s1 s2 s3 s' : Shared} {A : Around} {F F0 F1 F2 : Addr → Prop} {v u : Value} {r : R} {fr : List Addr} {scope : Scope} {tg : List Nat} {wr : List Addr}

theorem flatV_truth {d : PyData} {b : Bool} {A' : Around} {E' : Value → Shared → Prop} {Q : Bool → Shared → Prop} (h : FlatV d v) (ht : truth d = some b) (hQ : Q b s) : wpAny (model g.P g.w) A' (truthy v) Q E' s := by
  cases d with
  | none =>
    cases (show v = .none from h)
    cases ht
    exact fun _ _ _ => hQ
  | bool b' =>
    cases (show v = .bool b' from h)
    cases ht
    exact wpAny_truthy_bool hQ
  | int i =>
    obtain ⟨t, rfl⟩ := (show ∃ t, v = .int i t from h)
    cases ht
    exact PyProof.Rows.truthy_int hQ
  | _ => exact absurd h (by simp [FlatV])
theorem mapM_at {α β : Type} {f : α → Option β} : ∀ {l : List α} {m : List β}, l.mapM f = some m → ∀ {j : Nat} {a : α}, l[j]? = some a → ∃ b, m[j]? = some b ∧ f a = some b
  | [], m, h, j, a, q => by simp at q
  | x :: l, m, h, j, a, q => by
    simp only [List.mapM_cons, Option.bind_eq_bind, Option.bind_eq_some_iff, Option.pure_def, Option.some.injEq] at h
    obtain ⟨b, h1, m', h2, rfl⟩ := h
    cases j with
    | zero => simp at q; subst q; exact ⟨b, rfl, h1⟩
    | succ j => simpa using mapM_at h2 (by simpa using q)
theorem range_all (bs : List Bool) : (List.range bs.length).all (fun j => bs.getD j false) = bs.all id := by
  rw [Bool.eq_iff_iff, List.all_eq_true, List.all_eq_true]
  constructor
  · intro h b hb
    obtain ⟨j, hj⟩ := List.mem_iff_getElem?.mp hb
    have := h j (List.mem_range.mpr (List.getElem?_eq_some_iff.mp hj).1)
    rw [List.getD_eq_getElem?_getD, hj] at this
    exact this
  · intro h j hj
    have hl := List.mem_range.mp hj
    rw [List.getD_eq_getElem?_getD, List.getElem?_eq_getElem hl]
    exact h _ (List.getElem_mem hl)
theorem range_any (bs : List Bool) : (List.range bs.length).any (fun j => bs.getD j false) = bs.any id := by
  rw [Bool.eq_iff_iff, List.any_eq_true, List.any_eq_true]
  constructor
  · rintro ⟨j, hj, h⟩
    have hl := List.mem_range.mp hj
    rw [List.getD_eq_getElem?_getD, List.getElem?_eq_getElem hl] at h
    exact ⟨_, List.getElem_mem hl, h⟩
  · rintro ⟨b, hb, h⟩
    obtain ⟨j, hj⟩ := List.mem_iff_getElem?.mp hb
    refine ⟨j, List.mem_range.mpr (List.getElem?_eq_some_iff.mp hj).1, ?_⟩
    rw [List.getD_eq_getElem?_getD, hj]
    exact h
theorem ints_at : ∀ {ds : List PyData} {l : List Int}, intsOf ds = some l → l.length = ds.length ∧ ∀ {j : Nat} {d : PyData}, ds[j]? = some d → ∃ i, l[j]? = some i ∧ d = .int i
  | [], l, h => by
    cases h
    exact ⟨rfl, fun q => by simp at q⟩
  | d :: ds, l, h => by
    cases d with
    | int i =>
      cases q : intsOf ds with
      | none => simp [intsOf, q] at h
      | some l' =>
        simp [intsOf, q] at h
        subst h
        obtain ⟨h1, h2⟩ := ints_at q
        refine ⟨by simp [h1], fun {j d} hq => ?_⟩
        cases j with
        | zero => simp at hq; subst hq; exact ⟨i, rfl, rfl⟩
        | succ j => simpa using h2 (by simpa using hq)
    | _ => simp [intsOf] at h
theorem preSum_take (l : List Int) : ∀ j, j ≤ l.length → preSum (fun i => l.getD i 0) j = (l.take j).sum
  | 0, _ => by simp [preSum]
  | j + 1, h => by
    have hj : j < l.length := h
    show preSum (fun i => l.getD i 0) j + l.getD j 0 = _
    rw [preSum_take l j (Nat.le_of_succ_le h), List.take_succ_eq_append_getElem hj, List.sum_append]
    simp [List.getD_eq_getElem?_getD, List.getElem?_eq_getElem hj]
theorem sum_small : ∀ (l : List Int), (∀ x ∈ l, -(2 ^ 30) < x ∧ x < 2 ^ 30) → -(2 ^ 30 * (l.length : Int)) ≤ l.sum ∧ l.sum ≤ 2 ^ 30 * (l.length : Int)
  | [], _ => by simp
  | x :: l, h => by
    obtain ⟨h1, h2⟩ := sum_small l fun y hy => h y (List.mem_cons_of_mem _ hy)
    obtain ⟨h3, h4⟩ := h x List.mem_cons_self
    simp only [List.sum_cons, List.length_cons]
    constructor <;> push_cast <;> omega
def gbStr : Gb → String
  | .all => "all" | .any => "any" | .sum => "sum" | .max => "max" | .min => "min"
theorem boot_gb (b : Gb) : bootBuiltins (gbName b) = some (.builtin (gbStr b)) := by cases b <;> rfl
theorem bn_gb (b : Gb) : gbName b ∈ biNames := by cases b <;> simp [gbName, biNames]
theorem gen_use {b : Gb} {ds : List PyData} {d : PyData} {ga : Value} (hr : L2.Room (k + 1) A) (hR : GenReady g N en σ Z0 F0 s0 e1 A ds ga s) (h : genEnd b ds = some d) :
    WP g A (call (.builtin (gbStr b)) [ga]) (Post g N en σ Z0 F0 s0 e1 (.v (.d d))) s := by
  obtain ⟨I, fp, wr, G, P, St, rfl, W, hst, hfp, hval, hmv⟩ := hR
  have done : ∀ {s' d v}, (∀ Z, Fz Z d v) → Moved wr G s s' → Post g N en σ Z0 F0 s0 e1 (.v (.d d)) v s' := fun {s' d v} hf mv => by
    obtain ⟨Z', st, I'⟩ := hmv s' mv
    exact .data st I' (hf Z')
  cases b with
  | all =>
    simp only [genEnd, Option.map_eq_some_iff] at h
    obtain ⟨bs, hb, rfl⟩ := h
    have lb := mapM_len hb
    refine call_all_walkS (W.self 0 _ _ _ hst ⟨I, fp, wr, G, _, P, St, fun j => bs.getD j false, rfl, W, hst, fun j v s2 Q E hP hQ => ?_, fun s' mv => ?_⟩)
    · obtain ⟨d, hd, hf⟩ := hval j v hP
      obtain ⟨t, ht, ht2⟩ := mapM_at hb hd
      refine flatV_truth hf ht2 ?_
      have hQ' : Q (bs.getD j false) s2 := hQ
      rw [List.getD_eq_getElem?_getD, ht] at hQ'
      exact hQ'
    · rw [← lb, range_all]
      exact done (fun Z => .bool) mv
  | any =>
    simp only [genEnd, Option.map_eq_some_iff] at h
    obtain ⟨bs, hb, rfl⟩ := h
    have lb := mapM_len hb
    refine call_any_walkS (W.self 0 _ _ _ hst ⟨I, fp, wr, G, _, P, St, fun j => bs.getD j false, rfl, W, hst, fun j v s2 Q E hP hQ => ?_, fun s' mv => ?_⟩)
    · obtain ⟨d, hd, hf⟩ := hval j v hP
      obtain ⟨t, ht, ht2⟩ := mapM_at hb hd
      refine flatV_truth hf ht2 ?_
      have hQ' : Q (bs.getD j false) s2 := hQ
      rw [List.getD_eq_getElem?_getD, ht] at hQ'
      exact hQ'
    · rw [← lb, range_any]
      exact done (fun Z => .bool) mv
  | sum =>
    simp only [genEnd, Option.bind_eq_some_iff] at h
    obtain ⟨l, hl, h⟩ := h
    split at h
    · rename_i hc
      cases h
      simp only [Bool.and_eq_true, List.all_eq_true] at hc
      obtain ⟨hc1, hc2⟩ := hc
      have hz := szOk_iff.mp hc2
      rw [sizeLine_is] at hz
      obtain ⟨ll, la⟩ := ints_at hl
      have small : ∀ x ∈ l, -(2 ^ 30) < x ∧ x < 2 ^ 30 := fun x hx => by have := hc1 x hx; simp only [inR, decide_eq_true_eq] at this; omega
      refine call_sum_walkS (W.self 0 _ _ _ hst ⟨I, fp, wr, G, _, P, St, fun j => l.getD j 0, rfl, W, hst, hfp, fun j v hP => ?_, fun j hj => ?_, fun s' t' mv => ?_⟩)
      · obtain ⟨d, hd, hf⟩ := hval j v hP
        obtain ⟨i, hi, rfl⟩ := la hd
        obtain ⟨t, rfl⟩ := (show ∃ t, v = .int i t from hf)
        exact ⟨t, by show Value.int i t = .int (l.getD j 0) t; rw [List.getD_eq_getElem?_getD, hi]; rfl⟩
      · have hj' : j < l.length := by rw [ll]; exact hj
        have e1 : l.getD j 0 = l[j] := by rw [List.getD_eq_getElem?_getD, List.getElem?_eq_getElem hj']; rfl
        obtain ⟨a1, a2⟩ := small _ (List.getElem_mem hj')
        have e2 := preSum_take l (j + 1) hj'
        obtain ⟨b1, b2⟩ := sum_small (l.take (j + 1)) fun x hx => small x (List.mem_of_mem_take hx)
        have b3 : ((l.take (j + 1)).length : Int) ≤ 16777216 := by
          have : (l.take (j + 1)).length ≤ l.length := by rw [List.length_take]; omega
          omega
        refine ⟨⟨by show _ ≤ l.getD j 0; rw [e1]; omega, by show l.getD j 0 < _; rw [e1]; omega⟩, ⟨by rw [e2]; omega, by rw [e2]; omega⟩⟩
      · rw [← ll, preSum_take l _ (Nat.le_refl _), List.take_length]
        exact done (fun Z => .int) mv
    · cases h
  | max =>
    obtain ⟨x, r', hl, rfl⟩ := extr_inv (show extr maxI ds = some d from h)
    obtain ⟨ll, la⟩ := ints_at hl
    have hv : ∀ j v, P j v → ∃ t, v = .int ((x :: r').getD j 0) t := fun j v hP => by
      obtain ⟨d, hd, hf⟩ := hval j v hP
      obtain ⟨i, hi, rfl⟩ := la hd
      obtain ⟨t, rfl⟩ := (show ∃ t, v = .int i t from hf)
      exact ⟨t, by rw [List.getD_eq_getElem?_getD, hi]; rfl⟩
    have hpos : 0 < ds.length := by rw [← ll]; simp
    refine call_max_walkS (W.self 0 _ _ _ hst ⟨I, fp, wr, G, _, P, St, _, rfl, W, hst, hfp, hpos, CmpOf.ints_gt (fun j => (x :: r').getD j 0) hv, fun v s' hP mv => ?_⟩)
    obtain ⟨t, rfl⟩ := hv _ v hP
    obtain ⟨h1, h2⟩ := argBest_gt (fun j => (x :: r').getD j 0) (ds.length - 1)
    obtain ⟨p1, p2⟩ := maxI_spec r' x
    have lt : argBest (fun i j => decide ((x :: r').getD i 0 > (x :: r').getD j 0)) (ds.length - 1) < (x :: r').length := by rw [ll]; omega
    have e : (x :: r').getD (argBest (fun i j => decide ((x :: r').getD i 0 > (x :: r').getD j 0)) (ds.length - 1)) 0 = maxI x r' := by
      refine Int.le_antisymm (p2 _ ?_) ?_
      · rw [List.getD_eq_getElem?_getD, List.getElem?_eq_getElem lt]
        exact List.getElem_mem lt
      · obtain ⟨j, hj⟩ := List.mem_iff_getElem?.mp p1
        have hj' := (List.getElem?_eq_some_iff.mp hj).1
        rw [ll] at hj'
        have := h2 j (by omega)
        rw [List.getD_eq_getElem?_getD, hj] at this
        exact this
    rw [e]
    exact done (fun Z => .int) mv
  | min =>
    obtain ⟨x, r', hl, rfl⟩ := extr_inv (show extr minI ds = some d from h)
    obtain ⟨ll, la⟩ := ints_at hl
    have hv : ∀ j v, P j v → ∃ t, v = .int ((x :: r').getD j 0) t := fun j v hP => by
      obtain ⟨d, hd, hf⟩ := hval j v hP
      obtain ⟨i, hi, rfl⟩ := la hd
      obtain ⟨t, rfl⟩ := (show ∃ t, v = .int i t from hf)
      exact ⟨t, by rw [List.getD_eq_getElem?_getD, hi]; rfl⟩
    have hpos : 0 < ds.length := by rw [← ll]; simp
    refine call_min_walkS (W.self 0 _ _ _ hst ⟨I, fp, wr, G, _, P, St, _, rfl, W, hst, hfp, hpos, CmpOf.ints_lt (fun j => (x :: r').getD j 0) hv, fun v s' hP mv => ?_⟩)
    obtain ⟨t, rfl⟩ := hv _ v hP
    obtain ⟨h1, h2⟩ := argBest_lt (fun j => (x :: r').getD j 0) (ds.length - 1)
    obtain ⟨p1, p2⟩ := minI_spec r' x
    have lt : argBest (fun i j => decide ((x :: r').getD i 0 < (x :: r').getD j 0)) (ds.length - 1) < (x :: r').length := by rw [ll]; omega
    have e : (x :: r').getD (argBest (fun i j => decide ((x :: r').getD i 0 < (x :: r').getD j 0)) (ds.length - 1)) 0 = minI x r' := by
      refine Int.le_antisymm ?_ (p2 _ ?_)
      · obtain ⟨j, hj⟩ := List.mem_iff_getElem?.mp p1
        have hj' := (List.getElem?_eq_some_iff.mp hj).1
        rw [ll] at hj'
        have := h2 j (by omega)
        rw [List.getD_eq_getElem?_getD (i := j), hj] at this
        exact this
      · rw [List.getD_eq_getElem?_getD, List.getElem?_eq_getElem lt]
        exact List.getElem_mem lt
    rw [e]
    exact done (fun Z => .int) mv
end
end Mini

-- S1
set_option Elab.async false
set_option linter.all false
set_option maxRecDepth 100000
set_option maxHeartbeats 4000000
/-! rows of numbers as sets. -/
namespace Mini
open PySem
theorem insI_mem {x y : Int} : ∀ {l : List Int}, y ∈ insI x l ↔ y = x ∨ y ∈ l
  | [] => by simp [insI]
  | z :: r => by
    unfold insI
    split
    · simp
    · split
      · rename_i h1 h2
        subst h2
        simp
      · simp only [List.mem_cons, insI_mem (l := r)]
        constructor
        · rintro (h | h | h) <;> simp [h]
        · rintro (h | h | h) <;> simp [h]
theorem insI_up {x : Int} : ∀ {l : List Int}, l.Pairwise (· < ·) → (insI x l).Pairwise (· < ·)
  | [], _ => by simp [insI]
  | z :: r, h => by
    obtain ⟨h1, h2⟩ := List.pairwise_cons.mp h
    unfold insI
    split
    · rename_i c
      refine List.pairwise_cons.mpr ⟨fun y hy => ?_, h⟩
      rcases List.mem_cons.mp hy with e | hy
      · rw [e]; exact c
      · exact Int.lt_trans c (h1 y hy)
    · split
      · exact h
      · rename_i c1 c2
        refine List.pairwise_cons.mpr ⟨fun y hy => ?_, insI_up h2⟩
        rcases insI_mem.mp hy with e | hy
        · rw [e]; omega
        · exact h1 y hy
theorem setI_mem {y : Int} : ∀ {l : List Int}, y ∈ setI l ↔ y ∈ l
  | [] => by simp [setI]
  | x :: r => by
    show y ∈ insI x (setI r) ↔ _
    rw [insI_mem, setI_mem (l := r), List.mem_cons]
theorem setI_up : ∀ {l : List Int}, (setI l).Pairwise (· < ·)
  | [] => by simp [setI]
  | x :: r => insI_up (setI_up (l := r))
/-- ascending rows with the same members are one -/
theorem up_eq : ∀ {a b : List Int}, a.Pairwise (· < ·) → b.Pairwise (· < ·) → (∀ x, x ∈ a ↔ x ∈ b) → a = b
  | [], [], _, _, _ => rfl
  | [], y :: b, _, _, h => absurd ((h y).mpr List.mem_cons_self) (by simp)
  | x :: a, [], _, _, h => absurd ((h x).mp List.mem_cons_self) (by simp)
  | x :: a, y :: b, ha, hb, h => by
    obtain ⟨a1, a2⟩ := List.pairwise_cons.mp ha
    obtain ⟨b1, b2⟩ := List.pairwise_cons.mp hb
    have e : x = y := by
      rcases List.mem_cons.mp ((h x).mp List.mem_cons_self) with e | e
      · exact e
      · rcases List.mem_cons.mp ((h y).mpr List.mem_cons_self) with e2 | e2
        · exact e2.symm
        · have := a1 y e2; have := b1 x e; omega
    subst e
    rw [up_eq a2 b2 fun z => ?_]
    constructor
    · intro hz
      rcases List.mem_cons.mp ((h z).mp (List.mem_cons_of_mem _ hz)) with e | e
      · have := a1 z hz; omega
      · exact e
    · intro hz
      rcases List.mem_cons.mp ((h z).mpr (List.mem_cons_of_mem _ hz)) with e | e
      · have := b1 z hz; omega
      · exact e
theorem setI_len {l : List Int} : (setI l).length ≤ l.length := by
  induction l with
  | nil => simp [setI]
  | cons x r ih =>
    have : ∀ m : List Int, (insI x m).length ≤ m.length + 1 := fun m => by
      induction m with
      | nil => simp [insI]
      | cons y m ih =>
        unfold insI
        split
        · simp
        · split
          · simp
          · simp only [List.length_cons]; omega
    have := this (setI r)
    show (insI x (setI r)).length ≤ _
    rw [List.length_cons]
    omega
theorem nodup_len {a b : List Int} (ha : a.Nodup) (hb : b.Nodup) (h : ∀ x, x ∈ a ↔ x ∈ b) : a.length = b.length := by
  have sub : ∀ {a b : List Int}, a.Nodup → (∀ x ∈ a, x ∈ b) → a.length ≤ b.length := fun {a b} ha h => by
    induction a generalizing b with
    | nil => simp
    | cons x a ih =>
      obtain ⟨n1, n2⟩ := List.nodup_cons.mp ha
      have hx := h x List.mem_cons_self
      have := ih (b := b.erase x) n2 fun y hy => (List.mem_erase_of_ne (fun e => n1 (by rw [← e]; exact hy))).mpr (h y (List.mem_cons_of_mem _ hy))
      rw [List.length_erase_of_mem hx] at this
      have := List.length_pos_of_mem hx
      rw [List.length_cons]
      omega
  exact Nat.le_antisymm (sub ha fun x hx => (h x).mp hx) (sub hb fun x hx => (h x).mpr hx)
theorem up_nodup {a : List Int} (h : a.Pairwise (· < ·)) : a.Nodup := h.imp fun h => by omega

end Mini

-- M26y
set_option Elab.async false
set_option linter.all false
set_option maxRecDepth 100000
set_option maxHeartbeats 4000000
/-! Mini 26y: x.index(y), len(set(x)), sorted(set(x)). -/
namespace Mini
open PySem PyProof.Rows

theorem ints_fzI {Z : Heap} : ∀ {vs : List Value} {ns : List Int}, IntsAre vs ns → FzA Z (ns.map PyData.int) vs
  | _, _, .nil => .nil
  | _, _, .cons n t h => .cons .int (ints_fzI h)
section
variable {p : Px} {c : Cf} {g : G} {N : List Str} {k : Nat} {en : PySem.Env} {Z : Heap} {e e' : Env} {σ : List (Option Value)} {s : Shared} {A : Around} {v : Value}

theorem intsIn_inv {d : PyData} {l : List Int} (h : intsIn d = some l) : ∃ xs, (d = .list xs ∨ d = .tuple xs) ∧ intsOf xs = some l := by
  unfold intsIn at h
  rw [Option.bind_eq_some_iff] at h
  obtain ⟨xs, h1, h2⟩ := h
  exact ⟨xs, items_inv h1, h2⟩
theorem eq_items {its : List Value} {l : List Int} {kk : Int} {t : Tok} (hi : IntsAre its l) {A : Around} : PySem.SeqAt.ItemsEq A s its l (.int kk t) kk := by
  refine ⟨hi.length, fun j h1 h2 => ?_⟩
  obtain ⟨u, hu⟩ := IntsAre.int_at hi j its[j] (List.getElem?_eq_getElem h1)
  rw [hu, List.getD_eq_getElem?_getD, List.getElem?_eq_getElem h2]
  exact PySem.SeqAt.EqAt.int_int _ _ _ _
theorem index_is {a y : E} {sc : Scope} {ex : Expr} (hm : mE p N sc (.index a y) ex = true) : ∃ o apos x pos, ex = .Call (.Attribute o "index" apos) [x] [] pos ∧ notCall0 o = true ∧ mE p N sc a o = true ∧ mE p N sc y x = true ∧ (apos.endLine == pos.line) = true := by
  cases ex with
  | Call f l kws pos =>
    cases f with
    | Attribute o m apos =>
      rcases kws with _ | ⟨q, kws⟩
      · rcases l with _ | ⟨x, _ | ⟨z2, l⟩⟩
        · simp [mE, genP] at hm
        · simp only [mE, Bool.and_eq_true] at hm
          obtain ⟨⟨⟨⟨h1, h2⟩, h3⟩, h4⟩, h5⟩ := hm
          have := beq_iff_eq.mp h1
          subst this
          exact ⟨_, _, _, _, rfl, h2, h3, h4, h5⟩
        · simp [mE, genP] at hm
      · rcases l with _ | ⟨x, _ | ⟨z2, l⟩⟩ <;> simp [mE, genP] at hm
    | _ => simp [mE, genP] at hm
  | _ => simp [mE, genP] at hm
theorem base_is {o : Expr} {m : Str} {w : Sem Value} (h : notCall0 o = true) : attributeBase o m en w = w := by
  cases o with
  | Call f l kws pos =>
    rcases l with _ | ⟨x, l⟩
    · rcases kws with _ | ⟨q, kws⟩
      · simp [notCall0] at h
      · cases f <;> rfl
    · cases f <;> rfl
  | _ => rfl
theorem se_index {a y : E} (ha : SE p c g N k a) (hy : SE p c g N k y) : SE p c g N k (.index a y) := by
  intro sc ex A en Z e σ s r e' hr hsc hm I h
  subst hsc
  obtain ⟨o, apos, x, pos, rfl, hc, m1, m2, hline⟩ := index_is hm
  simp only [ev, Option.bind_eq_some_iff, Prod.exists] at h
  obtain ⟨ra, e1, k1, d1, dx1, rx, e2, k2, d, dx, yv, dy, h⟩ := h
  split at h
  · rename_i hk
    obtain ⟨hk1, hk2⟩ := hk
    rw [Option.map_eq_some_iff] at h
    obtain ⟨res, h, hh⟩ := h
    cases hh
    have hs := no_star m2 [] en
    refine wpAny_Call_method_late (o := o) (base_is hc) (by rw [hs]; rfl) hline rfl (wp_mono (ha _ o A en Z e σ s ra e1 hr rfl m1 I k1) fun ov s1 q1 => ?_)
    obtain ⟨Z1, st1, I1, rr1⟩ := q1
    obtain ⟨w1, hw1, rw1⟩ := I1.resD rr1 dx1
    obtain ⟨l1, hl1⟩ := Option.isSome_iff_exists.mp hk2
    obtain ⟨xs1, hx1, _⟩ := intsIn_inv hl1
    have fin : ∀ (T id : String), PlainAttrs T → Slot T "index" id → typeOf (.builtin id) = pure (.type "method_descriptor") → s1.TypeIs ov T → (∀ a, ov = .ref a → ∃ ob, s1.heap.get? a = some ob ∧ ob.dict = none) →
        WP g A (spliced (backTo pos (starEach [x] en))) (fun vs s2 => WP g A (call (.builtin id) (ov :: vs)) (Post g N en σ Z (Foot σ e) s e' (.v (.d res))) s2) s1 →
        MethodOn g.P g.w A "index" pos ov (backTo pos (starEach [x] en)) (Post g N en σ Z (Foot σ e) s e' (.v (.d res))) (fun _ _ => False) s1 := fun T id t1 t2 t3 t4 t5 key => by
      refine ⟨T, id, t1, t2, t3, t4, t5, ?_⟩
      rw [hs] at key ⊢
      exact Calls.callWith_builtin rfl (Calls.evalArgs_plain key)
    have go : ∀ (id : String), (∀ u Z2 w w' s2, Step g [] Z (Foot σ e) s Z2 (Foot σ e') s2 → Inv g N en Z2 e' σ s2 → w.data = d → w'.data = yv → Rep Z2 s2.heap ov w → Rep Z2 s2.heap u w' → WP g A (call (.builtin id) [ov, u]) (Post g N en σ Z (Foot σ e) s e' (.v (.d res))) s2) →
        WP g A (spliced (backTo pos (starEach [x] en))) (fun vs s2 => WP g A (call (.builtin id) (ov :: vs)) (Post g N en σ Z (Foot σ e) s e' (.v (.d res))) s2) s1 := fun id q => by
      refine args_cons (wp_mono (hy _ x A en Z1 e1 σ s1 rx e' hr rfl m2 I1 k2) fun u s2 q2 => args_nil ?_) (no_star m2 _ _)
      obtain ⟨Z2, st2, I2, rr2⟩ := q2
      obtain ⟨w, hw, rwa⟩ := I2.resD (rr1.carry st2 fun a q => .inl q) dx
      obtain ⟨w', hw', rwb⟩ := I2.resD rr2 dy
      exact q u Z2 w w' s2 ((st1.less fun a q => .inl q).trans (st2.less fun a q => .inl q)) I2 hw hw' rwa rwb
    unfold indexD at h
    rw [Option.bind_eq_some_iff] at h
    obtain ⟨l, hl, h⟩ := h
    split at h
    · rename_i kk
      split at h
      · rename_i hmem
        cases h
        obtain ⟨xs, hx, hi⟩ := intsIn_inv hl
        rcases hx1 with rfl | rfl
        · have hd : d = .list xs := by
            rcases hx with e | e
            · exact e
            · rw [e] at hk1; cases hk1
          subst hd
          obtain ⟨ad, its, n, rfl, ho, _, _⟩ := rw1.list I1.sh.zh hw1
          refine fin "list" "list.index" PySem.F.plainAttrs_list PySem.F.slot_list_index PySem.F.type_list_index ⟨_, ho, rfl⟩ (fun b hb => by cases hb; exact ⟨_, ho, rfl⟩) (go _ fun u Z2 w w' s2 st I2 ew ew' r1 r2 => ?_)
          obtain ⟨ad', its', n', e1, ho', hz', ff⟩ := r1.list I2.sh.zh ew
          cases e1
          obtain ⟨t, rfl⟩ := (r2.flat ew' (by simp)).int_inv
          have hia := ints_are ff hi
          refine PySem.SeqAt.call_list_index ⟨_, ho', rfl, n', rfl⟩ (eq_items hia) (szOk_iff.mp hmem.2) hmem.1 ?_
          exact (I2.here .int).weak st fun _ z => z
        · have hd : d = .tuple xs := by
            rcases hx with e | e
            · rw [e] at hk1; cases hk1
            · exact e
          subst hd
          obtain ⟨ad, its, n, rfl, ho, _, _⟩ := rw1.tuple I1.sh.zh hw1
          refine fin "tuple" "tuple.index" PySem.F.plainAttrs_tuple PySem.F.slot_tuple_index PySem.F.type_tuple_index ⟨_, ho, rfl⟩ (fun b hb => by cases hb; exact ⟨_, ho, rfl⟩) (go _ fun u Z2 w w' s2 st I2 ew ew' r1 r2 => ?_)
          obtain ⟨ad', its', n', e1, ho', hz', ff⟩ := r1.tuple I2.sh.zh ew
          cases e1
          obtain ⟨t, rfl⟩ := (r2.flat ew' (by simp)).int_inv
          have hia := ints_are ff hi
          refine PySem.SeqAt.call_tuple_index ⟨_, ho', rfl, n', rfl⟩ (eq_items hia) hmem.1 ?_
          exact (I2.here .int).weak st fun _ z => z
      · cases h
    · cases h
  · cases h
/-! ### sets -/
theorem lens_is {a : E} {sc : Scope} {ex : Expr} (hm : mE p N sc (.lenset a) ex = true) : ∃ np yp z ypos pos, ex = .Call (.Name "len" np) [.Call (.Name "set" yp) [z] [] ypos] [] pos ∧ glb sc "len" = true ∧ glb sc "set" = true ∧ mE p N sc a z = true := by
  cases ex with
  | Call f l kws pos =>
    cases f with
    | Name x np =>
      rcases kws with _ | ⟨q, kws⟩
      · rcases l with _ | ⟨z, _ | ⟨z2, l⟩⟩
        · simp [mE, genP] at hm
        · cases z with
          | Call f2 l2 k2 p2 =>
            cases f2 with
            | Name y yp =>
              rcases k2 with _ | ⟨q, k2⟩
              · rcases l2 with _ | ⟨z, _ | ⟨z2, l2⟩⟩
                · simp [mE, genP] at hm
                · simp only [mE, Bool.and_eq_true] at hm
                  obtain ⟨⟨⟨⟨h1, h2⟩, h3⟩, h4⟩, h5⟩ := hm
                  have a1 := beq_iff_eq.mp h1
                  have a2 := beq_iff_eq.mp h3
                  subst a1 a2
                  exact ⟨_, _, _, _, _, rfl, h2, h4, h5⟩
                · simp [mE, genP] at hm
              · rcases l2 with _ | ⟨z, _ | ⟨z2, l2⟩⟩ <;> simp [mE, genP] at hm
            | _ => simp [mE, genP] at hm
          | _ => simp [mE, genP] at hm
        · simp [mE, genP] at hm
      · rcases l with _ | ⟨z, _ | ⟨z2, l⟩⟩ <;> simp [mE, genP] at hm
    | _ => simp [mE, genP] at hm
  | _ => simp [mE, genP] at hm
theorem srts_is {a : E} {sc : Scope} {ex : Expr} (hm : mE p N sc (.srtset a) ex = true) : ∃ np yp z ypos pos, ex = .Call (.Name "sorted" np) [.Call (.Name "set" yp) [z] [] ypos] [] pos ∧ glb sc "sorted" = true ∧ glb sc "set" = true ∧ mE p N sc a z = true := by
  cases ex with
  | Call f l kws pos =>
    cases f with
    | Name x np =>
      rcases kws with _ | ⟨q, kws⟩
      · rcases l with _ | ⟨z, _ | ⟨z2, l⟩⟩
        · simp [mE, genP] at hm
        · cases z with
          | Call f2 l2 k2 p2 =>
            cases f2 with
            | Name y yp =>
              rcases k2 with _ | ⟨q, k2⟩
              · rcases l2 with _ | ⟨z, _ | ⟨z2, l2⟩⟩
                · simp [mE, genP] at hm
                · simp only [mE, Bool.and_eq_true] at hm
                  obtain ⟨⟨⟨⟨h1, h2⟩, h3⟩, h4⟩, h5⟩ := hm
                  have a1 := beq_iff_eq.mp h1
                  have a2 := beq_iff_eq.mp h3
                  subst a1 a2
                  exact ⟨_, _, _, _, _, rfl, h2, h4, h5⟩
                · simp [mE, genP] at hm
              · rcases l2 with _ | ⟨z, _ | ⟨z2, l2⟩⟩ <;> simp [mE, genP] at hm
            | _ => simp [mE, genP] at hm
          | _ => simp [mE, genP] at hm
        · simp [mE, genP] at hm
      · rcases l with _ | ⟨z, _ | ⟨z2, l⟩⟩ <;> simp [mE, genP] at hm
    | _ => simp [mE, genP] at hm
  | _ => simp [mE, genP] at hm
theorem setD_inv {d : PyData} {l : List Int} (h : setD d = some l) : ∃ xs l0, d = .tuple xs ∧ intsOf xs = some l0 ∧ l0.length < 60 ∧ l = setI l0 := by
  unfold setD at h
  split at h
  · rename_i ht
    rw [Option.bind_eq_some_iff] at h
    obtain ⟨l0, h1, h2⟩ := h
    split at h2
    · rename_i hl
      cases h2
      obtain ⟨xs, hx, hi⟩ := intsIn_inv h1
      rcases hx with rfl | rfl
      · cases ht
      · exact ⟨xs, l0, rfl, hi, hl, rfl⟩
    · cases h2
  · cases h
/-- a set of whole numbers is made -/
theorem made_set {d : PyData} {l : List Int} {w : W} {Q : Value → Shared → Prop} (hr : L2.Room k A) (I : Inv g N en Z e σ s) (ew : w.data = d) (r1 : Rep Z s.heap v w) (hd : setD d = some l)
    (h : ∀ (h' : Heap) (tk : Nat) (S : Int → Bool), L2.SetR g.w h' s.heap.objs.size S l.length → (∀ x, S x = true ↔ x ∈ l) → l.Pairwise (· < ·) → l.length < 60 → Ext s.heap h' → Q (.ref s.heap.objs.size) { s with heap := h', toks := tk }) : WP g A (call (.type "set") [v]) Q s := by
  obtain ⟨xs, l0, rfl, hi, hl, rfl⟩ := setD_inv hd
  obtain ⟨ad, its, n, rfl, ho, _, ff⟩ := r1.tuple I.sh.zh ew
  have hia := ints_are ff hi
  refine L2.call_set_tupI l0 hr.hd ⟨_, ho, rfl, n, rfl⟩ (by simpa using hia) (by unfold scanBound; omega) fun h' tk c R hc hk => ?_
  have hlen : c = (setI l0).length := by
    obtain ⟨o, es, ep, t, ho, hex, hdd, gg, nd, hm, hb, hf, hn, hri, hli⟩ := R
    rw [← hn, ← Array.length_toList, ← List.length_map (f := L2.keyOf)]
    exact nodup_len nd (up_nodup setI_up) fun x => by rw [← hm x, decide_eq_true_eq, setI_mem]
  subst hlen
  exact h h' tk _ R (fun x => by rw [decide_eq_true_eq, setI_mem]) setI_up (by have := setI_len (l := l0); omega) fun b o q => hk b o q
theorem se_lenset (rn : Rn p c g k) {a : E} (ha : SE p c g N k a) : SE p c g N k (.lenset a) := by
  intro sc ex A en Z e σ s r e' hr hsc hm I h
  subst hsc
  obtain ⟨np, yp, z, ypos, pos, rfl, h2, h4, h5⟩ := lens_is hm
  simp only [ev, Option.bind_eq_some_iff, Option.map_eq_some_iff, Prod.exists] at h
  obtain ⟨ra, e1, k1, d, dx, l, hl, h⟩ := h
  cases h
  refine wpAny_Call_Name_kw (I.bltin (v := .builtin "len") h2 (rn.bn _ (by simp [biNames])) rfl ?_)
  refine PyProof.Rows.callWith_builtin1 (args_cons ?_ rfl) rfl rfl
  refine wpAny_Call_Name_kw (I.bltin (v := .type "set") h4 (rn.bn _ (by simp [biNames])) rfl ?_)
  refine PyProof.Rows.callWith_type1 (args_cons (one ha hr rfl h5 I k1 dx fun v Z1 w s1 st I1 ew r1 => ?_) (no_star h5 _ _)) (no_star h5 _ _) rfl
  refine args_nil (made_set hr I1 ew r1 hl fun h' tk S R hS hup h60 k0 => args_nil ?_)
  have I2 := I1.grow (t' := tk) k0
  have st2 := st.trans (Step.grow (t' := tk) k0)
  obtain ⟨o, es, ep, t, ho, hex, hdd, gg, nd, hm, hb, hf, hn, hri, hli⟩ := R
  refine call_len_set ho hex hdd hf (by rw [hn]; omega) ?_
  rw [hn]
  exact (I2.here .int).weak st2 fun _ z => z
theorem se_srtset (rn : Rn p c g k) {a : E} (ha : SE p c g N k a) : SE p c g N k (.srtset a) := by
  intro sc ex A en Z e σ s r e' hr hsc hm I h
  subst hsc
  obtain ⟨np, yp, z, ypos, pos, rfl, h2, h4, h5⟩ := srts_is hm
  cases hq : c.q with
  | true => simp [ev, hq] at h
  | false =>
  have hgq : g.q = false := by rw [← rn.q, hq]
  simp only [ev, hq, Bool.false_eq_true, if_false, Option.bind_eq_some_iff, Option.map_eq_some_iff, Prod.exists] at h
  obtain ⟨ra, e1, k1, d, dx, l, hl, h⟩ := h
  cases h
  refine wpAny_Call_Name_kw (I.bltin (v := .builtin "sorted") h2 (rn.bn _ (by simp [biNames])) rfl ?_)
  refine PyProof.Rows.callWith_builtin1 (args_cons ?_ rfl) rfl rfl
  refine wpAny_Call_Name_kw (I.bltin (v := .type "set") h4 (rn.bn _ (by simp [biNames])) rfl ?_)
  refine PyProof.Rows.callWith_type1 (args_cons (one ha hr rfl h5 I k1 dx fun v Z1 w s1 st I1 ew r1 => ?_) (no_star h5 _ _)) (no_star h5 _ _) rfl
  refine args_nil (made_set hr I1 ew r1 hl fun h' tk S R hS hup h60 k0 => args_nil ?_)
  have I2 := I1.grow (t' := tk) k0
  have st2 := st.trans (Step.grow (t' := tk) k0)
  refine L2.sorted_set R hr.hd (by omega) fun s3 pp out cc ns hk hg ho hz hp hi hup2 hmem hlen => ?_
  have hns : ns = l := up_eq hup2 hup fun x => by rw [hmem x, hS x]
  subst hns
  have I3 : Inv g N en Z1 e' σ s3 := I2.movedTo (wr := []) (fun b o _ q => hk b o q) (fun b hb => by cases hb) (fun z => by rw [hg]; exact I2.sh.bare z)
  have na2 : h'.get? pp = none := Heap.get?_none_of_le hz
  refine Post.after (r' := .v (.own (ns.map .int))) (v' := .ref pp) st2 (fun _ q => q) ⟨Z1, ⟨fun _ _ q => q, fun a o q _ _ _ => hk a o q, fun a o q => ⟨o, hk a o q⟩, fun b q => ?_, fun _ _ q => .inl q, ho, fun z => by rw [hgq] at z; cases z⟩, I3, ⟨_, out.toList, cc, rfl, by rw [show (LstO out.toList cc) = seqObj "list" out cc by simp [LstO, seqObj]]; exact hp, by rw [hi.length, hlen]; rw [sizeLine_is]; omega, ?_⟩, fun b hb => ?_⟩
  · rcases q with q | ⟨_, _, q⟩
    · exact .inl q
    · cases q; exact .inr na2
  · exact ints_fzI hi
  · obtain ⟨_, q⟩ := footR_v hb
    cases q
    have := I2.new na2
    exact this
end
end Mini

-- M26z
set_option Elab.async false
set_option linter.all false
set_option maxRecDepth 100000
set_option maxHeartbeats 1000000
/-! Mini 26z: sorted(x, key=lambda y: ..). -/
namespace Mini
open PySem PyProof.Rows

section
variable {p : Px} {c : Cf} {g : G} {N : List Str} {k : Nat} {en en' : PySem.Env} {Z Z4 Zq : Heap} {e e1 e' : Env} {σ : List (Option Value)} {s s4 : Shared} {A : Around} {v : Value} {scope : Scope}

theorem skey_is {a f : E} {i : Nat} {sc : Scope} {ex : Expr} (hm : mE p N sc (.skey a i f) ex = true) : ∃ np z y ap body scope lpos kp pos, ex = .Call (.Name "sorted" np) [z] [⟨some "key", .Lambda ⟨[], [⟨y, none, ap⟩], none, [], [], none, []⟩ body scope lpos, kp⟩] pos ∧
    glb sc "sorted" = true ∧ mE p N sc a z = true ∧ mN N i y = true ∧ scope.names.lookup y = some .local ∧ blk N sc scope [i] = true ∧ (∀ y ∈ scope.names, y.2 ≠ .cell) ∧ scope.isGenerator = false ∧ mE p N scope f body = true := by
  unfold mE at hm
  split at hm <;> first | (exfalso; simp at hm; done) | skip
  all_goals rename_i heq
  all_goals first | (cases heq; done) | skip
  all_goals
    cases heq
    simp only [Bool.and_eq_true, beq_iff_eq, List.all_eq_true, Bool.not_eq_true', beq_eq_false_iff_ne] at hm
    obtain ⟨⟨⟨⟨⟨⟨⟨⟨⟨h1, h2⟩, h3⟩, h4⟩, h5⟩, h6⟩, h7⟩, h8⟩, h9⟩, h10⟩ := hm
    subst h1 h3
    exact ⟨_, _, _, _, _, _, _, _, _, rfl, h2, h4, h5, h6, h7, h8, h9, h10⟩
theorem Inv.env (I : Inv g N en Z e σ s) (hq : g.q = true) (h1 : en'.scope = en.scope) (h2 : en'.locals = en.locals) (h3 : en'.cells = en.cells) (h4 : en'.globals = en.globals) (h5 : en'.builtins = en.builtins) : Inv g N en' Z e σ s := by
  cases en
  cases en'
  simp only at h1 h2 h3 h4 h5
  subst h1 h2 h3 h4 h5
  exact ⟨I.ok, I.sh, ⟨I.fm.kind, I.fm.glob, I.fm.blt, I.fm.nd, I.fm.has, I.fm.inj, I.fm.cl, fun h => by rw [hq] at h; cases h⟩, I.fz, I.fl, ⟨I.sees.ns, I.sees.cell⟩, I.len, I.elen, I.rep, I.inj, I.mine⟩
/-- a lambda is made -/
theorem lam_made {tg : List Nat} {y : Str} {ap lpos : Pos} {body : Expr} {Q : Value → Shared → Prop} (I : Inv g N en Z e σ s) (hg : g.q = false) (B : Blk N en.scope scope tg)
    (h : ∀ q ∈ g.tabs, ∀ (f : Addr) (cv pm ctv : Value) (s4 : Shared) (Z4 : Heap) (qn : Str), Coded g q Z Z4 s s4 → Z4.CodeRec cv qn → s4.heap.get? f = some { cls := .type "function", data := .func (PySem.W.kla_fn "<lambda>" (en.qual ++ "<lambda>") ⟨[], [⟨y, none, ap⟩], none, [], [], none, []⟩ body scope (L2.cloFrom en.cells scope.names []) pm cv ctv) } → Q (.ref f) s4) :
    WP g A (eval (.Lambda ⟨[], [⟨y, none, ap⟩], none, [], [], none, []⟩ body scope lpos) en) Q s := by
  obtain ⟨q, hq, hcode⟩ := I.fm.code hg
  have TB := I.ok.tab q hq
  obtain ⟨ps, hP, ht⟩ := I.sh.th q hq
  have cd : PySem.W.CodeHd s.heap q.1 q.2 := TB.code.keeps I.bk
  have hfree : ∀ y ∈ scope.names, y.2 = .free → ∃ c, en.cells.lookup y.1 = some c := fun y hy q => I.fm.has _ (by simpa [PySem.Env.kindOf] using B.free y hy q)
  refine PySem.W.kla_eval rfl ?_
  cases hf : codeAmong lpos ps.toList with
  | none =>
    refine PySem.W.kla_makeFunction (mg := g.mg) (c := q.1) (P := q.2) (ps := ps) (L2.closure_ok hfree) I.fm.glob (I.ok.mod.glob.keeps I.bk) hcode cd hP ht.1 hf TB.gP (TB.bm.keeps I.bk) fun c' ctv h' tk hx hge hlt hrec htb => ?_
    obtain ⟨Z4, y1, y2, y3, y4, y5⟩ := zgrow (pos := lpos) I hq hP ht hx hge hrec
    exact h q hq _ _ _ _ _ Z4 _ ⟨⟨_, _, rfl⟩, fun b o hb z => Heap.get?_push_of_some _ (hx b o hb z), y1, fun b o z => Heap.get?_push_of_some _ (y2 b o z), y3, _, Heap.get?_push_of_some _ htb, y4⟩ y5 (Heap.get?_push_size _ rfl)
  | some cv =>
    obtain ⟨qn, hqn⟩ := ht.2 _ _ hf
    refine PySem.W.kla_makeFunctionHit (mg := g.mg) (c := q.1) (P := q.2) (ps := ps) (L2.closure_ok hfree) I.fm.glob (I.ok.mod.glob.keeps I.bk) hcode cd hP ht.1 hf (TB.bm.keeps I.bk) fun ctv h' tk hx hsz => ?_
    exact h q hq _ _ _ _ _ Z _ ⟨⟨_, _, rfl⟩, fun b o _ z => Heap.get?_push_of_some _ (hx b o z), fun _ _ z => z, fun b o z => Heap.get?_push_of_some _ (hx b o (I.sh.zh b o z)), fun _ _ z => .inl z, ps, Heap.get?_push_of_some _ (hx _ _ hP), ht⟩ hqn (Heap.get?_push_size _ rfl)
theorem Coded.step {q : Addr × Addr} {F : Addr → Prop} (x : Coded g q Z Z4 s s4) (hq : q ∈ g.tabs) (hg : g.q = false) : Step g [] Z F s Z4 F s4 := by
  refine ⟨x.zz, fun a o h _ _ n => x.keep a o (n q hq) h, fun a o h => ?_, fun _ h => .inl h, fun a o h => (x.back a o h).elim .inl fun w => .inr (.inr w), ?_, fun z => by rw [hg] at z; cases z⟩
  · by_cases w : a = q.2
    · obtain ⟨ps, z, _⟩ := x.tab
      rw [w]; exact ⟨_, z⟩
    · exact ⟨o, x.keep a o w h⟩
  · obtain ⟨h, t, rfl⟩ := x.only
    rfl
/-- a lambda is called, whatever its code's name -/
theorem lam_call {prog : Program} {w : World} {R : Result → Shared → Prop} {f : Addr} {args : Args} {o : Obj} {fd : FuncData} {body : Expr} (hroom : A.depth < recursionLimit)
    (ho : s.heap.get? f = some o) (hd' : o.data = .func fd) (hco : fd.scope.isCoroutine = false) (hgen : fd.scope.isGenerator = false) (hbody : fd.body = .expr body) {qn : Str} (hcd : s.heap.CodeRec fd.code qn)
    (h : wpAny (model prog w) A.in1 (bindArgs fd args) (fun binds s₁ =>
      wpAny (model prog w) A.in1 (newFunctionEnv fd.scope fd.globals fd.closure binds (qn ++ ".<locals>.") (some f) fd.code none fd.builtins)
        (fun env s₂ => s₂.heap.NoLimit ∧ codeAny (model prog w) A (.expr body env) R s₂) (fun e s' => R (.error e) s') s₁) (fun e s' => R (.error e) s') s) :
    codeAny (model prog w) A (.call (.ref f) args) R s := by
  refine codeAny_of_tree ?_
  show wpAny _ A.in1 (callAny (.ref f) args) _ _ s
  simp only [callAny]
  refine wpAny_bind (wpAny_load ho ?_)
  obtain ⟨cc, oc, vs, tq, hc, hoc, hdc, hq⟩ := hcd
  simp only [hd', callFunction, hco, hgen, hbody, hc]
  rw [hc] at h
  refine wpAny_bind (m := field (.ref cc) 1) (wpAny_field hoc hdc hq (wpAny_bind (wpAny_pure ?_)))
  exact wpAny_bind (wpAny_mono h (fun binds s₁ h₁ => wpAny_bind (wpAny_mono h₁ (fun env s₂ h₂ => wpAny_bind (wpAny_enterFrame h₂.1 hroom
    (wpAny_pure (And.intro rfl h₂.2)))) fun _ _ h' => h')) fun _ _ h' => h')
theorem bind_one {y : Str} {ap : Pos} {body : Expr} {scope : Scope} {q : Str} {cl : List (Str × Addr)} {pm cv ctv v : Value} : bindArgs (PySem.W.kla_fn "<lambda>" q ⟨[], [⟨y, none, ap⟩], none, [], [], none, []⟩ body scope cl pm cv ctv) ⟨[v], []⟩ = pure [(y, v)] := by
  have hl : ([(y, v)] : List (Str × Value)).lookup y = some v := by simp [List.lookup]
  unfold bindArgs
  simp [seqItems?, List.lookup, List.filter]
  rfl
theorem keyL_at {el : Env → Option (R × Env)} {i : Nat} {e0 : Env} : ∀ {xs ks : List PyData}, keyL el i e0 xs = some ks → ks.length = xs.length ∧ ∀ (j : Nat) (x : PyData), xs[j]? = some x → ∃ d, ks[j]? = some d ∧ ∃ y e3, el (e0.set i (some (.d x))) = some (y, e3) ∧ y.data e3 = some d
  | [], ks, h => by cases h; exact ⟨rfl, fun j x h => by simp at h⟩
  | x :: xs, ks, h => by
    simp only [keyL, Option.bind_eq_some_iff, Option.map_eq_some_iff, Prod.exists] at h
    obtain ⟨d, ⟨y, e3, h1, h2⟩, l, h3, rfl⟩ := h
    obtain ⟨l1, l2⟩ := keyL_at h3
    refine ⟨by simp [l1], fun j x' hx => ?_⟩
    cases j with
    | zero => simp at hx; subst hx; exact ⟨d, rfl, y, e3, h1, h2⟩
    | succ j => simpa using l2 j x' (by simpa using hx)
theorem each_zip {κ : Type} {P : Value → PyData → Prop} : ∀ {its : List Value} {xs : List PyData} {ps : List κ}, PySem.W.EachIs P its xs → ps.length = xs.length → PySem.W.EachIs (fun v (b : PyData × κ) => P v b.1) its (xs.zip ps)
  | _, _, [], .nil, _ => .nil
  | _, _, [], .cons _ _, h => by simp at h
  | _, _, _ :: _, .nil, h => by simp at h
  | _, _, _ :: _, .cons a b, h => .cons a (each_zip b (by simpa using h))
theorem each_fst {κ : Type} {P : Value → PyData → Prop} : ∀ {its : List Value} {bs : List (PyData × κ)}, PySem.W.EachIs (fun v (b : PyData × κ) => P v b.1) its bs → PySem.W.EachIs P its (bs.map (·.1))
  | _, _, .nil => .nil
  | _, _, .cons a b => .cons a (each_fst b)
/-- sorted, its keys told -/
theorem skey_end {κ : Type} {kd : κ → PyData} {xs : List PyData} {ps : List κ} {ad f : Addr} {its : List Value} {n : Nat} (I4 : Inv g N en Z4 e1 σ s4) (hr : L2.Room (k + 1) A) (ho : s4.heap.get? ad = some (LstO its n)) (ff : FzA Z4 xs its) (hl : ps.length = xs.length) (sz : szOk xs.length = true)
    (hal : ∀ p q, PySem.W.alike (kd p) (kd q) = true) (hsk : PySem.W.Sortable ((xs.zip ps).map fun b => kd b.2)) (hdep : ∀ p, (kd p).depth ≤ 1)
    (turn : ∀ (v : Value) (j : Nat) (x : PyData) (q : κ), xs[j]? = some x → ps[j]? = some q → Fz Z4 x v → ∀ (h : Heap) (tk : Nat), Ext s4.heap h → wpAny (model g.P g.w) A.in1.in1 (call (.ref f) [v]) (PySem.W.KeyPure (kd q) { s4 with heap := h, toks := tk }) (fun _ _ => False) { s4 with heap := h, toks := tk }) :
    WP g A (call (.builtin "sorted") [.ref ad] [(Str.ofString "key", .ref f)]) (Post g N en σ Z4 (Foot σ e1) s4 e1 (.v (.own (((xs.zip ps).mergeSort (PySem.W.dataLe false fun b => kd b.2)).map (·.1))))) s4 := by
  have hlen : (xs.zip ps).length = xs.length := by rw [List.length_zip, hl, Nat.min_self]
  refine PySem.W.sorted_key_data (b := false) (bs := xs.zip ps) (R := fun v b => Fz Z4 b.1 v) (fun b => kd b.2) ⟨_, ho, rfl, n, rfl⟩ (each_zip (fz_each ff) hl) (PySem.W.AllAlike.of fun _ _ => hal _ _) hsk (by rw [hlen]; exact szOk_iff.mp sz) (fun b _ => ?_) (PyProof.Rows.ksk_s1 _ _) (fun _ => PyProof.Rows.ksk_l1 _ _) (fun _ => PyProof.Rows.ksk_t1 _ _)
    (fun v b hv hb h tk kp => ?_) fun out cc h' tk kp na hD hlo eo => ?_
  · have := hdep b.2
    have := hr.un
    omega
  · obtain ⟨j, hj⟩ := List.mem_iff_getElem?.mp hb
    obtain ⟨q1, q2⟩ := List.getElem?_zip_eq_some.mp hj
    exact turn v j b.1 b.2 q1 q2 hv h tk kp
  · refine I4.newLst (n := cc) (its := out) (t' := tk) kp na (by rw [hD]) (each_fz (each_fst eo)) ?_
    rw [hlo, hlen]
    exact szOk_iff.mp sz
theorem mapM_keyA : ∀ {ks : List PyData} {ps : List Int}, ks.mapM keyA = some ps → ks = ps.map PyData.int
  | [], ps, h => by simp at h; subst h; rfl
  | x :: ks, ps, h => by
    simp only [List.mapM_cons, Option.bind_eq_bind, Option.bind_eq_some_iff, Option.pure_def, Option.some.injEq] at h
    obtain ⟨b, h1, m', h2, rfl⟩ := h
    rw [mapM_keyA h2]
    cases x <;> simp [keyA] at h1
    subst h1
    rfl
theorem mapM_keyB : ∀ {ks : List PyData} {ps : List (Int × Int)}, ks.mapM keyB = some ps → ks = ps.map fun p => PyData.tuple [.int p.1, .int p.2]
  | [], ps, h => by simp at h; subst h; rfl
  | x :: ks, ps, h => by
    simp only [List.mapM_cons, Option.bind_eq_bind, Option.bind_eq_some_iff, Option.pure_def, Option.some.injEq] at h
    obtain ⟨b, h1, m', h2, rfl⟩ := h
    rw [mapM_keyB h2]
    unfold keyB at h1
    split at h1
    · cases h1
      rfl
    · cases h1
/-- what a key reads as -/
theorem key_reads {Z5 h : Heap} {w : W} {d : PyData} (x : Rep Z5 h v w) (kz : Ext Z5 h) (ew : w.data = d) (hk : (∃ i, d = .int i) ∨ ∃ i j, d = .tuple [.int i, .int j]) : Reads h v d [] := by
  rcases hk with ⟨i, rfl⟩ | ⟨i, j, rfl⟩
  · obtain ⟨t, rfl⟩ := (x.flat ew (by simp)).int_inv
    exact .int i t
  · obtain ⟨a, its, n, rfl, ho, _, ff⟩ := x.tuple kz ew
    obtain ⟨v1, r1, rfl, f1, g1⟩ := ff.cons_inv
    obtain ⟨v2, r2, rfl, f2, g2⟩ := g1.cons_inv
    rw [g2.nil_inv] at ho
    obtain ⟨t1, rfl⟩ := f1.int_inv
    obtain ⟨t2, rfl⟩ := f2.int_inv
    exact .tuple (as := []) ho rfl rfl (.cons (as := []) (bs := []) (.int i t1) (.cons (as := []) (bs := []) (.int j t2) .nil))
theorem se_skey {a f : E} {i : Nat} (rn : Rn p c g (k + 1)) (ha : SE p c g N (k + 1) a) (hf : SE p c.quiet g.quiet N k f) : SE p c g N (k + 1) (.skey a i f) := by
  intro sc ex A en Z e σ s r e' hr hsc hm I h
  subst hsc
  obtain ⟨np, z, y, ap, body, scope, lpos, kp, pos, rfl, h2, h3, h4, h5, h6, h7, h8, h9⟩ := skey_is hm
  cases hq : c.q with
  | true => simp [ev, hq] at h
  | false =>
  have hgq : g.q = false := by rw [← rn.q, hq]
  simp only [ev, hq, Bool.false_eq_true, if_false, Option.bind_eq_some_iff, Option.map_eq_some_iff, Prod.exists] at h
  obtain ⟨ra, e1, k1, d, dx, xs, hxs, ks, hks, l, hl, h⟩ := h
  cases h
  have B := blk_is h6
  refine wpAny_Call_Name_kw (I.bltin (v := .builtin "sorted") h2 (rn.bn _ (by simp [biNames])) rfl ?_)
  refine PyProof.Rows.callWith_kw (args_cons (one ha hr rfl h3 I k1 dx fun v Z1 w s1 st I1 ew r1 => args_nil ?_) (no_star h3 _ _)) (by rw [no_star h3]; rfl) (by rw [no_star h3]; rfl) rfl rfl
  refine PyProof.Rows.kws_cons (lam_made (ap := ap) (y := y) I1 hgq B fun q hq' fa cv pm ctv s4 Z4 qn cd hcv hfo => PyProof.Rows.kws_nil ?_)
  show WP g A (call (.builtin "sorted") [v] [(Str.ofString "key", .ref fa)]) _ s4
  have hd : d = .list xs := by
    unfold lstOf at hxs
    split at hxs
    · cases hxs; rfl
    · cases hxs
  subst hd
  obtain ⟨ad, its, n, rfl, ho, hz, ff⟩ := r1.list I1.sh.zh ew
  have I4 := cd.inv hq' I1
  have ho4 : s4.heap.get? ad = some (LstO its n) := cd.keep ad _ (fun w => by
    obtain ⟨ps, q1, _⟩ := I1.sh.th q hq'
    rw [← w, ho] at q1
    cases q1) ho
  obtain ⟨Zq, zz3, zs, out, rp⟩ := I4.still (wr := []) fun b hb => by cases hb
  obtain ⟨hkl, hka⟩ := keyL_at hks
  have hi' : i < N.length := (List.getElem?_eq_some_iff.mp (name_at h4)).1
  have turn : ∀ (v : Value) (x d : PyData), Fz Z4 x v → (∃ y e3, ev c.quiet f ((wipe [i] (frzAll e')).set i (some (.d x))) = some (y, e3) ∧ y.data e3 = some d) → ((∃ i, d = .int i) ∨ ∃ i j, d = .tuple [.int i, .int j]) →
      ∀ (h : Heap) (tk : Nat), Ext s4.heap h → wpAny (model g.P g.w) A.in1.in1 (call (.ref fa) [v]) (PySem.W.KeyPure d { s4 with heap := h, toks := tk }) (fun _ _ => False) { s4 with heap := h, toks := tk } := by
    intro v x d hx ⟨yr, e3, hev, hd⟩ hk h tk hh
    have I5 : Inv g N en Z4 e' σ { s4 with heap := h, toks := tk } := I4.grow hh
    refine wpAny_call (lam_call (A := A.in1.in1) (by have := hr.dp; show A.depth < _; omega) (hh _ _ hfo) rfl B.co h8 rfl (hcv.keeps fun b o z => hh b o (cd.zh b o z)) ?_)
    refine wpAny_of_eq bind_one (wpAny_newFunctionEnv h7 (fun u hu => ?_) (fun h₁ hns hsb => ⟨I5.lim.fresh _ hsb, ?_⟩) B.kind)
    · have : u = (y, v) := by simpa using hu
      rw [this]; exact h5
    have kp : Ext h h₁ := fun b o e => hsb.extBut b o (Nat.ne_of_lt (Heap.lt_size e)) (Heap.get?_push_of_some _ e)
    have g4 : ∀ (j : Nat) (w : W), get ((wipe [i] (frzAll e')).set i (some (.d x))) j = some w → ∃ d u, w = .d d ∧ (σ.set i (some v))[j]? = some (some u) ∧ Fz Zq d u := fun j w hw' => by
      rw [get_set] at hw'
      split at hw'
      · rename_i z
        cases hw'
        exact ⟨x, v, rfl, by rw [← z.1]; exact sig_self (by rw [I4.len]; exact hi'), hx.ext zz3⟩
      · rename_i z
        rw [get_wipe] at hw'
        split at hw'
        · cases hw'
        · rename_i nj
          rw [get_frzAll, Option.map_eq_some_iff] at hw'
          obtain ⟨w0, q0, rfl⟩ := hw'
          obtain ⟨u, q1, q2⟩ := rp j w0 q0
          refine ⟨w0.data, u, rfl, ?_, q2⟩
          have : i ≠ j := fun z => nj (by rw [z]; exact List.mem_singleton_self _)
          rw [List.getElem?_set_ne this]
          exact q1
    have nf : ∀ a, ¬ Foot (σ.set i (some v)) ((wipe [i] (frzAll e')).set i (some (.d x))) a := fun a ⟨j, ys, q1, _⟩ => by
      obtain ⟨d, u, q, _⟩ := g4 j _ q1
      cases q
    have J := I5.gblock (tg := [i]) (wr := []) (code := .none) (s4 := { s4 with heap := h₁, toks := tk + 1 }) B h7 (get_size _) out zz3 (fun b o z => hh b o (zs b o z)) (fun b o _ z => kp b o z) (fun b hb => by cases hb) hns rp
      (e4 := (wipe [i] (frzAll e')).set i (some (.d x))) (σ4 := σ.set i (some v)) (by rw [List.length_set, wipe_len]; simp [frzAll]) (by rw [List.length_set]) g4 (fun j hj y' u q1 q2 => by
        have : j = i := by simpa using hj
        subst this
        rw [name_at h4] at q1
        cases q1
        rw [sig_self (by rw [I4.len]; exact hi')] at q2
        cases q2
        simp) fun j hj => by
        have : i ≠ j := fun z => hj (by rw [z]; exact List.mem_singleton_self _)
        rw [List.getElem?_set_ne this]
    refine PySem.W.kla_codeExpr (wpAny_mono (hf scope body _ _ Zq _ _ _ yr e3 ⟨hr.hd, by have := hr.dp; show A.depth + 1 + 3 * k + 5 < _; omega, by have := hr.un; show A.units + 1 + 1 + 3 + 16 * k + 200 < _; omega⟩ rfl h9 (J.env rfl rfl rfl rfl I5.fm.glob.symm rfl) hev) (fun u s3 q => ?_) fun _ _ z => z.elim)
    obtain ⟨Z5, st5, I6, rr⟩ := q
    obtain ⟨w, hw, rw'⟩ := I6.resD rr hd
    obtain ⟨h', tk', es, hh'⟩ := (st5.less (F2 := Foot (σ.set i (some v)) e3) fun a z => .inl z).keeps nf
    exact ⟨h', tk', by rw [es], fun b o z => hh' b o (kp b o z), by have := key_reads rw' I6.sh.zh hw hk; rw [es] at this; exact this⟩
  have st4 := st.trans (cd.step hq' hgq)
  unfold sortK at hl
  split at hl
  · rename_i hsz
    split at hl
    · rename_i ps hp
      cases hl
      have e1 := mapM_keyA hp
      have hlp : ps.length = xs.length := by rw [← hkl, e1, List.length_map]
      have fin := skey_end (kd := PyData.int) (ps := ps) I4 hr ho4 (ff.ext cd.zz) hlp hsz (fun _ _ => rfl) (.inr fun d hd => by
          obtain ⟨b, _, rfl⟩ := List.mem_map.mp hd
          exact ⟨fun z => (by cases z), fun _ z => (by cases z)⟩) (fun p => by simp [PyData.depth]) fun v j x q q1 q2 hv => by
        obtain ⟨d, w1, w2⟩ := hka j x q1
        rw [e1, List.getElem?_map, q2] at w1
        cases w1
        exact turn v x _ hv w2 (.inl ⟨q, rfl⟩)
      rw [PySem.W.dataLe_int] at fin
      exact wp_mono fin fun u s5 q => q.weak st4 fun _ z => z
    · rw [Option.map_eq_some_iff] at hl
      obtain ⟨ps, hp, rfl⟩ := hl
      have e1 := mapM_keyB hp
      have hlp : ps.length = xs.length := by rw [← hkl, e1, List.length_map]
      have fin := skey_end (kd := fun p : Int × Int => PyData.tuple [.int p.1, .int p.2]) (ps := ps) I4 hr ho4 (ff.ext cd.zz) hlp hsz (fun _ _ => by simp [PySem.W.alike, PySem.W.alikeAll]) (.inl fun d hd => by
          obtain ⟨b, _, rfl⟩ := List.mem_map.mp hd
          exact ⟨_, _, rfl⟩) (fun p => by simp [PyData.depth, PyData.depthAll]) fun v j x q q1 q2 hv => by
        obtain ⟨d, w1, w2⟩ := hka j x q1
        rw [e1, List.getElem?_map, q2] at w1
        cases w1
        exact turn v x _ hv w2 (.inr ⟨q.1, q.2, rfl⟩)
      rw [PySem.W.dataLe_ii (fun b : PyData × Int × Int => b.2.1) (fun b => b.2.2)] at fin
      exact wp_mono fin fun u s5 q => q.weak st4 fun _ z => z
  · cases hl
end
end Mini

-- M27
set_option Elab.async false
set_option linter.all false
set_option maxRecDepth 100000
set_option maxHeartbeats 4000000
/-! Mini 27: every expression, every statement. -/
namespace Mini
open PySem PyProof.Rows

section
variable {p : Px} {c : Cf} {g : G} {N : List Str} {k : Nat} {en : PySem.Env}

structure Rn2 (p : Px) (c : Cf) (g : G) (k : Nat) : Prop where
  rn : Rn p c g k
  gen : c.q = false → ∃ k', k = k' + 1 ∧ Rn p c.quiet g.quiet k'
theorem Rn2.quiet {k' : Nat} (h : Rn p c.quiet g.quiet k') : Rn2 p c.quiet g.quiet k' := ⟨h, fun q => by cases q⟩
theorem genP_is {ex : Expr} {f : Str} {elt target iter : Expr} {o : Option Expr} {scope : Scope} (h : genP ex = some (f, elt, target, iter, o, scope)) :
    ∃ np gpos cpos ifs, ex = .Call (.Name f np) [.GeneratorExp elt [⟨target, iter, ifs, 0⟩] scope gpos] [] cpos ∧ ((ifs = [] ∧ o = none) ∨ ∃ c, ifs = [c] ∧ o = some c) := by
  unfold genP at h
  split at h
  · split at h
    · cases h; exact ⟨_, _, _, [], rfl, .inl ⟨rfl, rfl⟩⟩
    · cases h; exact ⟨_, _, _, [_], rfl, .inr ⟨_, rfl, rfl⟩⟩
    · cases h
  · cases h
theorem se_gen {b : Gb} {it t el : E} {tg : List Nat} {one : Bool} (rn : Rn p c g (k + 1)) (hi : SI p c g N (k + 1) it) (ht : ST p c.quiet g.quiet N k t) (hel : SE p c.quiet g.quiet N k el) : SE p c g N (k + 1) (.gen b it tg one t el) := by
  intro sc ex A en Z e σ s r e' hr hsc hm I h
  subst hsc
  simp only [ev] at h
  split at h
  · cases h
  rename_i hq
  have hg : g.q = false := by rw [← rn.q]; simpa using hq
  simp only [Option.bind_eq_some_iff, Option.map_eq_some_iff, Prod.exists] at h
  obtain ⟨xs, hs, e1, k1, os, k2, d, hd, h⟩ := h
  cases h
  simp only [mE] at hm
  cases hp : genP ex with
  | none => rw [hp] at hm; cases hm
  | some q =>
    obtain ⟨f, elt, target, iter, o, scope⟩ := q
    rw [hp] at hm
    simp only [Bool.and_eq_true] at hm
    obtain ⟨np, gpos, cpos, ifs, rfl, hifs⟩ := genP_is hp
    obtain ⟨⟨⟨⟨⟨⟨⟨⟨⟨⟨⟨⟨m1, m2⟩, m3⟩, m4⟩, m5⟩, m6⟩, m7⟩, m8⟩, m9⟩, m10⟩, m11⟩, m12⟩, m13⟩ := hm
    have ef := beq_iff_eq.mp m1
    subst ef
    have hmi : mIf p N scope t ifs = true := by
      rcases hifs with ⟨rfl, rfl⟩ | ⟨c', rfl, rfl⟩ <;> exact m10
    have h0 : scope.names.lookup (".0" : Str) = some .local := beq_iff_eq.mp m12
    have nc : ∀ y ∈ scope.names, y.2 ≠ .cell := fun y hy q => by
      have := List.all_eq_true.mp m13 y hy
      rw [q] at this
      cases this
    have ne : (gbName b == ("__debug__" : Str)) = false := by cases b <;> decide
    have nn : gbName b ≠ "__name__" := by cases b <;> decide
    refine wpAny_Call_Name_kw (I.bltin m2 (rn.bn _ (bn_gb b)) (boot_gb b) ?_ nn ne)
    refine PyProof.Rows.callWith_builtin1 (args_cons (wp_mono (Q := GenReady g N en σ Z (Foot σ e) s e' A (os.filterMap id)) ?_ fun ga s5 hR => args_nil ?_) rfl) rfl rfl
    · have m5' : (one && isEnum it) = false := by
        cases h9 : (one && isEnum it) with
        | false => rfl
        | true => rw [h9] at m5; cases m5
      unfold twoT at m3
      split at m3
      · subst m3
        exact gen_one hi ht hel hr hg (by simpa using m5') m6 m7 m4 m8 m9 hmi m11 h0 nc I k1 k2
      · simp only [Bool.and_eq_true, Bool.not_eq_true'] at m3
        obtain ⟨n1, n2⟩ := m3
        subst n1
        exact gen_two hi ht hel hr hg (fun z => by rw [z] at n2; simp at n2) m6 m7 m4 m8 m9 hmi m11 h0 nc I k1 k2
      · simp only [Bool.and_eq_true, Bool.not_eq_true'] at m3
        obtain ⟨n1, ⟨n2, n3⟩, n4⟩ := m3
        subst n1
        exact gen_tri hi ht hel hr hg (fun z => by rw [z] at n2; simp at n2) (fun z => by rw [z] at n3; simp at n3) (fun z => by rw [z] at n4; simp at n4) m6 m7 m4 m8 m9 hmi m11 h0 nc I k1 k2
      · cases m3
    · exact gen_use hr hR hd
end
section
variable {p : Px} {N : List Str}
def plainT : E → Bool
  | .not _ => false | .and _ _ => false | .or _ _ => false | .ite _ _ _ => false | .cmp _ _ _ => false | .chain _ _ _ _ _ => false | _ => true
theorem plain_test {sc : Scope} {x : E} {ex : Expr} (hm : mE p N sc x ex = true) (hx : plainT x = true) (en : PySem.Env) (whole : Sem Value) : isTrue ex en whole = (do let v ← whole; standAt ex.pos; holding [v] (truthy v)) := by
  cases ex with
  | UnaryOp op y pos => cases op <;> first | rfl | (cases x <;> simp [mE, genP, plainT] at hm hx)
  | BoolOp op ys pos => cases x <;> simp [mE, genP, plainT] at hm hx
  | IfExp a b c pos => cases x <;> simp [mE, genP, plainT] at hm hx
  | Compare a b c pos => cases x <;> simp [mE, genP, plainT] at hm hx
  | _ => rfl
theorem sa_none {c : Cf} {g : G} {k : Nat} {x : E} (h : ∀ e, evA c x e = none) : SA p c g N k x := fun sc es A en Z e σ s rs e' pos hr hsc hm I q => by rw [h] at q; cases q
theorem si_none {c : Cf} {g : G} {k : Nat} {x : E} (h : ∀ e, evI c x e = none) : SI p c g N k x := fun sc es A en Z e σ s xs hs e' tg b1 hr hsc hm hen I q => by rw [h] at q; cases q
theorem se_noneE {c : Cf} {g : G} {k : Nat} {x : E} (h : ∀ e, ev c x e = none) : SE p c g N k x := fun sc ex A en Z e σ s r e' hr hsc hm I q => by rw [h] at q; cases q
/-- EVERY expression runs as it should -/
theorem all_ok : ∀ (x : E) (c : Cf) (g : G) (k : Nat), Rn2 p c g k → SE p c g N k x ∧ ST p c g N k x ∧ SA p c g N k x ∧ SI p c g N k x := by
  intro x
  have mk : ∀ {x : E} {c : Cf} {g : G} {k : Nat}, SE p c g N k x → plainT x = true → (∀ e, evA c x e = none) → (∀ e, evI c x e = none) → SE p c g N k x ∧ ST p c g N k x ∧ SA p c g N k x ∧ SI p c g N k x := fun {x c g k} h1 h2 h3 h4 => ⟨h1, st_plain h1 fun sc ex hm en whole => plain_test hm h2 en whole, sa_none h3, si_none h4⟩
  induction x with
  | var i => intro c g k R; exact mk (se_var i) rfl (fun e => rfl) (fun e => rfl)
  | lit d => intro c g k R; exact mk (se_lit d) rfl (fun e => rfl) (fun e => rfl)
  | con x d => intro c g k R; exact mk (se_con R.rn x d) rfl (fun e => rfl) (fun e => rfl)
  | bin o a b iha ihb => intro c g k R; exact mk (se_bin (iha c g k R).1 (ihb c g k R).1) rfl (fun e => rfl) (fun e => rfl)
  | neg a ih => intro c g k R; exact mk (se_neg (ih c g k R).1) rfl (fun e => rfl) (fun e => rfl)
  | not a ih => intro c g k R; exact ⟨se_not (ih c g k R).2.1 (ih c g k R).1, st_not (ih c g k R).2.1, sa_none fun e => rfl, si_none fun e => rfl⟩
  | and a b iha ihb => intro c g k R; exact ⟨se_and (iha c g k R).1 (ihb c g k R).1, st_and (iha c g k R).2.1 (ihb c g k R).2.1, sa_none fun e => rfl, si_none fun e => rfl⟩
  | or a b iha ihb => intro c g k R; exact ⟨se_or (iha c g k R).1 (ihb c g k R).1, st_or (iha c g k R).2.1 (ihb c g k R).2.1, sa_none fun e => rfl, si_none fun e => rfl⟩
  | cmp o a b iha ihb => intro c g k R; exact ⟨se_cmp (iha c g k R).1 (ihb c g k R).1, st_cmp (iha c g k R).1 (ihb c g k R).1, sa_none fun e => rfl, si_none fun e => rfl⟩
  | chain o1 o2 a b d iha ihb ihd => intro c g k R; exact ⟨se_chain (iha c g k R).1 (ihb c g k R).1 (ihd c g k R).1, st_chain (iha c g k R).1 (ihb c g k R).1 (ihd c g k R).1, sa_none fun e => rfl, si_none fun e => rfl⟩
  | ite t a b iht iha ihb => intro c g k R; exact ⟨se_ite (iht c g k R).2.1 (iha c g k R).1 (ihb c g k R).1, st_ite (iht c g k R).2.1 (iha c g k R).2.1 (ihb c g k R).2.1, sa_none fun e => rfl, si_none fun e => rfl⟩
  | idx a i iha ihi => intro c g k R; exact mk (se_idx (iha c g k R).1 (ihi c g k R).1) rfl (fun e => rfl) (fun e => rfl)
  | slc a lo hi iha ihl ihh => intro c g k R; exact mk (se_slc (iha c g k R).1 (ihl c g k R).1 (ihh c g k R).1) rfl (fun e => rfl) (fun e => rfl)
  | none => intro c g k R; exact mk se_none rfl (fun e => rfl) (fun e => rfl)
  | tup es ih => intro c g k R; exact mk (se_tup (ih c g k R).2.2.1) rfl (fun e => rfl) (fun e => rfl)
  | lst es ih => intro c g k R; exact mk (se_lst (ih c g k R).2.2.1) rfl (fun e => rfl) (fun e => rfl)
  | nil => intro c g k R; exact ⟨se_noneE fun e => rfl, fun sc ex A en Z e σ s b e' hr hsc hm I q => (by simp [evT, ev] at q), sa_nil, si_none fun e => rfl⟩
  | cons a r iha ihr => intro c g k R; exact ⟨se_noneE fun e => rfl, fun sc ex A en Z e σ s b e' hr hsc hm I q => (by simp [evT, ev] at q), sa_cons (iha c g k R).1 (ihr c g k R).2.2.1, si_none fun e => rfl⟩
  | star a r iha ihr => intro c g k R; exact ⟨se_noneE fun e => rfl, fun sc ex A en Z e σ s b e' hr hsc hm I q => (by simp [evT, ev] at q), sa_star (iha c g k R).1 (ihr c g k R).2.2.1, si_none fun e => rfl⟩
  | lc it tg one t el ihi iht ihe => intro c g k R; exact mk (se_lc (ihi c g k R).2.2.2 (iht c g k R).2.1 (ihe c g k R).1) rfl (fun e => rfl) (fun e => rfl)
  | src a ih => intro c g k R; exact ⟨se_noneE fun e => rfl, fun sc ex A en Z e σ s b e' hr hsc hm I q => (by simp [evT, ev] at q), sa_none fun e => rfl, si_src (ih c g k R).1⟩
  | rng1 a ih => intro c g k R; exact ⟨se_noneE fun e => rfl, fun sc ex A en Z e σ s b e' hr hsc hm I q => (by simp [evT, ev] at q), sa_none fun e => rfl, si_rng1 R.rn (ih c g k R).1⟩
  | rng2 a b iha ihb => intro c g k R; exact ⟨se_noneE fun e => rfl, fun sc ex A en Z e σ s b e' hr hsc hm I q => (by simp [evT, ev] at q), sa_none fun e => rfl, si_rng2 R.rn (iha c g k R).1 (ihb c g k R).1⟩
  | rng3 a b d iha ihb => intro c g k R; exact ⟨se_noneE fun e => rfl, fun sc ex A en Z e σ s b e' hr hsc hm I q => (by simp [evT, ev] at q), sa_none fun e => rfl, si_rng3 R.rn (iha c g k R).1 (ihb c g k R).1 d⟩
  | enum a ih => intro c g k R; exact ⟨se_noneE fun e => rfl, fun sc ex A en Z e σ s b e' hr hsc hm I q => (by simp [evT, ev] at q), sa_none fun e => rfl, si_enum R.rn (ih c g k R).1⟩
  | lrng a ih => intro c g k R; exact mk (se_lrng R.rn (ih c g k R).1) rfl (fun e => rfl) (fun e => rfl)
  | call f es ih => intro c g k R; exact mk (se_call R.rn (ih c g k R).2.2.1) rfl (fun e => rfl) (fun e => rfl)
  | bi b es ih => intro c g k R; exact mk (se_bi R.rn (ih c g k R).2.2.1) rfl (fun e => rfl) (fun e => rfl)
  | mf m es ih => intro c g k R; exact mk (se_mf R.rn (ih c g k R).2.2.1) rfl (fun e => rfl) (fun e => rfl)
  | index a y iha ihy => intro c g k R; exact mk (se_index (iha c g k R).1 (ihy c g k R).1) rfl (fun e => rfl) (fun e => rfl)
  | lenset a ih => intro c g k R; exact mk (se_lenset R.rn (ih c g k R).1) rfl (fun e => rfl) (fun e => rfl)
  | srtset a ih => intro c g k R; exact mk (se_srtset R.rn (ih c g k R).1) rfl (fun e => rfl) (fun e => rfl)
  | skey a i f iha ihf =>
    intro c g k R
    refine mk ?_ rfl (fun e => rfl) (fun e => rfl)
    cases hq : c.q with
    | true => exact se_noneE fun e => by simp [ev, hq]
    | false =>
      obtain ⟨k', rfl, R'⟩ := R.gen hq
      exact se_skey R.rn (iha c g (k' + 1) R).1 (ihf c.quiet g.quiet k' (Rn2.quiet R')).1
  | isi a t ih => intro c g k R; exact mk (se_isi R.rn (ih c g k R).1) rfl (fun e => rfl) (fun e => rfl)
  | isis a ts ih => intro c g k R; exact mk (se_isis R.rn (ih c g k R).1) rfl (fun e => rfl) (fun e => rfl)
  | gen b it tg one t el ihi iht ihe =>
    intro c g k R
    refine mk ?_ rfl (fun e => rfl) (fun e => rfl)
    cases hq : c.q with
    | true => exact se_noneE fun e => by simp [ev, hq]
    | false =>
      obtain ⟨k', rfl, R'⟩ := R.gen hq
      have R2 := Rn2.quiet R'
      exact se_gen R.rn (ihi c g (k' + 1) R).2.2.2 (iht c.quiet g.quiet k' R2).2.1 (ihe c.quiet g.quiet k' R2).1
/-- EVERY statement -/
theorem all_st (c : Cf) (g : G) (k : Nat) (R : Rn2 p c g k) : ∀ b : S, SS1 p c g N k b ∧ SSB p c g N k b := by
  have X := fun x => all_ok (N := N) x c g k R
  have nb : ∀ {b : S}, (∀ sc body, mBs p N sc b body = false) → SSB p c g N k b := fun {b} h sc body A en Z e σ s o hr hsc hm I q => by rw [h] at hm; cases hm
  intro b
  induction b with
  | pass => exact ⟨ss_pass, sb_pass⟩
  | asg i x => exact ⟨ss_asg (X x).1 fun it tg one t el _ => ⟨(X it).2.2.2, (X t).2.1, (X el).1⟩, nb fun sc body => by cases body <;> simp [mBs]⟩
  | unp is x => exact ⟨ss_unp (X x).1, nb fun sc body => by cases body <;> simp [mBs]⟩
  | par is es => exact ⟨ss_par (X es).2.2.1, nb fun sc body => by cases body <;> simp [mBs]⟩
  | sset i ix x => exact ⟨ss_sset (X x).1 (X ix).1, nb fun sc body => by cases body <;> simp [mBs]⟩
  | app i x => exact ⟨ss_app (X x).1, nb fun sc body => by cases body <;> simp [mBs]⟩
  | ex x => exact ⟨ss_ex (X x).1, nb fun sc body => by cases body <;> simp [mBs]⟩
  | ite t a b iha ihb => exact ⟨ss_ite (X t).2.1 iha.2 ihb.2, nb fun sc body => by cases body <;> simp [mBs]⟩
  | seq a b iha ihb => exact ⟨fun sc st A en Z e σ s o hr hsc hm I q => (by cases st <;> simp [mSt] at hm), sb_seq iha.1 ihb.2⟩
  | «for» it tg one b ih => exact ⟨ss_for (X it).2.2.2 ih.2, nb fun sc body => by cases body <;> simp [mBs]⟩
  | whl t b ih => exact ⟨ss_whl (X t).2.1 ih.2, nb fun sc body => by cases body <;> simp [mBs]⟩
  | ret x => exact ⟨ss_ret (X x).1, nb fun sc body => by cases body <;> simp [mBs]⟩
  | retn => exact ⟨ss_retn, nb fun sc body => by cases body <;> simp [mBs]⟩
  | brk => exact ⟨ss_brk, nb fun sc body => by cases body <;> simp [mBs]⟩
  | cnt => exact ⟨ss_cnt, nb fun sc body => by cases body <;> simp [mBs]⟩
  | bad => exact ⟨ss_bad, nb fun sc body => by cases body <;> simp [mBs]⟩
end
end Mini

-- M28
set_option Elab.async false
set_option linter.all false
set_option maxRecDepth 100000
set_option maxHeartbeats 4000000
/-! Mini 28: a def is entered, and left. -/
namespace Mini
open PySem PyProof.Rows

/-- a def of the text: its slots' names, its body as Mini has it -/
structure Fd where
  name : Str
  params : Arguments
  body : List Stmt
  scope : Scope
  N : List Str
  d : D
def Fd.ok (p : Px) (f : Fd) : Bool := decide (f.scope.names.map (·.1)).Nodup && f.scope.kind == .function && !f.scope.isCoroutine && !f.scope.isGenerator && decide f.N.Nodup && decide (f.N.length = f.d.n) && decide (f.d.np ≤ f.d.n) &&
  ((f.N.take f.d.np).all fun x => loc f.scope x) && (f.scope.names.all fun y => !(y.2 == .free)) && mBs p f.N f.scope f.d.body f.body
section
variable {p : Px} {c : Cf} {g : G} {N : List Str} {k : Nat} {Z Z' : Heap} {s s1 s' : Shared} {A : Around} {us : List Value} {ws ws' : List W} {w : W}

theorem RepW.at (h : RepW Z s.heap us ws) : ∀ {i : Nat} {w : W}, ws[i]? = some w → ∃ v, us[i]? = some v ∧ Rep Z s.heap v w := by
  induction h with
  | nil => intro i w q; simp at q
  | cons a b ih =>
    intro i w q
    cases i with
    | zero => simp at q; subst q; exact ⟨_, rfl, a⟩
    | succ i => simpa using ih (by simpa using q)
theorem RepW.len {h : Heap} (x : RepW Z h us ws) : us.length = ws.length := by
  induction x with
  | nil => rfl
  | cons _ _ ih => simp [ih]
theorem get_start {d : D} {i : Nat} {w : W} : get (start d ws) i = some w ↔ ws[i]? = some w := by
  unfold get start
  by_cases h : i < ws.length
  · rw [List.getElem?_append_left (by simpa using h), List.getElem?_map, List.getElem?_eq_getElem h]
    simp
  · rw [List.getElem?_append_right (by simpa using h), List.getElem?_replicate]
    split <;> simp [h]
def sig0 (us : List Value) (n : Nat) : List (Option Value) := us.map some ++ List.replicate (n - us.length) none
theorem sig0_at {n i : Nat} {v : Value} : (sig0 us n)[i]? = some (some v) ↔ us[i]? = some v := by
  unfold sig0
  by_cases h : i < us.length
  · rw [List.getElem?_append_left (by simpa using h), List.getElem?_map, List.getElem?_eq_getElem h]
    simp
  · rw [List.getElem?_append_right (by simpa using h), List.getElem?_replicate]
    split <;> simp [h]
theorem foot0 {d : D} {n : Nat} {a : Addr} : Foot (sig0 us n) (start d ws) a ↔ FootW us ws a := by
  constructor
  · rintro ⟨i, xs, h1, h2⟩
    exact ⟨i, xs, get_start.mp h1, sig0_at.mp h2⟩
  · rintro ⟨i, xs, h1, h2⟩
    exact ⟨i, xs, get_start.mpr h1, sig0_at.mpr h2⟩
theorem lookup_nodup {α : Type} {y : Str} {b : α} : ∀ {l : List (Str × α)}, (l.map (·.1)).Nodup → (y, b) ∈ l → l.lookup y = some b
  | (z, c) :: l, hn, hm => by
    have hn' := List.nodup_cons.mp (by simpa using hn : (z :: l.map (·.1)).Nodup)
    rw [List.lookup_cons]
    rcases List.mem_cons.mp hm with q | q
    · cases q; simp
    · have : (y == z) = false := by
        cases h : (y == z) with
        | false => rfl
        | true => rw [beq_iff_eq.mp h] at q; exact absurd (List.mem_map.mpr ⟨_, q, rfl⟩) hn'.1
      rw [this]
      exact lookup_nodup hn'.2 q
theorem cells_one {names : List (Str × NameKind)} {n : Nat} {y : Str} {b : Addr} (h : (names.map (·.1)).Nodup) (hm : (y, b) ∈ cellsFrom n names []) : (cellsFrom n names []).lookup y = some b := by
  have key : ∀ (names : List (Str × NameKind)) (n : Nat) (acc : List (Str × Addr)), (names.map (·.1)).Nodup → (acc.map (·.1)).Nodup → (∀ x ∈ acc.map (·.1), x ∉ names.map (·.1)) → ((cellsFrom n names acc).map (·.1)).Nodup := by
    intro names
    induction names with
    | nil => intro n acc _ h _; exact h
    | cons z r ih =>
      intro n acc h1 h2 h3
      obtain ⟨m, kk⟩ := z
      have h1' := List.nodup_cons.mp (by simpa using h1 : (m :: r.map (·.1)).Nodup)
      unfold cellsFrom
      split
      · refine ih _ _ h1'.2 ?_ fun x hx => ?_
        · rw [List.map_cons, List.nodup_cons]
          exact ⟨fun q => h3 m q (by simp), h2⟩
        · rw [List.map_cons] at hx
          rcases List.mem_cons.mp hx with q | q
          · rw [q]; exact h1'.1
          · exact fun w => h3 x q (List.mem_cons_of_mem _ w)
      · exact ih _ _ h1'.2 h2 fun x hx w => h3 x hx (List.mem_cons_of_mem _ w)
  exact lookup_nodup (key names n [] h (by simp) (by simp)) hm
/-- a def's frame at its entry -/
theorem inv_enter {f : Fd} {fa : Addr} {cdv : Value} (ok : f.ok p = true) (og : g.Ok) (sh : Sh g Z s) (rw' : RepW Z s.heap us ws) (hl : ws.length = f.d.np) (hc : g.q = false → ∃ q ∈ g.tabs, cdv = .ref q.1)
    (inj : ∀ (i j : Nat) (xs ys : List PyData) (a : Addr), ws[i]? = some (W.own xs) → ws[j]? = some (W.own ys) → us[i]? = some (Value.ref a) → us[j]? = some (Value.ref a) → i = j)
    (own : ∀ a, FootW us ws a → Z.get? a = none ∧ ∀ p ∈ g.tabs, a ≠ p.2)
    (x : InCallC s s.heap.objs.size (bindL (envOfC f.name f.scope s.heap.objs.size fa cdv).kindOf ((f.N.take f.d.np).zip us) fun _ => none) (cellsFrom (s.heap.objs.size + 1) f.scope.names []) (bindC (envOfC f.name f.scope s.heap.objs.size fa cdv).kindOf ((f.N.take f.d.np).zip us) fun _ => none) s1) :
    Inv g f.N (envOfC f.name f.scope s.heap.objs.size fa cdv) Z (start f.d ws) (sig0 us f.d.n) s1 := by
  simp only [Fd.ok, Bool.and_eq_true, Bool.not_eq_true', decide_eq_true_eq, beq_iff_eq, List.all_eq_true] at ok
  obtain ⟨⟨⟨⟨⟨⟨⟨⟨⟨o0, o1⟩, o2⟩, o3⟩, o4⟩, o5⟩, o6⟩, o7⟩, o8⟩, o9⟩ := ok
  obtain ⟨h1, tk, rfl, hk⟩ := x.done
  have lu : us.length = f.d.np := rw'.len.trans hl
  have new : ∀ b, s.heap.objs.size ≤ b → s.heap.get? b = none := fun b h => Heap.get?_none_of_le h
  have frmN : ∀ a ∈ frm (envOfC f.name f.scope s.heap.objs.size fa cdv), s.heap.get? a = none := fun a ha => by
    simp only [frm, List.mem_cons] at ha
    rcases ha with h | h
    · rw [h]; exact new _ (Nat.le_refl _)
    · obtain ⟨⟨y, b⟩, hm, rfl⟩ := List.mem_map.mp h
      exact new _ (Nat.le_of_lt (x.above y b hm))
  have zn : ∀ a, s.heap.get? a = none → Z.get? a = none := fun a h => by
    cases q : Z.get? a with
    | none => rfl
    | some o => rw [sh.zh a o q] at h; cases h
  have tn : ∀ a, s.heap.get? a = none → ∀ p ∈ g.tabs, a ≠ p.2 := fun a h p hp z => by
    obtain ⟨_, q, _⟩ := sh.th p hp
    rw [← z, h] at q; cases q
  have ndP : (f.N.take f.d.np).Nodup := o4.sublist (List.take_sublist _ _)
  have par : ∀ {i : Nat} {y : Str} {u : Value}, f.N[i]? = some y → (sig0 us f.d.n)[i]? = some (some u) → (f.N.take f.d.np)[i]? = some y ∧ us[i]? = some u := fun {i y u} h1 h2 => by
    have hu := sig0_at.mp h2
    have hi : i < f.d.np := by rw [← lu]; exact (List.getElem?_eq_some_iff.mp hu).1
    exact ⟨by rw [List.getElem?_take_of_lt hi]; exact h1, hu⟩
  have standW : ∀ a, FootW us ws a → ∃ o, s.heap.get? a = some o := fun a ⟨i, xs, q1, q2⟩ => by
    obtain ⟨v, q3, rp⟩ := rw'.at q1
    rw [q2] at q3
    cases q3
    exact rp.stands rfl
  refine ⟨og, ⟨fun b o q => hk b o (sh.zh b o q), sh.bz, sh.tz, fun p hp => let ⟨ps, a, b⟩ := sh.th p hp; ⟨ps, hk _ _ a, b⟩, sh.bare⟩, ⟨o1, rfl, rfl, o4, fun y hy => ?_, fun y z cc q1 q2 => PySem.name_of_addr x.apart (PySem.mem_of_lookup q1) (PySem.mem_of_lookup q2), fun y cc q => ?_, hc⟩, fun a ha => ⟨zn a (frmN a ha), tn a (frmN a ha)⟩, fun a ha => ?_, ⟨⟨_, x.toInCall.ns, fun i y u q1 q2 q3 => ?_⟩, fun y cc q => ⟨_, x.cell y cc q, fun i u q1 q2 q3 => ?_⟩⟩, ?_, ?_, fun i w q => ?_, fun i j xs ys a q1 q2 q3 q4 => inj i j xs ys a (get_start.mp q1) (get_start.mp q2) (sig0_at.mp q3) (sig0_at.mp q4), fun a ha => ?_⟩
  · rcases hy with hy | hy
    · exact L2.cell_has (show f.scope.names.lookup y = some .cell from hy)
    · have := o8 _ (PySem.mem_of_lookup (show f.scope.names.lookup y = some .free from hy))
      simp at this
  · exact Nat.ne_of_gt (x.above y cc (PySem.mem_of_lookup q))
  · simp only [frm, List.mem_cons] at ha
    rcases ha with h | h
    · obtain ⟨o, _, _, q, _⟩ := x.toInCall.ns; rw [h]; exact ⟨o, q⟩
    · obtain ⟨⟨y, b⟩, hm, rfl⟩ := List.mem_map.mp h
      obtain ⟨o, q, _⟩ := x.cell y b (cells_one o0 hm)
      exact ⟨o, q⟩
  · obtain ⟨hp, hu⟩ := par q1 q2
    exact L2.bindL_get ndP hp hu q3
  · obtain ⟨hp, hu⟩ := par q1 q2
    refine L2.bindC_get ndP hp hu ?_
    rcases q3 with q3 | q3 <;> rw [q3] <;> decide
  · unfold sig0
    rw [List.length_append, List.length_map, List.length_replicate, lu, o5]
    omega
  · unfold start
    rw [List.length_append, List.length_map, List.length_replicate, hl, o5]
    omega
  · obtain ⟨v, q1, rp⟩ := rw'.at (get_start.mp q)
    exact ⟨v, sig0_at.mpr q1, rp.keep (fun _ _ z => z) fun xs a _ _ o ho => hk a o ho⟩
  · have fw := foot0.mp ha
    obtain ⟨z1, z2⟩ := own a fw
    obtain ⟨o, q⟩ := standW a fw
    exact ⟨z1, fun m => (by rw [frmN a m] at q; cases q), z2⟩
end
end Mini

-- M29
set_option Elab.async false
set_option linter.all false
set_option maxRecDepth 100000
set_option maxHeartbeats 4000000
/-! Mini 29: calls of the text's defs, by their level. -/
namespace Mini
open PySem PyProof.Rows

/-- how a def stands in the written part -/
structure Stands (p : Px) (g : G) (f : Fd) (fa : Addr) : Prop where
  fun_ : ∃ fd, L2.FunD g.K f.name f.name f.params f.body f.scope [] [] fa fd ∧ (g.q = false → ∃ q ∈ g.tabs, fd.code = .ref q.1)
  binds : ∀ (kV doc pm : Value) (an : Option Addr) (cdv ct : Value) (us : List Value), us.length = f.d.np → bindArgs (PySem.W.fnOf f.name f.name f.params f.body f.scope .none kV doc pm an cdv ct) ⟨us, []⟩ = pure ((f.N.take f.d.np).zip us)
section
variable {p : Px} {c : Cf} {g : G} {N : List Str} {k : Nat} {Z Z' : Heap} {s s1 s' : Shared} {A : Around} {us : List Value} {ws ws' : List W} {w : W}

theorem finals_at {np : Nat} {e : Env} {i : Nat} {xs : List PyData} (h : (finals np e)[i]? = some (W.own xs)) : i < np ∧ get e i = some (.own xs) := by
  unfold finals at h
  rw [List.getElem?_map, Option.map_eq_some_iff] at h
  obtain ⟨j, h1, h2⟩ := h
  obtain ⟨hi, h3⟩ := List.getElem?_eq_some_iff.mp h1
  rw [List.length_range] at hi
  rw [List.getElem_range] at h3
  subst h3
  refine ⟨hi, ?_⟩
  cases q : get e i with
  | none => rw [q] at h2; cases h2
  | some w => rw [q] at h2; simpa using h2
theorem fits_own {d : D} (h : fits d ws = true) : ws.length = d.np ∧ ∀ (i : Nat) (xs : List PyData), ws[i]? = some (W.own xs) → i ∉ stored d.body := by
  unfold fits at h
  simp only [Bool.and_eq_true, decide_eq_true_eq, List.all_eq_true] at h
  refine ⟨h.1, fun i xs q hi => ?_⟩
  have hl : i < d.np := by rw [← h.1]; exact (List.getElem?_eq_some_iff.mp q).1
  have := h.2 i (List.mem_range.mpr hl)
  rw [q] at this
  simp only [isD, Bool.false_or, Bool.not_eq_true'] at this
  rw [List.contains_iff_mem.mpr hi] at this
  cases this
/-- what a body's end says to the caller -/
theorem call_end {f : Fd} {en : PySem.Env} {e' : Env} {σ' : List (Option Value)} {u : Value} {s0 s2 : Shared} (hfit : fits f.d ws = true) (rw' : RepW Z s0.heap us ws) (hk : Ext s0.heap s1.heap) (h1 : ∃ h t, s1 = { s0 with heap := h, toks := t })
    (frN : ∀ a ∈ frm en, s0.heap.get? a = none) (st : Step g (frm en) Z (Foot (sig0 us f.d.n) (start f.d ws)) s1 Z' (fun a => Foot σ' e' a ∨ FootR u (.v w) a) s2) (I : Inv g f.N en Z' e' σ' s2) (rr : RepR g en Z' s2.heap σ' e' u (.v w))
    (so : ∀ j, j ∉ stored f.d.body → σ'[j]? = (sig0 us f.d.n)[j]?) (kp : keptOwn ws (finals f.d.np e') = true) : CallPost g Z us ws s0 w (finals f.d.np e') u Z' s2 := by
  obtain ⟨hl, hns⟩ := fits_own hfit
  obtain ⟨h, t, rfl⟩ := h1
  have still : ∀ (i : Nat) (xs : List PyData) (v : Value), ws[i]? = some (W.own xs) → us[i]? = some v → ∃ ys, (finals f.d.np e')[i]? = some (W.own ys) ∧ get e' i = some (.own ys) ∧ σ'[i]? = some (some v) := fun i xs v q1 q2 => by
    obtain ⟨ys, q3⟩ := kept_at kp q1
    obtain ⟨_, q4⟩ := finals_at q3
    exact ⟨ys, q3, q4, by rw [so i (hns i xs q1)]; exact sig0_at.mpr q2⟩
  have footE : ∀ a, FootW us ws a → Foot σ' e' a := fun a ⟨i, xs, q1, q2⟩ => by
    obtain ⟨ys, _, q3, q4⟩ := still i xs _ q1 q2
    exact ⟨i, ys, q3, q4⟩
  have stA : Step g [] Z (Foot (sig0 us f.d.n) (start f.d ws)) s0 Z (Foot (sig0 us f.d.n) (start f.d ws)) { s0 with heap := h, toks := t } := Step.grow hk
  have all := stA.close st frN
  have fresh : ∀ a, FootR u (.v w) a → s0.heap.get? a = none := fun a ha => by
    rcases st.newF a (.inr ha) with q | q
    · exact absurd (footE a (foot0.mp q)) (rr.2 a ha).2
    · cases z : s0.heap.get? a with
      | none => rfl
      | some o => rw [hk a o z] at q; cases q
  refine ⟨⟨all.zz, fun a o q n1 n2 n3 => all.keep a o q (fun z => n1 (foot0.mp z)) n2 n3, all.there, fun a q => ?_, fun a o q => (all.newZ a o q).imp_right fun z => z.imp_left foot0.mp, all.os, all.quiet⟩, I.sh, rr.1, fun i xs v q1 q2 => ?_, fun a ha => (I.mine a (footE a ha)).1, fun a ha => ⟨(rr.2 a ha).1.1, (rr.2 a ha).1.2.2, fresh a ha⟩⟩
  · rcases q with q | q
    · exact .inl q
    · exact .inr (fresh a q)
  · obtain ⟨ys, q3, q4, q5⟩ := still i xs v q1 q2
    obtain ⟨v', q6, rp⟩ := I.rep i _ q4
    rw [q5] at q6
    cases q6
    exact ⟨ys, q3, rp⟩
/-- a def keeps its promise, its body's calls being promised -/
theorem fn_ok {ds : List D} {q : Bool} {j fi : Nat} {f : Fd} {fa : Addr} (hd : ds[fi]? = some f.d) (ok : f.ok p = true) (sd : Stands p g f fa) (R : Rn2 p ⟨q, callD ds q j, callD ds true j⟩ g (2 * j + 1)) : CallOk g (callD ds q (j + 1)) (2 * j + 2) fi fa := by
  intro A Z s us ws w ws' hr og sh rw' inj own hc kp
  simp only [callD, Option.bind_eq_some_iff] at hc
  obtain ⟨d, hd', hc⟩ := hc
  rw [hd] at hd'
  cases hd'
  split at hc
  · rename_i hfit
    obtain ⟨hl, _⟩ := fits_own hfit
    rw [Option.bind_eq_some_iff] at hc
    obtain ⟨o, hrun, ho⟩ := hc
    obtain ⟨fd, F, hcode⟩ := sd.fun_
    obtain ⟨oc, od, dV, kV, doc, pm, an, cdv, ct, osl, rfl, lk, hcd, hD, hK⟩ := F.ex
    have dn : dV = .none := by
      rcases hD with ⟨_, z⟩ | ⟨z, _⟩
      · exact z
      · exact absurd rfl z
    subst dn
    have bk : Ext g.base s.heap := fun b o z => sh.zh b o (sh.bz b o z)
    have lu : us.length = f.d.np := rw'.len.trans hl
    have ok' := ok
    simp only [Fd.ok, Bool.and_eq_true, Bool.not_eq_true', decide_eq_true_eq, beq_iff_eq, List.all_eq_true] at ok'
    obtain ⟨⟨⟨⟨⟨⟨⟨⟨⟨o0, o1⟩, o2⟩, o3⟩, o4⟩, o5⟩, o6⟩, o7⟩, o8⟩, o9⟩ := ok'
    refine Att.call_fn (og.mod.kin.keeps bk) (og.mod.nolimit.keeps bk) lk hcd hr.depth (.of_eq (sd.binds kV doc pm an cdv ct us lu)) ?_ (fun s1 x => ?_) o2 o3 o1
    · rw [List.all_eq_true]
      intro y hy
      have := o7 y.1 (List.of_mem_zip hy).1
      simpa [loc] using this
    · have I := inv_enter (fa := fa) (cdv := cdv) ok og sh rw' hl (fun z => hcode z) inj own x
      have hr' : L2.Room (2 * j + 1) (A.deeper (envOfC f.name f.scope s.heap.objs.size fa cdv)) := hr.deeper _
      obtain ⟨h1, tk, e1, hk⟩ := x.done
      have frN : ∀ a ∈ frm (envOfC f.name f.scope s.heap.objs.size fa cdv), s.heap.get? a = none := fun a ha => by
        simp only [frm, List.mem_cons] at ha
        rcases ha with z | z
        · rw [z]; exact get_size _
        · obtain ⟨⟨y, b⟩, hm, rfl⟩ := List.mem_map.mp z
          exact Heap.get?_none_of_le (Nat.le_of_lt (x.above y b hm))
      have hk' : Ext s.heap s1.heap := by rw [e1]; exact hk
      refine wpAny_mono ((all_st (N := f.N) _ g _ R f.d.body).2 f.scope f.body _ _ Z _ _ s1 o hr' rfl o9 I hrun) (fun fl s2 q2 => ?_) fun _ _ z => z.elim
      cases o with
      | rt w0 e0 =>
        cases ho
        obtain ⟨v, rfl, Z', σ', st, I', rr, so⟩ := q2
        exact ⟨v, Z', rfl, call_end hfit rw' hk' ⟨h1, tk, e1⟩ frN st I' rr so kp⟩
      | nx e0 =>
        cases ho
        obtain ⟨rfl, Z', σ', st, I', so⟩ := q2
        refine ⟨.none, Z', rfl, call_end hfit rw' hk' ⟨h1, tk, e1⟩ frN (st.less fun a z => ?_) I' ⟨Fz.none (Z := Z'), fun a ha => ?_⟩ so kp⟩
        · rcases z with z | ⟨_, z, _⟩
          · exact z
          · cases z
        · obtain ⟨_, z, _⟩ := ha; cases z
      | bk e0 => cases ho
      | ct e0 => cases ho
  · cases hc
/-- the module's names, as the defs need them -/
structure Names (p : Px) (g : G) (fs : List Fd) : Prop where
  bn : ∀ x ∈ biNames, g.mg x = none
  cn : ∀ q ∈ p.con, ∃ v, g.mg q.1 = some v ∧ Fz g.base q.2 v
  mt : ∀ m : Mf, p.mt.contains m = true → g.mg (mfName m) = some (mfId m)
  fn : ∀ (f : Nat) x, p.fn[f]? = some x → ∃ fd fa, fs[f]? = some fd ∧ fd.ok p = true ∧ g.mg x = some (.ref fa) ∧ PySem.W.keepIn g.K (.ref fa) = true ∧ Stands p g fd fa
theorem CallOk.mono {call : Nat → List W → Option (W × List W)} {k k' f : Nat} {fa : Addr} (h : CallOk g call k f fa) (hk : k ≤ k') : CallOk g call k' f fa :=
  fun A Z s us ws w ws' hr => h A Z s us ws w ws' (hr.mono hk)
theorem callOk_zero {ds : List D} {q : Bool} {k f : Nat} {fa : Addr} : CallOk g (callD ds q 0) k f fa := fun A Z s us ws w ws' hr og sh rw' inj own hc => by simp [callD] at hc
theorem Names.quiet {fs : List Fd} (h : Names p g fs) : Names p g.quiet fs := ⟨h.bn, h.cn, h.mt, fun f x q => by
  obtain ⟨fd, fa, h1, h2, h3, h4, h5⟩ := h.fn f x q
  obtain ⟨fd', F, _⟩ := h5.fun_
  exact ⟨fd, fa, h1, h2, h3, h4, ⟨⟨fd', F, fun z => by cases z⟩, h5.binds⟩⟩⟩
/-- EVERY def, at every level; quietly first -/
theorem level {fs : List Fd} : ∀ (j : Nat) {g : G}, Names p g fs → (∀ (f : Nat) x fa, p.fn[f]? = some x → g.mg x = some (.ref fa) → CallOk g.quiet (callD (fs.map (·.d)) true j) (2 * j) f fa) ∧ (g.q = false → ∀ (f : Nat) x fa, p.fn[f]? = some x → g.mg x = some (.ref fa) → CallOk g (callD (fs.map (·.d)) false j) (2 * j) f fa)
  | 0, g, h => ⟨fun f x fa _ _ => callOk_zero, fun _ f x fa _ _ => callOk_zero⟩
  | j + 1, g, h => by
    obtain ⟨hq, hn⟩ := level j h
    have rn : ∀ {g' : G} {q : Bool} {k : Nat}, Names p g' fs → g'.q = q → (∀ (f : Nat) x fa, p.fn[f]? = some x → g'.mg x = some (.ref fa) → CallOk g' (callD (fs.map (·.d)) q j) k f fa) → ∀ qc, Rn p ⟨q, callD (fs.map (·.d)) q j, qc⟩ g' k := fun {g' q k} n hgq hc qc =>
      ⟨n.bn, n.cn, fun f x hx => by
        obtain ⟨fd, fa, h1, h2, h3, h4, h5⟩ := n.fn f x hx
        exact ⟨fa, h3, h4, hc f x fa hx h3⟩, hgq.symm, n.mt⟩
    have dsAt : ∀ {f : Nat} {fd : Fd}, fs[f]? = some fd → (fs.map (·.d))[f]? = some fd.d := fun {f fd} q => by simp [q]
    refine ⟨fun f x fa hx hm => ?_, fun hg f x fa hx hm => ?_⟩
    · obtain ⟨fd, fa', h1, h2, h3, h4, h5⟩ := h.quiet.fn f x hx
      have e : fa' = fa := by
        have h3' : g.mg x = some (.ref fa') := h3
        rw [hm] at h3'
        cases h3'
        rfl
      subst e
      exact fn_ok (dsAt h1) h2 h5 ⟨rn h.quiet rfl (fun f x fa a b => (hq f x fa a b).mono (by omega)) _, fun z => by cases z⟩
    · obtain ⟨fd, fa', h1, h2, h3, h4, h5⟩ := h.fn f x hx
      have e : fa' = fa := by
        rw [hm] at h3
        cases h3
        rfl
      subst e
      refine fn_ok (dsAt h1) h2 h5 ⟨rn h hg (fun f x fa a b => (hn hg f x fa a b).mono (by omega)) _, fun _ => ⟨2 * j, rfl, ?_⟩⟩
      have := rn h.quiet rfl hq (fun _ _ => none)
      exact this
end
end Mini

-- M30
set_option Elab.async false
set_option linter.all false
set_option maxRecDepth 100000
set_option maxHeartbeats 4000000
/-! Mini 30: the law's own call. -/
namespace Mini
open PySem PyProof.Rows

section
variable {p : Px}
theorem ints_fz {Z : Heap} {vs : List Value} {ns : List Int} (h : IntsAre vs ns) : FzA Z (ns.map PyData.int) vs := by
  induction h with
  | nil => exact .nil
  | cons _ _ _ ih => exact .cons .int ih
/-- the law's call, over the heap behind the top -/
theorem law_end {P : Program} {w : World} {K : PySem.W.Frag} {mg mb : Str → Option Value} {fs : List Fd} {fa a : Addr} {cs : List (Addr × Addr)} {s1 : Shared} {vs : List Value} {ns : List Int} {j fi : Nat} {x : Str} {ws' : List W}
    (KX : K.In s1.heap) (hns : s1.heap.Ns mainGlobals mg) (hb : s1.heap.Ns builtinsNs mb) (hbb : ∀ x : Str, x ≠ "__name__" → mb x = bootBuiltins x) (hlim : s1.heap.NoLimit) (hg : s1.gens = #[])
    (hT : ∀ q ∈ cs, s1.heap.get? q.2 = some { cls := .none, data := .fields #[] }) (nT : ∀ q ∈ cs, K.lookup q.2 = none) (C : ∀ q ∈ cs, PySem.W.codeHdIn K q.1 q.2 = true)
    (hbm : ∃ (bm : Addr) (ob : Obj), mg "__builtins__" = some (.ref bm) ∧ bm ≠ builtinsNs ∧ s1.heap.get? bm = some ob ∧ ob.cls = .type "module" ∧ ob.dict = some builtinsNs ∧ ob.data = .plain)
    (ha : s1.heap.get? a = some { cls := .type "list", data := .seq vs.toArray }) (hi : IntsAre vs ns) (hl : ns.length ≤ sizeLine) (hr : L2.Room (2 * j) callerA)
    (nm : ∀ base : Heap, K.In base → Names p ⟨P, w, K, mg, base, cs, false⟩ fs) (hx : p.fn[fi]? = some x) (hm : mg x = some (.ref fa))
    (hrun : callD (fs.map (·.d)) false j fi [.d (.list (ns.map PyData.int))] = some (.d (.bool true), ws')) (hw : ws'.length = 1) :
    codeAny (model P w) callerA (.call (.ref fa) ⟨[.ref a], []⟩) (fun r s' => r = .ok (.ret (.bool true)) ∧ OldK s1.heap s'.heap ∧ s'.os = s1.os ∧ AllBare s'.gens) s1 := by
  obtain ⟨base, z1, z2⟩ := L2.restrict s1.heap fun b => !(cs.map (·.2)).contains b
  have inn : ∀ b, b ∉ cs.map (·.2) → base.get? b = s1.heap.get? b := fun b h => z1 b (by
    cases q : (cs.map (·.2)).contains b with
    | false => rfl
    | true => exact absurd (List.contains_iff_mem.mp q) h)
  have out : ∀ b, b ∈ cs.map (·.2) → base.get? b = none := fun b h => z2 b (by rw [List.contains_iff_mem.mpr h]; rfl)
  have isT : ∀ b, b ∈ cs.map (·.2) → s1.heap.get? b = some { cls := .none, data := .fields #[] } := fun b h => by
    obtain ⟨q, hq, rfl⟩ := List.mem_map.mp h
    exact hT q hq
  have sub : Ext base s1.heap := fun b o q => by
    by_cases h : b ∈ cs.map (·.2)
    · rw [out b h] at q; cases q
    · rw [← inn b h]; exact q
  have notT : ∀ {b : Addr} {o : Obj}, s1.heap.get? b = some o → o.data ≠ .fields #[] → b ∉ cs.map (·.2) := fun {b o} e d h => by
    rw [isT b h] at e
    cases e
    exact d rfl
  have nsB : ∀ {b : Addr} {m : Str → Option Value}, s1.heap.Ns b m → base.Ns b m := fun {b m} ⟨o, es, ep, e, d, r⟩ => ⟨o, es, ep, by rw [inn b (notT e (by rw [d]; simp))]; exact e, d, r⟩
  have hKb : K.In base := fun b o e => by
    by_cases h : b ∈ cs.map (·.2)
    · obtain ⟨q, hq, rfl⟩ := List.mem_map.mp h
      rw [nT q hq] at e; cases e
    · rw [inn b h]; exact KX b o e
  have memT : ∀ q ∈ cs, q.2 ∈ cs.map (·.2) := fun q hq => List.mem_map.mpr ⟨q, hq, rfl⟩
  have og : (⟨P, w, K, mg, base, cs, false⟩ : G).Ok := by
    refine ⟨⟨hKb, nsB hns, ⟨mb, nsB hb, hbb⟩, let ⟨mc, h1, h2⟩ := hlim; ⟨mc, nsB h1, h2⟩⟩, fun q hq => ⟨PySem.W.codeHd_of_K hKb (C q hq), ?_, fun z => ?_⟩, fun z => by cases z⟩
    · obtain ⟨bm, ob, b1, b2, b3, b4, b5, b6⟩ := hbm
      have nt := notT b3 (by rw [b6]; simp)
      refine ⟨bm, ob, b1, b2, fun z => ?_, fun z => nt (z ▸ memT q hq), by rw [inn bm nt]; exact b3, b4, b5, b6⟩
      obtain ⟨o, es, ep, e, hd, _⟩ := hns
      rw [z, e] at b3
      cases b3
      rw [hd] at b6
      cases b6
    · obtain ⟨o, es, ep, e, hd, _⟩ := hns
      rw [z, hT q hq] at e
      cases e
      cases hd
  have sh : Sh ⟨P, w, K, mg, base, cs, false⟩ base s1 := ⟨sub, fun _ _ q => q, fun q hq => out _ (memT q hq), fun q hq => ⟨#[], hT q hq, trivial, fun pos cv h => by simp [codeAmong] at h⟩, fun _ => .of_eq hg⟩
  have na : a ∉ cs.map (·.2) := notT ha (by simp)
  have lv : vs.length = ns.length := hi.length
  have fz : Fz base (.list (ns.map PyData.int)) (.ref a) := by
    refine .lst (n := _) (its := vs) (by rw [inn a na]; exact ha) (by rw [lv]; exact hl) ?_
    exact ints_fz hi
  have co := (level j (nm base hKb)).2 rfl fi x fa hx hm
  have noF : ∀ b, ¬ FootW [Value.ref a] [W.d (.list (ns.map PyData.int))] b := fun b ⟨i, xs, q1, q2⟩ => by
    cases i with
    | zero => simp at q1
    | succ i => simp at q1
  refine codeAny_mono (co callerA base s1 [.ref a] [.d (.list (ns.map PyData.int))] (.d (.bool true)) ws' hr og sh (.cons fz .nil) (fun i j xs ys b q1 q2 q3 q4 => absurd ⟨i, xs, q1, q3⟩ (noF b)) (fun b h => absurd h (noF b)) hrun ?_) fun r s' q => ?_
  · match ws', hw with
    | [w0], _ => rfl
  obtain ⟨u, Z', rfl, cp⟩ := q
  have hu : u = .bool true := Fz.bool_inv (Z := Z') cp.res
  subst hu
  have key : ∀ b o, b ∉ cs.map (·.2) → s1.heap.get? b = some o → s'.heap.get? b = some o := fun b o nb e => cp.step.keep b o e (noF b) (by simp) fun q hq z => nb (z ▸ memT q hq)
  have grown : ∀ q ∈ cs, ∃ more : Array Value, s'.heap.get? q.2 = some { cls := .none, data := .fields more } := fun q hq => let ⟨ps, z, _⟩ := cp.sh.th q hq; ⟨ps, z⟩
  refine ⟨rfl, ⟨fun b o e => ?_, fun b o e => ?_⟩, cp.step.os, cp.sh.bare rfl⟩
  · by_cases h : b ∈ cs.map (·.2)
    · obtain ⟨q, hq, rfl⟩ := List.mem_map.mp h
      obtain ⟨more, hm⟩ := grown q hq
      rw [hT q hq] at e
      cases e
      exact .inr (.inl ⟨((PySem.W.codeHd_of_K KX (C q hq)).tab (hT q hq)).isCodeTable, rfl, #[], more, rfl, by rw [Array.empty_append]; exact hm⟩)
    · exact .inl (key b o h e)
  · by_cases h : b ∈ cs.map (·.2)
    · obtain ⟨q, hq, rfl⟩ := List.mem_map.mp h
      obtain ⟨more, hm⟩ := grown q hq
      exact ⟨_, hm⟩
    · exact ⟨o, key b o h e⟩
end
end Mini

-- M31
set_option Elab.async false
set_option linter.all false
set_option maxRecDepth 100000
set_option maxHeartbeats 4000000
/-! Mini 31: what the head's Hook says, as the defs need it. -/
namespace Mini
open PySem PyProof.Rows

def defD (f : Fd) : He.DefD := ⟨(f.name, none), f.name, f.name, f.params, f.body, f.scope, [], []⟩
def conFa (q : Str × PyData) : List He.Fa := match q.2 with
  | .int i => [.int q.1 i]
  | .str x => [.str q.1 x]
  | _ => []
def facts (p : Px) (fs : List Fd) : List He.Fa := fs.map (fun f => .glo f.name) ++ biNames.map .free ++ p.con.flatMap conFa
def tabsOf (fs : List Fd) : List He.Defn := fs.map fun f => (f.name, none)
def Binds (f : Fd) : Prop := ∀ (kV doc pm : Value) (an : Option Addr) (cdv ct : Value) (us : List Value), us.length = f.d.np → bindArgs (PySem.W.fnOf f.name f.name f.params f.body f.scope .none kV doc pm an cdv ct) ⟨us, []⟩ = pure ((f.N.take f.d.np).zip us)
def conOk (q : Str × PyData) : Bool := match q.2 with
  | .int _ => true
  | .str x => szOk x.length
  | _ => false
/-- what `from math import ..` leaves -/
def mtB (p : Px) (K : PySem.W.Frag) : Bool := p.mt.all fun m => He.eqO (PySem.W.nsIn K mainGlobals (mfName m)) (some (some (mfId m)))
theorem names_of {p : Px} {fs : List Fd} {P : Program} {w : World} {K : PySem.W.Frag} {mg : Str → Option Value} {h base : Heap} (X : K.In h) (G : h.Ns mainGlobals mg) (c : He.SaysX (facts p fs) (fs.map defD) [] (tabsOf fs) (mtB p) w h K)
    (hp : p.fn = fs.map (·.name)) (hc : p.con.all conOk = true) (ok : fs.all (fun f => f.ok p) = true) (hb : ∀ f ∈ fs, Binds f) : Names p ⟨P, w, K, mg, base, (tabsOf fs).map (He.cT K), false⟩ fs := by
  have d := c.t.d
  have f1 : ∀ f ∈ facts p fs, f.ok K = true := fun f hf => d.facts hf
  refine ⟨fun x hx => He.free_ok X G (f1 (.free x) ?_), fun q hq => ?_, fun m hm => PySem.W.mg_of X G (He.eqO_ok (List.all_eq_true.mp c.more m (List.contains_iff_mem.mp hm))), fun i x hx => ?_⟩
  · unfold facts
    exact List.mem_append_left _ (List.mem_append_right _ (List.mem_map.mpr ⟨x, hx, rfl⟩))
  · have cq := List.all_eq_true.mp hc q hq
    have mem : ∀ f ∈ conFa q, f ∈ facts p fs := fun f hf => List.mem_append_right _ (List.mem_flatMap.mpr ⟨q, hq, hf⟩)
    obtain ⟨n, dd⟩ := q
    cases dd with
    | int i =>
      obtain ⟨t, ht⟩ := He.int_ok X G (f1 (.int n i) (mem _ (by simp [conFa])))
      exact ⟨_, ht, .int⟩
    | str z =>
      obtain ⟨t, ht⟩ := He.str_ok X G (f1 (.str n z) (mem _ (by simp [conFa])))
      exact ⟨_, ht, .str (szOk_iff.mp cq)⟩
    | _ => simp [conOk] at cq
  · rw [hp, List.getElem?_map, Option.map_eq_some_iff] at hx
    obtain ⟨f, hf, rfl⟩ := hx
    have hm := List.mem_of_getElem? hf
    obtain ⟨fd, F⟩ := d.defs (d := defD f) (List.mem_map.mpr ⟨f, hm, rfl⟩)
    have gl := He.glo_ok X G (f1 (.glo f.name) (List.mem_append_left _ (List.mem_append_left _ (List.mem_map.mpr ⟨f, hm, rfl⟩))))
    refine ⟨f, He.ga K f.name, hf, List.all_eq_true.mp ok f hm, gl, F.kp, ⟨⟨fd, F, fun _ => ?_⟩, hb f hm⟩⟩
    obtain ⟨oc, od, dV, kV, doc, pm, an, cdv, ct, osl, e, lk, hcd, _, _⟩ := F.ex
    obtain ⟨cc, hcc⟩ := He.codeIn_ref hcd
    refine ⟨He.cT K (f.name, none), List.mem_map.mpr ⟨_, List.mem_map.mpr ⟨f, hm, rfl⟩, rfl⟩, ?_⟩
    have ec : fd.code = .ref cc := by rw [e]; exact hcc
    have := He.codeOf_eq (p := (f.name, none)) lk ec
    rw [ec]
    show Value.ref cc = .ref (He.codeOf K (f.name, none))
    rw [this]
end Mini

-- P1
set_option Elab.async false
set_option linter.all false
set_option maxRecDepth 100000
/-! Mini's words for proofs: a run that ends, and how. -/
namespace Mini
open PySem

def Ok {α : Type} (o : Option α) (Q : α → Prop) : Prop := ∃ a, o = some a ∧ Q a
section
variable {α β : Type} {o : Option α} {Q P : α → Prop}
theorem oks_some {a : α} : Ok (some a) Q ↔ Q a := ⟨fun ⟨_, h, q⟩ => (by cases h; exact q), fun q => ⟨a, rfl, q⟩⟩
theorem oks_none : Ok (none : Option α) Q ↔ False := ⟨fun ⟨_, h, _⟩ => (by cases h), fun h => h.elim⟩
theorem oks_bind {f : α → Option β} {Q : β → Prop} : Ok (o.bind f) Q ↔ Ok o fun a => Ok (f a) Q := by
  cases o with
  | none => simp [oks_none]
  | some a => simp [oks_some]
theorem oks_map {f : α → β} {Q : β → Prop} : Ok (o.map f) Q ↔ Ok o fun a => Q (f a) := by
  cases o with
  | none => simp [oks_none]
  | some a => simp [oks_some]
theorem oks_guard {p : Prop} [Decidable p] : Ok (if p then o else Option.none) Q ↔ p ∧ Ok o Q := by
  split <;> simp_all [oks_none]
theorem oks_guard' {p : Prop} [Decidable p] : Ok (if p then Option.none else o) Q ↔ ¬ p ∧ Ok o Q := by
  split <;> simp_all [oks_none]
theorem oks_ite {p : Prop} [Decidable p] {o' : Option α} : Ok (if p then o else o') Q ↔ if p then Ok o Q else Ok o' Q := by
  split <;> rfl
theorem Ok.imp (h : Ok o P) (k : ∀ a, P a → Q a) : Ok o Q := let ⟨a, e, q⟩ := h; ⟨a, e, k a q⟩
theorem Ok.and (h : Ok o P) (h' : Ok o Q) : Ok o fun a => P a ∧ Q a := by
  obtain ⟨a, e, q⟩ := h
  obtain ⟨a', e', q'⟩ := h'
  rw [e] at e'
  cases e'
  exact ⟨a, e, q, q'⟩
theorem oks_of (h : o = Option.some a) (q : Q a) : Ok o Q := ⟨a, h, q⟩
end

/-! ### statements -/
section
variable {c : Cf} {a b : S} {x t ix : E} {e : Env} {Q : Out → Prop}
def Nx (Q : Out → Prop) (k : Env → Prop) : Out → Prop
  | .nx e => k e
  | o => Q o
theorem Nx_nx {k : Env → Prop} : Nx Q k (.nx e) ↔ k e := Iff.rfl
theorem Nx_rt {k : Env → Prop} {w : W} : Nx Q k (.rt w e) ↔ Q (.rt w e) := Iff.rfl
theorem Nx_bk {k : Env → Prop} : Nx Q k (.bk e) ↔ Q (.bk e) := Iff.rfl
theorem Nx_ct {k : Env → Prop} : Nx Q k (.ct e) ↔ Q (.ct e) := Iff.rfl
theorem ok_seq (h : Ok (run c a e) (Nx Q fun e1 => Ok (run c b e1) Q)) : Ok (run c (.seq a b) e) Q := by
  simp only [run, oks_bind]
  refine h.imp fun o q => ?_
  cases o <;> simpa only [Nx, oks_some] using q
/-- step by step: what comes later has a name -/
theorem sq (h : ∀ K : Env → Prop, (∀ e1, Ok (run c b e1) Q → K e1) → Ok (run c a e) (Nx Q K)) : Ok (run c (.seq a b) e) Q := ok_seq (h _ fun _ q => q)
theorem sqm (M : Env → Prop) (h : Ok (run c a e) (Nx Q M)) (k : ∀ e1, M e1 → Ok (run c b e1) Q) : Ok (run c (.seq a b) e) Q := by
  refine ok_seq (h.imp fun o q => ?_)
  cases o with
  | nx e => exact k e q
  | _ => exact q
theorem ok_pass (h : Q (.nx e)) : Ok (run c .pass e) Q := by simpa only [run, oks_some] using h
theorem ok_brk (h : Q (.bk e)) : Ok (run c .brk e) Q := by simpa only [run, oks_some] using h
theorem ok_cnt (h : Q (.ct e)) : Ok (run c .cnt e) Q := by simpa only [run, oks_some] using h
theorem ok_retn (h : Q (.rt (.d .none) e)) : Ok (run c .retn e) Q := by simpa only [run, oks_some] using h
theorem ok_asg {i : Nat} (h : Ok (ev c x e) fun p => Ok (giveW p.2 p.1) fun w => Q (.nx ((frzs p.2 [p.1]).set i (some w)))) : Ok (run c (.asg i x) e) Q := by
  simpa only [run, oks_bind, oks_map] using h
theorem ok_unp {is : List Nat} (h : Ok (ev c x e) fun p => Ok (p.1.data p.2) fun d => Ok (bindFl is (tupD d) p.2) fun e' => Q (.nx e')) : Ok (run c (.unp is x) e) Q := by
  simpa only [run, oks_bind, oks_map] using h
theorem ok_par {is : List Nat} (h : Ok (evA c x e) fun p => Ok (p.1.mapM (giveW p.2)) fun ws => (ws.length = is.length ∧ is.Nodup) ∧ Q (.nx (setAll is ws (frzs p.2 p.1)))) : Ok (run c (.par is x) e) Q := by
  simpa only [run, oks_bind, oks_map, oks_guard, oks_some] using h
theorem ok_ite (h : Ok (evT c t e) fun p => if p.1 then Ok (run c a p.2) Q else Ok (run c b p.2) Q) : Ok (run c (.ite t a b) e) Q := by
  simpa only [run, oks_bind, oks_ite] using h
theorem ok_ret (h : Ok (ev c x e) fun p => match p.1 with | .v w => Q (.rt w p.2) | .pl i => Ok (get p.2 i) fun w => Q (.rt w (p.2.set i (match w with | .d x => some (.d x) | .own _ => none)))) : Ok (run c (.ret x) e) Q := by
  simp only [run, oks_bind]
  refine h.imp fun p q => ?_
  obtain ⟨r, e1⟩ := p
  cases r with
  | v w => simpa only [oks_some] using q
  | pl i => exact oks_map.mpr q
theorem ok_ex (h : Ok (ev c x e) fun p => p.1 = .v (.d .none) ∧ Q (.nx p.2)) : Ok (run c (.ex x) e) Q := by
  simp only [run, oks_bind]
  refine h.imp fun p q => ?_
  obtain ⟨r, e1⟩ := p
  obtain ⟨h1, h2⟩ := q
  cases h1
  exact oks_some.mpr h2
def asInt : PyData → Option Int
  | .int k => some k
  | _ => none
def asOwn : Option W → Option (List PyData)
  | some (.own xs) => some xs
  | _ => none
theorem ok_sset {i : Nat} (h : Ok (ev c x e) fun p => Ok (get p.2 i) fun _ => Ok (ev c ix p.2) fun q => Ok (p.1.data q.2) fun d => Ok (q.1.data q.2) fun kd => Ok (asInt kd) fun k => Ok (asOwn (get (frzs q.2 [p.1]) i)) fun xs => Ok (L2.ixN xs.length k) fun j => Q (.nx ((frzs q.2 [p.1]).set i (some (.own (xs.set j d)))))) : Ok (run c (.sset i ix x) e) Q := by
  simp only [run, oks_bind]
  refine h.imp fun p q => q.imp fun _ q => q.imp fun p' q => q.imp fun d q => q.imp fun kd q => ?_
  obtain ⟨k, h0, xs, h1, h2⟩ := q
  have h0' : kd = .int k := by cases kd <;> simp_all [asInt]
  subst h0'
  have h1' : get (frzs p'.2 [p.1]) i = some (.own xs) := by
    generalize get (frzs p'.2 [p.1]) i = w at h1
    unfold asOwn at h1
    split at h1
    · cases h1; rfl
    · cases h1
  simp only [h1', oks_map]
  exact h2
theorem ok_app {i : Nat} (h : (hid e (.pl i)).isEmpty = false ∧ Ok (ev c x e) fun p => Ok (p.1.data p.2) fun d => Ok (asOwn (get (frzs p.2 [p.1]) i)) fun xs => szOk (xs.length + 1) = true ∧ Q (.nx ((frzs p.2 [p.1]).set i (some (.own (xs ++ [d])))))) : Ok (run c (.app i x) e) Q := by
  obtain ⟨h1, h⟩ := h
  simp only [run, h1, Bool.false_eq_true, if_false, oks_bind]
  refine h.imp fun p q => q.imp fun d q => ?_
  obtain ⟨xs, h1, h2, h3⟩ := q
  have h1' : get (frzs p.2 [p.1]) i = some (.own xs) := by
    generalize get (frzs p.2 [p.1]) i = w at h1
    unfold asOwn at h1
    split at h1
    · cases h1; rfl
    · cases h1
  simp only [h1', h2, if_true, oks_some]
  exact h3
theorem ok_for {it : E} {tg : List Nat} {one : Bool} (h : Ok (evI c it e) fun p => ((p.2.1.any fun i => (tg ++ stored b).contains i) || decide (1 < p.2.1.length)) = false ∧ Ok (forL (bindTg tg one) (run c b) p.1 (wipe p.2.1 p.2.2)) fun o => Ok (o.unhide p.2.2 p.2.1) Q) : Ok (run c (.for it tg one b) e) Q := by
  simp only [run, oks_bind]
  refine h.imp fun p q => ?_
  obtain ⟨xs, h, e1⟩ := p
  obtain ⟨h1, h2⟩ := q
  dsimp only at h1 h2 ⊢
  simp only [h1, Bool.false_eq_true, if_false, oks_bind]
  exact h2
theorem ok_whl (h : Ok (whileL (evT c t) (run c b) 1000000 e) Q) : Ok (run c (.whl t b) e) Q := by simpa only [run] using h
theorem unhide_nil {e0 : Env} {o : Out} : o.unhide e0 [] = some o := by cases o <;> rfl
theorem unhide_nx {e0 e : Env} {h : List Nat} : (Out.nx e).unhide e0 h = (Mini.unhide e0 h e).map .nx := rfl
theorem unhide_rt {e0 e : Env} {h : List Nat} {w : W} : (Out.rt w e).unhide e0 h = (Mini.unhide e0 h e).map fun e => .rt w e := rfl
theorem unhide_one {e0 e : Env} {i : Nat} : Mini.unhide e0 [i] e = if (get e i).isNone then some (e.set i (get e0 i)) else none := rfl
/-- what a turn of a loop leaves -/
def Lp (I : Env → Prop) (Q : Out → Prop) : Out → Prop
  | .nx e => I e
  | .ct e => I e
  | .bk e => Q (.nx e)
  | .rt w e => Q (.rt w e)
theorem Lp_nx {I : Env → Prop} : Lp I Q (.nx e) ↔ I e := Iff.rfl
theorem Lp_ct {I : Env → Prop} : Lp I Q (.ct e) ↔ I e := Iff.rfl
theorem Lp_bk {I : Env → Prop} : Lp I Q (.bk e) ↔ Q (.nx e) := Iff.rfl
theorem Lp_rt {I : Env → Prop} {w : W} : Lp I Q (.rt w e) ↔ Q (.rt w e) := Iff.rfl
theorem ok_forL {bnd : PyData → Env → Option Env} {body : Env → Option Out} (I : Nat → Env → Prop) : ∀ {xs : List PyData} {n : Nat} {e : Env}, I n e →
    (∀ k x e, xs[k]? = some x → I (n + k) e → Ok (bnd x e) fun e1 => Ok (body e1) (Lp (I (n + k + 1)) Q)) → (∀ e, I (n + xs.length) e → Q (.nx e)) → Ok (forL bnd body xs e) Q
  | [], n, e, h0, hs, hend => by
    simp only [forL, oks_some]
    exact hend e (by simpa using h0)
  | x :: r, n, e, h0, hs, hend => by
    simp only [forL, oks_bind]
    refine (hs 0 x e rfl h0).imp fun e1 q => q.imp fun o q => ?_
    have ih : ∀ e2, I (n + 0 + 1) e2 → Ok (forL bnd body r e2) Q := fun e2 h2 => ok_forL I (n := n + 1) h2 (fun k y e hy hI => by
      have := hs (k + 1) y e (by simpa using hy) (by rw [show n + (k + 1) = n + 1 + k by omega]; exact hI)
      rw [show n + (k + 1) + 1 = n + 1 + k + 1 by omega] at this
      exact this) fun e hI => hend e (by rw [show n + (x :: r).length = n + 1 + r.length by simp; omega]; exact hI)
    cases o with
    | nx e2 => exact ih e2 q
    | ct e2 => exact ih e2 q
    | bk e2 => exact oks_some.mpr q
    | rt w e2 => exact oks_some.mpr q
theorem ok_forI {bnd : PyData → Env → Option Env} {body : Env → Option Out} {xs : List PyData} (I : Nat → Env → Prop) (h0 : I 0 e)
    (hs : ∀ k x e, xs[k]? = some x → I k e → Ok (bnd x e) fun e1 => Ok (body e1) (Lp (I (k + 1)) Q)) (hend : ∀ e, I xs.length e → Q (.nx e)) : Ok (forL bnd body xs e) Q :=
  ok_forL I (n := 0) h0 (fun k x e h hI => by simpa using hs k x e h (by simpa using hI)) (by simpa using hend)
theorem ok_whileL {test : Env → Option (Bool × Env)} {body : Env → Option Out} (I : Nat → Env → Prop) (hs : ∀ m e, I m e → Ok (test e) fun p => if p.1 then Ok (body p.2) (Lp (fun e2 => ∃ m', m' < m ∧ I m' e2) Q) else Q (.nx p.2)) :
    ∀ {n m : Nat} {e : Env}, I m e → m < n → Ok (whileL test body n e) Q
  | 0, m, e, h0, hl => absurd hl (Nat.not_lt_zero _)
  | n + 1, m, e, h0, hl => by
    simp only [whileL, oks_bind]
    refine (hs m e h0).imp fun p q => ?_
    obtain ⟨b, e1⟩ := p
    dsimp only at q ⊢
    cases b with
    | false => simpa only [Bool.false_eq_true, if_false, oks_some] using q
    | true =>
      simp only [if_true, oks_bind] at q ⊢
      refine q.imp fun o q => ?_
      cases o with
      | nx e2 => obtain ⟨m', h1, h2⟩ := q; exact ok_whileL I hs h2 (by omega)
      | ct e2 => obtain ⟨m', h1, h2⟩ := q; exact ok_whileL I hs h2 (by omega)
      | bk e2 => exact oks_some.mpr q
      | rt w e2 => exact oks_some.mpr q
end
/-! ### comprehensions -/
section
variable {bnd : PyData → Env → Option Env} {test : Env → Option (Bool × Env)} {el : Env → Option (R × Env)} {own : List Nat} {α : Type}
theorem ok_lcL {Q : List PyData × Env → Prop} (I : Nat → List PyData → Env → Prop) : ∀ {xs : List PyData} {n : Nat} {acc : List PyData} {e : Env}, I n acc e →
    (∀ k x acc e, xs[k]? = some x → I (n + k) acc e → Ok (bnd x e) fun e1 => Ok (test e1) fun p => if p.1 then Ok (el p.2) fun q => Ok (q.1.data q.2) fun d => I (n + k + 1) (acc ++ [d]) (wipe own (frzs q.2 [q.1])) else I (n + k + 1) acc (wipe own p.2)) →
    (∀ acc e, I (n + xs.length) acc e → Q (acc, e)) → Ok (lcL bnd test el own xs e acc) Q
  | [], n, acc, e, h0, hs, hend => by
    simp only [lcL, oks_some]
    exact hend acc e (by simpa using h0)
  | x :: r, n, acc, e, h0, hs, hend => by
    simp only [lcL, oks_bind]
    have ih : ∀ acc e2, I (n + 0 + 1) acc e2 → Ok (lcL bnd test el own r e2 acc) Q := fun acc e2 h2 => ok_lcL I (n := n + 1) h2 (fun k y acc e hy hI => by
      have := hs (k + 1) y acc e (by simpa using hy) (by rw [show n + (k + 1) = n + 1 + k by omega]; exact hI)
      rw [show n + (k + 1) + 1 = n + 1 + k + 1 by omega] at this
      exact this) fun acc e hI => hend acc e (by rw [show n + (x :: r).length = n + 1 + r.length by simp; omega]; exact hI)
    refine (hs 0 x acc e rfl h0).imp fun e1 q => q.imp fun p q => ?_
    obtain ⟨b, e2⟩ := p
    dsimp only at q ⊢
    cases b with
    | false =>
      simp only [Bool.false_eq_true, if_false] at q ⊢
      exact ih _ _ q
    | true =>
      simp only [if_true, oks_bind] at q ⊢
      exact q.imp fun p q => q.imp fun d q => ih _ _ q
theorem ok_lcI {Q : List PyData × Env → Prop} {xs : List PyData} {e : Env} (I : Nat → List PyData → Env → Prop) (h0 : I 0 [] e)
    (hs : ∀ k x acc e, xs[k]? = some x → I k acc e → Ok (bnd x e) fun e1 => Ok (test e1) fun p => if p.1 then Ok (el p.2) fun q => Ok (q.1.data q.2) fun d => I (k + 1) (acc ++ [d]) (wipe own (frzs q.2 [q.1])) else I (k + 1) acc (wipe own p.2))
    (hend : ∀ acc e, I xs.length acc e → Q (acc, e)) : Ok (lcL bnd test el own xs e []) Q :=
  ok_lcL I (n := 0) h0 (fun k x acc e h hI => by simpa using hs k x acc e h (by simpa using hI)) (by simpa using hend)
/-- a comprehension that changes nothing -/
theorem lc_pure {g : α → PyData} {e : Env} (t : α → Bool) (f : α → PyData) : ∀ {l : List α} {acc : List PyData},
    (∀ x ∈ l, Ok (bnd (g x) e) fun e1 => Ok (test e1) fun p => p.1 = t x ∧ if t x then Ok (el p.2) fun q => Ok (q.1.data q.2) fun d => d = f x ∧ wipe own (frzs q.2 [q.1]) = e else wipe own p.2 = e) →
    lcL bnd test el own (l.map g) e acc = some (acc ++ (l.filter t).map f, e)
  | [], acc, h => by simp [lcL]
  | x :: r, acc, h => by
    obtain ⟨e1, h1, p, h2, h3, h4⟩ := h x List.mem_cons_self
    have ih := fun acc => lc_pure t f (acc := acc) fun y hy => h y (List.mem_cons_of_mem _ hy)
    obtain ⟨b, e2⟩ := p
    dsimp only at h3 h4
    subst h3
    simp only [List.map_cons, lcL, h1, Option.bind_some, h2]
    cases q : t x with
    | false =>
      rw [q] at h4
      simp only [Bool.false_eq_true, if_false] at h4 ⊢
      rw [h4, ih, List.filter_cons_of_neg (by simp [q])]
    | true =>
      rw [q] at h4
      simp only [if_true] at h4 ⊢
      obtain ⟨⟨r', e3⟩, h5, d, h6, h7, h8⟩ := h4
      subst h7
      simp only [h5, h6, Option.bind_some] at h8 ⊢
      rw [h8, ih, List.filter_cons_of_pos (by simp [q])]
      simp
theorem ok_lc {g : α → PyData} {e : Env} {Q : List PyData × Env → Prop} {l : List α} (t : α → Bool) (f : α → PyData)
    (h : ∀ x ∈ l, Ok (bnd (g x) e) fun e1 => Ok (test e1) fun p => p.1 = t x ∧ if t x then Ok (el p.2) fun q => Ok (q.1.data q.2) fun d => d = f x ∧ wipe own (frzs q.2 [q.1]) = e else wipe own p.2 = e)
    (k : Q ((l.filter t).map f, e)) : Ok (lcL bnd test el own (l.map g) e []) Q := oks_of (by simpa using lc_pure t f (acc := []) h) k
/-- a generator expression's elements -/
theorem gen_pure {g : α → PyData} {e : Env} (t : α → Bool) (f : α → PyData) : ∀ {l : List α},
    (∀ x ∈ l, flat (f x) = true ∧ Ok (bnd (g x) e) fun e1 => Ok (test e1) fun p => p.1 = t x ∧ (t x = true → Ok (el e1) fun q => Ok (q.1.data q.2) fun d => d = f x)) →
    genL bnd test el e (l.map g) = some (l.map fun x => if t x then some (f x) else none)
  | [], h => rfl
  | x :: r, h => by
    obtain ⟨h0, e1, h1, ⟨b, e2⟩, h2, h3, h4⟩ := h x List.mem_cons_self
    have ih := gen_pure t f fun y hy => h y (List.mem_cons_of_mem _ hy)
    dsimp only at h3 h4
    subst h3
    simp only [List.map_cons, genL, genV, h1, Option.bind_some, h2, ih]
    cases q : t x with
    | false => simp
    | true =>
      obtain ⟨⟨r', e3⟩, h5, d, h6, h7⟩ := h4 q
      subst h7
      simp only [if_true, h5, h6, Option.bind_some, h0, Option.map_some]
theorem filterMap_if (t : α → Bool) (f : α → PyData) (l : List α) : (l.map fun x => if t x then some (f x) else none).filterMap id = (l.filter t).map f := by
  induction l with
  | nil => rfl
  | cons x r ih =>
    cases h : t x <;> simp [h, ih]
theorem ok_gen {g : α → PyData} {e : Env} {Q : PyData → Prop} {b : Gb} {l : List α} (t : α → Bool) (f : α → PyData)
    (h : ∀ x ∈ l, flat (f x) = true ∧ Ok (bnd (g x) e) fun e1 => Ok (test e1) fun p => p.1 = t x ∧ (t x = true → Ok (el e1) fun q => Ok (q.1.data q.2) fun d => d = f x))
    (k : Ok (genEnd b ((l.filter t).map f)) Q) : Ok (genL bnd test el e (l.map g)) fun ds => Ok (genEnd b (ds.filterMap id)) Q := by
  refine oks_of (gen_pure t f h) ?_
  rw [filterMap_if]
  exact k
end
/-! ### defs -/
/-- what a def's body leaves -/
def Rt (np : Nat) (Q : W × List W → Prop) : Out → Prop
  | .rt w e => Q (w, finals np e)
  | .nx e => Q (.d .none, finals np e)
  | _ => False
theorem Rt_rt {np : Nat} {Q : W × List W → Prop} {w : W} {e : Env} : Rt np Q (.rt w e) ↔ Q (w, finals np e) := Iff.rfl
theorem Rt_nx {np : Nat} {Q : W × List W → Prop} {e : Env} : Rt np Q (.nx e) ↔ Q (.d .none, finals np e) := Iff.rfl
theorem ok_callD {ds : List D} {q : Bool} {k f : Nat} {ws : List W} {d : D} {Q : W × List W → Prop} (hd : ds[f]? = some d) (hf : fits d ws = true) (h : Ok (run ⟨q, callD ds q k, callD ds true k⟩ d.body (start d ws)) (Rt d.np Q)) : Ok (callD ds q (k + 1) f ws) Q := by
  simp only [callD, hd, Option.bind_some, hf, if_true, oks_bind]
  refine h.imp fun o q => ?_
  cases o with
  | rt w e => exact oks_some.mpr q
  | nx e => exact oks_some.mpr q
  | bk e => exact q.elim
  | ct e => exact q.elim

theorem getz {o : Option W} {e : Env} : get (o :: e) 0 = o := by cases o <;> rfl
theorem gets {o : Option W} {e : Env} {i : Nat} : get (o :: e) (i + 1) = get e i := rfl
theorem intsOf_map : ∀ l : List Int, intsOf (l.map PyData.int) = some l
  | [] => rfl
  | x :: r => by simp [intsOf, intsOf_map r]
theorem ok_atI {xs : List PyData} {i : Int} {Q : PyData → Prop} (h0 : 0 ≤ i) (h : ∃ d, xs[i.toNat]? = some d ∧ Q d) : Ok (L2.atI xs i) Q := by
  obtain ⟨d, h1, h2⟩ := h
  have hl := (List.getElem?_eq_some_iff.mp h1).1
  refine oks_of (a := d) ?_ h2
  simp only [L2.atI, L2.ixN, h0, if_true]
  rw [if_pos (by omega)]
  simpa using h1
theorem ok_at {α : Type} {f : α → PyData} {l : List α} {i : Int} {Q : PyData → Prop} (h0 : 0 ≤ i) (h1 : i < l.length) (h : ∀ x, l[i.toNat]? = some x → Q (f x)) : Ok (L2.atI (l.map f) i) Q := by
  have hl : i.toNat < l.length := by omega
  exact ok_atI h0 ⟨f l[i.toNat], by rw [List.getElem?_map, List.getElem?_eq_getElem hl]; rfl, h _ (List.getElem?_eq_getElem hl)⟩
theorem ok_ixN {n : Nat} {i : Int} {Q : Nat → Prop} (h0 : 0 ≤ i) (h1 : i < n) (h : Q i.toNat) : Ok (L2.ixN n i) Q := by
  refine oks_of (a := i.toNat) ?_ h
  simp only [L2.ixN, h0, h1, if_true]
theorem set_map {α β : Type} {f : α → β} {l : List α} {i : Nat} {x : α} : (l.map f).set i (f x) = (l.set i x).map f := by
  rw [List.map_set]
theorem fin0 {e : Env} : finals 0 e = [] := rfl
theorem fin1 {e : Env} : finals 1 e = [(get e 0).getD (.d .none)] := rfl
theorem fin2 {e : Env} : finals 2 e = [(get e 0).getD (.d .none), (get e 1).getD (.d .none)] := rfl
theorem fin3 {e : Env} : finals 3 e = [(get e 0).getD (.d .none), (get e 1).getD (.d .none), (get e 2).getD (.d .none)] := rfl
theorem fin4 {e : Env} : finals 4 e = [(get e 0).getD (.d .none), (get e 1).getD (.d .none), (get e 2).getD (.d .none), (get e 3).getD (.d .none)] := rfl
theorem fin5 {e : Env} : finals 5 e = [(get e 0).getD (.d .none), (get e 1).getD (.d .none), (get e 2).getD (.d .none), (get e 3).getD (.d .none), (get e 4).getD (.d .none)] := rfl
theorem fin6 {e : Env} : finals 6 e = [(get e 0).getD (.d .none), (get e 1).getD (.d .none), (get e 2).getD (.d .none), (get e 3).getD (.d .none), (get e 4).getD (.d .none), (get e 5).getD (.d .none)] := rfl
theorem fin7 {e : Env} : finals 7 e = [(get e 0).getD (.d .none), (get e 1).getD (.d .none), (get e 2).getD (.d .none), (get e 3).getD (.d .none), (get e 4).getD (.d .none), (get e 5).getD (.d .none), (get e 6).getD (.d .none)] := rfl
theorem fin8 {e : Env} : finals 8 e = [(get e 0).getD (.d .none), (get e 1).getD (.d .none), (get e 2).getD (.d .none), (get e 3).getD (.d .none), (get e 4).getD (.d .none), (get e 5).getD (.d .none), (get e 6).getD (.d .none), (get e 7).getD (.d .none)] := rfl
/-! ### comparisons -/
section
variable {i j : Int} {a b : Bool} {x y : Str} {xs ys : List PyData}
theorem c_lt : cmpop .lt (.int i) (.int j) = some (decide (i < j)) := rfl
theorem c_le : cmpop .le (.int i) (.int j) = some (decide (i ≤ j)) := rfl
theorem c_gt : cmpop .gt (.int i) (.int j) = some (decide (j < i)) := rfl
theorem c_ge : cmpop .ge (.int i) (.int j) = some (decide (j ≤ i)) := rfl
theorem c_eq : cmpop .eq (.int i) (.int j) = some (i == j) := rfl
theorem c_ne : cmpop .ne (.int i) (.int j) = some (!(i == j)) := rfl
theorem c_is : cmpop .is .none .none = some true := rfl
theorem c_is_i : cmpop .is (.int i) .none = some false := rfl
theorem c_is_b : cmpop .is (.bool a) .none = some false := rfl
theorem c_is_s : cmpop .is (.str x) .none = some false := rfl
theorem c_is_l : cmpop .is (.list xs) .none = some false := rfl
theorem c_is_t : cmpop .is (.tuple xs) .none = some false := rfl
theorem c_isn : cmpop .isnot .none .none = some false := rfl
theorem c_isn_i : cmpop .isnot (.int i) .none = some true := rfl
theorem c_isn_b : cmpop .isnot (.bool a) .none = some true := rfl
theorem c_isn_s : cmpop .isnot (.str x) .none = some true := rfl
theorem c_isn_l : cmpop .isnot (.list xs) .none = some true := rfl
theorem c_isn_t : cmpop .isnot (.tuple xs) .none = some true := rfl
theorem c_eq_b : cmpop .eq (.bool a) (.bool b) = some (a == b) := by cases a <;> cases b <;> rfl
theorem c_ne_b : cmpop .ne (.bool a) (.bool b) = some (!(a == b)) := by cases a <;> cases b <;> rfl
theorem c_eq_n : cmpop .eq .none .none = some true := rfl
theorem c_ne_n : cmpop .ne .none .none = some false := rfl
theorem c_eq_s : cmpop .eq (.str x) (.str y) = some (x == y) := by simp [cmpop, PyData.depth, PyData.eqv]
theorem c_ne_s : cmpop .ne (.str x) (.str y) = some (!(x == y)) := by simp [cmpop, PyData.depth, PyData.eqv]
theorem c_eq_is : cmpop .eq (.int i) (.str y) = some false := rfl
theorem c_ne_is : cmpop .ne (.int i) (.str y) = some true := rfl
theorem c_eq_ns : cmpop .eq .none (.str y) = some false := rfl
theorem c_ne_ns : cmpop .ne .none (.str y) = some true := rfl
theorem c_eq_ni : cmpop .eq .none (.int i) = some false := rfl
theorem c_ne_ni : cmpop .ne .none (.int i) = some true := rfl
theorem c_eq_in : cmpop .eq (.int i) .none = some false := rfl
theorem c_ne_in : cmpop .ne (.int i) .none = some true := rfl
theorem c_eq_sn : cmpop .eq (.str x) .none = some false := rfl
theorem c_ne_sn : cmpop .ne (.str x) .none = some true := rfl
theorem c_eq_si : cmpop .eq (.str x) (.int i) = some false := rfl
theorem c_ne_si : cmpop .ne (.str x) (.int i) = some true := rfl
theorem cmp_self {d : PyData} (h : d.plain = true) (hd : d.depth ≤ 100) : cmpop .eq d d = some true := by
  have := PySem.SeqAt.eqv_refl_plain d h
  cases d <;> simp_all [cmpop]
theorem eq_nil : cmpop .eq (.list []) (.list []) = some true := by simp [cmpop, PyData.eqv, PyData.eqvAll, PyData.depth, PyData.depthAll]
end
theorem filt_f {α : Type} {l : List α} : l.filter (fun _ => false) = [] := by simp
theorem filt_t {α : Type} {l : List α} : l.filter (fun _ => true) = l := by simp
theorem rngL0 {n : Nat} : rngL 0 (n : Int) = (List.range n).map fun (k : Nat) => .int k := by simp [rngL]
theorem rngL0' {i : Int} : rngL 0 i = (List.range i.toNat).map fun (k : Nat) => .int k := by simp [rngL]
theorem nc0 : ((0 : Nat) : Int) = 0 := rfl
theorem nc1 : ((1 : Nat) : Int) = 1 := rfl
theorem nc2 : ((2 : Nat) : Int) = 2 := rfl
theorem nc3 : ((3 : Nat) : Int) = 3 := rfl
theorem nc4 : ((4 : Nat) : Int) = 4 := rfl
theorem nc5 : ((5 : Nat) : Int) = 5 := rfl
theorem nc6 : ((6 : Nat) : Int) = 6 := rfl
theorem nc7 : ((7 : Nat) : Int) = 7 := rfl
theorem nc8 : ((8 : Nat) : Int) = 8 := rfl
theorem nc9 : ((9 : Nat) : Int) = 9 := rfl
theorem nc10 : ((10 : Nat) : Int) = 10 := rfl
theorem nc11 : ((11 : Nat) : Int) = 11 := rfl
theorem nc12 : ((12 : Nat) : Int) = 12 := rfl
theorem at_hd {α : Type} {a : α} {l : List α} : L2.atI (a :: l) 0 = some a := by
  simp only [L2.atI, L2.ixN, Int.le_refl, if_true, List.length_cons]
  rw [if_pos (by omega)]
  rfl
theorem at_of {A : List PyData} {n : Nat} {a : PyData} (h : A[n]? = some a) : L2.atI A (n : Int) = some a := by
  obtain ⟨d', h', rfl⟩ := ok_atI (xs := A) (i := n) (Q := fun d => d = a) (by omega) ⟨a, by simpa using h, rfl⟩
  exact h'
theorem repN {n : Nat} : List.replicate (n + 1) (none : Option W) = none :: List.replicate n none := rfl
theorem rep0 : List.replicate 0 (none : Option W) = [] := rfl
theorem szOk_of {n : Nat} (h : n ≤ 16777216) : szOk n = true := by simp only [szOk, decide_eq_true_eq]; omega
end Mini

-- P2
set_option Elab.async false
set_option linter.all false
set_option maxRecDepth 100000
set_option maxHeartbeats 4000000
/-! what the laws' own small defs do. -/
namespace Mini
open PySem
local macro_rules
  | `(tactic| simp! only) => `(tactic| simp only [ev, lstOf, tupD, mathf, true_implies, imp_self, implies_true, nc0, nc1, nc2, nc3, nc4, nc5, nc6, nc7, nc8, nc9, nc10, nc11, nc12, Int.reduceBEq, Int.reduceLT, Int.reduceLE, Int.reduceEq, Int.reduceAdd, Int.reduceSub, Int.reduceMul, Int.reduceNeg, Int.reduceToNat, oks_ite, oks_none, if_false_right, if_false_left, filt_f, filt_t, List.length_map, List.length_range, Bool.not_eq_false, beq_self_eq_true, Bool.true_eq_false, asInt, asOwn, evA, evI, evT, oks_some, oks_bind, oks_map, oks_guard, oks_guard', Mini.R.data, Mini.R.w, Mini.W.data, getz, gets, Option.map_some, Option.bind_some, Option.isNone_none, Option.isNone_some, binop, c_lt, c_le, c_gt, c_ge, c_eq, c_ne, c_is, c_is_i, c_is_b, c_is_s, c_is_l, c_is_t, c_isn, c_isn_i, c_isn_b, c_isn_s, c_isn_l, c_isn_t, c_eq_b, c_ne_b, c_eq_n, c_ne_n, c_eq_s, c_ne_s, c_eq_is, c_ne_is, c_eq_ns, c_ne_ns, c_eq_ni, c_ne_ni, c_eq_in, c_ne_in, c_eq_sn, c_ne_sn, c_eq_si, c_ne_si, truth, Mini.index, Mini.slice, Mini.part, Mini.builtin, Mini.items, isTy, callE, Mini.ws, datas, owned, Mini.back, keptOwn, frzs, frz, giveW, hid, wipe, resto, List.foldl_cons, List.foldl_nil, List.set_cons_zero, List.set_cons_succ, List.map_cons, List.map_nil, bindTg, bindFl, bindNs, nst, lastIs, Nat.reduceBEq, List.dropLast, List.zip_cons_cons, List.zip_nil_right, List.zip_nil_left, Nx_nx, Nx_rt, Nx_bk, Nx_ct, Lp_nx, Lp_ct, Lp_bk, Lp_rt, Rt_rt, Rt_nx, unhide_nil, unhide_nx, unhide_rt, unhide_one, fin0, fin1, fin2, fin3, fin4, fin5, fin6, fin7, fin8, rngL0, Option.getD_some, Option.getD_none, List.length_cons, List.length_nil, Nat.zero_add, Nat.reduceAdd, Nat.reduceEqDiff, Nat.succ_eq_add_one, ite_true, ite_false, if_true, if_false, reduceIte, reduceCtorEq, Bool.false_eq_true, Bool.not_true, Bool.not_false, List.nodup_cons, List.nodup_nil, List.not_mem_nil, List.mem_cons, not_false_eq_true, not_true_eq_false, and_true, true_and, and_self, or_self, or_false, false_or, setAll, Mini.start, repN, rep0, List.append_eq, List.nil_append, List.cons_append, Nat.reduceSub, Nat.reduceMul, Int.reduceNeg, List.mapM_cons, List.mapM_nil, Option.pure_def, Option.bind_eq_bind, List.any_nil, List.any_cons, List.isEmpty_cons, List.isEmpty_nil, Bool.and_true, Bool.true_and, Bool.and_false, Bool.false_and, Bool.or_false, Bool.or_true, Bool.false_or, Bool.true_or, beq_iff_eq, decide_eq_true_eq, Cf.quiet, frzAll, Option.map_none, Option.bind_none, List.append_nil, Nat.lt_irrefl, ite_self, Bool.not_eq_true', decide_true, decide_false, List.contains_cons, List.contains_nil, Mini.stored, Nat.not_lt_zero, Nat.reduceLT, Nat.reduceLeDiff])
  | `(tactic| simp! only [$ls,*]) => `(tactic| simp only [ev, lstOf, tupD, mathf, true_implies, imp_self, implies_true, nc0, nc1, nc2, nc3, nc4, nc5, nc6, nc7, nc8, nc9, nc10, nc11, nc12, Int.reduceBEq, Int.reduceLT, Int.reduceLE, Int.reduceEq, Int.reduceAdd, Int.reduceSub, Int.reduceMul, Int.reduceNeg, Int.reduceToNat, oks_ite, oks_none, if_false_right, if_false_left, filt_f, filt_t, List.length_map, List.length_range, Bool.not_eq_false, beq_self_eq_true, Bool.true_eq_false, asInt, asOwn, evA, evI, evT, oks_some, oks_bind, oks_map, oks_guard, oks_guard', Mini.R.data, Mini.R.w, Mini.W.data, getz, gets, Option.map_some, Option.bind_some, Option.isNone_none, Option.isNone_some, binop, c_lt, c_le, c_gt, c_ge, c_eq, c_ne, c_is, c_is_i, c_is_b, c_is_s, c_is_l, c_is_t, c_isn, c_isn_i, c_isn_b, c_isn_s, c_isn_l, c_isn_t, c_eq_b, c_ne_b, c_eq_n, c_ne_n, c_eq_s, c_ne_s, c_eq_is, c_ne_is, c_eq_ns, c_ne_ns, c_eq_ni, c_ne_ni, c_eq_in, c_ne_in, c_eq_sn, c_ne_sn, c_eq_si, c_ne_si, truth, Mini.index, Mini.slice, Mini.part, Mini.builtin, Mini.items, isTy, callE, Mini.ws, datas, owned, Mini.back, keptOwn, frzs, frz, giveW, hid, wipe, resto, List.foldl_cons, List.foldl_nil, List.set_cons_zero, List.set_cons_succ, List.map_cons, List.map_nil, bindTg, bindFl, bindNs, nst, lastIs, Nat.reduceBEq, List.dropLast, List.zip_cons_cons, List.zip_nil_right, List.zip_nil_left, Nx_nx, Nx_rt, Nx_bk, Nx_ct, Lp_nx, Lp_ct, Lp_bk, Lp_rt, Rt_rt, Rt_nx, unhide_nil, unhide_nx, unhide_rt, unhide_one, fin0, fin1, fin2, fin3, fin4, fin5, fin6, fin7, fin8, rngL0, Option.getD_some, Option.getD_none, List.length_cons, List.length_nil, Nat.zero_add, Nat.reduceAdd, Nat.reduceEqDiff, Nat.succ_eq_add_one, ite_true, ite_false, if_true, if_false, reduceIte, reduceCtorEq, Bool.false_eq_true, Bool.not_true, Bool.not_false, List.nodup_cons, List.nodup_nil, List.not_mem_nil, List.mem_cons, not_false_eq_true, not_true_eq_false, and_true, true_and, and_self, or_self, or_false, false_or, setAll, Mini.start, repN, rep0, List.append_eq, List.nil_append, List.cons_append, Nat.reduceSub, Nat.reduceMul, Int.reduceNeg, List.mapM_cons, List.mapM_nil, Option.pure_def, Option.bind_eq_bind, List.any_nil, List.any_cons, List.isEmpty_cons, List.isEmpty_nil, Bool.and_true, Bool.true_and, Bool.and_false, Bool.false_and, Bool.or_false, Bool.or_true, Bool.false_or, Bool.true_or, beq_iff_eq, decide_eq_true_eq, Cf.quiet, frzAll, Option.map_none, Option.bind_none, List.append_nil, Nat.lt_irrefl, ite_self, Bool.not_eq_true', decide_true, decide_false, List.contains_cons, List.contains_nil, Mini.stored, Nat.not_lt_zero, Nat.reduceLT, Nat.reduceLeDiff, $ls,*])

def bTaken : S := (.seq (.ite (.cmp .gt (.idx (.var 0) (.lit (.int 3))) (.lit (.int 0))) (.seq (.asg 3 (.bin .mod (.bi .int (.cons (.idx (.var 0) (.lit (.int 3))) .nil)) (.var 1))) (.seq (.sset 0 (.lit (.int 3)) (.bin .fdiv (.idx (.var 0) (.lit (.int 3))) (.var 1))) (.seq (.ret (.var 3)) .pass))) .pass) (.seq (.sset 0 (.lit (.int 1)) (.bin .add (.idx (.var 0) (.lit (.int 1))) (.lit (.int 1)))) (.seq (.ite (.cmp .gt (.idx (.var 0) (.lit (.int 1))) (.bi .len (.cons (.idx (.var 0) (.lit (.int 0))) .nil))) (.seq (.sset 0 (.lit (.int 2)) (.bin .mod (.bi .int (.cons (.bin .add (.bin .mul (.idx (.var 0) (.lit (.int 2))) (.lit (.int 48271))) (.lit (.int 11))) .nil)) (.lit (.int 2147483647)))) (.seq (.ret (.bin .mod (.bi .int (.cons (.bin .fdiv (.idx (.var 0) (.lit (.int 2))) (.lit (.int 7))) .nil)) (.var 1))) .pass)) .pass) (.seq (.asg 2 (.idx (.idx (.var 0) (.lit (.int 0))) (.bin .sub (.idx (.var 0) (.lit (.int 1))) (.lit (.int 1))))) (.seq (.sset 0 (.lit (.int 2)) (.bin .mod (.bi .int (.cons (.bin .add (.bin .add (.bin .mul (.idx (.var 0) (.lit (.int 2))) (.lit (.int 48271))) (.var 2)) (.lit (.int 11))) .nil)) (.lit (.int 2147483647)))) (.seq (.ite (.cmp .ge (.var 2) (.bin .pow (.lit (.int 10)) (.lit (.int 18)))) (.seq (.sset 0 (.lit (.int 3)) (.bin .fdiv (.var 2) (.var 1))) .pass) .pass) (.seq (.ret (.bin .mod (.bi .int (.cons (.var 2) .nil)) (.var 1))) .pass)))))))
def dTaken : D := ⟨2, 4, bTaken⟩
def bPick : S := (.seq (.ret (.idx (.var 1) (.call 1 (.cons (.var 0) (.cons (.bi .len (.cons (.var 1) .nil)) .nil))))) .pass)
def dPick : D := ⟨2, 2, bPick⟩
/-- the drawing row -/
def Row (ns : List Int) (st : List PyData) : Prop := ∃ pos mix rest : Int, st = [.list (ns.map .int), .int pos, .int mix, .int rest] ∧ 0 ≤ pos
section
variable {ds : List D} {q : Bool} {k : Nat} {ns : List Int} {st : List PyData} {m : Int}
theorem at4 {a b c d : PyData} {Q : PyData → Prop} : (Ok (L2.atI [a, b, c, d] 0) Q ↔ Q a) ∧ (Ok (L2.atI [a, b, c, d] 1) Q ↔ Q b) ∧ (Ok (L2.atI [a, b, c, d] 2) Q ↔ Q c) ∧ (Ok (L2.atI [a, b, c, d] 3) Q ↔ Q d) :=
  ⟨oks_some, oks_some, oks_some, oks_some⟩
theorem ix4 {Q : Nat → Prop} : (Ok (L2.ixN 4 0) Q ↔ Q 0) ∧ (Ok (L2.ixN 4 1) Q ↔ Q 1) ∧ (Ok (L2.ixN 4 2) Q ↔ Q 2) ∧ (Ok (L2.ixN 4 3) Q ↔ Q 3) :=
  ⟨oks_some, oks_some, oks_some, oks_some⟩
theorem taken_ok (hd : ds[1]? = some dTaken) (hs : Row ns st) (h0 : 0 < m) (h1 : m < 1073741824) : Ok (callD ds q (k + 1) 1 [.own st, .d (.int m)]) fun p => ∃ r st', p = (.d (.int r), [.own st', .d (.int m)]) ∧ 0 ≤ r ∧ r < m ∧ Row ns st' := by
  obtain ⟨pos, mix, rest, rfl, hp⟩ := hs
  refine ok_callD hd rfl ?_
  have m0 : m ≠ 0 := by omega
  have m1 : m ≠ 0 ∧ m.natAbs / 1073741824 < 1073741824 := ⟨m0, by omega⟩
  have fm : ∀ x : Int, 0 ≤ x.fmod m ∧ x.fmod m < m := fun x => ⟨Int.fmod_nonneg_of_pos _ h0, Int.fmod_lt_of_pos _ h0⟩
  simp only [dTaken, bTaken]
  simp! only
  refine ok_seq (ok_ite ?_)
  simp! only [at4]
  split
  · refine ok_seq (ok_asg ?_)
    simp! only [at4, m0]
    refine ⟨m0, ok_seq (ok_sset ?_)⟩
    simp! only [at4]
    refine ⟨m1, ?_⟩
    simp! only [ix4]
    refine ok_seq (ok_ret ?_)
    simp! only
    exact ⟨_, _, rfl, (fm _).1, (fm _).2, pos, mix, _, rfl, hp⟩
  · refine ok_pass ?_
    simp! only
    refine ok_seq (ok_sset ?_)
    simp! only [at4, ix4]
    refine ok_seq (ok_ite ?_)
    simp! only [at4]
    split
    · refine ok_seq (ok_sset ?_)
      simp! only [at4, ix4]
      refine ⟨.inl (by decide), by decide, ok_seq (ok_ret ?_)⟩
      simp! only [at4]
      exact ⟨by decide, m0, _, _, rfl, (fm _).1, (fm _).2, _, _, _, rfl, by omega⟩
    · rename_i h1 h2
      refine ok_pass ?_
      simp! only
      refine ok_seq (ok_asg ?_)
      simp! only [at4]
      refine ok_at (by omega) (by omega) fun x hx => ?_
      refine ok_seq (ok_sset ?_)
      simp! only [at4, ix4]
      refine ⟨.inl (by decide), by decide, ok_seq (ok_ite ?_)⟩
      simp! only [at4]
      refine ⟨by decide, ?_⟩
      have fin : ∀ r2 r3 : Int, Ok (run ⟨q, callD ds q k, callD ds true k⟩ ((S.ret (E.bin Bop.mod (E.bi Bi.int ((E.var 2).cons E.nil)) (E.var 1))).seq S.pass) [some (W.own [PyData.list (List.map PyData.int ns), PyData.int (pos + 1), .int r2, .int r3]), some (W.d (PyData.int m)), some (W.d (PyData.int x)), none])
          (Rt 2 fun p => ∃ r st', p = (W.d (PyData.int r), [W.own st', W.d (PyData.int m)]) ∧ 0 ≤ r ∧ r < m ∧ Row ns st') := fun r2 r3 => by
        refine ok_seq (ok_ret ?_)
        simp! only
        exact ⟨m0, _, _, rfl, (fm _).1, (fm _).2, _, _, _, rfl, by omega⟩
      split
      · refine ok_seq (ok_sset ?_)
        simp! only [at4, ix4]
        refine ⟨m1, ok_pass ?_⟩
        simp! only
        exact fin _ _
      · refine ok_pass ?_
        simp! only
        exact fin _ _
theorem pick_ok (hd : ds[1]? = some dTaken) (hp : ds[2]? = some dPick) {xs : List PyData} {w : W} (hs : Row ns st) (hw : w = .own xs ∨ w = .d (.list xs) ∨ w = .d (.tuple xs)) (h0 : 0 < xs.length) (h1 : xs.length < 1000000) :
    Ok (callD ds q (k + 2) 2 [.own st, w]) fun p => ∃ x st', p = (.d x, [.own st', w]) ∧ x ∈ xs ∧ Row ns st' := by
  refine ok_callD hp (by cases w <;> rfl) ?_
  simp only [dPick, bPick]
  rcases hw with rfl | rfl | rfl
  all_goals
    simp! only
    refine ok_seq (ok_ret ?_)
    simp! only
    refine (taken_ok hd hs (by omega) (by omega)).imp fun p hp => ?_
    obtain ⟨r, st', rfl, r0, r1, hs'⟩ := hp
    simp! only
    refine ok_atI r0 ?_
    have : r.toNat < xs.length := by omega
    exact ⟨xs[r.toNat], List.getElem?_eq_getElem this, _, _, rfl, List.getElem_mem this, hs'⟩

/-- data that a comparison walks, by its height -/
def Nice : Nat → PyData → Prop
  | 0, _ => False
  | _ + 1, .none => True
  | _ + 1, .bool _ => True
  | _ + 1, .int _ => True
  | _ + 1, .str _ => True
  | n + 1, .list xs => xs.length ≤ 16777216 ∧ ∀ y ∈ xs, Nice n y
  | n + 1, .tuple xs => xs.length ≤ 16777216 ∧ ∀ y ∈ xs, Nice n y
  | _ + 1, .dict _ => False
def bAlike : S := (.seq (.ite (.isis (.var 1) [.tuple, .list]) (.seq (.ite (.or (.not (.isis (.var 0) [.tuple, .list])) (.cmp .ne (.isi (.var 0) .list) (.isi (.var 1) .list))) (.seq (.ret (.lit (.bool false))) .pass) .pass) (.seq (.ite (.cmp .ne (.bi .len (.cons (.var 0) .nil)) (.bi .len (.cons (.var 1) .nil))) (.seq (.ret (.lit (.bool false))) .pass) .pass) (.seq (.ret (.cmp .eq (.lc (.rng1 (.bi .len (.cons (.var 1) .nil))) [2] true (.not (.call 3 (.cons (.idx (.var 0) (.var 2)) (.cons (.idx (.var 1) (.var 2)) .nil)))) (.var 2)) (.lst .nil))) .pass))) .pass) (.seq (.ite (.or (.cmp .is (.var 1) .none) (.isi (.var 1) .str)) (.seq (.ret (.and (.cmp .eq (.var 0) (.var 1)) (.cmp .eq (.isi (.var 0) .str) (.isi (.var 1) .str)))) .pass) .pass) (.seq (.ret (.and (.isi (.var 0) .int) (.and (.cmp .eq (.isi (.var 0) .bool) (.isi (.var 1) .bool)) (.cmp .eq (.var 0) (.var 1))))) .pass)))
def dAlike : D := ⟨2, 3, bAlike⟩
theorem inR_len {n : Nat} (h : n ≤ 16777216) : inR n = true := by
  simp only [inR, decide_eq_true_eq]
  omega
theorem alike_ok (hd : ds[3]? = some dAlike) (n : Nat) : ∀ (x : PyData), Nice n x → Ok (callD ds q (n + k) 3 [.d x, .d x]) fun p => p = (.d (.bool true), [.d x, .d x]) := by
  induction n with
  | zero => intro x h; exact h.elim
  | succ n ih =>
    intro x h
    rw [show n + 1 + k = n + k + 1 by omega]
    refine ok_callD hd rfl ?_
    simp only [dAlike, bAlike]
    cases x with
    | dict _ => exact h.elim
    | list xs =>
      obtain ⟨h1, h2⟩ := h
      simp! only
      refine sq fun K hK => ok_ite ?_
      simp! only
      refine sq fun K1 hK1 => ok_ite ?_
      simp! only
      refine ok_pass (hK1 _ (sq fun K2 hK2 => ok_ite ?_))
      simp! only
      refine ok_pass (hK2 _ (sq fun K3 hK3 => ok_ret ?_))
      simp! only
      refine ⟨inR_len h1, szOk_of h1, ?_⟩
      refine ok_lc (fun _ => false) (fun _ => .none) (fun i hi => ?_) ?_
      · simp! only
        obtain ⟨y, hy⟩ : ∃ y, xs[i]? = some y := ⟨_, List.getElem?_eq_getElem (by simpa using hi)⟩
        refine ok_atI (by omega) ⟨y, by simpa using hy, ok_atI (by omega) ⟨y, by simpa using hy, ?_⟩⟩
        refine (ih y (h2 y (List.mem_of_getElem? hy))).imp fun p hp => ?_
        subst hp
        simp! only
      · simp! only [eq_nil]
    | tuple xs =>
      obtain ⟨h1, h2⟩ := h
      simp! only
      refine sq fun K hK => ok_ite ?_
      simp! only
      refine sq fun K1 hK1 => ok_ite ?_
      simp! only
      refine ok_pass (hK1 _ (sq fun K2 hK2 => ok_ite ?_))
      simp! only
      refine ok_pass (hK2 _ (sq fun K3 hK3 => ok_ret ?_))
      simp! only
      refine ⟨inR_len h1, szOk_of h1, ?_⟩
      refine ok_lc (fun _ => false) (fun _ => .none) (fun i hi => ?_) ?_
      · simp! only
        obtain ⟨y, hy⟩ : ∃ y, xs[i]? = some y := ⟨_, List.getElem?_eq_getElem (by simpa using hi)⟩
        refine ok_atI (by omega) ⟨y, by simpa using hy, ok_atI (by omega) ⟨y, by simpa using hy, ?_⟩⟩
        refine (ih y (h2 y (List.mem_of_getElem? hy))).imp fun p hp => ?_
        subst hp
        simp! only
      · simp! only [eq_nil]
    | none =>
      simp! only
      refine sq fun K hK => ok_ite ?_
      simp! only
      refine ok_pass (hK _ (sq fun K1 hK1 => ok_ite ?_))
      simp! only
      refine sq fun K3 hK3 => ok_ret ?_
      simp! only
    | str z =>
      simp! only
      refine sq fun K hK => ok_ite ?_
      simp! only
      refine ok_pass (hK _ (sq fun K1 hK1 => ok_ite ?_))
      simp! only
      refine sq fun K3 hK3 => ok_ret ?_
      simp! only
    | int z =>
      simp! only
      refine sq fun K hK => ok_ite ?_
      simp! only
      refine ok_pass (hK _ (sq fun K1 hK1 => ok_ite ?_))
      simp! only
      refine ok_pass (hK1 _ (sq fun K3 hK3 => ok_ret ?_))
      simp! only
    | bool z =>
      simp! only
      refine sq fun K hK => ok_ite ?_
      simp! only
      refine ok_pass (hK _ (sq fun K1 hK1 => ok_ite ?_))
      simp! only
      refine ok_pass (hK1 _ (sq fun K3 hK3 => ok_ret ?_))
      simp! only
end
end Mini

-- K58a
set_option Elab.async false
set_option linter.all false
set_option maxRecDepth 100000
set_option maxHeartbeats 0
namespace Mini.Law
open PySem PyProof.Rows L2 Mini
def b_law : S := (.seq (.asg 1 (.lst (.cons (.var 0) (.cons (.lit (.int 0)) (.cons (.lit (.int 3258)) (.cons (.lit (.int 0)) .nil)))))) (.seq (.asg 2 (.lst .nil)) (.seq (.for (.rng1 (.bin .add (.bin .add (.lit (.int 1)) (.call 1 (.cons (.var 1) (.cons (.lit (.int 5)) .nil)))) (.ite (.cmp .eq (.call 1 (.cons (.var 1) (.cons (.lit (.int 6)) .nil))) (.lit (.int 0))) (.lit (.int 1)) (.lit (.int 0))))) [3] true (.seq (.app 2 (.tup (.cons (.call 1 (.cons (.var 1) (.cons (.call 2 (.cons (.var 1) (.cons (.lst (.cons (.lit (.int 4)) (.cons (.lit (.int 9)) (.cons (.lit (.int 101)) .nil)))) .nil))) .nil))) (.cons (.call 1 (.cons (.var 1) (.cons (.call 2 (.cons (.var 1) (.cons (.lst (.cons (.lit (.int 4)) (.cons (.lit (.int 9)) (.cons (.lit (.int 101)) .nil)))) .nil))) .nil))) .nil)))) .pass)) (.seq (.asg 2 (.bi .tuple (.cons (.var 2) .nil))) (.seq (.asg 4 (.call 4 (.cons (.bi .len (.cons (.var 2) .nil)) .nil))) (.seq (.asg 5 (.lc (.src (.var 4)) [9] true (.lit (.bool true)) (.call 8 (.cons (.var 2) (.cons (.var 9) .nil))))) (.seq (.asg 6 (.call 5 (.cons (.var 2) .nil))) (.seq (.ite (.or (.not (.isi (.var 6) .tuple)) (.or (.cmp .notin (.var 6) (.var 4)) (.cmp .ne (.lc (.src (.var 6)) [3] true (.isi (.var 3) .bool) (.var 3)) (.lst .nil)))) (.seq (.ret (.lit (.bool false))) .pass) .pass) (.seq (.for (.rng1 (.lit (.int 3))) [7] true (.seq (.asg 8 (.call 1 (.cons (.var 1) (.cons (.bi .len (.cons (.var 4) .nil)) .nil)))) (.seq (.ite (.not (.call 3 (.cons (.call 9 (.cons (.var 2) (.cons (.idx (.var 4) (.var 8)) .nil))) (.cons (.idx (.var 5) (.var 8)) .nil)))) (.seq (.ret (.lit (.bool false))) .pass) .pass) .pass))) (.seq (.ret (.and (.cmp .eq (.call 8 (.cons (.var 2) (.cons (.var 6) .nil))) (.bi .min (.cons (.var 5) .nil))) (.call 3 (.cons (.call 9 (.cons (.var 2) (.cons (.var 6) .nil))) (.cons (.bi .min (.cons (.var 5) .nil)) .nil))))) .pass))))))))))
def d_law : D := ⟨1, 10, b_law⟩ -- 0:_law_script 1:_law_row 2:_law_jobs 3:_law_k 4:_law_orders_here 5:_law_ends 6:_law_found 7:_law_turn 8:_law_at 9:_law_order
def b__law_taken : S := (.seq (.ite (.cmp .gt (.idx (.var 0) (.lit (.int 3))) (.lit (.int 0))) (.seq (.asg 3 (.bin .mod (.bi .int (.cons (.idx (.var 0) (.lit (.int 3))) .nil)) (.var 1))) (.seq (.sset 0 (.lit (.int 3)) (.bin .fdiv (.idx (.var 0) (.lit (.int 3))) (.var 1))) (.seq (.ret (.var 3)) .pass))) .pass) (.seq (.sset 0 (.lit (.int 1)) (.bin .add (.idx (.var 0) (.lit (.int 1))) (.lit (.int 1)))) (.seq (.ite (.cmp .gt (.idx (.var 0) (.lit (.int 1))) (.bi .len (.cons (.idx (.var 0) (.lit (.int 0))) .nil))) (.seq (.sset 0 (.lit (.int 2)) (.bin .mod (.bi .int (.cons (.bin .add (.bin .mul (.idx (.var 0) (.lit (.int 2))) (.lit (.int 48271))) (.lit (.int 11))) .nil)) (.lit (.int 2147483647)))) (.seq (.ret (.bin .mod (.bi .int (.cons (.bin .fdiv (.idx (.var 0) (.lit (.int 2))) (.lit (.int 7))) .nil)) (.var 1))) .pass)) .pass) (.seq (.asg 2 (.idx (.idx (.var 0) (.lit (.int 0))) (.bin .sub (.idx (.var 0) (.lit (.int 1))) (.lit (.int 1))))) (.seq (.sset 0 (.lit (.int 2)) (.bin .mod (.bi .int (.cons (.bin .add (.bin .add (.bin .mul (.idx (.var 0) (.lit (.int 2))) (.lit (.int 48271))) (.var 2)) (.lit (.int 11))) .nil)) (.lit (.int 2147483647)))) (.seq (.ite (.cmp .ge (.var 2) (.bin .pow (.lit (.int 10)) (.lit (.int 18)))) (.seq (.sset 0 (.lit (.int 3)) (.bin .fdiv (.var 2) (.var 1))) .pass) .pass) (.seq (.ret (.bin .mod (.bi .int (.cons (.var 2) .nil)) (.var 1))) .pass)))))))
def d__law_taken : D := ⟨2, 4, b__law_taken⟩ -- 0:_law_row 1:_law_many 2:_law_cell 3:_law_found
def b__law_pick : S := (.seq (.ret (.idx (.var 1) (.call 1 (.cons (.var 0) (.cons (.bi .len (.cons (.var 1) .nil)) .nil))))) .pass)
def d__law_pick : D := ⟨2, 2, b__law_pick⟩ -- 0:_law_row 1:_law_things
def b__law_alike : S := (.seq (.ite (.isis (.var 1) [.tuple, .list]) (.seq (.ite (.or (.not (.isis (.var 0) [.tuple, .list])) (.cmp .ne (.isi (.var 0) .list) (.isi (.var 1) .list))) (.seq (.ret (.lit (.bool false))) .pass) .pass) (.seq (.ite (.cmp .ne (.bi .len (.cons (.var 0) .nil)) (.bi .len (.cons (.var 1) .nil))) (.seq (.ret (.lit (.bool false))) .pass) .pass) (.seq (.ret (.cmp .eq (.lc (.rng1 (.bi .len (.cons (.var 1) .nil))) [2] true (.not (.call 3 (.cons (.idx (.var 0) (.var 2)) (.cons (.idx (.var 1) (.var 2)) .nil)))) (.var 2)) (.lst .nil))) .pass))) .pass) (.seq (.ite (.or (.cmp .is (.var 1) .none) (.isi (.var 1) .str)) (.seq (.ret (.and (.cmp .eq (.var 0) (.var 1)) (.cmp .eq (.isi (.var 0) .str) (.isi (.var 1) .str)))) .pass) .pass) (.seq (.ret (.and (.isi (.var 0) .int) (.and (.cmp .eq (.isi (.var 0) .bool) (.isi (.var 1) .bool)) (.cmp .eq (.var 0) (.var 1))))) .pass)))
def d__law_alike : D := ⟨2, 3, b__law_alike⟩ -- 0:_law_found 1:_law_due 2:_law_k
def b__law_orders : S := (.seq (.asg 1 (.lst (.cons (.tup .nil) .nil))) (.seq (.for (.rng1 (.var 0)) [2] true (.seq (.asg 3 (.lst .nil)) (.seq (.for (.src (.var 1)) [4] true (.seq (.asg 3 (.bin .add (.var 3) (.lc (.rng1 (.var 0)) [5] true (.cmp .notin (.var 5) (.var 4)) (.bin .add (.var 4) (.tup (.cons (.var 5) .nil)))))) .pass)) (.seq (.asg 1 (.var 3)) .pass)))) (.seq (.ret (.var 1)) .pass)))
def d__law_orders : D := ⟨1, 6, b__law_orders⟩ -- 0:_law_many 1:_law_found 2:_law_turn 3:_law_more 4:_law_some 5:_law_k
def b_flow_order : S := (.seq (.ex (.call 6 (.cons (.var 0) .nil))) (.seq (.asg 1 (.lc (.enum (.var 0)) [3, 4] false (.cmp .le (.idx (.var 4) (.lit (.int 0))) (.idx (.var 4) (.lit (.int 1)))) (.var 3))) (.seq (.asg 2 (.lc (.enum (.var 0)) [3, 4] false (.cmp .gt (.idx (.var 4) (.lit (.int 0))) (.idx (.var 4) (.lit (.int 1)))) (.var 3))) (.seq (.asg 1 (.skey (.var 1) 3 (.idx (.idx (.var 0) (.var 3)) (.lit (.int 0))))) (.seq (.asg 2 (.skey (.var 2) 3 (.neg (.idx (.idx (.var 0) (.var 3)) (.lit (.int 1)))))) (.seq (.ret (.tup (.star (.var 1) (.star (.var 2) .nil)))) .pass))))))
def d_flow_order : D := ⟨1, 5, b_flow_order⟩ -- 0:jobs 1:early 2:late 3:k 4:job
def b_need_equal : S := (.seq (.ite (.or (.not (.isi (.var 0) .tuple)) (.not (.chain .le .le (.lit (.int 1)) (.bi .len (.cons (.var 0) .nil)) (.con "MOST_EQUAL" (.int 8))))) (.seq .bad .pass) .pass) (.seq (.for (.enum (.var 0)) [1, 2] false (.seq (.ite (.or (.not (.isi (.var 2) .tuple)) (.or (.cmp .ne (.bi .len (.cons (.var 2) .nil)) (.lit (.int 2))) (.not (.gen .all (.src (.var 2)) [3] true (.lit (.bool true)) (.call 7 (.cons (.var 3) (.cons (.lit (.int 0)) (.cons (.con "MOST_TIME" (.int 100)) .nil)))))))) (.seq .bad .pass) .pass) .pass)) .pass))
def d_need_equal : D := ⟨1, 4, b_need_equal⟩ -- 0:jobs 1:index 2:job 3:one
def b_is_in : S := (.seq (.ret (.and (.isi (.var 0) .int) (.and (.not (.isi (.var 0) .bool)) (.chain .le .le (.var 1) (.var 0) (.var 2))))) .pass)
def d_is_in : D := ⟨3, 3, b_is_in⟩ -- 0:value 1:least 2:most
def b__law_end : S := (.seq (.asg 2 (.lit (.int 0))) (.seq (.for (.rng1 (.bi .len (.cons (.var 1) .nil))) [3] true (.seq (.asg 4 (.bin .add (.bi .sum (.cons (.lc (.src (.slc (.var 1) .none (.bin .add (.var 3) (.lit (.int 1))))) [5] true (.lit (.bool true)) (.idx (.idx (.var 0) (.var 5)) (.lit (.int 0)))) .nil)) (.bi .sum (.cons (.lc (.src (.slc (.var 1) (.var 3) .none)) [5] true (.lit (.bool true)) (.idx (.idx (.var 0) (.var 5)) (.lit (.int 1)))) .nil)))) (.seq (.asg 2 (.bi .max2 (.cons (.var 2) (.cons (.var 4) .nil)))) .pass))) (.seq (.ret (.var 2)) .pass)))
def d__law_end : D := ⟨2, 6, b__law_end⟩ -- 0:_law_jobs 1:_law_order 2:_law_found 3:_law_turn 4:_law_way 5:_law_k
def b_flow_end : S := (.seq (.ex (.call 6 (.cons (.var 0) .nil))) (.seq (.ex (.call 10 (.cons (.bi .len (.cons (.var 0) .nil)) (.cons (.var 1) .nil)))) (.seq (.par [3, 4] (.cons (.lit (.int 0)) (.cons (.lit (.int 0)) .nil))) (.seq (.for (.src (.var 1)) [2] true (.seq (.asg 3 (.bin .add (.var 3) (.idx (.idx (.var 0) (.var 2)) (.lit (.int 0))))) (.seq (.asg 4 (.bin .add (.bi .max2 (.cons (.var 3) (.cons (.var 4) .nil))) (.idx (.idx (.var 0) (.var 2)) (.lit (.int 1))))) .pass))) (.seq (.ret (.var 4)) .pass)))))
def d_flow_end : D := ⟨2, 5, b_flow_end⟩ -- 0:jobs 1:order 2:k 3:first 4:second
def b_need_job_order : S := (.seq (.ite (.not (.call 11 (.cons (.var 0) (.cons (.var 1) .nil)))) (.seq .bad .pass) .pass) .pass)
def d_need_job_order : D := ⟨2, 2, b_need_job_order⟩ -- 0:many 1:order
def b_is_order : S := (.seq (.ite (.or (.not (.isi (.var 1) .tuple)) (.cmp .ne (.bi .len (.cons (.var 1) .nil)) (.var 0))) (.seq (.ret (.lit (.bool false))) .pass) .pass) (.seq (.for (.src (.var 1)) [2] true (.seq (.ite (.or (.not (.isi (.var 2) .int)) (.or (.isi (.var 2) .bool) (.not (.chain .le .lt (.lit (.int 0)) (.var 2) (.var 0))))) (.seq (.ret (.lit (.bool false))) .pass) .pass) .pass)) (.seq (.ret (.cmp .eq (.bi .sorted (.cons (.var 1) .nil)) (.lrng (.var 0)))) .pass)))
def d_is_order : D := ⟨2, 3, b_is_order⟩ -- 0:many 1:value 2:one
def dsL : List D := [d_law, d__law_taken, d__law_pick, d__law_alike, d__law_orders, d_flow_order, d_need_equal, d_is_in, d__law_end, d_flow_end, d_need_job_order, d_is_order]
end Mini.Law

-- P3
set_option Elab.async false
set_option linter.all false
set_option maxRecDepth 100000
set_option maxHeartbeats 4000000
/-! more words: ranges, slices, lists of numbers; the program's small tests. -/
namespace Mini
open PySem
local macro_rules
  | `(tactic| simp! only) => `(tactic| simp only [ev, lstOf, tupD, mathf, true_implies, imp_self, implies_true, nc0, nc1, nc2, nc3, nc4, nc5, nc6, nc7, nc8, nc9, nc10, nc11, nc12, Int.reduceBEq, Int.reduceLT, Int.reduceLE, Int.reduceEq, Int.reduceAdd, Int.reduceSub, Int.reduceMul, Int.reduceNeg, Int.reduceToNat, oks_ite, oks_none, if_false_right, if_false_left, filt_f, filt_t, List.length_map, List.length_range, Bool.not_eq_false, beq_self_eq_true, Bool.true_eq_false, asInt, asOwn, evA, evI, evT, oks_some, oks_bind, oks_map, oks_guard, oks_guard', Mini.R.data, Mini.R.w, Mini.W.data, getz, gets, Option.map_some, Option.bind_some, Option.isNone_none, Option.isNone_some, binop, c_lt, c_le, c_gt, c_ge, c_eq, c_ne, c_is, c_is_i, c_is_b, c_is_s, c_is_l, c_is_t, c_isn, c_isn_i, c_isn_b, c_isn_s, c_isn_l, c_isn_t, c_eq_b, c_ne_b, c_eq_n, c_ne_n, c_eq_s, c_ne_s, c_eq_is, c_ne_is, c_eq_ns, c_ne_ns, c_eq_ni, c_ne_ni, c_eq_in, c_ne_in, c_eq_sn, c_ne_sn, c_eq_si, c_ne_si, truth, Mini.index, Mini.slice, Mini.part, Mini.builtin, Mini.items, isTy, callE, Mini.ws, datas, owned, Mini.back, keptOwn, frzs, frz, giveW, hid, wipe, resto, List.foldl_cons, List.foldl_nil, List.set_cons_zero, List.set_cons_succ, List.map_cons, List.map_nil, bindTg, bindFl, bindNs, nst, lastIs, Nat.reduceBEq, List.dropLast, List.zip_cons_cons, List.zip_nil_right, List.zip_nil_left, Nx_nx, Nx_rt, Nx_bk, Nx_ct, Lp_nx, Lp_ct, Lp_bk, Lp_rt, Rt_rt, Rt_nx, unhide_nil, unhide_nx, unhide_rt, unhide_one, fin0, fin1, fin2, fin3, fin4, fin5, fin6, fin7, fin8, rngL0, Option.getD_some, Option.getD_none, List.length_cons, List.length_nil, Nat.zero_add, Nat.reduceAdd, Nat.reduceEqDiff, Nat.succ_eq_add_one, ite_true, ite_false, if_true, if_false, reduceIte, reduceCtorEq, Bool.false_eq_true, Bool.not_true, Bool.not_false, List.nodup_cons, List.nodup_nil, List.not_mem_nil, List.mem_cons, not_false_eq_true, not_true_eq_false, and_true, true_and, and_self, or_self, or_false, false_or, setAll, Mini.start, repN, rep0, List.append_eq, List.nil_append, List.cons_append, Nat.reduceSub, Nat.reduceMul, Int.reduceNeg, List.mapM_cons, List.mapM_nil, Option.pure_def, Option.bind_eq_bind, List.any_nil, List.any_cons, List.isEmpty_cons, List.isEmpty_nil, Bool.and_true, Bool.true_and, Bool.and_false, Bool.false_and, Bool.or_false, Bool.or_true, Bool.false_or, Bool.true_or, beq_iff_eq, decide_eq_true_eq, Cf.quiet, frzAll, Option.map_none, Option.bind_none, List.append_nil, Nat.lt_irrefl, ite_self, Bool.not_eq_true', decide_true, decide_false, List.contains_cons, List.contains_nil, Mini.stored, Nat.not_lt_zero, Nat.reduceLT, Nat.reduceLeDiff])
  | `(tactic| simp! only [$ls,*]) => `(tactic| simp only [ev, lstOf, tupD, mathf, true_implies, imp_self, implies_true, nc0, nc1, nc2, nc3, nc4, nc5, nc6, nc7, nc8, nc9, nc10, nc11, nc12, Int.reduceBEq, Int.reduceLT, Int.reduceLE, Int.reduceEq, Int.reduceAdd, Int.reduceSub, Int.reduceMul, Int.reduceNeg, Int.reduceToNat, oks_ite, oks_none, if_false_right, if_false_left, filt_f, filt_t, List.length_map, List.length_range, Bool.not_eq_false, beq_self_eq_true, Bool.true_eq_false, asInt, asOwn, evA, evI, evT, oks_some, oks_bind, oks_map, oks_guard, oks_guard', Mini.R.data, Mini.R.w, Mini.W.data, getz, gets, Option.map_some, Option.bind_some, Option.isNone_none, Option.isNone_some, binop, c_lt, c_le, c_gt, c_ge, c_eq, c_ne, c_is, c_is_i, c_is_b, c_is_s, c_is_l, c_is_t, c_isn, c_isn_i, c_isn_b, c_isn_s, c_isn_l, c_isn_t, c_eq_b, c_ne_b, c_eq_n, c_ne_n, c_eq_s, c_ne_s, c_eq_is, c_ne_is, c_eq_ns, c_ne_ns, c_eq_ni, c_ne_ni, c_eq_in, c_ne_in, c_eq_sn, c_ne_sn, c_eq_si, c_ne_si, truth, Mini.index, Mini.slice, Mini.part, Mini.builtin, Mini.items, isTy, callE, Mini.ws, datas, owned, Mini.back, keptOwn, frzs, frz, giveW, hid, wipe, resto, List.foldl_cons, List.foldl_nil, List.set_cons_zero, List.set_cons_succ, List.map_cons, List.map_nil, bindTg, bindFl, bindNs, nst, lastIs, Nat.reduceBEq, List.dropLast, List.zip_cons_cons, List.zip_nil_right, List.zip_nil_left, Nx_nx, Nx_rt, Nx_bk, Nx_ct, Lp_nx, Lp_ct, Lp_bk, Lp_rt, Rt_rt, Rt_nx, unhide_nil, unhide_nx, unhide_rt, unhide_one, fin0, fin1, fin2, fin3, fin4, fin5, fin6, fin7, fin8, rngL0, Option.getD_some, Option.getD_none, List.length_cons, List.length_nil, Nat.zero_add, Nat.reduceAdd, Nat.reduceEqDiff, Nat.succ_eq_add_one, ite_true, ite_false, if_true, if_false, reduceIte, reduceCtorEq, Bool.false_eq_true, Bool.not_true, Bool.not_false, List.nodup_cons, List.nodup_nil, List.not_mem_nil, List.mem_cons, not_false_eq_true, not_true_eq_false, and_true, true_and, and_self, or_self, or_false, false_or, setAll, Mini.start, repN, rep0, List.append_eq, List.nil_append, List.cons_append, Nat.reduceSub, Nat.reduceMul, Int.reduceNeg, List.mapM_cons, List.mapM_nil, Option.pure_def, Option.bind_eq_bind, List.any_nil, List.any_cons, List.isEmpty_cons, List.isEmpty_nil, Bool.and_true, Bool.true_and, Bool.and_false, Bool.false_and, Bool.or_false, Bool.or_true, Bool.false_or, Bool.true_or, beq_iff_eq, decide_eq_true_eq, Cf.quiet, frzAll, Option.map_none, Option.bind_none, List.append_nil, Nat.lt_irrefl, ite_self, Bool.not_eq_true', decide_true, decide_false, List.contains_cons, List.contains_nil, Mini.stored, Nat.not_lt_zero, Nat.reduceLT, Nat.reduceLeDiff, $ls,*])

theorem rngL_get {a b : Int} {k : Nat} {x : PyData} (h : (rngL a b)[k]? = some x) : x = .int (a + k) ∧ a + k < b := by
  unfold rngL at h
  rw [List.getElem?_map] at h
  cases q : (List.range (b - a).toNat)[k]? with
  | none => rw [q] at h; cases h
  | some j =>
    rw [q] at h
    obtain ⟨h1, h2⟩ := List.getElem?_eq_some_iff.mp q
    simp at h1 h2
    subst h2
    cases h
    exact ⟨rfl, by omega⟩
theorem rngL_len {a b : Int} : (rngL a b).length = (b - a).toNat := by simp [rngL]
theorem enumL_get {α : Type} {f : α → PyData} {l : List α} {n : Nat} {x : PyData} (h : (enumL (l.map f))[n]? = some x) : ∃ t, t ∈ l ∧ x = .tuple [.int n, f t] := by
  simp only [enumL, List.getElem?_mapIdx, List.getElem?_map, Option.map_map, Option.map_eq_some_iff] at h
  obtain ⟨t, h1, h2⟩ := h
  exact ⟨t, List.mem_of_getElem? h1, h2.symm⟩
theorem enumL_at {α : Type} {f : α → PyData} {l : List α} {n : Nat} {x : PyData} (h : (enumL (l.map f))[n]? = some x) : ∃ t, l[n]? = some t ∧ x = .tuple [.int n, f t] := by
  simp only [enumL, List.getElem?_mapIdx, List.getElem?_map, Option.map_map, Option.map_eq_some_iff] at h
  obtain ⟨t, h1, h2⟩ := h
  exact ⟨t, h1, h2.symm⟩
theorem enumL_len {xs : List PyData} : (enumL xs).length = xs.length := by simp [enumL]
theorem inR_of {a : Int} (h : -1000000000 ≤ a) (h' : a ≤ 1000000000) : inR a = true := by
  simp only [inR, decide_eq_true_eq]
  omega
theorem cut_to {xs : List PyData} {b : Int} (h : 0 ≤ b) : cut xs none (some b) = xs.take b.toNat := by
  simp only [cut, HT.sIx]
  rw [if_neg (by omega), List.drop_zero, Nat.sub_zero]
  by_cases q : b.toNat ≤ xs.length
  · rw [Nat.min_eq_left q]
  · rw [Nat.min_eq_right (by omega), List.take_of_length_le (by omega), List.take_of_length_le (by omega)]
theorem cut_from {xs : List PyData} {a : Int} (h : 0 ≤ a) : cut xs (some a) none = xs.drop a.toNat := by
  simp only [cut, HT.sIx]
  rw [if_neg (by omega)]
  by_cases q : a.toNat ≤ xs.length
  · rw [Nat.min_eq_left q, List.take_of_length_le (by simp)]
  · rw [Nat.min_eq_right (by omega), List.drop_of_length_le (Nat.le_refl _), List.drop_of_length_le (by omega)]; simp
theorem cut_mid {xs : List PyData} {a b : Int} (h : 0 ≤ a) (h' : 0 ≤ b) : cut xs (some a) (some b) = (xs.take b.toNat).drop a.toNat := by
  simp only [cut, HT.sIx]
  rw [if_neg (by omega), if_neg (by omega)]
  by_cases q : a.toNat ≤ xs.length
  · rw [Nat.min_eq_left q, List.drop_take]
    by_cases r : b.toNat ≤ xs.length
    · rw [Nat.min_eq_left r]
    · rw [Nat.min_eq_right (by omega), List.take_of_length_le (by simp), List.take_of_length_le (by simp; omega)]
  · rw [Nat.min_eq_right (a := a.toNat) (by omega), List.drop_of_length_le (Nat.le_refl _), List.drop_of_length_le (by rw [List.length_take]; omega)]; simp
theorem eqvAll_ints : ∀ {a b : List Int}, PyData.eqvAll (a.map .int) (b.map .int) = decide (a = b)
  | [], [] => by simp [PyData.eqvAll]
  | [], y :: b => by simp [PyData.eqvAll]
  | x :: a, [] => by simp [PyData.eqvAll]
  | x :: a, y :: b => by
    simp only [List.map_cons, PyData.eqvAll, PyData.eqv, eqvAll_ints (a := a) (b := b), List.cons.injEq, Bool.decide_and]
    rfl
theorem depthAll_ints : ∀ {a : List Int}, PyData.depthAll (a.map .int) ≤ 2
  | [] => by simp [PyData.depthAll]
  | x :: a => by
    simp only [List.map_cons, PyData.depthAll, PyData.depth]
    have := depthAll_ints (a := a)
    omega
theorem plainAll_ints : ∀ {a : List Int}, PyData.plainAll (a.map .int) = true
  | [] => rfl
  | x :: a => by simp [PyData.plainAll, PyData.plain, plainAll_ints (a := a)]
theorem c_eq_ts {a b : List Int} : cmpop .eq (.tuple (a.map .int)) (.tuple (b.map .int)) = some (decide (a = b)) := by
  have := depthAll_ints (a := a)
  simp only [cmpop, PyData.depth, PyData.eqv, eqvAll_ints]
  rw [if_pos (.inl (by omega))]
theorem c_eq_ls {a b : List Int} : cmpop .eq (.list (a.map .int)) (.list (b.map .int)) = some (decide (a = b)) := by
  have := depthAll_ints (a := a)
  simp only [cmpop, PyData.depth, PyData.eqv, eqvAll_ints]
  rw [if_pos (.inl (by omega))]
theorem c_ne_ts {a b : List Int} : cmpop .ne (.tuple (a.map .int)) (.tuple (b.map .int)) = some (!decide (a = b)) := by
  have := depthAll_ints (a := a)
  simp only [cmpop, PyData.depth, PyData.eqv, eqvAll_ints]
  rw [if_pos (.inl (by omega))]
theorem c_ne_ls {a b : List Int} : cmpop .ne (.list (a.map .int)) (.list (b.map .int)) = some (!decide (a = b)) := by
  have := depthAll_ints (a := a)
  simp only [cmpop, PyData.depth, PyData.eqv, eqvAll_ints]
  rw [if_pos (.inl (by omega))]
/-- is a list empty? -/
theorem c_eq_nil {xs : List PyData} : cmpop .eq (.list xs) (.list []) = some xs.isEmpty := by
  have e : cmpop .eq (.list xs) (.list []) = if (PyData.list xs).depth ≤ 100 ∨ (PyData.list []).depth ≤ 100 then some (PyData.eqv (.list xs) (.list [])) else none := rfl
  rw [e, if_pos (.inr (by simp [PyData.depth, PyData.depthAll]))]
  cases xs <;> simp [PyData.eqv, PyData.eqvAll]
theorem c_ne_nil {xs : List PyData} : cmpop .ne (.list xs) (.list []) = some (!xs.isEmpty) := by
  have e : cmpop .ne (.list xs) (.list []) = if (PyData.list xs).depth ≤ 100 ∨ (PyData.list []).depth ≤ 100 then some (!PyData.eqv (.list xs) (.list [])) else none := rfl
  rw [e, if_pos (.inr (by simp [PyData.depth, PyData.depthAll]))]
  cases xs <;> simp [PyData.eqv, PyData.eqvAll]
theorem filt_nil {α β : Type} {p : α → Bool} {f : α → β} {l : List α} : ((l.filter p).map f).isEmpty = true ↔ ∀ x ∈ l, p x = false := by
  simp [List.isEmpty_iff, List.filter_eq_nil_iff]
theorem flat_map {l : List Int} {n : Nat} : (List.replicate n (l.map PyData.int)).flatten = ((List.replicate n l).flatten).map .int := by
  rw [List.map_flatten, List.map_replicate]
theorem nice_int {n : Nat} {i : Int} : Nice (n + 1) (.int i) := trivial
theorem nice_ints {n : Nat} {l : List Int} (h : l.length ≤ 16777216) : Nice (n + 2) (.tuple (l.map .int)) := ⟨by simpa using h, fun y hy => by
  obtain ⟨x, _, rfl⟩ := List.mem_map.mp hy
  trivial⟩
theorem nice_intl {n : Nat} {l : List Int} (h : l.length ≤ 16777216) : Nice (n + 2) (.list (l.map .int)) := ⟨by simpa using h, fun y hy => by
  obtain ⟨x, _, rfl⟩ := List.mem_map.mp hy
  trivial⟩

theorem mapM_truth {α : Type} {p : α → Bool} : ∀ {l : List α}, (l.map fun x => PyData.bool (p x)).mapM truth = some (l.map p)
  | [] => rfl
  | x :: l => by simp [List.mapM_cons, truth, mapM_truth (l := l)]
theorem gen_all {α : Type} {p : α → Bool} {l : List α} : genEnd .all (l.map fun x => .bool (p x)) = some (.bool (l.all p)) := by
  simp only [genEnd, mapM_truth, Option.map_some, List.all_map]
  rfl
theorem gen_min {ds : List PyData} : genEnd .min ds = extr minI ds := rfl
theorem gen_max {ds : List PyData} : genEnd .max ds = extr maxI ds := rfl
theorem gen_any {α : Type} {p : α → Bool} {l : List α} : genEnd .any (l.map fun x => .bool (p x)) = some (.bool (l.any p)) := by
  simp only [genEnd, mapM_truth, Option.map_some, List.any_map]
  rfl
theorem intsOf_map' {α : Type} {f : α → Int} {l : List α} : intsOf (l.map fun x => PyData.int (f x)) = some (l.map f) := by
  rw [← intsOf_map, List.map_map]
  rfl
theorem gen_sum {α : Type} {f : α → Int} {l : List α} (h : ∀ x ∈ l, -1000000000 ≤ f x ∧ f x ≤ 1000000000) (h' : l.length ≤ 16777216) : genEnd .sum (l.map fun x => .int (f x)) = some (.int (l.map f).sum) := by
  simp only [genEnd, intsOf_map', Option.bind_some]
  rw [if_pos]
  simp only [Bool.and_eq_true, List.all_eq_true, List.length_map]
  refine ⟨fun x hx => ?_, szOk_of h'⟩
  obtain ⟨y, hy, rfl⟩ := List.mem_map.mp hx
  exact inR_of (h y hy).1 (h y hy).2
def bIsIn : S := (.seq (.ret (.and (.isi (.var 0) .int) (.and (.not (.isi (.var 0) .bool)) (.chain .le .le (.var 1) (.var 0) (.var 2))))) .pass)
def dIsIn : D := ⟨3, 3, bIsIn⟩
section
variable {ds : List D} {q : Bool} {k : Nat}
theorem is_in_ok {f : Nat} {x a b : Int} (hd : ds[f]? = some dIsIn) : Ok (callD ds q (k + 1) f [.d (.int x), .d (.int a), .d (.int b)]) fun p => p = (.d (.bool (decide (a ≤ x) && decide (x ≤ b))), [.d (.int x), .d (.int a), .d (.int b)]) := by
  refine ok_callD hd rfl ?_
  simp only [dIsIn, bIsIn]
  simp! only
  refine sq fun K hK => ok_ret ?_
  simp! only
  split <;> rename_i h <;> simp [h]
/-- the same, of a number within the bounds -/
theorem is_in_yes {f : Nat} {x a b : Int} (hd : ds[f]? = some dIsIn) (h1 : a ≤ x) (h2 : x ≤ b) : Ok (callD ds q (k + 1) f [.d (.int x), .d (.int a), .d (.int b)]) fun p => p = (.d (.bool true), [.d (.int x), .d (.int a), .d (.int b)]) :=
  (is_in_ok hd).imp fun p hp => by rw [hp]; simp [h1, h2]
def bNeedTable (i : Nat) : S := (.seq (.ite (.or (.not (.isi (.var 0) .tuple)) (.not (.chain .le .le (.lit (.int 1)) (.bi .len (.cons (.var 0) .nil)) (.con "MOST_TABLE" (.int 24))))) (.seq .bad .pass) .pass) (.seq (.ite (.not (.gen .all (.src (.var 0)) [1] true (.lit (.bool true)) (.call i (.cons (.var 1) (.cons (.lit (.int 0)) (.cons (.lit (.int 1)) .nil)))))) (.seq .bad .pass) .pass) .pass))
def dNeedTable (i : Nat) : D := ⟨1, 2, bNeedTable i⟩
theorem need_table_ok {f i : Nat} {T : List Int} (hd : ds[f]? = some (dNeedTable i)) (hi : ds[i]? = some dIsIn) (h1 : 1 ≤ T.length) (h2 : T.length ≤ 24) (h : ∀ x ∈ T, 0 ≤ x ∧ x ≤ 1) :
    Ok (callD ds false (k + 2) f [.d (.tuple (T.map .int))]) fun p => p = (.d .none, [.d (.tuple (T.map .int))]) := by
  refine ok_callD hd rfl ?_
  simp only [dNeedTable, bNeedTable]
  simp! only
  refine sq fun K hK => ok_ite ?_
  simp! only
  rw [if_pos (by omega), if_neg (by simp; omega)]
  refine ok_pass (hK _ (sq fun K1 hK1 => ok_ite ?_))
  simp! only
  refine ok_gen (fun _ => true) (fun _ => .bool true) (fun x hx => ⟨rfl, ?_⟩) ?_
  · simp! only
    refine (is_in_yes hi (h x hx).1 (h x hx).2).imp fun p hp => ?_
    subst hp
    simp! only
  · simp! only [gen_all]
    rw [if_neg (by simp)]
    exact ok_pass (hK1 _ (ok_pass rfl))

/-! ### tasks -/
def bIsTask (i : Nat) : S := (.seq (.ite (.or (.not (.isi (.var 0) .tuple)) (.or (.cmp .ne (.bi .len (.cons (.var 0) .nil)) (.lit (.int 3))) (.not (.call i (.cons (.idx (.var 0) (.lit (.int 0))) (.cons (.lit (.int 1)) (.cons (.con "MOST_COST" (.int 20)) .nil))))))) (.seq (.ret (.lit (.bool false))) .pass) .pass) (.seq (.ret (.and (.call i (.cons (.idx (.var 0) (.lit (.int 1))) (.cons (.lit (.int 1)) (.cons (.con "MOST_TIME" (.int 60)) .nil)))) (.call i (.cons (.idx (.var 0) (.lit (.int 2))) (.cons (.lit (.int 1)) (.cons (.con "MOST_TIME" (.int 60)) .nil)))))) .pass))
def dIsTask (i : Nat) : D := ⟨1, 1, bIsTask i⟩
def bNeedTasks (i : Nat) : S := (.seq (.ite (.or (.not (.isi (.var 0) .tuple)) (.not (.chain .le .le (.lit (.int 1)) (.bi .len (.cons (.var 0) .nil)) (.con "MOST_TASKS" (.int 6))))) (.seq .bad .pass) .pass) (.seq (.for (.enum (.var 0)) [1, 2] false (.seq (.ite (.not (.call i (.cons (.var 2) .nil))) (.seq .bad .pass) .pass) .pass)) .pass))
def dNeedTasks (i : Nat) : D := ⟨1, 3, bNeedTasks i⟩
def tk : Int × Int × Int → PyData := fun t => .tuple [.int t.1, .int t.2.1, .int t.2.2]
def TkOk (t : Int × Int × Int) : Prop := (1 ≤ t.1 ∧ t.1 ≤ 20) ∧ (1 ≤ t.2.1 ∧ t.2.1 ≤ 60) ∧ (1 ≤ t.2.2 ∧ t.2.2 ≤ 60)
theorem at3 {a b c : PyData} {Q : PyData → Prop} : (Ok (L2.atI [a, b, c] 0) Q ↔ Q a) ∧ (Ok (L2.atI [a, b, c] 1) Q ↔ Q b) ∧ (Ok (L2.atI [a, b, c] 2) Q ↔ Q c) := ⟨oks_some, oks_some, oks_some⟩
theorem at2 {a b : PyData} {Q : PyData → Prop} : (Ok (L2.atI [a, b] 0) Q ↔ Q a) ∧ (Ok (L2.atI [a, b] 1) Q ↔ Q b) := ⟨oks_some, oks_some⟩
theorem is_task_ok {f i : Nat} {t : Int × Int × Int} (hd : ds[f]? = some (dIsTask i)) (hi : ds[i]? = some dIsIn) (h : TkOk t) : Ok (callD ds q (k + 2) f [.d (tk t)]) fun p => p = (.d (.bool true), [.d (tk t)]) := by
  obtain ⟨c, d, g⟩ := t
  obtain ⟨⟨c1, c2⟩, ⟨d1, d2⟩, ⟨g1, g2⟩⟩ := h
  dsimp only at c1 c2 d1 d2 g1 g2
  refine ok_callD hd rfl ?_
  simp only [dIsTask, bIsTask, tk]
  simp! only
  refine sq fun K hK => ok_ite ?_
  simp! only [at3]
  refine (is_in_yes hi c1 c2).imp fun p hp => ?_
  subst hp
  simp! only
  refine ok_pass (hK _ (sq fun K1 hK1 => ok_ret ?_))
  simp! only [at3]
  refine (is_in_yes hi d1 d2).imp fun p hp => ?_
  subst hp
  simp! only [at3]
  refine (is_in_yes hi g1 g2).imp fun p hp => ?_
  subst hp
  simp! only
theorem need_tasks_ok {f i i' : Nat} {T : List (Int × Int × Int)} (hd : ds[f]? = some (dNeedTasks i)) (hi : ds[i]? = some (dIsTask i')) (hi' : ds[i']? = some dIsIn) (h1 : 1 ≤ T.length) (h2 : T.length ≤ 6) (h : ∀ t ∈ T, TkOk t) :
    Ok (callD ds q (k + 3) f [.d (.tuple (T.map tk))]) fun p => p = (.d .none, [.d (.tuple (T.map tk))]) := by
  refine ok_callD hd rfl ?_
  simp only [dNeedTasks, bNeedTasks]
  simp! only
  refine sq fun K hK => ok_ite ?_
  simp! only
  rw [if_pos (by omega), if_neg (by simp; omega)]
  refine ok_pass (hK _ (sq fun K1 hK1 => ok_for ?_))
  simp! only
  refine ok_forI (fun n e => ∃ o1 o2, e = [some (.d (.tuple (T.map tk))), o1, o2]) ⟨_, _, rfl⟩ (fun n x e hx hI => ?_) fun e hI => ?_
  · obtain ⟨o1, o2, rfl⟩ := hI
    obtain ⟨t, ht, rfl⟩ := enumL_get hx
    simp! only
    refine sq fun K2 hK2 => ok_ite ?_
    simp! only
    refine (is_task_ok hi hi' (h t ht)).imp fun p hp => ?_
    subst hp
    simp! only
    refine ok_pass (hK2 _ (ok_pass ?_))
    exact ⟨_, _, rfl⟩
  · obtain ⟨o1, o2, rfl⟩ := hI
    simp! only
    exact hK1 _ (ok_pass rfl)
end
end Mini

-- P4
set_option Elab.async false
set_option linter.all false
set_option maxRecDepth 100000
set_option maxHeartbeats 4000000
/-! servers: what the program's server defs and the laws' own do. -/
namespace Mini
open PySem

def B_need_server (c_is_in : Nat) : S := (.seq (.ite (.or (.not (.isi (.var 0) .tuple)) (.or (.cmp .ne (.bi .len (.cons (.var 0) .nil)) (.lit (.int 2))) (.not (.call c_is_in (.cons (.idx (.var 0) (.lit (.int 1))) (.cons (.lit (.int 1)) (.cons (.con "MOST_PERIOD" (.int 20)) .nil))))))) (.seq .bad .pass) .pass) (.seq (.ite (.not (.call c_is_in (.cons (.idx (.var 0) (.lit (.int 0))) (.cons (.lit (.int 1)) (.cons (.idx (.var 0) (.lit (.int 1))) .nil))))) (.seq .bad .pass) .pass) .pass))
/-- 0:server -/
def D_need_server (c_is_in : Nat) : D := ⟨1, 1, B_need_server c_is_in⟩
def B_need_requests (c_is_in : Nat) : S := (.seq (.ite (.or (.not (.isi (.var 0) .tuple)) (.cmp .gt (.bi .len (.cons (.var 0) .nil)) (.con "MOST_REQUESTS" (.int 12)))) (.seq .bad .pass) .pass) (.seq (.for (.enum (.var 0)) [1, 2] false (.seq (.ite (.or (.not (.isi (.var 2) .tuple)) (.or (.cmp .ne (.bi .len (.cons (.var 2) .nil)) (.lit (.int 2))) (.not (.call c_is_in (.cons (.idx (.var 2) (.lit (.int 0))) (.cons (.lit (.int 0)) (.cons (.con "MOST_ARRIVAL" (.int 100)) .nil))))))) (.seq .bad .pass) .pass) (.seq (.ite (.or (.not (.call c_is_in (.cons (.idx (.var 2) (.lit (.int 1))) (.cons (.lit (.int 1)) (.cons (.con "MOST_UNITS" (.int 20)) .nil))))) (.and (.cmp .gt (.var 1) (.lit (.int 0))) (.cmp .lt (.idx (.var 2) (.lit (.int 0))) (.idx (.idx (.var 0) (.bin .sub (.var 1) (.lit (.int 1)))) (.lit (.int 0)))))) (.seq .bad .pass) .pass) .pass))) .pass))
/-- 0:requests 1:index 2:one -/
def D_need_requests (c_is_in : Nat) : D := ⟨1, 3, B_need_requests c_is_in⟩
def B_served_units : S := (.seq (.unp [4, 5] (.var 0)) (.seq (.par [6, 7, 8, 9] (.cons (.lit (.int 0)) (.cons (.lit (.int 0)) (.cons (.lst .nil) (.cons (.lit (.int 0)) .nil))))) (.seq (.asg 3 (.gen .sum (.src (.var 1)) [10] true (.lit (.bool true)) (.idx (.var 10) (.lit (.int 1))))) (.seq (.whl (.cmp .lt (.bi .len (.cons (.var 8) .nil)) (.var 3)) (.seq (.asg 7 (.bin .add (.var 7) (.gen .sum (.src (.var 1)) [10] true (.cmp .eq (.idx (.var 10) (.lit (.int 0))) (.var 9)) (.idx (.var 10) (.lit (.int 1)))))) (.seq (.ite (.cmp .eq (.bin .mod (.var 9) (.var 5)) (.lit (.int 0))) (.seq (.asg 6 (.var 4)) .pass) .pass) (.seq (.ite (.and (.cmp .eq (.var 7) (.lit (.int 0))) (.var 2)) (.seq (.asg 6 (.lit (.int 0))) .pass) .pass) (.seq (.ite (.and (.cmp .gt (.var 7) (.lit (.int 0))) (.cmp .gt (.var 6) (.lit (.int 0)))) (.seq (.app 8 (.var 9)) (.seq (.par [7, 6] (.cons (.bin .sub (.var 7) (.lit (.int 1))) (.cons (.bin .sub (.var 6) (.lit (.int 1))) .nil))) .pass)) .pass) (.seq (.asg 9 (.bin .add (.var 9) (.lit (.int 1)))) .pass)))))) (.seq (.ret (.var 8)) .pass)))))
/-- 0:server 1:requests 2:is_polling 3:whole 4:budget 5:period 6:left 7:waiting 8:found 9:now 10:one -/
def D_served_units : D := ⟨3, 11, B_served_units⟩
def B__law_server : S := (.seq (.asg 1 (.call 2 (.cons (.var 0) (.cons (.lst (.cons (.lit (.int 1)) (.cons (.lit (.int 2)) (.cons (.lit (.int 3)) (.cons (.lit (.int 4)) (.cons (.lit (.int 5)) (.cons (.lit (.int 6)) (.cons (.lit (.int 8)) (.cons (.bin .add (.lit (.int 1)) (.call 1 (.cons (.var 0) (.cons (.lit (.int 20)) .nil)))) .nil))))))))) .nil)))) (.seq (.ret (.tup (.cons (.call 2 (.cons (.var 0) (.cons (.lst (.cons (.lit (.int 1)) (.cons (.var 1) (.cons (.bin .fdiv (.bin .add (.var 1) (.lit (.int 1))) (.lit (.int 2))) (.cons (.bin .add (.lit (.int 1)) (.call 1 (.cons (.var 0) (.cons (.var 1) .nil)))) .nil))))) .nil))) (.cons (.var 1) .nil)))) .pass))
/-- 0:_law_row 1:_law_period -/
def D__law_server : D := ⟨1, 2, B__law_server⟩
def B__law_requests : S := (.seq (.par [3, 4] (.cons (.lst .nil) (.cons (.call 1 (.cons (.var 0) (.cons (.lit (.int 6)) .nil))) .nil))) (.seq (.for (.rng1 (.call 1 (.cons (.var 0) (.cons (.bin .add (.var 1) (.lit (.int 1))) .nil)))) [2] true (.seq (.app 3 (.tup (.cons (.var 4) (.cons (.bin .add (.lit (.int 1)) (.call 1 (.cons (.var 0) (.cons (.call 2 (.cons (.var 0) (.cons (.lst (.cons (.lit (.int 2)) (.cons (.lit (.int 5)) (.cons (.lit (.int 20)) .nil)))) .nil))) .nil)))) .nil)))) (.seq (.asg 4 (.bi .min2 (.cons (.lit (.int 100)) (.cons (.bin .add (.var 4) (.call 2 (.cons (.var 0) (.cons (.lst (.cons (.lit (.int 0)) (.cons (.lit (.int 1)) (.cons (.lit (.int 2)) (.cons (.lit (.int 5)) (.cons (.lit (.int 9)) .nil)))))) .nil)))) .nil)))) .pass))) (.seq (.ret (.bi .tuple (.cons (.var 3) .nil))) .pass)))
/-- 0:_law_row 1:_law_most_here 2:_law_k 3:_law_found 4:_law_at -/
def D__law_requests : D := ⟨2, 5, B__law_requests⟩
def B__law_served : S := (.seq (.unp [4, 5] (.var 0)) (.seq (.par [6, 7, 8] (.cons (.lit (.int 0)) (.cons (.lit (.int 0)) (.cons (.lst .nil) .nil)))) (.seq (.for (.rng1 (.lit (.int 9000))) [3] true (.seq (.asg 9 (.bin .sub (.bi .sum (.cons (.lc (.src (.var 1)) [10] true (.cmp .le (.idx (.var 10) (.lit (.int 0))) (.var 3)) (.idx (.var 10) (.lit (.int 1)))) .nil)) (.var 7))) (.seq (.ite (.cmp .eq (.var 7) (.bi .sum (.cons (.lc (.src (.var 1)) [10] true (.lit (.bool true)) (.idx (.var 10) (.lit (.int 1)))) .nil))) (.seq .brk .pass) .pass) (.seq (.asg 6 (.ite (.cmp .eq (.bin .mod (.bi .int (.cons (.var 3) .nil)) (.var 5)) (.lit (.int 0))) (.var 4) (.var 6))) (.seq (.asg 6 (.ite (.and (.cmp .eq (.var 9) (.lit (.int 0))) (.var 2)) (.lit (.int 0)) (.var 6))) (.seq (.ite (.and (.cmp .gt (.var 9) (.lit (.int 0))) (.cmp .gt (.var 6) (.lit (.int 0)))) (.seq (.app 8 (.var 3)) (.seq (.par [7, 6] (.cons (.bin .add (.var 7) (.lit (.int 1))) (.cons (.bin .sub (.var 6) (.lit (.int 1))) .nil))) .pass)) .pass) .pass)))))) (.seq (.ret (.bi .tuple (.cons (.var 8) .nil))) .pass))))
/-- 0:_law_server_here 1:_law_requests_here 2:_law_is_polling 3:_law_now 4:_law_budget 5:_law_period 6:_law_left 7:_law_done 8:_law_found 9:_law_here 10:_law_one -/
def D__law_served : D := ⟨3, 11, B__law_served⟩
def B_deferrable_units (c_need_server : Nat) (c_need_requests : Nat) (c_served_units : Nat) : S := (.seq (.ex (.call c_need_server (.cons (.var 0) .nil))) (.seq (.ex (.call c_need_requests (.cons (.var 1) .nil))) (.seq (.ret (.bi .tuple (.cons (.call c_served_units (.cons (.var 0) (.cons (.var 1) (.cons (.lit (.bool false)) .nil)))) .nil))) .pass)))
/-- 0:server 1:requests -/
def D_deferrable_units (c_need_server : Nat) (c_need_requests : Nat) (c_served_units : Nat) : D := ⟨2, 2, B_deferrable_units c_need_server c_need_requests c_served_units⟩
def B_polling_units (c_need_server : Nat) (c_need_requests : Nat) (c_served_units : Nat) : S := (.seq (.ex (.call c_need_server (.cons (.var 0) .nil))) (.seq (.ex (.call c_need_requests (.cons (.var 1) .nil))) (.seq (.ret (.bi .tuple (.cons (.call c_served_units (.cons (.var 0) (.cons (.var 1) (.cons (.lit (.bool true)) .nil)))) .nil))) .pass)))
/-- 0:server 1:requests -/
def D_polling_units (c_need_server : Nat) (c_need_requests : Nat) (c_served_units : Nat) : D := ⟨2, 2, B_polling_units c_need_server c_need_requests c_served_units⟩
def B_deferrable_bound (c_need_server : Nat) (c_need_window : Nat) : S := (.seq (.ex (.call c_need_server (.cons (.var 0) .nil))) (.seq (.ex (.call c_need_window (.cons (.var 1) .nil))) (.seq (.unp [3, 4] (.var 0)) (.seq (.asg 2 (.bi .max2 (.cons (.lit (.int 0)) (.cons (.bin .sub (.var 1) (.var 3)) .nil)))) (.seq (.ret (.bin .add (.bin .add (.bi .min2 (.cons (.var 1) (.cons (.var 3) .nil))) (.bin .mul (.bin .fdiv (.var 2) (.var 4)) (.var 3))) (.bi .min2 (.cons (.bin .mod (.var 2) (.var 4)) (.cons (.var 3) .nil))))) .pass)))))
/-- 0:server 1:window 2:rest 3:budget 4:period -/
def D_deferrable_bound (c_need_server : Nat) (c_need_window : Nat) : D := ⟨2, 5, B_deferrable_bound c_need_server c_need_window⟩
def B_need_window (c_is_in : Nat) : S := (.seq (.ite (.not (.call c_is_in (.cons (.var 0) (.cons (.lit (.int 0)) (.cons (.con "MOST_WINDOW" (.int 500)) .nil))))) (.seq .bad .pass) .pass) .pass)
/-- 0:window -/
def D_need_window (c_is_in : Nat) : D := ⟨1, 1, B_need_window c_is_in⟩
def B__law_most : S := (.seq (.asg 2 (.lst (.cons (.lit (.int 0)) .nil))) (.seq (.for (.src (.var 0)) [3] true (.seq (.app 2 (.bi .len (.cons (.lc (.src (.var 0)) [4] true (.chain .le .lt (.var 3) (.var 4) (.bin .add (.var 3) (.var 1))) (.var 4)) .nil))) .pass)) (.seq (.ret (.bi .max (.cons (.var 2) .nil))) .pass)))
/-- 0:_law_units 1:_law_window 2:_law_found 3:_law_start 4:_law_one -/
def D__law_most : D := ⟨2, 5, B__law_most⟩

def sv (b p : Int) : PyData := .tuple [.int b, .int p]
def rq : Int × Int → PyData := fun r => .tuple [.int r.1, .int r.2]
def SvOk (b p : Int) : Prop := 1 ≤ b ∧ b ≤ p ∧ p ≤ 20
def RqOk (R : List (Int × Int)) : Prop := R.length ≤ 12 ∧ (∀ r ∈ R, (0 ≤ r.1 ∧ r.1 ≤ 100) ∧ (1 ≤ r.2 ∧ r.2 ≤ 20)) ∧ R.Pairwise fun a b => a.1 ≤ b.1
def arr (R : List (Int × Int)) (t : Int) : Int := ((R.filter fun r => decide (r.1 ≤ t)).map (·.2)).sum
def at_ (R : List (Int × Int)) (t : Int) : Int := ((R.filter fun r => r.1 == t).map (·.2)).sum
def whole (R : List (Int × Int)) : Int := (R.map (·.2)).sum
theorem arr_step (R : List (Int × Int)) (t : Int) : arr R t = arr R (t - 1) + at_ R t := by
  induction R with
  | nil => simp [arr, at_]
  | cons r R ih =>
    unfold arr at_ at ih ⊢
    simp only [List.filter_cons]
    by_cases h1 : r.1 = t
    · have a : decide (r.1 ≤ t) = true := by simp; omega
      have b : decide (r.1 ≤ t - 1) = false := by simp; omega
      have c : (r.1 == t) = true := by simp [h1]
      rw [a, b, c]
      simp only [if_true, Bool.false_eq_true, if_false, List.map_cons, List.sum_cons]
      omega
    · have c : (r.1 == t) = false := by simp [h1]
      by_cases h2 : r.1 ≤ t
      · have a : decide (r.1 ≤ t) = true := by simp; omega
        have b : decide (r.1 ≤ t - 1) = true := by simp; omega
        rw [a, b, c]
        simp only [if_true, Bool.false_eq_true, if_false, List.map_cons, List.sum_cons]
        omega
      · have a : decide (r.1 ≤ t) = false := by simp; omega
        have b : decide (r.1 ≤ t - 1) = false := by simp; omega
        rw [a, b, c]
        simp only [Bool.false_eq_true, if_false]
        omega
section
variable {R : List (Int × Int)} {b p : Int} {poll : Bool}
theorem sum_nn : ∀ {l : List (Int × Int)}, (∀ r ∈ l, 1 ≤ r.2) → 0 ≤ (l.map (·.2)).sum
  | [], _ => by simp
  | r :: l, h => by
    have := sum_nn (l := l) fun r hr => h r (List.mem_cons_of_mem _ hr)
    have := h r List.mem_cons_self
    simp only [List.map_cons, List.sum_cons]
    omega
theorem sum_le : ∀ {l : List (Int × Int)}, (∀ r ∈ l, r.2 ≤ 20) → (l.map (·.2)).sum ≤ 20 * l.length
  | [], _ => by simp
  | r :: l, h => by
    have := sum_le (l := l) fun r hr => h r (List.mem_cons_of_mem _ hr)
    have := h r List.mem_cons_self
    simp only [List.map_cons, List.sum_cons, List.length_cons]
    omega
theorem RqOk.pos (h : RqOk R) : ∀ r ∈ R, 1 ≤ r.2 := fun r hr => (h.2.1 r hr).2.1
theorem arr_neg (h : RqOk R) : arr R (-1) = 0 := by
  have : (R.filter fun r => decide (r.1 ≤ -1)) = [] := List.filter_eq_nil_iff.mpr fun r hr => by
    have := (h.2.1 r hr).1.1
    simp
    omega
  unfold arr
  rw [this]
  rfl
theorem arr_mono (h : RqOk R) (t : Int) : arr R (t - 1) ≤ arr R t := by
  rw [arr_step R t]
  have : 0 ≤ at_ R t := sum_nn fun r hr => h.pos r ((List.mem_filter.mp hr).1)
  omega
theorem arr_whole_le : ∀ {l : List (Int × Int)} {t : Int}, (∀ r ∈ l, 1 ≤ r.2) → arr l t ≤ whole l
  | [], _, _ => by simp [arr, whole]
  | r :: l, t, h => by
    have ih := arr_whole_le (l := l) (t := t) fun r hr => h r (List.mem_cons_of_mem _ hr)
    have := h r List.mem_cons_self
    unfold arr whole at ih ⊢
    simp only [List.filter_cons, List.map_cons, List.sum_cons]
    split
    · simp only [List.map_cons, List.sum_cons]; omega
    · omega
theorem arr_all (h : RqOk R) {t : Int} (ht : 100 ≤ t) : arr R t = whole R := by
  unfold arr whole
  rw [List.filter_eq_self.mpr]
  intro r hr
  have := (h.2.1 r hr).1.2
  simp
  omega
theorem whole_le (h : RqOk R) : whole R ≤ 240 := by
  have := sum_le (l := R) fun r hr => (h.2.1 r hr).2.2
  have := h.1
  unfold whole
  omega
theorem whole_nn (h : RqOk R) : 0 ≤ whole R := sum_nn h.pos

/-- left and found at the beginning of a unit -/
def left2 (b p : Int) (R : List (Int × Int)) (poll : Bool) (t : Nat) (s : Int × List Int) : Int :=
  if arr R t - s.2.length = 0 ∧ poll = true then 0 else if (t : Int).fmod p = 0 then b else s.1
def nxt (b p : Int) (R : List (Int × Int)) (poll : Bool) (t : Nat) (s : Int × List Int) : Int × List Int :=
  if 0 < arr R t - s.2.length ∧ 0 < left2 b p R poll t s then (left2 b p R poll t s - 1, s.2 ++ [(t : Int)]) else (left2 b p R poll t s, s.2)
def sim (b p : Int) (R : List (Int × Int)) (poll : Bool) : Nat → Int × List Int
  | 0 => (0, [])
  | t + 1 => nxt b p R poll t (sim b p R poll t)
theorem sim_le (h : RqOk R) : ∀ t : Nat, ((sim b p R poll t).2.length : Int) ≤ arr R ((t : Int) - 1)
  | 0 => by
    show ((0 : Nat) : Int) ≤ arr R (0 - 1)
    rw [show (0 : Int) - 1 = -1 by rfl, arr_neg h]
    omega
  | t + 1 => by
    have ih := sim_le h t
    have m := arr_mono h t
    rw [show ((t + 1 : Nat) : Int) - 1 = t by omega]
    unfold sim nxt
    split
    · rename_i c
      simp only [List.length_append, List.length_cons, List.length_nil]
      omega
    · dsimp only
      omega
theorem sim_whole (h : RqOk R) (t : Nat) : ((sim b p R poll t).2.length : Int) ≤ whole R := Int.le_trans (sim_le h t) (arr_whole_le h.pos)
theorem sim_mono (t : Nat) : ∀ j : Nat, (sim b p R poll t).2.length ≤ (sim b p R poll (t + j)).2.length
  | 0 => Nat.le_refl _
  | j + 1 => by
    refine Nat.le_trans (sim_mono t j) ?_
    show _ ≤ (nxt b p R poll (t + j) (sim b p R poll (t + j))).2.length
    unfold nxt
    split
    · simp
    · exact Nat.le_refl _
theorem sim_stay (h : RqOk R) {t : Nat} (hw : ((sim b p R poll t).2.length : Int) = whole R) : ∀ j : Nat, (sim b p R poll (t + j)).2 = (sim b p R poll t).2
  | 0 => rfl
  | j + 1 => by
    have ih := sim_stay h hw j
    show (nxt b p R poll (t + j) (sim b p R poll (t + j))).2 = _
    unfold nxt
    split
    · rename_i c
      have := arr_whole_le (t := ((t + j : Nat) : Int)) h.pos
      rw [ih] at c
      omega
    · exact ih
theorem sim_serve (h : RqOk R) (hs : SvOk b p) (j : Nat) : ((sim b p R poll (p.toNat * (100 + j))).2.length : Int) = whole R ∨ (j : Int) ≤ (sim b p R poll (p.toNat * (100 + j))).2.length := by
  obtain ⟨h1, h2, h3⟩ := hs
  have hp : 1 ≤ p.toNat := by omega
  induction j with
  | zero => exact .inr (by omega)
  | succ j ih =>
    have en : p.toNat * (100 + (j + 1)) = p.toNat * (100 + j) + 1 + (p.toNat - 1) := by rw [show 100 + (j + 1) = 100 + j + 1 by omega, Nat.mul_succ]; omega
    have big : 100 ≤ p.toNat * (100 + j) := Nat.le_trans (by omega) (Nat.le_mul_of_pos_left _ hp)
    rw [en]
    by_cases hw : ((sim b p R poll (p.toNat * (100 + j))).2.length : Int) = whole R
    · left
      rw [Nat.add_assoc, sim_stay h hw]
      exact hw
    · have ih := ih.resolve_left hw
      have hl := sim_whole (b := b) (p := p) (poll := poll) h (p.toNat * (100 + j))
      right
      refine Int.le_trans ?_ (Int.ofNat_le.mpr (sim_mono (p.toNat * (100 + j) + 1) (p.toNat - 1)))
      have st : sim b p R poll (p.toNat * (100 + j) + 1) = nxt b p R poll (p.toNat * (100 + j)) (sim b p R poll (p.toNat * (100 + j))) := rfl
      have aw : arr R ((p.toNat * (100 + j) : Nat) : Int) = whole R := arr_all h (by omega)
      have l2 : left2 b p R poll (p.toNat * (100 + j)) (sim b p R poll (p.toNat * (100 + j))) = b := by
        unfold left2
        rw [if_neg (by rw [aw]; omega), if_pos]
        rw [Int.natCast_mul, Int.toNat_of_nonneg (by omega)]
        exact Int.mul_fmod_right _ _
      rw [st]
      unfold nxt
      rw [l2, aw, if_pos ⟨by omega, by omega⟩]
      simp only [List.length_append, List.length_cons, List.length_nil]
      omega
def fin (b p : Int) (R : List (Int × Int)) (poll : Bool) : List Int := (sim b p R poll 6800).2
theorem sim_end (h : RqOk R) (hs : SvOk b p) : ((fin b p R poll).length : Int) = whole R := by
  have := sim_serve (poll := poll) h hs 240
  have hw := whole_le h
  have le := sim_whole (b := b) (p := p) (poll := poll) h (p.toNat * (100 + 240))
  have e : ((sim b p R poll (p.toNat * (100 + 240))).2.length : Int) = whole R := by
    rcases this with q | q
    · exact q
    · omega
  have pl : p.toNat * (100 + 240) ≤ 6800 := by
    have := hs.2.2
    have : p.toNat ≤ 20 := by omega
    exact Nat.le_trans (Nat.mul_le_mul_right _ this) (by decide)
  unfold fin
  rw [show 6800 = p.toNat * (100 + 240) + (6800 - p.toNat * (100 + 240)) by omega, sim_stay h e]
  exact e
theorem fin_of (h : RqOk R) (hs : SvOk b p) {t : Nat} (hw : ((sim b p R poll t).2.length : Int) = whole R) : (sim b p R poll t).2 = fin b p R poll := by
  have e := sim_end (poll := poll) h hs
  rcases Nat.le_total t 6800 with q | q
  · unfold fin
    rw [show 6800 = t + (6800 - t) by omega, sim_stay h hw]
  · rw [show t = 6800 + (t - 6800) by omega]
    exact sim_stay h e _
end
end Mini

-- P5
set_option Elab.async false
set_option linter.all false
set_option maxRecDepth 100000
set_option maxHeartbeats 4000000
/-! servers: the walks. -/
namespace Mini
open PySem
local macro_rules
  | `(tactic| simp! only) => `(tactic| simp only [ev, lstOf, tupD, mathf, true_implies, imp_self, implies_true, nc0, nc1, nc2, nc3, nc4, nc5, nc6, nc7, nc8, nc9, nc10, nc11, nc12, Int.reduceBEq, Int.reduceLT, Int.reduceLE, Int.reduceEq, Int.reduceAdd, Int.reduceSub, Int.reduceMul, Int.reduceNeg, Int.reduceToNat, oks_ite, oks_none, if_false_right, if_false_left, filt_f, filt_t, List.length_map, List.length_range, Bool.not_eq_false, beq_self_eq_true, Bool.true_eq_false, asInt, asOwn, evA, evI, evT, oks_some, oks_bind, oks_map, oks_guard, oks_guard', Mini.R.data, Mini.R.w, Mini.W.data, getz, gets, Option.map_some, Option.bind_some, Option.isNone_none, Option.isNone_some, binop, c_lt, c_le, c_gt, c_ge, c_eq, c_ne, c_is, c_is_i, c_is_b, c_is_s, c_is_l, c_is_t, c_isn, c_isn_i, c_isn_b, c_isn_s, c_isn_l, c_isn_t, c_eq_b, c_ne_b, c_eq_n, c_ne_n, c_eq_s, c_ne_s, c_eq_is, c_ne_is, c_eq_ns, c_ne_ns, c_eq_ni, c_ne_ni, c_eq_in, c_ne_in, c_eq_sn, c_ne_sn, c_eq_si, c_ne_si, truth, Mini.index, Mini.slice, Mini.part, Mini.builtin, Mini.items, isTy, callE, Mini.ws, datas, owned, Mini.back, keptOwn, frzs, frz, giveW, hid, wipe, resto, List.foldl_cons, List.foldl_nil, List.set_cons_zero, List.set_cons_succ, List.map_cons, List.map_nil, bindTg, bindFl, bindNs, nst, lastIs, Nat.reduceBEq, List.dropLast, List.zip_cons_cons, List.zip_nil_right, List.zip_nil_left, Nx_nx, Nx_rt, Nx_bk, Nx_ct, Lp_nx, Lp_ct, Lp_bk, Lp_rt, Rt_rt, Rt_nx, unhide_nil, unhide_nx, unhide_rt, unhide_one, fin0, fin1, fin2, fin3, fin4, fin5, fin6, fin7, fin8, rngL0, Option.getD_some, Option.getD_none, List.length_cons, List.length_nil, Nat.zero_add, Nat.reduceAdd, Nat.reduceEqDiff, Nat.succ_eq_add_one, ite_true, ite_false, if_true, if_false, reduceIte, reduceCtorEq, Bool.false_eq_true, Bool.not_true, Bool.not_false, List.nodup_cons, List.nodup_nil, List.not_mem_nil, List.mem_cons, not_false_eq_true, not_true_eq_false, and_true, true_and, and_self, or_self, or_false, false_or, setAll, Mini.start, repN, rep0, List.append_eq, List.nil_append, List.cons_append, Nat.reduceSub, Nat.reduceMul, Int.reduceNeg, List.mapM_cons, List.mapM_nil, Option.pure_def, Option.bind_eq_bind, List.any_nil, List.any_cons, List.isEmpty_cons, List.isEmpty_nil, Bool.and_true, Bool.true_and, Bool.and_false, Bool.false_and, Bool.or_false, Bool.or_true, Bool.false_or, Bool.true_or, beq_iff_eq, decide_eq_true_eq, Cf.quiet, frzAll, Option.map_none, Option.bind_none, List.append_nil, Nat.lt_irrefl, ite_self, Bool.not_eq_true', decide_true, decide_false, List.contains_cons, List.contains_nil, Mini.stored, Nat.not_lt_zero, Nat.reduceLT, Nat.reduceLeDiff])
  | `(tactic| simp! only [$ls,*]) => `(tactic| simp only [ev, lstOf, tupD, mathf, true_implies, imp_self, implies_true, nc0, nc1, nc2, nc3, nc4, nc5, nc6, nc7, nc8, nc9, nc10, nc11, nc12, Int.reduceBEq, Int.reduceLT, Int.reduceLE, Int.reduceEq, Int.reduceAdd, Int.reduceSub, Int.reduceMul, Int.reduceNeg, Int.reduceToNat, oks_ite, oks_none, if_false_right, if_false_left, filt_f, filt_t, List.length_map, List.length_range, Bool.not_eq_false, beq_self_eq_true, Bool.true_eq_false, asInt, asOwn, evA, evI, evT, oks_some, oks_bind, oks_map, oks_guard, oks_guard', Mini.R.data, Mini.R.w, Mini.W.data, getz, gets, Option.map_some, Option.bind_some, Option.isNone_none, Option.isNone_some, binop, c_lt, c_le, c_gt, c_ge, c_eq, c_ne, c_is, c_is_i, c_is_b, c_is_s, c_is_l, c_is_t, c_isn, c_isn_i, c_isn_b, c_isn_s, c_isn_l, c_isn_t, c_eq_b, c_ne_b, c_eq_n, c_ne_n, c_eq_s, c_ne_s, c_eq_is, c_ne_is, c_eq_ns, c_ne_ns, c_eq_ni, c_ne_ni, c_eq_in, c_ne_in, c_eq_sn, c_ne_sn, c_eq_si, c_ne_si, truth, Mini.index, Mini.slice, Mini.part, Mini.builtin, Mini.items, isTy, callE, Mini.ws, datas, owned, Mini.back, keptOwn, frzs, frz, giveW, hid, wipe, resto, List.foldl_cons, List.foldl_nil, List.set_cons_zero, List.set_cons_succ, List.map_cons, List.map_nil, bindTg, bindFl, bindNs, nst, lastIs, Nat.reduceBEq, List.dropLast, List.zip_cons_cons, List.zip_nil_right, List.zip_nil_left, Nx_nx, Nx_rt, Nx_bk, Nx_ct, Lp_nx, Lp_ct, Lp_bk, Lp_rt, Rt_rt, Rt_nx, unhide_nil, unhide_nx, unhide_rt, unhide_one, fin0, fin1, fin2, fin3, fin4, fin5, fin6, fin7, fin8, rngL0, Option.getD_some, Option.getD_none, List.length_cons, List.length_nil, Nat.zero_add, Nat.reduceAdd, Nat.reduceEqDiff, Nat.succ_eq_add_one, ite_true, ite_false, if_true, if_false, reduceIte, reduceCtorEq, Bool.false_eq_true, Bool.not_true, Bool.not_false, List.nodup_cons, List.nodup_nil, List.not_mem_nil, List.mem_cons, not_false_eq_true, not_true_eq_false, and_true, true_and, and_self, or_self, or_false, false_or, setAll, Mini.start, repN, rep0, List.append_eq, List.nil_append, List.cons_append, Nat.reduceSub, Nat.reduceMul, Int.reduceNeg, List.mapM_cons, List.mapM_nil, Option.pure_def, Option.bind_eq_bind, List.any_nil, List.any_cons, List.isEmpty_cons, List.isEmpty_nil, Bool.and_true, Bool.true_and, Bool.and_false, Bool.false_and, Bool.or_false, Bool.or_true, Bool.false_or, Bool.true_or, beq_iff_eq, decide_eq_true_eq, Cf.quiet, frzAll, Option.map_none, Option.bind_none, List.append_nil, Nat.lt_irrefl, ite_self, Bool.not_eq_true', decide_true, decide_false, List.contains_cons, List.contains_nil, Mini.stored, Nat.not_lt_zero, Nat.reduceLT, Nat.reduceLeDiff, $ls,*])
section
variable {ds : List D} {q : Bool} {k f i : Nat} {R : List (Int × Int)} {b p : Int} {poll : Bool} {ns : List Int} {st : List PyData}
theorem need_server_ok (hd : ds[f]? = some (D_need_server i)) (hi : ds[i]? = some dIsIn) (h : SvOk b p) : Ok (callD ds q (k + 2) f [.d (sv b p)]) fun r => r = (.d .none, [.d (sv b p)]) := by
  obtain ⟨h1, h2, h3⟩ := h
  refine ok_callD hd rfl ?_
  simp only [D_need_server, B_need_server, sv]
  simp! only
  refine sq fun K hK => ok_ite ?_
  simp! only [at2]
  refine (is_in_yes hi (by omega) h3).imp fun r hr => ?_
  subst hr
  simp! only
  refine ok_pass (hK _ (sq fun K1 hK1 => ok_ite ?_))
  simp! only [at2]
  refine (is_in_yes hi h1 h2).imp fun r hr => ?_
  subst hr
  simp! only
  exact ok_pass (hK1 _ (ok_pass rfl))
theorem need_requests_ok (hd : ds[f]? = some (D_need_requests i)) (hi : ds[i]? = some dIsIn) (h : RqOk R) : Ok (callD ds q (k + 2) f [.d (.tuple (R.map rq))]) fun r => r = (.d .none, [.d (.tuple (R.map rq))]) := by
  obtain ⟨h1, h2, h3⟩ := h
  refine ok_callD hd rfl ?_
  simp only [D_need_requests, B_need_requests]
  simp! only
  refine sq fun K hK => ok_ite ?_
  simp! only
  rw [if_neg (by omega)]
  refine ok_pass (hK _ (sq fun K1 hK1 => ok_for ?_))
  simp! only
  refine ok_forI (fun n e => ∃ o1 o2, e = [some (.d (.tuple (R.map rq))), o1, o2]) ⟨_, _, rfl⟩ (fun n x e hx hI => ?_) fun e hI => ?_
  · obtain ⟨o1, o2, rfl⟩ := hI
    obtain ⟨r, hr, rfl⟩ := enumL_at hx
    have hn := (List.getElem?_eq_some_iff.mp hr).1
    obtain ⟨⟨a1, a2⟩, ⟨u1, u2⟩⟩ := h2 r (List.mem_of_getElem? hr)
    unfold rq
    simp! only
    refine sq fun K2 hK2 => ok_ite ?_
    simp! only [at2]
    refine (is_in_yes hi a1 a2).imp fun r hr => ?_
    subst hr
    simp! only
    refine ok_pass (hK2 _ (sq fun K3 hK3 => ok_ite ?_))
    simp! only [at2]
    refine (is_in_yes hi u1 u2).imp fun r hr => ?_
    subst hr
    simp! only
    have fin : Ok (run ⟨q, callD ds q (k + 1), callD ds true (k + 1)⟩ S.pass [some (.d (.tuple (R.map rq))), some (.d (.int n)), some (.d (rq r))]) (Nx (Lp (fun e => ∃ o1 o2, e = [some (.d (.tuple (R.map rq))), o1, o2]) fun o => Nx (Rt 1 fun r => r = (W.d PyData.none, [W.d (PyData.tuple (List.map rq R))])) K1 o) K3) := ok_pass (hK3 _ (ok_pass ⟨_, _, rfl⟩))
    split
    · rename_i hn0
      obtain ⟨r', hr'⟩ : ∃ r', R[n - 1]? = some r' := ⟨_, List.getElem?_eq_getElem (by omega)⟩
      have hle : r'.1 ≤ r.1 := by
        have := List.pairwise_iff_getElem.mp h3 (n - 1) n (by omega) hn (by omega)
        rw [← (List.getElem?_eq_some_iff.mp hr).2, ← (List.getElem?_eq_some_iff.mp hr').2]
        exact this
      simp! only [at2]
      refine ok_at (by omega) (by omega) fun x hx => ?_
      rw [show ((n : Int) - 1).toNat = n - 1 by omega, hr'] at hx
      cases hx
      simp! only [at2]
      rw [if_neg (by omega)]
      exact fin
    · exact fin
  · obtain ⟨o1, o2, rfl⟩ := hI
    simp! only
    exact hK1 _ (ok_pass rfl)
theorem idx_rq {r : Int × Int} : index (rq r) (.int 0) = some (.int r.1) ∧ index (rq r) (.int 1) = some (.int r.2) := ⟨rfl, rfl⟩
theorem served_units_ok (hd : ds[f]? = some D_served_units) (hs : SvOk b p) (h : RqOk R) : Ok (callD ds false (k + 1) f [.d (sv b p), .d (.tuple (R.map rq)), .d (.bool poll)]) fun r => r = (.own ((fin b p R poll).map .int), [.d (sv b p), .d (.tuple (R.map rq)), .d (.bool poll)]) := by
  obtain ⟨h1, h2, h3⟩ := h
  refine ok_callD hd rfl ?_
  simp only [D_served_units, B_served_units]
  simp! only
  refine sq fun K hK => ok_unp ?_
  unfold sv
  simp! only
  refine hK _ (sq fun K1 hK1 => ok_par ?_)
  simp! only
  refine hK1 _ (sq fun K2 hK2 => ok_asg ?_)
  simp! only
  refine ok_gen (fun _ => true) (fun r => .int r.2) (fun r hr => ⟨rfl, ?_⟩) ?_
  · unfold rq
    simp! only [at2]
  have hq : RqOk R := ⟨h1, h2, h3⟩
  have bnd : ∀ r ∈ R, -1000000000 ≤ r.2 ∧ r.2 ≤ 1000000000 := fun r hr => by have := (h2 r hr).2; omega
  simp! only [gen_sum bnd (by omega)]
  rw [show (R.map fun r => r.2).sum = whole R from rfl]
  refine hK2 _ ?_
  refine sqm (fun e => ∃ o6 o7 o9 o10, e = [some (.d (.tuple [.int b, .int p])), some (.d (.tuple (R.map rq))), some (.d (.bool poll)), some (.d (.int (whole R))), some (.d (.int b)), some (.d (.int p)), o6, o7, some (.own ((fin b p R poll).map .int)), o9, o10]) (ok_whl ?_) fun e hI => ?_
  · refine ok_whileL (fun m e => ∃ (t : Nat) (o10 : Option W), e = [some (.d (.tuple [.int b, .int p])), some (.d (.tuple (R.map rq))), some (.d (.bool poll)), some (.d (.int (whole R))), some (.d (.int b)), some (.d (.int p)), some (.d (.int (sim b p R poll t).1)), some (.d (.int (arr R ((t : Int) - 1) - (sim b p R poll t).2.length))), some (.own ((sim b p R poll t).2.map .int)), some (.d (.int t)), o10] ∧ m = 6800 - t ∧ t ≤ 6800) (fun m e hI => ?_) (m := 6800) ⟨0, _, by
      show _ = [_, _, _, _, _, _, some (W.d (.int 0)), some (W.d (.int (arr R (0 - 1) - 0))), some (W.own []), some (W.d (.int 0)), _]
      rw [show (0 : Int) - 1 = -1 by rfl, arr_neg hq]; rfl, rfl, by omega⟩ (by decide)
    obtain ⟨t, o10, rfl, rfl, ht⟩ := hI
    have le := sim_whole (b := b) (p := p) (poll := poll) hq t
    simp! only
    split
    · rename_i hlt
      have ht' : t < 6800 := by
        rcases Nat.lt_or_ge t 6800 with z | z
        · exact z
        · have : t = 6800 := by omega
          subst this
          have := sim_end (b := b) (p := p) (poll := poll) hq ⟨hs.1, hs.2.1, hs.2.2⟩
          unfold fin at this
          omega
      refine sq fun K3 hK3 => ok_asg ?_
      simp! only
      refine ok_gen (fun r => r.1 == (t : Int)) (fun r => .int r.2) (fun r hr => ⟨rfl, ?_⟩) ?_
      · unfold rq
        simp! only [at2]
      have bnd2 : ∀ r ∈ R.filter (fun r => r.1 == (t : Int)), -1000000000 ≤ r.2 ∧ r.2 ≤ 1000000000 := fun r hr => bnd r (List.mem_filter.mp hr).1
      simp! only [gen_sum bnd2 (Nat.le_trans (List.length_filter_le _ _) (by omega))]
      rw [show ((R.filter (fun r => r.1 == (t : Int))).map fun r => r.2).sum = at_ R t from rfl, show arr R ((t : Int) - 1) - ((sim b p R poll t).2.length : Int) + at_ R t = arr R t - (sim b p R poll t).2.length by rw [arr_step R t]; omega]
      refine hK3 _ ?_
      have p0 : p ≠ 0 := by have := hs.1; have := hs.2.1; omega
      refine sqm (fun e => e = [some (.d (.tuple [.int b, .int p])), some (.d (.tuple (R.map rq))), some (.d (.bool poll)), some (.d (.int (whole R))), some (.d (.int b)), some (.d (.int p)), some (.d (.int (if (t : Int).fmod p = 0 then b else (sim b p R poll t).1))), some (.d (.int (arr R (t : Int) - (sim b p R poll t).2.length))), some (.own ((sim b p R poll t).2.map .int)), some (.d (.int t)), o10]) (ok_ite ?_) fun e hI => ?_
      · simp! only
        refine ⟨p0, ?_⟩
        split
        · rename_i z
          refine ok_seq (ok_asg ?_)
          simp! only
          exact ok_pass rfl
        · rename_i z
          exact ok_pass rfl
      subst hI
      refine sqm (fun e => e = [some (.d (.tuple [.int b, .int p])), some (.d (.tuple (R.map rq))), some (.d (.bool poll)), some (.d (.int (whole R))), some (.d (.int b)), some (.d (.int p)), some (.d (.int (left2 b p R poll t (sim b p R poll t)))), some (.d (.int (arr R (t : Int) - (sim b p R poll t).2.length))), some (.own ((sim b p R poll t).2.map .int)), some (.d (.int t)), o10]) (ok_ite ?_) fun e hI => ?_
      · simp! only
        unfold left2
        split
        · rename_i z
          cases poll with
          | true =>
            simp! only
            refine ok_seq (ok_asg ?_)
            simp! only
            first
              | exact ok_pass rfl
              | exact ok_pass (by show _ = _; simp [z])
          | false =>
            simp! only
            first
              | exact ok_pass rfl
              | exact ok_pass (by show _ = _; simp [z])
        · rename_i z
          first
            | exact ok_pass rfl
            | exact ok_pass (by show _ = _; simp [z])
      subst hI
      refine sqm (fun e => ∃ o, e = [some (.d (.tuple [.int b, .int p])), some (.d (.tuple (R.map rq))), some (.d (.bool poll)), some (.d (.int (whole R))), some (.d (.int b)), some (.d (.int p)), some (.d (.int (sim b p R poll (t + 1)).1)), some (.d (.int (arr R (t : Int) - (sim b p R poll (t + 1)).2.length))), some (.own ((sim b p R poll (t + 1)).2.map .int)), some (.d (.int t)), o]) (ok_ite ?_) fun e hI => ?_
      · have st : sim b p R poll (t + 1) = nxt b p R poll t (sim b p R poll t) := rfl
        have szf : szOk ((sim b p R poll t).2.length + 1) = true := szOk_of (by have := whole_le hq; omega)
        rw [st]
        by_cases z1 : 0 < arr R t - (sim b p R poll t).2.length
        · by_cases z2 : 0 < left2 b p R poll t (sim b p R poll t)
          · rw [show nxt b p R poll t (sim b p R poll t) = (left2 b p R poll t (sim b p R poll t) - 1, (sim b p R poll t).2 ++ [(t : Int)]) from if_pos ⟨z1, z2⟩]
            simp! only [z1, z2]
            refine ok_seq (ok_app ?_)
            simp! only [szf]
            refine ok_seq (ok_par ?_)
            simp! only
            refine ok_pass ⟨o10, ?_⟩
            rw [List.map_append, show arr R t - (((sim b p R poll t).2 ++ [(t : Int)]).length : Int) = arr R t - (sim b p R poll t).2.length - 1 by simp; omega]
            rfl
          · rw [show nxt b p R poll t (sim b p R poll t) = (left2 b p R poll t (sim b p R poll t), (sim b p R poll t).2) from if_neg fun x => z2 x.2]
            simp! only [z1, z2]
            exact ok_pass ⟨o10, rfl⟩
        · rw [show nxt b p R poll t (sim b p R poll t) = (left2 b p R poll t (sim b p R poll t), (sim b p R poll t).2) from if_neg fun x => z1 x.1]
          simp! only [z1]
          exact ok_pass ⟨o10, rfl⟩
      obtain ⟨o, rfl⟩ := hI
      refine ok_seq (ok_asg ?_)
      simp! only
      refine ok_pass ?_
      simp! only
      refine ⟨6800 - (t + 1), by omega, t + 1, o, ?_, rfl, by omega⟩
      rw [show (((t + 1 : Nat) : Int) - 1) = t by omega]
      rfl
    · rename_i hlt
      have : ((sim b p R poll t).2.length : Int) = whole R := by omega
      rw [fin_of hq hs this]
      exact ⟨_, _, _, _, rfl⟩
  obtain ⟨o6, o7, o9, o10, rfl⟩ := hI
  refine ok_seq (ok_ret ?_)
  simp! only
  rfl
theorem law_served_ok (hd : ds[f]? = some D__law_served) (hs : SvOk b p) (h : RqOk R) : Ok (callD ds false (k + 1) f [.d (sv b p), .d (.tuple (R.map rq)), .d (.bool poll)]) fun r => r = (.d (.tuple ((fin b p R poll).map .int)), [.d (sv b p), .d (.tuple (R.map rq)), .d (.bool poll)]) := by
  have hq := h
  obtain ⟨h1, h2, h3⟩ := h
  refine ok_callD hd rfl ?_
  simp only [D__law_served, B__law_served]
  simp! only
  refine sq fun K hK => ok_unp ?_
  unfold sv
  simp! only
  refine hK _ (sq fun K1 hK1 => ok_par ?_)
  simp! only
  refine hK1 _ ?_
  refine sqm (fun e => ∃ o3 o6 o7 o9 o10, e = [some (.d (.tuple [.int b, .int p])), some (.d (.tuple (R.map rq))), some (.d (.bool poll)), o3, some (.d (.int b)), some (.d (.int p)), o6, o7, some (.own ((fin b p R poll).map .int)), o9, o10]) (ok_for ?_) fun e hI => ?_
  · simp! only
    refine ⟨rfl, ?_⟩
    refine ok_forI (fun n e => ∃ o3 o9 o10, e = [some (.d (.tuple [.int b, .int p])), some (.d (.tuple (R.map rq))), some (.d (.bool poll)), o3, some (.d (.int b)), some (.d (.int p)), some (.d (.int (sim b p R poll n).1)), some (.d (.int ((sim b p R poll n).2.length : Nat))), some (.own ((sim b p R poll n).2.map .int)), o9, o10]) ⟨_, _, _, rfl⟩ (fun n x e hx hI => ?_) fun e hI => ?_
    · obtain ⟨rfl, hlt⟩ := rngL_get hx
      rw [Int.zero_add]
      obtain ⟨o3, o9, o10, rfl⟩ := hI
      simp! only
      refine sq fun K3 hK3 => ok_asg ?_
      simp! only
      have le := sim_whole (b := b) (p := p) (poll := poll) hq n
      refine ⟨szOk_of (by omega), ?_⟩
      refine ok_lc (fun r => decide (r.1 ≤ (n : Int))) (fun r => .int r.2) (fun r hr => ?_) ?_
      · unfold rq
        simp! only [at2]
      simp! only [intsOf_map']
      rw [show ((R.filter (fun r => decide (r.1 ≤ (n : Int)))).map fun r => r.2).sum = arr R n from rfl]
      refine hK3 _ (sq fun K4 hK4 => ok_ite ?_)
      simp! only
      refine ⟨szOk_of (by omega), ?_⟩
      refine ok_lc (fun _ => true) (fun r => .int r.2) (fun r hr => ?_) ?_
      · unfold rq
        simp! only [at2]
      simp! only [intsOf_map']
      rw [show (R.map fun r => r.2).sum = whole R from rfl]
      split
      · rename_i hw
        refine ok_seq (ok_brk ?_)
        simp! only
        rw [fin_of hq hs hw]
        exact ⟨_, _, _, _, _, rfl⟩
      · rename_i hw
        refine ok_pass (hK4 _ ?_)
        have p0 : p ≠ 0 := by have := hs.1; have := hs.2.1; omega
        refine sqm (fun e => e = [some (.d (.tuple [.int b, .int p])), some (.d (.tuple (R.map rq))), some (.d (.bool poll)), some (.d (.int (n : Nat))), some (.d (.int b)), some (.d (.int p)), some (.d (.int (if (n : Int).fmod p = 0 then b else (sim b p R poll n).1))), some (.d (.int ((sim b p R poll n).2.length : Nat))), some (.own ((sim b p R poll n).2.map .int)), some (.d (.int (arr R (n : Int) - (sim b p R poll n).2.length))), o10]) (ok_asg ?_) fun e hI => ?_
        · simp! only
          refine ⟨p0, ?_⟩
          split <;> rfl
        subst hI
        refine sqm (fun e => e = [some (.d (.tuple [.int b, .int p])), some (.d (.tuple (R.map rq))), some (.d (.bool poll)), some (.d (.int (n : Nat))), some (.d (.int b)), some (.d (.int p)), some (.d (.int (left2 b p R poll n (sim b p R poll n)))), some (.d (.int ((sim b p R poll n).2.length : Nat))), some (.own ((sim b p R poll n).2.map .int)), some (.d (.int (arr R (n : Int) - (sim b p R poll n).2.length))), o10]) (ok_asg ?_) fun e hI => ?_
        · simp! only
          unfold left2
          cases poll
          · simp! only
            split <;> simp_all
          · simp! only
            split <;> simp_all
        subst hI
        refine ok_seq (ok_ite ?_)
        have st : sim b p R poll (n + 1) = nxt b p R poll n (sim b p R poll n) := rfl
        have szf : szOk ((sim b p R poll n).2.length + 1) = true := szOk_of (by have := whole_le hq; omega)
        rw [st]
        by_cases z1 : 0 < arr R n - (sim b p R poll n).2.length
        · by_cases z2 : 0 < left2 b p R poll n (sim b p R poll n)
          · rw [show nxt b p R poll n (sim b p R poll n) = (left2 b p R poll n (sim b p R poll n) - 1, (sim b p R poll n).2 ++ [(n : Int)]) from if_pos ⟨z1, z2⟩]
            simp! only [z1, z2]
            refine ok_seq (ok_app ?_)
            simp! only [szf]
            refine ok_seq (ok_par ?_)
            simp! only
            refine ok_pass (ok_pass ?_)
            show ∃ _, _
            rw [List.map_append, show ((((sim b p R poll n).2 ++ [(n : Int)]).length : Nat) : Int) = (sim b p R poll n).2.length + 1 by simp]
            exact ⟨_, _, _, rfl⟩
          · rw [show nxt b p R poll n (sim b p R poll n) = (left2 b p R poll n (sim b p R poll n), (sim b p R poll n).2) from if_neg fun x => z2 x.2]
            simp! only [z1, z2]
            exact ok_pass (ok_pass ⟨_, _, _, rfl⟩)
        · rw [show nxt b p R poll n (sim b p R poll n) = (left2 b p R poll n (sim b p R poll n), (sim b p R poll n).2) from if_neg fun x => z1 x.1]
          simp! only [z1]
          exact ok_pass (ok_pass ⟨_, _, _, rfl⟩)
    · obtain ⟨o3, o9, o10, rfl⟩ := hI
      rw [rngL_len]
      simp! only
      have e9 : (sim b p R poll 9000).2 = fin b p R poll := fin_of hq hs (by
        show ((sim b p R poll 9000).2.length : Int) = _
        rw [show 9000 = 6800 + 2200 from rfl, sim_stay hq (sim_end hq hs)]
        exact sim_end hq hs)
      rw [e9]
      exact ⟨_, _, _, _, _, rfl⟩
  obtain ⟨o3, o6, o7, o9, o10, rfl⟩ := hI
  refine ok_seq (ok_ret ?_)
  simp! only
  rfl
theorem deferrable_ok {i1 i2 i3 i4 : Nat} (hd : ds[f]? = some (D_deferrable_units i1 i2 i3)) (d1 : ds[i1]? = some (D_need_server i4)) (d2 : ds[i2]? = some (D_need_requests i4)) (d3 : ds[i3]? = some D_served_units) (d4 : ds[i4]? = some dIsIn) (hs : SvOk b p) (h : RqOk R) :
    Ok (callD ds false (k + 3) f [.d (sv b p), .d (.tuple (R.map rq))]) fun r => r = (.d (.tuple ((fin b p R false).map .int)), [.d (sv b p), .d (.tuple (R.map rq))]) := by
  refine ok_callD hd rfl ?_
  simp only [D_deferrable_units, B_deferrable_units]
  simp! only
  refine sq fun K hK => ok_ex ?_
  simp! only
  refine (need_server_ok d1 d4 hs).imp fun r hr => ?_
  subst hr
  simp! only
  refine hK _ (sq fun K1 hK1 => ok_ex ?_)
  simp! only
  refine (need_requests_ok d2 d4 h).imp fun r hr => ?_
  subst hr
  simp! only
  refine hK1 _ (ok_seq (ok_ret ?_))
  simp! only
  refine (served_units_ok d3 hs h).imp fun r hr => ?_
  subst hr
  simp! only
theorem polling_ok {i1 i2 i3 i4 : Nat} (hd : ds[f]? = some (D_polling_units i1 i2 i3)) (d1 : ds[i1]? = some (D_need_server i4)) (d2 : ds[i2]? = some (D_need_requests i4)) (d3 : ds[i3]? = some D_served_units) (d4 : ds[i4]? = some dIsIn) (hs : SvOk b p) (h : RqOk R) :
    Ok (callD ds false (k + 3) f [.d (sv b p), .d (.tuple (R.map rq))]) fun r => r = (.d (.tuple ((fin b p R true).map .int)), [.d (sv b p), .d (.tuple (R.map rq))]) := by
  refine ok_callD hd rfl ?_
  simp only [D_polling_units, B_polling_units]
  simp! only
  refine sq fun K hK => ok_ex ?_
  simp! only
  refine (need_server_ok d1 d4 hs).imp fun r hr => ?_
  subst hr
  simp! only
  refine hK _ (sq fun K1 hK1 => ok_ex ?_)
  simp! only
  refine (need_requests_ok d2 d4 h).imp fun r hr => ?_
  subst hr
  simp! only
  refine hK1 _ (ok_seq (ok_ret ?_))
  simp! only
  refine (served_units_ok d3 hs h).imp fun r hr => ?_
  subst hr
  simp! only
theorem law_server_ok (h1 : ds[1]? = some dTaken) (h2 : ds[2]? = some dPick) (hd : ds[f]? = some D__law_server) (hs : Row ns st) : Ok (callD ds q (k + 3) f [.own st]) fun r => ∃ b p st', r = (.d (sv b p), [.own st']) ∧ SvOk b p ∧ Row ns st' := by
  refine ok_callD hd rfl ?_
  simp only [D__law_server, B__law_server]
  simp! only
  refine sq fun K hK => ok_asg ?_
  simp! only
  refine (taken_ok h1 hs (by decide) (by decide)).imp fun r hr => ?_
  obtain ⟨x, st1, rfl, x0, x1, hs1⟩ := hr
  simp! only
  refine (pick_ok h1 h2 hs1 (.inl rfl) (by simp) (by simp)).imp fun r hr => ?_
  obtain ⟨y, st2, rfl, hy, hs2⟩ := hr
  obtain ⟨p, rfl, p0, p1⟩ : ∃ p : Int, y = .int p ∧ 1 ≤ p ∧ p ≤ 20 := by
    simp only [List.mem_cons, List.not_mem_nil, or_false] at hy
    rcases hy with rfl | rfl | rfl | rfl | rfl | rfl | rfl | rfl <;> exact ⟨_, rfl, by omega, by omega⟩
  simp! only
  refine hK _ (ok_seq (ok_ret ?_))
  simp! only
  refine ⟨by decide, ?_⟩
  refine (taken_ok h1 hs2 (by omega) (by omega)).imp fun r hr => ?_
  obtain ⟨x', st3, rfl, x0', x1', hs3⟩ := hr
  simp! only
  refine (pick_ok h1 h2 hs3 (.inl rfl) (by simp) (by simp)).imp fun r hr => ?_
  obtain ⟨y, st4, rfl, hy, hs4⟩ := hr
  obtain ⟨b, rfl, b0, b1⟩ : ∃ b : Int, y = .int b ∧ 1 ≤ b ∧ b ≤ p := by
    have e : (p + 1).fdiv 2 = (p + 1) / 2 := Int.fdiv_eq_ediv_of_nonneg _ (by decide)
    simp only [List.mem_cons, List.not_mem_nil, or_false] at hy
    rcases hy with rfl | rfl | rfl | rfl
    · exact ⟨_, rfl, by omega, by omega⟩
    · exact ⟨_, rfl, by omega, by omega⟩
    · exact ⟨_, rfl, by omega, by omega⟩
    · exact ⟨_, rfl, by omega, by omega⟩
  simp! only
  exact ⟨b, p, st4, rfl, ⟨b0, b1, p1⟩, hs4⟩
theorem law_requests_ok {m : Int} (h1 : ds[1]? = some dTaken) (h2 : ds[2]? = some dPick) (hd : ds[f]? = some D__law_requests) (hs : Row ns st) (hm : 0 ≤ m) (hm' : m ≤ 11) : Ok (callD ds q (k + 3) f [.own st, .d (.int m)]) fun r => ∃ R st', r = (.d (.tuple (R.map rq)), [.own st', .d (.int m)]) ∧ RqOk R ∧ Row ns st' := by
  refine ok_callD hd rfl ?_
  simp only [D__law_requests, B__law_requests]
  simp! only
  refine sq fun K hK => ok_par ?_
  simp! only
  refine (taken_ok h1 hs (by decide) (by decide)).imp fun r hr => ?_
  obtain ⟨a0, st1, rfl, x0, x1, hs1⟩ := hr
  simp! only
  refine hK _ ?_
  refine sqm (fun e => ∃ (R : List (Int × Int)) (st : List PyData) (o2 o4 : Option W), e = [some (.own st), some (.d (.int m)), o2, some (.own (R.map rq)), o4] ∧ RqOk R ∧ Row ns st) (ok_for ?_) fun e hI => ?_
  · simp! only
    refine (taken_ok h1 hs1 (by omega) (by omega)).imp fun r hr => ?_
    obtain ⟨w, st2, rfl, w0, w1, hs2⟩ := hr
    simp! only
    refine ⟨inR_of (by omega) (by omega), ?_⟩
    refine ok_forI (fun n e => ∃ (R : List (Int × Int)) (st : List PyData) (o2 : Option W) (a : Int), e = [some (.own st), some (.d (.int m)), o2, some (.own (R.map rq)), some (.d (.int a))] ∧ (0 ≤ a ∧ a ≤ 100) ∧ R.length = n ∧ (∀ r ∈ R, (0 ≤ r.1 ∧ r.1 ≤ a) ∧ (1 ≤ r.2 ∧ r.2 ≤ 20)) ∧ R.Pairwise (fun a b => a.1 ≤ b.1) ∧ Row ns st) ⟨[], _, _, _, rfl, by omega, rfl, by simp, .nil, hs2⟩ (fun n x e hx hI => ?_) fun e hI => ?_
    · obtain ⟨rfl, hlt⟩ := rngL_get hx
      obtain ⟨R, st3, o2, a, rfl, ha, hl, hb, hp, hs3⟩ := hI
      simp! only
      refine sq fun K3 hK3 => ok_app ?_
      simp! only
      refine (pick_ok h1 h2 hs3 (.inl rfl) (by simp) (by simp)).imp fun r hr => ?_
      obtain ⟨y, st4, rfl, hy, hs4⟩ := hr
      obtain ⟨u, rfl, u0, u1⟩ : ∃ u : Int, y = .int u ∧ 1 ≤ u ∧ u ≤ 20 := by
        simp only [List.mem_cons, List.not_mem_nil, or_false] at hy
        rcases hy with rfl | rfl | rfl <;> exact ⟨_, rfl, by omega, by omega⟩
      simp! only
      refine (taken_ok h1 hs4 (by omega) (by omega)).imp fun r hr => ?_
      obtain ⟨v, st5, rfl, v0, v1, hs5⟩ := hr
      simp! only
      refine ⟨szOk_of (by omega), hK3 _ (ok_seq (ok_asg ?_))⟩
      simp! only
      refine (pick_ok h1 h2 hs5 (.inl rfl) (by simp) (by simp)).imp fun r hr => ?_
      obtain ⟨y, st6, rfl, hy, hs6⟩ := hr
      obtain ⟨z, rfl, z0, z1⟩ : ∃ z : Int, y = .int z ∧ 0 ≤ z ∧ z ≤ 9 := by
        simp only [List.mem_cons, List.not_mem_nil, or_false] at hy
        rcases hy with rfl | rfl | rfl | rfl | rfl <;> exact ⟨_, rfl, by omega, by omega⟩
      simp! only
      refine ok_pass ⟨R ++ [(a, 1 + v)], _, _, _, by rw [List.map_append]; rfl, by split <;> omega, by simp [hl], fun r hr => ?_, ?_, hs6⟩
      · rcases List.mem_append.mp hr with hr | hr
        · have := hb r hr
          refine ⟨⟨this.1.1, ?_⟩, this.2⟩
          split <;> omega
        · rw [List.mem_singleton.mp hr]
          dsimp only
          refine ⟨⟨ha.1, ?_⟩, by omega, by omega⟩
          split <;> omega
      · rw [List.pairwise_append]
        refine ⟨hp, List.pairwise_singleton _ _, fun r hr r' hr' => ?_⟩
        rw [List.mem_singleton.mp hr']
        exact (hb r hr).1.2
    · obtain ⟨R, st3, o2, a, rfl, ha, hl, hb, hp, hs3⟩ := hI
      rw [rngL_len] at hl
      simp! only
      exact ⟨R, _, _, _, rfl, ⟨by omega, fun r hr => by have := hb r hr; omega, hp⟩, hs3⟩
  obtain ⟨R, st3, o2, o4, rfl, hR, hs3⟩ := hI
  refine ok_seq (ok_ret ?_)
  simp! only
  exact ⟨R, st3, rfl, hR, hs3⟩
end
end Mini

-- P6
set_option Elab.async false
set_option linter.all false
set_option maxRecDepth 100000
set_option maxHeartbeats 4000000
/-! servers: how many units in a window. -/
namespace Mini
open PySem
def Gc (b p x : Nat) : Nat := x / p * b + min (x % p) b
def bnd (b p w : Nat) : Nat := min w b + Gc b p (w - b)
section
variable {b p : Nat}
theorem G_zero (hp : 0 < p) : Gc b p 0 = 0 := by simp [Gc]
theorem mod_succ (hp : 0 < p) (x : Nat) : ((x + 1) % p = x % p + 1 ∧ (x + 1) / p = x / p ∧ x % p + 1 < p) ∨ ((x + 1) % p = 0 ∧ (x + 1) / p = x / p + 1 ∧ x % p + 1 = p) := by
  have h1 := Nat.div_add_mod x p
  have h2 := Nat.mod_lt x hp
  by_cases h : x % p + 1 < p
  · left
    have e : x + 1 = x % p + 1 + p * (x / p) := by omega
    refine ⟨?_, ?_, h⟩
    · rw [e, Nat.add_mul_mod_self_left, Nat.mod_eq_of_lt h]
    · rw [e, Nat.add_mul_div_left _ _ hp, Nat.div_eq_of_lt h, Nat.zero_add]
  · right
    have e : x + 1 = 0 + p * (x / p + 1) := by rw [Nat.mul_add, Nat.mul_one]; omega
    refine ⟨?_, ?_, by omega⟩
    · rw [e, Nat.add_mul_mod_self_left, Nat.zero_mod]
    · rw [e, Nat.add_mul_div_left _ _ hp, Nat.zero_div, Nat.zero_add]
theorem G_step (hp : 0 < p) (hb : b ≤ p) (x : Nat) : Gc b p (x + 1) = Gc b p x + if x % p < b then 1 else 0 := by
  unfold Gc
  rcases mod_succ hp x with ⟨h1, h2, h3⟩ | ⟨h1, h2, h3⟩
  · rw [h1, h2]
    generalize x / p * b = m
    split <;> omega
  · rw [h1, h2, Nat.add_mul, Nat.one_mul]
    generalize x / p * b = m
    split <;> omega
theorem G_mono (hp : 0 < p) (hb : b ≤ p) (x : Nat) : ∀ j, Gc b p x ≤ Gc b p (x + j)
  | 0 => Nat.le_refl _
  | j + 1 => by
    have := G_mono hp hb x j
    rw [← Nat.add_assoc, G_step hp hb]
    omega
theorem G_lip (hp : 0 < p) (hb : b ≤ p) (x : Nat) : ∀ j, Gc b p (x + j) ≤ Gc b p x + j
  | 0 => Nat.le_refl _
  | j + 1 => by
    have := G_lip hp hb x j
    rw [← Nat.add_assoc, G_step hp hb]
    split <;> omega
theorem G_full (hp : 0 < p) (q r : Nat) (hr : r < p) : Gc b p (q * p + r) = q * b + min r b := by
  unfold Gc
  rw [Nat.mul_comm q p, Nat.mul_add_div hp, Nat.mul_add_mod, Nat.div_eq_of_lt hr, Nat.mod_eq_of_lt hr, Nat.add_zero]
theorem G_per (hp : 0 < p) (q x : Nat) : Gc b p (q * p + x) = q * b + Gc b p x := by
  unfold Gc
  rw [Nat.mul_comm q p, Nat.mul_add_div hp, Nat.mul_add_mod, Nat.add_mul]
  omega
theorem G_small (hp : 0 < p) (hb : b ≤ p) {x : Nat} (hx : x ≤ b) : Gc b p x = x := by
  induction x with
  | zero => exact G_zero hp
  | succ x ih => rw [G_step hp hb, ih (by omega), if_pos (by rw [Nat.mod_eq_of_lt (by omega)]; omega)]
/-- any window of a table of b ones and then noughts -/
theorem G_sub (hp : 0 < p) (hb : b ≤ p) (s : Nat) : ∀ w, Gc b p (s + w) ≤ Gc b p s + Gc b p w := by
  -- for s below p first
  have small : ∀ s w, s < p → Gc b p (s + w) ≤ Gc b p s + Gc b p w := by
    intro s w hs
    have hG : Gc b p s = min s b := by have := G_full (b := b) hp 0 s hs; simpa using this
    by_cases h : s ≤ b
    · rw [hG, Nat.min_eq_left h, Nat.add_comm s w]
      have := G_lip hp hb w s
      omega
    · rw [hG, Nat.min_eq_right (by omega)]
      have e : Gc b p (s + w) ≤ Gc b p (p + w) := by
        have := G_mono hp hb (s + w) (p - s)
        rwa [show s + w + (p - s) = p + w by omega] at this
      have e2 := G_per (b := b) hp 1 w
      simp only [Nat.one_mul] at e2
      omega
  intro w
  have e : s = s / p * p + s % p := by have := Nat.div_add_mod s p; rw [Nat.mul_comm] at this; omega
  have h1 := small (s % p) w (Nat.mod_lt _ hp)
  have h2 := G_per (b := b) hp (s / p) (s % p + w)
  have h3 := G_per (b := b) hp (s / p) (s % p)
  rw [← Nat.add_assoc, ← e] at h2
  rw [← e] at h3
  omega
theorem G_le_bnd (hp : 0 < p) (hb : b ≤ p) (w : Nat) : Gc b p w ≤ bnd b p w := by
  unfold bnd
  by_cases h : w ≤ b
  · rw [G_small hp hb h, Nat.min_eq_left h]; omega
  · rw [Nat.min_eq_right (by omega)]
    have := G_lip hp hb (w - b) b
    rw [show w - b + b = w by omega] at this
    omega
/-- a count that grows by ones at most, by b at most in each period -/
theorem win_bnd (hp : 0 < p) (hb : b ≤ p) {L : Nat → Nat} (mono : ∀ t j, L t ≤ L (t + j)) (one : ∀ t j, L (t + j) ≤ L t + j) (per : ∀ j x, x ≤ p → L (j * p + x) ≤ L (j * p) + b) (s w : Nat) : L (s + w) ≤ L s + bnd b p w := by
  have many : ∀ j q, L (j * p + q * p) ≤ L (j * p) + q * b := by
    intro j q
    induction q with
    | zero => simp
    | succ q ih =>
      have := per (j + q) p (Nat.le_refl _)
      rw [Nat.add_mul] at this
      rw [Nat.succ_mul, Nat.succ_mul, ← Nat.add_assoc]
      omega
  have tail : ∀ j x, L (j * p + x) ≤ L (j * p) + Gc b p x := by
    intro j x
    have e : x = x / p * p + x % p := by have := Nat.div_add_mod x p; rw [Nat.mul_comm] at this; omega
    have hr := Nat.mod_lt x hp
    have h1 := many j (x / p)
    have h2 := per (j + x / p) (x % p) (Nat.le_of_lt hr)
    have h3 := one (j * p + x / p * p) (x % p)
    rw [Nat.add_mul] at h2
    have e2 : j * p + x = j * p + x / p * p + x % p := by omega
    rw [e2]
    have e3 : Gc b p x = x / p * b + min (x % p) b := rfl
    rw [e3]
    omega
  have e : s = s / p * p + s % p := by have := Nat.div_add_mod s p; rw [Nat.mul_comm] at this; omega
  have hr := Nat.mod_lt s hp
  have o := one s w
  by_cases hw : w ≤ p - s % p
  · have h1 := per (s / p) (s % p + w) (by omega)
    rw [← Nat.add_assoc, ← e] at h1
    have h2 := mono (s / p * p) (s % p)
    rw [← e] at h2
    unfold bnd
    omega
  · have d : s + (p - s % p) = (s / p + 1) * p := by rw [Nat.add_mul, Nat.one_mul]; omega
    have h1 := tail (s / p + 1) (w - (p - s % p))
    rw [← d, show s + (p - s % p) + (w - (p - s % p)) = s + w by omega] at h1
    have h2 := per (s / p) p (Nat.le_refl _)
    rw [show s / p * p + p = s + (p - s % p) by omega] at h2
    have h3 := mono (s / p * p) (s % p)
    rw [← e] at h3
    have h4 := one s (p - s % p)
    unfold bnd
    by_cases c : w ≤ b
    · omega
    · rw [Nat.min_eq_right (by omega)]
      by_cases c2 : p - s % p ≤ b
      · have := G_lip hp hb (w - b) (b - (p - s % p))
        rw [show w - b + (b - (p - s % p)) = w - (p - s % p) by omega] at this
        omega
      · have := G_mono hp hb (w - (p - s % p)) (p - s % p - b)
        rw [show w - (p - s % p) + (p - s % p - b) = w - b by omega] at this
        omega
end

/-! ### the servers' counts -/
section
variable {b p : Nat} {R : List (Int × Int)} {poll : Bool}
def Ln (b p : Nat) (R : List (Int × Int)) (poll : Bool) (t : Nat) : Nat := (sim b p R poll t).2.length
theorem fmod_iff (t : Nat) : ((t : Int).fmod (p : Int) = 0) ↔ t % p = 0 := by
  rw [Int.fmod_eq_emod_of_nonneg _ (by omega)]
  omega
theorem Ln_mono (t j : Nat) : Ln b p R poll t ≤ Ln b p R poll (t + j) := sim_mono t j
theorem Ln_succ (t : Nat) : Ln b p R poll (t + 1) = Ln b p R poll t + if 0 < arr R t - (Ln b p R poll t : Int) ∧ 0 < left2 b p R poll t (sim b p R poll t) then 1 else 0 := by
  show (nxt b p R poll t (sim b p R poll t)).2.length = _
  unfold nxt Ln
  split <;> simp
theorem Ln_one (t : Nat) : ∀ j, Ln b p R poll (t + j) ≤ Ln b p R poll t + j
  | 0 => Nat.le_refl _
  | j + 1 => by
    have := Ln_one t j
    rw [← Nat.add_assoc, Ln_succ]
    split <;> omega
theorem sim_fst (t : Nat) : (sim b p R poll (t + 1)).1 = left2 b p R poll t (sim b p R poll t) - if 0 < arr R t - (Ln b p R poll t : Int) ∧ 0 < left2 b p R poll t (sim b p R poll t) then 1 else 0 := by
  show (nxt b p R poll t (sim b p R poll t)).1 = _
  unfold nxt Ln
  split <;> simp
/-- what is left of the budget, without polling -/
theorem left_inv (hp : 0 < p) : ∀ t : Nat, left2 b p R false t (sim b p R false t) = (b : Int) - (Ln b p R false t - Ln b p R false (p * (t / p)) : Int)
  | 0 => by
    unfold left2
    rw [if_neg (by simp), if_pos (by rw [fmod_iff]; exact Nat.zero_mod _)]
    simp
  | t + 1 => by
    have ih := left_inv hp t
    by_cases h : (t + 1) % p = 0
    · unfold left2
      rw [if_neg (by simp), if_pos ((fmod_iff _).mpr h)]
      have : p * ((t + 1) / p) = t + 1 := by have := Nat.div_add_mod (t + 1) p; omega
      rw [this]
      omega
    · have hd : (t + 1) / p = t / p := by
        rcases mod_succ hp t with ⟨_, h2, _⟩ | ⟨h1, _, _⟩
        · exact h2
        · exact absurd h1 h
      have e : left2 b p R false (t + 1) (sim b p R false (t + 1)) = (sim b p R false (t + 1)).1 := by
        unfold left2
        rw [if_neg (by simp), if_neg (fun z => h ((fmod_iff _).mp z))]
      rw [e, sim_fst, hd, Ln_succ, ih]
      split <;> simp <;> omega
theorem def_per (hp : 0 < p) (j : Nat) : ∀ x, x ≤ p → Ln b p R false (j * p + x) ≤ Ln b p R false (j * p) + b
  | 0, _ => by rw [Nat.add_zero]; omega
  | x + 1, hx => by
    have ih := def_per hp j x (by omega)
    have l := left_inv (b := b) (R := R) hp (j * p + x)
    have hd : (j * p + x) / p = j := by rw [Nat.mul_comm, Nat.mul_add_div hp, Nat.div_eq_of_lt (by omega), Nat.add_zero]
    rw [hd, Nat.mul_comm p j] at l
    rw [← Nat.add_assoc, Ln_succ]
    split
    · rename_i c
      rw [l] at c
      omega
    · omega
theorem def_win (hp : 0 < p) (hb : b ≤ p) (s w : Nat) : Ln b p R false (s + w) ≤ Ln b p R false s + bnd b p w :=
  win_bnd hp hb Ln_mono Ln_one (fun j x h => def_per hp j x h) s w
/-- polling: served units are within the first b of a period -/
theorem poll_left (hp : 0 < p) (hb : b ≤ p) (hR : RqOk R) : ∀ t : Nat, 0 < left2 b p R true t (sim b p R true t) → left2 b p R true t (sim b p R true t) ≤ (b : Int) - (t % p : Nat)
  | 0, h => by
    unfold left2 at h ⊢
    split at h
    · omega
    · rename_i c
      rw [if_neg c]
      rw [if_pos (by rw [fmod_iff]; exact Nat.zero_mod _)]
      simp
  | t + 1, h => by
    have ih := poll_left hp hb hR t
    by_cases hm : (t + 1) % p = 0
    · unfold left2 at h ⊢
      split at h
      · omega
      · rename_i c
        rw [if_neg c, if_pos ((fmod_iff _).mpr hm), hm]
        omega
    · have hd : (t + 1) % p = t % p + 1 := by
        rcases mod_succ hp t with ⟨h1, _, _⟩ | ⟨h1, _, _⟩
        · exact h1
        · exact absurd h1 hm
      have e : left2 b p R true (t + 1) (sim b p R true (t + 1)) = (sim b p R true (t + 1)).1 := by
        unfold left2 at h ⊢
        split at h
        · omega
        · rename_i c
          rw [if_neg c, if_neg (fun z => hm ((fmod_iff _).mp z))]
      rw [e, sim_fst] at h ⊢
      split at h
      · rename_i c
        rw [if_pos c, hd]
        have := ih c.2
        omega
      · rename_i c
        rw [if_neg c]
        have c2 : ¬ 0 < arr R t - (Ln b p R true t : Int) := fun z => c ⟨z, by omega⟩
        have le := sim_le (b := b) (p := p) (poll := true) hR t
        have m := arr_mono hR t
        have z : arr R t - (Ln b p R true t : Int) = 0 := by unfold Ln at c2 ⊢; omega
        have : left2 b p R true t (sim b p R true t) = 0 := by
          unfold left2
          rw [if_pos ⟨z, rfl⟩]
        omega
theorem poll_win (hp : 0 < p) (hb : b ≤ p) (hR : RqOk R) (s : Nat) : ∀ w, Ln b p R true (s + w) + Gc b p s ≤ Ln b p R true s + Gc b p (s + w)
  | 0 => Nat.le_refl _
  | w + 1 => by
    have ih := poll_win hp hb hR s w
    rw [← Nat.add_assoc, Ln_succ, G_step hp hb]
    split
    · rename_i c
      have := poll_left hp hb hR (s + w) c.2
      rw [if_pos (by omega)]
      omega
    · split <;> omega
end
end Mini

-- P7
set_option Elab.async false
set_option linter.all false
set_option maxRecDepth 100000
set_option maxHeartbeats 4000000
/-! servers: dense requests; windows of found units. -/
namespace Mini
open PySem
section
variable {b p : Nat} {R : List (Int × Int)} {poll : Bool}
/-- the found units below e, in order -/
theorem cnt_lt (e : Nat) : ∀ t : Nat, ((sim b p R poll t).2.filter fun x => decide (x < (e : Int))).length = Ln b p R poll (min e t)
  | 0 => by rw [Nat.min_zero]; rfl
  | t + 1 => by
    have ih := cnt_lt e t
    have st : (sim b p R poll (t + 1)).2 = if 0 < arr R t - (Ln b p R poll t : Int) ∧ 0 < left2 b p R poll t (sim b p R poll t) then (sim b p R poll t).2 ++ [(t : Int)] else (sim b p R poll t).2 := by
      show (nxt b p R poll t (sim b p R poll t)).2 = _
      unfold nxt Ln
      split <;> rfl
    have sl := Ln_succ (b := b) (p := p) (R := R) (poll := poll) t
    rw [st]
    by_cases c : 0 < arr R t - (Ln b p R poll t : Int) ∧ 0 < left2 b p R poll t (sim b p R poll t)
    · rw [if_pos c] at sl ⊢
      rw [List.filter_append, List.length_append, ih]
      by_cases h : t < e
      · rw [List.filter_cons_of_pos (by simp; omega), Nat.min_eq_right (by omega), Nat.min_eq_right (by omega), sl]
        rfl
      · rw [List.filter_cons_of_neg (by simp; omega), Nat.min_eq_left (by omega), Nat.min_eq_left (by omega)]
        rfl
    · rw [if_neg c] at sl ⊢
      rw [ih]
      by_cases h : t < e
      · rw [Nat.min_eq_right (by omega), Nat.min_eq_right (by omega), sl]
        rfl
      · rw [Nat.min_eq_left (by omega), Nat.min_eq_left (by omega)]
theorem filter_and_len {l : List Int} {s e : Int} (h : s ≤ e) : (l.filter fun x => decide (s ≤ x) && decide (x < e)).length + (l.filter fun x => decide (x < s)).length = (l.filter fun x => decide (x < e)).length := by
  induction l with
  | nil => rfl
  | cons x l ih =>
    simp only [List.filter_cons]
    by_cases h1 : s ≤ x
    · by_cases h2 : x < e
      · have h3 : ¬ x < s := by omega
        simp only [h1, h2, h3, decide_true, decide_false, Bool.and_self, if_true, Bool.false_eq_true, if_false, List.length_cons]
        omega
      · have h3 : ¬ x < s := by omega
        simp only [h1, h2, h3, decide_true, decide_false, Bool.and_false, Bool.false_eq_true, if_false]
        omega
    · have h2 : x < e := by omega
      have h3 : x < s := by omega
      simp only [h1, h2, h3, decide_true, decide_false, Bool.false_and, Bool.false_eq_true, if_false, if_true, List.length_cons]
      omega
/-- the served units in a window -/
def inW (s w : Int) (l : List Int) : Nat := (l.filter fun x => decide (s ≤ x) && decide (x < s + w)).length
theorem fin_ge (h : RqOk R) (hs : SvOk (b : Int) (p : Int)) {T : Nat} (hT : 6800 ≤ T) : fin b p R poll = (sim b p R poll T).2 := by
  have e := sim_end (poll := poll) h hs
  unfold fin at e ⊢
  rw [show T = 6800 + (T - 6800) by omega, sim_stay h e]
theorem inW_fin (h : RqOk R) (hs : SvOk (b : Int) (p : Int)) (s w : Nat) : inW s w (fin b p R poll) + Ln b p R poll s = Ln b p R poll (s + w) := by
  rw [fin_ge h hs (T := 6800 + s + w) (by omega)]
  have := filter_and_len (l := (sim b p R poll (6800 + s + w)).2) (s := s) (e := (s : Int) + w) (by omega)
  have e1 := cnt_lt (b := b) (p := p) (R := R) (poll := poll) s (6800 + s + w)
  have e2 := cnt_lt (b := b) (p := p) (R := R) (poll := poll) (s + w) (6800 + s + w)
  rw [Nat.min_eq_left (by omega)] at e1 e2
  rw [show ((s + w : Nat) : Int) = (s : Int) + w by omega] at e2
  unfold inW
  omega
theorem fin_lt (h : RqOk R) (hs : SvOk (b : Int) (p : Int)) (e : Nat) : ((fin b p R poll).filter fun x => decide (x < (e : Int))).length = Ln b p R poll e := by
  rw [fin_ge h hs (T := 6800 + e) (by omega), cnt_lt, Nat.min_eq_left (by omega)]
theorem fin_nn (h : RqOk R) (hs : SvOk (b : Int) (p : Int)) : ∀ x ∈ fin b p R poll, 0 ≤ x := by
  have key : ∀ t : Nat, ∀ x ∈ (sim b p R poll t).2, 0 ≤ x := by
    intro t
    induction t with
    | zero => intro x hx; cases hx
    | succ t ih =>
      intro x hx
      replace hx : x ∈ (nxt b p R poll t (sim b p R poll t)).2 := hx
      unfold nxt at hx
      split at hx
      · rcases List.mem_append.mp hx with q | q
        · exact ih x q
        · rw [List.mem_singleton.mp q]; omega
      · exact ih x hx
  exact key 6800

/-! dense requests -/
def dense (a : Nat) : List (Int × Int) := List.replicate 12 ((a : Int), (20 : Int))
theorem dense_ok {a : Nat} (h : a ≤ 100) : RqOk (dense a) := by
  refine ⟨by simp [dense], fun r hr => ?_, ?_⟩
  · rw [(List.mem_replicate.mp hr).2]
    dsimp only
    omega
  · unfold dense
    rw [List.pairwise_replicate]
    exact .inr (Int.le_refl _)
theorem arr_dense (a t : Nat) : arr (dense a) t = if a ≤ t then 240 else 0 := by
  unfold arr dense
  by_cases h : a ≤ t
  · rw [List.filter_eq_self.mpr fun r hr => by rw [(List.mem_replicate.mp hr).2]; simp; omega, if_pos h]
    simp
  · rw [List.filter_eq_nil_iff.mpr fun r hr => by rw [(List.mem_replicate.mp hr).2]; simp; omega, if_neg h]
    rfl
def Hd (b p t : Nat) : Nat := if t < p then t - (p - b) else b + Gc b p (t - p)
theorem bnd_Hd (hp : 0 < p) (hb1 : 1 ≤ b) (hb : b ≤ p) (w : Nat) : Hd b p (p - b + w) = bnd b p w := by
  unfold Hd bnd
  split
  · rw [Nat.min_eq_left (by omega), show w - b = 0 by omega, G_zero hp]
    omega
  · rw [Nat.min_eq_right (by omega), show p - b + w - p = w - b by omega]
theorem def_dense (hp : 0 < p) (hb1 : 1 ≤ b) (hb : b ≤ p) : ∀ t : Nat, (∀ t', t' < t → Ln b p (dense (p - b)) false t' < 240) → ∀ t', t' ≤ t → Ln b p (dense (p - b)) false t' = Hd b p t'
  | 0, _, t', h => by
    obtain rfl : t' = 0 := by omega
    unfold Hd
    rw [if_pos hp]
    show 0 = _
    omega
  | t + 1, h, t', ht => by
    have ih := def_dense hp hb1 hb t fun t' h' => h t' (by omega)
    by_cases q : t' ≤ t
    · exact ih t' q
    · obtain rfl : t' = t + 1 := by omega
      have lt := ih t (Nat.le_refl _)
      have l0 := ih (p * (t / p)) (Nat.mul_div_le _ _)
      have l2 := left_inv (b := b) (R := dense (p - b)) hp t
      have lt240 := h t (by omega)
      rw [l0, lt] at l2
      rw [Ln_succ, l2, arr_dense, lt]
      rw [lt] at lt240
      by_cases c : t < p
      · have hd0 : t / p = 0 := Nat.div_eq_of_lt c
        have e0 : Hd b p (p * (t / p)) = 0 := by rw [hd0, Nat.mul_zero]; unfold Hd; rw [if_pos hp]; omega
        have e1 : Hd b p t = t - (p - b) := by unfold Hd; rw [if_pos c]
        rw [e0, e1]
        rw [e1] at lt240
        have e2 : Hd b p (t + 1) = t + 1 - (p - b) := by
          unfold Hd
          split
          · rfl
          · rw [show t + 1 - p = 0 by omega, G_zero hp]; omega
        rw [e2]
        by_cases c2 : p - b ≤ t
        · rw [if_pos c2, if_pos (by omega)]
          omega
        · rw [if_neg c2, if_neg (by omega)]
          omega
      · have hm := Nat.mod_lt t hp
        have hdm := Nat.div_add_mod t p
        have hq : 1 ≤ t / p := (Nat.le_div_iff_mul_le hp).mpr (by omega)
        obtain ⟨m, hmq⟩ : ∃ m, t / p = m + 1 := ⟨t / p - 1, by omega⟩
        have e1 : Hd b p t = b + (m * b + min (t % p) b) := by
          unfold Hd
          rw [if_neg c, ← G_full hp m (t % p) hm]
          congr 2
          rw [hmq, Nat.mul_add, Nat.mul_one, Nat.mul_comm] at hdm
          omega
        have e0 : Hd b p (p * (t / p)) = b + m * b := by
          unfold Hd
          rw [if_neg (by rw [hmq, Nat.mul_add]; omega)]
          have := G_full (b := b) hp m 0 hp
          rw [Nat.zero_min, Nat.add_zero, Nat.add_zero] at this
          rw [← this]
          congr 2
          rw [hmq, Nat.mul_add, Nat.mul_one, Nat.mul_comm]
          omega
        have e2 : Hd b p (t + 1) = Hd b p t + if t % p < b then 1 else 0 := by
          unfold Hd
          rw [if_neg (by omega), if_neg c, show t + 1 - p = t - p + 1 by omega, G_step hp hb]
          have : (t - p) % p = t % p := by
            conv => rhs; rw [show t = t - p + p by omega, Nat.add_mod_right]
          rw [this]
          omega
        rw [e2, e1, e0]
        rw [e1] at lt240
        rw [if_pos (show p - b ≤ t by omega)]
        by_cases c3 : t % p < b
        · rw [if_pos c3, if_pos (by omega)]
        · rw [if_neg c3, if_neg (by omega)]
theorem poll_dense (hp : 0 < p) (hb1 : 1 ≤ b) (hb : b ≤ p) : ∀ t : Nat, (∀ t', t' < t → Ln b p (dense 0) true t' < 240) → Ln b p (dense 0) true t = Gc b p t ∧ (Ln b p (dense 0) true t < 240 → left2 b p (dense 0) true t (sim b p (dense 0) true t) = (b : Int) - (min (t % p) b : Nat))
  | 0, _ => by
    refine ⟨by rw [G_zero hp]; rfl, fun hl => ?_⟩
    have a0 := arr_dense 0 0
    rw [if_pos (Nat.le_refl _)] at a0
    unfold left2
    rw [if_neg, if_pos ((fmod_iff _).mpr (Nat.zero_mod _)), Nat.zero_mod]
    · simp
    · intro z
      have z1 := z.1
      rw [a0] at z1
      have : (sim (b : Int) p (dense 0) true 0).2.length = 0 := rfl
      omega
  | t + 1, h => by
    obtain ⟨i1, i2⟩ := poll_dense hp hb1 hb t fun t' h' => h t' (by omega)
    have lt := h t (by omega)
    have i2 := i2 lt
    have at1 : ∀ n : Nat, arr (dense 0) (n : Int) = 240 := fun n => by rw [arr_dense, if_pos (Nat.zero_le _)]
    have hm := Nat.mod_lt t hp
    have cond : (0 < arr (dense 0) t - (Ln b p (dense 0) true t : Int) ∧ 0 < left2 b p (dense 0) true t (sim b p (dense 0) true t)) ↔ t % p < b := by
      rw [at1, i2]
      constructor
      · intro z; omega
      · intro z; omega
    have s1 := Ln_succ (b := b) (p := p) (R := dense 0) (poll := true) t
    have s2 := sim_fst (b := b) (p := p) (R := dense 0) (poll := true) t
    simp only [cond] at s1 s2
    refine ⟨by rw [s1, i1, G_step hp hb], fun hl => ?_⟩
    unfold left2
    rw [if_neg]
    · by_cases hm2 : (t + 1) % p = 0
      · rw [if_pos ((fmod_iff _).mpr hm2), hm2]
        simp
      · rw [if_neg (fun z => hm2 ((fmod_iff _).mp z)), s2, i2]
        have hd : (t + 1) % p = t % p + 1 := by
          rcases mod_succ hp t with ⟨h1, _, _⟩ | ⟨h1, _, _⟩
          · exact h1
          · exact absurd h1 hm2
        rw [hd]
        split <;> omega
    · intro z
      have z1 := z.1
      rw [at1] at z1
      unfold Ln at hl
      omega
end
end Mini

-- P8
set_option Elab.async false
set_option linter.all false
set_option maxRecDepth 100000
set_option maxHeartbeats 4000000
/-! servers: bounds, windows: the walks. -/
namespace Mini
open PySem
local macro_rules
  | `(tactic| simp! only) => `(tactic| simp only [ev, lstOf, tupD, mathf, true_implies, imp_self, implies_true, nc0, nc1, nc2, nc3, nc4, nc5, nc6, nc7, nc8, nc9, nc10, nc11, nc12, Int.reduceBEq, Int.reduceLT, Int.reduceLE, Int.reduceEq, Int.reduceAdd, Int.reduceSub, Int.reduceMul, Int.reduceNeg, Int.reduceToNat, oks_ite, oks_none, if_false_right, if_false_left, filt_f, filt_t, List.length_map, List.length_range, Bool.not_eq_false, beq_self_eq_true, Bool.true_eq_false, asInt, asOwn, evA, evI, evT, oks_some, oks_bind, oks_map, oks_guard, oks_guard', Mini.R.data, Mini.R.w, Mini.W.data, getz, gets, Option.map_some, Option.bind_some, Option.isNone_none, Option.isNone_some, binop, c_lt, c_le, c_gt, c_ge, c_eq, c_ne, c_is, c_is_i, c_is_b, c_is_s, c_is_l, c_is_t, c_isn, c_isn_i, c_isn_b, c_isn_s, c_isn_l, c_isn_t, c_eq_b, c_ne_b, c_eq_n, c_ne_n, c_eq_s, c_ne_s, c_eq_is, c_ne_is, c_eq_ns, c_ne_ns, c_eq_ni, c_ne_ni, c_eq_in, c_ne_in, c_eq_sn, c_ne_sn, c_eq_si, c_ne_si, truth, Mini.index, Mini.slice, Mini.part, Mini.builtin, Mini.items, isTy, callE, Mini.ws, datas, owned, Mini.back, keptOwn, frzs, frz, giveW, hid, wipe, resto, List.foldl_cons, List.foldl_nil, List.set_cons_zero, List.set_cons_succ, List.map_cons, List.map_nil, bindTg, bindFl, bindNs, nst, lastIs, Nat.reduceBEq, List.dropLast, List.zip_cons_cons, List.zip_nil_right, List.zip_nil_left, Nx_nx, Nx_rt, Nx_bk, Nx_ct, Lp_nx, Lp_ct, Lp_bk, Lp_rt, Rt_rt, Rt_nx, unhide_nil, unhide_nx, unhide_rt, unhide_one, fin0, fin1, fin2, fin3, fin4, fin5, fin6, fin7, fin8, rngL0, Option.getD_some, Option.getD_none, List.length_cons, List.length_nil, Nat.zero_add, Nat.reduceAdd, Nat.reduceEqDiff, Nat.succ_eq_add_one, ite_true, ite_false, if_true, if_false, reduceIte, reduceCtorEq, Bool.false_eq_true, Bool.not_true, Bool.not_false, List.nodup_cons, List.nodup_nil, List.not_mem_nil, List.mem_cons, not_false_eq_true, not_true_eq_false, and_true, true_and, and_self, or_self, or_false, false_or, setAll, Mini.start, repN, rep0, List.append_eq, List.nil_append, List.cons_append, Nat.reduceSub, Nat.reduceMul, Int.reduceNeg, List.mapM_cons, List.mapM_nil, Option.pure_def, Option.bind_eq_bind, List.any_nil, List.any_cons, List.isEmpty_cons, List.isEmpty_nil, Bool.and_true, Bool.true_and, Bool.and_false, Bool.false_and, Bool.or_false, Bool.or_true, Bool.false_or, Bool.true_or, beq_iff_eq, decide_eq_true_eq, Cf.quiet, frzAll, Option.map_none, Option.bind_none, List.append_nil, Nat.lt_irrefl, ite_self, Bool.not_eq_true', decide_true, decide_false, List.contains_cons, List.contains_nil, Mini.stored, Nat.not_lt_zero, Nat.reduceLT, Nat.reduceLeDiff])
  | `(tactic| simp! only [$ls,*]) => `(tactic| simp only [ev, lstOf, tupD, mathf, true_implies, imp_self, implies_true, nc0, nc1, nc2, nc3, nc4, nc5, nc6, nc7, nc8, nc9, nc10, nc11, nc12, Int.reduceBEq, Int.reduceLT, Int.reduceLE, Int.reduceEq, Int.reduceAdd, Int.reduceSub, Int.reduceMul, Int.reduceNeg, Int.reduceToNat, oks_ite, oks_none, if_false_right, if_false_left, filt_f, filt_t, List.length_map, List.length_range, Bool.not_eq_false, beq_self_eq_true, Bool.true_eq_false, asInt, asOwn, evA, evI, evT, oks_some, oks_bind, oks_map, oks_guard, oks_guard', Mini.R.data, Mini.R.w, Mini.W.data, getz, gets, Option.map_some, Option.bind_some, Option.isNone_none, Option.isNone_some, binop, c_lt, c_le, c_gt, c_ge, c_eq, c_ne, c_is, c_is_i, c_is_b, c_is_s, c_is_l, c_is_t, c_isn, c_isn_i, c_isn_b, c_isn_s, c_isn_l, c_isn_t, c_eq_b, c_ne_b, c_eq_n, c_ne_n, c_eq_s, c_ne_s, c_eq_is, c_ne_is, c_eq_ns, c_ne_ns, c_eq_ni, c_ne_ni, c_eq_in, c_ne_in, c_eq_sn, c_ne_sn, c_eq_si, c_ne_si, truth, Mini.index, Mini.slice, Mini.part, Mini.builtin, Mini.items, isTy, callE, Mini.ws, datas, owned, Mini.back, keptOwn, frzs, frz, giveW, hid, wipe, resto, List.foldl_cons, List.foldl_nil, List.set_cons_zero, List.set_cons_succ, List.map_cons, List.map_nil, bindTg, bindFl, bindNs, nst, lastIs, Nat.reduceBEq, List.dropLast, List.zip_cons_cons, List.zip_nil_right, List.zip_nil_left, Nx_nx, Nx_rt, Nx_bk, Nx_ct, Lp_nx, Lp_ct, Lp_bk, Lp_rt, Rt_rt, Rt_nx, unhide_nil, unhide_nx, unhide_rt, unhide_one, fin0, fin1, fin2, fin3, fin4, fin5, fin6, fin7, fin8, rngL0, Option.getD_some, Option.getD_none, List.length_cons, List.length_nil, Nat.zero_add, Nat.reduceAdd, Nat.reduceEqDiff, Nat.succ_eq_add_one, ite_true, ite_false, if_true, if_false, reduceIte, reduceCtorEq, Bool.false_eq_true, Bool.not_true, Bool.not_false, List.nodup_cons, List.nodup_nil, List.not_mem_nil, List.mem_cons, not_false_eq_true, not_true_eq_false, and_true, true_and, and_self, or_self, or_false, false_or, setAll, Mini.start, repN, rep0, List.append_eq, List.nil_append, List.cons_append, Nat.reduceSub, Nat.reduceMul, Int.reduceNeg, List.mapM_cons, List.mapM_nil, Option.pure_def, Option.bind_eq_bind, List.any_nil, List.any_cons, List.isEmpty_cons, List.isEmpty_nil, Bool.and_true, Bool.true_and, Bool.and_false, Bool.false_and, Bool.or_false, Bool.or_true, Bool.false_or, Bool.true_or, beq_iff_eq, decide_eq_true_eq, Cf.quiet, frzAll, Option.map_none, Option.bind_none, List.append_nil, Nat.lt_irrefl, ite_self, Bool.not_eq_true', decide_true, decide_false, List.contains_cons, List.contains_nil, Mini.stored, Nat.not_lt_zero, Nat.reduceLT, Nat.reduceLeDiff, $ls,*])
theorem maxI_mem : ∀ (l : List Int) (m : Int), maxI m l ∈ m :: l
  | [], m => by simp [maxI]
  | x :: r, m => by
    have := maxI_mem r (if m < x then x else m)
    unfold maxI
    rcases List.mem_cons.mp this with h | h
    · rw [h]; split <;> simp
    · exact List.mem_cons_of_mem _ (List.mem_cons_of_mem _ h)
theorem maxI_ge : ∀ (l : List Int) (m : Int), ∀ x ∈ m :: l, x ≤ maxI m l
  | [], m => by simp [maxI]
  | y :: r, m => by
    have ih := maxI_ge r (if m < y then y else m)
    have h0 := ih _ List.mem_cons_self
    intro x hx
    unfold maxI
    rcases List.mem_cons.mp hx with rfl | hx
    · split at h0 <;> rename_i c
      · rw [if_pos c]; omega
      · rw [if_neg c]; omega
    · rcases List.mem_cons.mp hx with rfl | hx
      · split at h0 <;> rename_i c
        · rw [if_pos c]; omega
        · rw [if_neg c]; omega
      · exact ih x (List.mem_cons_of_mem _ hx)
theorem minI_mem : ∀ (l : List Int) (m : Int), minI m l ∈ m :: l
  | [], m => by simp [minI]
  | x :: r, m => by
    have := minI_mem r (if x < m then x else m)
    unfold minI
    rcases List.mem_cons.mp this with h | h
    · rw [h]; split <;> simp
    · exact List.mem_cons_of_mem _ (List.mem_cons_of_mem _ h)
theorem minI_le : ∀ (l : List Int) (m : Int), ∀ x ∈ m :: l, minI m l ≤ x
  | [], m => by simp [minI]
  | y :: r, m => by
    have ih := minI_le r (if y < m then y else m)
    have h0 := ih _ List.mem_cons_self
    intro x hx
    unfold minI
    rcases List.mem_cons.mp hx with rfl | hx
    · split at h0 <;> rename_i c
      · rw [if_pos c]; omega
      · rw [if_neg c]; omega
    · rcases List.mem_cons.mp hx with rfl | hx
      · split at h0 <;> rename_i c
        · rw [if_pos c]; omega
        · rw [if_neg c]; omega
      · exact ih x (List.mem_cons_of_mem _ hx)
theorem extr_cons {f : Int → List Int → Int} {x : Int} {l : List Int} : extr f ((x :: l).map PyData.int) = some (.int (f x l)) := by
  unfold extr
  rw [intsOf_map]
  rfl
theorem bits_of {i : Int} (h : i.natAbs < 1000000000) : Builtin.Int.intBits i ≤ 64 := by
  unfold Builtin.Int.intBits
  split
  · omega
  · rename_i c
    have c' : i.natAbs ≠ 0 := fun z => c (by simp; omega)
    have := (Nat.log2_lt c' (k := 63)).mpr (by omega)
    omega
section
variable {ds : List D} {q : Bool} {k f i : Nat}
theorem need_window_ok {w : Int} (hd : ds[f]? = some (D_need_window i)) (hi : ds[i]? = some dIsIn) (h0 : 0 ≤ w) (h1 : w ≤ 500) : Ok (callD ds q (k + 2) f [.d (.int w)]) fun r => r = (.d .none, [.d (.int w)]) := by
  refine ok_callD hd rfl ?_
  simp only [D_need_window, B_need_window]
  simp! only
  refine sq fun K hK => ok_ite ?_
  simp! only
  refine (is_in_yes hi h0 h1).imp fun r hr => ?_
  subst hr
  simp! only
  exact ok_pass (hK _ (ok_pass rfl))
theorem deferrable_bound_ok {i1 i2 i3 : Nat} {b p w : Nat} (hd : ds[f]? = some (D_deferrable_bound i1 i2)) (d1 : ds[i1]? = some (D_need_server i3)) (d2 : ds[i2]? = some (D_need_window i3)) (d3 : ds[i3]? = some dIsIn) (hs : SvOk (b : Int) (p : Int)) (hw : w ≤ 500) :
    Ok (callD ds q (k + 3) f [.d (sv b p), .d (.int w)]) fun r => r = (.d (.int (bnd b p w : Nat)), [.d (sv b p), .d (.int w)]) := by
  have hs' := hs
  obtain ⟨s1, s2, s3⟩ := hs
  refine ok_callD hd rfl ?_
  simp only [D_deferrable_bound, B_deferrable_bound]
  simp! only
  refine sq fun K hK => ok_ex ?_
  simp! only
  refine (need_server_ok d1 d3 hs').imp fun r hr => ?_
  subst hr
  simp! only
  refine hK _ (sq fun K1 hK1 => ok_ex ?_)
  simp! only
  refine (need_window_ok d2 d3 (by omega) (by omega)).imp fun r hr => ?_
  subst hr
  simp! only
  refine hK1 _ (sq fun K2 hK2 => ok_unp ?_)
  unfold sv
  simp! only
  refine hK2 _ (sq fun K3 hK3 => ok_asg ?_)
  simp! only
  have e1 : (if 0 < (w : Int) - b then (w : Int) - b else 0) = ((w - b : Nat) : Int) := by split <;> omega
  rw [e1]
  refine hK3 _ (ok_seq (ok_ret ?_))
  simp! only
  have e2 : Int.fdiv ((w - b : Nat) : Int) (p : Int) = (((w - b) / p : Nat) : Int) := by rw [Int.fdiv_eq_ediv_of_nonneg _ (by omega)]; rfl
  have e3 : Int.fmod ((w - b : Nat) : Int) (p : Int) = (((w - b) % p : Nat) : Int) := by rw [Int.fmod_eq_emod_of_nonneg _ (by omega)]; rfl
  rw [e2, e3]
  refine ⟨by omega, .inl ?_, by omega, ?_⟩
  · exact bits_of (by omega)
  · have e4 : ((if (b : Int) < (w : Int) then (b : Int) else (w : Int)) + ((w - b) / p : Nat) * (b : Int) + if (b : Int) < (((w - b) % p : Nat) : Int) then (b : Int) else (((w - b) % p : Nat) : Int)) = ((bnd b p w : Nat) : Int) := by
      unfold bnd Gc
      rw [Int.natCast_add, Int.natCast_add, Int.natCast_mul]
      generalize (((w - b) / p : Nat) : Int) * (b : Int) = m
      generalize (w - b) % p = z
      split <;> split <;> omega
    rw [e4]
    rfl
theorem law_most_ok {U : List Int} {w : Int} {B : Nat} (hd : ds[f]? = some D__law_most) (hU : U.length ≤ 10000000) (h : ∀ s ∈ U, inW s w U ≤ B) : Ok (callD ds q (k + 1) f [.d (.tuple (U.map .int)), .d (.int w)]) fun r => ∃ m : Int, r = (.d (.int m), [.d (.tuple (U.map .int)), .d (.int w)]) ∧ m ≤ B := by
  refine ok_callD hd rfl ?_
  simp only [D__law_most, B__law_most]
  simp! only
  refine sq fun K hK => ok_asg ?_
  simp! only
  refine hK _ ?_
  refine sqm (fun e => ∃ (l : List Int) (o3 o4 : Option W), e = [some (.d (.tuple (U.map .int))), some (.d (.int w)), some (.own ((0 :: l).map .int)), o3, o4] ∧ ∀ x ∈ l, x ≤ B) (ok_for ?_) fun e hI => ?_
  · simp! only
    refine ok_forI (fun n e => ∃ (l : List Int) (o3 o4 : Option W), e = [some (.d (.tuple (U.map .int))), some (.d (.int w)), some (.own ((0 :: l).map .int)), o3, o4] ∧ l.length = n ∧ ∀ x ∈ l, x ≤ B) ⟨[], _, _, rfl, rfl, by simp⟩ (fun n x e hx hI => ?_) fun e hI => ?_
    · obtain ⟨l, o3, o4, rfl, hl, hb⟩ := hI
      rw [List.getElem?_map, Option.map_eq_some_iff] at hx
      obtain ⟨s, hx, rfl⟩ := hx
      have hn := (List.getElem?_eq_some_iff.mp hx).1
      simp! only
      refine ok_seq (ok_app ?_)
      simp! only
      refine ⟨szOk_of (by omega), ?_⟩
      refine ok_lc (fun x => decide (s ≤ x) && decide (x < s + w)) (fun x => .int x) (fun x hx => ?_) ?_
      · simp! only
        by_cases c : s ≤ x <;> simp [c]
      · simp! only
        refine ⟨szOk_of (by omega), ok_pass ?_⟩
        simp! only
        refine ⟨l ++ [(inW s w U : Int)], some (.d (.int s)), o4, by rw [List.map_append]; rfl, by simp [hl], fun x hx => ?_⟩
        rcases List.mem_append.mp hx with q | q
        · exact hb x q
        · rw [List.mem_singleton.mp q]
          exact Int.ofNat_le.mpr (h s (List.mem_of_getElem? ‹_›))
    · obtain ⟨l, o3, o4, rfl, hl, hb⟩ := hI
      simp! only
      exact ⟨l, _, _, rfl, hb⟩
  obtain ⟨l, o3, o4, rfl, hb⟩ := hI
  refine ok_seq (ok_ret ?_)
  simp! only
  have := extr_cons (f := maxI) (x := 0) (l := l)
  rw [List.map_cons] at this
  rw [this]
  simp! only
  refine ⟨_, rfl, ?_⟩
  rcases List.mem_cons.mp (maxI_mem l 0) with q | q
  · rw [q]; omega
  · exact hb _ q
end
end Mini

-- P9
set_option Elab.async false
set_option linter.all false
set_option maxRecDepth 100000
set_option maxHeartbeats 4000000
/-! tables: how many ones in a window. -/
namespace Mini
open PySem
local macro_rules
  | `(tactic| simp! only) => `(tactic| simp only [ev, lstOf, tupD, mathf, true_implies, imp_self, implies_true, nc0, nc1, nc2, nc3, nc4, nc5, nc6, nc7, nc8, nc9, nc10, nc11, nc12, Int.reduceBEq, Int.reduceLT, Int.reduceLE, Int.reduceEq, Int.reduceAdd, Int.reduceSub, Int.reduceMul, Int.reduceNeg, Int.reduceToNat, oks_ite, oks_none, if_false_right, if_false_left, filt_f, filt_t, List.length_map, List.length_range, Bool.not_eq_false, beq_self_eq_true, Bool.true_eq_false, asInt, asOwn, evA, evI, evT, oks_some, oks_bind, oks_map, oks_guard, oks_guard', Mini.R.data, Mini.R.w, Mini.W.data, getz, gets, Option.map_some, Option.bind_some, Option.isNone_none, Option.isNone_some, binop, c_lt, c_le, c_gt, c_ge, c_eq, c_ne, c_is, c_is_i, c_is_b, c_is_s, c_is_l, c_is_t, c_isn, c_isn_i, c_isn_b, c_isn_s, c_isn_l, c_isn_t, c_eq_b, c_ne_b, c_eq_n, c_ne_n, c_eq_s, c_ne_s, c_eq_is, c_ne_is, c_eq_ns, c_ne_ns, c_eq_ni, c_ne_ni, c_eq_in, c_ne_in, c_eq_sn, c_ne_sn, c_eq_si, c_ne_si, truth, Mini.index, Mini.slice, Mini.part, Mini.builtin, Mini.items, isTy, callE, Mini.ws, datas, owned, Mini.back, keptOwn, frzs, frz, giveW, hid, wipe, resto, List.foldl_cons, List.foldl_nil, List.set_cons_zero, List.set_cons_succ, List.map_cons, List.map_nil, bindTg, bindFl, bindNs, nst, lastIs, Nat.reduceBEq, List.dropLast, List.zip_cons_cons, List.zip_nil_right, List.zip_nil_left, Nx_nx, Nx_rt, Nx_bk, Nx_ct, Lp_nx, Lp_ct, Lp_bk, Lp_rt, Rt_rt, Rt_nx, unhide_nil, unhide_nx, unhide_rt, unhide_one, fin0, fin1, fin2, fin3, fin4, fin5, fin6, fin7, fin8, rngL0, Option.getD_some, Option.getD_none, List.length_cons, List.length_nil, Nat.zero_add, Nat.reduceAdd, Nat.reduceEqDiff, Nat.succ_eq_add_one, ite_true, ite_false, if_true, if_false, reduceIte, reduceCtorEq, Bool.false_eq_true, Bool.not_true, Bool.not_false, List.nodup_cons, List.nodup_nil, List.not_mem_nil, List.mem_cons, not_false_eq_true, not_true_eq_false, and_true, true_and, and_self, or_self, or_false, false_or, setAll, Mini.start, repN, rep0, List.append_eq, List.nil_append, List.cons_append, Nat.reduceSub, Nat.reduceMul, Int.reduceNeg, List.mapM_cons, List.mapM_nil, Option.pure_def, Option.bind_eq_bind, List.any_nil, List.any_cons, List.isEmpty_cons, List.isEmpty_nil, Bool.and_true, Bool.true_and, Bool.and_false, Bool.false_and, Bool.or_false, Bool.or_true, Bool.false_or, Bool.true_or, beq_iff_eq, decide_eq_true_eq, Cf.quiet, frzAll, Option.map_none, Option.bind_none, List.append_nil, Nat.lt_irrefl, ite_self, Bool.not_eq_true', decide_true, decide_false, List.contains_cons, List.contains_nil, Mini.stored, Nat.not_lt_zero, Nat.reduceLT, Nat.reduceLeDiff])
  | `(tactic| simp! only [$ls,*]) => `(tactic| simp only [ev, lstOf, tupD, mathf, true_implies, imp_self, implies_true, nc0, nc1, nc2, nc3, nc4, nc5, nc6, nc7, nc8, nc9, nc10, nc11, nc12, Int.reduceBEq, Int.reduceLT, Int.reduceLE, Int.reduceEq, Int.reduceAdd, Int.reduceSub, Int.reduceMul, Int.reduceNeg, Int.reduceToNat, oks_ite, oks_none, if_false_right, if_false_left, filt_f, filt_t, List.length_map, List.length_range, Bool.not_eq_false, beq_self_eq_true, Bool.true_eq_false, asInt, asOwn, evA, evI, evT, oks_some, oks_bind, oks_map, oks_guard, oks_guard', Mini.R.data, Mini.R.w, Mini.W.data, getz, gets, Option.map_some, Option.bind_some, Option.isNone_none, Option.isNone_some, binop, c_lt, c_le, c_gt, c_ge, c_eq, c_ne, c_is, c_is_i, c_is_b, c_is_s, c_is_l, c_is_t, c_isn, c_isn_i, c_isn_b, c_isn_s, c_isn_l, c_isn_t, c_eq_b, c_ne_b, c_eq_n, c_ne_n, c_eq_s, c_ne_s, c_eq_is, c_ne_is, c_eq_ns, c_ne_ns, c_eq_ni, c_ne_ni, c_eq_in, c_ne_in, c_eq_sn, c_ne_sn, c_eq_si, c_ne_si, truth, Mini.index, Mini.slice, Mini.part, Mini.builtin, Mini.items, isTy, callE, Mini.ws, datas, owned, Mini.back, keptOwn, frzs, frz, giveW, hid, wipe, resto, List.foldl_cons, List.foldl_nil, List.set_cons_zero, List.set_cons_succ, List.map_cons, List.map_nil, bindTg, bindFl, bindNs, nst, lastIs, Nat.reduceBEq, List.dropLast, List.zip_cons_cons, List.zip_nil_right, List.zip_nil_left, Nx_nx, Nx_rt, Nx_bk, Nx_ct, Lp_nx, Lp_ct, Lp_bk, Lp_rt, Rt_rt, Rt_nx, unhide_nil, unhide_nx, unhide_rt, unhide_one, fin0, fin1, fin2, fin3, fin4, fin5, fin6, fin7, fin8, rngL0, Option.getD_some, Option.getD_none, List.length_cons, List.length_nil, Nat.zero_add, Nat.reduceAdd, Nat.reduceEqDiff, Nat.succ_eq_add_one, ite_true, ite_false, if_true, if_false, reduceIte, reduceCtorEq, Bool.false_eq_true, Bool.not_true, Bool.not_false, List.nodup_cons, List.nodup_nil, List.not_mem_nil, List.mem_cons, not_false_eq_true, not_true_eq_false, and_true, true_and, and_self, or_self, or_false, false_or, setAll, Mini.start, repN, rep0, List.append_eq, List.nil_append, List.cons_append, Nat.reduceSub, Nat.reduceMul, Int.reduceNeg, List.mapM_cons, List.mapM_nil, Option.pure_def, Option.bind_eq_bind, List.any_nil, List.any_cons, List.isEmpty_cons, List.isEmpty_nil, Bool.and_true, Bool.true_and, Bool.and_false, Bool.false_and, Bool.or_false, Bool.or_true, Bool.false_or, Bool.true_or, beq_iff_eq, decide_eq_true_eq, Cf.quiet, frzAll, Option.map_none, Option.bind_none, List.append_nil, Nat.lt_irrefl, ite_self, Bool.not_eq_true', decide_true, decide_false, List.contains_cons, List.contains_nil, Mini.stored, Nat.not_lt_zero, Nat.reduceLT, Nat.reduceLeDiff, $ls,*])

def B_ones_in : S := (.seq (.asg 3 (.lc (.rng1 (.bin .mod (.var 2) (.bi .len (.cons (.var 0) .nil)))) [4] true (.lit (.bool true)) (.idx (.var 0) (.bin .mod (.bin .add (.var 1) (.var 4)) (.bi .len (.cons (.var 0) .nil)))))) (.seq (.ret (.bin .add (.bin .mul (.bin .fdiv (.var 2) (.bi .len (.cons (.var 0) .nil))) (.bi .sum (.cons (.var 0) .nil))) (.bi .sum (.cons (.var 3) .nil)))) .pass))
/-- 0:table 1:start 2:window 3:rest 4:k -/
def D_ones_in : D := ⟨3, 5, B_ones_in⟩
def B_least_of (c_ones_in : Nat) : S := (.seq (.ret (.gen .min (.rng1 (.bi .len (.cons (.var 0) .nil))) [2] true (.lit (.bool true)) (.call c_ones_in (.cons (.var 0) (.cons (.var 2) (.cons (.var 1) .nil)))))) .pass)
/-- 0:table 1:window 2:start -/
def D_least_of (c_ones_in : Nat) : D := ⟨2, 3, B_least_of c_ones_in⟩
def B_greatest_of (c_ones_in : Nat) : S := (.seq (.ret (.gen .max (.rng1 (.bi .len (.cons (.var 0) .nil))) [2] true (.lit (.bool true)) (.call c_ones_in (.cons (.var 0) (.cons (.var 2) (.cons (.var 1) .nil)))))) .pass)
/-- 0:table 1:window 2:start -/
def D_greatest_of (c_ones_in : Nat) : D := ⟨2, 3, B_greatest_of c_ones_in⟩
def B_least_supply (c_need_table : Nat) (c_need_window : Nat) (c_least_of : Nat) : S := (.seq (.ex (.call c_need_table (.cons (.var 0) .nil))) (.seq (.ex (.call c_need_window (.cons (.var 1) .nil))) (.seq (.ret (.call c_least_of (.cons (.var 0) (.cons (.var 1) .nil)))) .pass)))
/-- 0:table 1:window -/
def D_least_supply (c_need_table : Nat) (c_need_window : Nat) (c_least_of : Nat) : D := ⟨2, 2, B_least_supply c_need_table c_need_window c_least_of⟩
def B_greatest_supply (c_need_table : Nat) (c_need_window : Nat) (c_greatest_of : Nat) : S := (.seq (.ex (.call c_need_table (.cons (.var 0) .nil))) (.seq (.ex (.call c_need_window (.cons (.var 1) .nil))) (.seq (.ret (.call c_greatest_of (.cons (.var 0) (.cons (.var 1) .nil)))) .pass)))
/-- 0:table 1:window -/
def D_greatest_supply (c_need_table : Nat) (c_need_window : Nat) (c_greatest_of : Nat) : D := ⟨2, 2, B_greatest_supply c_need_table c_need_window c_greatest_of⟩
def B__law_table : S := (.seq (.par [3, 4] (.cons (.call 1 (.cons (.var 0) (.cons (.lit (.int 4)) .nil))) (.cons (.bin .add (.lit (.int 1)) (.call 1 (.cons (.var 0) (.cons (.var 1) .nil)))) .nil))) (.seq (.asg 2 (.lc (.rng1 (.var 4)) [6] true (.lit (.bool true)) (.call 1 (.cons (.var 0) (.cons (.lit (.int 2)) .nil))))) (.seq (.ite (.cmp .eq (.var 3) (.lit (.int 1))) (.seq (.asg 2 (.lc (.rng1 (.var 4)) [6] true (.lit (.bool true)) (.ite (.cmp .lt (.var 6) (.bin .fdiv (.bin .add (.var 4) (.lit (.int 1))) (.lit (.int 2)))) (.lit (.int 1)) (.lit (.int 0))))) .pass) .pass) (.seq (.ite (.and (.cmp .eq (.var 3) (.lit (.int 2))) (.cmp .gt (.var 4) (.lit (.int 1)))) (.seq (.asg 5 (.slc (.var 2) .none (.bin .fdiv (.bin .add (.var 4) (.lit (.int 1))) (.lit (.int 2))))) (.seq (.asg 2 (.bin .add (.var 5) (.var 5))) .pass)) .pass) (.seq (.ite (.cmp .eq (.var 3) (.lit (.int 3))) (.seq (.asg 2 (.lc (.rng1 (.var 4)) [6] true (.lit (.bool true)) (.ite (.cmp .eq (.call 1 (.cons (.var 0) (.cons (.lit (.int 4)) .nil))) (.lit (.int 0))) (.lit (.int 0)) (.lit (.int 1))))) .pass) .pass) (.seq (.ret (.bi .tuple (.cons (.var 2) .nil))) .pass))))))
/-- 0:_law_row 1:_law_most 2:_law_found 3:_law_way 4:_law_size 5:_law_base 6:_law_k -/
def D__law_table : D := ⟨2, 7, B__law_table⟩
def B__law_counts : S := (.seq (.asg 2 (.lst .nil)) (.seq (.for (.rng1 (.bi .len (.cons (.var 0) .nil))) [3] true (.seq (.app 2 (.bi .sum (.cons (.lc (.rng1 (.var 1)) [4] true (.lit (.bool true)) (.idx (.var 0) (.bin .mod (.bi .int (.cons (.bin .add (.var 3) (.var 4)) .nil)) (.bi .len (.cons (.var 0) .nil))))) .nil))) .pass)) (.seq (.ret (.var 2)) .pass)))
/-- 0:_law_table_here 1:_law_window 2:_law_found 3:_law_start 4:_law_k -/
def D__law_counts : D := ⟨2, 5, B__law_counts⟩

/-- the ones in a window, unit by unit -/
def ones (T : List Int) (s : Nat) : Nat → Int
  | 0 => 0
  | w + 1 => ones T s w + T.getD ((s + w) % T.length) 0
theorem ones_range (T : List Int) (s : Nat) : ∀ w, ((List.range w).map fun k => T.getD ((s + k) % T.length) 0).sum = ones T s w
  | 0 => rfl
  | w + 1 => by
    rw [List.range_succ, List.map_append, List.sum_append, ones_range T s w]
    simp [ones]
theorem ones_add (T : List Int) (s a : Nat) : ∀ b, ones T s (a + b) = ones T s a + ones T (s + a) b
  | 0 => by simp [ones]
  | b + 1 => by
    have := ones_add T s a b
    show ones T s (a + b) + T.getD ((s + (a + b)) % T.length) 0 = ones T s a + (ones T (s + a) b + T.getD ((s + a + b) % T.length) 0)
    rw [this, Nat.add_assoc s a b]
    omega
theorem ones_mod (T : List Int) (s : Nat) : ∀ w, ones T (s % T.length) w = ones T s w
  | 0 => rfl
  | w + 1 => by
    unfold ones
    rw [ones_mod T s w, Nat.mod_add_mod]
theorem ones_zero (T : List Int) : ∀ w, w ≤ T.length → ones T 0 w = (T.take w).sum
  | 0, _ => by simp [ones]
  | w + 1, h => by
    unfold ones
    rw [ones_zero T w (by omega), Nat.zero_add, Nat.mod_eq_of_lt (by omega), List.take_succ, List.sum_append, List.getElem?_eq_getElem (by omega), List.getD_eq_getElem?_getD, List.getElem?_eq_getElem (by omega)]
    simp
theorem ones_full (T : List Int) : ∀ s, ones T s T.length = T.sum
  | 0 => by rw [ones_zero T _ (Nat.le_refl _), List.take_length]
  | s + 1 => by
    have ih := ones_full T s
    have h1 := ones_add T s 1 T.length
    have h2 := ones_add T s T.length 1
    rw [Nat.add_comm 1] at h1
    rw [h2] at h1
    have h3 : ones T s 1 = T.getD (s % T.length) 0 := by simp [ones]
    have h4 : ones T (s + T.length) 1 = T.getD (s % T.length) 0 := by simp [ones]
    omega
theorem ones_long (T : List Int) (s w : Nat) : ones T s (w + T.length) = ones T s w + T.sum := by rw [ones_add, ones_full]
theorem ones_muls (T : List Int) (s r : Nat) : ∀ q, ones T s (q * T.length + r) = q * T.sum + ones T s r
  | 0 => by simp
  | q + 1 => by
    rw [Nat.succ_mul, show q * T.length + T.length + r = q * T.length + r + T.length by omega, ones_long, ones_muls T s r q]
    rw [Int.natCast_add, Int.add_mul]
    simp
    omega
theorem ones_dm (T : List Int) (s w : Nat) : ones T s w = (w / T.length : Nat) * T.sum + ones T s (w % T.length) := by
  rw [← ones_muls]
  congr 1
  have := Nat.div_add_mod w T.length
  rw [Nat.mul_comm] at this
  exact this.symm
def Tab (T : List Int) : Prop := (1 ≤ T.length ∧ T.length ≤ 24) ∧ ∀ x ∈ T, 0 ≤ x ∧ x ≤ 1
theorem getD_tab {T : List Int} (h : Tab T) (k : Nat) : 0 ≤ T.getD k 0 ∧ T.getD k 0 ≤ 1 := by
  rw [List.getD_eq_getElem?_getD]
  cases q : T[k]? with
  | none => exact ⟨by decide, by decide⟩
  | some x => exact h.2 x (List.mem_of_getElem? q)
theorem ones_bnd {T : List Int} (h : Tab T) (s : Nat) : ∀ w : Nat, 0 ≤ ones T s w ∧ ones T s w ≤ w
  | 0 => ⟨by simp [ones], by simp [ones]⟩
  | w + 1 => by
    have := ones_bnd h s w
    have := getD_tab h ((s + w) % T.length)
    unfold ones
    omega
theorem sum_bnd {T : List Int} (h : Tab T) : 0 ≤ T.sum ∧ T.sum ≤ 24 := by
  have := ones_bnd h 0 T.length
  rw [ones_full] at this
  have := h.1.2
  omega
/-- the counts from each start -/
def cnts (T : List Int) (w : Nat) : List Int := (List.range T.length).map fun s => ones T s w
theorem cnts_cons {T : List Int} (h : Tab T) (w : Nat) : ∃ r, cnts T w = ones T 0 w :: r := by
  unfold cnts
  obtain ⟨n, hn⟩ : ∃ n, T.length = n + 1 := ⟨T.length - 1, by have := h.1.1; omega⟩
  rw [hn, List.range_succ_eq_map, List.map_cons]
  exact ⟨_, rfl⟩
def minC (T : List Int) (w : Nat) : Int := match cnts T w with
  | [] => 0
  | x :: r => minI x r
def maxC (T : List Int) (w : Nat) : Int := match cnts T w with
  | [] => 0
  | x :: r => maxI x r
theorem minC_eq {T : List Int} (h : Tab T) (w : Nat) : extr minI ((cnts T w).map PyData.int) = some (.int (minC T w)) := by
  obtain ⟨r, hr⟩ := cnts_cons h w
  unfold minC
  rw [hr, extr_cons]
theorem maxC_eq {T : List Int} (h : Tab T) (w : Nat) : extr maxI ((cnts T w).map PyData.int) = some (.int (maxC T w)) := by
  obtain ⟨r, hr⟩ := cnts_cons h w
  unfold maxC
  rw [hr, extr_cons]
theorem minC_le {T : List Int} (h : Tab T) (w s : Nat) : minC T w ≤ ones T s w := by
  obtain ⟨r, hr⟩ := cnts_cons h w
  have : ones T s w ∈ cnts T w := by
    rw [← ones_mod]
    exact List.mem_map.mpr ⟨_, List.mem_range.mpr (Nat.mod_lt _ (by have := h.1.1; omega)), rfl⟩
  unfold minC
  rw [hr] at this ⊢
  exact minI_le _ _ _ this
theorem minC_at {T : List Int} (h : Tab T) (w : Nat) : ∃ s, minC T w = ones T s w := by
  obtain ⟨r, hr⟩ := cnts_cons h w
  have : minC T w ∈ cnts T w := by
    unfold minC
    rw [hr]
    exact minI_mem _ _
  obtain ⟨s, _, e⟩ := List.mem_map.mp this
  exact ⟨s, e.symm⟩
theorem maxC_ge {T : List Int} (h : Tab T) (w s : Nat) : ones T s w ≤ maxC T w := by
  obtain ⟨r, hr⟩ := cnts_cons h w
  have : ones T s w ∈ cnts T w := by
    rw [← ones_mod]
    exact List.mem_map.mpr ⟨_, List.mem_range.mpr (Nat.mod_lt _ (by have := h.1.1; omega)), rfl⟩
  unfold maxC
  rw [hr] at this ⊢
  exact maxI_ge _ _ _ this
theorem maxC_at {T : List Int} (h : Tab T) (w : Nat) : ∃ s, maxC T w = ones T s w := by
  obtain ⟨r, hr⟩ := cnts_cons h w
  have : maxC T w ∈ cnts T w := by
    unfold maxC
    rw [hr]
    exact maxI_mem _ _
  obtain ⟨s, _, e⟩ := List.mem_map.mp this
  exact ⟨s, e.symm⟩
section
variable {ds : List D} {q : Bool} {k f i : Nat} {T : List Int}
theorem at_tab (h : Tab T) {x : Int} {j : Nat} (hx : x = ((j % T.length : Nat) : Int)) : L2.atI (T.map PyData.int) x = some (.int (T.getD (j % T.length) 0)) := by
  have hj : j % T.length < T.length := Nat.mod_lt _ (by have := h.1.1; omega)
  rw [hx]
  refine at_of ?_
  rw [List.getElem?_map, List.getElem?_eq_getElem hj, List.getD_eq_getElem?_getD, List.getElem?_eq_getElem hj]
  rfl
theorem fmod_nat (a n : Nat) : Int.fmod (a : Int) (n : Int) = ((a % n : Nat) : Int) := by rw [Int.fmod_eq_emod_of_nonneg _ (by omega)]; rfl
theorem fdiv_nat (a n : Nat) : Int.fdiv (a : Int) (n : Int) = ((a / n : Nat) : Int) := by rw [Int.fdiv_eq_ediv_of_nonneg _ (by omega)]; rfl
theorem ones_in_ok {s w : Nat} (hd : ds[f]? = some D_ones_in) (h : Tab T) (hw : w ≤ 500) : Ok (callD ds q (k + 1) f [.d (.tuple (T.map .int)), .d (.int s), .d (.int w)]) fun r => r = (.d (.int (ones T s w)), [.d (.tuple (T.map .int)), .d (.int s), .d (.int w)]) := by
  obtain ⟨h1, h2⟩ := h.1
  refine ok_callD hd rfl ?_
  simp only [D_ones_in, B_ones_in]
  simp! only
  refine sq fun K hK => ok_asg ?_
  simp! only
  rw [fmod_nat, rngL0]
  have hm : w % T.length < T.length := Nat.mod_lt _ (by omega)
  simp! only
  refine ⟨by omega, inR_of (by omega) (by omega), szOk_of (by omega), ?_⟩
  refine ok_lc (fun _ => true) (fun k : Nat => .int (T.getD ((s + k) % T.length) 0)) (fun k hk => ?_) ?_
  · have e : Int.fmod ((s : Int) + (k : Int)) (T.length : Int) = (((s + k) % T.length : Nat) : Int) := by rw [← Int.natCast_add, fmod_nat]
    simp! only [at_tab h e]
    omega
  simp! only
  refine hK _ (ok_seq (ok_ret ?_))
  simp! only [intsOf_map, intsOf_map']
  rw [ones_range, fdiv_nat, ← ones_dm]
  have := sum_bnd h
  exact ⟨by omega, .inl (bits_of (by omega)), rfl⟩
theorem least_of_ok {i : Nat} {w : Nat} (hd : ds[f]? = some (D_least_of i)) (d1 : ds[i]? = some D_ones_in) (h : Tab T) (hw : w ≤ 500) : Ok (callD ds false (k + 2) f [.d (.tuple (T.map .int)), .d (.int w)]) fun r => r = (.d (.int (minC T w)), [.d (.tuple (T.map .int)), .d (.int w)]) := by
  obtain ⟨h1, h2⟩ := h.1
  refine ok_callD hd rfl ?_
  simp only [D_least_of, B_least_of]
  simp! only
  refine ok_seq (ok_ret ?_)
  simp! only
  refine ⟨inR_of (by omega) (by omega), ?_⟩
  refine ok_gen (fun _ => true) (fun s : Nat => .int (ones T s w)) (fun s hs => ⟨rfl, ?_⟩) ?_
  · simp! only
    refine (ones_in_ok d1 h hw).imp fun r hr => ?_
    subst hr
    simp! only
  · simp! only
    have e : (List.range T.length).map (fun s : Nat => PyData.int (ones T s w)) = (cnts T w).map PyData.int := by unfold cnts; rw [List.map_map]; rfl
    rw [e]
    rw [gen_min, minC_eq h]
    simp! only
theorem greatest_of_ok {i : Nat} {w : Nat} (hd : ds[f]? = some (D_greatest_of i)) (d1 : ds[i]? = some D_ones_in) (h : Tab T) (hw : w ≤ 500) : Ok (callD ds false (k + 2) f [.d (.tuple (T.map .int)), .d (.int w)]) fun r => r = (.d (.int (maxC T w)), [.d (.tuple (T.map .int)), .d (.int w)]) := by
  obtain ⟨h1, h2⟩ := h.1
  refine ok_callD hd rfl ?_
  simp only [D_greatest_of, B_greatest_of]
  simp! only
  refine ok_seq (ok_ret ?_)
  simp! only
  refine ⟨inR_of (by omega) (by omega), ?_⟩
  refine ok_gen (fun _ => true) (fun s : Nat => .int (ones T s w)) (fun s hs => ⟨rfl, ?_⟩) ?_
  · simp! only
    refine (ones_in_ok d1 h hw).imp fun r hr => ?_
    subst hr
    simp! only
  · simp! only
    have e : (List.range T.length).map (fun s : Nat => PyData.int (ones T s w)) = (cnts T w).map PyData.int := by unfold cnts; rw [List.map_map]; rfl
    rw [e]
    rw [gen_max, maxC_eq h]
    simp! only
theorem least_supply_ok {i1 i2 i3 i4 i5 : Nat} {w : Nat} (hd : ds[f]? = some (D_least_supply i1 i2 i3)) (d1 : ds[i1]? = some (dNeedTable i4)) (d2 : ds[i2]? = some (D_need_window i4)) (d3 : ds[i3]? = some (D_least_of i5)) (d4 : ds[i4]? = some dIsIn) (d5 : ds[i5]? = some D_ones_in) (h : Tab T) (hw : w ≤ 500) :
    Ok (callD ds false (k + 3) f [.d (.tuple (T.map .int)), .d (.int w)]) fun r => r = (.d (.int (minC T w)), [.d (.tuple (T.map .int)), .d (.int w)]) := by
  refine ok_callD hd rfl ?_
  simp only [D_least_supply, B_least_supply]
  simp! only
  refine sq fun K hK => ok_ex ?_
  simp! only
  refine (need_table_ok d1 d4 h.1.1 h.1.2 h.2).imp fun r hr => ?_
  subst hr
  simp! only
  refine hK _ (sq fun K1 hK1 => ok_ex ?_)
  simp! only
  refine (need_window_ok d2 d4 (by omega) (by omega)).imp fun r hr => ?_
  subst hr
  simp! only
  refine hK1 _ (ok_seq (ok_ret ?_))
  simp! only
  refine (least_of_ok d3 d5 h hw).imp fun r hr => ?_
  subst hr
  simp! only
theorem greatest_supply_ok {i1 i2 i3 i4 i5 : Nat} {w : Nat} (hd : ds[f]? = some (D_greatest_supply i1 i2 i3)) (d1 : ds[i1]? = some (dNeedTable i4)) (d2 : ds[i2]? = some (D_need_window i4)) (d3 : ds[i3]? = some (D_greatest_of i5)) (d4 : ds[i4]? = some dIsIn) (d5 : ds[i5]? = some D_ones_in) (h : Tab T) (hw : w ≤ 500) :
    Ok (callD ds false (k + 3) f [.d (.tuple (T.map .int)), .d (.int w)]) fun r => r = (.d (.int (maxC T w)), [.d (.tuple (T.map .int)), .d (.int w)]) := by
  refine ok_callD hd rfl ?_
  simp only [D_greatest_supply, B_greatest_supply]
  simp! only
  refine sq fun K hK => ok_ex ?_
  simp! only
  refine (need_table_ok d1 d4 h.1.1 h.1.2 h.2).imp fun r hr => ?_
  subst hr
  simp! only
  refine hK _ (sq fun K1 hK1 => ok_ex ?_)
  simp! only
  refine (need_window_ok d2 d4 (by omega) (by omega)).imp fun r hr => ?_
  subst hr
  simp! only
  refine hK1 _ (ok_seq (ok_ret ?_))
  simp! only
  refine (greatest_of_ok d3 d5 h hw).imp fun r hr => ?_
  subst hr
  simp! only
end
end Mini

-- P10
set_option Elab.async false
set_option linter.all false
set_option maxRecDepth 100000
set_option maxHeartbeats 4000000
/-! tables drawn, counted by the laws. -/
namespace Mini
open PySem
local macro_rules
  | `(tactic| simp! only) => `(tactic| simp only [ev, lstOf, tupD, mathf, true_implies, imp_self, implies_true, nc0, nc1, nc2, nc3, nc4, nc5, nc6, nc7, nc8, nc9, nc10, nc11, nc12, Int.reduceBEq, Int.reduceLT, Int.reduceLE, Int.reduceEq, Int.reduceAdd, Int.reduceSub, Int.reduceMul, Int.reduceNeg, Int.reduceToNat, oks_ite, oks_none, if_false_right, if_false_left, filt_f, filt_t, List.length_map, List.length_range, Bool.not_eq_false, beq_self_eq_true, Bool.true_eq_false, asInt, asOwn, evA, evI, evT, oks_some, oks_bind, oks_map, oks_guard, oks_guard', Mini.R.data, Mini.R.w, Mini.W.data, getz, gets, Option.map_some, Option.bind_some, Option.isNone_none, Option.isNone_some, binop, c_lt, c_le, c_gt, c_ge, c_eq, c_ne, c_is, c_is_i, c_is_b, c_is_s, c_is_l, c_is_t, c_isn, c_isn_i, c_isn_b, c_isn_s, c_isn_l, c_isn_t, c_eq_b, c_ne_b, c_eq_n, c_ne_n, c_eq_s, c_ne_s, c_eq_is, c_ne_is, c_eq_ns, c_ne_ns, c_eq_ni, c_ne_ni, c_eq_in, c_ne_in, c_eq_sn, c_ne_sn, c_eq_si, c_ne_si, truth, Mini.index, Mini.slice, Mini.part, Mini.builtin, Mini.items, isTy, callE, Mini.ws, datas, owned, Mini.back, keptOwn, frzs, frz, giveW, hid, wipe, resto, List.foldl_cons, List.foldl_nil, List.set_cons_zero, List.set_cons_succ, List.map_cons, List.map_nil, bindTg, bindFl, bindNs, nst, lastIs, Nat.reduceBEq, List.dropLast, List.zip_cons_cons, List.zip_nil_right, List.zip_nil_left, Nx_nx, Nx_rt, Nx_bk, Nx_ct, Lp_nx, Lp_ct, Lp_bk, Lp_rt, Rt_rt, Rt_nx, unhide_nil, unhide_nx, unhide_rt, unhide_one, fin0, fin1, fin2, fin3, fin4, fin5, fin6, fin7, fin8, rngL0, Option.getD_some, Option.getD_none, List.length_cons, List.length_nil, Nat.zero_add, Nat.reduceAdd, Nat.reduceEqDiff, Nat.succ_eq_add_one, ite_true, ite_false, if_true, if_false, reduceIte, reduceCtorEq, Bool.false_eq_true, Bool.not_true, Bool.not_false, List.nodup_cons, List.nodup_nil, List.not_mem_nil, List.mem_cons, not_false_eq_true, not_true_eq_false, and_true, true_and, and_self, or_self, or_false, false_or, setAll, Mini.start, repN, rep0, List.append_eq, List.nil_append, List.cons_append, Nat.reduceSub, Nat.reduceMul, Int.reduceNeg, List.mapM_cons, List.mapM_nil, Option.pure_def, Option.bind_eq_bind, List.any_nil, List.any_cons, List.isEmpty_cons, List.isEmpty_nil, Bool.and_true, Bool.true_and, Bool.and_false, Bool.false_and, Bool.or_false, Bool.or_true, Bool.false_or, Bool.true_or, beq_iff_eq, decide_eq_true_eq, Cf.quiet, frzAll, Option.map_none, Option.bind_none, List.append_nil, Nat.lt_irrefl, ite_self, Bool.not_eq_true', decide_true, decide_false, List.contains_cons, List.contains_nil, Mini.stored, Nat.not_lt_zero, Nat.reduceLT, Nat.reduceLeDiff])
  | `(tactic| simp! only [$ls,*]) => `(tactic| simp only [ev, lstOf, tupD, mathf, true_implies, imp_self, implies_true, nc0, nc1, nc2, nc3, nc4, nc5, nc6, nc7, nc8, nc9, nc10, nc11, nc12, Int.reduceBEq, Int.reduceLT, Int.reduceLE, Int.reduceEq, Int.reduceAdd, Int.reduceSub, Int.reduceMul, Int.reduceNeg, Int.reduceToNat, oks_ite, oks_none, if_false_right, if_false_left, filt_f, filt_t, List.length_map, List.length_range, Bool.not_eq_false, beq_self_eq_true, Bool.true_eq_false, asInt, asOwn, evA, evI, evT, oks_some, oks_bind, oks_map, oks_guard, oks_guard', Mini.R.data, Mini.R.w, Mini.W.data, getz, gets, Option.map_some, Option.bind_some, Option.isNone_none, Option.isNone_some, binop, c_lt, c_le, c_gt, c_ge, c_eq, c_ne, c_is, c_is_i, c_is_b, c_is_s, c_is_l, c_is_t, c_isn, c_isn_i, c_isn_b, c_isn_s, c_isn_l, c_isn_t, c_eq_b, c_ne_b, c_eq_n, c_ne_n, c_eq_s, c_ne_s, c_eq_is, c_ne_is, c_eq_ns, c_ne_ns, c_eq_ni, c_ne_ni, c_eq_in, c_ne_in, c_eq_sn, c_ne_sn, c_eq_si, c_ne_si, truth, Mini.index, Mini.slice, Mini.part, Mini.builtin, Mini.items, isTy, callE, Mini.ws, datas, owned, Mini.back, keptOwn, frzs, frz, giveW, hid, wipe, resto, List.foldl_cons, List.foldl_nil, List.set_cons_zero, List.set_cons_succ, List.map_cons, List.map_nil, bindTg, bindFl, bindNs, nst, lastIs, Nat.reduceBEq, List.dropLast, List.zip_cons_cons, List.zip_nil_right, List.zip_nil_left, Nx_nx, Nx_rt, Nx_bk, Nx_ct, Lp_nx, Lp_ct, Lp_bk, Lp_rt, Rt_rt, Rt_nx, unhide_nil, unhide_nx, unhide_rt, unhide_one, fin0, fin1, fin2, fin3, fin4, fin5, fin6, fin7, fin8, rngL0, Option.getD_some, Option.getD_none, List.length_cons, List.length_nil, Nat.zero_add, Nat.reduceAdd, Nat.reduceEqDiff, Nat.succ_eq_add_one, ite_true, ite_false, if_true, if_false, reduceIte, reduceCtorEq, Bool.false_eq_true, Bool.not_true, Bool.not_false, List.nodup_cons, List.nodup_nil, List.not_mem_nil, List.mem_cons, not_false_eq_true, not_true_eq_false, and_true, true_and, and_self, or_self, or_false, false_or, setAll, Mini.start, repN, rep0, List.append_eq, List.nil_append, List.cons_append, Nat.reduceSub, Nat.reduceMul, Int.reduceNeg, List.mapM_cons, List.mapM_nil, Option.pure_def, Option.bind_eq_bind, List.any_nil, List.any_cons, List.isEmpty_cons, List.isEmpty_nil, Bool.and_true, Bool.true_and, Bool.and_false, Bool.false_and, Bool.or_false, Bool.or_true, Bool.false_or, Bool.true_or, beq_iff_eq, decide_eq_true_eq, Cf.quiet, frzAll, Option.map_none, Option.bind_none, List.append_nil, Nat.lt_irrefl, ite_self, Bool.not_eq_true', decide_true, decide_false, List.contains_cons, List.contains_nil, Mini.stored, Nat.not_lt_zero, Nat.reduceLT, Nat.reduceLeDiff, $ls,*])
section
variable {ds : List D} {q : Bool} {k f i : Nat} {ns : List Int} {st : List PyData}
/-- a list of noughts and ones -/
def Bits (l : List Int) : Prop := ∀ x ∈ l, 0 ≤ x ∧ x ≤ 1
theorem Bits.add {l : List Int} {x : Int} (h : Bits l) (h0 : 0 ≤ x) (h1 : x ≤ 1) : Bits (l ++ [x]) := fun z hz => by
  rcases List.mem_append.mp hz with c | c
  · exact h z c
  · rw [List.mem_singleton.mp c]; exact ⟨h0, h1⟩
theorem law_table_ok {m : Int} (h1 : ds[1]? = some dTaken) (hd : ds[f]? = some D__law_table) (hs : Row ns st) (m0 : 1 ≤ m) (m1 : m ≤ 20) : Ok (callD ds q (k + 2) f [.own st, .d (.int m)]) fun r => ∃ T st', r = (.d (.tuple (T.map .int)), [.own st', .d (.int m)]) ∧ Tab T ∧ Row ns st' := by
  refine ok_callD hd rfl ?_
  simp only [D__law_table, B__law_table]
  simp! only
  refine sq fun K hK => ok_par ?_
  simp! only
  refine (taken_ok h1 hs (by decide) (by decide)).imp fun r hr => ?_
  obtain ⟨way, st1, rfl, x0, x1, hs1⟩ := hr
  simp! only
  refine (taken_ok h1 hs1 (by omega) (by omega)).imp fun r hr => ?_
  obtain ⟨z, st2, rfl, z0, z1, hs2⟩ := hr
  simp! only
  refine hK _ ?_
  obtain ⟨n, hn, n0, n1⟩ : ∃ n : Nat, 1 + z = n ∧ 1 ≤ n ∧ n ≤ 20 := ⟨(1 + z).toNat, by omega, by omega, by omega⟩
  rw [hn]
  refine sqm (fun e => ∃ (st : List PyData) (l : List Int), e = [some (.own st), some (.d (.int m)), some (.own (l.map .int)), some (.d (.int way)), some (.d (.int n)), none, none] ∧ Row ns st ∧ l.length = n ∧ Bits l) (ok_asg ?_) fun e hI => ?_
  · simp! only
    refine ⟨inR_of (by omega) (by omega), szOk_of (by omega), ?_⟩
    refine ok_lcI (fun j acc e => ∃ (st : List PyData) (l : List Int), e = [some (.own st), some (.d (.int m)), none, some (.d (.int way)), some (.d (.int n)), none, none] ∧ Row ns st ∧ acc = l.map .int ∧ l.length = j ∧ Bits l) ⟨_, [], rfl, hs2, rfl, rfl, fun _ h => by cases h⟩ (fun j y acc e hy hI => ?_) fun acc e hI => ?_
    · obtain ⟨st3, l, rfl, hs3, rfl, hl, hb⟩ := hI
      simp! only
      refine (taken_ok h1 hs3 (by decide) (by decide)).imp fun r hr => ?_
      obtain ⟨x, st4, rfl, x0, x1, hs4⟩ := hr
      simp! only
      exact ⟨_, l ++ [x], rfl, hs4, by simp, by simp [hl], hb.add x0 (by omega)⟩
    · obtain ⟨st3, l, rfl, hs3, rfl, hl, hb⟩ := hI
      simp! only
      exact ⟨_, l, rfl, hs3, by simpa using hl, hb⟩
  obtain ⟨st3, l, rfl, hs3, hl, hb⟩ := hI
  refine sqm (fun e => ∃ (l : List Int), e = [some (.own st3), some (.d (.int m)), some (.own (l.map .int)), some (.d (.int way)), some (.d (.int n)), none, none] ∧ l.length = n ∧ Bits l) (ok_ite ?_) fun e hI => ?_
  · simp! only
    split
    · refine ok_seq (ok_asg ?_)
      simp! only
      refine ⟨inR_of (by omega) (by omega), szOk_of (by omega), ?_⟩
      refine ok_lc (fun _ => true) (fun j : Nat => .int (if (j : Int) < Int.fdiv ((n : Int) + 1) 2 then 1 else 0)) (fun j hj => ?_) ?_
      · simp! only
        refine ⟨by decide, ?_⟩
        split <;> rfl
      · simp! only
        refine ok_pass ⟨(List.range n).map fun j : Nat => if (j : Int) < Int.fdiv ((n : Int) + 1) 2 then 1 else 0, by rw [List.map_map]; rfl, by simp, fun x hx => ?_⟩
        obtain ⟨j, _, rfl⟩ := List.mem_map.mp hx
        split <;> decide
    · exact ok_pass ⟨l, rfl, hl, hb⟩
  obtain ⟨l2, rfl, hl2, hb2⟩ := hI
  refine sqm (fun e => ∃ (l : List Int) (o5 : Option W), e = [some (.own st3), some (.d (.int m)), some (.own (l.map .int)), some (.d (.int way)), some (.d (.int n)), o5, none] ∧ (1 ≤ l.length ∧ l.length ≤ 22) ∧ Bits l) (ok_ite ?_) fun e hI => ?_
  · simp! only
    split
    · split
      · rename_i c
        refine ok_seq (ok_asg ?_)
        simp! only
        have e2 : Int.fdiv ((n : Int) + 1) 2 = (((n + 1) / 2 : Nat) : Int) := fdiv_nat (n + 1) 2
        rw [e2, cut_to (by omega), Int.toNat_natCast, ← List.map_take]
        refine ⟨by decide, ok_seq (ok_asg ?_)⟩
        simp! only
        refine ⟨szOk_of (by simp; omega), ok_pass ⟨l2.take ((n + 1) / 2) ++ l2.take ((n + 1) / 2), _, by rw [List.map_append], by simp; omega, fun x hx => ?_⟩⟩
        rcases List.mem_append.mp hx with q | q <;> exact hb2 x (List.mem_of_mem_take q)
      · exact ok_pass ⟨l2, _, rfl, by omega, hb2⟩
    · exact ok_pass ⟨l2, _, rfl, by omega, hb2⟩
  obtain ⟨l3, o5, rfl, hl3, hb3⟩ := hI
  refine sqm (fun e => ∃ (st : List PyData) (l : List Int), e = [some (.own st), some (.d (.int m)), some (.own (l.map .int)), some (.d (.int way)), some (.d (.int n)), o5, none] ∧ Row ns st ∧ (1 ≤ l.length ∧ l.length ≤ 22) ∧ Bits l) (ok_ite ?_) fun e hI => ?_
  · simp! only
    split
    · refine ok_seq (ok_asg ?_)
      simp! only
      refine ⟨inR_of (by omega) (by omega), szOk_of (by omega), ?_⟩
      refine ok_lcI (fun j acc e => ∃ (st : List PyData) (l : List Int), e = [some (.own st), some (.d (.int m)), some (.own (l3.map .int)), some (.d (.int way)), some (.d (.int n)), o5, none] ∧ Row ns st ∧ acc = l.map .int ∧ l.length = j ∧ Bits l) ⟨_, [], rfl, hs3, rfl, rfl, fun _ h => by cases h⟩ (fun j y acc e hy hI => ?_) fun acc e hI => ?_
      · obtain ⟨st4, l, rfl, hs4, rfl, hl, hb⟩ := hI
        simp! only
        refine (taken_ok h1 hs4 (by decide) (by decide)).imp fun r hr => ?_
        obtain ⟨x, st5, rfl, x0, x1, hs5⟩ := hr
        simp! only
        split
        · exact ⟨_, l ++ [0], rfl, hs5, by simp, by simp [hl], hb.add (by decide) (by decide)⟩
        · exact ⟨_, l ++ [1], rfl, hs5, by simp, by simp [hl], hb.add (by decide) (by decide)⟩
      · obtain ⟨st4, l, rfl, hs4, rfl, hl, hb⟩ := hI
        simp! only
        rw [List.length_map, List.length_range] at hl
        exact ok_pass ⟨_, l, rfl, hs4, by omega, hb⟩
    · exact ok_pass ⟨_, l3, rfl, hs3, hl3, hb3⟩
  obtain ⟨st4, l4, rfl, hs4, hl4, hb4⟩ := hI
  refine ok_seq (ok_ret ?_)
  simp! only
  exact ⟨l4, st4, rfl, ⟨⟨hl4.1, by omega⟩, hb4⟩, hs4⟩
theorem law_counts_ok {T : List Int} {w : Nat} (hd : ds[f]? = some D__law_counts) (h : Tab T) (hw : w ≤ 100000) : Ok (callD ds q (k + 1) f [.d (.tuple (T.map .int)), .d (.int w)]) fun r => r = (.own ((cnts T w).map .int), [.d (.tuple (T.map .int)), .d (.int w)]) := by
  obtain ⟨h1, h2⟩ := h.1
  refine ok_callD hd rfl ?_
  simp only [D__law_counts, B__law_counts]
  simp! only
  refine sq fun K hK => ok_asg ?_
  simp! only
  refine hK _ ?_
  refine sqm (fun e => ∃ (o3 o4 : Option W), e = [some (.d (.tuple (T.map .int))), some (.d (.int w)), some (.own ((cnts T w).map .int)), o3, o4]) (ok_for ?_) fun e hI => ?_
  · simp! only
    refine ⟨inR_of (by omega) (by omega), ?_⟩
    refine ok_forI (fun n e => ∃ (o3 o4 : Option W), e = [some (.d (.tuple (T.map .int))), some (.d (.int w)), some (.own (((List.range n).map fun s => ones T s w).map .int)), o3, o4]) ⟨_, _, rfl⟩ (fun n x e hx hI => ?_) fun e hI => ?_
    · obtain ⟨o3, o4, rfl⟩ := hI
      have hn : n < T.length := by have := (List.getElem?_eq_some_iff.mp hx).1; simpa using this
      have ex : x = .int n := by
        rw [List.getElem?_map, List.getElem?_range hn] at hx
        cases hx; rfl
      subst ex
      simp! only
      refine ok_seq (ok_app ?_)
      simp! only
      refine ⟨inR_of (by omega) (by omega), szOk_of (by omega), ?_⟩
      refine ok_lc (fun _ => true) (fun k : Nat => .int (T.getD ((n + k) % T.length) 0)) (fun k hk => ?_) ?_
      · have e : Int.fmod ((n : Int) + (k : Int)) (T.length : Int) = (((n + k) % T.length : Nat) : Int) := by rw [← Int.natCast_add, fmod_nat]
        simp! only [at_tab h e]
        omega
      simp! only [intsOf_map']
      rw [ones_range]
      refine ⟨szOk_of (by omega), ok_pass ?_⟩
      simp! only
      refine ⟨some (.d (.int n)), o4, ?_⟩
      rw [List.range_succ, List.map_append, List.map_append]
      rfl
    · obtain ⟨o3, o4, rfl⟩ := hI
      simp! only
      exact ⟨_, _, rfl⟩
  obtain ⟨o3, o4, rfl⟩ := hI
  refine ok_seq (ok_ret ?_)
  simp! only
end
end Mini

-- P11
set_option Elab.async false
set_option linter.all false
set_option maxRecDepth 100000
set_option maxHeartbeats 4000000
/-! small task sets drawn. -/
namespace Mini
open PySem
local macro_rules
  | `(tactic| simp! only) => `(tactic| simp only [ev, lstOf, tupD, mathf, true_implies, imp_self, implies_true, nc0, nc1, nc2, nc3, nc4, nc5, nc6, nc7, nc8, nc9, nc10, nc11, nc12, Int.reduceBEq, Int.reduceLT, Int.reduceLE, Int.reduceEq, Int.reduceAdd, Int.reduceSub, Int.reduceMul, Int.reduceNeg, Int.reduceToNat, oks_ite, oks_none, if_false_right, if_false_left, filt_f, filt_t, List.length_map, List.length_range, Bool.not_eq_false, beq_self_eq_true, Bool.true_eq_false, asInt, asOwn, evA, evI, evT, oks_some, oks_bind, oks_map, oks_guard, oks_guard', Mini.R.data, Mini.R.w, Mini.W.data, getz, gets, Option.map_some, Option.bind_some, Option.isNone_none, Option.isNone_some, binop, c_lt, c_le, c_gt, c_ge, c_eq, c_ne, c_is, c_is_i, c_is_b, c_is_s, c_is_l, c_is_t, c_isn, c_isn_i, c_isn_b, c_isn_s, c_isn_l, c_isn_t, c_eq_b, c_ne_b, c_eq_n, c_ne_n, c_eq_s, c_ne_s, c_eq_is, c_ne_is, c_eq_ns, c_ne_ns, c_eq_ni, c_ne_ni, c_eq_in, c_ne_in, c_eq_sn, c_ne_sn, c_eq_si, c_ne_si, truth, Mini.index, Mini.slice, Mini.part, Mini.builtin, Mini.items, isTy, callE, Mini.ws, datas, owned, Mini.back, keptOwn, frzs, frz, giveW, hid, wipe, resto, List.foldl_cons, List.foldl_nil, List.set_cons_zero, List.set_cons_succ, List.map_cons, List.map_nil, bindTg, bindFl, bindNs, nst, lastIs, Nat.reduceBEq, List.dropLast, List.zip_cons_cons, List.zip_nil_right, List.zip_nil_left, Nx_nx, Nx_rt, Nx_bk, Nx_ct, Lp_nx, Lp_ct, Lp_bk, Lp_rt, Rt_rt, Rt_nx, unhide_nil, unhide_nx, unhide_rt, unhide_one, fin0, fin1, fin2, fin3, fin4, fin5, fin6, fin7, fin8, rngL0, Option.getD_some, Option.getD_none, List.length_cons, List.length_nil, Nat.zero_add, Nat.reduceAdd, Nat.reduceEqDiff, Nat.succ_eq_add_one, ite_true, ite_false, if_true, if_false, reduceIte, reduceCtorEq, Bool.false_eq_true, Bool.not_true, Bool.not_false, List.nodup_cons, List.nodup_nil, List.not_mem_nil, List.mem_cons, not_false_eq_true, not_true_eq_false, and_true, true_and, and_self, or_self, or_false, false_or, setAll, Mini.start, repN, rep0, List.append_eq, List.nil_append, List.cons_append, Nat.reduceSub, Nat.reduceMul, Int.reduceNeg, List.mapM_cons, List.mapM_nil, Option.pure_def, Option.bind_eq_bind, List.any_nil, List.any_cons, List.isEmpty_cons, List.isEmpty_nil, Bool.and_true, Bool.true_and, Bool.and_false, Bool.false_and, Bool.or_false, Bool.or_true, Bool.false_or, Bool.true_or, beq_iff_eq, decide_eq_true_eq, Cf.quiet, frzAll, Option.map_none, Option.bind_none, List.append_nil, Nat.lt_irrefl, ite_self, Bool.not_eq_true', decide_true, decide_false, List.contains_cons, List.contains_nil, Mini.stored, Nat.not_lt_zero, Nat.reduceLT, Nat.reduceLeDiff])
  | `(tactic| simp! only [$ls,*]) => `(tactic| simp only [ev, lstOf, tupD, mathf, true_implies, imp_self, implies_true, nc0, nc1, nc2, nc3, nc4, nc5, nc6, nc7, nc8, nc9, nc10, nc11, nc12, Int.reduceBEq, Int.reduceLT, Int.reduceLE, Int.reduceEq, Int.reduceAdd, Int.reduceSub, Int.reduceMul, Int.reduceNeg, Int.reduceToNat, oks_ite, oks_none, if_false_right, if_false_left, filt_f, filt_t, List.length_map, List.length_range, Bool.not_eq_false, beq_self_eq_true, Bool.true_eq_false, asInt, asOwn, evA, evI, evT, oks_some, oks_bind, oks_map, oks_guard, oks_guard', Mini.R.data, Mini.R.w, Mini.W.data, getz, gets, Option.map_some, Option.bind_some, Option.isNone_none, Option.isNone_some, binop, c_lt, c_le, c_gt, c_ge, c_eq, c_ne, c_is, c_is_i, c_is_b, c_is_s, c_is_l, c_is_t, c_isn, c_isn_i, c_isn_b, c_isn_s, c_isn_l, c_isn_t, c_eq_b, c_ne_b, c_eq_n, c_ne_n, c_eq_s, c_ne_s, c_eq_is, c_ne_is, c_eq_ns, c_ne_ns, c_eq_ni, c_ne_ni, c_eq_in, c_ne_in, c_eq_sn, c_ne_sn, c_eq_si, c_ne_si, truth, Mini.index, Mini.slice, Mini.part, Mini.builtin, Mini.items, isTy, callE, Mini.ws, datas, owned, Mini.back, keptOwn, frzs, frz, giveW, hid, wipe, resto, List.foldl_cons, List.foldl_nil, List.set_cons_zero, List.set_cons_succ, List.map_cons, List.map_nil, bindTg, bindFl, bindNs, nst, lastIs, Nat.reduceBEq, List.dropLast, List.zip_cons_cons, List.zip_nil_right, List.zip_nil_left, Nx_nx, Nx_rt, Nx_bk, Nx_ct, Lp_nx, Lp_ct, Lp_bk, Lp_rt, Rt_rt, Rt_nx, unhide_nil, unhide_nx, unhide_rt, unhide_one, fin0, fin1, fin2, fin3, fin4, fin5, fin6, fin7, fin8, rngL0, Option.getD_some, Option.getD_none, List.length_cons, List.length_nil, Nat.zero_add, Nat.reduceAdd, Nat.reduceEqDiff, Nat.succ_eq_add_one, ite_true, ite_false, if_true, if_false, reduceIte, reduceCtorEq, Bool.false_eq_true, Bool.not_true, Bool.not_false, List.nodup_cons, List.nodup_nil, List.not_mem_nil, List.mem_cons, not_false_eq_true, not_true_eq_false, and_true, true_and, and_self, or_self, or_false, false_or, setAll, Mini.start, repN, rep0, List.append_eq, List.nil_append, List.cons_append, Nat.reduceSub, Nat.reduceMul, Int.reduceNeg, List.mapM_cons, List.mapM_nil, Option.pure_def, Option.bind_eq_bind, List.any_nil, List.any_cons, List.isEmpty_cons, List.isEmpty_nil, Bool.and_true, Bool.true_and, Bool.and_false, Bool.false_and, Bool.or_false, Bool.or_true, Bool.false_or, Bool.true_or, beq_iff_eq, decide_eq_true_eq, Cf.quiet, frzAll, Option.map_none, Option.bind_none, List.append_nil, Nat.lt_irrefl, ite_self, Bool.not_eq_true', decide_true, decide_false, List.contains_cons, List.contains_nil, Mini.stored, Nat.not_lt_zero, Nat.reduceLT, Nat.reduceLeDiff, $ls,*])
def B__law_small : S := (.seq (.asg 2 (.lst .nil)) (.seq (.for (.rng1 (.bin .add (.lit (.int 1)) (.call 1 (.cons (.var 0) (.cons (.var 1) .nil))))) [3] true (.seq (.asg 4 (.call 2 (.cons (.var 0) (.cons (.lst (.cons (.lit (.int 2)) (.cons (.lit (.int 3)) (.cons (.lit (.int 4)) (.cons (.lit (.int 4)) (.cons (.lit (.int 6)) (.cons (.lit (.int 6)) (.cons (.lit (.int 8)) (.cons (.lit (.int 12)) (.cons (.lit (.int 12)) .nil)))))))))) .nil)))) (.seq (.asg 5 (.bi .min2 (.cons (.bin .add (.lit (.int 1)) (.call 1 (.cons (.var 0) (.cons (.bin .add (.lit (.int 1)) (.bin .fdiv (.var 4) (.lit (.int 3)))) .nil)))) (.cons (.lit (.int 20)) .nil)))) (.seq (.asg 6 (.call 2 (.cons (.var 0) (.cons (.lst (.cons (.var 4) (.cons (.var 4) (.cons (.bi .max2 (.cons (.lit (.int 1)) (.cons (.bin .sub (.var 4) (.lit (.int 1))) .nil))) (.cons (.bin .add (.var 5) (.call 1 (.cons (.var 0) (.cons (.lit (.int 9)) .nil)))) (.cons (.bin .add (.lit (.int 1)) (.call 1 (.cons (.var 0) (.cons (.lit (.int 30)) .nil)))) .nil)))))) .nil)))) (.seq (.app 2 (.tup (.cons (.var 5) (.cons (.var 6) (.cons (.var 4) .nil))))) .pass))))) (.seq (.ret (.bi .tuple (.cons (.var 2) .nil))) .pass)))
/-- 0:_law_row 1:_law_many 2:_law_found 3:_law_k 4:_law_gap 5:_law_cost 6:_law_deadline -/
def D__law_small : D := ⟨2, 7, B__law_small⟩
/-- a task of the small sets -/
def Sm (t : Int × Int × Int) : Prop := (1 ≤ t.1 ∧ t.1 ≤ 1 + t.2.2 / 3 ∧ t.1 ≤ 20) ∧ (1 ≤ t.2.1 ∧ t.2.1 ≤ 30) ∧ (t.2.2 ∈ [2, 3, 4, 6, 8, 12] ∧ 2 ≤ t.2.2 ∧ t.2.2 ≤ 12)
theorem Sm.ok {t : Int × Int × Int} (h : Sm t) : TkOk t := by
  obtain ⟨⟨h1, _, h2⟩, ⟨h3, h4⟩, _, h5, h6⟩ := h
  exact ⟨⟨h1, h2⟩, ⟨h3, by omega⟩, by omega, by omega⟩
section
variable {ds : List D} {q : Bool} {k f : Nat} {ns : List Int} {st : List PyData}
theorem law_small_ok {m : Int} (h1 : ds[1]? = some dTaken) (h2 : ds[2]? = some dPick) (hd : ds[f]? = some D__law_small) (hs : Row ns st) (m0 : 1 ≤ m) (m1 : m ≤ 20) :
    Ok (callD ds q (k + 3) f [.own st, .d (.int m)]) fun r => ∃ (T : List (Int × Int × Int)) (st' : List PyData), r = (.d (.tuple (T.map tk)), [.own st', .d (.int m)]) ∧ (1 ≤ T.length ∧ (T.length : Int) ≤ m ∧ ∀ t ∈ T, Sm t) ∧ Row ns st' := by
  refine ok_callD hd rfl ?_
  simp only [D__law_small, B__law_small]
  simp! only
  refine sq fun K hK => ok_asg ?_
  simp! only
  refine hK _ (sq fun K1 hK1 => ok_for ?_)
  simp! only
  refine (taken_ok h1 hs (by omega) (by omega)).imp fun p hp => ?_
  obtain ⟨r, st1, rfl, r0, r1, hs1⟩ := hp
  simp! only
  refine ⟨inR_of (by omega) (by omega), ?_⟩
  refine ok_forI (fun n e => ∃ (st : List PyData) (T : List (Int × Int × Int)) (o3 o4 o5 o6 : Option W), e = [some (.own st), some (.d (.int m)), some (.own (T.map tk)), o3, o4, o5, o6] ∧ Row ns st ∧ T.length = n ∧ ∀ t ∈ T, Sm t) ⟨_, [], _, _, _, _, rfl, hs1, rfl, by simp⟩ (fun n y e hy hI => ?_) fun e hI => ?_
  · obtain ⟨st2, T, o3, o4, o5, o6, rfl, hs2, hl, hT⟩ := hI
    obtain ⟨rfl, hlt⟩ := rngL_get hy
    simp! only
    refine sq fun K2 hK2 => ok_asg ?_
    simp! only
    refine (pick_ok h1 h2 hs2 (.inl rfl) (by simp) (by simp)).imp fun p hp => ?_
    obtain ⟨g0, st3, rfl, hg0, hs3⟩ := hp
    obtain ⟨g, rfl, hg, hg1, hg2⟩ : ∃ g : Int, g0 = .int g ∧ g ∈ [2, 3, 4, 6, 8, 12] ∧ 2 ≤ g ∧ g ≤ 12 := by
      simp only [List.mem_cons, List.not_mem_nil, or_false] at hg0
      rcases hg0 with rfl | rfl | rfl | rfl | rfl | rfl | rfl | rfl | rfl <;> exact ⟨_, rfl, by simp, by decide, by decide⟩
    simp! only
    refine hK2 _ (sq fun K3 hK3 => ok_asg ?_)
    simp! only
    have e3 : Int.fdiv g 3 = g / 3 := Int.fdiv_eq_ediv_of_nonneg _ (by decide)
    simp only [e3]
    refine ⟨by decide, ?_⟩
    refine (taken_ok h1 hs3 (by omega) (by omega)).imp fun p hp => ?_
    obtain ⟨c0, st4, rfl, c1, c2, hs4⟩ := hp
    simp! only
    have cb : 1 ≤ (if (20 : Int) < 1 + c0 then 20 else 1 + c0) ∧ (if (20 : Int) < 1 + c0 then 20 else 1 + c0) ≤ 1 + g / 3 ∧ (if (20 : Int) < 1 + c0 then 20 else 1 + c0) ≤ 20 := by split <;> omega
    generalize (if (20 : Int) < 1 + c0 then 20 else 1 + c0) = c at cb ⊢
    refine hK3 _ (sq fun K4 hK4 => ok_asg ?_)
    simp! only
    refine (taken_ok h1 hs4 (by decide) (by decide)).imp fun p hp => ?_
    obtain ⟨a, st5, rfl, a0, a1, hs5⟩ := hp
    simp! only
    refine (taken_ok h1 hs5 (by decide) (by decide)).imp fun p hp => ?_
    obtain ⟨b, st6, rfl, b0, b1, hs6⟩ := hp
    simp! only
    refine (pick_ok h1 h2 hs6 (.inl rfl) (by simp) (by simp)).imp fun p hp => ?_
    obtain ⟨d0, st7, rfl, hd0, hs7⟩ := hp
    have mx : 1 ≤ (if (1 : Int) < g - 1 then g - 1 else 1) ∧ (if (1 : Int) < g - 1 then g - 1 else 1) ≤ 12 := by split <;> omega
    obtain ⟨d, rfl, hd1, hd2⟩ : ∃ d : Int, d0 = .int d ∧ 1 ≤ d ∧ d ≤ 30 := by
      simp only [List.mem_cons, List.not_mem_nil, or_false] at hd0
      rcases hd0 with rfl | rfl | rfl | rfl | rfl
      · exact ⟨_, rfl, by omega, by omega⟩
      · exact ⟨_, rfl, by omega, by omega⟩
      · exact ⟨_, rfl, by omega, by omega⟩
      · exact ⟨_, rfl, by omega, by omega⟩
      · exact ⟨_, rfl, by omega, by omega⟩
    simp! only
    refine hK4 _ (ok_seq (ok_app ?_))
    simp! only
    refine ⟨szOk_of (by omega), ok_pass ⟨_, T ++ [(c, d, g)], _, _, _, _, by rw [List.map_append]; rfl, hs7, by simp [hl], ?_⟩⟩
    intro t ht
    rcases List.mem_append.mp ht with ht | ht
    · exact hT t ht
    · obtain rfl := List.mem_singleton.mp ht
      exact ⟨cb, ⟨hd1, hd2⟩, hg, hg1, hg2⟩
  · obtain ⟨st2, T, o3, o4, o5, o6, rfl, hs2, hl, hT⟩ := hI
    rw [rngL_len] at hl
    simp! only
    refine hK1 _ (ok_seq (ok_ret ?_))
    simp! only
    exact ⟨T, _, rfl, ⟨by omega, by omega, hT⟩, hs2⟩
end
end Mini

-- P12
set_option Elab.async false
set_option linter.all false
set_option maxRecDepth 100000
set_option maxHeartbeats 4000000
/-! work, density, demand, busy periods of task sets: the plain side. -/
namespace Mini
open PySem
abbrev Tk := Int × Int × Int
/-- the work that has arrived below a length -/
def wk (T : List Tk) (L : Int) : Int := (T.map fun t => t.1 * ((L + t.2.2 - 1) / t.2.2)).sum
/-- the work due by a length -/
def dm (T : List Tk) (L : Int) : Int := (T.map fun t => if t.2.1 ≤ L then t.1 * (1 + (L - t.2.1) / t.2.2) else 0).sum
def wholeT (T : List Tk) : Int := T.foldl (fun a t => a * t.2.2) 1
def rate (T : List Tk) (W : Int) : Int := (T.map fun t => t.1 * (W / t.2.2)).sum
def denseT (T : List Tk) : Bool := decide (wholeT T < rate T (wholeT T))
def cst (T : List Tk) : Int := (T.map fun t => t.1).sum
theorem ceil_eq {L g : Int} (h : 0 < g) : -((-L) / g) = (L + g - 1) / g := by
  have a1 := Int.emod_nonneg (-L) (show g ≠ 0 by omega)
  have a2 := Int.emod_lt_of_pos (-L) h
  have a3 := Int.emod_add_mul_ediv (-L) g
  have b1 := Int.emod_nonneg (L + g - 1) (show g ≠ 0 by omega)
  have b2 := Int.emod_lt_of_pos (L + g - 1) h
  have b3 := Int.emod_add_mul_ediv (L + g - 1) g
  generalize (-L) / g = a at *
  generalize (L + g - 1) / g = b at *
  generalize (-L) % g = r at *
  generalize (L + g - 1) % g = r' at *
  have e : g * (a + b) = g * a + g * b := Int.mul_add _ _ _
  rcases Int.lt_trichotomy (a + b) 0 with c | c | c
  · have : g * (a + b) ≤ g * (-1) := Int.mul_le_mul_of_nonneg_left (by omega) (by omega)
    omega
  · omega
  · have : g * 1 ≤ g * (a + b) := Int.mul_le_mul_of_nonneg_left (by omega) (by omega)
    omega
theorem ceil_le {L g : Int} (h : 1 ≤ g) (h0 : 0 ≤ L) : 0 ≤ (L + g - 1) / g ∧ (L + g - 1) / g ≤ L := by
  refine ⟨Int.ediv_nonneg (by omega) (by omega), ?_⟩
  have : (L + g - 1) / g < L + 1 := Int.ediv_lt_of_lt_mul (by omega) (by
    have : (L + 1) * g = L * g + g := by rw [Int.add_mul, Int.one_mul]
    have : L * 1 ≤ L * g := Int.mul_le_mul_of_nonneg_left h h0
    omega)
  omega
theorem ceil_mono {L L' g : Int} (h : 1 ≤ g) (l : L ≤ L') : (L + g - 1) / g ≤ (L' + g - 1) / g := Int.ediv_le_ediv (by omega) (by omega)
theorem ceil_dvd {H g : Int} (h : 1 ≤ g) (d : g ∣ H) : (H + g - 1) / g = H / g := by
  obtain ⟨x, rfl⟩ := d
  rw [Int.mul_ediv_cancel_left _ (by omega), show g * x + g - 1 = (g - 1) + g * x by omega, Int.add_mul_ediv_left _ _ (by omega), Int.ediv_eq_zero_of_lt (by omega) (by omega)]
  omega
theorem sumLe {α : Type} {f g : α → Int} : ∀ {l : List α}, (∀ x ∈ l, f x ≤ g x) → (l.map f).sum ≤ (l.map g).sum
  | [], _ => by simp
  | x :: l, h => by
    have := sumLe (l := l) fun y hy => h y (List.mem_cons_of_mem _ hy)
    have := h x List.mem_cons_self
    simp only [List.map_cons, List.sum_cons]
    omega
theorem sum_bd {α : Type} {f : α → Int} {B : Int} : ∀ {l : List α}, (∀ x ∈ l, 0 ≤ f x ∧ f x ≤ B) → 0 ≤ (l.map f).sum ∧ (l.map f).sum ≤ l.length * B
  | [], _ => by simp
  | x :: l, h => by
    have := sum_bd (l := l) fun y hy => h y (List.mem_cons_of_mem _ hy)
    have := h x List.mem_cons_self
    simp only [List.map_cons, List.sum_cons, List.length_cons]
    have e : ((l.length + 1 : Nat) : Int) * B = l.length * B + B := by rw [Int.natCast_add, Int.add_mul]; simp
    omega
theorem sum_mul {α : Type} {f : α → Int} {c : Int} : ∀ {l : List α}, (l.map fun x => c * f x).sum = c * (l.map f).sum
  | [] => by simp
  | x :: l => by simp [sum_mul (l := l), Int.mul_add]
theorem sum_eq {α : Type} {f g : α → Int} {l : List α} (h : ∀ x ∈ l, f x = g x) : (l.map f).sum = (l.map g).sum := by
  rw [List.map_congr_left h]
/-- what the sums want -/
def Ts (T : List Tk) : Prop := (1 ≤ T.length ∧ T.length ≤ 4) ∧ ∀ t ∈ T, TkOk t
theorem Ts.pos {T : List Tk} (h : Ts T) : ∀ t ∈ T, 1 ≤ t.1 ∧ 1 ≤ t.2.1 ∧ 1 ≤ t.2.2 := fun t ht => ⟨(h.2 t ht).1.1, (h.2 t ht).2.1.1, (h.2 t ht).2.2.1⟩
section
variable {T : List Tk}
theorem wk_mono (h : ∀ t ∈ T, 0 ≤ t.1 ∧ 1 ≤ t.2.2) {L L' : Int} (l : L ≤ L') : wk T L ≤ wk T L' :=
  sumLe fun t ht => Int.mul_le_mul_of_nonneg_left (ceil_mono (h t ht).2 l) (h t ht).1
theorem wk_one (h : ∀ t ∈ T, 1 ≤ t.2.2) : wk T 1 = cst T := sum_eq fun t ht => by
  have := h t ht
  rw [show 1 + t.2.2 - 1 = t.2.2 by omega, Int.ediv_self (by omega), Int.mul_one]
theorem wholeT_pos : ∀ {T : List Tk} {a : Int}, 1 ≤ a → (∀ t ∈ T, 1 ≤ t.2.2) → 1 ≤ T.foldl (fun a t => a * t.2.2) a
  | [], a, h, _ => h
  | t :: T, a, h, h2 => wholeT_pos (T := T) (by
      have := h2 t List.mem_cons_self
      have : 1 * 1 ≤ a * t.2.2 := Int.mul_le_mul h this (by omega) (by omega)
      show 1 ≤ a * t.2.2
      omega) fun u hu => h2 u (List.mem_cons_of_mem _ hu)
theorem wholeT_le : ∀ {T : List Tk} {a : Int}, 0 ≤ a → (∀ t ∈ T, 1 ≤ t.2.2 ∧ t.2.2 ≤ 60) → T.foldl (fun a t => a * t.2.2) a ≤ a * 60 ^ T.length
  | [], a, h, _ => by simp
  | t :: T, a, h, h2 => by
    have := h2 t List.mem_cons_self
    have ih := wholeT_le (T := T) (a := a * t.2.2) (Int.mul_nonneg h (by omega)) fun u hu => h2 u (List.mem_cons_of_mem _ hu)
    have : a * t.2.2 * 60 ^ T.length ≤ a * 60 * 60 ^ T.length := Int.mul_le_mul_of_nonneg_right (Int.mul_le_mul_of_nonneg_left this.2 h) (Int.pow_nonneg (by decide))
    rw [List.length_cons, Int.pow_succ, Int.mul_comm (60 ^ T.length) 60, ← Int.mul_assoc]
    exact Int.le_trans ih this
theorem wholeT_dvd : ∀ {T : List Tk} {a : Int}, a ∣ T.foldl (fun a t => a * t.2.2) a ∧ ∀ t ∈ T, t.2.2 ∣ T.foldl (fun a t => a * t.2.2) a
  | [], a => ⟨Int.dvd_refl _, by simp⟩
  | t :: T, a => by
    obtain ⟨h1, h2⟩ := wholeT_dvd (T := T) (a := a * t.2.2)
    refine ⟨Int.dvd_trans (Int.dvd_mul_right _ _) h1, fun u hu => ?_⟩
    rcases List.mem_cons.mp hu with rfl | hu
    · exact Int.dvd_trans (Int.dvd_mul_left _ _) h1
    · exact h2 u hu
/-- a set that is not too denseT has all its work done by each common multiple of the gaps -/
theorem wk_common (h : ∀ t ∈ T, 1 ≤ t.2.2) (nd : denseT T = false) {H : Int} (hH : 1 ≤ H) (hd : ∀ t ∈ T, t.2.2 ∣ H) : wk T H ≤ H := by
  have wp : 1 ≤ wholeT T := wholeT_pos (by decide) h
  have e1 : wk T H = (T.map fun t => t.1 * (H / t.2.2)).sum := sum_eq fun t ht => by rw [ceil_dvd (h t ht) (hd t ht)]
  have e2 : wholeT T * wk T H = H * rate T (wholeT T) := by
    rw [e1, rate, ← sum_mul, ← sum_mul]
    refine sum_eq fun t ht => ?_
    obtain ⟨x, hx⟩ := hd t ht
    obtain ⟨y, hy⟩ := (wholeT_dvd (T := T) (a := 1)).2 t ht
    have gp := h t ht
    change wholeT T = _ at hy
    rw [hx, hy, Int.mul_ediv_cancel_left _ (by omega), Int.mul_ediv_cancel_left _ (by omega)]
    generalize t.2.2 = g
    rw [Int.mul_assoc, Int.mul_assoc, Int.mul_left_comm y, Int.mul_left_comm x, Int.mul_comm y x]
  have nd' : rate T (wholeT T) ≤ wholeT T := by simpa [denseT] using nd
  have e3 : wholeT T * wk T H ≤ wholeT T * H := by
    rw [e2, Int.mul_comm (wholeT T) H]
    exact Int.mul_le_mul_of_nonneg_left nd' (by omega)
  exact Int.le_of_mul_le_mul_left e3 (by omega)
/-- the busy period -/
def Busy (T : List Tk) (b : Int) : Prop := 1 ≤ b ∧ wk T b ≤ b ∧ ∀ x, 1 ≤ x → x < b → x < wk T x
theorem least_nat {P : Nat → Prop} : ∀ n, P n → ∃ m, m ≤ n ∧ P m ∧ ∀ k, k < m → ¬ P k := by
  intro n
  induction n using Nat.strongRecOn with
  | ind n ih =>
    intro h
    by_cases c : ∃ k, k < n ∧ P k
    · obtain ⟨k, hk, hp⟩ := c
      obtain ⟨m, hm, h2⟩ := ih k hk hp
      exact ⟨m, by omega, h2⟩
    · exact ⟨n, Nat.le_refl _, h, fun k hk hp => c ⟨k, hk, hp⟩⟩
theorem busy_ex {H : Int} (hH : 1 ≤ H) (h : wk T H ≤ H) : ∃ b, Busy T b ∧ b ≤ H := by
  obtain ⟨m, h1, h2, h3⟩ := least_nat (P := fun n => wk T ((n : Int) + 1) ≤ (n : Int) + 1) (H - 1).toNat (by rw [show (((H - 1).toNat : Nat) : Int) + 1 = H by omega]; exact h)
  refine ⟨(m : Int) + 1, ⟨by omega, h2, fun x x1 x2 => ?_⟩, by omega⟩
  have := h3 (x - 1).toNat (by omega)
  rw [show (((x - 1).toNat : Nat) : Int) + 1 = x by omega] at this
  omega
/-- some length within the busy period is overfull -/
def Full (T : List Tk) (b : Int) : Prop := ∃ L, 1 ≤ L ∧ L ≤ b ∧ L < dm T L
theorem dm_zero (h : ∀ t ∈ T, 1 ≤ t.2.1) : dm T 0 = 0 := by
  have : dm T 0 = (T.map fun _ => (0 : Int)).sum := sum_eq fun t ht => by
    have := h t ht
    rw [if_neg (by omega)]
  rw [this]
  have : ∀ l : List Tk, (l.map fun _ => (0 : Int)).sum = 0 := fun l => by induction l <;> simp_all
  exact this T
theorem divLeSelf {a b : Int} (ha : 0 ≤ a) (hb : 1 ≤ b) : a / b ≤ a := Int.ediv_le_self _ ha
theorem dm_max (h : ∀ t ∈ T, 1 ≤ t.2.2) {L : Int} : dm T L = (T.map fun t => t.1 * (if 0 < 1 + (L - t.2.1) / t.2.2 then 1 + (L - t.2.1) / t.2.2 else 0)).sum := sum_eq fun t ht => by
  have g := h t ht
  split
  · rename_i c
    have := Int.ediv_nonneg (a := L - t.2.1) (b := t.2.2) (by omega) (by omega)
    rw [if_pos (by omega)]
  · rename_i c
    have : (L - t.2.1) / t.2.2 < 0 := Int.ediv_neg_of_neg_of_pos (by omega) (by omega)
    rw [if_neg (by omega), Int.mul_zero]
end
end Mini

-- P13
set_option Elab.async false
set_option linter.all false
set_option maxRecDepth 100000
set_option maxHeartbeats 4000000
/-! work, density, demand, busy periods of task sets: the walks. -/
namespace Mini
open PySem
local macro_rules
  | `(tactic| simp! only) => `(tactic| simp only [ev, lstOf, tupD, mathf, true_implies, imp_self, implies_true, nc0, nc1, nc2, nc3, nc4, nc5, nc6, nc7, nc8, nc9, nc10, nc11, nc12, Int.reduceBEq, Int.reduceLT, Int.reduceLE, Int.reduceEq, Int.reduceAdd, Int.reduceSub, Int.reduceMul, Int.reduceNeg, Int.reduceToNat, oks_ite, oks_none, if_false_right, if_false_left, filt_f, filt_t, List.length_map, List.length_range, Bool.not_eq_false, beq_self_eq_true, Bool.true_eq_false, asInt, asOwn, evA, evI, evT, oks_some, oks_bind, oks_map, oks_guard, oks_guard', Mini.R.data, Mini.R.w, Mini.W.data, getz, gets, Option.map_some, Option.bind_some, Option.isNone_none, Option.isNone_some, binop, c_lt, c_le, c_gt, c_ge, c_eq, c_ne, c_is, c_is_i, c_is_b, c_is_s, c_is_l, c_is_t, c_isn, c_isn_i, c_isn_b, c_isn_s, c_isn_l, c_isn_t, c_eq_b, c_ne_b, c_eq_n, c_ne_n, c_eq_s, c_ne_s, c_eq_is, c_ne_is, c_eq_ns, c_ne_ns, c_eq_ni, c_ne_ni, c_eq_in, c_ne_in, c_eq_sn, c_ne_sn, c_eq_si, c_ne_si, truth, Mini.index, Mini.slice, Mini.part, Mini.builtin, Mini.items, isTy, callE, Mini.ws, datas, owned, Mini.back, keptOwn, frzs, frz, giveW, hid, wipe, resto, List.foldl_cons, List.foldl_nil, List.set_cons_zero, List.set_cons_succ, List.map_cons, List.map_nil, bindTg, bindFl, bindNs, nst, lastIs, Nat.reduceBEq, List.dropLast, List.zip_cons_cons, List.zip_nil_right, List.zip_nil_left, Nx_nx, Nx_rt, Nx_bk, Nx_ct, Lp_nx, Lp_ct, Lp_bk, Lp_rt, Rt_rt, Rt_nx, unhide_nil, unhide_nx, unhide_rt, unhide_one, fin0, fin1, fin2, fin3, fin4, fin5, fin6, fin7, fin8, rngL0, Option.getD_some, Option.getD_none, List.length_cons, List.length_nil, Nat.zero_add, Nat.reduceAdd, Nat.reduceEqDiff, Nat.succ_eq_add_one, ite_true, ite_false, if_true, if_false, reduceIte, reduceCtorEq, Bool.false_eq_true, Bool.not_true, Bool.not_false, List.nodup_cons, List.nodup_nil, List.not_mem_nil, List.mem_cons, not_false_eq_true, not_true_eq_false, and_true, true_and, and_self, or_self, or_false, false_or, setAll, Mini.start, repN, rep0, List.append_eq, List.nil_append, List.cons_append, Nat.reduceSub, Nat.reduceMul, Int.reduceNeg, List.mapM_cons, List.mapM_nil, Option.pure_def, Option.bind_eq_bind, List.any_nil, List.any_cons, List.isEmpty_cons, List.isEmpty_nil, Bool.and_true, Bool.true_and, Bool.and_false, Bool.false_and, Bool.or_false, Bool.or_true, Bool.false_or, Bool.true_or, beq_iff_eq, decide_eq_true_eq, Cf.quiet, frzAll, Option.map_none, Option.bind_none, List.append_nil, Nat.lt_irrefl, ite_self, Bool.not_eq_true', decide_true, decide_false, List.contains_cons, List.contains_nil, Mini.stored, Nat.not_lt_zero, Nat.reduceLT, Nat.reduceLeDiff])
  | `(tactic| simp! only [$ls,*]) => `(tactic| simp only [ev, lstOf, tupD, mathf, true_implies, imp_self, implies_true, nc0, nc1, nc2, nc3, nc4, nc5, nc6, nc7, nc8, nc9, nc10, nc11, nc12, Int.reduceBEq, Int.reduceLT, Int.reduceLE, Int.reduceEq, Int.reduceAdd, Int.reduceSub, Int.reduceMul, Int.reduceNeg, Int.reduceToNat, oks_ite, oks_none, if_false_right, if_false_left, filt_f, filt_t, List.length_map, List.length_range, Bool.not_eq_false, beq_self_eq_true, Bool.true_eq_false, asInt, asOwn, evA, evI, evT, oks_some, oks_bind, oks_map, oks_guard, oks_guard', Mini.R.data, Mini.R.w, Mini.W.data, getz, gets, Option.map_some, Option.bind_some, Option.isNone_none, Option.isNone_some, binop, c_lt, c_le, c_gt, c_ge, c_eq, c_ne, c_is, c_is_i, c_is_b, c_is_s, c_is_l, c_is_t, c_isn, c_isn_i, c_isn_b, c_isn_s, c_isn_l, c_isn_t, c_eq_b, c_ne_b, c_eq_n, c_ne_n, c_eq_s, c_ne_s, c_eq_is, c_ne_is, c_eq_ns, c_ne_ns, c_eq_ni, c_ne_ni, c_eq_in, c_ne_in, c_eq_sn, c_ne_sn, c_eq_si, c_ne_si, truth, Mini.index, Mini.slice, Mini.part, Mini.builtin, Mini.items, isTy, callE, Mini.ws, datas, owned, Mini.back, keptOwn, frzs, frz, giveW, hid, wipe, resto, List.foldl_cons, List.foldl_nil, List.set_cons_zero, List.set_cons_succ, List.map_cons, List.map_nil, bindTg, bindFl, bindNs, nst, lastIs, Nat.reduceBEq, List.dropLast, List.zip_cons_cons, List.zip_nil_right, List.zip_nil_left, Nx_nx, Nx_rt, Nx_bk, Nx_ct, Lp_nx, Lp_ct, Lp_bk, Lp_rt, Rt_rt, Rt_nx, unhide_nil, unhide_nx, unhide_rt, unhide_one, fin0, fin1, fin2, fin3, fin4, fin5, fin6, fin7, fin8, rngL0, Option.getD_some, Option.getD_none, List.length_cons, List.length_nil, Nat.zero_add, Nat.reduceAdd, Nat.reduceEqDiff, Nat.succ_eq_add_one, ite_true, ite_false, if_true, if_false, reduceIte, reduceCtorEq, Bool.false_eq_true, Bool.not_true, Bool.not_false, List.nodup_cons, List.nodup_nil, List.not_mem_nil, List.mem_cons, not_false_eq_true, not_true_eq_false, and_true, true_and, and_self, or_self, or_false, false_or, setAll, Mini.start, repN, rep0, List.append_eq, List.nil_append, List.cons_append, Nat.reduceSub, Nat.reduceMul, Int.reduceNeg, List.mapM_cons, List.mapM_nil, Option.pure_def, Option.bind_eq_bind, List.any_nil, List.any_cons, List.isEmpty_cons, List.isEmpty_nil, Bool.and_true, Bool.true_and, Bool.and_false, Bool.false_and, Bool.or_false, Bool.or_true, Bool.false_or, Bool.true_or, beq_iff_eq, decide_eq_true_eq, Cf.quiet, frzAll, Option.map_none, Option.bind_none, List.append_nil, Nat.lt_irrefl, ite_self, Bool.not_eq_true', decide_true, decide_false, List.contains_cons, List.contains_nil, Mini.stored, Nat.not_lt_zero, Nat.reduceLT, Nat.reduceLeDiff, $ls,*])
def B_need_task (c_is_in : Nat) : S := (.seq (.ite (.not (.call c_is_in (.cons (.var 1) (.cons (.lit (.int 0)) (.cons (.bin .sub (.bi .len (.cons (.var 0) .nil)) (.lit (.int 1))) .nil))))) (.seq .bad .pass) .pass) .pass)
/-- 0:tasks 1:task -/
def D_need_task (c_is_in : Nat) : D := ⟨2, 2, B_need_task c_is_in⟩
def B_busy_of (c_is_too_dense : Nat) (c_work_in : Nat) : S := (.seq (.ite (.call c_is_too_dense (.cons (.var 0) .nil)) (.seq (.ret .none) .pass) .pass) (.seq (.asg 2 (.gen .sum (.src (.var 0)) [3] true (.lit (.bool true)) (.idx (.var 3) (.lit (.int 0))))) (.seq (.whl (.cmp .gt (.call c_work_in (.cons (.var 0) (.cons (.var 2) .nil))) (.var 2)) (.seq (.asg 2 (.call c_work_in (.cons (.var 0) (.cons (.var 2) .nil)))) (.seq (.ite (.cmp .gt (.var 2) (.var 1)) (.seq .bad .pass) .pass) .pass))) (.seq (.ite (.cmp .gt (.var 2) (.var 1)) (.seq .bad .pass) .pass) (.seq (.ret (.var 2)) .pass)))))
/-- 0:some 1:most 2:length 3:task -/
def D_busy_of (c_is_too_dense : Nat) (c_work_in : Nat) : D := ⟨2, 4, B_busy_of c_is_too_dense c_work_in⟩
def B_is_too_dense : S := (.seq (.asg 1 (.lit (.int 1))) (.seq (.for (.src (.var 0)) [2] true (.seq (.asg 1 (.bin .mul (.var 1) (.idx (.var 2) (.lit (.int 2))))) .pass)) (.seq (.ret (.cmp .gt (.gen .sum (.src (.var 0)) [2] true (.lit (.bool true)) (.bin .mul (.idx (.var 2) (.lit (.int 0))) (.bin .fdiv (.var 1) (.idx (.var 2) (.lit (.int 2)))))) (.var 1))) .pass)))
/-- 0:some 1:wholeT 2:task -/
def D_is_too_dense : D := ⟨1, 3, B_is_too_dense⟩
def B_work_in : S := (.seq (.ret (.gen .sum (.src (.var 0)) [2] true (.lit (.bool true)) (.bin .mul (.idx (.var 2) (.lit (.int 0))) (.neg (.bin .fdiv (.neg (.var 1)) (.idx (.var 2) (.lit (.int 2)))))))) .pass)
/-- 0:some 1:length 2:task -/
def D_work_in : D := ⟨2, 3, B_work_in⟩
def B_overfull_of (c_demand_of : Nat) (c_work_in : Nat) : S := (.seq (.for (.rng2 (.lit (.int 1)) (.bin .add (.con "MOST_BUSY" (.int 5000)) (.lit (.int 1)))) [1] true (.seq (.ite (.cmp .gt (.call c_demand_of (.cons (.var 0) (.cons (.var 1) .nil))) (.var 1)) (.seq (.ret (.var 1)) .pass) .pass) (.seq (.ite (.cmp .le (.call c_work_in (.cons (.var 0) (.cons (.var 1) .nil))) (.var 1)) (.seq (.ret .none) .pass) .pass) .pass))) (.seq .bad .pass))
/-- 0:tasks 1:length -/
def D_overfull_of (c_demand_of : Nat) (c_work_in : Nat) : D := ⟨1, 2, B_overfull_of c_demand_of c_work_in⟩
def B_demand_of : S := (.seq (.ret (.gen .sum (.src (.var 0)) [2, 3, 4] false (.cmp .le (.var 3) (.var 1)) (.bin .mul (.var 2) (.bin .add (.lit (.int 1)) (.bin .fdiv (.bin .sub (.var 1) (.var 3)) (.var 4)))))) .pass)
/-- 0:tasks 1:length 2:cost 3:deadline 4:gap -/
def D_demand_of : D := ⟨2, 5, B_demand_of⟩
def B_with_deadline : S := (.seq (.unp [3, 4, 5] (.idx (.var 0) (.var 1))) (.seq (.ret (.tup (.star (.slc (.var 0) .none (.var 1)) (.cons (.tup (.cons (.var 3) (.cons (.var 2) (.cons (.var 5) .nil)))) (.star (.slc (.var 0) (.bin .add (.var 1) (.lit (.int 1))) .none) .nil))))) .pass))
/-- 0:tasks 1:task 2:deadline 3:cost 4:before 5:gap -/
def D_with_deadline : D := ⟨3, 6, B_with_deadline⟩
def B__law_busy (c__law_over : Nat) (c__law_work : Nat) : S := (.seq (.ite (.call c__law_over (.cons (.var 0) .nil)) (.seq (.ret .none) .pass) .pass) (.seq (.asg 2 (.lit (.int 1))) (.seq (.for (.rng1 (.bin .add (.var 1) (.lit (.int 1)))) [3] true (.seq (.ite (.cmp .gt (.var 2) (.var 1)) (.seq .brk .pass) .pass) (.seq (.asg 4 (.call c__law_work (.cons (.var 0) (.cons (.var 2) .nil)))) (.seq (.ite (.cmp .le (.var 4) (.var 2)) (.seq (.ret (.var 2)) .pass) .pass) (.seq (.asg 2 (.var 4)) .pass))))) (.seq (.ret (.lit (.str "many"))) .pass))))
/-- 0:_law_some 1:_law_most 2:_law_length 3:_law_turn 4:_law_work_here -/
def D__law_busy (c__law_over : Nat) (c__law_work : Nat) : D := ⟨2, 5, B__law_busy c__law_over c__law_work⟩
def B__law_over : S := (.seq (.par [2, 3] (.cons (.lit (.int 1)) (.cons (.lit (.int 0)) .nil))) (.seq (.for (.src (.var 0)) [1] true (.seq (.asg 2 (.bin .mul (.var 2) (.idx (.var 1) (.lit (.int 2))))) .pass)) (.seq (.for (.src (.var 0)) [1] true (.seq (.asg 3 (.bin .add (.var 3) (.bin .mul (.idx (.var 1) (.lit (.int 0))) (.bin .fdiv (.var 2) (.idx (.var 1) (.lit (.int 2))))))) .pass)) (.seq (.ret (.cmp .gt (.var 3) (.var 2))) .pass))))
/-- 0:_law_some 1:_law_task 2:_law_whole 3:_law_parts -/
def D__law_over : D := ⟨1, 4, B__law_over⟩
def B__law_work : S := (.seq (.ret (.bi .sum (.cons (.lc (.src (.var 0)) [2] true (.lit (.bool true)) (.bin .mul (.idx (.var 2) (.lit (.int 0))) (.bin .fdiv (.bin .sub (.bin .add (.var 1) (.idx (.var 2) (.lit (.int 2)))) (.lit (.int 1))) (.idx (.var 2) (.lit (.int 2)))))) .nil))) .pass)
/-- 0:_law_some 1:_law_length 2:_law_task -/
def D__law_work : D := ⟨2, 3, B__law_work⟩
theorem at_tk {t : Tk} {Q : PyData → Prop} : (Ok (index (tk t) (.int 0)) Q ↔ Q (.int t.1)) ∧ (Ok (index (tk t) (.int 1)) Q ↔ Q (.int t.2.1)) ∧ (Ok (index (tk t) (.int 2)) Q ↔ Q (.int t.2.2)) := ⟨oks_some, oks_some, oks_some⟩
theorem tkE {t : Tk} : tk t = .tuple [.int t.1, .int t.2.1, .int t.2.2] := rfl
theorem fdivE {a b : Int} (h : 0 ≤ b) : Int.fdiv a b = a / b := Int.fdiv_eq_ediv_of_nonneg _ h
theorem gen_sum' {α : Type} {f : α → Int} {l : List α} (h : ∀ x ∈ l, -1000000000 ≤ f x ∧ f x ≤ 1000000000) (h' : l.length ≤ 16777216) : genEnd .sum (l.map fun x => .int (f x)) = some (.int (l.map f).sum) := gen_sum h h'
/-- things spread in a display -/
theorem ws_spread {e : Env} {rs : List R} : ∀ {xs : List PyData}, ws e (xs.map (fun d => R.v (.d d)) ++ rs) = (ws e rs).map fun l => xs.map W.d ++ l
  | [] => by simp
  | x :: xs => by
    simp only [List.map_cons, List.cons_append, ws, R.w, Option.bind_some, ws_spread (xs := xs), Option.map_map]
    rfl
theorem frzs_spread {e : Env} {rs : List R} : ∀ {xs : List PyData}, frzs e (xs.map (fun d => R.v (.d d)) ++ rs) = frzs e rs
  | [] => by simp
  | x :: xs => by simp only [List.map_cons, List.cons_append, frzs, frzs_spread (xs := xs)]
theorem ws_spread' {e : Env} {xs : List PyData} : ws e (xs.map (fun d => R.v (.d d))) = some (xs.map W.d) := by
  have := ws_spread (e := e) (rs := []) (xs := xs)
  simpa [ws] using this
theorem frzs_spread' {e : Env} {xs : List PyData} : frzs e (xs.map (fun d => R.v (.d d))) = e := by
  have := frzs_spread (e := e) (rs := []) (xs := xs)
  simpa [frzs] using this
theorem map_data_app {a b : List W} : (a ++ b).map W.data = a.map W.data ++ b.map W.data := List.map_append
theorem data_d {xs : List PyData} : (xs.map W.d).map W.data = xs := by simp [Function.comp_def, W.data]
section
variable {ds : List D} {q : Bool} {k f i i1 i2 i3 i4 : Nat} {T : List Tk}
theorem work_in_ok {L : Int} (hd : ds[f]? = some D_work_in) (h : Ts T) (l0 : 0 ≤ L) (l1 : L ≤ 1000000) : Ok (callD ds false (k + 1) f [.d (.tuple (T.map tk)), .d (.int L)]) fun r => r = (.d (.int (wk T L)), [.d (.tuple (T.map tk)), .d (.int L)]) := by
  refine ok_callD hd rfl ?_
  simp only [D_work_in, B_work_in]
  simp! only
  refine sq fun K_1 h_1 => ok_ret ?_
  simp! only
  refine ok_gen (fun _ => true) (fun t => .int (t.1 * ((L + t.2.2 - 1) / t.2.2))) (fun t ht => ⟨rfl, ?_⟩) ?_
  · obtain ⟨⟨c1, c2⟩, _, g1, g2⟩ := h.2 t ht
    simp! only [tkE, at3]
    rw [fdivE (by omega), ceil_eq (by omega)]
    exact ⟨⟨by omega, by omega⟩, .inr (bits_of (by omega)), rfl⟩
  · simp! only
    rw [gen_sum' (fun t ht => ?_) (by have := h.1.2; omega)]
    · simp! only
      rfl
    · obtain ⟨⟨c1, c2⟩, _, g1, g2⟩ := h.2 t ht
      obtain ⟨x1, x2⟩ := ceil_le g1 l0
      have y1 : 0 ≤ t.1 * ((L + t.2.2 - 1) / t.2.2) := Int.mul_nonneg (by omega) x1
      have y2 : t.1 * ((L + t.2.2 - 1) / t.2.2) ≤ 20 * L := Int.mul_le_mul c2 x2 x1 (by omega)
      omega
theorem wk_bd (h : Ts T) {L : Int} (l0 : 0 ≤ L) : 0 ≤ wk T L ∧ wk T L ≤ 80 * L := by
  have := sum_bd (l := T) (f := fun t => t.1 * ((L + t.2.2 - 1) / t.2.2)) (B := 20 * L) fun t ht => by
    obtain ⟨⟨c1, c2⟩, _, g1, g2⟩ := h.2 t ht
    obtain ⟨x1, x2⟩ := ceil_le g1 l0
    exact ⟨Int.mul_nonneg (by omega) x1, Int.mul_le_mul c2 x2 x1 (by omega)⟩
  have e : (T.length : Int) * (20 * L) ≤ 4 * (20 * L) := Int.mul_le_mul_of_nonneg_right (by have := h.1.2; omega) (by omega)
  have : wk T L = (T.map fun t => t.1 * ((L + t.2.2 - 1) / t.2.2)).sum := rfl
  omega
theorem wholeT_snoc {t : Tk} : wholeT (T ++ [t]) = wholeT T * t.2.2 := by simp [wholeT, List.foldl_append]
theorem wholeT_bd (h : Ts T) : 1 ≤ wholeT T ∧ wholeT T ≤ 12960000 := by
  refine ⟨wholeT_pos (by decide) fun t ht => (h.pos t ht).2.2, ?_⟩
  have := wholeT_le (T := T) (a := 1) (by decide) fun t ht => ⟨(h.pos t ht).2.2, (h.2 t ht).2.2.2⟩
  have e : (60 : Int) ^ T.length ≤ 60 ^ 4 := by
    have hl := h.1.2
    generalize T.length = n at hl
    match n, hl with
    | 0, _ => decide
    | 1, _ => decide
    | 2, _ => decide
    | 3, _ => decide
    | 4, _ => decide
  have : wholeT T = T.foldl (fun a t => a * t.2.2) 1 := rfl
  omega
theorem part_bd (h : Ts T) {t : Tk} (ht : t ∈ T) : 0 ≤ t.1 * (wholeT T / t.2.2) ∧ t.1 * (wholeT T / t.2.2) ≤ 259200000 := by
  obtain ⟨w1, w2⟩ := wholeT_bd h
  obtain ⟨⟨c1, c2⟩, _, g1, g2⟩ := h.2 t ht
  have a1 : 0 ≤ wholeT T / t.2.2 := Int.ediv_nonneg (by omega) (by omega)
  have a2 := Int.ediv_le_self (b := t.2.2) (a := wholeT T) (by omega)
  have y2 : t.1 * (wholeT T / t.2.2) ≤ 20 * 12960000 := Int.mul_le_mul c2 (by omega) a1 (by omega)
  exact ⟨Int.mul_nonneg (by omega) a1, by omega⟩
theorem is_too_dense_ok (hd : ds[f]? = some D_is_too_dense) (h : Ts T) : Ok (callD ds false (k + 1) f [.d (.tuple (T.map tk))]) fun r => r = (.d (.bool (denseT T)), [.d (.tuple (T.map tk))]) := by
  refine ok_callD hd rfl ?_
  simp only [D_is_too_dense, B_is_too_dense]
  simp! only
  refine sq fun K_1 h_1 => ok_asg ?_
  simp! only
  first | refine h_1 _ ?_
  refine sq fun K_2 h_2 => ok_for ?_
  simp! only
  refine ok_forI (fun n e => ∃ o2 : Option W, e = [some (.d (.tuple (T.map tk))), some (.d (.int (wholeT (T.take n)))), o2]) ⟨_, rfl⟩ (fun n y e hy hI => ?_) fun e hI => ?_
  · obtain ⟨o2, rfl⟩ := hI
    rw [List.getElem?_map, Option.map_eq_some_iff] at hy
    obtain ⟨t, ht, rfl⟩ := hy
    obtain ⟨⟨c1, c2⟩, _, g1, g2⟩ := h.2 t (List.mem_of_getElem? ht)
    simp! only
    refine sq fun K_3 h_3 => ok_asg ?_
    simp! only [tkE, at3]
    refine ⟨.inl (bits_of (by omega)), ?_⟩
    first | refine h_3 _ (ok_pass ?_) | refine h_2 _ (ok_pass ?_) | refine h_1 _ (ok_pass ?_)
    exact ⟨_, by rw [List.take_add_one, ht, Option.toList_some, wholeT_snoc]⟩
  · obtain ⟨o2, rfl⟩ := hI
    rw [List.length_map, List.take_length]
    first | refine h_3 _ ?_ | refine h_2 _ ?_ | refine h_1 _ ?_
    refine sq fun K_4 h_4 => ok_ret ?_
    simp! only
    refine ok_gen (fun _ => true) (fun t => .int (t.1 * (wholeT T / t.2.2))) (fun t ht => ⟨rfl, ?_⟩) ?_
    · obtain ⟨⟨c1, c2⟩, _, g1, g2⟩ := h.2 t ht
      simp! only [tkE, at3]
      rw [fdivE (by omega)]
      exact ⟨⟨by omega, by omega⟩, .inr (bits_of (by omega)), rfl⟩
    · simp! only
      rw [gen_sum' (fun t ht => ?_) (by have := h.1.2; omega)]
      · simp! only
        rfl
      · have := part_bd h ht
        omega
theorem cst_bd (h : Ts T) : 1 ≤ cst T ∧ cst T ≤ 80 := by
  have := sum_bd (l := T) (f := fun t => t.1) (B := 20) fun t ht => by
    obtain ⟨⟨c1, c2⟩, _⟩ := h.2 t ht
    omega
  have hl := h.1
  have e : cst T = (T.map fun t => t.1).sum := rfl
  cases T with
  | nil => simp at hl
  | cons t T =>
    have b := sum_bd (l := T) (f := fun t => t.1) (B := 20) fun u hu => by
      obtain ⟨⟨c1, c2⟩, _⟩ := h.2 u (List.mem_cons_of_mem _ hu)
      omega
    have := (h.2 t List.mem_cons_self).1
    rw [List.map_cons, List.sum_cons] at e
    simp only [List.length_cons] at hl
    omega
/-- the busy period, if it is not too long -/
theorem busy_of_ok {b m : Int} (hd : ds[f]? = some (D_busy_of i1 i2)) (d1 : ds[i1]? = some D_is_too_dense) (d2 : ds[i2]? = some D_work_in) (h : Ts T) (hm : m ≤ 5000) (nd : denseT T = false) (hb : Busy T b) (bm : b ≤ m) :
    Ok (callD ds false (k + 2) f [.d (.tuple (T.map tk)), .d (.int m)]) fun r => r = (.d (.int b), [.d (.tuple (T.map tk)), .d (.int m)]) := by
  obtain ⟨b1, b2, b3⟩ := hb
  have mono : ∀ {L L' : Int}, L ≤ L' → wk T L ≤ wk T L' := fun l => wk_mono (fun t ht => ⟨by have := (h.pos t ht).1; omega, (h.pos t ht).2.2⟩) l
  refine ok_callD hd rfl ?_
  simp only [D_busy_of, B_busy_of]
  simp! only
  refine sq fun K_1 h_1 => ok_ite ?_
  simp! only
  refine (is_too_dense_ok d1 h).imp fun p hp => ?_
  subst hp
  simp! only [nd]
  refine ok_pass ?_
  first | refine h_1 _ ?_
  refine sq fun K_2 h_2 => ok_asg ?_
  simp! only
  refine ok_gen (fun _ => true) (fun t => .int t.1) (fun t ht => ⟨rfl, by simp! only [tkE, at3]⟩) ?_
  simp! only
  rw [gen_sum' (fun t ht => by have := (h.2 t ht).1; omega) (by have := h.1.2; omega)]
  simp! only
  first | refine h_2 _ ?_ | refine h_1 _ ?_
  have c1 := cst_bd h
  have c2 : cst T ≤ b := by rw [← wk_one fun t ht => (h.pos t ht).2.2]; exact Int.le_trans (mono b1) b2
  change Ok (run _ _ [_, _, some (.d (.int (cst T))), _]) _
  refine sqm (fun e => e = [some (.d (.tuple (T.map tk))), some (.d (.int m)), some (.d (.int b)), none]) (ok_whl ?_) fun e hI => ?_
  · refine ok_whileL (fun n e => ∃ L : Int, e = [some (.d (.tuple (T.map tk))), some (.d (.int m)), some (.d (.int L)), none] ∧ 1 ≤ L ∧ L ≤ b ∧ n = (b - L).toNat) (fun n e hI => ?_) ⟨cst T, rfl, c1.1, c2, rfl⟩ (by omega)
    obtain ⟨L, rfl, l1, l2, rfl⟩ := hI
    simp! only
    refine (work_in_ok d2 h (by omega) (by omega)).imp fun p hp => ?_
    subst hp
    simp! only
    split
    · rename_i c
      have wb : wk T L ≤ b := Int.le_trans (mono l2) b2
      refine sq fun K_3 h_3 => ok_asg ?_
      simp! only
      refine (work_in_ok d2 h (by omega) (by omega)).imp fun p hp => ?_
      subst hp
      simp! only
      first | refine h_3 _ ?_ | refine h_2 _ ?_ | refine h_1 _ ?_
      refine sq fun K_4 h_4 => ok_ite ?_
      simp! only
      rw [if_neg (by omega)]
      refine ok_pass ?_
      first | refine h_4 _ (ok_pass ?_) | refine h_3 _ (ok_pass ?_) | refine h_2 _ (ok_pass ?_) | refine h_1 _ (ok_pass ?_)
      exact ⟨_, by omega, _, rfl, by omega, wb, rfl⟩
    · rename_i c
      have : L = b := by
        rcases Int.lt_or_le L b with z | z
        · exact absurd (b3 L l1 z) (by omega)
        · omega
      subst this
      rfl
  subst hI
  refine sq fun K_5 h_5 => ok_ite ?_
  simp! only
  rw [if_neg (by omega)]
  refine ok_pass ?_
  first | refine h_5 _ ?_ | refine h_4 _ ?_ | refine h_3 _ ?_ | refine h_2 _ ?_ | refine h_1 _ ?_
  refine sq fun K_6 h_6 => ok_ret ?_
  simp! only
theorem busy_of_none {m : Int} (hd : ds[f]? = some (D_busy_of i1 i2)) (d1 : ds[i1]? = some D_is_too_dense) (h : Ts T) (nd : denseT T = true) :
    Ok (callD ds false (k + 2) f [.d (.tuple (T.map tk)), .d (.int m)]) fun r => r = (.d .none, [.d (.tuple (T.map tk)), .d (.int m)]) := by
  refine ok_callD hd rfl ?_
  simp only [D_busy_of, B_busy_of]
  simp! only
  refine sq fun K_1 h_1 => ok_ite ?_
  simp! only
  refine (is_too_dense_ok d1 h).imp fun p hp => ?_
  subst hp
  simp! only [nd]
  refine sq fun K_2 h_2 => ok_ret ?_
  simp! only
/-- a job's work due -/
theorem due_bd {t : Tk} (h : TkOk t) {L : Int} (l0 : 0 ≤ L) (c : t.2.1 ≤ L) : 0 ≤ t.1 * (1 + (L - t.2.1) / t.2.2) ∧ t.1 * (1 + (L - t.2.1) / t.2.2) ≤ 20 * (1 + L) := by
  obtain ⟨⟨c1, c2⟩, ⟨d1, d2⟩, g1, g2⟩ := h
  have a1 : 0 ≤ (L - t.2.1) / t.2.2 := Int.ediv_nonneg (by omega) (by omega)
  have a2 := Int.ediv_le_self (b := t.2.2) (a := L - t.2.1) (by omega)
  exact ⟨Int.mul_nonneg (by omega) (by omega), Int.mul_le_mul c2 (by omega) (by omega) (by omega)⟩
theorem filter_sum {α : Type} {p : α → Bool} {f : α → Int} : ∀ {l : List α}, ((l.filter p).map f).sum = (l.map fun x => if p x = true then f x else 0).sum
  | [] => rfl
  | x :: l => by
    cases c : p x <;> simp [c, filter_sum (l := l)]
theorem demand_of_ok {L : Int} (hd : ds[f]? = some D_demand_of) (h : Ts T) (l0 : 0 ≤ L) (l1 : L ≤ 1000000) : Ok (callD ds false (k + 1) f [.d (.tuple (T.map tk)), .d (.int L)]) fun r => r = (.d (.int (dm T L)), [.d (.tuple (T.map tk)), .d (.int L)]) := by
  refine ok_callD hd rfl ?_
  simp only [D_demand_of, B_demand_of]
  simp! only
  refine sq fun K_1 h_1 => ok_ret ?_
  simp! only
  refine ok_gen (fun t : Tk => decide (t.2.1 ≤ L)) (fun t => .int (t.1 * (1 + (L - t.2.1) / t.2.2))) (fun t ht => ⟨rfl, ?_⟩) ?_
  · obtain ⟨⟨c1, c2⟩, _, g1, g2⟩ := h.2 t ht
    simp! only [tkE, at3]
    intro c
    rw [fdivE (by omega)]
    have := due_bd (h.2 t ht) l0 c
    exact ⟨⟨by omega, by omega⟩, .inr (bits_of (by omega)), rfl⟩
  · rw [gen_sum' (fun t ht => ?_) (by have := h.1.2; have := List.length_filter_le (fun t : Tk => decide (t.2.1 ≤ L)) T; omega)]
    · simp! only
      rw [filter_sum]
      simp only [decide_eq_true_eq]
      rfl
    · obtain ⟨ht, c⟩ := List.mem_filter.mp ht
      have := due_bd (h.2 t ht) l0 (of_decide_eq_true c)
      omega
/-- the least overfull length -/
theorem overfull_none {b : Int} (hd : ds[f]? = some (D_overfull_of i1 i2)) (d1 : ds[i1]? = some D_demand_of) (d2 : ds[i2]? = some D_work_in) (h : Ts T) (hb : Busy T b) (bm : b ≤ 5000) (nf : ¬ Full T b) :
    Ok (callD ds false (k + 2) f [.d (.tuple (T.map tk))]) fun r => r = (.d .none, [.d (.tuple (T.map tk))]) := by
  obtain ⟨b1, b2, b3⟩ := hb
  refine ok_callD hd rfl ?_
  simp only [D_overfull_of, B_overfull_of]
  simp! only
  refine sq fun K_1 h_1 => ok_for ?_
  simp! only
  refine ⟨by decide, ?_⟩
  refine ok_forI (fun n e => ∃ o1 : Option W, e = [some (.d (.tuple (T.map tk))), o1] ∧ (n : Int) < b) ⟨_, rfl, by omega⟩ (fun n y e hy hI => ?_) fun e hI => ?_
  · obtain ⟨o1, rfl, hn⟩ := hI
    obtain ⟨rfl, hlt⟩ := rngL_get hy
    simp! only
    refine sq fun K_2 h_2 => ok_ite ?_
    simp! only
    refine (demand_of_ok d1 h (by omega) (by omega)).imp fun p hp => ?_
    subst hp
    simp! only
    rw [if_neg fun z => nf ⟨1 + (n : Int), by omega, by omega, z⟩]
    refine ok_pass ?_
    first | refine h_2 _ ?_ | refine h_1 _ ?_
    refine sq fun K_3 h_3 => ok_ite ?_
    simp! only
    refine (work_in_ok d2 h (by omega) (by omega)).imp fun p hp => ?_
    subst hp
    simp! only
    split
    · refine sq fun K_4 h_4 => ok_ret ?_
      simp! only
    · rename_i c
      refine ok_pass ?_
      first | refine h_4 _ (ok_pass ⟨_, rfl, ?_⟩) | refine h_3 _ (ok_pass ⟨_, rfl, ?_⟩) | refine h_2 _ (ok_pass ⟨_, rfl, ?_⟩) | refine h_1 _ (ok_pass ⟨_, rfl, ?_⟩)
      rcases Int.lt_or_le ((n + 1 : Nat) : Int) b with z | z
      · exact z
      · have : b = 1 + (n : Int) := by omega
        rw [← this] at c
        exact absurd b2 c
  · obtain ⟨o1, rfl, hn⟩ := hI
    rw [rngL_len] at hn
    omega
theorem overfull_some {b : Int} (hd : ds[f]? = some (D_overfull_of i1 i2)) (d1 : ds[i1]? = some D_demand_of) (d2 : ds[i2]? = some D_work_in) (h : Ts T) (hb : Busy T b) (bm : b ≤ 5000) (hf : Full T b) :
    Ok (callD ds false (k + 2) f [.d (.tuple (T.map tk))]) fun r => ∃ L : Int, r = (.d (.int L), [.d (.tuple (T.map tk))]) ∧ 1 ≤ L ∧ L ≤ b ∧ L < dm T L ∧ ∀ x, 1 ≤ x → x < L → dm T x ≤ x := by
  obtain ⟨b1, b2, b3⟩ := hb
  obtain ⟨L, l1, l2, l3⟩ := hf
  refine ok_callD hd rfl ?_
  simp only [D_overfull_of, B_overfull_of]
  simp! only
  refine sq fun K_1 h_1 => ok_for ?_
  simp! only
  refine ⟨by decide, ?_⟩
  refine ok_forI (fun n e => ∃ o1 : Option W, e = [some (.d (.tuple (T.map tk))), o1] ∧ (n : Int) < L ∧ ∀ x : Int, 1 ≤ x → x ≤ n → dm T x ≤ x) ⟨_, rfl, by omega, fun x _ _ => by omega⟩ (fun n y e hy hI => ?_) fun e hI => ?_
  · obtain ⟨o1, rfl, hn, hx⟩ := hI
    obtain ⟨rfl, hlt⟩ := rngL_get hy
    simp! only
    refine sq fun K_2 h_2 => ok_ite ?_
    simp! only
    refine (demand_of_ok d1 h (by omega) (by omega)).imp fun p hp => ?_
    subst hp
    simp! only
    split
    · rename_i c
      refine sq fun K_3 h_3 => ok_ret ?_
      simp! only
      exact ⟨_, rfl, by omega, by omega, c, fun x x1 x2 => hx x x1 (by omega)⟩
    · rename_i c
      refine ok_pass ?_
      first | refine h_3 _ ?_ | refine h_2 _ ?_ | refine h_1 _ ?_
      refine sq fun K_4 h_4 => ok_ite ?_
      simp! only
      refine (work_in_ok d2 h (by omega) (by omega)).imp fun p hp => ?_
      subst hp
      simp! only
      have ne : 1 + (n : Int) ≠ L := fun z => by rw [z] at c; omega
      rw [if_neg (by have := b3 (1 + (n : Int)) (by omega) (by omega); omega)]
      refine ok_pass ?_
      first | refine h_4 _ (ok_pass ⟨_, rfl, by omega, fun x x1 x2 => ?_⟩) | refine h_3 _ (ok_pass ⟨_, rfl, by omega, fun x x1 x2 => ?_⟩) | refine h_2 _ (ok_pass ⟨_, rfl, by omega, fun x x1 x2 => ?_⟩) | refine h_1 _ (ok_pass ⟨_, rfl, by omega, fun x x1 x2 => ?_⟩)
      rcases Int.lt_or_le x (1 + (n : Int)) with z | z
      · exact hx x x1 (by omega)
      · have : x = 1 + (n : Int) := by omega
        subst this
        omega
  · obtain ⟨o1, rfl, hn, _⟩ := hI
    rw [rngL_len] at hn
    omega
/-! ### the law's own words -/
theorem law_over_ok (hd : ds[f]? = some D__law_over) (h : Ts T) : Ok (callD ds q (k + 1) f [.d (.tuple (T.map tk))]) fun r => r = (.d (.bool (denseT T)), [.d (.tuple (T.map tk))]) := by
  obtain ⟨w1, w2⟩ := wholeT_bd h
  refine ok_callD hd rfl ?_
  simp only [D__law_over, B__law_over]
  simp! only
  refine sq fun K_1 h_1 => ok_par ?_
  simp! only
  first | refine h_1 _ ?_
  refine sqm (fun e => ∃ o1 : Option W, e = [some (.d (.tuple (T.map tk))), o1, some (.d (.int (wholeT T))), some (.d (.int 0))]) (ok_for ?_) fun e hI => ?_
  · simp! only
    refine ok_forI (fun n e => ∃ o1 : Option W, e = [some (.d (.tuple (T.map tk))), o1, some (.d (.int (wholeT (T.take n)))), some (.d (.int 0))]) ⟨_, rfl⟩ (fun n y e hy hI => ?_) fun e hI => ?_
    · obtain ⟨o2, rfl⟩ := hI
      rw [List.getElem?_map, Option.map_eq_some_iff] at hy
      obtain ⟨t, ht, rfl⟩ := hy
      obtain ⟨⟨c1, c2⟩, _, g1, g2⟩ := h.2 t (List.mem_of_getElem? ht)
      simp! only
      refine sq fun K_2 h_2 => ok_asg ?_
      simp! only [tkE, at3]
      refine ⟨.inl (bits_of (by omega)), ?_⟩
      first | refine h_2 _ (ok_pass ?_) | refine h_1 _ (ok_pass ?_)
      exact ⟨_, by rw [List.take_add_one, ht, Option.toList_some, wholeT_snoc]⟩
    · obtain ⟨o2, rfl⟩ := hI
      rw [List.length_map, List.take_length]
      exact ⟨_, rfl⟩
  obtain ⟨o1, rfl⟩ := hI
  refine sq fun K_3 h_3 => ok_for ?_
  simp! only
  refine ok_forI (fun n e => ∃ o1 : Option W, e = [some (.d (.tuple (T.map tk))), o1, some (.d (.int (wholeT T))), some (.d (.int (rate (T.take n) (wholeT T))))]) ⟨_, rfl⟩ (fun n y e hy hI => ?_) fun e hI => ?_
  · obtain ⟨o2, rfl⟩ := hI
    rw [List.getElem?_map, Option.map_eq_some_iff] at hy
    obtain ⟨t, ht, rfl⟩ := hy
    obtain ⟨⟨c1, c2⟩, _, g1, g2⟩ := h.2 t (List.mem_of_getElem? ht)
    simp! only
    refine sq fun K_4 h_4 => ok_asg ?_
    simp! only [tkE, at3]
    rw [fdivE (by omega)]
    refine ⟨⟨by omega, by omega⟩, .inr (bits_of (by omega)), ?_⟩
    first | refine h_4 _ (ok_pass ?_) | refine h_3 _ (ok_pass ?_) | refine h_2 _ (ok_pass ?_) | refine h_1 _ (ok_pass ?_)
    exact ⟨_, by rw [show rate (T.take (n + 1)) (wholeT T) = rate (T.take n) (wholeT T) + t.1 * (wholeT T / t.2.2) by rw [List.take_add_one, ht, Option.toList_some]; simp [rate]]⟩
  · obtain ⟨o2, rfl⟩ := hI
    rw [List.length_map, List.take_length]
    first | refine h_4 _ ?_ | refine h_3 _ ?_ | refine h_2 _ ?_ | refine h_1 _ ?_
    refine sq fun K_5 h_5 => ok_ret ?_
    simp! only
    rfl
theorem sum_ints {l : List Tk} {f : Tk → Int} : builtin .sum [.list (l.map fun t => .int (f t))] = some (.d (.int (l.map f).sum)) := by
  simp only [builtin, items, Option.bind_some, intsOf_map', Option.map_some]
theorem law_work_ok {L : Int} (hd : ds[f]? = some D__law_work) (h : Ts T) (l0 : 0 ≤ L) (l1 : L ≤ 1000000) : Ok (callD ds q (k + 1) f [.d (.tuple (T.map tk)), .d (.int L)]) fun r => r = (.d (.int (wk T L)), [.d (.tuple (T.map tk)), .d (.int L)]) := by
  refine ok_callD hd rfl ?_
  simp only [D__law_work, B__law_work]
  simp! only
  refine sq fun K_1 h_1 => ok_ret ?_
  simp! only
  refine ⟨szOk_of (by have := h.1.2; omega), ?_⟩
  refine ok_lc (fun _ => true) (fun t => .int (t.1 * ((L + t.2.2 - 1) / t.2.2))) (fun t ht => ?_) ?_
  · obtain ⟨⟨c1, c2⟩, _, g1, g2⟩ := h.2 t ht
    simp! only [tkE, at3]
    rw [fdivE (by omega)]
    exact ⟨⟨by omega, by omega⟩, .inr (bits_of (by omega)), rfl⟩
  · simp! only [sum_ints, intsOf_map']
    rfl
theorem law_busy_ok {b m : Int} (hd : ds[f]? = some (D__law_busy i1 i2)) (d1 : ds[i1]? = some D__law_over) (d2 : ds[i2]? = some D__law_work) (h : Ts T) (hm : m ≤ 5000) (nd : denseT T = false) (hb : Busy T b) (bm : b ≤ m) :
    Ok (callD ds q (k + 2) f [.d (.tuple (T.map tk)), .d (.int m)]) fun r => r = (.d (.int b), [.d (.tuple (T.map tk)), .d (.int m)]) := by
  obtain ⟨b1, b2, b3⟩ := hb
  have mono : ∀ {L L' : Int}, L ≤ L' → wk T L ≤ wk T L' := fun l => wk_mono (fun t ht => ⟨by have := (h.pos t ht).1; omega, (h.pos t ht).2.2⟩) l
  refine ok_callD hd rfl ?_
  simp only [D__law_busy, B__law_busy]
  simp! only
  refine sq fun K_1 h_1 => ok_ite ?_
  simp! only
  refine (law_over_ok d1 h).imp fun p hp => ?_
  subst hp
  simp! only [nd]
  refine ok_pass ?_
  first | refine h_1 _ ?_
  refine sq fun K_2 h_2 => ok_asg ?_
  simp! only
  first | refine h_2 _ ?_ | refine h_1 _ ?_
  refine sq fun K_3 h_3 => ok_for ?_
  simp! only
  refine ⟨inR_of (by omega) (by omega), ?_⟩
  refine ok_forI (fun n e => ∃ (L : Int) (o3 o4 : Option W), e = [some (.d (.tuple (T.map tk))), some (.d (.int m)), some (.d (.int L)), o3, o4] ∧ (n : Int) < L ∧ L ≤ b) ⟨1, _, _, rfl, by omega, b1⟩ (fun n y e hy hI => ?_) fun e hI => ?_
  · obtain ⟨L, o3, o4, rfl, hn, hL⟩ := hI
    simp! only
    refine sq fun K_4 h_4 => ok_ite ?_
    simp! only
    rw [if_neg (by omega)]
    refine ok_pass ?_
    first | refine h_4 _ ?_ | refine h_3 _ ?_ | refine h_2 _ ?_ | refine h_1 _ ?_
    refine sq fun K_5 h_5 => ok_asg ?_
    simp! only
    refine (law_work_ok d2 h (by omega) (by omega)).imp fun p hp => ?_
    subst hp
    simp! only
    first | refine h_5 _ ?_ | refine h_4 _ ?_ | refine h_3 _ ?_ | refine h_2 _ ?_ | refine h_1 _ ?_
    refine sq fun K_6 h_6 => ok_ite ?_
    simp! only
    split
    · rename_i c
      refine sq fun K_7 h_7 => ok_ret ?_
      simp! only
      rcases Int.lt_or_le L b with z | z
      · exact absurd (b3 L (by omega) z) (by omega)
      · rw [show L = b by omega]
    · rename_i c
      refine ok_pass ?_
      first | refine h_7 _ ?_ | refine h_6 _ ?_ | refine h_5 _ ?_ | refine h_4 _ ?_ | refine h_3 _ ?_ | refine h_2 _ ?_ | refine h_1 _ ?_
      refine sq fun K_8 h_8 => ok_asg ?_
      simp! only
      first | refine h_8 _ (ok_pass ⟨_, _, _, rfl, by omega, Int.le_trans (mono hL) b2⟩) | refine h_7 _ (ok_pass ⟨_, _, _, rfl, by omega, Int.le_trans (mono hL) b2⟩) | refine h_6 _ (ok_pass ⟨_, _, _, rfl, by omega, Int.le_trans (mono hL) b2⟩) | refine h_5 _ (ok_pass ⟨_, _, _, rfl, by omega, Int.le_trans (mono hL) b2⟩) | refine h_4 _ (ok_pass ⟨_, _, _, rfl, by omega, Int.le_trans (mono hL) b2⟩) | refine h_3 _ (ok_pass ⟨_, _, _, rfl, by omega, Int.le_trans (mono hL) b2⟩) | refine h_2 _ (ok_pass ⟨_, _, _, rfl, by omega, Int.le_trans (mono hL) b2⟩) | refine h_1 _ (ok_pass ⟨_, _, _, rfl, by omega, Int.le_trans (mono hL) b2⟩)
  · obtain ⟨L, o3, o4, rfl, hn, hL⟩ := hI
    rw [rngL_len] at hn
    omega
theorem law_busy_none {m : Int} (hd : ds[f]? = some (D__law_busy i1 i2)) (d1 : ds[i1]? = some D__law_over) (h : Ts T) (nd : denseT T = true) :
    Ok (callD ds q (k + 2) f [.d (.tuple (T.map tk)), .d (.int m)]) fun r => r = (.d .none, [.d (.tuple (T.map tk)), .d (.int m)]) := by
  refine ok_callD hd rfl ?_
  simp only [D__law_busy, B__law_busy]
  simp! only
  refine sq fun K_1 h_1 => ok_ite ?_
  simp! only
  refine (law_over_ok d1 h).imp fun p hp => ?_
  subst hp
  simp! only [nd]
  refine sq fun K_2 h_2 => ok_ret ?_
  simp! only
end
end Mini

-- P14
set_option Elab.async false
set_option linter.all false
set_option maxRecDepth 100000
set_option maxHeartbeats 4000000
/-! orders: drawn, checked, what stands in front. -/
namespace Mini
open PySem
local macro_rules
  | `(tactic| simp! only) => `(tactic| simp only [ev, lstOf, tupD, mathf, true_implies, imp_self, implies_true, nc0, nc1, nc2, nc3, nc4, nc5, nc6, nc7, nc8, nc9, nc10, nc11, nc12, Int.reduceBEq, Int.reduceLT, Int.reduceLE, Int.reduceEq, Int.reduceAdd, Int.reduceSub, Int.reduceMul, Int.reduceNeg, Int.reduceToNat, oks_ite, oks_none, if_false_right, if_false_left, filt_f, filt_t, List.length_map, List.length_range, Bool.not_eq_false, beq_self_eq_true, Bool.true_eq_false, asInt, asOwn, evA, evI, evT, oks_some, oks_bind, oks_map, oks_guard, oks_guard', Mini.R.data, Mini.R.w, Mini.W.data, getz, gets, Option.map_some, Option.bind_some, Option.isNone_none, Option.isNone_some, binop, c_lt, c_le, c_gt, c_ge, c_eq, c_ne, c_is, c_is_i, c_is_b, c_is_s, c_is_l, c_is_t, c_isn, c_isn_i, c_isn_b, c_isn_s, c_isn_l, c_isn_t, c_eq_b, c_ne_b, c_eq_n, c_ne_n, c_eq_s, c_ne_s, c_eq_is, c_ne_is, c_eq_ns, c_ne_ns, c_eq_ni, c_ne_ni, c_eq_in, c_ne_in, c_eq_sn, c_ne_sn, c_eq_si, c_ne_si, truth, Mini.index, Mini.slice, Mini.part, Mini.builtin, Mini.items, isTy, callE, Mini.ws, datas, owned, Mini.back, keptOwn, frzs, frz, giveW, hid, wipe, resto, List.foldl_cons, List.foldl_nil, List.set_cons_zero, List.set_cons_succ, List.map_cons, List.map_nil, bindTg, bindFl, bindNs, nst, lastIs, Nat.reduceBEq, List.dropLast, List.zip_cons_cons, List.zip_nil_right, List.zip_nil_left, Nx_nx, Nx_rt, Nx_bk, Nx_ct, Lp_nx, Lp_ct, Lp_bk, Lp_rt, Rt_rt, Rt_nx, unhide_nil, unhide_nx, unhide_rt, unhide_one, fin0, fin1, fin2, fin3, fin4, fin5, fin6, fin7, fin8, rngL0, Option.getD_some, Option.getD_none, List.length_cons, List.length_nil, Nat.zero_add, Nat.reduceAdd, Nat.reduceEqDiff, Nat.succ_eq_add_one, ite_true, ite_false, if_true, if_false, reduceIte, reduceCtorEq, Bool.false_eq_true, Bool.not_true, Bool.not_false, List.nodup_cons, List.nodup_nil, List.not_mem_nil, List.mem_cons, not_false_eq_true, not_true_eq_false, and_true, true_and, and_self, or_self, or_false, false_or, setAll, Mini.start, repN, rep0, List.append_eq, List.nil_append, List.cons_append, Nat.reduceSub, Nat.reduceMul, Int.reduceNeg, List.mapM_cons, List.mapM_nil, Option.pure_def, Option.bind_eq_bind, List.any_nil, List.any_cons, List.isEmpty_cons, List.isEmpty_nil, Bool.and_true, Bool.true_and, Bool.and_false, Bool.false_and, Bool.or_false, Bool.or_true, Bool.false_or, Bool.true_or, beq_iff_eq, decide_eq_true_eq, Cf.quiet, frzAll, Option.map_none, Option.bind_none, List.append_nil, Nat.lt_irrefl, ite_self, Bool.not_eq_true', decide_true, decide_false, List.contains_cons, List.contains_nil, Mini.stored, Nat.not_lt_zero, Nat.reduceLT, Nat.reduceLeDiff])
  | `(tactic| simp! only [$ls,*]) => `(tactic| simp only [ev, lstOf, tupD, mathf, true_implies, imp_self, implies_true, nc0, nc1, nc2, nc3, nc4, nc5, nc6, nc7, nc8, nc9, nc10, nc11, nc12, Int.reduceBEq, Int.reduceLT, Int.reduceLE, Int.reduceEq, Int.reduceAdd, Int.reduceSub, Int.reduceMul, Int.reduceNeg, Int.reduceToNat, oks_ite, oks_none, if_false_right, if_false_left, filt_f, filt_t, List.length_map, List.length_range, Bool.not_eq_false, beq_self_eq_true, Bool.true_eq_false, asInt, asOwn, evA, evI, evT, oks_some, oks_bind, oks_map, oks_guard, oks_guard', Mini.R.data, Mini.R.w, Mini.W.data, getz, gets, Option.map_some, Option.bind_some, Option.isNone_none, Option.isNone_some, binop, c_lt, c_le, c_gt, c_ge, c_eq, c_ne, c_is, c_is_i, c_is_b, c_is_s, c_is_l, c_is_t, c_isn, c_isn_i, c_isn_b, c_isn_s, c_isn_l, c_isn_t, c_eq_b, c_ne_b, c_eq_n, c_ne_n, c_eq_s, c_ne_s, c_eq_is, c_ne_is, c_eq_ns, c_ne_ns, c_eq_ni, c_ne_ni, c_eq_in, c_ne_in, c_eq_sn, c_ne_sn, c_eq_si, c_ne_si, truth, Mini.index, Mini.slice, Mini.part, Mini.builtin, Mini.items, isTy, callE, Mini.ws, datas, owned, Mini.back, keptOwn, frzs, frz, giveW, hid, wipe, resto, List.foldl_cons, List.foldl_nil, List.set_cons_zero, List.set_cons_succ, List.map_cons, List.map_nil, bindTg, bindFl, bindNs, nst, lastIs, Nat.reduceBEq, List.dropLast, List.zip_cons_cons, List.zip_nil_right, List.zip_nil_left, Nx_nx, Nx_rt, Nx_bk, Nx_ct, Lp_nx, Lp_ct, Lp_bk, Lp_rt, Rt_rt, Rt_nx, unhide_nil, unhide_nx, unhide_rt, unhide_one, fin0, fin1, fin2, fin3, fin4, fin5, fin6, fin7, fin8, rngL0, Option.getD_some, Option.getD_none, List.length_cons, List.length_nil, Nat.zero_add, Nat.reduceAdd, Nat.reduceEqDiff, Nat.succ_eq_add_one, ite_true, ite_false, if_true, if_false, reduceIte, reduceCtorEq, Bool.false_eq_true, Bool.not_true, Bool.not_false, List.nodup_cons, List.nodup_nil, List.not_mem_nil, List.mem_cons, not_false_eq_true, not_true_eq_false, and_true, true_and, and_self, or_self, or_false, false_or, setAll, Mini.start, repN, rep0, List.append_eq, List.nil_append, List.cons_append, Nat.reduceSub, Nat.reduceMul, Int.reduceNeg, List.mapM_cons, List.mapM_nil, Option.pure_def, Option.bind_eq_bind, List.any_nil, List.any_cons, List.isEmpty_cons, List.isEmpty_nil, Bool.and_true, Bool.true_and, Bool.and_false, Bool.false_and, Bool.or_false, Bool.or_true, Bool.false_or, Bool.true_or, beq_iff_eq, decide_eq_true_eq, Cf.quiet, frzAll, Option.map_none, Option.bind_none, List.append_nil, Nat.lt_irrefl, ite_self, Bool.not_eq_true', decide_true, decide_false, List.contains_cons, List.contains_nil, Mini.stored, Nat.not_lt_zero, Nat.reduceLT, Nat.reduceLeDiff, $ls,*])
def B__law_order : S := (.seq (.par [3, 4] (.cons (.lc (.rng1 (.var 1)) [2] true (.lit (.bool true)) (.var 2)) (.cons (.lst .nil) .nil))) (.seq (.for (.rng1 (.var 1)) [2] true (.seq (.asg 5 (.call 1 (.cons (.var 0) (.cons (.bi .len (.cons (.var 3) .nil)) .nil)))) (.seq (.app 4 (.idx (.var 3) (.var 5))) (.seq (.asg 3 (.bin .add (.slc (.var 3) .none (.var 5)) (.slc (.var 3) (.bin .add (.var 5) (.lit (.int 1))) .none))) .pass)))) (.seq (.ret (.bi .tuple (.cons (.var 4) .nil))) .pass)))
/-- 0:_law_row 1:_law_many 2:_law_k 3:_law_left 4:_law_found 5:_law_at -/
def D__law_order : D := ⟨2, 6, B__law_order⟩
def B_is_order : S := (.seq (.ite (.or (.not (.isi (.var 1) .tuple)) (.cmp .ne (.bi .len (.cons (.var 1) .nil)) (.var 0))) (.seq (.ret (.lit (.bool false))) .pass) .pass) (.seq (.for (.src (.var 1)) [2] true (.seq (.ite (.or (.not (.isi (.var 2) .int)) (.or (.isi (.var 2) .bool) (.not (.chain .le .lt (.lit (.int 0)) (.var 2) (.var 0))))) (.seq (.ret (.lit (.bool false))) .pass) .pass) .pass)) (.seq (.ret (.cmp .eq (.bi .sorted (.cons (.var 1) .nil)) (.lrng (.var 0)))) .pass)))
/-- 0:many 1:value 2:one -/
def D_is_order : D := ⟨2, 3, B_is_order⟩
def B_need_order (c_is_order : Nat) : S := (.seq (.ite (.not (.call c_is_order (.cons (.bi .len (.cons (.var 0) .nil)) (.cons (.var 1) .nil)))) (.seq .bad .pass) .pass) .pass)
/-- 0:tasks 1:order -/
def D_need_order (c_is_order : Nat) : D := ⟨2, 2, B_need_order c_is_order⟩
def B_in_front : S := (.seq (.ret (.lc (.src (.slc (.var 1) .none (.index (.var 1) (.var 2)))) [3] true (.lit (.bool true)) (.idx (.var 0) (.var 3)))) .pass)
/-- 0:tasks 1:order 2:task 3:k -/
def D_in_front : D := ⟨3, 4, B_in_front⟩
/-- an order's places -/
def oL (O : List Nat) : List PyData := O.map fun x : Nat => PyData.int x
def OrdOk (n : Nat) (O : List Nat) : Prop := O.Perm (List.range n)
theorem OrdOk.len {n : Nat} {O : List Nat} (h : OrdOk n O) : O.length = n := by rw [h.length_eq, List.length_range]
theorem OrdOk.mem {n : Nat} {O : List Nat} (h : OrdOk n O) {x : Nat} : x ∈ O ↔ x < n := by rw [h.mem_iff, List.mem_range]
theorem OrdOk.nodup {n : Nat} {O : List Nat} (h : OrdOk n O) : O.Nodup := h.nodup_iff.mpr List.nodup_range
theorem oL_len {O : List Nat} : (oL O).length = O.length := by simp [oL]
theorem oL_at {O : List Nat} {p j : Nat} (h : O[p]? = some j) : (oL O)[p]? = some (.int j) := by simp [oL, h]
theorem oL_get {O : List Nat} {p : Nat} {y : PyData} (h : (oL O)[p]? = some y) : ∃ j, O[p]? = some j ∧ y = .int j := by
  unfold oL at h
  rw [List.getElem?_map, Option.map_eq_some_iff] at h
  obtain ⟨j, h1, h2⟩ := h
  exact ⟨j, h1, h2.symm⟩
theorem oL_ints {O : List Nat} : oL O = (O.map fun x : Nat => (x : Int)).map .int := by simp [oL]
theorem idx_nodup : ∀ {l : List Int} {p : Nat} {x : Int}, l.Nodup → l[p]? = some x → l.idxOf x = p
  | [], p, x, _, h => by simp at h
  | y :: l, 0, x, _, h => by simp at h; subst h; simp
  | y :: l, p + 1, x, hn, h => by
    obtain ⟨n1, n2⟩ := List.nodup_cons.mp hn
    simp only [List.getElem?_cons_succ] at h
    have ne : (y == x) = false := by
      rw [beq_eq_false_iff_ne]
      intro e
      exact n1 (e ▸ List.mem_of_getElem? h)
    rw [List.idxOf_cons, ne, cond_false, idx_nodup n2 h]
theorem sort_ord {n : Nat} {O : List Nat} (h : OrdOk n O) (hn : n ≤ 1000) : sortOk (oL O) = true ∧ sortD (oL O) = oL (List.range n) := by
  constructor
  · unfold sortOk
    simp only [Bool.and_eq_true, Bool.or_eq_true, List.all_eq_true]
    refine ⟨szOk_of (by rw [oL_len, h.len]; omega), fun d hd d' hd' => ?_, .inr fun d hd => ?_, fun d hd => ?_⟩
    · obtain ⟨x, _, rfl⟩ := List.mem_map.mp hd
      obtain ⟨y, _, rfl⟩ := List.mem_map.mp hd'
      simp [PySem.W.alike]
    · obtain ⟨x, _, rfl⟩ := List.mem_map.mp hd
      rfl
    · obtain ⟨x, _, rfl⟩ := List.mem_map.mp hd
      simp [PyData.depth]
  · have le : ∀ a b : Int, PySem.W.dataLe false id (PyData.int a) (PyData.int b) = decide (a ≤ b) := fun a b => by
      have e : PySem.W.dataLe false id (PyData.int a) (PyData.int b) = PySem.W.dataLe false (fun z : Int => PyData.int z) a b := rfl
      rw [e, PySem.W.dataLe_int (fun z : Int => z)]
    have tr : ∀ a b c : Int, decide (a ≤ b) = true → decide (b ≤ c) = true → decide (a ≤ c) = true := fun a b c h1 h2 => by simp at *; omega
    have to : ∀ a b : Int, (decide (a ≤ b) || decide (b ≤ a)) = true := fun a b => by simp; omega
    unfold sortD
    rw [oL_ints, oL_ints, ← List.map_mergeSort (r := fun a b : Int => decide (a ≤ b)) fun a _ b _ => (le a b).symm]
    congr 1
    have pm := List.mergeSort_perm (O.map fun x : Nat => (x : Int)) (fun a b => decide (a ≤ b))
    have srt := List.pairwise_mergeSort tr to (O.map fun x : Nat => (x : Int))
    have nd : ((O.map fun x : Nat => (x : Int)).mergeSort fun a b => decide (a ≤ b)).Nodup := pm.nodup_iff.mpr (by
      rw [List.nodup_iff_pairwise_ne, List.pairwise_map]
      exact (List.nodup_iff_pairwise_ne.mp h.nodup).imp fun {a b} ne e => ne (by omega))
    refine up_eq ?_ ?_ fun x => ?_
    · exact (List.pairwise_and_iff.mpr ⟨srt, List.nodup_iff_pairwise_ne.mp nd⟩).imp fun {a b} q => by
        obtain ⟨q1, q2⟩ := q
        simp at q1
        omega
    · rw [List.pairwise_map]
      exact List.pairwise_lt_range.imp fun q => by omega
    · rw [pm.mem_iff, List.mem_map, List.mem_map]
      constructor
      · rintro ⟨a, ha, rfl⟩; exact ⟨a, List.mem_range.mpr (h.mem.mp ha), rfl⟩
      · rintro ⟨a, ha, rfl⟩; exact ⟨a, h.mem.mpr (List.mem_range.mp ha), rfl⟩
section
variable {ds : List D} {q : Bool} {k f i1 i2 : Nat} {ns : List Int} {st : List PyData}
theorem law_order_ok {n : Nat} (h1 : ds[1]? = some dTaken) (hd : ds[f]? = some D__law_order) (hs : Row ns st) (hn : n ≤ 1000) : Ok (callD ds q (k + 2) f [.own st, .d (.int n)]) fun r => ∃ (O : List Nat) (st' : List PyData), r = (.d (.tuple (oL O)), [.own st', .d (.int n)]) ∧ OrdOk n O ∧ Row ns st' := by
  refine ok_callD hd rfl ?_
  simp only [D__law_order, B__law_order]
  simp! only
  refine sq fun K_1 h_1 => ok_par ?_
  simp! only
  refine ⟨inR_of (by omega) (by omega), szOk_of (by omega), ?_⟩
  refine ok_lc (fun _ => true) (fun x : Nat => .int x) (fun x hx => ?_) ?_
  · simp! only
  simp! only
  first | refine h_1 _ ?_
  refine sq fun K_2 h_2 => ok_for ?_
  simp! only
  refine ⟨inR_of (by omega) (by omega), ?_⟩
  refine ok_forI (fun j e => ∃ (st : List PyData) (L F : List Nat), (∃ (o2 o5 : Option W), e = [some (.own (st)), some (.d (.int ((n : Nat) : Int))), o2, some (.own (oL L)), some (.own (oL F)), o5]) ∧ Row ns st ∧ (F ++ L).Perm (List.range n) ∧ F.length = j) ⟨st, List.range n, [], ⟨_, _, rfl⟩, hs, by simp, rfl⟩ (fun j y e hy hI => ?_) fun e hI => ?_
  · obtain ⟨st, L, F, ⟨o2, o5, rfl⟩, hs, hp, hl⟩ := hI
    have hj : j < n := by
      have := (List.getElem?_eq_some_iff.mp hy).1
      simpa using this
    have hL : F.length + L.length = n := by
      have := hp.length_eq
      rw [List.length_append, List.length_range] at this
      exact this
    simp! only
    refine sq fun K_3 h_3 => ok_asg ?_
    simp! only [oL_len]
    refine (taken_ok (k := k) h1 hs (by omega) (by omega)).imp fun p hp => ?_
    obtain ⟨a0, st1, rfl, a1, a2, hs1⟩ := hp
    obtain ⟨a, rfl⟩ : ∃ a : Nat, a0 = a := ⟨a0.toNat, by omega⟩
    have ha : a < L.length := by omega
    simp! only
    first | refine h_3 _ ?_ | refine h_2 _ ?_ | refine h_1 _ ?_
    refine sq fun K_4 h_4 => ok_app ?_
    simp! only
    refine ok_atI (by omega) ⟨.int (L[a] : Nat), by rw [Int.toNat_natCast]; exact oL_at (List.getElem?_eq_getElem ha), ?_⟩
    refine ⟨szOk_of (by rw [oL_len]; omega), ?_⟩
    first | refine h_4 _ ?_ | refine h_3 _ ?_ | refine h_2 _ ?_ | refine h_1 _ ?_
    refine sq fun K_5 h_5 => ok_asg ?_
    simp! only
    rw [cut_to (by omega), cut_from (by omega), Int.toNat_natCast, show ((a : Int) + 1).toNat = a + 1 by omega]
    refine ⟨szOk_of (by simp [oL]; omega), ?_⟩
    first | refine h_5 _ (ok_pass ?_) | refine h_4 _ (ok_pass ?_) | refine h_3 _ (ok_pass ?_) | refine h_2 _ (ok_pass ?_) | refine h_1 _ (ok_pass ?_)
    refine ⟨st1, L.take a ++ L.drop (a + 1), F ++ [L[a]], ?_, hs1, ?_, by simp [hl]⟩
    · rw [show oL (L.take a ++ L.drop (a + 1)) = (oL L).take a ++ (oL L).drop (a + 1) by simp [oL, List.map_take, List.map_drop], show oL (F ++ [L[a]]) = oL F ++ [.int (L[a] : Nat)] by simp [oL]]
      exact ⟨_, _, rfl⟩
    · refine List.Perm.trans ?_ hp
      rw [List.append_assoc]
      refine List.Perm.append_left F ?_
      have e : L = L.take a ++ L[a] :: L.drop (a + 1) := by rw [← List.drop_eq_getElem_cons ha, List.take_append_drop]
      conv => rhs; rw [e]
      rw [List.singleton_append]
      exact List.perm_middle.symm
  · obtain ⟨st, L, F, ⟨o2, o5, rfl⟩, hs, hp, hl⟩ := hI
    rw [List.length_map, List.length_range] at hl
    have hL : L = [] := by
      have := hp.length_eq
      rw [List.length_append, List.length_range] at this
      exact List.eq_nil_of_length_eq_zero (by omega)
    subst hL
    first | refine h_5 _ ?_ | refine h_4 _ ?_ | refine h_3 _ ?_ | refine h_2 _ ?_ | refine h_1 _ ?_
    refine sq fun K_6 h_6 => ok_ret ?_
    simp! only
    exact ⟨F, st, rfl, by simpa [OrdOk] using hp, hs⟩
theorem is_order_ok {n : Nat} {O : List Nat} (hd : ds[f]? = some D_is_order) (h : OrdOk n O) (hn : n ≤ 1000) : Ok (callD ds q (k + 1) f [.d (.int n), .d (.tuple (oL O))]) fun r => r = (.d (.bool true), [.d (.int n), .d (.tuple (oL O))]) := by
  refine ok_callD hd rfl ?_
  simp only [D_is_order, B_is_order]
  simp! only
  refine sq fun K_1 h_1 => ok_ite ?_
  simp! only [oL_len, h.len]
  refine ok_pass ?_
  first | refine h_1 _ ?_
  refine sq fun K_2 h_2 => ok_for ?_
  simp! only
  refine ok_forI (fun j e => ∃ o2 : Option W, e = [some (.d (.int n)), some (.d (.tuple (oL O))), o2]) ⟨_, rfl⟩ (fun j y e hy hI => ?_) fun e hI => ?_
  · obtain ⟨o2, rfl⟩ := hI
    obtain ⟨x, hx, rfl⟩ := oL_get hy
    have := h.mem.mp (List.mem_of_getElem? hx)
    simp! only
    refine sq fun K_3 h_3 => ok_ite ?_
    simp! only
    rw [if_pos (by omega), if_neg (by simp; omega)]
    refine ok_pass ?_
    first | refine h_3 _ (ok_pass ?_) | refine h_2 _ (ok_pass ?_) | refine h_1 _ (ok_pass ?_)
    exact ⟨_, rfl⟩
  · obtain ⟨o2, rfl⟩ := hI
    obtain ⟨s1, s2⟩ := sort_ord h hn
    have i1 : (intsOf (oL O)).isSome = true := by rw [oL_ints, intsOf_map]; rfl
    first | refine h_3 _ ?_ | refine h_2 _ ?_ | refine h_1 _ ?_
    refine sq fun K_4 h_4 => ok_ret ?_
    simp! only [i1, s1, s2]
    refine ⟨by rw [inR_of (by omega) (by omega), szOk_of (by omega)]; rfl, ?_⟩
    rw [show (List.range n).map (fun x : Nat => PyData.int x) = oL (List.range n) from rfl, oL_ints]
    simp! only [c_eq_ls]
theorem need_order_ok {O : List Nat} {T : List Tk} (hd : ds[f]? = some (D_need_order i1)) (d1 : ds[i1]? = some D_is_order) (h : OrdOk T.length O) (hn : T.length ≤ 1000) : Ok (callD ds q (k + 2) f [.d (.tuple (T.map tk)), .d (.tuple (oL O))]) fun r => r = (.d .none, [.d (.tuple (T.map tk)), .d (.tuple (oL O))]) := by
  refine ok_callD hd rfl ?_
  simp only [D_need_order, B_need_order]
  simp! only
  refine sq fun K_1 h_1 => ok_ite ?_
  simp! only
  refine (is_order_ok (k := k) d1 h hn).imp fun p hp => ?_
  subst hp
  simp! only
  refine ok_pass ?_
  first | refine h_1 _ (ok_pass rfl)
def tg (T : List Tk) (j : Nat) : Tk := T.getD j (1, 1, 1)
theorem tg_at {T : List Tk} {j : Nat} (h : j < T.length) : T[j]? = some (tg T j) := by
  unfold tg
  rw [List.getD_eq_getElem?_getD, List.getElem?_eq_getElem h]
  rfl
theorem tg_ok {T : List Tk} {j : Nat} (h : j < T.length) {Q : PyData → Prop} (hq : Q (tk (tg T j))) : Ok (L2.atI (T.map tk) (j : Int)) Q := ok_atI (by omega) ⟨tk (tg T j), by rw [List.getElem?_map, Int.toNat_natCast, tg_at h]; rfl, hq⟩
theorem in_front_ok {O : List Nat} {T : List Tk} {p j : Nat} (hd : ds[f]? = some D_in_front) (h : OrdOk T.length O) (hn : T.length ≤ 1000) (hp : O[p]? = some j) : Ok (callD ds q (k + 1) f [.d (.tuple (T.map tk)), .d (.tuple (oL O)), .d (.int j)]) fun r => r = (.own (((O.take p).map (tg T)).map tk), [.d (.tuple (T.map tk)), .d (.tuple (oL O)), .d (.int j)]) := by
  have hpl := (List.getElem?_eq_some_iff.mp hp).1
  have hl := h.len
  refine ok_callD hd rfl ?_
  simp only [D_in_front, B_in_front]
  simp! only
  refine sq fun K_1 h_1 => ok_ret ?_
  simp! only
  have hix : indexD (.tuple (oL O)) (.int j) = some (.int p) := by
    have nd : (O.map fun x : Nat => (x : Int)).Nodup := by
      rw [List.nodup_iff_pairwise_ne, List.pairwise_map]
      exact (List.nodup_iff_pairwise_ne.mp h.nodup).imp fun {a b} ne e => ne (by omega)
    have e1 := idx_nodup (p := p) (x := (j : Int)) nd (by simp [hp])
    have m1 : (j : Int) ∈ O.map fun x : Nat => (x : Int) := List.mem_map.mpr ⟨j, List.mem_of_getElem? hp, rfl⟩
    simp only [indexD, intsIn, items, oL_ints, intsOf_map, Option.bind_some]
    rw [if_pos ⟨m1, szOk_of (by simp; omega)⟩, e1]
  have hin : (intsIn (.tuple (oL O))).isSome = true := by simp only [intsIn, items, oL_ints, intsOf_map, Option.bind_some]; rfl
  refine ⟨hin, ?_⟩
  rw [hix]
  simp! only
  rw [cut_to (by omega), Int.toNat_natCast]
  refine ⟨szOk_of (by simp [oL]; omega), ?_⟩
  rw [show (oL O).take p = (O.take p).map fun x : Nat => PyData.int x by simp [oL, List.map_take]]
  refine ok_lc (fun _ => true) (fun x => tk (tg T x)) (fun x hx => ?_) ?_
  · have := h.mem.mp (List.mem_of_mem_take hx)
    simp! only
    refine tg_ok this ?_
    simp! only
  · simp! only
    rw [List.map_map]
    rfl
end
end Mini

-- P15
set_option Elab.async false
set_option linter.all false
set_option maxRecDepth 100000
set_option maxHeartbeats 1000000
/-! sorting by keys; equal jobs. -/
namespace Mini
open PySem
local macro_rules
  | `(tactic| simp! only) => `(tactic| simp only [ev, lstOf, tupD, mathf, true_implies, imp_self, implies_true, nc0, nc1, nc2, nc3, nc4, nc5, nc6, nc7, nc8, nc9, nc10, nc11, nc12, Int.reduceBEq, Int.reduceLT, Int.reduceLE, Int.reduceEq, Int.reduceAdd, Int.reduceSub, Int.reduceMul, Int.reduceNeg, Int.reduceToNat, oks_ite, oks_none, if_false_right, if_false_left, filt_f, filt_t, List.length_map, List.length_range, Bool.not_eq_false, beq_self_eq_true, Bool.true_eq_false, asInt, asOwn, evA, evI, evT, oks_some, oks_bind, oks_map, oks_guard, oks_guard', Mini.R.data, Mini.R.w, Mini.W.data, getz, gets, Option.map_some, Option.bind_some, Option.isNone_none, Option.isNone_some, binop, c_lt, c_le, c_gt, c_ge, c_eq, c_ne, c_is, c_is_i, c_is_b, c_is_s, c_is_l, c_is_t, c_isn, c_isn_i, c_isn_b, c_isn_s, c_isn_l, c_isn_t, c_eq_b, c_ne_b, c_eq_n, c_ne_n, c_eq_s, c_ne_s, c_eq_is, c_ne_is, c_eq_ns, c_ne_ns, c_eq_ni, c_ne_ni, c_eq_in, c_ne_in, c_eq_sn, c_ne_sn, c_eq_si, c_ne_si, truth, Mini.index, Mini.slice, Mini.part, Mini.builtin, Mini.items, isTy, callE, Mini.ws, datas, owned, Mini.back, keptOwn, frzs, frz, giveW, hid, wipe, resto, List.foldl_cons, List.foldl_nil, List.set_cons_zero, List.set_cons_succ, List.map_cons, List.map_nil, bindTg, bindFl, bindNs, nst, lastIs, Nat.reduceBEq, List.dropLast, List.zip_cons_cons, List.zip_nil_right, List.zip_nil_left, Nx_nx, Nx_rt, Nx_bk, Nx_ct, Lp_nx, Lp_ct, Lp_bk, Lp_rt, Rt_rt, Rt_nx, unhide_nil, unhide_nx, unhide_rt, unhide_one, fin0, fin1, fin2, fin3, fin4, fin5, fin6, fin7, fin8, rngL0, Option.getD_some, Option.getD_none, List.length_cons, List.length_nil, Nat.zero_add, Nat.reduceAdd, Nat.reduceEqDiff, Nat.succ_eq_add_one, ite_true, ite_false, if_true, if_false, reduceIte, reduceCtorEq, Bool.false_eq_true, Bool.not_true, Bool.not_false, List.nodup_cons, List.nodup_nil, List.not_mem_nil, List.mem_cons, not_false_eq_true, not_true_eq_false, and_true, true_and, and_self, or_self, or_false, false_or, setAll, Mini.start, repN, rep0, List.append_eq, List.nil_append, List.cons_append, Nat.reduceSub, Nat.reduceMul, Int.reduceNeg, List.mapM_cons, List.mapM_nil, Option.pure_def, Option.bind_eq_bind, List.any_nil, List.any_cons, List.isEmpty_cons, List.isEmpty_nil, Bool.and_true, Bool.true_and, Bool.and_false, Bool.false_and, Bool.or_false, Bool.or_true, Bool.false_or, Bool.true_or, beq_iff_eq, decide_eq_true_eq, Cf.quiet, frzAll, Option.map_none, Option.bind_none, List.append_nil, Nat.lt_irrefl, ite_self, Bool.not_eq_true', decide_true, decide_false, List.contains_cons, List.contains_nil, Mini.stored, Nat.not_lt_zero, Nat.reduceLT, Nat.reduceLeDiff])
  | `(tactic| simp! only [$ls,*]) => `(tactic| simp only [ev, lstOf, tupD, mathf, true_implies, imp_self, implies_true, nc0, nc1, nc2, nc3, nc4, nc5, nc6, nc7, nc8, nc9, nc10, nc11, nc12, Int.reduceBEq, Int.reduceLT, Int.reduceLE, Int.reduceEq, Int.reduceAdd, Int.reduceSub, Int.reduceMul, Int.reduceNeg, Int.reduceToNat, oks_ite, oks_none, if_false_right, if_false_left, filt_f, filt_t, List.length_map, List.length_range, Bool.not_eq_false, beq_self_eq_true, Bool.true_eq_false, asInt, asOwn, evA, evI, evT, oks_some, oks_bind, oks_map, oks_guard, oks_guard', Mini.R.data, Mini.R.w, Mini.W.data, getz, gets, Option.map_some, Option.bind_some, Option.isNone_none, Option.isNone_some, binop, c_lt, c_le, c_gt, c_ge, c_eq, c_ne, c_is, c_is_i, c_is_b, c_is_s, c_is_l, c_is_t, c_isn, c_isn_i, c_isn_b, c_isn_s, c_isn_l, c_isn_t, c_eq_b, c_ne_b, c_eq_n, c_ne_n, c_eq_s, c_ne_s, c_eq_is, c_ne_is, c_eq_ns, c_ne_ns, c_eq_ni, c_ne_ni, c_eq_in, c_ne_in, c_eq_sn, c_ne_sn, c_eq_si, c_ne_si, truth, Mini.index, Mini.slice, Mini.part, Mini.builtin, Mini.items, isTy, callE, Mini.ws, datas, owned, Mini.back, keptOwn, frzs, frz, giveW, hid, wipe, resto, List.foldl_cons, List.foldl_nil, List.set_cons_zero, List.set_cons_succ, List.map_cons, List.map_nil, bindTg, bindFl, bindNs, nst, lastIs, Nat.reduceBEq, List.dropLast, List.zip_cons_cons, List.zip_nil_right, List.zip_nil_left, Nx_nx, Nx_rt, Nx_bk, Nx_ct, Lp_nx, Lp_ct, Lp_bk, Lp_rt, Rt_rt, Rt_nx, unhide_nil, unhide_nx, unhide_rt, unhide_one, fin0, fin1, fin2, fin3, fin4, fin5, fin6, fin7, fin8, rngL0, Option.getD_some, Option.getD_none, List.length_cons, List.length_nil, Nat.zero_add, Nat.reduceAdd, Nat.reduceEqDiff, Nat.succ_eq_add_one, ite_true, ite_false, if_true, if_false, reduceIte, reduceCtorEq, Bool.false_eq_true, Bool.not_true, Bool.not_false, List.nodup_cons, List.nodup_nil, List.not_mem_nil, List.mem_cons, not_false_eq_true, not_true_eq_false, and_true, true_and, and_self, or_self, or_false, false_or, setAll, Mini.start, repN, rep0, List.append_eq, List.nil_append, List.cons_append, Nat.reduceSub, Nat.reduceMul, Int.reduceNeg, List.mapM_cons, List.mapM_nil, Option.pure_def, Option.bind_eq_bind, List.any_nil, List.any_cons, List.isEmpty_cons, List.isEmpty_nil, Bool.and_true, Bool.true_and, Bool.and_false, Bool.false_and, Bool.or_false, Bool.or_true, Bool.false_or, Bool.true_or, beq_iff_eq, decide_eq_true_eq, Cf.quiet, frzAll, Option.map_none, Option.bind_none, List.append_nil, Nat.lt_irrefl, ite_self, Bool.not_eq_true', decide_true, decide_false, List.contains_cons, List.contains_nil, Mini.stored, Nat.not_lt_zero, Nat.reduceLT, Nat.reduceLeDiff, $ls,*])
def B_need_equal (c_is_in : Nat) : S := (.seq (.ite (.or (.not (.isi (.var 0) .tuple)) (.not (.chain .le .le (.lit (.int 1)) (.bi .len (.cons (.var 0) .nil)) (.con "MOST_EQUAL" (.int 8))))) (.seq .bad .pass) .pass) (.seq (.for (.enum (.var 0)) [1, 2] false (.seq (.ite (.or (.not (.isi (.var 2) .tuple)) (.or (.cmp .ne (.bi .len (.cons (.var 2) .nil)) (.lit (.int 2))) (.not (.gen .all (.src (.var 2)) [3] true (.lit (.bool true)) (.call c_is_in (.cons (.var 3) (.cons (.lit (.int 0)) (.cons (.con "MOST_TIME" (.int 100)) .nil)))))))) (.seq .bad .pass) .pass) .pass)) .pass))
/-- 0:jobs 1:index 2:job 3:one -/
def D_need_equal (c_is_in : Nat) : D := ⟨1, 4, B_need_equal c_is_in⟩

/-! ### sorted -/
theorem le_ints (a b : Int) : PySem.W.dataLe false id (PyData.int a) (PyData.int b) = decide (a ≤ b) := by
  have e : PySem.W.dataLe false id (PyData.int a) (PyData.int b) = PySem.W.dataLe false (fun z : Int => PyData.int z) a b := rfl
  rw [e, PySem.W.dataLe_int (fun z : Int => z)]
/-- the numbers, ascending -/
def srtI (l : List Int) : List Int := l.mergeSort fun a b => decide (a ≤ b)
theorem srtI_perm {l : List Int} : (srtI l).Perm l := List.mergeSort_perm _ _
theorem srtI_up {l : List Int} : (srtI l).Pairwise (· ≤ ·) := by
  have := List.pairwise_mergeSort (le := fun a b : Int => decide (a ≤ b)) (fun a b c h1 h2 => by simp at *; omega) (fun a b => by simp; omega) l
  exact this.imp fun h => by simpa using h
theorem srtI_len {l : List Int} : (srtI l).length = l.length := srtI_perm.length_eq
theorem sortD_ints {l : List Int} : sortD (l.map .int) = (srtI l).map .int := by
  unfold sortD srtI
  rw [← List.map_mergeSort (r := fun a b : Int => decide (a ≤ b)) fun a _ b _ => (le_ints a b).symm]
theorem sortOk_ints {l : List Int} (h : l.length ≤ 16777216) : sortOk (l.map .int) = true := by
  unfold sortOk
  simp only [Bool.and_eq_true, Bool.or_eq_true, List.all_eq_true]
  refine ⟨szOk_of (by rw [List.length_map]; exact h), fun d hd d' hd' => ?_, .inr fun d hd => ?_, fun d hd => ?_⟩
  · obtain ⟨x, _, rfl⟩ := List.mem_map.mp hd
    obtain ⟨y, _, rfl⟩ := List.mem_map.mp hd'
    simp [PySem.W.alike]
  · obtain ⟨x, _, rfl⟩ := List.mem_map.mp hd
    rfl
  · obtain ⟨x, _, rfl⟩ := List.mem_map.mp hd
    simp [PyData.depth]
theorem mapM_ints : ∀ {l : List Int}, (l.map PyData.int).mapM keyA = some l
  | [] => rfl
  | x :: l => by
    rw [List.map_cons, List.mapM_cons, mapM_ints]
    rfl
/-- sorted by whole numbers -/
theorem sortK_int {α : Type} {f : α → PyData} {g : α → Int} {l : List α} (h : l.length ≤ 16777216) : sortK (l.map f) (l.map fun x => .int (g x)) = some ((l.mergeSort fun a b => decide (g a ≤ g b)).map f) := by
  unfold sortK
  rw [if_pos (szOk_of (by rw [List.length_map]; exact h))]
  rw [show l.map (fun x => PyData.int (g x)) = (l.map g).map PyData.int by rw [List.map_map]; rfl, mapM_ints]
  simp only
  rw [show (l.map f).zip (l.map g) = l.map fun x => (f x, g x) by rw [List.zip_map']]
  rw [← List.map_mergeSort (r := fun a b => decide (g a ≤ g b)) fun a _ b _ => rfl, List.map_map]
  rfl
theorem ok_keyL {α : Type} {el : Env → Option (R × Env)} {i : Nat} {e0 : Env} {f g : α → PyData} {Q : List PyData → Prop} : ∀ {l : List α}, (∀ x ∈ l, Ok (el (e0.set i (some (.d (f x))))) fun p => Ok (p.1.data p.2) fun d => d = g x) → Q (l.map g) → Ok (keyL el i e0 (l.map f)) Q := by
  intro l h hq
  have : ∀ l : List α, (∀ x ∈ l, Ok (el (e0.set i (some (.d (f x))))) fun p => Ok (p.1.data p.2) fun d => d = g x) → keyL el i e0 (l.map f) = some (l.map g) := by
    intro l
    induction l with
    | nil => intro _; rfl
    | cons x l ih =>
      intro h
      obtain ⟨⟨y, e3⟩, h1, d, h2, rfl⟩ := h x List.mem_cons_self
      simp only [List.map_cons, keyL, h1, Option.bind_some]
      rw [show y.data e3 = some (g x) from h2, ih fun z hz => h z (List.mem_cons_of_mem _ hz)]
      rfl
  exact ⟨_, this l h, hq⟩
/-! ### equal jobs -/
def jb (t : Int × Int) : PyData := .tuple [.int t.1, .int t.2]
theorem jbE {t : Int × Int} : jb t = .tuple [.int t.1, .int t.2] := rfl
def JOk (t : Int × Int) : Prop := (0 ≤ t.1 ∧ t.1 ≤ 100) ∧ (0 ≤ t.2 ∧ t.2 ≤ 100)
def Js (T : List (Int × Int)) : Prop := (1 ≤ T.length ∧ T.length ≤ 8) ∧ ∀ t ∈ T, JOk t
section
variable {ds : List D} {f i1 k : Nat} {T : List (Int × Int)}
theorem need_equal_ok (hd : ds[f]? = some (D_need_equal i1)) (d1 : ds[i1]? = some dIsIn) (h : Js T) : Ok (callD ds false (k + 2) f [.d (.tuple (T.map jb))]) fun r => r = (.d .none, [.d (.tuple (T.map jb))]) := by
  refine ok_callD hd rfl ?_
  simp only [D_need_equal, B_need_equal]
  have hl := h.1
  simp! only
  refine sq fun K_1 h_1 => ok_ite ?_
  simp! only
  rw [if_pos (by omega), if_neg (by simp; omega)]
  refine ok_pass ?_
  first | refine h_1 _ ?_
  refine sq fun K_2 h_2 => ok_for ?_
  simp! only
  refine ok_forI (fun n e => (∃ (o1 o2 o3 : Option W), e = [some (.d (.tuple (T.map jb))), o1, o2, o3])) ⟨_, _, _, rfl⟩ (fun n y e hy hI => ?_) fun e hI => ?_
  · obtain ⟨o1, o2, o3, rfl⟩ := hI
    obtain ⟨t, ht, rfl⟩ := enumL_at hy
    have htm := List.mem_of_getElem? ht
    obtain ⟨⟨a1, a2⟩, b1, b2⟩ := h.2 t htm
    simp! only [jbE]
    refine sq fun K_3 h_3 => ok_ite ?_
    simp! only
    refine ok_gen (g := PyData.int) (l := [t.1, t.2]) (fun _ => true) (fun _ => .bool true) (fun x hx => ⟨rfl, ?_⟩) ?_
    · have hx' : 0 ≤ x ∧ x ≤ 100 := by
        simp only [List.mem_cons, List.not_mem_nil, or_false] at hx
        rcases hx with z | z <;> rw [z] <;> omega
      simp! only
      refine (is_in_yes d1 hx'.1 hx'.2).imp fun p hp => ?_
      subst hp
      simp! only
    · refine oks_of (a := .bool true) rfl ?_
      simp! only
      refine ok_pass ?_
      first | refine h_3 _ (ok_pass ?_) | refine h_2 _ (ok_pass ?_) | refine h_1 _ (ok_pass ?_)
      exact ⟨_, _, _, rfl⟩
  · obtain ⟨o1, o2, o3, rfl⟩ := hI
    first | refine h_3 _ (ok_pass rfl) | refine h_2 _ (ok_pass rfl) | refine h_1 _ (ok_pass rfl)
end
end Mini

-- K58b
set_option Elab.async false
set_option linter.all false
set_option maxRecDepth 100000
set_option maxHeartbeats 1000000
namespace Mini.Law
open PySem Mini
/-! ### Johnson's order -/
section
variable {a b : Nat → Int}
def fsum (f : Nat → Int) (l : List Nat) : Int := (l.map f).sum
theorem fsum_cons {f : Nat → Int} {x : Nat} {l : List Nat} : fsum f (x :: l) = f x + fsum f l := by simp [fsum]
theorem fsum_app {f : Nat → Int} {l m : List Nat} : fsum f (l ++ m) = fsum f l + fsum f m := by simp [fsum]
theorem fsum_perm {f : Nat → Int} {l m : List Nat} (h : l.Perm m) : fsum f l = fsum f m := by
  induction h with
  | nil => rfl
  | cons x _ ih => rw [fsum_cons, fsum_cons, ih]
  | swap x y l => simp only [fsum_cons]; omega
  | trans _ _ h1 h2 => exact h1.trans h2
theorem fsum_le {f g : Nat → Int} : ∀ {l : List Nat}, (∀ x ∈ l, f x ≤ g x) → fsum f l ≤ fsum g l
  | [], _ => Int.le_refl _
  | x :: l, h => by
    rw [fsum_cons, fsum_cons]
    have := h x List.mem_cons_self
    have := fsum_le (f := f) (g := g) (l := l) fun y hy => h y (List.mem_cons_of_mem _ hy)
    omega
theorem fsum_congr {f g : Nat → Int} {l : List Nat} (h : ∀ x ∈ l, f x = g x) : fsum f l = fsum g l :=
  Int.le_antisymm (fsum_le fun x hx => Int.le_of_eq (h x hx)) (fsum_le fun x hx => Int.le_of_eq (h x hx).symm)
/-- the length of the road through the place t -/
def way (a b : Nat → Int) (l : List Nat) (t : Nat) : Int := fsum a (l.take (t + 1)) + fsum b (l.drop t)
theorem way_at {l p s : List Nat} {c : Nat} (h : l = p ++ c :: s) : way a b l p.length = fsum a p + a c + (b c + fsum b s) := by
  subst h
  unfold way
  rw [List.take_append, List.drop_append]
  simp [fsum]
  rw [List.take_of_length_le (by simp)]
theorem first_split {pr : Nat → Prop} : ∀ {l : List Nat}, (∃ x ∈ l, pr x) → ∃ p d s, l = p ++ d :: s ∧ pr d ∧ ∀ x ∈ p, ¬ pr x
  | [], h => by obtain ⟨x, h, _⟩ := h; simp at h
  | y :: l, h => by
    by_cases hy : pr y
    · exact ⟨[], y, l, rfl, hy, fun x h => by simp at h⟩
    · obtain ⟨x, h1, h2⟩ := h
      have : ∃ x ∈ l, pr x := by
        rcases List.mem_cons.mp h1 with z | z
        · exact absurd (z ▸ h2) hy
        · exact ⟨x, z, h2⟩
      obtain ⟨p, d, s, rfl, q1, q2⟩ := first_split this
      refine ⟨y :: p, d, s, rfl, q1, fun x hx => ?_⟩
      rcases List.mem_cons.mp hx with z | z
      · rw [z]; exact hy
      · exact q2 x z
theorem last_split {pr : Nat → Prop} : ∀ {l : List Nat}, (∃ x ∈ l, pr x) → ∃ p d s, l = p ++ d :: s ∧ pr d ∧ ∀ x ∈ s, ¬ pr x
  | [], h => by obtain ⟨x, h, _⟩ := h; simp at h
  | y :: l, h => by
    by_cases hl : ∃ x ∈ l, pr x
    · obtain ⟨p, d, s, rfl, q1, q2⟩ := last_split hl
      exact ⟨y :: p, d, s, rfl, q1, q2⟩
    · obtain ⟨x, h1, h2⟩ := h
      rcases List.mem_cons.mp h1 with z | z
      · exact ⟨[], y, l, rfl, z ▸ h2, fun x hx hp => hl ⟨x, hx, hp⟩⟩
      · exact absurd ⟨x, z, h2⟩ hl
theorem sum_before {p s : List Nat} {c : Nat} (hn : (p ++ c :: s).Nodup) : fsum (fun x => if x ∈ p then a x else b x) (p ++ c :: s) = fsum a p + (b c + fsum b s) := by
  rw [List.nodup_append] at hn
  have h0 : ∀ x ∈ c :: s, x ∉ p := fun x hx hp => hn.2.2 x hp x hx rfl
  rw [fsum_app, fsum_cons, fsum_congr (f := fun x => if x ∈ p then a x else b x) (g := a) fun x hx => if_pos hx, fsum_congr (l := s) (f := fun x => if x ∈ p then a x else b x) (g := b) fun x hx => if_neg (h0 x (List.mem_cons_of_mem _ hx))]
  rw [if_neg (h0 c List.mem_cons_self)]
theorem sum_after {p s : List Nat} {c : Nat} (hn : (p ++ c :: s).Nodup) : fsum (fun x => if x ∈ s then b x else a x) (p ++ c :: s) = fsum a p + (a c + fsum b s) := by
  rw [List.nodup_append, List.nodup_cons] at hn
  have h0 : ∀ x ∈ p, x ∉ s := fun x hx hs => hn.2.2 x hx x (List.mem_cons_of_mem _ hs) rfl
  rw [fsum_app, fsum_cons, fsum_congr (l := p) (f := fun x => if x ∈ s then b x else a x) (g := a) fun x hx => if_neg (h0 x hx), fsum_congr (l := s) (f := fun x => if x ∈ s then b x else a x) (g := b) fun x hx => if_pos hx]
  rw [if_neg hn.2.1.1]
theorem john_early {J p s σ : List Nat} {c : Nat} (hJ : J = p ++ c :: s) (hn : J.Nodup) (pe : σ.Perm J) (ec : a c ≤ b c) (ep : ∀ x ∈ p, a x ≤ b x) (es : ∀ x ∈ s, a x ≤ b x → a c ≤ a x) : ∃ t, t < σ.length ∧ way a b J p.length ≤ way a b σ t := by
  subst hJ
  have cm : c ∈ σ := pe.mem_iff.mpr (by simp)
  have cp : c ∉ p := fun z => (List.nodup_append.mp hn).2.2 c z c List.mem_cons_self rfl
  obtain ⟨s1, d, s2, rfl, ⟨d1, d2⟩, d3⟩ := first_split (pr := fun x => a x ≤ b x ∧ x ∉ p) ⟨c, cm, ec, cp⟩
  have hn2 := pe.nodup_iff.mpr hn
  refine ⟨s1.length, by simp, ?_⟩
  rw [way_at rfl, way_at rfl]
  have e1 := sum_before (a := a) (b := b) hn
  have e2 := sum_before (a := a) (b := b) hn2
  rw [fsum_perm pe] at e2
  have ad : a c ≤ a d := by
    have : d ∈ p ++ c :: s := pe.mem_iff.mp (by simp)
    rcases List.mem_append.mp this with z | z
    · exact absurd z d2
    · rcases List.mem_cons.mp z with z | z
      · rw [z]; exact Int.le_refl _
      · exact es d z d1
  have := fsum_le (l := p ++ c :: s) (f := fun x => if x ∈ p then a x else b x) (g := fun x => if x ∈ s1 then a x else b x) fun x hx => by
    by_cases xp : x ∈ p
    · rw [if_pos xp]
      split
      · exact Int.le_refl _
      · exact ep x xp
    · rw [if_neg xp]
      split
      · rename_i x1
        have := d3 x x1
        by_cases w : a x ≤ b x
        · exact absurd ⟨w, xp⟩ this
        · omega
      · exact Int.le_refl _
  omega
theorem john_late {J p s σ : List Nat} {c : Nat} (hJ : J = p ++ c :: s) (hn : J.Nodup) (pe : σ.Perm J) (ec : b c < a c) (ep : ∀ x ∈ s, b x < a x) (es : ∀ x ∈ p, b x < a x → b c ≤ b x) : ∃ t, t < σ.length ∧ way a b J p.length ≤ way a b σ t := by
  subst hJ
  have cm : c ∈ σ := pe.mem_iff.mpr (by simp)
  have cs : c ∉ s := (List.nodup_cons.mp (List.nodup_append.mp hn).2.1).1
  obtain ⟨s1, d, s2, rfl, ⟨d1, d2⟩, d3⟩ := last_split (pr := fun x => b x < a x ∧ x ∉ s) ⟨c, cm, ec, cs⟩
  have hn2 := pe.nodup_iff.mpr hn
  refine ⟨s1.length, by simp, ?_⟩
  rw [way_at rfl, way_at rfl]
  have e1 := sum_after (a := a) (b := b) hn
  have e2 := sum_after (a := a) (b := b) hn2
  rw [fsum_perm pe] at e2
  have bd : b c ≤ b d := by
    have : d ∈ p ++ c :: s := pe.mem_iff.mp (by simp)
    rcases List.mem_append.mp this with z | z
    · exact es d z d1
    · rcases List.mem_cons.mp z with z | z
      · rw [z]; exact Int.le_refl _
      · exact absurd z d2
  have := fsum_le (l := p ++ c :: s) (f := fun x => if x ∈ s then b x else a x) (g := fun x => if x ∈ s2 then b x else a x) fun x hx => by
    by_cases xs : x ∈ s
    · rw [if_pos xs]
      split
      · exact Int.le_refl _
      · have := ep x xs; omega
    · rw [if_neg xs]
      split
      · rename_i x2
        have := d3 x x2
        by_cases w : b x < a x
        · exact absurd ⟨w, xs⟩ this
        · omega
      · exact Int.le_refl _
  omega
/-- Johnson's order is no worse than any other -/
theorem johnson {E L σ : List Nat} (hn : (E ++ L).Nodup) (pe : σ.Perm (E ++ L)) (e1 : ∀ x ∈ E, a x ≤ b x) (e2 : E.Pairwise fun x y => a x ≤ a y) (l1 : ∀ x ∈ L, b x < a x) (l2 : L.Pairwise fun x y => b y ≤ b x) (t : Nat) (ht : t < (E ++ L).length) : ∃ t', t' < σ.length ∧ way a b (E ++ L) t ≤ way a b σ t' := by
  rcases Nat.lt_or_ge t E.length with h | h
  · have hE : E = E.take t ++ E[t] :: E.drop (t + 1) := by rw [← List.drop_eq_getElem_cons h, List.take_append_drop]
    have hl : (E.take t).length = t := by rw [List.length_take]; omega
    have hp := e2
    rw [hE, List.pairwise_append, List.pairwise_cons] at hp
    have := john_early (a := a) (b := b) (J := E ++ L) (p := E.take t) (s := E.drop (t + 1) ++ L) (c := E[t]) (by rw [← List.cons_append, ← List.append_assoc, ← hE]) hn pe (e1 _ (List.getElem_mem h)) (fun x hx => e1 x (List.mem_of_mem_take hx)) fun x hx hx2 => by
      rcases List.mem_append.mp hx with z | z
      · exact hp.2.1.1 x z
      · have := l1 x z; omega
    rwa [hl] at this
  · have hk : t - E.length < L.length := by rw [List.length_append] at ht; omega
    have hL : L = L.take (t - E.length) ++ L[t - E.length] :: L.drop (t - E.length + 1) := by rw [← List.drop_eq_getElem_cons hk, List.take_append_drop]
    have hl : (E ++ L.take (t - E.length)).length = t := by rw [List.length_append, List.length_take]; omega
    have hp := l2
    rw [hL, List.pairwise_append, List.pairwise_cons] at hp
    have := john_late (a := a) (b := b) (J := E ++ L) (p := E ++ L.take (t - E.length)) (s := L.drop (t - E.length + 1)) (c := L[t - E.length]) (by rw [List.append_assoc, ← hL]) hn pe (l1 _ (List.getElem_mem hk)) (fun x hx => l1 x (List.mem_of_mem_drop hx)) fun x hx hx2 => by
      rcases List.mem_append.mp hx with z | z
      · have := e1 x z; omega
      · exact hp.2.2 x z _ List.mem_cons_self
    rwa [hl] at this
end
/-! ### the jobs -/
def aT (T : List (Int × Int)) (j : Nat) : Int := (T.getD j (0, 0)).1
def bT (T : List (Int × Int)) (j : Nat) : Int := (T.getD j (0, 0)).2
section
variable {k : Nat} {q : Bool} {T : List (Int × Int)}
theorem jb_at {j : Nat} (h : j < T.length) : (T.map jb)[j]? = some (.tuple [.int (aT T j), .int (bT T j)]) := by
  unfold aT bT
  rw [List.getElem?_map, List.getD_eq_getElem?_getD, List.getElem?_eq_getElem h]
  rfl
theorem jb_ok {j : Nat} (h : j < T.length) {Q : PyData → Prop} (hq : Q (.tuple [.int (aT T j), .int (bT T j)])) : Ok (L2.atI (T.map jb) (j : Int)) Q := ok_atI (by omega) ⟨_, by rw [Int.toNat_natCast]; exact jb_at h, hq⟩
theorem aT_ok (h : Js T) (j : Nat) : 0 ≤ aT T j ∧ 0 ≤ bT T j := by
  unfold aT bT
  rw [List.getD_eq_getElem?_getD]
  cases q : T[j]? with
  | none => simp
  | some t =>
    have := h.2 t (List.mem_of_getElem? q)
    exact ⟨this.1.1, this.2.1⟩
/-- the longest road, over the first places -/
def endN (T : List (Int × Int)) (s : List Nat) : Nat → Int
  | 0 => 0
  | n + 1 => if endN T s n < way (aT T) (bT T) s n then way (aT T) (bT T) s n else endN T s n
theorem endN_ge {s : List Nat} : ∀ n, 0 ≤ endN T s n ∧ ∀ t, t < n → way (aT T) (bT T) s t ≤ endN T s n
  | 0 => ⟨Int.le_refl _, fun t h => by omega⟩
  | n + 1 => by
    obtain ⟨h1, h2⟩ := endN_ge (s := s) n
    unfold endN
    split
    · refine ⟨by omega, fun t ht => ?_⟩
      by_cases e : t = n
      · rw [e]; exact Int.le_refl _
      · have := h2 t (by omega); omega
    · refine ⟨h1, fun t ht => ?_⟩
      by_cases e : t = n
      · rw [e]; omega
      · exact h2 t (by omega)
theorem endN_in {s : List Nat} : ∀ n, endN T s n = 0 ∨ ∃ t, t < n ∧ endN T s n = way (aT T) (bT T) s t
  | 0 => .inl rfl
  | n + 1 => by
    unfold endN
    split
    · exact .inr ⟨n, by omega, rfl⟩
    · rcases endN_in (s := s) n with h | ⟨t, h1, h2⟩
      · exact .inl h
      · exact .inr ⟨t, by omega, h2⟩
def endA (T : List (Int × Int)) (s : List Nat) : Int := endN T s s.length
theorem fsum_nn {f : Nat → Int} (h : ∀ x, 0 ≤ f x) : ∀ l : List Nat, 0 ≤ fsum f l
  | [] => Int.le_refl _
  | x :: l => by rw [fsum_cons]; have := h x; have := fsum_nn h l; omega
theorem way_snoc {s : List Nat} {x t : Nat} (ht : t < s.length) : way (aT T) (bT T) (s ++ [x]) t = way (aT T) (bT T) s t + bT T x := by
  unfold way
  rw [List.take_append_of_le_length (by omega), List.drop_append_of_le_length (by omega), fsum_app (f := bT T)]
  simp [fsum]
  omega
theorem way_last {s : List Nat} {x : Nat} : way (aT T) (bT T) (s ++ [x]) s.length = fsum (aT T) s + aT T x + bT T x := by
  rw [way_at (s := []) rfl]
  simp [fsum]
/-- one job more -/
theorem endA_snoc (h : Js T) {s : List Nat} {x : Nat} : endA T (s ++ [x]) = (if fsum (aT T) s + aT T x < endA T s then endA T s else fsum (aT T) s + aT T x) + bT T x := by
  have hx := aT_ok h x
  have hA := fsum_nn (fun j => (aT_ok h j).1) s
  unfold endA
  rw [List.length_append, List.length_singleton]
  have g1 := endN_ge (T := T) (s := s ++ [x]) (s.length + 1)
  have i1 := endN_in (T := T) (s := s ++ [x]) (s.length + 1)
  have g2 := endN_ge (T := T) (s := s) s.length
  have i2 := endN_in (T := T) (s := s) s.length
  have l1 := g1.2 s.length (by omega)
  rw [way_last] at l1
  have up : endN T (s ++ [x]) (s.length + 1) ≤ (if fsum (aT T) s + aT T x < endN T s s.length then endN T s s.length else fsum (aT T) s + aT T x) + bT T x := by
    rcases i1 with e | ⟨t, ht, e⟩
    · rw [e]; split <;> omega
    · by_cases c : t = s.length
      · subst c
        rw [e, way_last]; split <;> omega
      · have ht' : t < s.length := by omega
        rw [e, way_snoc ht']
        have := g2.2 t ht'
        split <;> omega
  have lo : (if fsum (aT T) s + aT T x < endN T s s.length then endN T s s.length else fsum (aT T) s + aT T x) + bT T x ≤ endN T (s ++ [x]) (s.length + 1) := by
    split
    · rcases i2 with e | ⟨t, ht, e⟩
      · rw [e]; omega
      · have := g1.2 t (by omega)
        rw [way_snoc ht] at this
        omega
    · exact l1
  exact Int.le_antisymm up lo
/-- early jobs first, by their first part; then the others, by their second -/
def earlyT (T : List (Int × Int)) : List Nat := ((List.range T.length).filter fun j => decide (aT T j ≤ bT T j)).mergeSort fun x y => decide (aT T x ≤ aT T y)
def lateT (T : List (Int × Int)) : List Nat := ((List.range T.length).filter fun j => decide (bT T j < aT T j)).mergeSort fun x y => decide (-bT T x ≤ -bT T y)
theorem early_perm : (earlyT T).Perm ((List.range T.length).filter fun j => decide (aT T j ≤ bT T j)) := List.mergeSort_perm _ _
theorem late_perm : (lateT T).Perm ((List.range T.length).filter fun j => decide (bT T j < aT T j)) := List.mergeSort_perm _ _
theorem flow_perm : (earlyT T ++ lateT T).Perm (List.range T.length) := by
  refine (early_perm.append late_perm).trans ?_
  have := List.filter_append_perm (fun j => decide (aT T j ≤ bT T j)) (List.range T.length)
  refine List.Perm.trans (List.Perm.of_eq ?_) this
  congr 2
  funext j
  rw [← decide_not]
  congr 1
  rw [Int.not_le]
/-- no order ends earlier -/
theorem flow_best (h : Js T) {σ : List Nat} (pe : σ.Perm (List.range T.length)) : endA T (earlyT T ++ lateT T) ≤ endA T σ := by
  have hp := pe.trans (flow_perm (T := T)).symm
  have nd : (earlyT T ++ lateT T).Nodup := flow_perm.nodup_iff.mpr List.nodup_range
  have g := endN_ge (T := T) (s := σ) σ.length
  rcases endN_in (T := T) (s := earlyT T ++ lateT T) (earlyT T ++ lateT T).length with e | ⟨t, ht, e⟩
  · unfold endA; rw [e]; exact g.1
  · have e2 : (earlyT T).Pairwise fun x y => aT T x ≤ aT T y := by
      have := List.pairwise_mergeSort (le := fun x y : Nat => decide (aT T x ≤ aT T y)) (fun a b c h1 h2 => by simp at *; omega) (fun a b => by simp; omega) ((List.range T.length).filter fun j => decide (aT T j ≤ bT T j))
      exact this.imp fun h => by simpa using h
    have l2 : (lateT T).Pairwise fun x y => bT T y ≤ bT T x := by
      have := List.pairwise_mergeSort (le := fun x y : Nat => decide (-bT T x ≤ -bT T y)) (fun a b c h1 h2 => by simp at *; omega) (fun a b => by simp; omega) ((List.range T.length).filter fun j => decide (bT T j < aT T j))
      exact this.imp fun h => by simp at h; omega
    obtain ⟨t', q1, q2⟩ := johnson (a := aT T) (b := bT T) nd hp (fun x hx => of_decide_eq_true (List.mem_filter.mp (early_perm.mem_iff.mp hx)).2) e2 (fun x hx => of_decide_eq_true (List.mem_filter.mp (late_perm.mem_iff.mp hx)).2) l2 t ht
    unfold endA
    rw [e]
    exact Int.le_trans q2 (g.2 t' q1)
end
end Mini.Law

-- K58c
set_option Elab.async false
set_option linter.all false
set_option maxRecDepth 100000
set_option maxHeartbeats 1000000
namespace Mini.Law
open PySem Mini
local macro_rules
  | `(tactic| simp! only) => `(tactic| simp only [ev, lstOf, tupD, mathf, true_implies, imp_self, implies_true, nc0, nc1, nc2, nc3, nc4, nc5, nc6, nc7, nc8, nc9, nc10, nc11, nc12, Int.reduceBEq, Int.reduceLT, Int.reduceLE, Int.reduceEq, Int.reduceAdd, Int.reduceSub, Int.reduceMul, Int.reduceNeg, Int.reduceToNat, oks_ite, oks_none, if_false_right, if_false_left, filt_f, filt_t, List.length_map, List.length_range, Bool.not_eq_false, beq_self_eq_true, Bool.true_eq_false, asInt, asOwn, evA, evI, evT, oks_some, oks_bind, oks_map, oks_guard, oks_guard', Mini.R.data, Mini.R.w, Mini.W.data, getz, gets, Option.map_some, Option.bind_some, Option.isNone_none, Option.isNone_some, binop, c_lt, c_le, c_gt, c_ge, c_eq, c_ne, c_is, c_is_i, c_is_b, c_is_s, c_is_l, c_is_t, c_isn, c_isn_i, c_isn_b, c_isn_s, c_isn_l, c_isn_t, c_eq_b, c_ne_b, c_eq_n, c_ne_n, c_eq_s, c_ne_s, c_eq_is, c_ne_is, c_eq_ns, c_ne_ns, c_eq_ni, c_ne_ni, c_eq_in, c_ne_in, c_eq_sn, c_ne_sn, c_eq_si, c_ne_si, truth, Mini.index, Mini.slice, Mini.part, Mini.builtin, Mini.items, isTy, callE, Mini.ws, datas, owned, Mini.back, keptOwn, frzs, frz, giveW, hid, wipe, resto, List.foldl_cons, List.foldl_nil, List.set_cons_zero, List.set_cons_succ, List.map_cons, List.map_nil, bindTg, bindFl, bindNs, nst, lastIs, Nat.reduceBEq, List.dropLast, List.zip_cons_cons, List.zip_nil_right, List.zip_nil_left, Nx_nx, Nx_rt, Nx_bk, Nx_ct, Lp_nx, Lp_ct, Lp_bk, Lp_rt, Rt_rt, Rt_nx, unhide_nil, unhide_nx, unhide_rt, unhide_one, fin0, fin1, fin2, fin3, fin4, fin5, fin6, fin7, fin8, rngL0, Option.getD_some, Option.getD_none, List.length_cons, List.length_nil, Nat.zero_add, Nat.reduceAdd, Nat.reduceEqDiff, Nat.succ_eq_add_one, ite_true, ite_false, if_true, if_false, reduceIte, reduceCtorEq, Bool.false_eq_true, Bool.not_true, Bool.not_false, List.nodup_cons, List.nodup_nil, List.not_mem_nil, List.mem_cons, not_false_eq_true, not_true_eq_false, and_true, true_and, and_self, or_self, or_false, false_or, setAll, Mini.start, repN, rep0, List.append_eq, List.nil_append, List.cons_append, Nat.reduceSub, Nat.reduceMul, Int.reduceNeg, List.mapM_cons, List.mapM_nil, Option.pure_def, Option.bind_eq_bind, List.any_nil, List.any_cons, List.isEmpty_cons, List.isEmpty_nil, Bool.and_true, Bool.true_and, Bool.and_false, Bool.false_and, Bool.or_false, Bool.or_true, Bool.false_or, Bool.true_or, beq_iff_eq, decide_eq_true_eq, Cf.quiet, frzAll, Option.map_none, Option.bind_none, List.append_nil, Nat.lt_irrefl, ite_self, Bool.not_eq_true', decide_true, decide_false, List.contains_cons, List.contains_nil, Mini.stored, Nat.not_lt_zero, Nat.reduceLT, Nat.reduceLeDiff])
  | `(tactic| simp! only [$ls,*]) => `(tactic| simp only [ev, lstOf, tupD, mathf, true_implies, imp_self, implies_true, nc0, nc1, nc2, nc3, nc4, nc5, nc6, nc7, nc8, nc9, nc10, nc11, nc12, Int.reduceBEq, Int.reduceLT, Int.reduceLE, Int.reduceEq, Int.reduceAdd, Int.reduceSub, Int.reduceMul, Int.reduceNeg, Int.reduceToNat, oks_ite, oks_none, if_false_right, if_false_left, filt_f, filt_t, List.length_map, List.length_range, Bool.not_eq_false, beq_self_eq_true, Bool.true_eq_false, asInt, asOwn, evA, evI, evT, oks_some, oks_bind, oks_map, oks_guard, oks_guard', Mini.R.data, Mini.R.w, Mini.W.data, getz, gets, Option.map_some, Option.bind_some, Option.isNone_none, Option.isNone_some, binop, c_lt, c_le, c_gt, c_ge, c_eq, c_ne, c_is, c_is_i, c_is_b, c_is_s, c_is_l, c_is_t, c_isn, c_isn_i, c_isn_b, c_isn_s, c_isn_l, c_isn_t, c_eq_b, c_ne_b, c_eq_n, c_ne_n, c_eq_s, c_ne_s, c_eq_is, c_ne_is, c_eq_ns, c_ne_ns, c_eq_ni, c_ne_ni, c_eq_in, c_ne_in, c_eq_sn, c_ne_sn, c_eq_si, c_ne_si, truth, Mini.index, Mini.slice, Mini.part, Mini.builtin, Mini.items, isTy, callE, Mini.ws, datas, owned, Mini.back, keptOwn, frzs, frz, giveW, hid, wipe, resto, List.foldl_cons, List.foldl_nil, List.set_cons_zero, List.set_cons_succ, List.map_cons, List.map_nil, bindTg, bindFl, bindNs, nst, lastIs, Nat.reduceBEq, List.dropLast, List.zip_cons_cons, List.zip_nil_right, List.zip_nil_left, Nx_nx, Nx_rt, Nx_bk, Nx_ct, Lp_nx, Lp_ct, Lp_bk, Lp_rt, Rt_rt, Rt_nx, unhide_nil, unhide_nx, unhide_rt, unhide_one, fin0, fin1, fin2, fin3, fin4, fin5, fin6, fin7, fin8, rngL0, Option.getD_some, Option.getD_none, List.length_cons, List.length_nil, Nat.zero_add, Nat.reduceAdd, Nat.reduceEqDiff, Nat.succ_eq_add_one, ite_true, ite_false, if_true, if_false, reduceIte, reduceCtorEq, Bool.false_eq_true, Bool.not_true, Bool.not_false, List.nodup_cons, List.nodup_nil, List.not_mem_nil, List.mem_cons, not_false_eq_true, not_true_eq_false, and_true, true_and, and_self, or_self, or_false, false_or, setAll, Mini.start, repN, rep0, List.append_eq, List.nil_append, List.cons_append, Nat.reduceSub, Nat.reduceMul, Int.reduceNeg, List.mapM_cons, List.mapM_nil, Option.pure_def, Option.bind_eq_bind, List.any_nil, List.any_cons, List.isEmpty_cons, List.isEmpty_nil, Bool.and_true, Bool.true_and, Bool.and_false, Bool.false_and, Bool.or_false, Bool.or_true, Bool.false_or, Bool.true_or, beq_iff_eq, decide_eq_true_eq, Cf.quiet, frzAll, Option.map_none, Option.bind_none, List.append_nil, Nat.lt_irrefl, ite_self, Bool.not_eq_true', decide_true, decide_false, List.contains_cons, List.contains_nil, Mini.stored, Nat.not_lt_zero, Nat.reduceLT, Nat.reduceLeDiff, $ls,*])
section
variable {k : Nat} {q : Bool} {T : List (Int × Int)} {s : List Nat}
theorem oL_map {f : Nat → Int} : (s.map fun j => PyData.int (f j)) = (s.map f).map .int := by rw [List.map_map]; rfl
theorem oL_take {n : Nat} : (oL s).take n = oL (s.take n) := by simp [oL]
theorem oL_drop {n : Nat} : (oL s).drop n = oL (s.drop n) := by simp [oL]
theorem enum_jb : enumL (T.map jb) = (List.range T.length).map fun j : Nat => .tuple [.int j, .tuple [.int (aT T j), .int (bT T j)]] := by
  refine List.ext_getElem? fun i => ?_
  unfold enumL
  rw [List.getElem?_mapIdx]
  by_cases hi : i < T.length
  · rw [jb_at hi, List.getElem?_map, List.getElem?_range hi]
    rfl
  · rw [List.getElem?_eq_none (l := T.map jb) (by rw [List.length_map]; omega), List.getElem?_eq_none (by rw [List.length_map, List.length_range]; omega)]
    rfl
theorem need_order_ok (hs : OrdOk T.length s) (hl : T.length ≤ 8) : Ok (callD dsL q (k + 2) 10 [.d (.int T.length), .d (.tuple (oL s))]) fun r => r = (.d .none, [.d (.int T.length), .d (.tuple (oL s))]) := by
  refine ok_callD rfl rfl ?_
  simp only [d_need_job_order, b_need_job_order]
  simp! only
  refine sq fun K_1 h_1 => ok_ite ?_
  simp! only
  refine (is_order_ok (ds := dsL) (k := k) (f := 11) rfl hs (by omega)).imp fun p hp => ?_
  subst hp
  simp! only
  refine ok_pass ?_
  first | refine h_1 _ (ok_pass rfl)
theorem law_end_ok (hs : OrdOk T.length s) (hl : T.length ≤ 8) : Ok (callD dsL q (k + 1) 8 [.d (.tuple (T.map jb)), .d (.tuple (oL s))]) fun r => r = (.d (.int (endA T s)), [.d (.tuple (T.map jb)), .d (.tuple (oL s))]) := by
  have sl := hs.len
  refine ok_callD rfl rfl ?_
  simp only [d__law_end, b__law_end]
  simp! only
  refine sq fun K_1 h_1 => ok_asg ?_
  simp! only
  first | refine h_1 _ ?_
  refine sq fun K_2 h_2 => ok_for ?_
  simp! only
  refine ⟨inR_of (by rw [oL_len]; omega) (by rw [oL_len]; omega), ?_⟩
  refine ok_forI (fun n e => (∃ (o3 o4 o5 : Option W), e = [some (.d (.tuple (T.map jb))), some (.d (.tuple (oL s))), some (.d (.int (endN T s n))), o3, o4, o5])) ⟨_, _, _, rfl⟩ (fun n y e hy hI => ?_) fun e hI => ?_
  · obtain ⟨o3, o4, o5, rfl⟩ := hI
    rw [List.getElem?_map, Option.map_eq_some_iff] at hy
    obtain ⟨y, hy, rfl⟩ := hy
    obtain ⟨hn, hy⟩ := List.getElem?_eq_some_iff.mp hy
    rw [List.getElem_range] at hy
    subst hy
    rw [List.length_range, oL_len] at hn
    have hmt : ∀ j ∈ s.take (n + 1), j < T.length := fun j hj => hs.mem.mp (List.mem_of_mem_take hj)
    have hmd : ∀ j ∈ s.drop n, j < T.length := fun j hj => hs.mem.mp (List.mem_of_mem_drop hj)
    simp! only
    refine sq fun K_3 h_3 => ok_asg ?_
    simp! only
    rw [cut_to (by omega), show ((n : Int) + 1).toNat = n + 1 by omega, oL_take]
    refine ⟨szOk_of (by rw [oL_len, List.length_take]; omega), ?_⟩
    refine ok_lc (fun _ => true) (fun j : Nat => .int (aT T j)) (fun j hj => ?_) ?_
    · simp! only
      refine jb_ok (hmt j hj) ?_
      simp! only [at2]
    simp! only [intsOf_map']
    rw [cut_from (by omega), Int.toNat_natCast, oL_drop]
    refine ⟨szOk_of (by rw [oL_len, List.length_drop]; omega), ?_⟩
    refine ok_lc (fun _ => true) (fun j : Nat => .int (bT T j)) (fun j hj => ?_) ?_
    · simp! only
      refine jb_ok (hmd j hj) ?_
      simp! only [at2]
    simp! only [intsOf_map']
    first | refine h_3 _ ?_ | refine h_2 _ ?_ | refine h_1 _ ?_
    refine sq fun K_4 h_4 => ok_asg ?_
    simp! only
    first | refine h_4 _ (ok_pass ?_) | refine h_3 _ (ok_pass ?_) | refine h_2 _ (ok_pass ?_) | refine h_1 _ (ok_pass ?_)
    exact ⟨_, _, _, rfl⟩
  · obtain ⟨o3, o4, o5, rfl⟩ := hI
    rw [List.length_map, List.length_range, oL_len]
    first | refine h_4 _ ?_ | refine h_3 _ ?_ | refine h_2 _ ?_ | refine h_1 _ ?_
    refine sq fun K_5 h_5 => ok_ret ?_
    simp! only
    rfl
theorem flow_end_ok (h : Js T) (hs : OrdOk T.length s) : Ok (callD dsL false (k + 4) 9 [.d (.tuple (T.map jb)), .d (.tuple (oL s))]) fun r => r = (.d (.int (endA T s)), [.d (.tuple (T.map jb)), .d (.tuple (oL s))]) := by
  refine ok_callD rfl rfl ?_
  simp only [d_flow_end, b_flow_end]
  simp! only
  refine sq fun K_1 h_1 => ok_ex ?_
  simp! only
  refine (need_equal_ok (ds := dsL) (f := 6) (i1 := 7) rfl rfl h).imp fun p hp => ?_
  subst hp
  simp! only
  first | refine h_1 _ ?_
  refine sq fun K_2 h_2 => ok_ex ?_
  simp! only
  refine (need_order_ok hs h.1.2).imp fun p hp => ?_
  subst hp
  simp! only
  first | refine h_2 _ ?_ | refine h_1 _ ?_
  refine sq fun K_3 h_3 => ok_par ?_
  simp! only
  first | refine h_3 _ ?_ | refine h_2 _ ?_ | refine h_1 _ ?_
  refine sq fun K_4 h_4 => ok_for ?_
  simp! only
  refine ok_forI (fun n e => (∃ (o2 : Option W), e = [some (.d (.tuple (T.map jb))), some (.d (.tuple (oL s))), o2, some (.d (.int (fsum (aT T) (s.take n)))), some (.d (.int (endA T (s.take n))))])) ⟨_, rfl⟩ (fun n y e hy hI => ?_) fun e hI => ?_
  · obtain ⟨o2, rfl⟩ := hI
    obtain ⟨j, hj, rfl⟩ := oL_get hy
    have hjl : j < T.length := hs.mem.mp (List.mem_of_getElem? hj)
    have tk1 : s.take (n + 1) = s.take n ++ [j] := by rw [List.take_add_one, hj, Option.toList_some]
    simp! only
    refine sq fun K_5 h_5 => ok_asg ?_
    simp! only
    refine jb_ok hjl ?_
    simp! only [at2]
    first | refine h_5 _ ?_ | refine h_4 _ ?_ | refine h_3 _ ?_ | refine h_2 _ ?_ | refine h_1 _ ?_
    refine sq fun K_6 h_6 => ok_asg ?_
    simp! only
    refine jb_ok hjl ?_
    simp! only [at2]
    first | refine h_6 _ (ok_pass ?_) | refine h_5 _ (ok_pass ?_) | refine h_4 _ (ok_pass ?_) | refine h_3 _ (ok_pass ?_) | refine h_2 _ (ok_pass ?_) | refine h_1 _ (ok_pass ?_)
    rw [tk1, endA_snoc h, fsum_app, show fsum (aT T) [j] = aT T j by simp [fsum]]
    exact ⟨_, rfl⟩
  · obtain ⟨o2, rfl⟩ := hI
    rw [oL_len, List.take_length]
    first | refine h_6 _ ?_ | refine h_5 _ ?_ | refine h_4 _ ?_ | refine h_3 _ ?_ | refine h_2 _ ?_ | refine h_1 _ ?_
    refine sq fun K_7 h_7 => ok_ret ?_
    simp! only
theorem flow_order_ok (h : Js T) : Ok (callD dsL false (k + 4) 5 [.d (.tuple (T.map jb))]) fun r => r = (.d (.tuple (oL (earlyT T ++ lateT T))), [.d (.tuple (T.map jb))]) := by
  refine ok_callD rfl rfl ?_
  simp only [d_flow_order, b_flow_order]
  simp! only
  refine sq fun K_1 h_1 => ok_ex ?_
  simp! only
  refine (need_equal_ok (ds := dsL) (f := 6) (i1 := 7) rfl rfl h).imp fun p hp => ?_
  subst hp
  simp! only
  first | refine h_1 _ ?_
  have hl := h.1
  refine sq fun K_2 h_2 => ok_asg ?_
  simp! only
  refine ⟨szOk_of (by rw [enumL_len, List.length_map]; omega), ?_⟩
  rw [enum_jb]
  refine ok_lc (fun j => decide (aT T j ≤ bT T j)) (fun j : Nat => .int j) (fun j hj => ?_) ?_
  · simp! only [at2]
  simp! only
  first | refine h_2 _ ?_ | refine h_1 _ ?_
  refine sq fun K_3 h_3 => ok_asg ?_
  simp! only
  refine ⟨szOk_of (by rw [enumL_len, List.length_map]; omega), ?_⟩
  rw [enum_jb]
  refine ok_lc (fun j => decide (bT T j < aT T j)) (fun j : Nat => .int j) (fun j hj => ?_) ?_
  · simp! only [at2]
  simp! only
  first | refine h_3 _ ?_ | refine h_2 _ ?_ | refine h_1 _ ?_
  have fl := List.length_filter_le (fun j => decide (aT T j ≤ bT T j)) (List.range T.length)
  have fl2 := List.length_filter_le (fun j => decide (bT T j < aT T j)) (List.range T.length)
  rw [List.length_range] at fl fl2
  refine sq fun K_4 h_4 => ok_asg ?_
  simp! only
  refine ok_keyL (g := fun j : Nat => .int (aT T j)) (fun j hj => ?_) ?_
  · have hj' := List.mem_range.mp (List.mem_filter.mp hj).1
    simp! only
    refine jb_ok hj' ?_
    simp! only [at2]
  rw [sortK_int (by omega)]
  simp! only
  first | refine h_4 _ ?_ | refine h_3 _ ?_ | refine h_2 _ ?_ | refine h_1 _ ?_
  refine sq fun K_5 h_5 => ok_asg ?_
  simp! only
  refine ok_keyL (g := fun j : Nat => .int (-bT T j)) (fun j hj => ?_) ?_
  · have hj' := List.mem_range.mp (List.mem_filter.mp hj).1
    simp! only
    refine jb_ok hj' ?_
    simp! only [at2]
  rw [sortK_int (by omega)]
  simp! only
  first | refine h_5 _ ?_ | refine h_4 _ ?_ | refine h_3 _ ?_ | refine h_2 _ ?_ | refine h_1 _ ?_
  refine sq fun K_6 h_6 => ok_ret ?_
  simp! only [ws_spread, frzs_spread, ws_spread', frzs_spread', map_data_app, data_d]
  refine ⟨by rw [List.length_mergeSort]; omega, by rw [List.length_mergeSort]; omega, ?_⟩
  unfold oL earlyT lateT
  rw [List.map_append]
end
/-! ### all orders -/
def ext (n : Nat) (s : List Nat) : List (List Nat) := ((List.range n).filter fun k => !s.contains k).map fun k => s ++ [k]
def tpl (s : List Nat) : PyData := .tuple (oL s)
def OrdP (n t : Nat) (X : List (List Nat)) : Prop := X.length ≤ 6 ^ t ∧ ∀ s, s ∈ X ↔ s.length = t ∧ s.Nodup ∧ ∀ x ∈ s, x < n
theorem ext_len {n : Nat} {s : List Nat} : (ext n s).length ≤ n := by
  unfold ext
  rw [List.length_map]
  have := List.length_filter_le (fun k => !s.contains k) (List.range n)
  rw [List.length_range] at this
  exact this
theorem exts_len {n : Nat} : ∀ {X : List (List Nat)}, (X.flatMap (ext n)).length ≤ X.length * n
  | [] => by simp
  | s :: X => by
    rw [List.flatMap_cons, List.length_append, List.length_cons, Nat.succ_mul]
    have := ext_len (n := n) (s := s)
    have := exts_len (n := n) (X := X)
    omega
theorem ordP_nil {n : Nat} : OrdP n 0 [[]] := ⟨by simp, fun s => by
  rw [List.mem_singleton]
  constructor
  · rintro rfl; exact ⟨rfl, List.nodup_nil, fun x h => by simp at h⟩
  · rintro ⟨h, _⟩; exact List.eq_nil_of_length_eq_zero h⟩
theorem ordP_step {n t : Nat} {X : List (List Nat)} (hn : n ≤ 6) (h : OrdP n t X) : OrdP n (t + 1) (X.flatMap (ext n)) := by
  obtain ⟨h1, h2⟩ := h
  refine ⟨?_, fun s => ?_⟩
  · have := exts_len (n := n) (X := X)
    rw [Nat.pow_succ]
    exact Nat.le_trans this (Nat.mul_le_mul h1 hn)
  · rw [List.mem_flatMap]
    constructor
    · rintro ⟨s', hs', hm⟩
      obtain ⟨k, hk, rfl⟩ := List.mem_map.mp hm
      obtain ⟨k1, k2⟩ := List.mem_filter.mp hk
      rw [List.mem_range] at k1
      simp at k2
      obtain ⟨a1, a2, a3⟩ := (h2 s').mp hs'
      refine ⟨by simp [a1], ?_, fun x hx => ?_⟩
      · rw [List.nodup_append]
        exact ⟨a2, by simp, fun a ha b hb z => by rw [List.mem_singleton] at hb; rw [z, hb] at ha; exact k2 ha⟩
      · rcases List.mem_append.mp hx with z | z
        · exact a3 x z
        · rw [List.mem_singleton] at z; rw [z]; exact k1
    · rintro ⟨a1, a2, a3⟩
      rcases List.eq_nil_or_concat s with rfl | ⟨i, x, rfl⟩
      · simp at a1
      · rw [List.concat_eq_append] at a1 a2 a3 ⊢
        rw [List.nodup_append] at a2
        refine ⟨i, (h2 i).mpr ⟨by simp at a1; exact a1, a2.1, fun y hy => a3 y (List.mem_append_left _ hy)⟩, List.mem_map.mpr ⟨x, List.mem_filter.mpr ⟨List.mem_range.mpr (a3 x (by simp)), ?_⟩, rfl⟩⟩
        simp
        exact fun z => a2.2.2 x z x (List.mem_singleton_self x) rfl
theorem len_sub : ∀ {S X : List Nat}, S.Nodup → (∀ x ∈ S, x ∈ X) → S.length ≤ X.length
  | [], X, _, _ => Nat.zero_le _
  | x :: S, X, hn, hs => by
    rw [List.nodup_cons] at hn
    have hx := hs x List.mem_cons_self
    have h1 := len_sub (S := S) (X := X.erase x) hn.2 fun y hy => (List.mem_erase_of_ne fun z => hn.1 (by rw [← z]; exact hy)).mpr (hs y (List.mem_cons_of_mem _ hy))
    rw [List.length_erase_of_mem hx] at h1
    have := List.length_pos_of_mem hx
    rw [List.length_cons]
    omega
theorem ordP_all {n : Nat} {X : List (List Nat)} (h : OrdP n n X) {s : List Nat} : s ∈ X ↔ OrdOk n s := by
  rw [h.2]
  constructor
  · rintro ⟨h1, h2, h3⟩
    unfold OrdOk
    rw [List.perm_ext_iff_of_nodup h2 List.nodup_range]
    refine fun x => ⟨fun hx => List.mem_range.mpr (h3 x hx), fun hx => ?_⟩
    by_cases c : x ∈ s
    · exact c
    · have := len_sub (S := s) (X := (List.range n).erase x) h2 fun y hy => (List.mem_erase_of_ne fun z => c (by rw [← z]; exact hy)).mpr (List.mem_range.mpr (h3 y hy))
      rw [List.length_erase_of_mem hx, List.length_range] at this
      rw [List.mem_range] at hx
      omega
  · intro h
    exact ⟨h.len, h.nodup, fun x hx => h.mem.mp hx⟩
theorem c_notin_t {j : Nat} {s : List Nat} : cmpop .notin (.int (j : Int)) (.tuple (oL s)) = some (!s.contains j) := by
  have e : cmpop .notin (.int (j : Int)) (.tuple (oL s)) = if (PyData.int (j : Int)).depth ≤ 100 ∨ PyData.depthAll (oL s) ≤ 100 then some (!(oL s).any fun x => PyData.eqv x (.int (j : Int))) else none := rfl
  rw [e, if_pos (.inl (by simp [PyData.depth]))]
  congr 2
  unfold oL
  rw [List.any_map, List.contains_eq_any_beq]
  congr 1
  funext x
  show PyData.eqv (.int x) (.int j) = _
  rw [show PyData.eqv (.int (x : Int)) (.int (j : Int)) = ((x : Int) == (j : Int)) by simp only [PyData.eqv]]
  rw [Bool.eq_iff_iff, beq_iff_eq, beq_iff_eq]
  omega
theorem orders_ok {k n : Nat} {q : Bool} (n1 : 1 ≤ n) (n6 : n ≤ 6) : Ok (callD dsL q (k + 1) 4 [.d (.int n)]) fun r => ∃ X : List (List Nat), r = (.d (.list (X.map tpl)), [.d (.int n)]) ∧ OrdP n n X := by
  have p6 : ∀ t, t ≤ 6 → 6 ^ t ≤ 46656 := fun t ht => Nat.pow_le_pow_right (n := 6) (by decide) ht
  refine ok_callD rfl rfl ?_
  simp only [d__law_orders, b__law_orders]
  simp! only
  refine sq fun K_1 h_1 => ok_asg ?_
  simp! only
  first | refine h_1 _ ?_
  refine sq fun K_2 h_2 => ok_for ?_
  simp! only
  refine ⟨inR_of (by omega) (by omega), ?_⟩
  refine ok_forI (fun t e => ∃ (w : W) (X : List (List Nat)), (∃ (o2 o3 o4 o5 : Option W), e = [some (.d (.int ((n : Nat) : Int))), some (w), o2, o3, o4, o5]) ∧ OrdP n t X ∧ w = if t = 0 then .own (X.map tpl) else .d (.list (X.map tpl))) ⟨_, [[]], ⟨_, _, _, _, rfl⟩, ordP_nil, rfl⟩ (fun t y e hy hI => ?_) fun e hI => ?_
  · obtain ⟨w, X, ⟨o2, o3, o4, o5, rfl⟩, hX, hw⟩ := hI
    rw [List.getElem?_map, Option.map_eq_some_iff] at hy
    obtain ⟨y, hy, rfl⟩ := hy
    obtain ⟨hn, hy⟩ := List.getElem?_eq_some_iff.mp hy
    rw [List.getElem_range] at hy
    subst hy
    rw [List.length_range] at hn
    have hXl := hX.1
    have := p6 t (by omega)
    simp! only
    refine sq fun K_3 h_3 => ok_asg ?_
    simp! only
    first | refine h_3 _ ?_ | refine h_2 _ ?_ | refine h_1 _ ?_
    refine sqm (fun e => ∃ j, (∃ (o2 o4 o5 : Option W), e = [some (.d (.int ((n : Nat) : Int))), some (w), o2, some (.own (((X.take j).flatMap (ext n)).map tpl)), o4, o5]) ∧ j = X.length) (ok_for ?_) fun e hI => ?_
    · have loop : ∀ (v1 o4 o5 : Option W) (Q : Out → Prop), (∀ o4 o5, Q (.nx [some (.d (.int n)), v1, some (.d (.int t)), some (.own ((X.flatMap (ext n)).map tpl)), o4, o5])) → Ok (forL (bindTg [4] true) (run { q := q, call := callD dsL q k, qcall := callD dsL true k } (.seq (.asg 3 (.bin .add (.var 3) (.lc (.rng1 (.var 0)) [5] true (.cmp .notin (.var 5) (.var 4)) (.bin .add (.var 4) (.tup (.cons (.var 5) .nil)))))) .pass)) (X.map tpl) [some (.d (.int n)), v1, some (.d (.int t)), some (.own []), o4, o5]) Q := by
        intro v1 o4 o5 Q hQ
        refine ok_forI (fun j e => ∃ o4 o5, e = [some (.d (.int n)), v1, some (.d (.int t)), some (.own (((X.take j).flatMap (ext n)).map tpl)), o4, o5]) ⟨_, _, rfl⟩ (fun j y e hy hI => ?_) fun e hI => ?_
        · obtain ⟨o4, o5, rfl⟩ := hI
          rw [List.getElem?_map, Option.map_eq_some_iff] at hy
          obtain ⟨s, hs, rfl⟩ := hy
          have hsl := ((hX.2 s).mp (List.mem_of_getElem? hs)).1
          have l1 := exts_len (n := n) (X := X.take j)
          have l2 : (X.take j).length * n ≤ 46656 * 6 := Nat.mul_le_mul (by rw [List.length_take]; omega) n6
          have l3 := ext_len (n := n) (s := s)
          simp! only [tpl]
          refine sq fun K_4 h_4 => ok_asg ?_
          simp! only
          refine ⟨inR_of (by omega) (by omega), szOk_of (by omega), ?_⟩
          refine ok_lc (fun m : Nat => !s.contains m) (fun m : Nat => tpl (s ++ [m])) (fun m hm => ?_) ?_
          · simp! only [c_notin_t]
            split
            · exact ⟨szOk_of (by rw [oL_len]; omega), by simp [tpl, oL]⟩
            · trivial
          · simp! only
            have fl := List.length_filter_le (fun m => !s.contains m) (List.range n)
            rw [List.length_range] at fl
            refine ⟨szOk_of (by omega), ?_⟩
            first | refine h_4 _ (ok_pass ?_) | refine h_3 _ (ok_pass ?_) | refine h_2 _ (ok_pass ?_) | refine h_1 _ (ok_pass ?_)
            rw [show ((X.take j).flatMap (ext n)).map tpl ++ ((List.range n).filter fun m => !s.contains m).map (fun m => tpl (s ++ [m])) = ((X.take (j + 1)).flatMap (ext n)).map tpl by
              rw [List.take_add_one, hs, Option.toList_some, List.flatMap_append, List.flatMap_singleton, List.map_append]
              congr 1
              unfold ext
              rw [List.map_map]
              rfl]
            exact ⟨_, _, rfl⟩
        · obtain ⟨o4, o5, rfl⟩ := hI
          rw [List.length_map, List.take_length]
          exact hQ o4 o5
      by_cases t0 : t = 0
      · rw [if_pos t0] at hw
        subst hw
        simp! only
        refine loop _ _ _ _ fun o4 o5 => ?_
        refine oks_some.mpr ?_
        exact ⟨X.length, ⟨_, _, _, by rw [List.take_length]; rfl⟩, rfl⟩
      · rw [if_neg t0] at hw
        subst hw
        simp! only
        refine loop _ _ _ _ fun o4 o5 => ?_
        exact ⟨X.length, ⟨_, _, _, by rw [List.take_length]⟩, rfl⟩
    obtain ⟨j, ⟨o2, o4, o5, rfl⟩, hj⟩ := hI
    subst hj
    rw [List.take_length]
    refine sq fun K_5 h_5 => ok_asg ?_
    simp! only
    first | refine h_5 _ (ok_pass ?_) | refine h_4 _ (ok_pass ?_) | refine h_3 _ (ok_pass ?_) | refine h_2 _ (ok_pass ?_) | refine h_1 _ (ok_pass ?_)
    exact ⟨_, _, ⟨_, _, _, _, rfl⟩, ordP_step n6 hX, rfl⟩
  · obtain ⟨w, X, ⟨o2, o3, o4, o5, rfl⟩, hX, hw⟩ := hI
    rw [List.length_map, List.length_range] at hX hw
    rw [if_neg (by omega)] at hw
    subst hw
    first | refine h_5 _ ?_ | refine h_4 _ ?_ | refine h_3 _ ?_ | refine h_2 _ ?_ | refine h_1 _ ?_
    refine sq fun K_6 h_6 => ok_ret ?_
    simp! only
    exact ⟨X, rfl, hX⟩
end Mini.Law

-- K58d
set_option Elab.async false
set_option linter.all false
set_option maxRecDepth 100000
set_option maxHeartbeats 1000000
namespace Mini.Law
open PySem Mini
local macro_rules
  | `(tactic| simp! only) => `(tactic| simp only [ev, lstOf, tupD, mathf, true_implies, imp_self, implies_true, nc0, nc1, nc2, nc3, nc4, nc5, nc6, nc7, nc8, nc9, nc10, nc11, nc12, Int.reduceBEq, Int.reduceLT, Int.reduceLE, Int.reduceEq, Int.reduceAdd, Int.reduceSub, Int.reduceMul, Int.reduceNeg, Int.reduceToNat, oks_ite, oks_none, if_false_right, if_false_left, filt_f, filt_t, List.length_map, List.length_range, Bool.not_eq_false, beq_self_eq_true, Bool.true_eq_false, asInt, asOwn, evA, evI, evT, oks_some, oks_bind, oks_map, oks_guard, oks_guard', Mini.R.data, Mini.R.w, Mini.W.data, getz, gets, Option.map_some, Option.bind_some, Option.isNone_none, Option.isNone_some, binop, c_lt, c_le, c_gt, c_ge, c_eq, c_ne, c_is, c_is_i, c_is_b, c_is_s, c_is_l, c_is_t, c_isn, c_isn_i, c_isn_b, c_isn_s, c_isn_l, c_isn_t, c_eq_b, c_ne_b, c_eq_n, c_ne_n, c_eq_s, c_ne_s, c_eq_is, c_ne_is, c_eq_ns, c_ne_ns, c_eq_ni, c_ne_ni, c_eq_in, c_ne_in, c_eq_sn, c_ne_sn, c_eq_si, c_ne_si, truth, Mini.index, Mini.slice, Mini.part, Mini.builtin, Mini.items, isTy, callE, Mini.ws, datas, owned, Mini.back, keptOwn, frzs, frz, giveW, hid, wipe, resto, List.foldl_cons, List.foldl_nil, List.set_cons_zero, List.set_cons_succ, List.map_cons, List.map_nil, bindTg, bindFl, bindNs, nst, lastIs, Nat.reduceBEq, List.dropLast, List.zip_cons_cons, List.zip_nil_right, List.zip_nil_left, Nx_nx, Nx_rt, Nx_bk, Nx_ct, Lp_nx, Lp_ct, Lp_bk, Lp_rt, Rt_rt, Rt_nx, unhide_nil, unhide_nx, unhide_rt, unhide_one, fin0, fin1, fin2, fin3, fin4, fin5, fin6, fin7, fin8, rngL0, Option.getD_some, Option.getD_none, List.length_cons, List.length_nil, Nat.zero_add, Nat.reduceAdd, Nat.reduceEqDiff, Nat.succ_eq_add_one, ite_true, ite_false, if_true, if_false, reduceIte, reduceCtorEq, Bool.false_eq_true, Bool.not_true, Bool.not_false, List.nodup_cons, List.nodup_nil, List.not_mem_nil, List.mem_cons, not_false_eq_true, not_true_eq_false, and_true, true_and, and_self, or_self, or_false, false_or, setAll, Mini.start, repN, rep0, List.append_eq, List.nil_append, List.cons_append, Nat.reduceSub, Nat.reduceMul, Int.reduceNeg, List.mapM_cons, List.mapM_nil, Option.pure_def, Option.bind_eq_bind, List.any_nil, List.any_cons, List.isEmpty_cons, List.isEmpty_nil, Bool.and_true, Bool.true_and, Bool.and_false, Bool.false_and, Bool.or_false, Bool.or_true, Bool.false_or, Bool.true_or, beq_iff_eq, decide_eq_true_eq, Cf.quiet, frzAll, Option.map_none, Option.bind_none, List.append_nil, Nat.lt_irrefl, ite_self, Bool.not_eq_true', decide_true, decide_false, List.contains_cons, List.contains_nil, Mini.stored, Nat.not_lt_zero, Nat.reduceLT, Nat.reduceLeDiff])
  | `(tactic| simp! only [$ls,*]) => `(tactic| simp only [ev, lstOf, tupD, mathf, true_implies, imp_self, implies_true, nc0, nc1, nc2, nc3, nc4, nc5, nc6, nc7, nc8, nc9, nc10, nc11, nc12, Int.reduceBEq, Int.reduceLT, Int.reduceLE, Int.reduceEq, Int.reduceAdd, Int.reduceSub, Int.reduceMul, Int.reduceNeg, Int.reduceToNat, oks_ite, oks_none, if_false_right, if_false_left, filt_f, filt_t, List.length_map, List.length_range, Bool.not_eq_false, beq_self_eq_true, Bool.true_eq_false, asInt, asOwn, evA, evI, evT, oks_some, oks_bind, oks_map, oks_guard, oks_guard', Mini.R.data, Mini.R.w, Mini.W.data, getz, gets, Option.map_some, Option.bind_some, Option.isNone_none, Option.isNone_some, binop, c_lt, c_le, c_gt, c_ge, c_eq, c_ne, c_is, c_is_i, c_is_b, c_is_s, c_is_l, c_is_t, c_isn, c_isn_i, c_isn_b, c_isn_s, c_isn_l, c_isn_t, c_eq_b, c_ne_b, c_eq_n, c_ne_n, c_eq_s, c_ne_s, c_eq_is, c_ne_is, c_eq_ns, c_ne_ns, c_eq_ni, c_ne_ni, c_eq_in, c_ne_in, c_eq_sn, c_ne_sn, c_eq_si, c_ne_si, truth, Mini.index, Mini.slice, Mini.part, Mini.builtin, Mini.items, isTy, callE, Mini.ws, datas, owned, Mini.back, keptOwn, frzs, frz, giveW, hid, wipe, resto, List.foldl_cons, List.foldl_nil, List.set_cons_zero, List.set_cons_succ, List.map_cons, List.map_nil, bindTg, bindFl, bindNs, nst, lastIs, Nat.reduceBEq, List.dropLast, List.zip_cons_cons, List.zip_nil_right, List.zip_nil_left, Nx_nx, Nx_rt, Nx_bk, Nx_ct, Lp_nx, Lp_ct, Lp_bk, Lp_rt, Rt_rt, Rt_nx, unhide_nil, unhide_nx, unhide_rt, unhide_one, fin0, fin1, fin2, fin3, fin4, fin5, fin6, fin7, fin8, rngL0, Option.getD_some, Option.getD_none, List.length_cons, List.length_nil, Nat.zero_add, Nat.reduceAdd, Nat.reduceEqDiff, Nat.succ_eq_add_one, ite_true, ite_false, if_true, if_false, reduceIte, reduceCtorEq, Bool.false_eq_true, Bool.not_true, Bool.not_false, List.nodup_cons, List.nodup_nil, List.not_mem_nil, List.mem_cons, not_false_eq_true, not_true_eq_false, and_true, true_and, and_self, or_self, or_false, false_or, setAll, Mini.start, repN, rep0, List.append_eq, List.nil_append, List.cons_append, Nat.reduceSub, Nat.reduceMul, Int.reduceNeg, List.mapM_cons, List.mapM_nil, Option.pure_def, Option.bind_eq_bind, List.any_nil, List.any_cons, List.isEmpty_cons, List.isEmpty_nil, Bool.and_true, Bool.true_and, Bool.and_false, Bool.false_and, Bool.or_false, Bool.or_true, Bool.false_or, Bool.true_or, beq_iff_eq, decide_eq_true_eq, Cf.quiet, frzAll, Option.map_none, Option.bind_none, List.append_nil, Nat.lt_irrefl, ite_self, Bool.not_eq_true', decide_true, decide_false, List.contains_cons, List.contains_nil, Mini.stored, Nat.not_lt_zero, Nat.reduceLT, Nat.reduceLeDiff, $ls,*])
theorem min_end {T : List (Int × Int)} {X : List (List Nat)} {S : List Nat} (h : S ∈ X) (hm : ∀ s ∈ X, endA T S ≤ endA T s) : extr minI (X.map fun s => PyData.int (endA T s)) = some (.int (endA T S)) := by
  rw [show X.map (fun s => PyData.int (endA T s)) = (X.map (endA T)).map .int by rw [List.map_map]; rfl]
  cases X with
  | nil => simp at h
  | cons x L =>
    rw [List.map_cons, extr_cons]
    have m1 := minI_mem (L.map (endA T)) (endA T x)
    have m2 := minI_le (L.map (endA T)) (endA T x)
    rw [← List.map_cons (f := endA T)] at m1 m2
    obtain ⟨s, hs, e⟩ := List.mem_map.mp m1
    have a1 := hm s hs
    have a2 := m2 _ (List.mem_map.mpr ⟨S, h, rfl⟩)
    congr 2
    omega
theorem notin_tpl {L : List (List Nat)} {r : List Nat} (h : r ∈ L) : cmpop .notin (.tuple (oL r)) (.list (L.map tpl)) = some false := by
  have dp : PyData.depth (.tuple (oL r)) ≤ 100 := by
    have : PyData.depthAll (oL r) = 0 := by rw [oL_ints]; exact PySem.W.depth_ints _
    simp [PyData.depth, this]
  have e : cmpop .notin (.tuple (oL r)) (.list (L.map tpl)) = if (PyData.tuple (oL r)).depth ≤ 100 ∨ PyData.depthAll (L.map tpl) ≤ 100 then some (!(L.map tpl).any fun x => PyData.eqv x (.tuple (oL r))) else none := rfl
  rw [e, if_pos (.inl dp)]
  congr 1
  rw [Bool.not_eq_false', List.any_eq_true]
  refine ⟨tpl r, List.mem_map.mpr ⟨r, h, rfl⟩, ?_⟩
  unfold tpl
  simp only [PyData.eqv]
  rw [oL_ints, eqvAll_ints, decide_eq_true rfl]
theorem plain_law (ns : List Int) (h : ns.length ≤ 63) : ∃ ws', callD dsL false 60 0 [.d (.list (ns.map PyData.int))] = some (.d (.bool true), ws') ∧ ws'.length = 1 := by
  suffices Ok (callD dsL false 60 0 [.d (.list (ns.map PyData.int))]) fun p => p.1 = .d (.bool true) ∧ p.2.length = 1 by
    obtain ⟨⟨w, ws'⟩, h1, h2, h3⟩ := this
    dsimp only at h2 h3
    subst h2
    exact ⟨ws', h1, h3⟩
  have r0 : Row ns [.list (ns.map .int), .int 0, .int 3258, .int 0] := ⟨0, 3258, 0, rfl, by omega⟩
  refine ok_callD rfl rfl ?_
  simp only [d_law, b_law]
  simp! only
  refine sq fun K_1 h_1 => ok_asg ?_
  simp! only
  first | refine h_1 _ ?_
  refine sq fun K_2 h_2 => ok_asg ?_
  simp! only
  first | refine h_2 _ ?_ | refine h_1 _ ?_
  refine sqm (fun e => ∃ (st : List PyData) (T : List (Int × Int)), (∃ (o3 o4 o5 o6 o7 o8 o9 : Option W), e = [some (.d (.list (ns.map .int))), some (.own (st)), some (.own (T.map jb)), o3, o4, o5, o6, o7, o8, o9]) ∧ Row ns st ∧ (1 ≤ T.length ∧ T.length ≤ 6) ∧ ∀ t ∈ T, JOk t) (ok_for ?_) fun e hI => ?_
  · simp! only
    refine (taken_ok (ds := dsL) (k := 58) rfl r0 (by decide) (by decide)).imp fun p hp => ?_
    obtain ⟨r, st1, rfl, a0, a1, hs1⟩ := hp
    simp! only
    refine (taken_ok (ds := dsL) (k := 58) rfl hs1 (by decide) (by decide)).imp fun p hp => ?_
    obtain ⟨r', st2, rfl, b0, b1, hs2⟩ := hp
    simp! only
    split
    all_goals
      refine ⟨inR_of (by omega) (by omega), ?_⟩
      refine ok_forI (fun n e => ∃ (st : List PyData) (T : List (Int × Int)), (∃ (o3 o4 o5 o6 o7 o8 o9 : Option W), e = [some (.d (.list (ns.map .int))), some (.own (st)), some (.own (T.map jb)), o3, o4, o5, o6, o7, o8, o9]) ∧ Row ns st ∧ T.length = n ∧ ∀ t ∈ T, JOk t) ⟨_, [], ⟨_, _, _, _, _, _, _, rfl⟩, hs2, rfl, by simp⟩ (fun n y e hy hI => ?_) fun e hI => ?_
      · obtain ⟨st3, T, ⟨o3, o4, o5, o6, o7, o8, o9, rfl⟩, hs3, hl, hT⟩ := hI
        obtain ⟨rfl, hlt⟩ := rngL_get hy
        simp! only
        refine ok_seq (ok_app ?_)
        simp! only
        refine (pick_ok (ds := dsL) (k := 57) rfl rfl hs3 (.inl rfl) (by simp) (by simp)).imp fun p hp => ?_
        obtain ⟨m0, st4, rfl, hm, hs4⟩ := hp
        obtain ⟨m, rfl, m1, m2⟩ : ∃ m : Int, m0 = .int m ∧ 1 ≤ m ∧ m ≤ 101 := by
          simp only [List.mem_cons, List.not_mem_nil, or_false] at hm
          rcases hm with rfl | rfl | rfl <;> exact ⟨_, rfl, by decide, by decide⟩
        simp! only
        refine (taken_ok (ds := dsL) (k := 58) rfl hs4 (by omega) (by omega)).imp fun p hp => ?_
        obtain ⟨d, st5, rfl, d0, d1, hs5⟩ := hp
        simp! only
        refine (pick_ok (ds := dsL) (k := 57) rfl rfl hs5 (.inl rfl) (by simp) (by simp)).imp fun p hp => ?_
        obtain ⟨m0', st6, rfl, hm', hs6⟩ := hp
        obtain ⟨m', rfl, m1', m2'⟩ : ∃ m : Int, m0' = .int m ∧ 1 ≤ m ∧ m ≤ 101 := by
          simp only [List.mem_cons, List.not_mem_nil, or_false] at hm'
          rcases hm' with rfl | rfl | rfl <;> exact ⟨_, rfl, by decide, by decide⟩
        simp! only
        refine (taken_ok (ds := dsL) (k := 58) rfl hs6 (by omega) (by omega)).imp fun p hp => ?_
        obtain ⟨w, st7, rfl, w0, w1, hs7⟩ := hp
        simp! only
        refine ⟨szOk_of (by omega), ok_pass ?_⟩
        refine ⟨_, T ++ [(d, w)], by rw [List.map_append]; exact ⟨_, _, _, _, _, _, _, rfl⟩, hs7, by simp [hl], fun t ht => ?_⟩
        rcases List.mem_append.mp ht with z | z
        · exact hT t z
        · rw [List.mem_singleton] at z
          rw [z]
          exact ⟨⟨d0, by omega⟩, w0, by omega⟩
      · obtain ⟨st3, T, ⟨o3, o4, o5, o6, o7, o8, o9, rfl⟩, hs3, hl, hT⟩ := hI
        rw [rngL_len] at hl
        exact ⟨_, T, ⟨_, _, _, _, _, _, _, rfl⟩, hs3, by omega, hT⟩
  obtain ⟨st, T, ⟨o3, o4, o5, o6, o7, o8, o9, rfl⟩, hs, hl, hT⟩ := hI
  have hJ : Js T := ⟨⟨hl.1, by omega⟩, hT⟩
  refine sq fun K_3 h_3 => ok_asg ?_
  simp! only
  first | refine h_3 _ ?_ | refine h_2 _ ?_ | refine h_1 _ ?_
  refine sq fun K_4 h_4 => ok_asg ?_
  simp! only
  refine (orders_ok (k := 58) (n := T.length) hl.1 hl.2).imp fun p hp => ?_
  obtain ⟨X, rfl, hX⟩ := hp
  have hXm := fun s => ordP_all hX (s := s)
  have hXl : X.length ≤ 46656 := Nat.le_trans hX.1 (Nat.pow_le_pow_right (n := 6) (by decide) hl.2)
  simp! only
  first | refine h_4 _ ?_ | refine h_3 _ ?_ | refine h_2 _ ?_ | refine h_1 _ ?_
  refine sq fun K_5 h_5 => ok_asg ?_
  simp! only
  refine ⟨szOk_of (by omega), ?_⟩
  refine ok_lc (fun _ => true) (fun s => .int (endA T s)) (fun s hs => ?_) ?_
  · simp! only [tpl]
    refine (law_end_ok (k := 58) ((hXm s).mp hs) (by omega)).imp fun p hp => ?_
    subst hp
    simp! only
  simp! only
  first | refine h_5 _ ?_ | refine h_4 _ ?_ | refine h_3 _ ?_ | refine h_2 _ ?_ | refine h_1 _ ?_
  refine sq fun K_6 h_6 => ok_asg ?_
  simp! only
  refine (flow_order_ok (k := 55) hJ).imp fun p hp => ?_
  subst hp
  simp! only
  first | refine h_6 _ ?_ | refine h_5 _ ?_ | refine h_4 _ ?_ | refine h_3 _ ?_ | refine h_2 _ ?_ | refine h_1 _ ?_
  have oF : OrdOk T.length (earlyT T ++ lateT T) := flow_perm
  have fl := oF.len
  have inX := (hXm _).mpr oF
  generalize hF : earlyT T ++ lateT T = F at oF fl inX ⊢
  have best : ∀ s ∈ X, endA T F ≤ endA T s := fun s hs => by rw [← hF]; exact flow_best hJ ((hXm s).mp hs)
  refine sq fun K_7 h_7 => ok_ite ?_
  simp! only
  rw [notin_tpl inX]
  simp! only
  refine ⟨szOk_of (by rw [oL_len]; omega), ?_⟩
  refine ok_lc (fun _ => false) (fun j : Nat => .int j) (fun j hj => ?_) ?_
  · simp! only
  simp! only [c_ne_nil]
  refine ok_pass ?_
  first | refine h_7 _ ?_ | refine h_6 _ ?_ | refine h_5 _ ?_ | refine h_4 _ ?_ | refine h_3 _ ?_ | refine h_2 _ ?_ | refine h_1 _ ?_
  refine sq fun K_8 h_8 => ok_for ?_
  simp! only
  refine ⟨rfl, ?_⟩
  have X1 : 0 < X.length := List.length_pos_of_mem inX
  refine ok_forI (fun n e => ∃ st, (∃ (o3 o7 o8 o9 : Option W), e = [some (.d (.list (ns.map .int))), some (.own (st)), some (.d (.tuple (T.map jb))), o3, some (.d (.list (X.map tpl))), some (.own (X.map fun s => .int (endA T s))), some (.d (.tuple (oL F))), o7, o8, o9]) ∧ Row ns st) ⟨_, ⟨_, _, _, _, rfl⟩, hs⟩ (fun n y e hy hI => ?_) fun e hI => ?_
  · obtain ⟨st2, ⟨o3, o7, o8, o9, rfl⟩, hs2⟩ := hI
    simp! only
    refine sq fun K_9 h_9 => ok_asg ?_
    simp! only
    refine (taken_ok (ds := dsL) (k := 58) rfl hs2 (by omega) (by omega)).imp fun p hp => ?_
    obtain ⟨r, st3, rfl, r0, r1, hs3⟩ := hp
    simp! only
    first | refine h_9 _ ?_ | refine h_8 _ ?_ | refine h_7 _ ?_ | refine h_6 _ ?_ | refine h_5 _ ?_ | refine h_4 _ ?_ | refine h_3 _ ?_ | refine h_2 _ ?_ | refine h_1 _ ?_
    obtain ⟨j, rfl⟩ := Int.eq_ofNat_of_zero_le r0
    have hj : j < X.length := by omega
    have hjx : X[j] ∈ X := List.getElem_mem hj
    have at1 : ∀ {Q : PyData → Prop}, Q (tpl X[j]) → Ok (L2.atI (X.map tpl) (j : Int)) Q := fun {Q} hq => ok_atI (by omega) ⟨tpl X[j], by rw [List.getElem?_map, Int.toNat_natCast, List.getElem?_eq_getElem hj]; rfl, hq⟩
    have at2' : ∀ {Q : PyData → Prop}, Q (.int (endA T X[j])) → Ok (L2.atI (X.map fun s => PyData.int (endA T s)) (j : Int)) Q := fun {Q} hq => ok_atI (by omega) ⟨.int (endA T X[j]), by rw [List.getElem?_map, Int.toNat_natCast, List.getElem?_eq_getElem hj]; rfl, hq⟩
    refine sq fun K_10 h_10 => ok_ite ?_
    simp! only
    refine at1 ?_
    simp! only [tpl]
    refine (flow_end_ok (k := 55) hJ ((hXm _).mp hjx)).imp fun p hp => ?_
    subst hp
    simp! only
    refine at2' ?_
    simp! only
    refine (alike_ok (ds := dsL) (q := false) (k := 58) rfl 1 (.int (endA T X[j])) trivial).imp fun p hp => ?_
    subst hp
    simp! only
    first | refine h_10 _ (ok_pass ?_) | refine h_9 _ (ok_pass ?_) | refine h_8 _ (ok_pass ?_) | refine h_7 _ (ok_pass ?_) | refine h_6 _ (ok_pass ?_) | refine h_5 _ (ok_pass ?_) | refine h_4 _ (ok_pass ?_) | refine h_3 _ (ok_pass ?_) | refine h_2 _ (ok_pass ?_) | refine h_1 _ (ok_pass ?_)
    exact ⟨_, ⟨_, _, _, _, rfl⟩, hs3⟩
  · obtain ⟨st2, ⟨o3, o7, o8, o9, rfl⟩, hs2⟩ := hI
    first | refine h_10 _ ?_ | refine h_9 _ ?_ | refine h_8 _ ?_ | refine h_7 _ ?_ | refine h_6 _ ?_ | refine h_5 _ ?_ | refine h_4 _ ?_ | refine h_3 _ ?_ | refine h_2 _ ?_ | refine h_1 _ ?_
    refine sq fun K_11 h_11 => ok_ret ?_
    simp! only
    refine (law_end_ok (k := 58) oF (by omega)).imp fun p hp => ?_
    subst hp
    simp! only
    rw [min_end inX best]
    simp! only
    refine (flow_end_ok (k := 55) hJ oF).imp fun p hp => ?_
    subst hp
    simp! only
    rw [min_end inX best]
    simp! only
    refine (alike_ok (ds := dsL) (q := false) (k := 58) rfl 1 (.int (endA T F)) trivial).imp fun p hp => ?_
    subst hp
    simp! only
end Mini.Law

-- K58z
set_option Elab.async false
set_option linter.all false
set_option maxRecDepth 100000
set_option maxHeartbeats 0
namespace Mini.Law
open PySem PyProof.Rows L2 Mini
abbrev prg : Program := PySem.Challenge.pw_eventcore_k58_whole_two_in_a_row
def top (i : Nat) : Stmt := prg.main.body.getD i (.Pass ⟨0, 0, 0, 0⟩)
def f_law : Fd := ⟨"law", defArgs (top 22), defBody (top 22), defScope (top 22), ["_law_script", "_law_row", "_law_jobs", "_law_k", "_law_orders_here", "_law_ends", "_law_found", "_law_turn", "_law_at", "_law_order"], d_law⟩
def f__law_taken : Fd := ⟨"_law_taken", defArgs (top 17), defBody (top 17), defScope (top 17), ["_law_row", "_law_many", "_law_cell", "_law_found"], d__law_taken⟩
def f__law_pick : Fd := ⟨"_law_pick", defArgs (top 18), defBody (top 18), defScope (top 18), ["_law_row", "_law_things"], d__law_pick⟩
def f__law_alike : Fd := ⟨"_law_alike", defArgs (top 19), defBody (top 19), defScope (top 19), ["_law_found", "_law_due", "_law_k"], d__law_alike⟩
def f__law_orders : Fd := ⟨"_law_orders", defArgs (top 20), defBody (top 20), defScope (top 20), ["_law_many", "_law_found", "_law_turn", "_law_more", "_law_some", "_law_k"], d__law_orders⟩
def f_flow_order : Fd := ⟨"flow_order", defArgs (top 15), defBody (top 15), defScope (top 15), ["jobs", "early", "late", "k", "job"], d_flow_order⟩
def f_need_equal : Fd := ⟨"need_equal", defArgs (top 9), defBody (top 9), defScope (top 9), ["jobs", "index", "job", "one"], d_need_equal⟩
def f_is_in : Fd := ⟨"is_in", defArgs (top 5), defBody (top 5), defScope (top 5), ["value", "least", "most"], d_is_in⟩
def f__law_end : Fd := ⟨"_law_end", defArgs (top 21), defBody (top 21), defScope (top 21), ["_law_jobs", "_law_order", "_law_found", "_law_turn", "_law_way", "_law_k"], d__law_end⟩
def f_flow_end : Fd := ⟨"flow_end", defArgs (top 14), defBody (top 14), defScope (top 14), ["jobs", "order", "k", "first", "second"], d_flow_end⟩
def f_need_job_order : Fd := ⟨"need_job_order", defArgs (top 13), defBody (top 13), defScope (top 13), ["many", "order"], d_need_job_order⟩
def f_is_order : Fd := ⟨"is_order", defArgs (top 11), defBody (top 11), defScope (top 11), ["many", "value", "one"], d_is_order⟩
def px : Px := ⟨["law", "_law_taken", "_law_pick", "_law_alike", "_law_orders", "flow_order", "need_equal", "is_in", "_law_end", "flow_end", "need_job_order", "is_order"], [("MOST_TIME", (.int 100)), ("MOST_EQUAL", (.int 8))], []⟩
def fs : List Fd := [f_law, f__law_taken, f__law_pick, f__law_alike, f__law_orders, f_flow_order, f_need_equal, f_is_in, f__law_end, f_flow_end, f_need_job_order, f_is_order]
theorem oks : fs.all (fun f => f.ok px) = true := by decide +kernel
abbrev row : PySem.W.OpenRow := PySem.W.OpenLaw.row PySem.Challenge.rw_eventcore_k58_whole_two_in_a_row
abbrev hk : PySem.W.Hook := He.hookX 6 (facts px fs) (fs.map defD) [] (tabsOf fs) (mtB px)
def ob (s : PySem.W.SharedT) : He.AlX := He.obsX 6 (facts px fs) (fs.map defD) [] (tabsOf fs) (mtB px) (HandSHeadRun.getT s)
theorem ob_eq (s : PySem.W.SharedT) : ob s = hk.obs s.abs := He.obsX_eq (HandSHeadRun.getT_eq s)
def loose : List PySem.Str := ["EventError", "BadOrder", "BadJobs", "is_in", "MOST_TIME", "MOST_EQUAL", "need_equal", "is_order", "need_job_order", "flow_end", "flow_order", "_law_taken", "_law_pick", "_law_alike", "_law_orders", "_law_end"]
theorem run (w : World) : HandSHeadRun.RunEq row (PySem.W.view row.prog [22]) hk ob 4000 loose w := by
  intro os
  kernel_rfl
theorem b_of_law : Binds f_law := fun kV doc pm an cdv ct us hl => match us, hl with | [_], _ => rfl
theorem b_of__law_taken : Binds f__law_taken := fun kV doc pm an cdv ct us hl => match us, hl with | [_, _], _ => rfl
theorem b_of__law_pick : Binds f__law_pick := fun kV doc pm an cdv ct us hl => match us, hl with | [_, _], _ => rfl
theorem b_of__law_alike : Binds f__law_alike := fun kV doc pm an cdv ct us hl => match us, hl with | [_, _], _ => rfl
theorem b_of__law_orders : Binds f__law_orders := fun kV doc pm an cdv ct us hl => match us, hl with | [_], _ => rfl
theorem b_of_flow_order : Binds f_flow_order := fun kV doc pm an cdv ct us hl => match us, hl with | [_], _ => rfl
theorem b_of_need_equal : Binds f_need_equal := fun kV doc pm an cdv ct us hl => match us, hl with | [_], _ => rfl
theorem b_of_is_in : Binds f_is_in := fun kV doc pm an cdv ct us hl => match us, hl with | [_, _, _], _ => rfl
theorem b_of__law_end : Binds f__law_end := fun kV doc pm an cdv ct us hl => match us, hl with | [_, _], _ => rfl
theorem b_of_flow_end : Binds f_flow_end := fun kV doc pm an cdv ct us hl => match us, hl with | [_, _], _ => rfl
theorem b_of_need_job_order : Binds f_need_job_order := fun kV doc pm an cdv ct us hl => match us, hl with | [_, _], _ => rfl
theorem b_of_is_order : Binds f_is_order := fun kV doc pm an cdv ct us hl => match us, hl with | [_, _], _ => rfl
theorem binds : ∀ f ∈ fs, Binds f := by
  intro f hf
  simp only [fs, List.mem_cons, List.not_mem_nil, or_false] at hf
  rcases hf with rfl | rfl | rfl | rfl | rfl | rfl | rfl | rfl | rfl | rfl | rfl | rfl
  · exact b_of_law
  · exact b_of__law_taken
  · exact b_of__law_pick
  · exact b_of__law_alike
  · exact b_of__law_orders
  · exact b_of_flow_order
  · exact b_of_need_equal
  · exact b_of_is_in
  · exact b_of__law_end
  · exact b_of_flow_end
  · exact b_of_need_job_order
  · exact b_of_is_order
end Mini.Law
open PySem PySem.W PySem.Calls PyProof.Rows Mini Mini.Law
theorem PySem.Challenge.cw_eventcore_k58_whole_two_in_a_row_holds : PySem.Challenge.rw_eventcore_k58_whole_two_in_a_row.Holds := by
  w_on; o_law
  refine HandSHeadRun.head_any (r := row) (q := view row.prog [22]) (H := hk) (ob := ob) (M := 4000) (loose := loose) (d := HandSHeadRun.topDef row.prog 22) (kwd := []) Mini.Law.ob_eq
    (by kernel_rfl) (fun s => by kernel_rfl) Mini.Law.run (by kernel_rfl) (by kernel_rfl) (by kernel_rfl) (by rfl) (by first | assumption | decide +kernel) (by decide +kernel) ⟨rfl, rfl, rfl, rfl, rfl, by decide +kernel⟩ ?hw ?hc
  case hw => w_witness2
  case hc =>
    refine Att.attach_callB (l := PySem.Challenge.rw_eventcore_k58_whole_two_in_a_row) (n := 63) rfl (by kernel_rfl) fun w s₀ s₁ mg mb fa o pm cd doc a vs ns G Y ho hd hcd hmg0 hobj hints hlen hbits hg => ?_
    obtain ⟨K, KX, c⟩ := Y
    have hmg : mg ("law" : PySem.Str) = some (.ref fa) := by
      have e : (HandSHeadRun.topDef row.prog 22).name = ("law" : PySem.Str) := by kernel_rfl
      rw [← e]
      exact hmg0
    obtain ⟨ws', h1, h2⟩ := plain_law ns hlen
    exact law_end (p := px) (fs := fs) (j := 60) (fi := 0) (x := "law") KX G.T.g G.T.b G.T.builtins G.T.nolimit hg (fun q hq => by obtain ⟨p, hp, rfl⟩ := List.mem_map.mp hq; exact c.empty p hp) (fun q hq => by obtain ⟨p, hp, rfl⟩ := List.mem_map.mp hq; exact c.out p hp) (fun q hq => by obtain ⟨p, hp, rfl⟩ := List.mem_map.mp hq; exact c.hd p hp) G.T.bmain hobj hints (Nat.le_trans hlen (by decide)) ⟨rfl, by decide, by decide⟩ (fun base hb => names_of KX G.T.g c rfl rfl oks binds) rfl hmg h1 h2

