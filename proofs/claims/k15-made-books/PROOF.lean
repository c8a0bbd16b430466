import PyProof.Rows.All
import Wide.All
import OpenK.AllK
import Wide.FinOn
import HandS.ForMost
import HandS.ForExc
import HandS.Text
import HandS.Star
import HandS.Comp
import HandS.Defaults
import HandS.Iter
import KE.GoesNew
import HandS.TupAny
import HandS.TupMul
import HandS.TupLe
import HandS.Wide
import HandS.Deep
import HandS.IsInst
import HandS.Style
import HandS.Flt
import HandS.Conv
import HandS.Head0
import HandS.Head1
import HandS.Head2
import HandS.HeadEnd
import HandS.HeadHook1
import HandS.HeadHook2
import HandS.Dict
import HandS.SortRule
import HandS.SortInts
import HandS.SetFor
import HandS.TupSets
import HandS.GenList
import HandS.DictComp
import KE.KDictWalk
import KE.KDictSum
import HandS.More
import HandS.ExcCtx
import HandS.ExcOwn
import HandS.TryOnly
import HandS.Property
import HandS.ClsMeth
import HandS.SlotsOwn
import OpenK.KOps
import OpenK.KMeth
import PyProof.InstEq
import HandS.HotCalls
import PyProof.TupleIter
import HandS.ExcIs
import PySem.Challenge.RW_rectopages_k15_books_that_are_made
set_option Elab.async false
set_option linter.all false
set_option maxRecDepth 100000
set_option maxHeartbeats 4000000
/-! DL0: a pure reading of the small language in which the program and its laws are written: values are plain data, a def is a function of data. No heap here; DL1 shows that the machine does what this says. -/
namespace DL
open PySem

/-- an object that stands as it is: its class, its attributes -/
structure Ob where
  C : Addr
  fs : List (Str × PyData)

/-- a dict's key as data -/
def keyD : L2.Key → PyData
  | .inl i => .int i
  | .inr x => .str x
/-- what an expression gives: data; a new list of one's own; the list in slot i; an object -/
inductive Rs where
  | dat (d : PyData) | new (ds : List PyData) | own (i : Nat) | ob (o : Ob)
/-- what a slot holds: nothing that may be read; data; a list of one's own; an object -/
inductive Sl where
  | dead | dat (d : PyData) | own (b : Bool) (ds : List PyData) | ob (o : Ob)
abbrev Env := List Sl
abbrev FE := Env → Option (Rs × Env)
abbrev FT := Env → Option (Bool × Env)
abbrev FA := Env → Option (List PyData × Env)
abbrev FG := PyData → Env → Option Env
inductive Out where
  | nx (e : Env) | rt (r : Rs) (e : Env) | bk (e : Env) | ct (e : Env)
abbrev FS := Env → Option Out

def view (env : Env) : Rs → Option PyData
  | .dat d => some d
  | .new ds => some (.list ds)
  | .own i => match env[i]? with
    | some (.own _ ds) => some (.list ds)
    | some (.dat d) => some d
    | _ => none
  | .ob _ => none
/-- to data for good -/
def frz (env : Env) : Rs → Option (PyData × Env)
  | .dat d => some (d, env)
  | .new ds => some (.list ds, env)
  | .own i => match env[i]? with
    | some (.own false ds) => some (.list ds, env.set i (.dat (.list ds)))
    | some (.dat d) => some (d, env)
    | _ => none
  | .ob _ => none

/-! ### expressions -/
def fName (i : Nat) : FE := fun env => match env[i]? with
  | some (.dat d) => some (.dat d, env)
  | some (.own _ _) => some (.own i, env)
  | some (.ob o) => some (.ob o, env)
  | _ => none
def fC (d : PyData) : FE := fun env => some (.dat d, env)
def fBin (op : PyData → PyData → Option Rs) (fa fb : FE) : FE := fun env =>
  (fa env).bind fun p => (fb p.2).bind fun q => (view q.2 p.1).bind fun x => (view q.2 q.1).bind fun y => (op x y).map fun z => (z, q.2)
def fUn (op : PyData → Option Rs) (fa : FE) : FE := fun env =>
  (fa env).bind fun p => (view p.2 p.1).bind fun x => (op x).map fun z => (z, p.2)
/-- a op b op' c -/
def fChain (op op' : PyData → PyData → Option Rs) (fa fb fc : FE) : FE := fun env =>
  (fa env).bind fun p => (fb p.2).bind fun q => (view q.2 p.1).bind fun x => (view q.2 q.1).bind fun y => (op x y).bind fun z => match z with
    | .dat (.bool true) => (fc q.2).bind fun u => (view u.2 u.1).bind fun w => (view u.2 q.1).bind fun y' => (op' y' w).bind fun z' => match z' with
      | .dat (.bool b) => some (.dat (.bool b), u.2)
      | _ => none
    | .dat (.bool false) => some (.dat (.bool false), q.2)
    | _ => none
/-- as a bool -/
def fB (fa : FE) : FT := fun env => (fa env).bind fun p => match p.1 with
  | .dat (.bool b) => some (b, p.2)
  | _ => none
def fOfT (t : FT) : FE := fun env => (t env).map fun p => (.dat (.bool p.1), p.2)
def ftAnd (s t : FT) : FT := fun env => (s env).bind fun p => if p.1 = true then t p.2 else some (false, p.2)
def ftOr (s t : FT) : FT := fun env => (s env).bind fun p => if p.1 = true then some (true, p.2) else t p.2
def ftNot (t : FT) : FT := fun env => (t env).map fun p => (!p.1, p.2)
/-- a and b, a or b, as values; a a bool -/
def fAndE (t : FT) (fb : FE) : FE := fun env => (t env).bind fun p => if p.1 = true then fb p.2 else some (.dat (.bool false), p.2)
def fOrE (t : FT) (fb : FE) : FE := fun env => (t env).bind fun p => if p.1 = true then some (.dat (.bool true), p.2) else fb p.2
def fIf (t : FT) (fa fb : FE) : FE := fun env => (t env).bind fun p => if p.1 = true then fa p.2 else fb p.2

/-! ### argument lists (made data for good), displays, calls -/
def faNil : FA := fun env => some ([], env)
def faCons (fa : FE) (r : FA) : FA := fun env => (fa env).bind fun p => (frz p.2 p.1).bind fun q => (r q.2).map fun u => (q.1 :: u.1, u.2)
def items : PyData → Option (List PyData)
  | .list ds => some ds
  | .tuple ds => some ds
  | _ => none
def faStar (fa : FE) (r : FA) : FA := fun env => (fa env).bind fun p => (frz p.2 p.1).bind fun q => (items q.1).bind fun ds => (r q.2).map fun u => (ds ++ u.1, u.2)
def fTup (a : FA) : FE := fun env => (a env).bind fun p => if p.1.length ≤ sizeLine then some (.dat (.tuple p.1), p.2) else none
def fLst (a : FA) : FE := fun env => (a env).bind fun p => if p.1.length ≤ sizeLine then some (.new p.1, p.2) else none
abbrev Fn := List PyData → Option Rs
def fCall (F : Fn) (a : FA) : FE := fun env => (a env).bind fun p => (F p.1).map fun r => (r, p.2)
/-- a def that changes the list in slot i: its items, the other arguments; what it gives, the items behind it -/
abbrev FnT := List PyData → List PyData → Option (Rs × List PyData)
def fCallT (F : FnT) (i : Nat) (a : FA) : FE := fun env => (a env).bind fun p => match p.2[i]? with
  | some (.own b ts) => (F ts p.1).map fun r => (r.1, p.2.set i (.own b r.2))
  | _ => none
/-- a built-in of one argument -/
def fB1 (b : PyData → Option Rs) (fa : FE) : FE := fUn b fa
def fB2 (b : PyData → PyData → Option Rs) (fa fb : FE) : FE := fBin b fa fb

/-! ### what is walked -/
abbrev FI := Env → Option (List PyData × Env)
def fiSeq (fa : FE) : FI := fun env => (fa env).bind fun p => (frz p.2 p.1).bind fun q => (items q.1).map fun ds => (ds, q.2)
def smallI (i : Int) : Bool := decide (-(2 ^ 62) ≤ i) && decide (i < 2 ^ 62)
def rangeD (lo : Int) (n : Nat) : List PyData := (List.range n).map fun (i : Nat) => PyData.int (lo + (i : Int))
def fiRange1 (fa : FE) : FI := fun env => (fa env).bind fun p => match p.1 with
  | .dat (.int j) => if smallI j = true then some (rangeD 0 j.toNat, p.2) else none
  | _ => none
def fiRange2 (fa fb : FE) : FI := fun env => (fa env).bind fun p => (fb p.2).bind fun q => match p.1, q.1 with
  | .dat (.int i), .dat (.int j) => if (smallI i && smallI j) = true then some (rangeD i (j - i).toNat, q.2) else none
  | _, _ => none
def enumD : Nat → List PyData → List PyData
  | _, [] => []
  | i, d :: ds => .tuple [.int (i : Int), d] :: enumD (i + 1) ds
def fiEnum (fa : FE) : FI := fun env => (fa env).bind fun p => (frz p.2 p.1).bind fun q => (items q.1).map fun ds => (enumD 0 ds, q.2)
def zipD : List PyData → List PyData → List PyData
  | x :: xs, y :: ys => .tuple [x, y] :: zipD xs ys
  | _, _ => []
def fiZip (fa fb : FE) : FI := fun env => (fa env).bind fun p => (frz p.2 p.1).bind fun p' => (fb p'.2).bind fun q => (frz q.2 q.1).bind fun q' =>
  (items p'.1).bind fun xs => (items q'.1).map fun ys => (zipD xs ys, q'.2)
def zipD3 : List PyData → List PyData → List PyData → List PyData
  | x :: xs, y :: ys, z :: zs => .tuple [x, y, z] :: zipD3 xs ys zs
  | _, _, _ => []
def fiZip3 (fa fb fc : FE) : FI := fun env => (fa env).bind fun p => (frz p.2 p.1).bind fun p' => (fb p'.2).bind fun q => (frz q.2 q.1).bind fun q' => (fc q'.2).bind fun u => (frz u.2 u.1).bind fun u' =>
  (items p'.1).bind fun xs => (items q'.1).bind fun ys => (items u'.1).map fun zs => (zipD3 xs ys zs, u'.2)

/-! ### targets -/
def fgName (i : Nat) : FG := fun d env => if i < env.length then some (env.set i (.dat d)) else none
abbrev FGs := List PyData → Env → Option Env
def fgNil : FGs := fun ds env => match ds with
  | [] => some env
  | _ => none
def fgCons (g : FG) (r : FGs) : FGs := fun ds env => match ds with
  | d :: ds' => (g d env).bind fun e => r ds' e
  | [] => none
def fgTup (g : FGs) : FG := fun d env => match d with
  | .tuple ds => g ds env
  | _ => none

/-! ### comprehensions -/
def kill (env : Env) : List Nat → Env
  | [] => env
  | i :: r => kill (env.set i .dead) r
/-- the slots named get back what they held -/
def back (old : Env) (env : Env) : List Nat → Env
  | [] => env
  | i :: r => back old (match old[i]? with
      | some (.own _ _) => env.set i .dead
      | some s => env.set i s
      | none => env) r
def compD (vs : List Nat) (g : FG) (t : FT) (fe : FE) : List PyData → Env → List PyData → Option (List PyData × Env)
  | [], env, acc => some (acc, env)
  | d :: ds, env, acc => (g d env).bind fun e1 => (t e1).bind fun p =>
    if p.1 = true then (fe p.2).bind fun q => (frz q.2 q.1).bind fun u => if acc.length < sizeLine then compD vs g t fe ds (kill u.2 vs) (acc ++ [u.1]) else none
    else compD vs g t fe ds (kill p.2 vs) acc
def ftYes : FT := fun env => some (true, env)
def fComp (vs : List Nat) (it : FI) (g : FG) (t : FT) (fe : FE) : FE := fun env =>
  (it env).bind fun p => (compD vs g t fe p.1 (kill p.2 vs) []).map fun q => (.new q.1, back p.2 q.2 vs)

/-! ### statements -/
def Sl.of (env : Env) : Rs → Option (Sl × Env)
  | .dat d => some (.dat d, env)
  | .new ds => some (.own false ds, env)
  | .ob o => some (.ob o, env)
  | .own i => (frz env (.own i)).map fun p => (.dat p.1, p.2)
def fsName (fa : FE) (i : Nat) : FS := fun env => (fa env).bind fun p => (Sl.of p.2 p.1).bind fun q => if i < q.2.length then some (.nx (q.2.set i q.1)) else none
def fsAsg (fa : FE) (g : FG) : FS := fun env => (fa env).bind fun p => (frz p.2 p.1).bind fun q => (g q.1 q.2).map .nx
/-- a, b = e1, e2 -/
def Sl.plain : Rs → Option Sl
  | .dat d => some (.dat d)
  | .new ds => some (.own false ds)
  | .ob o => some (.ob o)
  | .own _ => none
def fsPar (fa fb : FE) (i j : Nat) : FS := fun env => (fa env).bind fun p => (fb p.2).bind fun q => (Sl.plain p.1).bind fun s => (Sl.plain q.1).bind fun u =>
  if i < q.2.length ∧ j < q.2.length then some (.nx ((q.2.set i s).set j u)) else none
def fsDrop (fa : FE) : FS := fun env => (fa env).map fun p => .nx p.2
def fsRet (fa : FE) : FS := fun env => (fa env).map fun p => .rt p.1 p.2
def fsRetN : FS := fun env => some (.rt (.dat .none) env)
def fsNext : FS := fun env => some (.nx env)
def fsBreak : FS := fun env => some (.bk env)
def fsCont : FS := fun env => some (.ct env)
def fsIf (t : FT) (a b : FS) : FS := fun env => (t env).bind fun p => if p.1 = true then a p.2 else b p.2
def andThen (o : Out) (k : Env → Option Out) : Option Out := match o with
  | .nx e => k e
  | o => some o
def fsSeq (a b : FS) : FS := fun env => (a env).bind fun o => andThen o b
def fsAug (op : PyData → PyData → Option Rs) (i : Nat) (fa : FE) : FS := fun env => match env[i]? with
  | some (.dat x) => (fa env).bind fun p => (view p.2 p.1).bind fun y => (op x y).bind fun z => match z with
    | .dat d => if i < p.2.length then some (.nx (p.2.set i (.dat d))) else none
    | _ => none
  | _ => none
/-- a method of the list in slot i: op on its items and the argument -/
def fsMut (op : List PyData → PyData → Option (List PyData)) (i : Nat) (fa : FE) : FS := fun env => match env[i]? with
  | some (.own _ _) => (fa env).bind fun p => (frz p.2 p.1).bind fun q => match q.2[i]? with
    | some (.own b ds) => (op ds q.1).map fun es => .nx (q.2.set i (.own b es))
    | _ => none
  | _ => none
/-- xs.append(e) -/
def mAppend (ds : List PyData) (d : PyData) : Option (List PyData) := if ds.length < sizeLine then some (ds ++ [d]) else none
def mExtend (ds : List PyData) : PyData → Option (List PyData)
  | .list es => if ds.length + es.length ≤ sizeLine then some (ds ++ es) else none
  | _ => none
/-- xs[k] = e, xs the list in slot i -/
def fsPut (i : Nat) (fk : FE) (fa : FE) : FS := fun env => (fa env).bind fun p => (frz p.2 p.1).bind fun q => match q.2[i]? with
  | some (.own _ _) => (fk q.2).bind fun u => match u.1, u.2[i]? with
    | .dat (.int k), some (.own b ds) => (L2.ixN ds.length k).map fun j => .nx (u.2.set i (.own b (ds.set j q.1)))
    | _, _ => none
  | _ => none
/-- xs.pop(k) -/
def fPop (i : Nat) (fk : FE) : FE := fun env => match env[i]? with
  | some (.own _ _) => (fk env).bind fun p => match p.1, p.2[i]? with
    | .dat (.int k), some (.own b ds) => if 0 ≤ k ∧ k < ds.length ∧ ds.length ≤ sizeLine then (ds[k.toNat]?).map fun d => (.dat d, p.2.set i (.own b (ds.eraseIdx k.toNat))) else none
    | _, _ => none
  | _ => none
def forD (b : PyData → Env → Option Out) : List PyData → Env → Option Out
  | [], env => some (.nx env)
  | d :: ds, env => (b d env).bind fun o => match o with
    | .nx e => forD b ds e
    | .ct e => forD b ds e
    | .bk e => some (.nx e)
    | .rt r e => some (.rt r e)
/-- for target in iter: body; vs: the slots whose values no turn hands on -/
def Out.kill (vs : List Nat) : Out → Out
  | .nx e => .nx (DL.kill e vs)
  | .ct e => .ct (DL.kill e vs)
  | .bk e => .bk (DL.kill e vs)
  | .rt r e => .rt r e
def stepD (vs : List Nat) (g : FG) (b : FS) (d : PyData) (e : Env) : Option Out := (g d e).bind fun e1 => (b e1).map (Out.kill vs)
def fsFor (vs : List Nat) (it : FI) (g : FG) (b : FS) : FS := fun env => (it env).bind fun p => forD (stepD vs g b) p.1 (kill p.2 vs)
def whileD (t : FT) (b : FS) : Nat → Env → Option Out
  | 0, _ => none
  | n + 1, env => (t env).bind fun p => if p.1 = true then (b p.2).bind fun o => match o with
      | .nx e => whileD t b n e
      | .ct e => whileD t b n e
      | .bk e => some (.nx e)
      | .rt r e => some (.rt r e)
    else some (.nx p.2)
def fsWhile (n : Nat) (t : FT) (b : FS) : FS := whileD t b n

/-! ### a def -/
/-- what leaves the def -/
def resOf (env : Env) : Rs → Option Rs
  | .dat d => some (.dat d)
  | .new ds => some (.new ds)
  | .ob o => some (.ob o)
  | .own i => match env[i]? with
    | some (.own false ds) => some (.new ds)
    | some (.dat d) => some (.dat d)
    | _ => none
def endOf : Out → Option (Rs × Env)
  | .nx e => some (.dat .none, e)
  | .rt r e => (resOf e r).map fun r' => (r', e)
  | _ => none
/-- n slots, np parameters -/
def runF (np n : Nat) (b : FS) : Fn := fun ds => if ds.length = np then (b (ds.map .dat ++ List.replicate (n - np) .dead)).bind fun o => (endOf o).map (·.1) else none
/-- the first parameter is a list that the def changes -/
def runT (np n : Nat) (b : FS) : FnT := fun ts ds => if ds.length + 1 = np then (b (.own true ts :: ds.map .dat ++ List.replicate (n - np) .dead)).bind fun o =>
    (endOf o).bind fun (p : Rs × Env) => match p.2[(0 : Nat)]? with
      | some (.own true us) => some (p.1, us)
      | _ => none
  else none

/-! ### operators by data -/
def okL (n : Nat) : Bool := decide (n ≤ sizeLine)
def opAdd : PyData → PyData → Option Rs
  | .int i, .int j => some (.dat (.int (i + j)))
  | .str x, .str y => if x.length + y.length ≤ sizeLine then some (.dat (.str (x ++ y))) else none
  | .tuple xs, .tuple ys => if xs.length + ys.length ≤ sizeLine then some (.dat (.tuple (xs ++ ys))) else none
  | .list xs, .list ys => if xs.length + ys.length ≤ sizeLine then some (.new (xs ++ ys)) else none
  | _, _ => none
def opAddI : PyData → PyData → Option Rs
  | .int i, .int j => some (.dat (.int (i + j)))
  | _, _ => none
def opSub : PyData → PyData → Option Rs
  | .int i, .int j => some (.dat (.int (i - j)))
  | _, _ => none
def lowI (i : Int) : Bool := decide (-(2 ^ 64) < i) && decide (i < 2 ^ 64)
def opMul : PyData → PyData → Option Rs
  | .int i, .int j => if (lowI i || lowI j) = true then some (.dat (.int (i * j))) else none
  | .tuple xs, .int k => if xs ≠ [] ∧ 2 ≤ k ∧ k ≤ 1000 ∧ xs.length ≤ 1000 then some (.dat (.tuple (List.replicate k.toNat xs).flatten)) else none
  | .list xs, .int k => if smallI k = true ∧ xs.length * k.toNat ≤ sizeLine then some (.new (List.replicate k.toNat xs).flatten) else none
  | _, _ => none
def opMod : PyData → PyData → Option Rs
  | .int i, .int j => if 0 < j then some (.dat (.int (i % j))) else none
  | _, _ => none
def opFdiv : PyData → PyData → Option Rs
  | .int i, .int j => if 0 < j ∧ j.natAbs.log2 < 9000 then some (.dat (.int (i / j))) else none
  | _, _ => none
def opPow : PyData → PyData → Option Rs
  | .int i, .int j => if 0 ≤ j ∧ j ≤ 1000000 ∧ i.natAbs < 2 ^ 64 then some (.dat (.int (i ^ j.toNat))) else none
  | _, _ => none
def rb (b : Bool) : Rs := .dat (.bool b)
def ri (i : Int) : Rs := .dat (.int i)
def opLt : PyData → PyData → Option Rs
  | .int i, .int j => some (rb (decide (i < j)))
  | _, _ => none
def opLe : PyData → PyData → Option Rs
  | .int i, .int j => some (rb (decide (i ≤ j)))
  | _, _ => none
def opGt : PyData → PyData → Option Rs
  | .int i, .int j => some (rb (decide (j < i)))
  | _, _ => none
def opGe : PyData → PyData → Option Rs
  | .int i, .int j => some (rb (decide (j ≤ i)))
  | _, _ => none
def opEq (x y : PyData) : Option Rs := if (SeqAt.shaped x && SeqAt.shaped y) = true then some (rb (PyData.eqv x y)) else none
def opNe (x y : PyData) : Option Rs := if (SeqAt.shaped x && SeqAt.shaped y) = true then some (rb (!PyData.eqv x y)) else none
def flatD : PyData → Bool
  | .none => true
  | .bool _ => true
  | .int _ => true
  | .str _ => true
  | _ => false
def inD (x : PyData) (ys : List PyData) : Bool := ys.any fun y => PyData.eqv y x
def opIn (x : PyData) (y : PyData) : Option Rs := match y with
  | .list ys => if (flatD x && ys.all flatD) = true then some (rb (inD x ys)) else if (SeqAt.shaped x && SeqAt.shaped (.list ys)) = true then some (rb (inD x ys)) else none
  | .tuple ys => if (flatD x && ys.all flatD) = true then some (rb (inD x ys)) else none
  | _ => none
def opNotIn (x : PyData) (y : PyData) : Option Rs := match y with
  | .list ys => if (flatD x && ys.all flatD) = true then some (rb (!inD x ys)) else if (SeqAt.shaped x && SeqAt.shaped (.list ys)) = true then some (rb (!inD x ys)) else none
  | .tuple ys => if (flatD x && ys.all flatD) = true then some (rb (!inD x ys)) else none
  | _ => none
def isNone : PyData → Bool
  | .none => true
  | _ => false
def opIsN (x y : PyData) : Option Rs := match y with
  | .none => some (rb (isNone x))
  | _ => none
def opIsNotN (x y : PyData) : Option Rs := match y with
  | .none => some (rb (!isNone x))
  | _ => none
def opIsB : PyData → PyData → Option Rs
  | .bool a, .bool b => some (rb (decide (a = b)))
  | _, _ => none
def opIsNotB : PyData → PyData → Option Rs
  | .bool a, .bool b => some (rb (!decide (a = b)))
  | _, _ => none
def opNeg : PyData → Option Rs
  | .int i => some (ri (-i))
  | _ => none
/-- a subscript -/
def opIx : PyData → PyData → Option Rs
  | .list xs, .int i => (L2.atI xs i).map .dat
  | .tuple xs, .int i => (L2.atI xs i).map .dat
  | _, _ => none
def cutD (xs : List PyData) (lo hi : Option Int) : List PyData := (xs.drop (HT.sIx xs.length 0 lo)).take (HT.sIx xs.length xs.length hi - HT.sIx xs.length 0 lo)
abbrev FO := Env → Option (Option Int × Env)
def foNone : FO := fun env => some (none, env)
def foSome (fa : FE) : FO := fun env => (fa env).bind fun p => match p.1 with
  | .dat (.int i) => some (some i, p.2)
  | _ => none
def opCut (lo hi : Option Int) : PyData → Option Rs
  | .list xs => some (.new (cutD xs lo hi))
  | .tuple xs => some (.dat (.tuple (cutD xs lo hi)))
  | .str x => if x.length ≤ sizeLine then some (.dat (.str (L2.cutS x lo hi))) else none
  | _ => none
def fCut (fa : FE) (lo hi : FO) : FE := fun env => (fa env).bind fun p => (lo p.2).bind fun a => (hi a.2).bind fun b => (view b.2 p.1).bind fun x => (opCut a.1 b.1 x).map fun z => (z, b.2)
def opRev : PyData → Option Rs
  | .list xs => some (.new xs.reverse)
  | _ => none

/-! ### built-ins -/
def bLen : PyData → Option Rs
  | .list xs => some (ri xs.length)
  | .tuple xs => some (ri xs.length)
  | .str x => if x.length ≤ sizeLine then some (ri x.length) else none
  | _ => none
def bInt : PyData → Option Rs
  | .int i => some (ri i)
  | .bool b => some (ri (if b = true then 1 else 0))
  | _ => none
def bBool : PyData → Option Rs
  | .bool b => some (rb b)
  | .int i => some (rb (i != 0))
  | _ => none
def bTuple : PyData → Option Rs
  | .list xs => some (.dat (.tuple xs))
  | .tuple xs => some (.dat (.tuple xs))
  | _ => none
def bList : PyData → Option Rs
  | .list xs => some (.new xs)
  | .tuple xs => some (.new xs)
  | _ => none
def intsOf : List PyData → Option (List Int)
  | [] => some []
  | .int i :: r => (intsOf r).map fun is => i :: is
  | _ :: _ => none
def boolsOf : List PyData → Option (List Bool)
  | [] => some []
  | .bool i :: r => (boolsOf r).map fun is => i :: is
  | _ :: _ => none
def bSum : PyData → Option Rs
  | .list xs => (intsOf xs).map fun is => ri is.sum
  | _ => none
def bAll : PyData → Option Rs
  | .list xs => (boolsOf xs).map fun bs => rb (bs.all id)
  | _ => none
def minL : Int → List Int → Int
  | m, [] => m
  | m, x :: r => minL (if x < m then x else m) r
def maxL : Int → List Int → Int
  | m, [] => m
  | m, x :: r => maxL (if x > m then x else m) r
def bMin : PyData → Option Rs
  | .list xs => (intsOf xs).bind fun is => match is with
    | x :: r => some (ri (minL x r))
    | [] => none
  | _ => none
def bMax2 : PyData → PyData → Option Rs
  | .int i, .int j => some (ri (if j > i then j else i))
  | _, _ => none
def bMin2 : PyData → PyData → Option Rs
  | .int i, .int j => some (ri (if j < i then j else i))
  | _, _ => none
def bAbs : PyData → Option Rs
  | .int i => some (ri (if i < 0 then -i else i))
  | _ => none
/-- isinstance(x, T), T by its name -/
def tyName : PyData → Option String
  | .none => some "NoneType"
  | .bool _ => some "bool"
  | .int _ => some "int"
  | .str _ => some "str"
  | .list _ => some "list"
  | .tuple _ => some "tuple"
  | .dict _ => none
def isTy (T : String) (t : String) : Bool := t == T || (t == "bool" && T == "int")
def bIsi (Ts : List String) (x : PyData) : Option Rs := (tyName x).map fun t => rb (Ts.any fun T => isTy T t)
/-! ### more -/
def opMulI : PyData → PyData → Option Rs
  | .int i, .int j => if (lowI i || lowI j) = true then some (.dat (.int (i * j))) else none
  | _, _ => none
def fTri (op : PyData → PyData → PyData → Option Rs) (fa fb fc : FE) : FE := fun env =>
  (fa env).bind fun p => (fb p.2).bind fun q => (fc q.2).bind fun u => (view u.2 p.1).bind fun x => (view u.2 q.1).bind fun y => (view u.2 u.1).bind fun z => (op x y z).map fun r => (r, u.2)
def bMax3 : PyData → PyData → PyData → Option Rs
  | .int i, .int j, .int k => some (ri (if k > (if j > i then j else i) then k else (if j > i then j else i)))
  | _, _, _ => none
def fListR (it : FI) : FE := fun env => (it env).map fun p => (.new p.1, p.2)
/-- x in T, T a tuple of the module -/
def opInK (neg : Bool) (ys : List PyData) (x : PyData) : Option Rs := if flatD x = true then some (rb (xor neg (inD x ys))) else none
end DL

/-! DL1: the machine does what DL0 says: representation, and the rules for expressions. -/
namespace DL
open PySem PySem.Spec PyProof.Rows L2

/-! ### data in a heap that stands -/
mutual
inductive HD (F : Hp) : V → PyData → Prop
  | non : HD F .non .none
  | bl (b : Bool) : HD F (.bl b) (.bool b)
  | int (i : Int) : HD F (.int i) (.int i)
  | str (x : Str) : HD F (.str x) (.str x)
  | lst {a : Addr} {xs : List V} {ds : List PyData} : F a = some (.lst xs) → HDs F xs ds → HD F (.ref a) (.list ds)
  | tup {a : Addr} {xs : List V} {ds : List PyData} : F a = some (.tup xs) → HDs F xs ds → HD F (.ref a) (.tuple ds)
  /-- a dict with tuple keys, which stands -/
  | dct {a : Addr} {kvs : List (List L2.Key × V)} {ds : List PyData} {m : List (PyData × PyData)} : F a = some (.dT kvs) → HDs F (kvs.map (·.2)) ds → m = (kvs.map fun e => PyData.tuple (e.1.map keyD)).zip ds → HD F (.ref a) (.dict m)
  /-- an instance of the class at C, which stands -/
  | obj {a C dx : Addr} {fs : List (Str × V)} {ds : List PyData} {m : List (PyData × PyData)} : F a = some (.ins C dx fs) → HDs F (fs.map (·.2)) ds → m = (.int (C : Nat), .none) :: (fs.map fun e => PyData.str e.1).zip ds → HD F (.ref a) (.dict m)
  /-- a thing that is known by its place alone -/
  | plc (a : Addr) : HD F (.ref a) (.dict [(.none, .int (a : Nat))])
inductive HDs (F : Hp) : List V → List PyData → Prop
  | nil : HDs F [] []
  | cons {v : V} {vs : List V} {d : PyData} {ds : List PyData} : HD F v d → HDs F vs ds → HDs F (v :: vs) (d :: ds)
end
section
variable {F F' H H' : Hp} {K : PySem.W.Frag}
mutual
theorem HD.mono (e : Same F F') : ∀ {d : PyData} {v : V}, HD F v d → HD F' v d
  | .none, _, .non => .non
  | .bool b, _, .bl _ => .bl b
  | .int i, _, .int _ => .int i
  | .str x, _, .str _ => .str x
  | .list _, _, .lst h hs => .lst (e _ _ h) (HDs.mono e hs)
  | .tuple _, _, .tup h hs => .tup (e _ _ h) (HDs.mono e hs)
  | .dict _, _, .dct h hs q => .dct (e _ _ h) (HDs.mono e hs) q
  | .dict _, _, .obj h hs q => .obj (e _ _ h) (HDs.mono e hs) q
  | .dict _, _, .plc a => .plc a
theorem HDs.mono (e : Same F F') : ∀ {ds : List PyData} {vs : List V}, HDs F vs ds → HDs F' vs ds
  | [], _, .nil => .nil
  | _ :: _, _, .cons h hs => .cons (HD.mono e h) (HDs.mono e hs)
end
mutual
theorem HD.dp : ∀ {d : PyData} {v : V}, d.canLay0 = true → HD F v d → Dp K F v d
  | .none, _, _, .non => .non
  | .bool b, _, _, .bl _ => .bl b
  | .int i, _, _, .int _ => .int i
  | .str x, _, _, .str _ => .str x
  | .list _, _, c, .lst h hs => .lst (.of h) (HDs.dp (by simpa only [PyData.canLay0] using c) hs)
  | .tuple _, _, c, .tup h hs => .tup (.of h) (HDs.dp (by simpa only [PyData.canLay0] using c) hs)
  | .dict _, _, c, _ => by simp [PyData.canLay0] at c
theorem HDs.dp : ∀ {ds : List PyData} {vs : List V}, PyData.canLayAll0 ds = true → HDs F vs ds → DpAll K F vs ds
  | [], _, _, .nil => .nil
  | d :: ds, _, c, .cons h hs => by
    have c' : d.canLay0 = true ∧ PyData.canLayAll0 ds = true := by simpa [PyData.canLayAll0] using c
    exact .cons (HD.dp c'.1 h) (HDs.dp c'.2 hs)
end
theorem HDs.length : ∀ {ds : List PyData} {vs : List V}, HDs F vs ds → vs.length = ds.length
  | [], _, .nil => rfl
  | _ :: _, _, .cons _ hs => congrArg (· + 1) (HDs.length hs)
theorem HDs.append : ∀ {ds es : List PyData} {vs ws : List V}, HDs F vs ds → HDs F ws es → HDs F (vs ++ ws) (ds ++ es)
  | [], _, _, _, .nil, h => h
  | _ :: _, _, _, _, .cons h hs, h2 => .cons h (HDs.append hs h2)
theorem HDs.get : ∀ {ds : List PyData} {vs : List V} {i : Nat} {d : PyData}, HDs F vs ds → ds[i]? = some d → ∃ v, vs[i]? = some v ∧ HD F v d
  | [], _, i, _, .nil, e => by simp at e
  | _ :: _, _, 0, _, .cons h _, e => by simp at e; subst e; exact ⟨_, rfl, h⟩
  | _ :: _, _, i + 1, d, .cons _ hs, e => by
    obtain ⟨v, h1, h2⟩ := HDs.get (i := i) (d := d) hs (by simpa using e)
    exact ⟨v, by simpa using h1, h2⟩
theorem HDs.getV : ∀ {ds : List PyData} {vs : List V} {i : Nat} {v : V}, HDs F vs ds → vs[i]? = some v → ∃ d, ds[i]? = some d ∧ HD F v d
  | [], _, i, _, .nil, e => by simp at e
  | _ :: _, _, 0, _, .cons h _, e => by simp at e; subst e; exact ⟨_, rfl, h⟩
  | _ :: _, _, i + 1, d, .cons _ hs, e => by
    obtain ⟨v, h1, h2⟩ := HDs.getV (i := i) (v := d) hs (by simpa using e)
    exact ⟨v, by simpa using h1, h2⟩
theorem HDs.set : ∀ {ds : List PyData} {vs : List V} {v : V} {d : PyData} (i : Nat), HDs F vs ds → HD F v d → HDs F (vs.set i v) (ds.set i d)
  | [], _, _, _, _, .nil, _ => .nil
  | _ :: _, _, _, _, 0, .cons _ hs, h => .cons h hs
  | _ :: _, _, _, _, i + 1, .cons g hs, h => .cons g (HDs.set i hs h)
theorem HDs.take : ∀ {ds : List PyData} {vs : List V} (n : Nat), HDs F vs ds → HDs F (vs.take n) (ds.take n)
  | _, _, 0, _ => .nil
  | [], _, _ + 1, .nil => .nil
  | _ :: _, _, n + 1, .cons h hs => .cons h (HDs.take n hs)
theorem HDs.drop : ∀ {ds : List PyData} {vs : List V} (n : Nat), HDs F vs ds → HDs F (vs.drop n) (ds.drop n)
  | _, _, 0, h => h
  | [], _, _ + 1, .nil => .nil
  | _ :: _, _, n + 1, .cons h hs => HDs.drop n hs
theorem HDs.reverse : ∀ {ds : List PyData} {vs : List V}, HDs F vs ds → HDs F vs.reverse ds.reverse
  | [], _, .nil => .nil
  | d :: ds, _, .cons h hs => by
    rw [List.reverse_cons, List.reverse_cons]
    exact HDs.append (HDs.reverse hs) (.cons h .nil)
theorem HDs.rep {ds : List PyData} {vs : List V} (h : HDs F vs ds) : ∀ n : Nat, HDs F (List.replicate n vs).flatten (List.replicate n ds).flatten
  | 0 => .nil
  | n + 1 => by
    rw [List.replicate_succ, List.replicate_succ, List.flatten_cons, List.flatten_cons]
    exact HDs.append h (HDs.rep h n)
theorem same_new {p : Addr} {o : HO} (h : H p = none) : Same H (upd H p o) := fun b x e => by
  rw [upd_ne (ne_of_none e h)]
  exact e

/-- seen as data: data that stands, or a list whose items stand -/
inductive HV (F H : Hp) (v : V) : PyData → Prop
  | dat {d : PyData} (h : HD F v d) : HV F H v d
  | lst {p : Addr} {vs : List V} {ds : List PyData} (e : v = .ref p) (hp : H p = some (.lst vs)) (hs : HDs F vs ds) : HV F H v (.list ds)
theorem HV.hd {v : V} {d : PyData} (s : Same F H) : HV F H v d → HD H v d
  | .dat h => h.mono s
  | .lst e hp hs => by
    subst e
    exact .lst hp (hs.mono s)
theorem HV.list {v : V} {ds : List PyData} (s : Same F H) (h : HV F H v (.list ds)) : ∃ p vs, v = .ref p ∧ H p = some (.lst vs) ∧ HDs F vs ds := by
  cases h with
  | dat h =>
    cases h with
    | lst hp hs => exact ⟨_, _, rfl, s _ _ hp, hs⟩
  | lst e hp hs => exact ⟨_, _, e, hp, hs⟩
theorem HV.tuple {v : V} {ds : List PyData} (h : HV F H v (.tuple ds)) : ∃ p vs, v = .ref p ∧ F p = some (.tup vs) ∧ HDs F vs ds := by
  cases h with
  | dat h =>
    cases h with
    | tup hp hs => exact ⟨_, _, rfl, hp, hs⟩
theorem HV.int {v : V} {i : Int} (h : HV F H v (.int i)) : v = .int i := by
  cases h with
  | dat h => cases h; rfl
theorem HV.bool {v : V} {i : Bool} (h : HV F H v (.bool i)) : v = .bl i := by
  cases h with
  | dat h => cases h; rfl
theorem HV.str {v : V} {i : Str} (h : HV F H v (.str i)) : v = .str i := by
  cases h with
  | dat h => cases h; rfl
theorem HV.none {v : V} (h : HV F H v .none) : v = .non := by
  cases h with
  | dat h => cases h; rfl
end

/-- nothing stands there yet, or a tuple -/
def NewOk (H : Hp) (b : Addr) : Prop := ∀ o, H b = some o → ∃ xs, o = .tup xs
theorem NewOk.of {H : Hp} {b : Addr} (h : H b = none) : NewOk H b := fun o e => by
  rw [h] at e
  cases e
theorem NewOk.no {H : Hp} {b : Addr} {o : HO} (z : NewOk H b) (h : H b = some o) (n : ∀ xs, o ≠ .tup xs) : False := by
  obtain ⟨xs, e⟩ := z o h
  exact n xs e
/-! ### how the heap grows where nothing of one's own changes -/
structure Ext (F H F' H' : Hp) : Prop where
  fz : Same F F'
  sub : Same F' H'
  hs : Same H H'
  fresh : ∀ b, F' b ≠ none → F b ≠ none ∨ NewOk H b
def ObOk (F : Hp) (v : V) (o : Ob) : Prop := ∃ a dx vs, v = .ref a ∧ F a = some (.ins o.C dx ((o.fs.map (·.1)).zip vs)) ∧ HDs F vs (o.fs.map (·.2))
/-- a result behind a call: F' H' the heaps behind it, H the heap ahead -/
inductive ResOk (F' H' H : Hp) (v : V) : Rs → Prop
  | dat {d : PyData} (h : HD F' v d) : ResOk F' H' H v (.dat d)
  | new {ds : List PyData} {p : Addr} {vs : List V} (e : v = .ref p) (h0 : H p = none) (h1 : F' p = none) (h2 : H' p = some (.lst vs)) (hs : HDs F' vs ds) : ResOk F' H' H v (.new ds)
  | ob {o : Ob} (h : ObOk F' v o) : ResOk F' H' H v (.ob o)
def RetW (F H : Hp) (r : Rs) (Q : VK) : Prop := ∀ v F' H', Ext F H F' H' → ResOk F' H' H v r → Q v H'
section
variable {F H : Hp} {Q : VK}
theorem Ext.refl (s : Same F H) : Ext F H F H := ⟨.refl _, s, .refl _, fun _ h => .inl h⟩
theorem RetW.dat {d : PyData} {v : V} (s : Same F H) (h : RetW F H (.dat d) Q) (hd : HD F v d) : Q v H := h v F H (.refl s) (.dat hd)
theorem RetW.int {i : Int} (s : Same F H) (h : RetW F H (.dat (.int i)) Q) : Q (.int i) H := h.dat s (.int i)
theorem RetW.bool {i : Bool} (s : Same F H) (h : RetW F H (.dat (.bool i)) Q) : Q (.bl i) H := h.dat s (.bl i)
theorem RetW.str {i : Str} (s : Same F H) (h : RetW F H (.dat (.str i)) Q) : Q (.str i) H := h.dat s (.str i)
theorem RetW.tup {ds : List PyData} {vs : List V} {p : Addr} (s : Same F H) (h : RetW F H (.dat (.tuple ds)) Q) (hs : HDs F vs ds) (hp : H p = none) : Q (.ref p) (upd H p (.tup vs)) := by
  have hF : F p = none := s.free hp
  refine h _ (upd F p (.tup vs)) _ ⟨same_new hF, fun b o e => ?_, same_new hp, fun b hb => ?_⟩ (.dat (.tup upd_same (hs.mono (same_new hF))))
  · by_cases hbp : b = p
    · subst hbp; rw [upd_same] at e ⊢; exact e
    · rw [upd_ne hbp] at e ⊢; exact s _ _ e
  · by_cases hbp : b = p
    · subst hbp; exact .inr (.of hp)
    · rw [upd_ne hbp] at hb; exact .inl hb
theorem RetW.lst {ds : List PyData} {vs : List V} {p : Addr} (s : Same F H) (h : RetW F H (.new ds) Q) (hs : HDs F vs ds) (hp : H p = none) : Q (.ref p) (upd H p (.lst vs)) :=
  h _ F _ ⟨.refl _, s.trans (same_new hp), same_new hp, fun b hb => .inl hb⟩ (.new rfl hp (s.free hp) upd_same hs)
end

/-! ### a frame's slots -/
def OwnA (σ : L2.St) (env : Env) (a : Addr) : Prop := ∃ (i : Nat) (b : Bool) (ds : List PyData), env[i]? = some (.own b ds) ∧ σ[i]? = some (some (.ref a))
/-- what is lent to the def -/
def BorA (σ : L2.St) (env : Env) (a : Addr) : Prop := ∃ (i : Nat) (ds : List PyData), env[i]? = some (.own true ds) ∧ σ[i]? = some (some (.ref a))
/-- the lists of one's own, those that are lent -/
structure Ow where
  own : Addr → Prop
  bor : Addr → Prop
abbrev OwA (σ : L2.St) (env : Env) : Ow := ⟨OwnA σ env, BorA σ env⟩
structure Rep (F H : Hp) (σ : L2.St) (env : Env) : Prop where
  sub : Same F H
  len : env.length = σ.length
  dat : ∀ (i : Nat) d, env[i]? = some (.dat d) → ∃ v, σ[i]? = some (some v) ∧ HD F v d
  ob : ∀ (i : Nat) o, env[i]? = some (.ob o) → ∃ v, σ[i]? = some (some v) ∧ ObOk F v o
  own : ∀ (i : Nat) b ds, env[i]? = some (.own b ds) → ∃ a vs, σ[i]? = some (some (.ref a)) ∧ F a = none ∧ H a = some (.lst vs) ∧ HDs F vs ds
  ne : ∀ (i j : Nat) b b' ds es a, env[i]? = some (.own b ds) → env[j]? = some (.own b' es) → σ[i]? = some (some (.ref a)) → σ[j]? = some (some (.ref a)) → i = j
/-- from one state of a frame to a later one -/
structure Go (F H : Hp) (O : Ow) (F' H' : Hp) (O' : Ow) : Prop where
  fz : Same F F'
  frame : ∀ b o, ¬ O.own b → H b = some o → H' b = some o
  dom : ∀ b, H' b = none → H b = none
  fresh : ∀ b, F' b ≠ none → F b ≠ none ∨ NewOk H b ∨ O.own b
  own : ∀ b, O'.own b → O.own b ∨ H b = none
  bor : ∀ b, O'.bor b → O.bor b
section
variable {F F1 F2 H H1 H2 : Hp} {O O1 O2 : Ow}
theorem Go.refl : Go F H O F H O := ⟨.refl _, fun _ _ _ h => h, fun _ h => h, fun _ h => .inl h, fun _ h => .inl h, fun _ h => h⟩
theorem Go.trans (a : Go F H O F1 H1 O1) (b : Go F1 H1 O1 F2 H2 O2) : Go F H O F2 H2 O2 where
  fz := a.fz.trans b.fz
  frame := fun c o n h => b.frame c o (fun z => by
    rcases a.own c z with q | q
    · exact n q
    · rw [h] at q; cases q) (a.frame c o n h)
  dom := fun c h => a.dom c (b.dom c h)
  fresh := fun c h => by
    rcases b.fresh c h with q | q | q
    · exact a.fresh c q
    · by_cases ho : O.own c
      · exact .inr (.inr ho)
      · exact .inr (.inl fun o e => q o (a.frame c o ho e))
    · rcases a.own c q with z | z
      · exact .inr (.inr z)
      · exact .inr (.inl (.of z))
  own := fun c h => by
    rcases b.own c h with q | q
    · exact a.own c q
    · exact .inr (a.dom c q)
  bor := fun c h => a.bor c (b.bor c h)
theorem Go.of_ext (e : Ext F H F1 H1) : Go F H O F1 H1 O :=
  ⟨e.fz, fun b o _ h => e.hs b o h, fun b h => e.hs.free h, fun b h => (e.fresh b h).elim .inl fun z => .inr (.inl z), fun _ h => .inl h, fun _ h => h⟩
end
theorem ObOk.mono {F F' : Hp} (e : Same F F') {v : V} {o : Ob} (h : ObOk F v o) : ObOk F' v o := by
  obtain ⟨a, dx, vs, e1, e2, e3⟩ := h
  exact ⟨a, dx, vs, e1, e _ _ e2, e3.mono e⟩
section
variable {F F' H H' : Hp} {σ : L2.St} {env env' : Env} {v : V} {r : Rs}
theorem Rep.ext (h : Rep F H σ env) (e : Ext F H F' H') : Rep F' H' σ env where
  sub := e.sub
  len := h.len
  dat := fun i d hi => let ⟨v, h1, h2⟩ := h.dat i d hi; ⟨v, h1, h2.mono e.fz⟩
  ob := fun i d hi => let ⟨v, h1, h2⟩ := h.ob i d hi; ⟨v, h1, h2.mono e.fz⟩
  own := fun i b ds hi => by
    obtain ⟨a, vs, h1, h2, h3, h4⟩ := h.own i b ds hi
    refine ⟨a, vs, h1, ?_, e.hs _ _ h3, h4.mono e.fz⟩
    cases q : F' a with
    | none => rfl
    | some o =>
      rcases e.fresh a (by rw [q]; simp) with z | z
      · exact absurd h2 z
      · exact (z.no h3 fun _ e => nomatch e).elim
  ne := h.ne
/-- a result that waits; H0: the heap ahead of its expression -/
inductive RsOk (F H H0 : Hp) (σ : L2.St) (env : Env) (v : V) : Rs → Prop
  | dat {d : PyData} (h : HD F v d) : RsOk F H H0 σ env v (.dat d)
  | new {ds : List PyData} {p : Addr} {vs : List V} (e : v = .ref p) (h0 : H0 p = none) (h1 : F p = none) (h2 : H p = some (.lst vs)) (hs : HDs F vs ds) (h3 : ¬ OwnA σ env p) : RsOk F H H0 σ env v (.new ds)
  | own {i : Nat} (h : σ[i]? = some (some v)) : RsOk F H H0 σ env v (.own i)
  | ob {o : Ob} (h : ObOk F v o) : RsOk F H H0 σ env v (.ob o)
theorem RsOk.go {H0 : Hp} (h : RsOk F H H0 σ env v r) (g : Go F H (OwA σ env) F' H' (OwA σ env')) : RsOk F' H' H0 σ env' v r := by
  cases h with
  | dat h => exact .dat (h.mono g.fz)
  | own h => exact .own h
  | ob h => exact .ob (h.mono g.fz)
  | new e h0 h1 h2 hs h3 =>
    refine .new e h0 ?_ (g.frame _ _ h3 h2) (hs.mono g.fz) fun z => ?_
    · rename_i p vs
      cases q : F' p with
      | none => rfl
      | some o =>
        rcases g.fresh p (by rw [q]; simp) with z | z | z
        · exact absurd h1 z
        · exact (z.no h2 fun _ e => nomatch e).elim
        · exact absurd z h3
    · rcases g.own _ z with q | q
      · exact h3 q
      · rw [h2] at q; cases q
/-- an earlier start -/
theorem RsOk.from {H0 H1 : Hp} (h : RsOk F H H1 σ env v r) (k : ∀ b, H1 b = none → H0 b = none) : RsOk F H H0 σ env v r := by
  cases h with
  | dat h => exact .dat h
  | own h => exact .own h
  | ob h => exact .ob h
  | new e h0 h1 h2 hs h3 => exact .new e (k _ h0) h1 h2 hs h3
theorem own_lt {i : Nat} {b : Bool} {ds : List PyData} (h : env[i]? = some (.own b ds)) : i < env.length := (List.getElem?_eq_some_iff.mp h).1
/-- a result is seen -/
theorem RsOk.view {H0 : Hp} (rep : Rep F H σ env) (h : RsOk F H H0 σ env v r) {d : PyData} (e : view env r = some d) : HV F H v d := by
  cases h with
  | dat h =>
    cases e
    exact .dat h
  | new e1 h0 h1 h2 hs h3 =>
    cases e
    exact .lst e1 h2 hs
  | ob h => cases e
  | own h =>
    rename_i i
    simp only [DL.view] at e
    split at e
    · rename_i b ds hi
      cases e
      obtain ⟨a, vs, q1, q2, q3, q4⟩ := rep.own i b ds hi
      rw [h] at q1
      cases q1
      exact .lst rfl q3 q4
    · rename_i d' hi
      cases e
      obtain ⟨w, q1, q2⟩ := rep.dat i _ hi
      rw [h] at q1
      cases q1
      exact .dat q2
    · cases e
theorem set_cases {α : Type} {l : List α} {i j : Nat} {x y : α} (h : (l.set i x)[j]? = some y) : (j = i ∧ y = x) ∨ (j ≠ i ∧ l[j]? = some y) := by
  by_cases e : j = i
  · subst e
    left
    have hl : j < l.length := by
      have := (List.getElem?_eq_some_iff.mp h).1
      simpa using this
    rw [List.getElem?_set_self hl] at h
    exact ⟨rfl, (Option.some.inj h).symm⟩
  · right
    rw [List.getElem?_set_ne (fun z => e z.symm)] at h
    exact ⟨e, h⟩
/-- a list of one's own joins what stands -/
theorem Rep.join {p : Addr} {vs : List V} (rep : Rep F H σ env) (h2 : H p = some (.lst vs)) (h1 : F p = none) (hn : ∀ (i : Nat) b es, env'[i]? = some (.own b es) → env[i]? = some (.own b es) ∧ σ[i]? ≠ some (some (.ref p)))
    (hl : env'.length = env.length) (hd : ∀ (i : Nat) d, env'[i]? = some (.dat d) → ∃ v, σ[i]? = some (some v) ∧ HD (upd F p (.lst vs)) v d) (hb : ∀ (i : Nat) d, env'[i]? = some (.ob d) → env[i]? = some (.ob d)) : Rep (upd F p (.lst vs)) H σ env' := by
  have sm : Same F (upd F p (.lst vs)) := same_new h1
  refine ⟨fun b o e => ?_, hl.trans rep.len, hd, fun i d hi => ?_, fun i b es hi => ?_, fun i j b b' ds es a h h' => rep.ne i j b b' ds es a (hn i b ds h).1 (hn j b' es h').1⟩
  · by_cases hb : b = p
    · subst hb; rw [upd_same] at e; cases e; exact h2
    · rw [upd_ne hb] at e; exact rep.sub b o e
  · obtain ⟨v, q1, q2⟩ := rep.ob i d (hb i d hi)
    exact ⟨v, q1, q2.mono sm⟩
  · obtain ⟨z1, z2⟩ := hn i b es hi
    obtain ⟨a, ws, q1, q2, q3, q4⟩ := rep.own i b es z1
    refine ⟨a, ws, q1, ?_, q3, q4.mono sm⟩
    rw [upd_ne (fun z => z2 (by subst z; exact q1))]
    exact q2
/-- a result is made data for good; g: all that was done since the start -/
theorem RsOk.frz {F0 H0 : Hp} {O0 : Ow} (g : Go F0 H0 O0 F H (OwA σ env)) (rep : Rep F H σ env) (h : RsOk F H H0 σ env v r) {d : PyData} (e : DL.frz env r = some (d, env')) :
    ∃ F', Go F0 H0 O0 F' H (OwA σ env') ∧ Rep F' H σ env' ∧ HD F' v d := by
  cases h with
  | dat h =>
    cases e
    exact ⟨F, g, rep, h⟩
  | ob h => cases e
  | new e1 h0 h1 h2 hs h3 =>
    cases e
    subst e1
    rename_i p vs
    have sm : Same F (upd F p (.lst vs)) := same_new h1
    refine ⟨upd F p (.lst vs), ⟨g.fz.trans sm, g.frame, g.dom, fun b hb => ?_, g.own, g.bor⟩, rep.join h2 h1 (fun i b es hi => ⟨hi, fun z => h3 ⟨i, b, es, hi, z⟩⟩) rfl (fun i d hi => ?_) (fun _ _ h => h), .lst upd_same (hs.mono sm)⟩
    · by_cases hbp : b = p
      · subst hbp; exact .inr (.inl (.of h0))
      · rw [upd_ne hbp] at hb; exact g.fresh b hb
    · obtain ⟨v, q1, q2⟩ := rep.dat i d hi
      exact ⟨v, q1, q2.mono sm⟩
  | own h =>
    rename_i i
    simp only [DL.frz] at e
    split at e
    · rename_i ds hi
      cases e
      obtain ⟨a, vs, q1, q2, q3, q4⟩ := rep.own i false ds hi
      rw [h] at q1
      cases q1
      have sm : Same F (upd F a (.lst vs)) := same_new q2
      have hd : HD (upd F a (.lst vs)) (.ref a) (.list ds) := .lst upd_same (q4.mono sm)
      have oa : OwnA σ env a := ⟨i, false, ds, hi, h⟩
      refine ⟨upd F a (.lst vs), ⟨g.fz.trans sm, g.frame, g.dom, fun b hb => ?_, fun b hb => ?_, fun b hb => ?_⟩, rep.join q3 q2 (fun j b es hj => ?_) (by simp) (fun j d hj => ?_) (fun j d hj => ?_), hd⟩
      · by_cases hbp : b = a
        · subst hbp
          rcases g.own _ oa with z | z
          · exact .inr (.inr z)
          · exact .inr (.inl (.of z))
        · rw [upd_ne hbp] at hb; exact g.fresh b hb
      · obtain ⟨j, c, es, hj, hj'⟩ := hb
        rcases set_cases hj with ⟨_, z⟩ | ⟨_, z⟩
        · cases z
        · exact g.own b ⟨j, c, es, z, hj'⟩
      · obtain ⟨j, es, hj, hj'⟩ := hb
        rcases set_cases hj with ⟨_, z⟩ | ⟨_, z⟩
        · cases z
        · exact g.bor b ⟨j, es, z, hj'⟩
      · rcases set_cases hj with ⟨_, z⟩ | ⟨ne, z⟩
        · cases z
        · exact ⟨z, fun w => ne (rep.ne j i b false es ds a z hi w h)⟩
      · rcases set_cases hj with ⟨e1, z⟩ | ⟨ne, z⟩
        · cases z
          subst e1
          exact ⟨_, h, hd⟩
        · obtain ⟨v, q1, q2⟩ := rep.dat j d z
          exact ⟨v, q1, q2.mono sm⟩
      · rcases set_cases hj with ⟨e1, z⟩ | ⟨ne, z⟩
        · cases z
        · exact z
    · rename_i d' hi
      cases e
      obtain ⟨w, q1, q2⟩ := rep.dat i _ hi
      rw [h] at q1
      cases q1
      exact ⟨F, g, rep, q2⟩
    · cases e
end

/-! ### the readings -/
def tD (f : FE) : TE := fun σ H Q => ∃ F env r env', Rep F H σ env ∧ f env = some (r, env') ∧
  ∀ v F' H', Go F H (OwA σ env) F' H' (OwA σ env') → Rep F' H' σ env' → RsOk F' H' H σ env' v r → Q v H'
def tDT (f : FT) : TT := fun σ H Q => ∃ F env r env', Rep F H σ env ∧ f env = some (r, env') ∧
  ∀ F' H', Go F H (OwA σ env) F' H' (OwA σ env') → Rep F' H' σ env' → Q r H'
def tDA (f : FA) : TA := fun σ H Q => ∃ F env r env', Rep F H σ env ∧ f env = some (r, env') ∧
  ∀ vs F' H', Go F H (OwA σ env) F' H' (OwA σ env') → Rep F' H' σ env' → HDs F' vs r → Q vs H'
abbrev DE (X : Cx) (e : Expr) (f : FE) : Prop := PE X e (tD f)
abbrev DT (X : Cx) (e : Expr) (f : FT) : Prop := PT X e (tDT f)
abbrev DA (X : Cx) (es : List Expr) (f : FA) : Prop := PA X es (tDA f)
section
variable {X : Cx} {e : Expr}
theorem PE.imp {t t' : TE} (h : PE X e t) (k : ∀ σ H Q, t' σ H Q → t σ H Q) : PE X e t' := ⟨fun pins s σ H Q I q => h.run pins s σ H Q I (k σ H Q q)⟩
theorem PT.imp {t t' : TT} (h : PT X e t) (k : ∀ σ H Q, t' σ H Q → t σ H Q) : PT X e t' := ⟨fun pins s σ H Q I q => h.run pins s σ H Q I (k σ H Q q)⟩
theorem PW.imp {t t' : TT} (h : PW X e t) (k : ∀ σ H Q, t' σ H Q → t σ H Q) : PW X e t' := ⟨fun whole pins s σ H Q I q => h.run whole pins s σ H Q I (k σ H Q q)⟩
theorem PA.imp {es : List Expr} {t t' : TA} (h : PA X es t) (k : ∀ σ H Q, t' σ H Q → t σ H Q) : PA X es t' := ⟨fun pos pins s σ H Q I q => h.run pos pins s σ H Q I (k σ H Q q)⟩
theorem PS.imp {st : Stmt} {t t' : TS} (h : PS X st t) (k : ∀ D σ H, t' D σ H → t D σ H) : PS X st t' := ⟨fun pins s σ H D I q => h.run pins s σ H D I (k D σ H q)⟩
theorem PSs.imp {st : List Stmt} {t t' : TS} (h : PSs X st t) (k : ∀ D σ H, t' D σ H → t D σ H) : PSs X st t' := ⟨fun pins s σ H D I q => h.run pins s σ H D I (k D σ H q)⟩
theorem PG.imp {tg : Expr} {t t' : TG} (h : PG X tg t) (k : ∀ v σ H Q, t' v σ H Q → t v σ H Q) : PG X tg t' := ⟨fun pins s σ H v u Q I r q => h.run pins s σ H v u Q I r (k v σ H Q q)⟩
theorem PI.imp {tg it : Expr} {t t' : TI} (h : PI X tg it t) (k : ∀ σ H Q, t' σ H Q → t σ H Q) : PI X tg it t' := ⟨fun pins s σ H Q I q => h.run pins s σ H Q I (k σ H Q q)⟩
end

/-- an operation on two values, by data -/
def rD (op : PyData → PyData → Option Rs) : R2 := fun x y H Q => ∃ F dx dy z, Same F H ∧ HV F H x dx ∧ HV F H y dy ∧ op dx dy = some z ∧ RetW F H z Q
def rD1 (op : PyData → Option Rs) : V → Hp → VK → Prop := fun x H Q => ∃ F dx z, Same F H ∧ HV F H x dx ∧ op dx = some z ∧ RetW F H z Q
abbrev OpD (X : Cx) (f : Value → Value → Sem Value) (op : PyData → PyData → Option Rs) : Prop := OpR X f (rD op)
abbrev UnD (X : Cx) (f : Value → Sem Value) (op : PyData → Option Rs) : Prop := UnR X f (rD1 op)
/-- a result of an operation waits in the frame -/
theorem ResOk.rs {F H F' H' H0 : Hp} {σ : L2.St} {env : Env} {v : V} {r : Rs} (rep : Rep F H σ env) (k : ∀ b, H b = none → H0 b = none) (h : ResOk F' H' H v r) : RsOk F' H' H0 σ env v r := by
  cases h with
  | dat h => exact .dat h
  | ob h => exact .ob h
  | new e h0 h1 h2 hs =>
    refine .new e (k _ h0) h1 h2 hs fun z => ?_
    obtain ⟨i, b, ds, hi, hi'⟩ := z
    obtain ⟨a, vs, q1, q2, q3, q4⟩ := rep.own i b ds hi
    rw [hi'] at q1
    cases q1
    rw [h0] at q3
    cases q3
section
variable {X : Cx} {a b c : Expr} {fa fb fc : FE} {pos : Pos}
theorem bin_imp {op : PyData → PyData → Option Rs} (σ : L2.St) (H : Hp) (Q : VK) (h : tD (fBin op fa fb) σ H Q) : tOp (rD op) (tD fa) (tD fb) σ H Q := by
  obtain ⟨F, env, r, env', rep, e, k⟩ := h
  simp only [fBin, Option.bind_eq_some_iff, Option.map_eq_some_iff] at e
  obtain ⟨⟨r1, e1⟩, h1, ⟨r2, e2⟩, h2, x, hx, y, hy, z, hz, e3⟩ := e
  cases e3
  refine ⟨F, env, r1, e1, rep, h1, fun v F1 H1 g1 rep1 ok1 => ⟨F1, e1, r2, e2, rep1, h2, fun w F2 H2 g2 rep2 ok2 => ?_⟩⟩
  refine ⟨F2, x, y, r, rep2.sub, (ok1.go g2).view rep2 hx, ok2.view rep2 hy, hz, fun u F3 H3 ex ok3 => ?_⟩
  exact k u F3 H3 ((g1.trans g2).trans (.of_ext ex)) (rep2.ext ex) (ok3.rs rep2 fun b hb => g1.dom b (g2.dom b hb))
theorem de_bin {op : Operator} {f : PyData → PyData → Option Rs} (ho : OpD X (binaryOp op) f) (ha : DE X a fa) (hb : DE X b fb) : DE X (.BinOp a op b pos) (fBin f fa fb) := PE.imp (pe_op ho ha hb) bin_imp
theorem de_cmp {op : CmpOp} {f : PyData → PyData → Option Rs} (ho : OpD X (compareOp op) f) (ha : DE X a fa) (hb : DE X b fb) (hm : behindInMarks op b = false) : DE X (.Compare a [op] [b] pos) (fBin f fa fb) := PE.imp (pe_cmpR ho ha hb hm) bin_imp
theorem un_imp {op : PyData → Option Rs} (σ : L2.St) (H : Hp) (Q : VK) (h : tD (fUn op fa) σ H Q) : tUn (rD1 op) (tD fa) σ H Q := by
  obtain ⟨F, env, r, env', rep, e, k⟩ := h
  simp only [fUn, Option.bind_eq_some_iff, Option.map_eq_some_iff] at e
  obtain ⟨⟨r1, e1⟩, h1, x, hx, z, hz, e3⟩ := e
  cases e3
  refine ⟨F, env, r1, e1, rep, h1, fun v F1 H1 g1 rep1 ok1 => ⟨F1, x, r, rep1.sub, ok1.view rep1 hx, hz, fun u F3 H3 ex ok3 => ?_⟩⟩
  exact k u F3 H3 (g1.trans (.of_ext ex)) (rep1.ext ex) (ok3.rs rep1 fun b hb => g1.dom b hb)
theorem de_un {op : UnaryOp} {f : PyData → Option Rs} (ho : UnD X (unaryOp op) f) (ha : DE X a fa) : DE X (.UnaryOp op a pos) (fUn f fa) := PE.imp (pe_un ho ha) un_imp
theorem de_name (i : Nat) {x : Str} (hN : X.N[i]? = some x := by rfl) (hv : Vis X.env.scope x := by first | exact Or.inl rfl | exact Or.inr (Or.inl rfl) | exact Or.inr (Or.inr rfl)) (hd : (x == ("__debug__" : Str)) = false := by decide)
    (hcd : (x == ("__classdict__" : Str)) = false := by decide) : DE X (.Name x pos) (fName i) := PE.imp (pe_var hN hv hd hcd) fun σ H Q h => by
  obtain ⟨F, env, r, env', rep, e, k⟩ := h
  simp only [fName] at e
  split at e
  · rename_i d hi
    cases e
    obtain ⟨v, q1, q2⟩ := rep.dat i d hi
    exact ⟨v, q1, k v F H .refl rep (.dat q2)⟩
  · rename_i b ds hi
    cases e
    obtain ⟨a, vs, q1, q2, q3, q4⟩ := rep.own i b ds hi
    exact ⟨_, q1, k _ F H .refl rep (.own q1)⟩
  · rename_i o hi
    cases e
    obtain ⟨v, q1, q2⟩ := rep.ob i o hi
    exact ⟨v, q1, k v F H .refl rep (.ob q2)⟩
  · cases e
theorem c_imp {v : V} {d : PyData} (hd : ∀ F, HD F v d) (σ : L2.St) (H : Hp) (Q : VK) (h : tD (fC d) σ H Q) : tC v σ H Q := by
  obtain ⟨F, env, r, env', rep, e, k⟩ := h
  cases e
  exact k v F H .refl rep (.dat (hd F))
theorem de_int {i : Int} {j} : DE X (.Constant (.int i) j pos) (fC (.int i)) := PE.imp pe_int (c_imp fun _ => .int i)
theorem de_bool {i : Bool} {j} : DE X (.Constant (.bool i) j pos) (fC (.bool i)) := PE.imp pe_bl (c_imp fun _ => .bl i)
theorem de_none {j} : DE X (.Constant .none j pos) (fC .none) := PE.imp pe_non (c_imp fun _ => .non)
theorem de_str {i : Str} {j} : DE X (.Constant (.str i) j pos) (fC (.str i)) := PE.imp pe_str (c_imp fun _ => .str i)
/-- an int or text that stands in the module -/
theorem de_glob {x : Str} {v : V} {d : PyData} {u : Value} (hg : Gl X x) (hm : X.mg x = some u) (r : RelV v u) (hd : ∀ F, HD F v d) (hdb : (x == ("__debug__" : Str)) = false := by decide) : DE X (.Name x pos) (fC d) := PE.imp (pe_glob hg hm r hdb) (c_imp hd)
end
end DL

/-! DL2: tests, argument lists, calls, targets, statements, loops, comprehensions, defs. -/
namespace DL
open PySem PySem.Spec PyProof.Rows L2

/-! ### tests -/
section
variable {X : Cx} {a b c e : Expr} {fa fb fc f : FE} {pos : Pos} {s t : FT}
theorem tB_imp (σ : L2.St) (H : Hp) (Q : Bool → Hp → Prop) (h : tDT (fB f) σ H Q) : tB (tD f) σ H Q := by
  obtain ⟨F, env, r, env', rep, e, k⟩ := h
  simp only [fB, Option.bind_eq_some_iff] at e
  obtain ⟨⟨r1, e1⟩, h1, h2⟩ := e
  refine ⟨F, env, r1, e1, rep, h1, fun v F1 H1 g1 rep1 ok1 => ?_⟩
  split at h2
  · rename_i b hb
    simp only at hb
    cases h2
    subst hb
    cases ok1 with
    | dat h =>
      cases h
      exact ⟨_, rfl, k F1 H1 g1 rep1⟩
  · cases h2
theorem dt_val (h : DE X e f) (he : ∀ whole, isTrue e X.env whole = (do let v ← whole; standAt e.pos; holding [v] (truthy v)) := by intro _; rfl) : DT X e (fB f) := PT.imp (pt_val h he) tB_imp
theorem tTest_imp {u : TE} (hu : ∀ σ H Q, tD f σ H Q → u σ H Q) (σ : L2.St) (H : Hp) (Q : Bool → Hp → Prop) (h : tDT (fB f) σ H Q) : tTest u σ H Q := hu σ H _ (tB_imp σ H Q h)
theorem dt_cmp {op : CmpOp} {g : PyData → PyData → Option Rs} (ho : OpD X (compareOp op) g) (ha : DE X a fa) (hb : DE X b fb) (hm : behindInMarks op b = false) : DT X (.Compare a [op] [b] pos) (fB (fBin g fa fb)) :=
  PT.imp (pt_cmpR ho ha hb hm) (tTest_imp bin_imp)
theorem chain_imp {g g' : PyData → PyData → Option Rs} (hg : ∀ x y z, g x y = some z → ∃ b, z = .dat (.bool b)) (σ : L2.St) (H : Hp) (Q : VK) (h : tD (fChain g g' fa fb fc) σ H Q) : tChain (rD g) (rD g') (tD fa) (tD fb) (tD fc) σ H Q := by
  obtain ⟨F, env, r, env', rep, e, k⟩ := h
  simp only [fChain, Option.bind_eq_some_iff] at e
  obtain ⟨⟨r1, e1⟩, h1, ⟨r2, e2⟩, h2, x, hx, y, hy, z, hz, e3⟩ := e
  refine ⟨F, env, r1, e1, rep, h1, fun v F1 H1 g1 rep1 ok1 => ⟨F1, e1, r2, e2, rep1, h2, fun w F2 H2 g2 rep2 ok2 => ?_⟩⟩
  refine ⟨F2, x, y, z, rep2.sub, (ok1.go g2).view rep2 hx, ok2.view rep2 hy, hz, fun u F3 H3 ex ok3 => ?_⟩
  obtain ⟨b, rfl⟩ := hg x y z hz
  cases ok3 with
  | dat hd =>
    cases hd
    refine ⟨_, rfl, ?_⟩
    cases b with
    | false =>
      simp only at e3
      cases e3
      rw [if_neg (by simp)]
      exact k _ F3 H3 ((g1.trans g2).trans (.of_ext ex)) (rep2.ext ex) (.dat (.bl false))
    | true =>
      simp only [Option.bind_eq_some_iff] at e3
      obtain ⟨⟨r4, e4⟩, h4, w4, hw4, y', hy', z', hz', e5⟩ := e3
      rw [if_pos rfl]
      refine ⟨F3, e2, r4, e4, rep2.ext ex, h4, fun v4 F4 H4 g4 rep4 ok4 => ⟨F4, y', w4, z', rep4.sub, ((ok2.go (.of_ext ex)).go g4).view rep4 hy', ok4.view rep4 hw4, hz', fun u5 F5 H5 ex5 ok5 => ?_⟩⟩
      split at e5
      · cases e5
        exact k _ F5 H5 ((((g1.trans g2).trans (.of_ext ex)).trans g4).trans (.of_ext ex5)) (rep4.ext ex5) (ok5.rs rep4 fun b hb => g1.dom b (g2.dom b (ex.hs.free (g4.dom b hb))))
      · cases e5
theorem de_chain {op op' : CmpOp} {g g' : PyData → PyData → Option Rs} (hg : ∀ x y z, g x y = some z → ∃ b, z = .dat (.bool b)) (ho : OpD X (compareOp op) g) (ho' : OpD X (compareOp op') g') (ha : DE X a fa) (hb : DE X b fb) (hc : DE X c fc)
    (hm : lastMarks [op, op'] [b, c] = false := by with_unfolding_all rfl) : DE X (.Compare a [op, op'] [b, c] pos) (fChain g g' fa fb fc) := PE.imp (pe_chain ho ho' ha hb hc hm) (chain_imp hg)
theorem dt_chain {op op' : CmpOp} {g g' : PyData → PyData → Option Rs} (hg : ∀ x y z, g x y = some z → ∃ b, z = .dat (.bool b)) (ho : OpD X (compareOp op) g) (ho' : OpD X (compareOp op') g') (ha : DE X a fa) (hb : DE X b fb) (hc : DE X c fc)
    (hm : lastMarks [op, op'] [b, c] = false := by with_unfolding_all rfl) : DT X (.Compare a [op, op'] [b, c] pos) (fB (fChain g g' fa fb fc)) := PT.imp (pt_chain ho ho' ha hb hc hm) (tTest_imp (chain_imp hg))

abbrev DW (X : Cx) (e : Expr) (f : FT) : Prop := PW X e (tDT f)
theorem dt_w (h : DW X e s) : DT X e s := h.pt
theorem dw_and1 (h : DT X a s) : DW X (.BoolOp .And [a] pos) s := pw_and1 h
theorem dw_or1 (h : DT X a s) : DW X (.BoolOp .Or [a] pos) s := pw_or1 h
theorem dw_and {rest : List Expr} (h : DT X a s) (h2 : DW X (.BoolOp .And (b :: rest) pos) t) : DW X (.BoolOp .And (a :: b :: rest) pos) (ftAnd s t) := PW.imp (pw_and h h2) fun σ H Q h => by
  obtain ⟨F, env, r, env', rep, e, k⟩ := h
  simp only [ftAnd, Option.bind_eq_some_iff] at e
  obtain ⟨⟨b1, e1⟩, h1, h2⟩ := e
  refine ⟨F, env, b1, e1, rep, h1, fun F1 H1 g1 rep1 => ?_⟩
  cases b1 with
  | true =>
    rw [if_pos rfl] at h2 ⊢
    exact ⟨F1, e1, r, env', rep1, h2, fun F2 H2 g2 rep2 => k F2 H2 (g1.trans g2) rep2⟩
  | false =>
    rw [if_neg (by simp)] at h2 ⊢
    cases h2
    exact k F1 H1 g1 rep1
theorem dw_or {rest : List Expr} (h : DT X a s) (h2 : DW X (.BoolOp .Or (b :: rest) pos) t) : DW X (.BoolOp .Or (a :: b :: rest) pos) (ftOr s t) := PW.imp (pw_or h h2) fun σ H Q h => by
  obtain ⟨F, env, r, env', rep, e, k⟩ := h
  simp only [ftOr, Option.bind_eq_some_iff] at e
  obtain ⟨⟨b1, e1⟩, h1, h2⟩ := e
  refine ⟨F, env, b1, e1, rep, h1, fun F1 H1 g1 rep1 => ?_⟩
  cases b1 with
  | false =>
    rw [if_neg (by simp)] at h2 ⊢
    exact ⟨F1, e1, r, env', rep1, h2, fun F2 H2 g2 rep2 => k F2 H2 (g1.trans g2) rep2⟩
  | true =>
    rw [if_pos rfl] at h2 ⊢
    cases h2
    exact k F1 H1 g1 rep1
theorem dt_not (h : DT X a s) : DT X (.UnaryOp .Not a pos) (ftNot s) := PT.imp (pt_not h) fun σ H Q h => by
  obtain ⟨F, env, r, env', rep, e, k⟩ := h
  simp only [ftNot, Option.map_eq_some_iff] at e
  obtain ⟨⟨b1, e1⟩, h1, h2⟩ := e
  cases h2
  exact ⟨F, env, b1, e1, rep, h1, fun F1 H1 g1 rep1 => k F1 H1 g1 rep1⟩
theorem de_not (h : DE X a f) : DE X (.UnaryOp .Not a pos) (fOfT (ftNot (fB f))) := PE.imp (pe_not h) fun σ H Q h => by
  obtain ⟨F, env, r, env', rep, e, k⟩ := h
  simp only [fOfT, ftNot, Option.map_eq_some_iff] at e
  obtain ⟨⟨b1, e1⟩, ⟨⟨b2, e2⟩, h1, h3⟩, h2⟩ := e
  cases h2
  cases h3
  exact tB_imp σ H _ ⟨F, env, b2, _, rep, h1, fun F1 H1 g1 rep1 => k _ F1 H1 g1 rep1 (.dat (.bl _))⟩
theorem de_one {op} (h : DE X a f) : DE X (.BoolOp op [a] pos) f := pe_one h
theorem de_and {rest : List Expr} (h : DE X a fa) (h2 : DE X (.BoolOp .And (b :: rest) pos) fb) : DE X (.BoolOp .And (a :: b :: rest) pos) (fAndE (fB fa) fb) := PE.imp (pe_and h h2) fun σ H Q h => by
  obtain ⟨F, env, r, env', rep, e, k⟩ := h
  simp only [fAndE, Option.bind_eq_some_iff] at e
  obtain ⟨⟨b1, e1⟩, h1, h2⟩ := e
  refine tB_imp σ H _ ⟨F, env, b1, e1, rep, h1, fun F1 H1 g1 rep1 => ?_⟩
  cases b1 with
  | true =>
    rw [if_pos rfl] at h2 ⊢
    exact ⟨F1, e1, r, env', rep1, h2, fun v F2 H2 g2 rep2 ok2 => k v F2 H2 (g1.trans g2) rep2 (ok2.from g1.dom)⟩
  | false =>
    rw [if_neg (by simp)] at h2 ⊢
    cases h2
    exact k _ F1 H1 g1 rep1 (.dat (.bl false))
theorem de_or {rest : List Expr} (h : DE X a fa) (h2 : DE X (.BoolOp .Or (b :: rest) pos) fb) : DE X (.BoolOp .Or (a :: b :: rest) pos) (fOrE (fB fa) fb) := PE.imp (pe_or h h2) fun σ H Q h => by
  obtain ⟨F, env, r, env', rep, e, k⟩ := h
  simp only [fOrE, Option.bind_eq_some_iff] at e
  obtain ⟨⟨b1, e1⟩, h1, h2⟩ := e
  refine tB_imp σ H _ ⟨F, env, b1, e1, rep, h1, fun F1 H1 g1 rep1 => ?_⟩
  cases b1 with
  | false =>
    rw [if_neg (by simp)] at h2 ⊢
    exact ⟨F1, e1, r, env', rep1, h2, fun v F2 H2 g2 rep2 ok2 => k v F2 H2 (g1.trans g2) rep2 (ok2.from g1.dom)⟩
  | true =>
    rw [if_pos rfl] at h2 ⊢
    cases h2
    exact k _ F1 H1 g1 rep1 (.dat (.bl true))
theorem de_if (h : DT X c s) (ha : DE X a fa) (hb : DE X b fb) : DE X (.IfExp c a b pos) (fIf s fa fb) := PE.imp (pe_ifExp h ha hb) fun σ H Q h => by
  obtain ⟨F, env, r, env', rep, e, k⟩ := h
  simp only [fIf, Option.bind_eq_some_iff] at e
  obtain ⟨⟨b1, e1⟩, h1, h2⟩ := e
  refine ⟨F, env, b1, e1, rep, h1, fun F1 H1 g1 rep1 => ?_⟩
  cases b1 with
  | false =>
    rw [if_neg (by simp)] at h2 ⊢
    exact ⟨F1, e1, r, env', rep1, h2, fun v F2 H2 g2 rep2 ok2 => k v F2 H2 (g1.trans g2) rep2 (ok2.from g1.dom)⟩
  | true =>
    rw [if_pos rfl] at h2 ⊢
    exact ⟨F1, e1, r, env', rep1, h2, fun v F2 H2 g2 rep2 ok2 => k v F2 H2 (g1.trans g2) rep2 (ok2.from g1.dom)⟩
end

/-! ### argument lists, displays -/
section
variable {X : Cx} {e : Expr} {es : List Expr} {f : FE} {g : FA} {pos p : Pos}
theorem da_nil : DA X [] faNil := PA.imp pa_nil fun σ H Q h => by
  obtain ⟨F, env, r, env', rep, e, k⟩ := h
  cases e
  exact k [] F H .refl rep .nil
theorem cons_imp (σ : L2.St) (H : Hp) (Q : List V → Hp → Prop) (h : tDA (faCons f g) σ H Q) : tCons (tD f) (tDA g) σ H Q := by
  obtain ⟨F, env, r, env', rep, e, k⟩ := h
  simp only [faCons, Option.bind_eq_some_iff, Option.map_eq_some_iff] at e
  obtain ⟨⟨r1, e1⟩, h1, ⟨d, e2⟩, h2, ⟨ds, e3⟩, h3, h4⟩ := e
  cases h4
  refine ⟨F, env, r1, e1, rep, h1, fun v F1 H1 g1 rep1 ok1 => ?_⟩
  obtain ⟨F2, g2, rep2, hd⟩ := ok1.frz g1 rep1 h2
  exact ⟨F2, e2, ds, e3, rep2, h3, fun vs F3 H3 g3 rep3 hds => k (v :: vs) F3 H3 (g2.trans g3) rep3 (.cons (hd.mono g3.fz) hds)⟩
theorem da_cons (h : DE X e f) (hr : DA X es g) (hs : starEach (e :: es) X.env = (false, eval e X.env) :: starEach es X.env := by rfl) : DA X (e :: es) (faCons f g) := PA.imp (pa_cons h hr hs) cons_imp
theorem da_star (h : DE X e f) (hr : DA X es g) (hs : starEach (.Starred e p :: es) X.env = (true, eval e X.env) :: starEach es X.env := by rfl) : DA X (.Starred e p :: es) (faStar f g) := PA.imp (StX.pa_star h hr hs) fun σ H Q h => by
  obtain ⟨F, env, r, env', rep, e, k⟩ := h
  simp only [faStar, Option.bind_eq_some_iff, Option.map_eq_some_iff] at e
  obtain ⟨⟨r1, e1⟩, h1, ⟨d, e2⟩, h2, ds0, h0, ⟨ds, e3⟩, h3, h4⟩ := e
  cases h4
  refine ⟨F, env, r1, e1, rep, h1, fun v F1 H1 g1 rep1 ok1 => ?_⟩
  obtain ⟨F2, g2, rep2, hd⟩ := ok1.frz g1 rep1 h2
  have fin : ∀ {a : Addr} {xs : List V}, v = .ref a → (SqT X.K H1 a xs ∨ SqL X.K H1 a xs) → HDs F2 xs ds0 →
      ∃ a xs, v = V.ref a ∧ (SqT X.K H1 a xs ∨ SqL X.K H1 a xs) ∧ tDA g σ H1 fun us H' => Q (xs ++ us) H' := fun {a xs} ev hs hx =>
    ⟨a, xs, ev, hs, F2, e2, ds, e3, rep2, h3, fun vs F3 H3 g3 rep3 hds => k _ F3 H3 (g2.trans g3) rep3 ((hx.mono g3.fz).append hds)⟩
  cases d with
  | list xs =>
    cases h0
    cases hd with
    | lst hp hs => exact fin rfl (.inr (.of (rep2.sub _ _ hp))) hs
  | tuple xs =>
    cases h0
    cases hd with
    | tup hp hs => exact fin rfl (.inl (.of (rep2.sub _ _ hp))) hs
  | _ => cases h0
theorem Go.ret {F F1 H H1 : Hp} {σ : L2.St} {env env' : Env} {Q : VK} {r : Rs} (g : Go F H (OwA σ env) F1 H1 (OwA σ env')) (rep : Rep F1 H1 σ env')
    (k : ∀ v F' H', Go F H (OwA σ env) F' H' (OwA σ env') → Rep F' H' σ env' → RsOk F' H' H σ env' v r → Q v H') : RetW F1 H1 r Q := fun v F' H' ex ok =>
  k v F' H' (g.trans (.of_ext ex)) (rep.ext ex) (ok.rs rep g.dom)
theorem de_tup {x1} (h : DA X es g) : DE X (.Tuple es x1 pos) (fTup g) := PE.imp (pe_tup h) fun σ H Q h => by
  obtain ⟨F, env, r, env', rep, e, k⟩ := h
  simp only [fTup, Option.bind_eq_some_iff] at e
  obtain ⟨⟨ds, e1⟩, h1, h2⟩ := e
  simp only at h2
  split at h2
  · rename_i hz
    cases h2
    exact ⟨F, env, ds, env', rep, h1, fun vs F1 H1 g1 rep1 hds => ⟨by rw [hds.length]; exact hz, fun p hp => (g1.ret rep1 k).tup rep1.sub hds hp⟩⟩
  · cases h2
theorem de_lst (h : DA X es g) : DE X (.List es pos) (fLst g) := PE.imp (pe_lst h) fun σ H Q h => by
  obtain ⟨F, env, r, env', rep, e, k⟩ := h
  simp only [fLst, Option.bind_eq_some_iff] at e
  obtain ⟨⟨ds, e1⟩, h1, h2⟩ := e
  simp only at h2
  split at h2
  · rename_i hz
    cases h2
    exact ⟨F, env, ds, env', rep, h1, fun vs F1 H1 g1 rep1 hds => ⟨by rw [hds.length]; exact hz, fun p hp => (g1.ret rep1 k).lst rep1.sub hds hp⟩⟩
  · cases h2
end

/-! ### defs called -/
/-- one list of one's own -/
def only (t : Addr) : Ow := ⟨fun b => b = t, fun _ => False⟩
/-- a def of n parameters, all data -/
def spD (n : Nat) (R : Fn) : Sp := fun vs H Q _ => ∃ F ds r, Same F H ∧ HDs F vs ds ∧ ds.length = n ∧ R ds = some r ∧ RetW F H r Q
/-- a def whose first parameter is a list that it changes -/
def spT (n : Nat) (R : FnT) : Sp := fun vs H Q _ => ∃ F t tvs ts us ds r ts', vs = .ref t :: us ∧ Same F H ∧ F t = none ∧ H t = some (.lst tvs) ∧ HDs F tvs ts ∧ HDs F us ds ∧ ds.length + 1 = n ∧ R ts ds = some (r, ts') ∧
  ∀ v F' H' tvs', Go F H (only t) F' H' (only t) → Same F' H' → F' t = none → H' t = some (.lst tvs') → HDs F' tvs' ts' → ResOk F' H' H v r → Q v H'
section
variable {X : Cx} {CX : CXT} {k i : Nat} {f : Addr} {fd : FuncData} {ps : List Str} {E : XK} {x : Str} {p pos : Pos} {e : Expr} {es : List Expr} {g : FA} {R : Fn} {RT : FnT} {n : Nat}
theorem call_imp (σ : L2.St) (H : Hp) (Q : VK) (h : tD (fun env => (g env).bind fun p => if p.1.length = n then (R p.1).map fun r => (r, p.2) else none) σ H Q) : tCall (spD n R) [] E (tDA g) σ H Q := by
  obtain ⟨F, env, r, env', rep, e, k⟩ := h
  simp only [Option.bind_eq_some_iff] at e
  obtain ⟨⟨ds, e1⟩, h1, h2⟩ := e
  simp only at h2
  split at h2
  · rename_i hn
    simp only [Option.map_eq_some_iff] at h2
    obtain ⟨z, hz, h3⟩ := h2
    cases h3
    refine ⟨F, env, ds, env', rep, h1, fun vs F1 H1 g1 rep1 hds => ⟨F1, ds, r, rep1.sub, ?_, hn, hz, g1.ret rep1 k⟩⟩
    rw [List.append_nil]
    exact hds
  · cases h2
/-- what a def of n parameters is worth where it is called -/
def fCallN (n : Nat) (R : Fn) (a : FA) : FE := fun env => (a env).bind fun p => if p.1.length = n then (R p.1).map fun r => (r, p.2) else none
theorem de_call (F : FnOk X.prog X.w X.K X.mg X.base CX k f fd ps (spD n R)) (hr : Room k X.A) (hg : Gl X x) (hm : X.mg x = some (.ref f)) (hk : PySem.W.keepIn X.K (.ref f) = true) (hb : Binds X.K fd ps []) (hx : Passes CX X E)
    (ha : DA X (e :: es) g) (hdb : (x == ("__debug__" : Str)) = false := by decide) (he : starEach (e :: es) X.env = (false, eval e X.env) :: starEach es X.env := by rfl) (hpl : (backTo pos (starEach es X.env)).any (·.1) = false := by rfl) :
    DE X (.Call (.Name x p) (e :: es) [] pos) (fCallN n R g) := PE.imp (pe_call F hr hg hm hk hb .nil hx ha hdb he hpl) call_imp
theorem de_call0 (F : FnOk X.prog X.w X.K X.mg X.base CX k f fd ps (spD n R)) (hr : Room k X.A) (hg : Gl X x) (hm : X.mg x = some (.ref f)) (hk : PySem.W.keepIn X.K (.ref f) = true) (hb : Binds X.K fd ps []) (hx : Passes CX X E)
    (hdb : (x == ("__debug__" : Str)) = false := by decide) : DE X (.Call (.Name x p) [] [] pos) (fCallN n R faNil) := PE.imp (pe_call0 F hr hg hm hk hb .nil hx hdb) fun σ H Q h => by
  have q := call_imp (E := E) σ H Q h
  obtain ⟨F1, env, r, env', rep, e, k⟩ := q
  cases e
  exact k [] F1 H .refl rep .nil
def fCallTN (n : Nat) (F : FnT) (i : Nat) (a : FA) : FE := fun env => match env[i]? with
  | some (.own _ _) => (a env).bind fun p => match p.2[i]? with
    | some (.own b ts) => if p.1.length + 1 = n then (F ts p.1).map fun r => (r.1, p.2.set i (.own b r.2)) else none
    | _ => none
  | _ => none
theorem own_set {σ : L2.St} {env : Env} {i : Nat} {c : Bool} {ts ts' : List PyData} (hi : env[i]? = some (.own c ts)) (b : Addr) : OwnA σ (env.set i (.own c ts')) b ↔ OwnA σ env b := by
  have hl := own_lt hi
  constructor
  · rintro ⟨j, c', ds, h1, h2⟩
    rcases set_cases h1 with ⟨e, _⟩ | ⟨_, z⟩
    · subst e
      exact ⟨j, c, ts, hi, h2⟩
    · exact ⟨j, c', ds, z, h2⟩
  · rintro ⟨j, c', ds, h1, h2⟩
    by_cases e : j = i
    · subst e
      exact ⟨j, c, ts', by rw [List.getElem?_set_self hl], h2⟩
    · exact ⟨j, c', ds, by rw [List.getElem?_set_ne (fun z => e z.symm)]; exact h1, h2⟩
theorem bor_set {σ : L2.St} {env : Env} {i : Nat} {c : Bool} {ts ts' : List PyData} (hi : env[i]? = some (.own c ts)) (b : Addr) : BorA σ (env.set i (.own c ts')) b → BorA σ env b := by
  rintro ⟨j, ds, h1, h2⟩
  rcases set_cases h1 with ⟨e, z⟩ | ⟨_, z⟩
  · subst e
    cases z
    exact ⟨j, ts, hi, h2⟩
  · exact ⟨j, ds, z, h2⟩
/-- a change at the list in slot i, as the frame sees it -/
theorem Go.at {F F' H H' : Hp} {σ : L2.St} {env : Env} {i : Nat} {t : Addr} {c : Bool} {ts ts' : List PyData} (hi : env[i]? = some (.own c ts)) (hv : σ[i]? = some (some (.ref t))) (g : Go F H (only t) F' H' (only t)) : Go F H (OwA σ env) F' H' (OwA σ (env.set i (.own c ts'))) := by
  have ht : OwnA σ env t := ⟨i, c, ts, hi, hv⟩
  refine ⟨g.fz, fun b o n e => g.frame b o (fun z => n ?_) e, g.dom, fun b e => (g.fresh b e).elim .inl fun z => z.elim (fun q => .inr (.inl q)) fun q => .inr (.inr ?_), fun b z => .inl ((own_set hi b).mp z), fun b z => bor_set hi b z⟩
  · have z' : b = t := z
    subst z'
    exact ht
  · have z' : b = t := q
    subst z'
    exact ht
/-- the list in slot i gets other items -/
theorem Rep.items {F F' H H' : Hp} {σ : L2.St} {env : Env} {i : Nat} {t : Addr} {c : Bool} {ts ts' : List PyData} {vs : List V} (rep : Rep F H σ env) (hi : env[i]? = some (.own c ts)) (hv : σ[i]? = some (some (.ref t)))
    (g : Go F H (only t) F' H' (only t)) (sub : Same F' H') (f0 : F' t = none) (l : H' t = some (.lst vs)) (hs : HDs F' vs ts') : Rep F' H' σ (env.set i (.own c ts')) := by
  refine ⟨sub, by rw [List.length_set]; exact rep.len, fun j d hj => ?_, fun j d hj => ?_, fun j b ds hj => ?_, fun j j' b b' ds es a h h' => ?_⟩
  · rcases set_cases hj with ⟨_, z⟩ | ⟨_, z⟩
    · cases z
    · obtain ⟨v, q1, q2⟩ := rep.dat j d z
      exact ⟨v, q1, q2.mono g.fz⟩
  · rcases set_cases hj with ⟨_, z⟩ | ⟨_, z⟩
    · cases z
    · obtain ⟨v, q1, q2⟩ := rep.ob j d z
      exact ⟨v, q1, q2.mono g.fz⟩
  · rcases set_cases hj with ⟨e, z⟩ | ⟨ne, z⟩
    · cases z
      subst e
      exact ⟨t, vs, hv, f0, l, hs⟩
    · obtain ⟨a, ws, q1, q2, q3, q4⟩ := rep.own j b ds z
      have nt : a ≠ t := fun e => ne (rep.ne j i b c ds ts a z hi q1 (by rw [e]; exact hv))
      refine ⟨a, ws, q1, ?_, g.frame a _ nt q3, q4.mono g.fz⟩
      cases q : F' a with
      | none => rfl
      | some o =>
        rcases g.fresh a (by rw [q]; simp) with z' | z' | z'
        · exact absurd q2 z'
        · exact (z'.no q3 fun _ e => nomatch e).elim
        · exact absurd z' nt
  · have k : ∀ (j : Nat) b ds, (env.set i (.own c ts'))[j]? = some (.own b ds) → ∃ b' ds', env[j]? = some (.own b' ds') := fun j b ds hj => by
      rcases set_cases hj with ⟨e, _⟩ | ⟨_, z⟩
      · subst e; exact ⟨_, _, hi⟩
      · exact ⟨_, _, z⟩
    obtain ⟨c1, ds', z1⟩ := k j b ds h
    obtain ⟨c2, es', z2⟩ := k j' b' es h'
    exact rep.ne j j' c1 c2 ds' es' a z1 z2
/-- a result at call level waits in a frame where the list at t changed -/
theorem ResOk.rsT {F H F' H' H0 : Hp} {σ : L2.St} {env env' : Env} {v : V} {r : Rs} (rep : Rep F H σ env) (ho : ∀ b, OwnA σ env' b → OwnA σ env b) (k : ∀ b, H b = none → H0 b = none) (h : ResOk F' H' H v r) : RsOk F' H' H0 σ env' v r := by
  cases h with
  | dat h => exact .dat h
  | ob h => exact .ob h
  | new e h0 h1 h2 hs =>
    refine .new e (k _ h0) h1 h2 hs fun z => ?_
    obtain ⟨i, b, ds, hi, hi'⟩ := ho _ z
    obtain ⟨a, vs, q1, q2, q3, q4⟩ := rep.own i b ds hi
    rw [hi'] at q1
    cases q1
    rw [h0] at q3
    cases q3
theorem callT_imp (σ : L2.St) (H : Hp) (Q : VK) (h : tD (fCallTN n RT i g) σ H Q) : tCall (spT n RT) [] E (tCons (tVar i) (tDA g)) σ H Q := by
  obtain ⟨F, env, r, env', rep, e, k⟩ := h
  simp only [fCallTN] at e
  split at e
  · rename_i c0 ts0 hts0
    obtain ⟨t0, tvs0, hv, _, _, _⟩ := rep.own i c0 ts0 hts0
    simp only [Option.bind_eq_some_iff] at e
    obtain ⟨⟨ds, e1⟩, h1, h2⟩ := e
    simp only at h2
    split at h2
    · rename_i c ts hts
      split at h2
      · rename_i hn
        simp only [Option.map_eq_some_iff] at h2
        obtain ⟨⟨z, ts'⟩, hz, h3⟩ := h2
        cases h3
        refine ⟨_, hv, F, env, ds, e1, rep, h1, fun vs F1 H1 g1 rep1 hds => ?_⟩
        obtain ⟨t, tvs, q1, q2, q3, q4⟩ := rep1.own i c ts hts
        rw [hv] at q1
        cases q1
        refine ⟨F1, t0, tvs, ts, vs, ds, _, ts', ?_, rep1.sub, q2, q3, q4, hds, hn, hz, fun u F2 H2 tvs' g2 s2 f2 l2 d2 ok2 => ?_⟩
        · rw [List.append_nil]
        have rep2 := rep1.items hts hv g2 s2 f2 l2 d2
        have g3 : Go F1 H1 (OwA σ e1) F2 H2 (OwA σ (e1.set i (.own c ts'))) := .at hts hv g2
        exact k u F2 H2 (g1.trans g3) rep2 (ok2.rsT rep1 (fun b hb => (own_set hts b).mp hb) g1.dom)
      · cases h2
    · cases h2
  · cases e
theorem de_callT {y : Str} {py : Pos} (F : FnOk X.prog X.w X.K X.mg X.base CX k f fd ps (spT n RT)) (hr : Room k X.A) (hg : Gl X x) (hm : X.mg x = some (.ref f)) (hk : PySem.W.keepIn X.K (.ref f) = true) (hb : Binds X.K fd ps []) (hx : Passes CX X E)
    (hy : PE X (.Name y py) (tVar i)) (ha : DA X es g) (hdb : (x == ("__debug__" : Str)) = false := by decide) (he : starEach (.Name y py :: es) X.env = (false, eval (.Name y py) X.env) :: starEach es X.env := by rfl) (hpl : (backTo pos (starEach es X.env)).any (·.1) = false := by rfl) :
    DE X (.Call (.Name x p) (.Name y py :: es) [] pos) (fCallTN n RT i g) := PE.imp (pe_call F hr hg hm hk hb .nil hx (pa_cons hy ha he) hdb he hpl) callT_imp
end
end DL

/-! DL3: targets, statements, loops, comprehensions, defs. -/
namespace DL
open PySem PySem.Spec PyProof.Rows L2

/-! ### slots stored, forgotten, given back -/
section
variable {F F' H H' : Hp} {σ σ' : L2.St} {env env' : Env} {i : Nat} {v : V}
theorem kill_get : ∀ {vs : List Nat} {env : Env} {j : Nat}, (j ∉ vs → (kill env vs)[j]? = env[j]?) ∧ (j ∈ vs → ∀ s, (kill env vs)[j]? = some s → s = .dead)
  | [], _, _ => ⟨fun _ => rfl, fun h => by cases h⟩
  | i :: r, env, j => by
    have ih := kill_get (vs := r) (env := env.set i .dead) (j := j)
    refine ⟨fun h => ?_, fun h s e => ?_⟩
    · simp only [List.mem_cons, not_or] at h
      show (kill (env.set i .dead) r)[j]? = _
      rw [ih.1 h.2, List.getElem?_set_ne (fun z => h.1 z.symm)]
    · by_cases hr : j ∈ r
      · exact ih.2 hr s e
      · have hj : j = i := by
          simp only [List.mem_cons] at h
          exact h.resolve_right hr
        subst hj
        have e' : (kill (env.set j .dead) r)[j]? = some s := e
        rw [ih.1 hr] at e'
        rcases set_cases e' with ⟨_, z⟩ | ⟨z, _⟩
        · exact z
        · exact absurd rfl z
theorem kill_length : ∀ {vs : List Nat} {env : Env}, (kill env vs).length = env.length
  | [], _ => rfl
  | i :: r, env => by
    show (kill (env.set i .dead) r).length = _
    rw [kill_length (vs := r), List.length_set]
/-- what a killed frame still holds it held -/
theorem kill_some {vs : List Nat} {j : Nat} {s : Sl} (hs : s ≠ .dead) (h : (kill env vs)[j]? = some s) : env[j]? = some s ∧ j ∉ vs := by
  by_cases hj : j ∈ vs
  · exact absurd (kill_get.2 hj s h) hs
  · rw [kill_get.1 hj] at h
    exact ⟨h, hj⟩
/-- at most these lists of one's own -/
def OwLe (O O' : Ow) : Prop := (∀ b, O.own b → O'.own b) ∧ ∀ b, O.bor b → O'.bor b
theorem own_kill {vs : List Nat} : OwLe (OwA σ (kill env vs)) (OwA σ env) := by
  refine ⟨fun b h => ?_, fun b h => ?_⟩
  · obtain ⟨j, c, ds, h1, h2⟩ := h
    exact ⟨j, c, ds, (kill_some (by simp) h1).1, h2⟩
  · obtain ⟨j, ds, h1, h2⟩ := h
    exact ⟨j, ds, (kill_some (by simp) h1).1, h2⟩
theorem Rep.kill {vs : List Nat} (rep : Rep F H σ env) : Rep F H σ (kill env vs) :=
  ⟨rep.sub, kill_length.trans rep.len, fun j d hj => rep.dat j d (kill_some (by simp) hj).1, fun j d hj => rep.ob j d (kill_some (by simp) hj).1, fun j b d hj => rep.own j b d (kill_some (by simp) hj).1,
    fun j j' b b' ds es a h h' => rep.ne j j' b b' ds es a (kill_some (by simp) h).1 (kill_some (by simp) h').1⟩
theorem Go.sub_own {O O' O1 : Ow} (g : Go F H O F' H' O') (h : OwLe O1 O') : Go F H O F' H' O1 := ⟨g.fz, g.frame, g.dom, g.fresh, fun b z => g.own b (h.1 b z), fun b z => g.bor b (h.2 b z)⟩
/-- slot i gets what is not a list of one's own -/
theorem Rep.store {s : Sl} (rep : Rep F H σ env) (hi : i < env.length) (hd : ∀ d, s = .dat d → HD F v d) (hb : ∀ o, s = .ob o → ObOk F v o) (hn : ∀ b ds, s ≠ .own b ds) : Rep F H (σ.set i (some v)) (env.set i s) ∧ OwLe (OwA (σ.set i (some v)) (env.set i s)) (OwA σ env) := by
  have hl : i < σ.length := by rw [← rep.len]; exact hi
  have self : (σ.set i (some v))[i]? = some (some v) := List.getElem?_set_self hl
  have other : ∀ j, j ≠ i → (σ.set i (some v))[j]? = σ[j]? := fun j z => List.getElem?_set_ne (fun q => z q.symm)
  have ow : ∀ (j : Nat) b ds, (env.set i s)[j]? = some (.own b ds) → j ≠ i ∧ env[j]? = some (.own b ds) := fun j b ds h => by
    rcases set_cases h with ⟨_, z⟩ | z
    · exact absurd z.symm (hn b ds)
    · exact z
  refine ⟨⟨rep.sub, by rw [List.length_set, List.length_set]; exact rep.len, fun j d hj => ?_, fun j d hj => ?_, fun j c ds hj => ?_, fun j j' c c' ds es a h h' h2 h2' => ?_⟩, fun b h => ?_, fun b h => ?_⟩
  · rcases set_cases hj with ⟨e, z⟩ | ⟨ne, z⟩
    · subst e; exact ⟨v, self, hd d z.symm⟩
    · rw [other j ne]; exact rep.dat j d z
  · rcases set_cases hj with ⟨e, z⟩ | ⟨ne, z⟩
    · subst e; exact ⟨v, self, hb d z.symm⟩
    · rw [other j ne]; exact rep.ob j d z
  · obtain ⟨ne, z⟩ := ow j c ds hj
    rw [other j ne]
    exact rep.own j c ds z
  · obtain ⟨n1, z1⟩ := ow j c ds h
    obtain ⟨n2, z2⟩ := ow j' c' es h'
    rw [other j n1] at h2
    rw [other j' n2] at h2'
    exact rep.ne j j' c c' ds es a z1 z2 h2 h2'
  · obtain ⟨j, c, ds, h1, h2⟩ := h
    obtain ⟨n1, z1⟩ := ow j c ds h1
    rw [other j n1] at h2
    exact ⟨j, c, ds, z1, h2⟩
  · obtain ⟨j, ds, h1, h2⟩ := h
    obtain ⟨n1, z1⟩ := ow j true ds h1
    rw [other j n1] at h2
    exact ⟨j, ds, z1, h2⟩
/-- slot i gets a new list -/
theorem Rep.storeNew {p : Addr} {vs : List V} {ds : List PyData} (rep : Rep F H σ env) (hi : i < env.length) (h1 : F p = none) (h2 : H p = some (.lst vs)) (hs : HDs F vs ds) (h3 : ¬ OwnA σ env p) :
    Rep F H (σ.set i (some (.ref p))) (env.set i (.own false ds)) ∧ (∀ b, OwnA (σ.set i (some (.ref p))) (env.set i (.own false ds)) b → OwnA σ env b ∨ b = p) ∧ ∀ b, BorA (σ.set i (some (.ref p))) (env.set i (.own false ds)) b → BorA σ env b := by
  have hl : i < σ.length := by rw [← rep.len]; exact hi
  have self : (σ.set i (some (V.ref p)))[i]? = some (some (.ref p)) := List.getElem?_set_self hl
  have other : ∀ j, j ≠ i → (σ.set i (some (V.ref p)))[j]? = σ[j]? := fun j z => List.getElem?_set_ne (fun q => z q.symm)
  refine ⟨⟨rep.sub, by rw [List.length_set, List.length_set]; exact rep.len, fun j d hj => ?_, fun j d hj => ?_, fun j c es hj => ?_, fun j j' c c' es es' a h h' g g' => ?_⟩, fun b h => ?_, fun b h => ?_⟩
  · rcases set_cases hj with ⟨e, z⟩ | ⟨ne, z⟩
    · cases z
    · rw [other j ne]; exact rep.dat j d z
  · rcases set_cases hj with ⟨e, z⟩ | ⟨ne, z⟩
    · cases z
    · rw [other j ne]; exact rep.ob j d z
  · rcases set_cases hj with ⟨e, z⟩ | ⟨ne, z⟩
    · cases z
      subst e
      exact ⟨p, vs, self, h1, h2, hs⟩
    · rw [other j ne]; exact rep.own j c es z
  · have key : ∀ (j : Nat) c es a, (env.set i (.own false ds))[j]? = some (.own c es) → (σ.set i (some (V.ref p)))[j]? = some (some (.ref a)) → (j = i ∧ a = p) ∨ (j ≠ i ∧ env[j]? = some (.own c es) ∧ σ[j]? = some (some (.ref a)) ∧ a ≠ p) := fun j c es a h g => by
      rcases set_cases h with ⟨e, z⟩ | ⟨ne, z⟩
      · subst e
        rw [self] at g
        cases g
        exact .inl ⟨rfl, rfl⟩
      · rw [other j ne] at g
        exact .inr ⟨ne, z, g, fun q => h3 ⟨j, c, es, z, q ▸ g⟩⟩
    rcases key j c es a h g with ⟨e1, e2⟩ | ⟨n1, z1, w1, m1⟩
    · rcases key j' c' es' a h' g' with ⟨f1, f2⟩ | ⟨n2, z2, w2, m2⟩
      · rw [e1, f1]
      · exact absurd e2 m2
    · rcases key j' c' es' a h' g' with ⟨f1, f2⟩ | ⟨n2, z2, w2, m2⟩
      · exact absurd f2 m1
      · exact rep.ne j j' c c' es es' a z1 z2 w1 w2
  · obtain ⟨j, c, es, g1, g2⟩ := h
    rcases set_cases g1 with ⟨e, z⟩ | ⟨ne, z⟩
    · subst e
      rw [self] at g2
      cases g2
      exact .inr rfl
    · rw [other j ne] at g2
      exact .inl ⟨j, c, es, z, g2⟩
  · obtain ⟨j, es, g1, g2⟩ := h
    rcases set_cases g1 with ⟨e, z⟩ | ⟨ne, z⟩
    · cases z
    · rw [other j ne] at g2
      exact ⟨j, es, z, g2⟩
end

/-! ### targets -/
/-- us: the slots that the target may store -/
def tG (us : List Nat) (g : FG) : TG := fun v σ H Q => ∃ F env d env', Rep F H σ env ∧ HD F v d ∧ g d env = some env' ∧
  ∀ σ', Rep F H σ' env' → OwLe (OwA σ' env') (OwA σ env) → σ'.length = σ.length → (∀ j, j ∉ us → σ'[j]? = σ[j]?) → Q σ' H
def tGs (us : List Nat) (g : FGs) : TGs := fun vs σ H Q => ∃ F env ds env', Rep F H σ env ∧ HDs F vs ds ∧ g ds env = some env' ∧
  ∀ σ', Rep F H σ' env' → OwLe (OwA σ' env') (OwA σ env) → σ'.length = σ.length → (∀ j, j ∉ us → σ'[j]? = σ[j]?) → Q σ' H
abbrev DG (X : Cx) (tg : Expr) (us : List Nat) (g : FG) : Prop := PG X tg (tG us g)
abbrev DGs (X : Cx) (tg : List Expr) (us : List Nat) (g : FGs) : Prop := PGs X tg (tGs us g)
theorem PGs.imp {X : Cx} {tg : List Expr} {t t' : TGs} (h : PGs X tg t) (k : ∀ v σ H Q, t' v σ H Q → t v σ H Q) : PGs X tg t' := ⟨fun pins s σ H v u Q I r q => h.run pins s σ H v u Q I r (k v σ H Q q)⟩
section
variable {X : Cx} {pos : Pos} {us vs : List Nat} {g : FG} {gs : FGs} {e : Expr} {es : List Expr}
theorem dg_name (i : Nat) {x : Str} (hN : X.N.Nodup) (hi : X.N[i]? = some x := by rfl) (hx : Loc X.env.scope x := by first | exact .inl rfl | exact .inr rfl) (hf : X.fn x = true ∨ X.env.scope.names.lookup x = some .local := by first | exact .inl rfl | exact .inr rfl | assumption) : DG X (.Name x pos) [i] (fgName i) := PG.imp (pg_name hN hi hx hf) fun v σ H Q h => by
  obtain ⟨F, env, d, env', rep, hd, e, k⟩ := h
  simp only [fgName] at e
  split at e
  · rename_i hl
    cases e
    obtain ⟨r1, r2⟩ := rep.store (s := .dat d) (v := v) hl (fun d' z => by cases z; exact hd) (fun _ z => nomatch z) (fun _ _ z => nomatch z)
    exact k _ r1 r2 (List.length_set ..) fun j hj => List.getElem?_set_ne fun z => hj (by simp [z])
  · cases e
theorem dgs_nil : DGs X [] [] fgNil := PGs.imp pgs_nil fun v σ H Q h => by
  obtain ⟨F, env, d, env', rep, hd, e, k⟩ := h
  cases hd with
  | nil =>
    cases e
    exact ⟨rfl, k σ rep ⟨fun _ z => z, fun _ z => z⟩ rfl fun _ _ => rfl⟩
  | cons _ _ => cases e
theorem dgs_cons (h1 : DG X e us g) (h2 : DGs X es vs gs) (hs : (assignEach (e :: es) X.env).map (·.2) = assign e X.env :: (assignEach es X.env).map (·.2) := by rfl) : DGs X (e :: es) (us ++ vs) (fgCons g gs) := PGs.imp (pgs_cons h1 h2 hs) fun v σ H Q h => by
  obtain ⟨F, env, d, env', rep, hd, e, k⟩ := h
  cases hd with
  | nil => cases e
  | cons h hs =>
    simp only [fgCons, Option.bind_eq_some_iff] at e
    obtain ⟨e1, q1, q2⟩ := e
    refine ⟨_, _, rfl, F, env, _, e1, rep, h, q1, fun σ1 rep1 o1 l1 k1 => ⟨F, e1, _, env', rep1, hs, q2, fun σ2 rep2 o2 l2 k2 => ?_⟩⟩
    exact k σ2 rep2 ⟨fun b z => o1.1 b (o2.1 b z), fun b z => o1.2 b (o2.2 b z)⟩ (l2.trans l1) fun j hj => by
      simp only [List.mem_append, not_or] at hj
      rw [k2 j hj.2, k1 j hj.1]
theorem dg_tup {k n : Nat} (hc : X.calm = true) (h : DGs X es us gs) (hn : (assignEach es X.env).length = n := by rfl) (hst : (assignEach es X.env).findIdx? (·.1) = none := by rfl) (hl : ∀ ds env env', gs ds env = some env' → ds.length = n) : DG X (.Tuple es k pos) us (fgTup gs) := PG.imp (pg_tup hc h hn hst) fun v σ H Q h => by
  obtain ⟨F, env, d, env', rep, hd, e, kk⟩ := h
  cases d with
  | tuple ds =>
    cases hd with
    | tup hp hs => exact ⟨_, _, rfl, .of (rep.sub _ _ hp), hs.length.trans (hl _ _ _ e), F, env, ds, env', rep, hs, e, kk⟩
  | _ => cases e
theorem fgNil_len (ds : List PyData) (env env' : Env) (h : fgNil ds env = some env') : ds.length = 0 := by
  cases ds with
  | nil => rfl
  | cons _ _ => cases h
theorem fgCons_len {n : Nat} (hs : ∀ ds env env', gs ds env = some env' → ds.length = n) (ds : List PyData) (env env' : Env) (h : fgCons g gs ds env = some env') : ds.length = n + 1 := by
  cases ds with
  | nil => cases h
  | cons d r =>
    simp only [fgCons, Option.bind_eq_some_iff] at h
    obtain ⟨e1, q1, q2⟩ := h
    exact congrArg (· + 1) (hs r e1 env' q2)
end

/-! ### statements -/
def OutW (D : Ends) (F H : Hp) (O : Ow) : Out → Prop
  | .nx e => ∀ σ' F' H', Go F H O F' H' (OwA σ' e) → Rep F' H' σ' e → D.nx σ' H'
  | .bk e => ∀ σ' F' H', Go F H O F' H' (OwA σ' e) → Rep F' H' σ' e → D.bk σ' H'
  | .ct e => ∀ σ' F' H', Go F H O F' H' (OwA σ' e) → Rep F' H' σ' e → D.ct σ' H'
  | .rt r e => ∀ v σ' F' H', Go F H O F' H' (OwA σ' e) → Rep F' H' σ' e → RsOk F' H' H σ' e v r → D.rt v H'
def tS (g : FS) : TS := fun D σ H => ∃ F env out, Rep F H σ env ∧ g env = some out ∧ OutW D F H (OwA σ env) out
abbrev DS (X : Cx) (st : Stmt) (g : FS) : Prop := PS X st (tS g)
abbrev DB (X : Cx) (st : List Stmt) (g : FS) : Prop := PSs X st (tS g)
section
variable {F F' H H' : Hp} {O : Ow} {σ : L2.St} {env : Env} {D : Ends} {o : Out}
/-- the wish from a later state -/
theorem OutW.later (h : OutW D F H O o) (g : Go F H O F' H' (OwA σ env)) : OutW D F' H' (OwA σ env) o := by
  cases o with
  | nx e => exact fun σ' F1 H1 g1 rep => h σ' F1 H1 (g.trans g1) rep
  | bk e => exact fun σ' F1 H1 g1 rep => h σ' F1 H1 (g.trans g1) rep
  | ct e => exact fun σ' F1 H1 g1 rep => h σ' F1 H1 (g.trans g1) rep
  | rt r e => exact fun v σ' F1 H1 g1 rep ok => h v σ' F1 H1 (g.trans g1) rep (ok.from g.dom)
end
section
variable {X : Cx} {e : Expr} {st : Stmt} {rest : List Stmt} {f fa : FE} {a b : FS} {s : FT} {pos : Pos} {i : Nat}
theorem db_nil : DB X [] fsNext := PSs.imp pss_nil fun D σ H h => by
  obtain ⟨F, env, out, rep, e, k⟩ := h
  cases e
  exact k σ F H .refl rep
theorem db_one (h : DS X st a) : DB X [st] a := pss_one h
theorem db_cons (h1 : DS X st a) (h2 : DB X rest b) : DB X (st :: rest) (fsSeq a b) := PSs.imp (pss_cons h1 h2) fun D σ H h => by
  obtain ⟨F, env, out, rep, e, k⟩ := h
  simp only [fsSeq, Option.bind_eq_some_iff] at e
  obtain ⟨o, q1, q2⟩ := e
  refine ⟨F, env, o, rep, q1, ?_⟩
  cases o with
  | nx e1 => exact fun σ1 F1 H1 g1 rep1 => ⟨F1, e1, out, rep1, q2, k.later g1⟩
  | bk e1 => cases q2; exact k
  | ct e1 => cases q2; exact k
  | rt r e1 => cases q2; exact k
theorem ds_pass : DS X (.Pass pos) fsNext := PS.imp ps_pass fun D σ H h => by
  obtain ⟨F, env, out, rep, e, k⟩ := h
  cases e
  exact k σ F H .refl rep
theorem ds_break : DS X (.Break pos) fsBreak := PS.imp ps_break fun D σ H h => by
  obtain ⟨F, env, out, rep, e, k⟩ := h
  cases e
  exact k σ F H .refl rep
theorem ds_continue : DS X (.Continue pos) fsCont := PS.imp ps_continue fun D σ H h => by
  obtain ⟨F, env, out, rep, e, k⟩ := h
  cases e
  exact k σ F H .refl rep
theorem ds_ret (h : DE X e f) : DS X (.Return (some e) pos) (fsRet f) := PS.imp (ps_ret h) fun D σ H h => by
  obtain ⟨F, env, out, rep, e, k⟩ := h
  simp only [fsRet, Option.map_eq_some_iff] at e
  obtain ⟨⟨r, e1⟩, q1, q2⟩ := e
  cases q2
  exact ⟨F, env, r, e1, rep, q1, fun v F1 H1 g1 rep1 ok1 => k v σ F1 H1 g1 rep1 ok1⟩
theorem ds_retN : DS X (.Return none pos) fsRetN := PS.imp ps_retN fun D σ H h => by
  obtain ⟨F, env, out, rep, e, k⟩ := h
  cases e
  exact k .non σ F H .refl rep (.dat .non)
theorem ds_drop (h : DE X e f) (hs : swapsWith e none pos.line X.env = pure false := by rfl) : DS X (.Expr e pos) (fsDrop f) := PS.imp (ps_expr h hs) fun D σ H h => by
  obtain ⟨F, env, out, rep, e, k⟩ := h
  simp only [fsDrop, Option.map_eq_some_iff] at e
  obtain ⟨⟨r, e1⟩, q1, q2⟩ := e
  cases q2
  exact ⟨F, env, r, e1, rep, q1, fun v F1 H1 g1 rep1 ok1 => k σ F1 H1 g1 rep1⟩
theorem ds_if {c : Expr} {p q : List Stmt} (hc : DT X c s) (ha : DB X p a) (hb : DB X q b) : DS X (.If c p q pos) (fsIf s a b) := PS.imp (ps_if hc ha hb) fun D σ H h => by
  obtain ⟨F, env, out, rep, e, k⟩ := h
  simp only [fsIf, Option.bind_eq_some_iff] at e
  obtain ⟨⟨c1, e1⟩, q1, q2⟩ := e
  refine ⟨F, env, c1, e1, rep, q1, fun F1 H1 g1 rep1 => ?_⟩
  cases c1 with
  | true =>
    rw [if_pos rfl] at q2 ⊢
    exact ⟨F1, e1, out, rep1, q2, k.later g1⟩
  | false =>
    rw [if_neg (by simp)] at q2 ⊢
    exact ⟨F1, e1, out, rep1, q2, k.later g1⟩
theorem name_imp (D : Ends) (σ : L2.St) (H : Hp) (h : tS (fsName fa i) D σ H) : tAsg (tD fa) (gName i) D σ H := by
  obtain ⟨F, env, out, rep, e, k⟩ := h
  simp only [fsName, Option.bind_eq_some_iff] at e
  obtain ⟨⟨r1, e1⟩, h1, ⟨s, e2⟩, h2, h3⟩ := e
  simp only at h3
  split at h3
  · rename_i hi
    cases h3
    refine ⟨F, env, r1, e1, rep, h1, fun v F1 H1 g1 rep1 ok1 => ?_⟩
    cases r1 with
    | dat d =>
      cases h2
      cases ok1 with
      | dat hd =>
        obtain ⟨r1, r2⟩ := rep1.store (s := .dat d) (v := v) hi (fun d' z => by cases z; exact hd) (fun _ z => nomatch z) (fun _ _ z => nomatch z)
        exact k _ F1 H1 (g1.sub_own r2) r1
    | ob o =>
      cases h2
      cases ok1 with
      | ob hd =>
        obtain ⟨r1, r2⟩ := rep1.store (s := .ob o) (v := v) hi (fun _ z => nomatch z) (fun d' z => by cases z; exact hd) (fun _ _ z => nomatch z)
        exact k _ F1 H1 (g1.sub_own r2) r1
    | new ds =>
      cases h2
      cases ok1 with
      | new e h0 p1 p2 hs p3 =>
        subst e
        obtain ⟨r1, r2, r3⟩ := rep1.storeNew hi p1 p2 hs p3
        refine k _ F1 H1 ⟨g1.fz, g1.frame, g1.dom, g1.fresh, fun b z => ?_, fun b z => g1.bor b (r3 b z)⟩ r1
        rcases r2 b z with q | q
        · exact g1.own b q
        · exact .inr (by rw [q]; exact h0)
    | own j =>
      simp only [Sl.of, Option.map_eq_some_iff] at h2
      obtain ⟨⟨d, e3⟩, h4, h5⟩ := h2
      cases h5
      obtain ⟨F2, g2, rep2, hd⟩ := ok1.frz g1 rep1 h4
      obtain ⟨r1, r2⟩ := rep2.store (s := .dat d) (v := v) hi (fun d' z => by cases z; exact hd) (fun _ z => nomatch z) (fun _ _ z => nomatch z)
      exact k _ F2 H1 (g2.sub_own r2) r1
  · cases h3
theorem ds_name (i : Nat) {x : Str} {pos' : Pos} (hN : X.N.Nodup) (he : DE X e fa) (hi : X.N[i]? = some x := by rfl) (hx : Loc X.env.scope x := by first | exact .inl rfl | exact .inr rfl) (hs : swapsWith e (some (.Name x pos')) pos.line X.env = pure false := by rfl)
    (hf : X.fn x = true ∨ X.env.scope.names.lookup x = some .local := by first | exact .inl rfl | exact .inr rfl | assumption) : DS X (.Assign [.Name x pos'] e pos) (fsName fa i) := PS.imp (ps_set hN hi hx he hs hf) name_imp
theorem ds_asg {tg : Expr} {us : List Nat} {g : FG} (he : DE X e fa) (hg : DG X tg us g) (hs : swapsWithSole [tg] e pos.line X.env = pure false := by rfl) (hw : swappedStores [tg] e X.env = pure none := by rfl)
    (h1 : (assignEach [tg] X.env).map (·.2) = [assign tg X.env] := by rfl) : DS X (.Assign [tg] e pos) (fsAsg fa g) := PS.imp (ps_asg he hg hs hw h1) fun D σ H h => by
  obtain ⟨F, env, out, rep, e, k⟩ := h
  simp only [fsAsg, Option.bind_eq_some_iff, Option.map_eq_some_iff] at e
  obtain ⟨⟨r1, e1⟩, h1, ⟨d, e2⟩, h2, e3, h3, h4⟩ := e
  cases h4
  refine ⟨F, env, r1, e1, rep, h1, fun v F1 H1 g1 rep1 ok1 => ?_⟩
  obtain ⟨F2, g2, rep2, hd⟩ := ok1.frz g1 rep1 h2
  exact ⟨F2, e2, d, e3, rep2, hd, h3, fun σ' rep3 o3 _ _ => k σ' F2 H1 (g2.sub_own o3) rep3⟩
theorem plain_store {F H H0 : Hp} {σ : L2.St} {env : Env} {v : V} {r : Rs} {s : Sl} (rep : Rep F H σ env) (ok : RsOk F H H0 σ env v r) (hs : Sl.plain r = some s) (hi : i < env.length) :
    Rep F H (σ.set i (some v)) (env.set i s) ∧ (∀ b, OwnA (σ.set i (some v)) (env.set i s) b → OwnA σ env b ∨ (v = .ref b ∧ H0 b = none ∧ ∃ ds, r = .new ds)) ∧ ∀ b, BorA (σ.set i (some v)) (env.set i s) b → BorA σ env b := by
  cases ok with
  | own h => cases hs
  | dat hd =>
    rename_i d
    cases hs
    obtain ⟨r1, r2⟩ := rep.store (s := .dat d) (v := v) hi (fun d' z => by cases z; exact hd) (fun _ z => nomatch z) (fun _ _ z => nomatch z)
    exact ⟨r1, fun b z => .inl (r2.1 b z), r2.2⟩
  | ob hd =>
    rename_i o
    cases hs
    obtain ⟨r1, r2⟩ := rep.store (s := .ob o) (v := v) hi (fun _ z => nomatch z) (fun d' z => by cases z; exact hd) (fun _ _ z => nomatch z)
    exact ⟨r1, fun b z => .inl (r2.1 b z), r2.2⟩
  | new e h0 p1 p2 hs' p3 =>
    cases hs
    subst e
    obtain ⟨r1, r2, r3⟩ := rep.storeNew hi p1 p2 hs' p3
    exact ⟨r1, fun b z => (r2 b z).elim .inl fun q => .inr ⟨by rw [q], by rw [q]; exact h0, _, rfl⟩, r3⟩
/-- a, b = e1, e2 by slots -/
theorem par_imp {j : Nat} {fb : FE} (D : Ends) (σ : L2.St) (H : Hp) (h : tS (fsPar fa fb i j) D σ H) : tPar i j (tCons (tD fa) (tCons (tD fb) tNil)) D σ H := by
  obtain ⟨F, env, out, rep, e, k⟩ := h
  simp only [fsPar, Option.bind_eq_some_iff] at e
  obtain ⟨⟨r1, e1⟩, h1, ⟨r2, e2⟩, h2, s, h3, u, h4, h5⟩ := e
  simp only at h5
  split at h5
  · rename_i hij
    cases h5
    refine ⟨F, env, r1, e1, rep, h1, fun v F1 H1 g1 rep1 ok1 => ⟨F1, e1, r2, e2, rep1, h2, fun w F2 H2 g2 rep2 ok2 => ⟨v, w, rfl, ?_⟩⟩⟩
    obtain ⟨rep3, o3, o3b⟩ := plain_store rep2 (ok1.go g2) h3 hij.1
    have ok3 : RsOk F2 H2 H1 (σ.set i (some v)) (e2.set i s) w r2 := by
      cases ok2 with
      | dat hd => exact .dat hd
      | ob hd => exact .ob hd
      | own h => cases h4
      | new e h0 p1 p2 hs' p3 =>
        refine .new e h0 p1 p2 hs' fun z => ?_
        rcases o3 _ z with q | ⟨q1, q2, ds, q3⟩
        · exact p3 q
        · subst q3
          cases ok1 with
          | new e' h0' p1' p2' hs'' p3' =>
            rw [e'] at q1
            cases q1
            rw [h0] at p2'
            cases p2'
    obtain ⟨rep4, o4, o4b⟩ := plain_store rep3 ok3 h4 (by rw [List.length_set]; exact hij.2)
    have g3 := g1.trans g2
    refine k _ F2 H2 ⟨g3.fz, g3.frame, g3.dom, g3.fresh, fun b z => ?_, fun b z => g3.bor b (o3b b (o4b b z))⟩ rep4
    rcases o4 b z with q | ⟨_, q, _⟩
    · rcases o3 b q with q' | ⟨_, q', _⟩
      · exact g3.own b q'
      · exact .inr q'
    · exact .inr (g1.dom b q)
  · cases h5
theorem ds_par (i j : Nat) {x y : Str} {p q : Expr} {fb : FE} {px py pt : Pos} {kt k2 pt2} (hc : X.calm = true) (hN : X.N.Nodup) (hp : DE X p fa) (hq : DE X q fb) (hi : X.N[i]? = some x := by rfl) (hj : X.N[j]? = some y := by rfl) (hij : i ≠ j := by decide)
    (hx : X.env.scope.names.lookup x = some .local := by rfl) (hy : X.env.scope.names.lookup y = some .local := by rfl)
    (hw : swappedStores [.Tuple [.Name x px, .Name y py] kt pt] (.Tuple [p, q] k2 pt2) X.env = pure (some [x, y]) := by rfl)
    (hs : swapsWithSole [.Tuple [.Name x px, .Name y py] kt pt] (.Tuple [p, q] k2 pt2) pos.line X.env = pure false := by rfl)
    (h1 : starEach [p, q] X.env = (false, eval p X.env) :: starEach [q] X.env := by rfl) (h2 : starEach [q] X.env = (false, eval q X.env) :: starEach [] X.env := by rfl) :
    DS X (.Assign [.Tuple [.Name x px, .Name y py] kt pt] (.Tuple [p, q] k2 pt2) pos) (fsPar fa fb i j) := PS.imp (ps_par hc hN hi hj hij hx hy (pa_cons hp (pa_cons hq pa_nil h2) h1) hw hs) par_imp
theorem ds_aug {op : Operator} {g : PyData → PyData → Option Rs} {x : Str} {pos' : Pos} (i : Nat) (hN : X.N.Nodup) (he : DE X e fa) (ho : PIp X op (rD g)) (hi : X.N[i]? = some x := by rfl) (hx : Loc X.env.scope x := by first | exact .inl rfl | exact .inr rfl)
    (hf : X.fn x = true ∨ X.env.scope.names.lookup x = some .local := by first | exact .inl rfl | exact .inr rfl | assumption) : DS X (.AugAssign (.Name x pos') op e pos) (fsAug g i fa) := PS.imp (ps_aug hN hi hx he ho hf) fun D σ H h => by
  obtain ⟨F, env, out, rep, e, k⟩ := h
  simp only [fsAug] at e
  split at e
  · rename_i d hd
    simp only [Option.bind_eq_some_iff] at e
    obtain ⟨⟨r1, e1⟩, h1, y, h2, z, h3, h4⟩ := e
    obtain ⟨v, q1, q2⟩ := rep.dat i d hd
    refine ⟨v, q1, F, env, r1, e1, rep, h1, fun w F1 H1 g1 rep1 ok1 => ⟨F1, d, y, z, rep1.sub, .dat (q2.mono g1.fz), ok1.view rep1 h2, h3, fun u F2 H2 ex ok2 => ?_⟩⟩
    split at h4
    · rename_i d2
      split at h4
      · rename_i hl
        cases h4
        cases ok2 with
        | dat hd2 =>
          obtain ⟨r1, r2⟩ := (rep1.ext ex).store (s := .dat d2) (v := u) hl (fun d' z => by cases z; exact hd2) (fun _ z => nomatch z) (fun _ _ z => nomatch z)
          exact k _ F2 H2 ((g1.trans (.of_ext ex)).sub_own r2) r1
      · cases h4
    · cases h4
  · cases e
/-- the list in slot i gets other items, what stands stays -/
theorem own_mut {F H : Hp} {σ : L2.St} {env : Env} {l : Addr} {c : Bool} {vs vs' : List V} {ds ds' : List PyData} (rep : Rep F H σ env) (hi : env[i]? = some (.own c ds)) (hv : σ[i]? = some (some (.ref l))) (hf : F l = none) (hl : H l = some (.lst vs)) (hs : HDs F vs' ds') :
    Rep F (upd H l (.lst vs')) σ (env.set i (.own c ds')) ∧ Go F H (OwA σ env) F (upd H l (.lst vs')) (OwA σ (env.set i (.own c ds'))) := by
  have g : Go F H (only l) F (upd H l (.lst vs')) (only l) := ⟨.refl _, fun b o n e => by rw [upd_ne (show b ≠ l from n)]; exact e, fun b e => by
    by_cases hb : b = l
    · subst hb; rw [upd_same] at e; cases e
    · rw [upd_ne hb] at e; exact e, fun b e => .inl e, fun b e => .inl e, fun b e => e⟩
  have sub : Same F (upd H l (.lst vs')) := fun b o e => by
    rw [upd_ne (ne_of_none e hf)]
    exact rep.sub b o e
  exact ⟨rep.items hi hv g sub hf upd_same hs, .at hi hv g⟩
/-- a method of a list by its items -/
def MutR (r : V → List V → Hp → VK → Prop) (op : List PyData → PyData → Option (List PyData)) : Prop :=
  ∀ (F H : Hp) (l : Addr) (vs : List V) (ds es : List PyData) (v : V) (d : PyData) (Q : VK), Same F H → H l = some (.lst vs) → HDs F vs ds → HD F v d → op ds d = some es → (∀ vs', HDs F vs' es → ∀ u, Q u (upd H l (.lst vs'))) → r (.ref l) [v] H Q
theorem mut_imp {r : V → List V → Hp → VK → Prop} {op : List PyData → PyData → Option (List PyData)} (hr : MutR r op) (D : Ends) (σ : L2.St) (H : Hp) (h : tS (fsMut op i fa) D σ H) : tDrop (tBM X.K "list" r (tVar i) (tCons (tD fa) tNil)) D σ H := by
  obtain ⟨F, env, out, rep, e, k⟩ := h
  simp only [fsMut] at e
  split at e
  · rename_i c0 ds0 hds0
    obtain ⟨l, vs0, hv, hf0, hl0, _⟩ := rep.own i c0 ds0 hds0
    simp only [Option.bind_eq_some_iff] at e
    obtain ⟨⟨r1, e1⟩, h1, ⟨d, e2⟩, h2, h3⟩ := e
    simp only at h3
    split at h3
    · rename_i c ds hds
      simp only [Option.map_eq_some_iff] at h3
      obtain ⟨es, h4, h5⟩ := h3
      cases h5
      refine ⟨_, hv, .inl ⟨rfl, _, .of hl0⟩, F, env, r1, e1, rep, h1, fun v F1 H1 g1 rep1 ok1 => ?_⟩
      obtain ⟨F2, g2, rep2, hd⟩ := ok1.frz g1 rep1 h2
      obtain ⟨l', vs, q1, q2, q3, q4⟩ := rep2.own i c ds hds
      rw [hv] at q1
      cases q1
      refine hr F2 H1 l vs ds es v d _ rep2.sub q3 q4 hd h4 fun vs' hvs' _ => ?_
      obtain ⟨rep3, g3⟩ := own_mut rep2 hds hv q2 q3 hvs'
      exact k σ F2 _ (g2.trans g3) rep3
    · cases h3
  · cases e
theorem mut_append : MutR rAppend mAppend := fun F H l vs ds es v d Q s hl hs hd ho k => by
  simp only [mAppend] at ho
  split at ho
  · rename_i hz
    cases ho
    exact ⟨l, vs, v, rfl, rfl, hl, by rw [hs.length]; exact hz, k _ (hs.append (.cons hd .nil)) _⟩
  · cases ho
theorem mut_extend : MutR rExtend mExtend := fun F H l vs ds es v d Q s hl hs hd ho k => by
  cases d with
  | list zs =>
    simp only [mExtend] at ho
    split at ho
    · rename_i hz
      cases ho
      cases hd with
      | lst hp hz' => exact ⟨l, _, vs, _, rfl, rfl, hl, s _ _ hp, by rw [hs.length, hz'.length]; exact hz, k _ (hs.append hz') _⟩
    · cases ho
  | _ => cases ho
/-- xs.append(e), xs a name -/
theorem ds_app {x : Str} {p apos cpos : Pos} (i : Nat) (he : DE X e fa) (hx : PE X (.Name x p) (tVar i) := by exact pv i)
    (hbase : attributeBase (.Name x p) "append" X.env (eval (.Name x p) X.env) = eval (.Name x p) X.env := by rfl)
    (hfew : ((backTo cpos (starEach [e] X.env)).all (fun x => !x.1) && (backToKw cpos (keywordEach [] X.env)).all (fun x => x.1.isSome)
      && decide ([e].length + ([] : List Keyword).length + (if ([] : List Keyword).isEmpty then 0 else 1) < 30)) = true := by rfl)
    (hline : (apos.endLine == cpos.line) = true := by rfl) (hs : starEach [e] X.env = (false, eval e X.env) :: starEach [] X.env := by rfl) (hplain : (backTo cpos (starEach [] X.env)).any (·.1) = false := by rfl)
    (hsw : swapsWith (.Call (.Attribute (.Name x p) "append" apos) [e] [] cpos) none pos.line X.env = pure false := by rfl) : DS X (.Expr (.Call (.Attribute (.Name x p) "append" apos) [e] [] cpos) pos) (fsMut mAppend i fa) :=
  PS.imp (ps_expr (pe_bm PySem.F.plainAttrs_list PySem.F.slot_list_append PySem.F.type_list_append mt_append hx (pa_cons he pa_nil hs) hbase hfew hline hs hplain) hsw) (mut_imp mut_append)
theorem ds_ext {x : Str} {p apos cpos : Pos} (i : Nat) (he : DE X e fa) (hx : PE X (.Name x p) (tVar i) := by exact pv i)
    (hbase : attributeBase (.Name x p) "extend" X.env (eval (.Name x p) X.env) = eval (.Name x p) X.env := by rfl)
    (hfew : ((backTo cpos (starEach [e] X.env)).all (fun x => !x.1) && (backToKw cpos (keywordEach [] X.env)).all (fun x => x.1.isSome)
      && decide ([e].length + ([] : List Keyword).length + (if ([] : List Keyword).isEmpty then 0 else 1) < 30)) = true := by rfl)
    (hline : (apos.endLine == cpos.line) = true := by rfl) (hs : starEach [e] X.env = (false, eval e X.env) :: starEach [] X.env := by rfl) (hplain : (backTo cpos (starEach [] X.env)).any (·.1) = false := by rfl)
    (hsw : swapsWith (.Call (.Attribute (.Name x p) "extend" apos) [e] [] cpos) none pos.line X.env = pure false := by rfl) : DS X (.Expr (.Call (.Attribute (.Name x p) "extend" apos) [e] [] cpos) pos) (fsMut mExtend i fa) :=
  PS.imp (ps_expr (pe_bm PySem.F.plainAttrs_list PySem.F.slot_list_extend PySem.F.type_list_extend mt_extend hx (pa_cons he pa_nil hs) hbase hfew hline hs hplain) hsw) (mut_imp mut_extend)
/-- xs[k] = e, xs a name -/
theorem ds_put {x : Str} {p tpos : Pos} {ke : Expr} {fk : FE} (i : Nat) (hk : DE X ke fk) (he : DE X e fa) (hx : PE X (.Name x p) (tVar i) := by exact pv i)
    (ha : ∀ v, assign (.Subscript (.Name x p) ke tpos) X.env v = (do
      let ov ← holding [v] (eval (.Name x p) X.env)
      let iv ← holding [v, ov] (eval ke X.env)
      standAt tpos
      holding [v, ov, iv] (setItem ov iv v)
      release [v, ov, iv] []) := by intro _; rfl)
    (hs : swapsWithSole [.Subscript (.Name x p) ke tpos] e pos.line X.env = pure false := by rfl) (hw : swappedStores [.Subscript (.Name x p) ke tpos] e X.env = pure none := by rfl)
    (h1 : (assignEach [.Subscript (.Name x p) ke tpos] X.env).map (·.2) = [assign (.Subscript (.Name x p) ke tpos) X.env] := by rfl) : DS X (.Assign [.Subscript (.Name x p) ke tpos] e pos) (fsPut i fk fa) := PS.imp (ps_asg he (pg_sub hx hk set_list ha) hs hw h1) fun D σ H h => by
  obtain ⟨F, env, out, rep, e, k⟩ := h
  simp only [fsPut, Option.bind_eq_some_iff] at e
  obtain ⟨⟨r1, e1⟩, h1, ⟨d, e2⟩, h2, h3⟩ := e
  refine ⟨F, env, r1, e1, rep, h1, fun v F1 H1 g1 rep1 ok1 => ?_⟩
  obtain ⟨F2, g2, rep2, hd⟩ := ok1.frz g1 rep1 h2
  simp only at h3
  split at h3
  · rename_i c0 ds0 hds0
    obtain ⟨l, vs0, hv, _, _, _⟩ := rep2.own i c0 ds0 hds0
    simp only [Option.bind_eq_some_iff] at h3
    obtain ⟨⟨r3, e3⟩, h4, h5⟩ := h3
    refine ⟨_, hv, F2, e2, r3, e3, rep2, h4, fun w F3 H3 g3 rep3 ok3 => ?_⟩
    split at h5
    · rename_i r' e' kk c ds hr' hds
      simp only at hr' hds
      simp only [Option.map_eq_some_iff] at h5
      obtain ⟨j, h6, h7⟩ := h5
      cases h7
      subst hr'
      obtain ⟨l', vs, q1, q2, q3, q4⟩ := rep3.own i c ds hds
      rw [hv] at q1
      cases q1
      have hw : w = .int kk := by
        cases ok3 with
        | dat hd => cases hd; rfl
      subst hw
      obtain ⟨rep4, g4⟩ := own_mut rep3 hds hv q2 q3 (q4.set j (hd.mono g3.fz))
      exact ⟨l, vs, kk, j, rfl, rfl, q3, by rw [q4.length]; exact h6, k σ F3 _ ((g2.trans g3).trans g4) rep4⟩
    · cases h5
  · cases h3
end
end DL

/-! DL4: what is walked, loops, comprehensions, defs. -/
namespace DL
open PySem PySem.Spec PyProof.Rows L2

/-- an iterator that gives out the data xs while F stands -/
def WalkD (J : It) (F : Hp) (xs : List PyData) : Prop := ∀ (i : Nat) (F1 H1 : Hp), Same F F1 → Same F1 H1 →
  (∀ d, xs[i]? = some d → J.go i H1 ∧ ∀ x H', J.yld i H1 x H' → ∃ F', Ext F1 H1 F' H' ∧ HD F' x d) ∧ (i = xs.length → J.stop i H1)
def tDI (f : FI) : TI := fun σ H R => ∃ F env xs env', Rep F H σ env ∧ f env = some (xs, env') ∧
  ∀ J F' H', Go F H (OwA σ env) F' H' (OwA σ env') → Rep F' H' σ env' → WalkD J F' xs → R J H'
abbrev DI (X : Cx) (tg it : Expr) (f : FI) : Prop := PI X tg it (tDI f)

theorem drop_cons {α : Type} : ∀ {l : List α} {i : Nat} {x : α}, l[i]? = some x → l.drop i = x :: l.drop (i + 1)
  | [], i, x, h => by simp at h
  | y :: r, 0, x, h => by
    have e : y = x := by simpa using h
    subst e
    rfl
  | y :: r, i + 1, x, h => by
    show r.drop i = x :: r.drop (i + 1)
    exact drop_cons (by simpa using h)
section
variable {X : Cx} {vs us : List Nat} {it : FI} {g : FG} {b : FS} {t : FT} {fe : FE}
theorem for_imp (D : Ends) (σ : L2.St) (H : Hp) (h : tS (fsFor vs it g b) D σ H) : tFor (tDI it) (tG us g) (tS b) D σ H := by
  obtain ⟨F, env, out, rep, e, k⟩ := h
  simp only [fsFor, Option.bind_eq_some_iff] at e
  obtain ⟨⟨xs, e1⟩, h1, h2⟩ := e
  refine ⟨F, env, xs, e1, rep, h1, fun J F' H' g' rep' wk => ?_⟩
  refine ⟨fun i m σi Hi => m = xs.length - i ∧ i ≤ xs.length ∧ ∃ Fi ei, Rep Fi Hi σi ei ∧ Go F H (OwA σ env) Fi Hi (OwA σi ei) ∧ Same F' Fi ∧ forD (stepD vs g b) (xs.drop i) ei = some out,
    ⟨xs.length, rfl, Nat.zero_le _, F', kill e1 vs, rep'.kill, g'.sub_own own_kill, .refl _, h2⟩, ?_⟩
  rintro i m σi Hi ⟨rfl, hi, Fi, ei, repi, gi, si, hf⟩
  obtain ⟨w1, w2⟩ := wk i Fi Hi si repi.sub
  by_cases hlt : i < xs.length
  · have hx : xs[i]? = some xs[i] := List.getElem?_eq_getElem hlt
    obtain ⟨hgo, hy⟩ := w1 _ hx
    refine .inr ⟨hgo, fun σ' H' => ∃ Fi ei, Rep Fi H' σ' ei ∧ Go F H (OwA σ env) Fi H' (OwA σ' ei) ∧ Same F' Fi ∧ forD (stepD vs g b) (xs.drop (i + 1)) ei = some out,
      fun σ' H' p' => ⟨xs.length - (i + 1), by omega, rfl, hlt, p'⟩, fun x H2 yy => ?_⟩
    obtain ⟨F2, ex, hd⟩ := hy x H2 yy
    rw [drop_cons hx, forD] at hf
    simp only [Option.bind_eq_some_iff, stepD] at hf
    obtain ⟨o, ⟨e2, q1, q2⟩, q3⟩ := hf
    simp only [Option.map_eq_some_iff] at q2
    obtain ⟨o', q4, q5⟩ := q2
    refine ⟨F2, ei, _, e2, repi.ext ex, hd, q1, fun σ2 rep2 o2 _ _ => ⟨F2, e2, o', rep2, q4, ?_⟩⟩
    have g2 : Go F H (OwA σ env) F2 H2 (OwA σ2 e2) := (gi.trans (.of_ext ex)).sub_own o2
    have s2 : Same F' F2 := si.trans ex.fz
    cases o' with
    | nx e3 =>
      subst q5
      exact fun σ3 F3 H3 g3 rep3 => ⟨F3, kill e3 vs, rep3.kill, (g2.trans g3).sub_own own_kill, s2.trans g3.fz, q3⟩
    | ct e3 =>
      subst q5
      exact fun σ3 F3 H3 g3 rep3 => ⟨F3, kill e3 vs, rep3.kill, (g2.trans g3).sub_own own_kill, s2.trans g3.fz, q3⟩
    | bk e3 =>
      subst q5
      cases q3
      exact fun σ3 F3 H3 g3 rep3 => k σ3 F3 H3 ((g2.trans g3).sub_own own_kill) rep3.kill
    | rt r e3 =>
      subst q5
      cases q3
      exact fun v σ3 F3 H3 g3 rep3 ok3 => k v σ3 F3 H3 (g2.trans g3) rep3 (ok3.from g2.dom)
  · have e0 : i = xs.length := by omega
    subst e0
    rw [List.drop_length] at hf
    cases hf
    exact .inl ⟨w2 rfl, k σi Fi Hi gi repi⟩
theorem ds_for {iter tg : Expr} {body : List Stmt} {pos : Pos} (vs : List Nat) (hp : PassesOwn (model X.prog X.w) X.A X.env X.xe) (hc : X.calm = true) (hi : DI X tg iter it) (hg : DG X tg us g) (hb : DB X body b)
    (hs : ∀ x, foldedSetIterable iter X.env x = pure x := by intro _; rfl) : DS X (.For tg iter body [] pos) (fsFor vs it g b) := PS.imp (ps_for hp hc hi hg hb hs) for_imp
/-- while, with n turns at most -/
theorem while_imp (n : Nat) (D : Ends) (σ : L2.St) (H : Hp) (h : tS (fsWhile n t b) D σ H) : tWhile (tDT t) (tS b) D σ H := by
  obtain ⟨F, env, out, rep, e, k⟩ := h
  refine ⟨fun m σi Hi => ∃ Fi ei, Rep Fi Hi σi ei ∧ Go F H (OwA σ env) Fi Hi (OwA σi ei) ∧ whileD t b m ei = some out, ⟨n, F, env, rep, .refl, e⟩, ?_⟩
  rintro m σi Hi ⟨Fi, ei, repi, gi, hw⟩
  cases m with
  | zero => cases hw
  | succ m =>
    simp only [whileD, Option.bind_eq_some_iff] at hw
    obtain ⟨⟨c, e1⟩, h1, h2⟩ := hw
    refine ⟨Fi, ei, c, e1, repi, h1, fun F1 H1 g1 rep1 => ?_⟩
    cases c with
    | true =>
      rw [if_pos rfl] at h2 ⊢
      simp only [Option.bind_eq_some_iff] at h2
      obtain ⟨o, h3, h4⟩ := h2
      have g2 := gi.trans g1
      refine ⟨fun σ' H' => ∃ Fi ei, Rep Fi H' σ' ei ∧ Go F H (OwA σ env) Fi H' (OwA σ' ei) ∧ whileD t b m ei = some out, fun σ' H' p => ⟨m, Nat.lt_succ_self _, p⟩, F1, e1, o, rep1, h3, ?_⟩
      cases o with
      | nx e3 => exact fun σ3 F3 H3 g3 rep3 => ⟨F3, e3, rep3, g2.trans g3, h4⟩
      | ct e3 => exact fun σ3 F3 H3 g3 rep3 => ⟨F3, e3, rep3, g2.trans g3, h4⟩
      | bk e3 =>
        cases h4
        exact fun σ3 F3 H3 g3 rep3 => k σ3 F3 H3 (g2.trans g3) rep3
      | rt r e3 =>
        cases h4
        exact fun v σ3 F3 H3 g3 rep3 ok3 => k v σ3 F3 H3 (g2.trans g3) rep3 (ok3.from g2.dom)
    | false =>
      rw [if_neg (by simp)] at h2 ⊢
      cases h2
      exact k σi F1 H1 (gi.trans g1) rep1
theorem ds_while (n : Nat) {c : Expr} {body : List Stmt} {pos : Pos} (hp : PassesOwn (model X.prog X.w) X.A X.env X.xe) (hc : DT X c t) (hb : DB X body b) : DS X (.While c body [] pos) (fsWhile n t b) := PS.imp (ps_while hp hc hb) (while_imp n)

/-! ### comprehensions -/
theorem wipe_get {σ : L2.St} : ∀ {vs : List Nat} {j : Nat}, j ∉ vs → (wipe σ vs)[j]? = σ[j]?
  | [], _, _ => rfl
  | v :: vs, j, h => by
    simp only [List.mem_cons, not_or] at h
    unfold wipe
    rw [List.getElem?_set_ne (fun z => h.1 z.symm)]
    exact wipe_get h.2
theorem wipe_in {σ : L2.St} : ∀ {vs : List Nat} {j : Nat} (hj : j < σ.length), j ∈ vs → (wipe σ vs)[j]? = some none
  | v :: vs, j, hl, h => by
    unfold wipe
    by_cases e : v = j
    · subst e
      rw [List.getElem?_set_self (by rw [wipe_length]; exact hl)]
    · rw [List.getElem?_set_ne e]
      simp only [List.mem_cons] at h
      exact wipe_in hl (h.resolve_left fun z => e z.symm)
theorem wipe_ext {σ σ' : L2.St} {vs : List Nat} (hl : σ'.length = σ.length) (h : ∀ j, j ∉ vs → σ'[j]? = σ[j]?) : wipe σ' vs = wipe σ vs := by
  apply List.ext_getElem?
  intro j
  by_cases hj : j ∈ vs
  · by_cases hjl : j < σ.length
    · rw [wipe_in hjl hj, wipe_in (by rw [hl]; exact hjl) hj]
    · rw [List.getElem?_eq_none (by rw [wipe_length, hl]; omega), List.getElem?_eq_none (by rw [wipe_length]; omega)]
  · rw [wipe_get hj, wipe_get hj]
    exact h j hj
theorem wipe_wipe {σ : L2.St} {vs : List Nat} : wipe (wipe σ vs) vs = wipe σ vs := wipe_ext (wipe_length _ _) fun j hj => wipe_get hj
/-- the frame within a comprehension -/
theorem Rep.wipe {F H : Hp} {σ : L2.St} {env : Env} (rep : Rep F H σ env) : Rep F H (L2.wipe σ vs) (DL.kill env vs) ∧ OwLe (OwA (L2.wipe σ vs) (DL.kill env vs)) (OwA σ env) := by
  refine ⟨⟨rep.sub, by rw [kill_length, wipe_length]; exact rep.len, fun j d hj => ?_, fun j d hj => ?_, fun j c d hj => ?_, fun j j' c c' ds es a h h' w w' => ?_⟩, fun b h => ?_, fun b h => ?_⟩
  · obtain ⟨h1, h2⟩ := kill_some (by simp) hj
    rw [wipe_get h2]
    exact rep.dat j d h1
  · obtain ⟨h1, h2⟩ := kill_some (by simp) hj
    rw [wipe_get h2]
    exact rep.ob j d h1
  · obtain ⟨h1, h2⟩ := kill_some (by simp) hj
    rw [wipe_get h2]
    exact rep.own j c d h1
  · obtain ⟨h1, h2⟩ := kill_some (by simp) h
    obtain ⟨h1', h2'⟩ := kill_some (by simp) h'
    rw [wipe_get h2] at w
    rw [wipe_get h2'] at w'
    exact rep.ne j j' c c' ds es a h1 h1' w w'
  · obtain ⟨j, c, ds, h1, h2⟩ := h
    obtain ⟨h3, h4⟩ := kill_some (by simp) h1
    rw [wipe_get h4] at h2
    exact ⟨j, c, ds, h3, h2⟩
  · obtain ⟨j, ds, h1, h2⟩ := h
    obtain ⟨h3, h4⟩ := kill_some (by simp) h1
    rw [wipe_get h4] at h2
    exact ⟨j, ds, h3, h2⟩
theorem back_length {old : Env} : ∀ {vs : List Nat} {env : Env}, (back old env vs).length = env.length
  | [], _ => rfl
  | i :: r, env => by
    show (back old (match old[i]? with
      | some (.own _ _) => env.set i .dead
      | some s => env.set i s
      | none => env) r).length = _
    rw [back_length (vs := r)]
    split <;> simp
/-- a slot that is given back: as it is, or as it was (no list of one's own) -/
theorem back_some {old : Env} {s : Sl} : ∀ {vs : List Nat} {env : Env} {j : Nat}, (∀ i ∈ vs, env[i]? = some .dead ∨ env[i]? = none ∨ True) → (back old env vs)[j]? = some s → (j ∉ vs ∧ env[j]? = some s) ∨ (j ∈ vs ∧ (s = .dead ∨ (old[j]? = some s ∧ ∀ c ds, s ≠ .own c ds))) ∨ (j ∈ vs ∧ old[j]? = none ∧ env[j]? = some s)
  | [], env, j, _, h => .inl ⟨by simp, h⟩
  | i :: r, env, j, hh, h => by
    have h' : (back old (match old[i]? with
      | some (.own _ _) => env.set i .dead
      | some s => env.set i s
      | none => env) r)[j]? = some s := h
    have ih := back_some (vs := r) (fun _ _ => .inr (.inr trivial)) h'
    by_cases hij : j = i
    · subst hij
      rcases ih with ⟨n1, q⟩ | ⟨n1, q⟩ | ⟨n1, q, q2⟩
      · split at q
        · rcases set_cases q with ⟨_, z⟩ | ⟨z, _⟩
          · exact .inr (.inl ⟨by simp, .inl z⟩)
          · exact absurd rfl z
        · rename_i s' hs' hn
          rcases set_cases q with ⟨_, z⟩ | ⟨z, _⟩
          · subst z
            exact .inr (.inl ⟨by simp, .inr ⟨hn, fun c ds e => hs' c ds e⟩⟩)
          · exact absurd rfl z
        · rename_i hn
          exact .inr (.inr ⟨by simp, hn, q⟩)
      · exact .inr (.inl ⟨by simp, q⟩)
      · rw [q] at q2
        exact .inr (.inr ⟨by simp, q, q2⟩)
    · have same : (match old[i]? with
        | some (.own _ _) => env.set i .dead
        | some s => env.set i s
        | none => env)[j]? = env[j]? := by
        split <;> first | rfl | exact List.getElem?_set_ne fun z => hij z.symm
      rcases ih with ⟨n1, q⟩ | ⟨n1, q⟩ | ⟨n1, q, q2⟩
      · rw [same] at q
        exact .inl ⟨by simp [hij, n1], q⟩
      · exact .inr (.inl ⟨by simp [n1], q⟩)
      · rw [same] at q2
        exact .inr (.inr ⟨by simp [n1], q, q2⟩)
/-- the frame behind a comprehension -/
theorem Rep.back {F F' H H' : Hp} {σ : L2.St} {env e1 : Env} (rep : Rep F H σ env) (sm : Same F F') (rep' : Rep F' H' (L2.wipe σ vs) e1) : Rep F' H' σ (DL.back env e1 vs) ∧ OwLe (OwA σ (DL.back env e1 vs)) (OwA (L2.wipe σ vs) e1) := by
  have lenE : e1.length = env.length := by rw [rep'.len, wipe_length, rep.len]
  have none_lt : ∀ {j : Nat} {s : Sl}, env[j]? = none → e1[j]? = some s → False := fun {j s} h h' => by
    have a1 := List.getElem?_eq_none_iff.mp h
    have a2 := (List.getElem?_eq_some_iff.mp h').1
    omega
  have cs : ∀ {j : Nat} {s : Sl}, (DL.back env e1 vs)[j]? = some s → s ≠ .dead → (j ∉ vs ∧ e1[j]? = some s) ∨ (j ∈ vs ∧ env[j]? = some s ∧ ∀ c ds, s ≠ .own c ds) := fun {j s} h hs => by
    rcases back_some (fun _ _ => .inr (.inr trivial)) h with q | ⟨q1, q2⟩ | ⟨q1, q2, q3⟩
    · exact .inl q
    · exact .inr ⟨q1, q2.resolve_left hs⟩
    · exact (none_lt q2 q3).elim
  refine ⟨⟨rep'.sub, by rw [back_length, lenE, rep.len], fun j d hj => ?_, fun j d hj => ?_, fun j c d hj => ?_, fun j j' c c' ds es a h h' w w' => ?_⟩, fun b h => ?_, fun b h => ?_⟩
  · rcases cs hj (by simp) with ⟨n1, q⟩ | ⟨n1, q, _⟩
    · have := rep'.dat j d q
      rw [wipe_get n1] at this
      exact this
    · obtain ⟨v, q1, q2⟩ := rep.dat j d q
      exact ⟨v, q1, q2.mono sm⟩
  · rcases cs hj (by simp) with ⟨n1, q⟩ | ⟨n1, q, _⟩
    · have := rep'.ob j d q
      rw [wipe_get n1] at this
      exact this
    · obtain ⟨v, q1, q2⟩ := rep.ob j d q
      exact ⟨v, q1, q2.mono sm⟩
  · rcases cs hj (by simp) with ⟨n1, q⟩ | ⟨n1, q, z⟩
    · have := rep'.own j c d q
      rw [wipe_get n1] at this
      exact this
    · exact absurd rfl (z c d)
  · rcases cs h (by simp) with ⟨n1, q⟩ | ⟨n1, q, z⟩
    · rcases cs h' (by simp) with ⟨n2, q'⟩ | ⟨n2, q', z'⟩
      · exact rep'.ne j j' c c' ds es a q q' (by rw [wipe_get n1]; exact w) (by rw [wipe_get n2]; exact w')
      · exact absurd rfl (z' c' es)
    · exact absurd rfl (z c ds)
  · obtain ⟨j, c, ds, h1, h2⟩ := h
    rcases cs h1 (by simp) with ⟨n1, q⟩ | ⟨n1, q, z⟩
    · exact ⟨j, c, ds, q, by rw [wipe_get n1]; exact h2⟩
    · exact absurd rfl (z c ds)
  · obtain ⟨j, ds, h1, h2⟩ := h
    rcases cs h1 (by simp) with ⟨n1, q⟩ | ⟨n1, q, z⟩
    · exact ⟨j, ds, q, by rw [wipe_get n1]; exact h2⟩
    · exact absurd rfl (z true ds)
theorem comp_imp (hu : ∀ j ∈ us, j ∈ vs) (σ : L2.St) (H : Hp) (Q : VK) (h : tD (fComp vs it g t fe) σ H Q) : tLc (tDI it) (tG us g) (tDT t) (tD fe) vs σ H Q := by
  obtain ⟨F, env, r, env', rep, e, k⟩ := h
  simp only [fComp, Option.bind_eq_some_iff, Option.map_eq_some_iff] at e
  obtain ⟨⟨xs, e1⟩, h1, ⟨acc, en⟩, h2, h3⟩ := e
  cases h3
  refine ⟨F, env, xs, e1, rep, h1, fun J F' H' g' rep' wk => fun P hP => ?_⟩
  obtain ⟨repw, ow⟩ := rep'.wipe (vs := vs)
  -- the new list stands apart
  have fP : F' P = none := rep'.sub.free hP
  refine ⟨fun i m Hi => m = xs.length - i ∧ i ≤ xs.length ∧ ∃ Fi ei ai vi, Rep Fi Hi (L2.wipe σ vs) ei ∧ Go F' H' (OwA (L2.wipe σ vs) (kill e1 vs)) Fi Hi (OwA (L2.wipe σ vs) ei) ∧ Fi P = none ∧ Hi P = some (.lst vi) ∧ HDs Fi vi ai ∧ ¬ OwnA (L2.wipe σ vs) ei P ∧
      compD vs g t fe (xs.drop i) ei ai = some (acc, en), ⟨xs.length, rfl, Nat.zero_le _, F', kill e1 vs, [], [], ?_, ?_, fP, upd_same, .nil, ?_, h2⟩, ?_⟩
  · have ex : Ext F' H' F' (upd H' P (.lst [])) := ⟨.refl _, rep'.sub.trans (same_new hP), same_new hP, fun _ z => .inl z⟩
    exact repw.ext ex
  · exact .of_ext ⟨.refl _, rep'.sub.trans (same_new hP), same_new hP, fun _ z => .inl z⟩
  · rintro ⟨j, c, ds, q1, q2⟩
    obtain ⟨a, ws, w1, w2, w3, w4⟩ := repw.own j c ds q1
    rw [q2] at w1
    cases w1
    rw [hP] at w3
    cases w3
  rintro i m Hi ⟨rfl, hi, Fi, ei, ai, vi, repi, gi, fi, li, hs, no, hf⟩
  obtain ⟨w1, w2⟩ := wk i Fi Hi gi.fz repi.sub
  by_cases hlt : i < xs.length
  · have hx : xs[i]? = some xs[i] := List.getElem?_eq_getElem hlt
    obtain ⟨hgo, hy⟩ := w1 _ hx
    refine .inr ⟨hgo, fun Hi => ∃ Fi ei ai vi, Rep Fi Hi (L2.wipe σ vs) ei ∧ Go F' H' (OwA (L2.wipe σ vs) (kill e1 vs)) Fi Hi (OwA (L2.wipe σ vs) ei) ∧ Fi P = none ∧ Hi P = some (.lst vi) ∧ HDs Fi vi ai ∧ ¬ OwnA (L2.wipe σ vs) ei P ∧
      compD vs g t fe (xs.drop (i + 1)) ei ai = some (acc, en), fun Hi p => ⟨xs.length - (i + 1), by omega, rfl, hlt, p⟩, fun x H2 yy => ?_⟩
    obtain ⟨F2, ex, hd⟩ := hy x H2 yy
    rw [drop_cons hx, compD] at hf
    simp only [Option.bind_eq_some_iff] at hf
    obtain ⟨e2, q1, ⟨c, e3⟩, q2, q3⟩ := hf
    have repk : Rep F2 H2 (L2.wipe σ vs) ei := repi.ext ex
    have gk : Go F' H' (OwA (L2.wipe σ vs) (kill e1 vs)) F2 H2 (OwA (L2.wipe σ vs) ei) := gi.trans (.of_ext ex)
    refine ⟨F2, ei, _, e2, repk, hd, q1, fun σ2 rep2 o2 l2 k2 => ?_⟩
    have e4 : wipe σ2 vs = wipe σ vs := by
      have e5 : wipe σ2 vs = wipe (wipe σ vs) vs := wipe_ext l2 fun j hj => k2 j fun z => hj (hu j z)
      rw [e5, wipe_wipe]
    refine ⟨e4, ?_⟩
    have g2 : Go F' H' (OwA (L2.wipe σ vs) (kill e1 vs)) F2 H2 (OwA σ2 e2) := gk.sub_own o2
    -- P through the turn
    have P2 : F2 P = none ∧ H2 P = some (.lst vi) ∧ HDs F2 vi ai ∧ ¬ OwnA σ2 e2 P := by
      refine ⟨?_, ex.hs _ _ li, hs.mono ex.fz, fun z => no (o2.1 _ z)⟩
      cases q : F2 P with
      | none => rfl
      | some o =>
        rcases ex.fresh P (by rw [q]; simp) with z | z
        · exact absurd fi z
        · exact (z.no li fun _ e => nomatch e).elim
    have along : ∀ {F3 H3 : Hp} {ea : Env}, Go F2 H2 (OwA σ2 e2) F3 H3 (OwA σ2 ea) → F3 P = none ∧ H3 P = some (.lst vi) ∧ HDs F3 vi ai ∧ ¬ OwnA σ2 ea P := fun {F3 H3 ea} g3 => by
      obtain ⟨p1, p2, p3, p4⟩ := P2
      refine ⟨?_, g3.frame _ _ p4 p2, p3.mono g3.fz, fun z => ?_⟩
      · cases q : F3 P with
        | none => rfl
        | some o =>
          rcases g3.fresh P (by rw [q]; simp) with z | z | z
          · exact absurd p1 z
          · exact (z.no p2 fun _ e => nomatch e).elim
          · exact absurd z p4
      · rcases g3.own P z with q | q
        · exact p4 q
        · rw [p2] at q; cases q
    -- back to the block's own slots
    have toW : ∀ {F3 H3 : Hp} {ea : Env}, Rep F3 H3 σ2 ea → Rep F3 H3 (L2.wipe σ vs) (kill ea vs) ∧ OwLe (OwA (L2.wipe σ vs) (kill ea vs)) (OwA σ2 ea) := fun {F3 H3 ea} rep3 => by
      have q := rep3.wipe (vs := vs)
      rw [e4] at q
      exact q
    refine ⟨F2, e2, c, e3, rep2, q2, fun F3 H3 g3 rep3 => ?_⟩
    cases c with
    | false =>
      rw [if_neg (by simp)] at q3 ⊢
      obtain ⟨p1, p2, p3, p4⟩ := along g3
      obtain ⟨r1, r2⟩ := toW rep3
      exact ⟨F3, kill e3 vs, ai, vi, r1, (g2.trans g3).sub_own r2, p1, p2, p3, fun z => p4 (r2.1 _ z), q3⟩
    | true =>
      rw [if_pos rfl] at q3 ⊢
      simp only [Option.bind_eq_some_iff] at q3
      obtain ⟨⟨r5, e5⟩, q4, ⟨d6, e6⟩, q5, q6⟩ := q3
      refine ⟨F3, e3, r5, e5, rep3, q4, fun v F4 H4 g4 rep4 ok4 => ?_⟩
      have ok5 : RsOk F4 H4 H2 σ2 e5 v r5 := ok4.from g3.dom
      obtain ⟨F5, g5, rep5, hd5⟩ := ok5.frz (g3.trans g4) rep4 q5
      obtain ⟨p1, p2, p3, p4⟩ := along g5
      split at q6
      · rename_i hz
        refine ⟨vi, p2, by rw [p3.length]; exact hz, F5, kill e6 vs, ai ++ [d6], vi ++ [v], ?_⟩
        obtain ⟨r1, r2⟩ := toW rep5
        have p4' : ¬ OwnA (L2.wipe σ vs) (kill e6 vs) P := fun z => p4 (r2.1 _ z)
        have sub : Same F5 (upd H4 P (.lst (vi ++ [v]))) := fun b o e => by
          rw [upd_ne (ne_of_none e p1)]
          exact rep5.sub b o e
        have g6 : Go F' H' (OwA (L2.wipe σ vs) (kill e1 vs)) F5 H4 (OwA (L2.wipe σ vs) (kill e6 vs)) := (g2.trans g5).sub_own r2
        have no' : ¬ OwnA (L2.wipe σ vs) (kill e1 vs) P := fun z => by
          obtain ⟨j, c, ds, w1, w2⟩ := z
          obtain ⟨a, ws, z1, z2, z3, z4⟩ := repw.own j c ds w1
          rw [w2] at z1
          cases z1
          rw [hP] at z3
          cases z3
        refine ⟨⟨sub, r1.len, r1.dat, r1.ob, fun j c ds hj => ?_, r1.ne⟩, ⟨g6.fz, fun b o n e => ?_, fun b e => ?_, g6.fresh, g6.own, g6.bor⟩, p1, upd_same, p3.append (.cons hd5 .nil), p4', q6⟩
        · obtain ⟨a, ws, z1, z2, z3, z4⟩ := r1.own j c ds hj
          refine ⟨a, ws, z1, z2, ?_, z4⟩
          rw [upd_ne (fun z => p4' (by subst z; exact ⟨j, c, ds, hj, z1⟩))]
          exact z3
        · rw [upd_ne (ne_of_none e hP)]
          exact g6.frame b o n e
        · by_cases hb : b = P
          · rw [hb]; exact hP
          · rw [upd_ne hb] at e
            exact g6.dom b e
      · cases q6
  · have e0 : i = xs.length := by omega
    subst e0
    rw [List.drop_length] at hf
    cases hf
    obtain ⟨r1, r2⟩ := rep'.back gi.fz repi
    refine .inl ⟨w2 rfl, ?_⟩
    have gf : Go F' H' (OwA σ e1) Fi Hi (OwA σ (back e1 en vs)) := by
      refine ⟨gi.fz, fun b o n e => gi.frame b o (fun z => n (ow.1 b z)) e, gi.dom, fun b e => (gi.fresh b e).elim .inl fun z => z.elim (fun q => .inr (.inl q)) fun q => .inr (.inr (ow.1 b q)), fun b z => (gi.own b (r2.1 b z)).elim (fun q => .inl (ow.1 b q)) .inr, fun b z => ow.2 b (gi.bor b (r2.2 b z))⟩
    exact k (.ref P) Fi Hi (g'.trans gf) r1 (.new rfl (g'.dom P hP) fi li hs fun z => no (r2.1 _ z))
theorem de_comp {elt tg iter : Expr} {ifs : List Expr} {scope : Scope} {pos : Pos} (own : List (Str × Nat)) (hc : X.calm = true) (hN : X.N.Nodup) (hi : DI X tg iter it) (ok : BlkOk X.N X.env.scope scope own) (hu : ∀ j ∈ us, j ∈ own.map (·.2))
    (hg : ∀ (s : Shared) (H : Hp) (C : Addr) (cl : List (Str × Addr)) (fp : List Addr), DG (X.blk s H scope (compEnvC scope cl C X.env) fp) tg us g) (ht : ∀ (s : Shared) (H : Hp) (C : Addr) (cl : List (Str × Addr)) (fp : List Addr), PTs (X.blk s H scope (compEnvC scope cl C X.env) fp) ifs (tDT t))
    (he : ∀ (s : Shared) (H : Hp) (C : Addr) (cl : List (Str × Addr)) (fp : List Addr), DE (X.blk s H scope (compEnvC scope cl C X.env) fp) elt fe) (hs : ∀ x, foldedSetIterable iter X.env x = pure x := by intro _; rfl) :
    DE X (.ListComp elt [⟨tg, iter, ifs, 0⟩] scope pos) (fComp (own.map (·.2)) it g t fe) := PE.imp (pe_lc hc hN hi ok hg ht he hs) (comp_imp hu)
theorem ds_comp {i : Nat} {y : Str} {py : Pos} {elt tg iter : Expr} {ifs : List Expr} {scope : Scope} {pos spos : Pos} (own : List (Str × Nat)) (hc : X.calm = true) (hN : X.N.Nodup) (hi : DI X tg iter it) (ok : BlkOk X.N X.env.scope scope own) (hu : ∀ j ∈ us, j ∈ own.map (·.2))
    (hg : ∀ (s : Shared) (H : Hp) (C : Addr) (cl : List (Str × Addr)) (fp : List Addr), DG (X.blk s H scope (compEnvC scope cl C X.env) fp) tg us g) (ht : ∀ (s : Shared) (H : Hp) (C : Addr) (cl : List (Str × Addr)) (fp : List Addr), PTs (X.blk s H scope (compEnvC scope cl C X.env) fp) ifs (tDT t))
    (he : ∀ (s : Shared) (H : Hp) (C : Addr) (cl : List (Str × Addr)) (fp : List Addr), DE (X.blk s H scope (compEnvC scope cl C X.env) fp) elt fe) (hs : ∀ x, foldedSetIterable iter X.env x = pure x := by intro _; rfl)
    (hy : X.N[i]? = some y := by rfl) (hyl : X.env.scope.names.lookup y = some .local := by rfl) (hsw : swapsWith (.ListComp elt [⟨tg, iter, ifs, 0⟩] scope pos) (some (.Name y py)) spos.line X.env = pure true := by exact sw_true rfl rfl rfl (by decide +kernel)) :
    DS X (.Assign [.Name y py] (.ListComp elt [⟨tg, iter, ifs, 0⟩] scope pos) spos) (fsName (fComp (own.map (·.2)) it g t fe) i) := PS.imp (ps_setLc hc hN hy hyl hsw hi ok hg ht he hs) fun D σ H h => comp_imp hu σ H _ (name_imp D σ H h)
theorem pts_yes {X : Cx} : PTs X [] (tDT ftYes) := ⟨fun pins s σ H Q I h => pts_nil.run pins s σ H Q I (by
  obtain ⟨F, env, r, env', rep, e, k⟩ := h
  cases e
  exact k F H .refl rep)⟩
theorem pts_t {X : Cx} {c : Expr} {t : FT} (h : DT X c t) : PTs X [c] (tDT t) := pts_one h
end

/-! ### defs -/
section
variable {P : Program} {w : World} {K : PySem.W.Frag} {mg : Str → Option Value} {base : Heap}
theorem rep_start {F H : Hp} {N : List Str} {vs : List V} {ds : List PyData} (s : Same F H) (h : HDs F vs ds) : Rep F H (L2.start N vs) (ds.map .dat ++ List.replicate (N.length - ds.length) .dead) := by
  have hl := h.length
  have noown : ∀ (j : Nat) (s : Sl), (ds.map Sl.dat ++ List.replicate (N.length - ds.length) .dead)[j]? = some s → (∃ d, ds[j]? = some d ∧ s = .dat d) ∨ s = .dead := fun j s e => by
    by_cases hj : j < ds.length
    · rw [List.getElem?_append_left (by simpa using hj), List.getElem?_map] at e
      rw [List.getElem?_eq_getElem hj] at e ⊢
      cases e
      exact .inl ⟨_, rfl, rfl⟩
    · rw [List.getElem?_append_right (by simpa using hj), List.getElem?_replicate] at e
      split at e
      · cases e; exact .inr rfl
      · cases e
  refine ⟨s, ?_, fun j d hj => ?_, fun j d hj => ?_, fun j c d hj => ?_, fun j j' c c' es es' a h1 => ?_⟩
  · simp [L2.start, hl]
  · rcases noown j _ hj with ⟨d', q, e⟩ | e
    · cases e
      obtain ⟨v, q1, q2⟩ := h.get q
      refine ⟨v, ?_, q2⟩
      unfold L2.start
      have hj' : j < vs.length := (List.getElem?_eq_some_iff.mp q1).1
      rw [List.getElem?_append_left (by simpa using hj'), List.getElem?_map, q1]
      rfl
    · cases e
  · rcases noown j _ hj with ⟨d', q, e⟩ | e <;> cases e
  · rcases noown j _ hj with ⟨d', q, e⟩ | e <;> cases e
  · rcases noown j _ h1 with ⟨d', q, e⟩ | e <;> cases e
theorem own_start {N : List Str} {vs : List V} {ds : List PyData} {n : Nat} (b : Addr) : ¬ OwnA (L2.start N vs) (ds.map .dat ++ List.replicate n .dead) b := by
  rintro ⟨j, c, es, h, _⟩
  by_cases hj : j < ds.length
  · rw [List.getElem?_append_left (by simpa using hj), List.getElem?_map, List.getElem?_eq_getElem hj] at h
    cases h
  · rw [List.getElem?_append_right (by simpa using hj), List.getElem?_replicate] at h
    split at h <;> cases h
/-- what leaves the def, at call level -/
theorem res_out {F F' H H' : Hp} {O : Ow} {σ : L2.St} {env : Env} {v : V} {r r' : Rs} (g : Go F H O F' H' (OwA σ env)) (rep : Rep F' H' σ env) (ok : RsOk F' H' H σ env v r) (e : resOf env r = some r') (hO : ∀ (i : Nat) a ds, env[i]? = some (.own false ds) → σ[i]? = some (some (.ref a)) → ¬ O.own a) : ResOk F' H' H v r' := by
  cases ok with
  | dat h => cases e; exact .dat h
  | ob h => cases e; exact .ob h
  | new e1 h0 h1 h2 hs h3 => cases e; exact .new e1 h0 h1 h2 hs
  | own h =>
    rename_i i
    simp only [resOf] at e
    split at e
    · rename_i ds hds
      cases e
      obtain ⟨a, vs, q1, q2, q3, q4⟩ := rep.own i false ds hds
      rw [h] at q1
      cases q1
      rcases g.own a ⟨i, false, ds, hds, h⟩ with z | z
      · exact absurd z (hO i a ds hds h)
      · exact .new rfl z q2 q3 q4
    · rename_i d hd
      cases e
      obtain ⟨w, q1, q2⟩ := rep.dat i d hd
      rw [h] at q1
      cases q1
      exact .dat q2
    · cases e
theorem fn_ok {x qual : Str} {st : Stmt} {f : Addr} {fd : FuncData} {N ps : List Str} {k : Nat} {g : FS} (F : FunD K x qual (defArgs st) (defBody st) (defScope st) [] [] f fd) (S : FnScope N ps (defScope st))
    (hb : ∀ (cdv : Value) (A : Around) (outer : List PySem.Env) (s : Shared) (H : Hp) (E : XK), Room k (A.deeper (envOfC qual (defScope st) s.heap.objs.size f cdv)) → DB (cxOf CX0 P w K mg base N qual (defScope st) f cdv A outer s H E).nox (defBody st) g) :
    FnOk P w K mg base CX0 (k + 1) f fd ps (spD ps.length (runF ps.length N.length g)) := by
  refine F.ok S (fun vs H Q E h => ?_) (fun cdv A outer s H vs Q E hr h => ⟨tS g, PSs.nox (hb cdv A outer s H E hr), ?_⟩)
  · obtain ⟨F, ds, r, _, hs, hn, _⟩ := h
    exact hs.length.trans hn
  · obtain ⟨F, ds, r, sm, hs, hn, e, k⟩ := h
    unfold runF at e
    rw [if_pos hn] at e
    simp only [Option.bind_eq_some_iff, Option.map_eq_some_iff] at e
    obtain ⟨o, q1, ⟨r', e'⟩, q2, q3⟩ := e
    cases q3
    rw [← hn] at q1
    refine ⟨F, _, o, rep_start sm hs, q1, ?_⟩
    have ex : ∀ {F' H' : Hp} {σ' : L2.St} {e' : Env}, Go F H (OwA (L2.start N vs) (ds.map Sl.dat ++ List.replicate (N.length - ds.length) .dead)) F' H' (OwA σ' e') → Rep F' H' σ' e' → Ext F H F' H' := fun g rep =>
      ⟨g.fz, rep.sub, fun b o => g.frame b o (own_start b), fun b hb => (g.fresh b hb).elim .inl fun z => z.elim .inr fun q => absurd q (own_start b)⟩
    cases o with
    | bk _ => cases q2
    | ct _ => cases q2
    | nx e1 =>
      cases q2
      exact fun σ' F' H' g rep => k .non F' H' (ex g rep) (.dat .non)
    | rt r1 e1 =>
      simp only [endOf, Option.map_eq_some_iff] at q2
      obtain ⟨r2, q3, q4⟩ := q2
      cases q4
      exact fun v σ' F' H' g rep ok => k v F' H' (ex g rep) (res_out g rep ok q3 fun i a _ _ _ => own_start a)
theorem fn_okT {x qual : Str} {st : Stmt} {f : Addr} {fd : FuncData} {N ps : List Str} {k : Nat} {g : FS} (F : FunD K x qual (defArgs st) (defBody st) (defScope st) [] [] f fd) (S : FnScope N ps (defScope st))
    (hb : ∀ (cdv : Value) (A : Around) (outer : List PySem.Env) (s : Shared) (H : Hp) (E : XK), Room k (A.deeper (envOfC qual (defScope st) s.heap.objs.size f cdv)) → DB (cxOf CX0 P w K mg base N qual (defScope st) f cdv A outer s H E).nox (defBody st) g) :
    FnOk P w K mg base CX0 (k + 1) f fd ps (spT ps.length (runT ps.length N.length g)) := by
  refine F.ok S (fun vs H Q E h => ?_) (fun cdv A outer s H vs Q E hr h => ⟨tS g, PSs.nox (hb cdv A outer s H E hr), ?_⟩)
  · obtain ⟨F, t, tvs, ts, us, ds, r, ts', rfl, _, _, _, _, hs, hn, _⟩ := h
    rw [List.length_cons, hs.length]
    exact hn
  · obtain ⟨F, t, tvs, ts, us, ds, r, ts', rfl, sm, ft, ht, hts, hs, hn, e, k⟩ := h
    unfold runT at e
    rw [if_pos hn] at e
    simp only [Option.bind_eq_some_iff] at e
    obtain ⟨o, q1, q2⟩ := e
    have hl := hs.length
    have z0 : (L2.start N (.ref t :: us))[0]? = some (some (.ref t)) := by
      unfold L2.start
      rfl
    have zj : ∀ (j : Nat) (s : Sl), (Sl.own true ts :: ds.map .dat ++ List.replicate (N.length - ps.length) .dead)[j]? = some s → (j = 0 ∧ s = .own true ts) ∨ (∃ i d, j = i + 1 ∧ ds[i]? = some d ∧ s = .dat d) ∨ s = .dead := fun j s e => by
      cases j with
      | zero => cases e; exact .inl ⟨rfl, rfl⟩
      | succ i =>
        have e' : (ds.map Sl.dat ++ List.replicate (N.length - ps.length) .dead)[i]? = some s := e
        by_cases hj : i < ds.length
        · rw [List.getElem?_append_left (by simpa using hj), List.getElem?_map, List.getElem?_eq_getElem hj] at e'
          cases e'
          exact .inr (.inl ⟨i, _, rfl, List.getElem?_eq_getElem hj, rfl⟩)
        · rw [List.getElem?_append_right (by simpa using hj), List.getElem?_replicate] at e'
          split at e'
          · cases e'; exact .inr (.inr rfl)
          · cases e'
    have rep : Rep F H (L2.start N (.ref t :: us)) (Sl.own true ts :: ds.map .dat ++ List.replicate (N.length - ps.length) .dead) := by
      refine ⟨sm, ?_, fun j d hj => ?_, fun j d hj => ?_, fun j c d hj => ?_, fun j j' c c' es es' a h1 h2 _ _ => ?_⟩
      · simp [L2.start, hl]
        omega
      · rcases zj j _ hj with ⟨_, e⟩ | ⟨i, d', q, q', e⟩ | e
        · cases e
        · cases e
          subst q
          obtain ⟨v, w1, w2⟩ := hs.get q'
          refine ⟨v, ?_, w2⟩
          unfold L2.start
          have hi : i < us.length := (List.getElem?_eq_some_iff.mp w1).1
          rw [List.getElem?_append_left (by simpa using hi), List.getElem?_map]
          show Option.map some us[i]? = _
          rw [w1]
          rfl
        · cases e
      · rcases zj j _ hj with ⟨_, e⟩ | ⟨i, d', q, q', e⟩ | e <;> cases e
      · rcases zj j _ hj with ⟨w, e⟩ | ⟨i, d', q, q', e⟩ | e
        · cases e
          subst w
          exact ⟨t, tvs, z0, ft, ht, hts⟩
        · cases e
        · cases e
      · rcases zj j _ h1 with ⟨w, e⟩ | ⟨i, d', q, q', e⟩ | e
        · rcases zj j' _ h2 with ⟨w', e'⟩ | ⟨i, d', q, q', e'⟩ | e'
          · rw [w, w']
          · cases e'
          · cases e'
        · cases e
        · cases e
    have own : ∀ b, OwnA (L2.start N (.ref t :: us)) (Sl.own true ts :: ds.map .dat ++ List.replicate (N.length - ps.length) .dead) b ↔ b = t := fun b => by
      constructor
      · rintro ⟨j, c, es, h1, h2⟩
        rcases zj j _ h1 with ⟨w, e⟩ | ⟨i, d', q, q', e⟩ | e
        · subst w
          rw [z0] at h2
          cases h2
          rfl
        · cases e
        · cases e
      · intro e
        subst e
        exact ⟨0, true, ts, rfl, z0⟩
    refine ⟨F, _, o, rep, q1, ?_⟩
    have bor : ∀ b, BorA (L2.start N (.ref t :: us)) (Sl.own true ts :: ds.map .dat ++ List.replicate (N.length - ps.length) .dead) b → b = t := fun b ⟨j, es, h1, h2⟩ => (own b).mp ⟨j, true, es, h1, h2⟩
    -- the list behind it
    have fin : ∀ {F' H' : Hp} {σ' : L2.St} {e' : Env} {v : V} {r' : Rs} {us' : List PyData}, Go F H (OwA (L2.start N (.ref t :: us)) (Sl.own true ts :: ds.map .dat ++ List.replicate (N.length - ps.length) .dead)) F' H' (OwA σ' e') → Rep F' H' σ' e' → e'[(0 : Nat)]? = some (.own true us') → ResOk F' H' H v r' → (r', us') = (r, ts') → Q v H' :=
      fun {F' H' σ' e' v r' us'} g rep9 h0 ok e => by
        cases e
        obtain ⟨a, vs, w1, w2, w3, w4⟩ := rep9.own 0 _ _ h0
        have ea : a = t := bor a (g.bor a ⟨0, _, h0, w1⟩)
        rw [ea] at w2 w3
        exact k v F' H' vs ⟨g.fz, fun b o n => g.frame b o fun z => n ((own b).mp z), g.dom, fun b z => (g.fresh b z).elim .inl fun z => z.elim (fun q => .inr (.inl q)) fun q => .inr (.inr ((own b).mp q)), fun b z => .inl z, fun b z => z⟩ rep9.sub w2 w3 w4 ok
    cases o with
    | bk _ => simp [endOf] at q2
    | ct _ => simp [endOf] at q2
    | nx e1 =>
      simp only [endOf, Option.bind_eq_some_iff] at q2
      obtain ⟨⟨r2, e2⟩, q3, q2⟩ := q2
      cases q3
      split at q2
      · rename_i us' h0
        exact fun σ' F' H' g rep => fin g rep h0 (.dat .non) (Option.some.inj q2)
      · cases q2
    | rt r1 e1 =>
      simp only [endOf, Option.bind_eq_some_iff, Option.map_eq_some_iff] at q2
      obtain ⟨⟨r2, e2⟩, ⟨r3, q3, q4⟩, q5⟩ := q2
      cases q4
      split at q5
      · rename_i us' h0
        refine fun v σ' F' H' g rep9 ok => fin g rep9 h0 (res_out g rep9 ok q3 fun i a ds hd hv z => ?_) (Option.some.inj q5)
        -- what is given back is not what was lent
        have ea : a = t := (own a).mp z
        subst ea
        obtain ⟨a', vs, w1, w2, w3, w4⟩ := rep9.own 0 _ _ h0
        have ea : a' = a := bor a' (g.bor a' ⟨0, _, h0, w1⟩)
        subst ea
        have e0 := rep9.ne i 0 _ _ _ _ a' hd h0 hv w1
        subst e0
        rw [h0] at hd
        cases hd
      · cases q5
end
end DL

/-! DL5: what is walked: lists, tuples, ranges, enumerate, zip. -/
namespace DL
open PySem PySem.Spec PyProof.Rows L2

section
variable {X : Cx} {tg e e2 e3 : Expr} {fa fb fc : FE} {p pos tpos : Pos} {elts : List Expr} {kk : Nat}
theorem PI.or {it : Expr} {t u : TI} (h : PI X tg it t) (h' : PI X tg it u) : PI X tg it (fun σ H R => t σ H R ∨ u σ H R) := ⟨fun pins s σ H R I q => q.elim (h.run pins s σ H R I) (h'.run pins s σ H R I)⟩
theorem walk_list {K : PySem.W.Frag} {F : Hp} {a : Addr} {vs : List V} {ds : List PyData} (h : F a = some (.lst vs)) (hs : HDs F vs ds) : WalkD (Itl K a) F ds := fun i F1 H1 s1 s2 => by
  have hH : SqL K H1 a vs := .of (s2 _ _ (s1 _ _ h))
  refine ⟨fun d hd => ?_, fun hl => ⟨vs, hH, by rw [hs.length, hl]; exact Nat.le_refl _⟩⟩
  obtain ⟨v, q1, q2⟩ := hs.get hd
  refine ⟨⟨vs, v, hH, q1⟩, fun x H' y => ?_⟩
  obtain ⟨rfl, y⟩ := y
  have e := y vs hH
  rw [q1] at e
  cases e
  exact ⟨F1, .refl s2, q2.mono s1⟩
theorem walk_tup {K : PySem.W.Frag} {F : Hp} {a : Addr} {vs : List V} {ds : List PyData} (h : F a = some (.tup vs)) (hs : HDs F vs ds) : WalkD (Itt K a) F ds := fun i F1 H1 s1 s2 => by
  have hH : SqT K H1 a vs := .of (s2 _ _ (s1 _ _ h))
  refine ⟨fun d hd => ?_, fun hl => ⟨vs, hH, by rw [hs.length, hl]; exact Nat.le_refl _⟩⟩
  obtain ⟨v, q1, q2⟩ := hs.get hd
  refine ⟨⟨vs, v, hH, q1⟩, fun x H' y => ?_⟩
  obtain ⟨rfl, y⟩ := y
  have e := y vs hH
  rw [q1] at e
  cases e
  exact ⟨F1, .refl s2, q2.mono s1⟩
theorem di_seq (he : DE X e fa) : DI X tg e (fiSeq fa) := PI.imp (PI.or (pi_list he) (pi_tup he)) fun σ H R h => by
  obtain ⟨F, env, xs, env', rep, e, k⟩ := h
  simp only [fiSeq, Option.bind_eq_some_iff, Option.map_eq_some_iff] at e
  obtain ⟨⟨r1, e1⟩, h1, ⟨d, e2⟩, h2, ds, h3, h4⟩ := e
  cases h4
  cases d with
  | list ds' =>
    cases h3
    refine .inl ⟨F, env, r1, e1, rep, h1, fun v F1 H1 g1 rep1 ok1 => ?_⟩
    obtain ⟨F2, g2, rep2, hd⟩ := ok1.frz g1 rep1 h2
    cases hd with
    | lst hp hs => exact ⟨_, rfl, ⟨_, .of (rep2.sub _ _ hp)⟩, k _ F2 H1 g2 rep2 (walk_list hp hs)⟩
  | tuple ds' =>
    cases h3
    refine .inr ⟨F, env, r1, e1, rep, h1, fun v F1 H1 g1 rep1 ok1 => ?_⟩
    obtain ⟨F2, g2, rep2, hd⟩ := ok1.frz g1 rep1 h2
    cases hd with
    | tup hp hs => exact ⟨_, rfl, ⟨_, .of (rep2.sub _ _ hp)⟩, k _ F2 H1 g2 rep2 (walk_tup hp hs)⟩
  | _ => cases h3
theorem walk_range {F : Hp} (lo : Int) (n : Nat) : WalkD (Itr lo n) F (rangeD lo n) := fun i F1 H1 s1 s2 => by
  have hl : (rangeD lo n).length = n := by simp [rangeD]
  refine ⟨fun d hd => ?_, fun h => by rw [hl] at h; exact Nat.le_of_eq h.symm⟩
  have hi : i < n := by
    have := (List.getElem?_eq_some_iff.mp hd).1
    rw [hl] at this
    exact this
  refine ⟨hi, fun x H' y => ?_⟩
  obtain ⟨rfl, rfl⟩ := y
  have e : (rangeD lo n)[i]? = some (.int (lo + (i : Int))) := by
    unfold rangeD
    rw [List.getElem?_map, List.getElem?_range hi]
    rfl
  rw [e] at hd
  cases hd
  exact ⟨F1, .refl s2, .int _⟩
theorem small_of {i : Int} (h : smallI i = true) : -(2 ^ 62) ≤ i ∧ i < 2 ^ 62 := by
  unfold smallI at h
  rw [Bool.and_eq_true, decide_eq_true_eq, decide_eq_true_eq] at h
  exact h
theorem di_range1 (hg : Gl X "range") (hm : X.mg "range" = none) (he : DE X e fa) (hs : starEach [e] X.env = [(false, eval e X.env)] := by rfl) (hs1 : starEach [e] X.env = (false, eval e X.env) :: starEach [] X.env := by rfl) : DI X tg (.Call (.Name "range" p) [e] [] pos) (fiRange1 fa) := PI.imp (pi_range1 hg hm (pa_cons he pa_nil hs1) hs) fun σ H R h => by
  obtain ⟨F, env, xs, env', rep, e, k⟩ := h
  simp only [fiRange1, Option.bind_eq_some_iff] at e
  obtain ⟨⟨r1, e1⟩, h1, h2⟩ := e
  refine ⟨F, env, r1, e1, rep, h1, fun v F1 H1 g1 rep1 ok1 => ?_⟩
  simp only at h2
  split at h2
  · rename_i j
    split at h2
    · rename_i hj
      cases h2
      obtain ⟨a1, a2⟩ := small_of hj
      cases ok1 with
      | dat hd =>
        cases hd
        exact ⟨j, rfl, a1, a2, k _ F1 H1 g1 rep1 (walk_range 0 _)⟩
    · cases h2
  · cases h2
theorem di_range2 (hg : Gl X "range") (hm : X.mg "range" = none) (he : DE X e fa) (he2 : DE X e2 fb) (hs : starEach [e, e2] X.env = [(false, eval e X.env), (false, eval e2 X.env)] := by rfl) (hs2 : starEach [e2] X.env = [(false, eval e2 X.env)] := by rfl)
    (ht : starEach [e, e2] X.env = (false, eval e X.env) :: starEach [e2] X.env := by rfl) (ht2 : starEach [e2] X.env = (false, eval e2 X.env) :: starEach [] X.env := by rfl) : DI X tg (.Call (.Name "range" p) [e, e2] [] pos) (fiRange2 fa fb) := PI.imp (pi_range2 hg hm (pa_cons he (pa_cons he2 pa_nil ht2) ht) hs hs2) fun σ H R h => by
  obtain ⟨F, env, xs, env', rep, e, k⟩ := h
  simp only [fiRange2, Option.bind_eq_some_iff] at e
  obtain ⟨⟨r1, e1⟩, h1, ⟨r2, e2⟩, h2, h3⟩ := e
  refine ⟨F, env, r1, e1, rep, h1, fun v F1 H1 g1 rep1 ok1 => ⟨F1, e1, r2, e2, rep1, h2, fun w F2 H2 g2 rep2 ok2 => ?_⟩⟩
  simp only at h3
  split at h3
  · rename_i i j
    split at h3
    · rename_i hj
      cases h3
      rw [Bool.and_eq_true] at hj
      obtain ⟨a1, a2⟩ := small_of hj.1
      obtain ⟨a3, a4⟩ := small_of hj.2
      cases ok1 with
      | dat hd =>
        cases hd
        cases ok2 with
        | dat hd =>
          cases hd
          exact ⟨i, j, rfl, ⟨a1, a2, a3, a4⟩, k _ F2 H2 (g1.trans g2) rep2 (walk_range i _)⟩
    · cases h3
  · cases h3
end

/-! ### lists and tuples as sources of enumerate and zip -/
/-- true: a tuple; false: a list -/
def SqB (t : Bool) (K : PySem.W.Frag) (H : Hp) (a : Addr) (xs : List V) : Prop := if t = true then SqT K H a xs else SqL K H a xs
def ItemsB (t : Bool) (h : Heap) (a : Addr) (its : Array Value) : Prop := if t = true then h.IsTuple a its else h.IsList a its
def IterB (t : Bool) (h : Heap) (it a : Addr) (i : Nat) : Prop := if t = true then h.IsTupleIter it a i else h.IsListIter it a i
def objB (t : Bool) (a : Addr) : Obj := { cls := .type (if t = true then "tuple_iterator" else "list_iterator"), data := .fields #[.ref a, .int 0 0] }
theorem begins_B (t : Bool) (a : Addr) (its : Array Value) : Begins (.ref a) (objB t a) fun h => ItemsB t h a its := by
  cases t
  · exact begins_list a its
  · exact begins_tuple a its
theorem draws_B {prog : Program} {w : World} {A : Around} (hh : A.handled = none) (t : Bool) (it a : Addr) (hne : a ≠ it) (its : Array Value) :
    Draws prog w A it [it, a] its.size (fun i v => its[i]? = some v) (fun i h => IterB t h it a i ∧ ItemsB t h a its) := by
  cases t
  · exact .list hh it a hne its
  · exact .tuple hh it a hne its
theorem iterB_of {t : Bool} {h : Heap} {it a : Addr} (e : h.get? it = some (objB t a)) : IterB t h it a 0 := by
  cases t
  · exact ⟨_, e, rfl, rfl⟩
  · exact ⟨_, e, rfl, rfl⟩
theorem iterB_obj {t : Bool} {h : Heap} {it a : Addr} {i : Nat} (s : IterB t h it a i) : ∃ o, h.get? it = some o ∧ ∀ v, o.data ≠ .cell v := by
  cases t
  · obtain ⟨o, e, _, d⟩ := (show h.IsListIter it a i from s)
    exact ⟨o, e, fun v z => by rw [d] at z; cases z⟩
  · obtain ⟨o, e, _, d⟩ := (show h.IsTupleIter it a i from s)
    exact ⟨o, e, fun v z => by rw [d] at z; cases z⟩
theorem iterB_at {t : Bool} {h h' : Heap} {it a : Addr} {i : Nat} (s : IterB t h it a i) (k : ∀ o, h.get? it = some o → h'.get? it = some o) : IterB t h' it a i := by
  cases t
  · obtain ⟨o, e, r⟩ := (show h.IsListIter it a i from s)
    exact ⟨o, k o e, r⟩
  · obtain ⟨o, e, r⟩ := (show h.IsTupleIter it a i from s)
    exact ⟨o, k o e, r⟩
theorem items_cls {t : Bool} {h : Heap} {a : Addr} {its : Array Value} (p : ItemsB t h a its) : ∃ o, h.get? a = some o ∧ (o.cls = .type "list" ∨ o.cls = .type "tuple") := by
  cases t
  · obtain ⟨o, q1, q2, _⟩ := (show h.IsList a its from p); exact ⟨o, q1, .inl q2⟩
  · obtain ⟨o, q1, q2, _⟩ := (show h.IsTuple a its from p); exact ⟨o, q1, .inr q2⟩
theorem iter_cls {t : Bool} {h : Heap} {it a : Addr} {i : Nat} (p : IterB t h it a i) : ∃ o, h.get? it = some o ∧ (o.cls = .type "list_iterator" ∨ o.cls = .type "tuple_iterator") := by
  cases t
  · obtain ⟨o, q1, q2, _⟩ := (show h.IsListIter it a i from p); exact ⟨o, q1, .inl q2⟩
  · obtain ⟨o, q1, q2, _⟩ := (show h.IsTupleIter it a i from p); exact ⟨o, q1, .inr q2⟩
theorem items_iter {t u : Bool} {h : Heap} {a b it : Addr} {its : Array Value} {i : Nat} (p : ItemsB t h a its) (q : IterB u h it b i) : a ≠ it := fun z => by
  obtain ⟨o, e, c⟩ := items_cls p
  obtain ⟨o', e', c'⟩ := iter_cls q
  rw [z, e'] at e
  cases e
  rcases c with c | c <;> rcases c' with c' | c' <;> rw [c] at c' <;> exact absurd (Value.type.inj c') (by decide)
section
variable {X : Cx} {pins : List (Addr × Obj)} {σ : L2.St} {H : Hp} {s : Shared} {a : Addr} {xs ys : List V} {t : Bool}
theorem inv_B (I : Inv X pins σ H s) (h : SqB t X.K H a xs) : ∃ its : List Value, Vals xs its ∧ ItemsB t s.heap a its.toArray ∧ a < s.heap.objs.size ∧ xs.length ≤ sizeLine := by
  cases t
  · obtain ⟨its, r, p, z⟩ := I.list (show SqL X.K H a xs from h)
    exact ⟨its, r, p.isList, p.lt, z⟩
  · obtain ⟨its, r, p, z⟩ := I.tuple (show SqT X.K H a xs from h)
    obtain ⟨o, e, _⟩ := id p
    exact ⟨its, r, p, Heap.lt_size e, z⟩
theorem inj_B (I : Inv X pins σ H s) (h : SqB t X.K H a xs) (h' : SqB t X.K H a ys) : xs = ys := by
  cases t
  · exact I.list_inj h h'
  · exact I.tuple_inj h h'
end
theorem sqB_of {K : PySem.W.Frag} {F H : Hp} {v : V} {d : PyData} {ds : List PyData} (s : Same F H) (hd : HD F v d) (hi : items d = some ds) : ∃ t a vs, v = .ref a ∧ (∀ H', Same F H' → SqB t K H' a vs) ∧ HDs F vs ds := by
  cases d with
  | list xs =>
    cases hi
    cases hd with
    | lst hp hs => exact ⟨false, _, _, rfl, fun H' s' => .of (s' _ _ hp), hs⟩
  | tuple xs =>
    cases hi
    cases hd with
    | tup hp hs => exact ⟨true, _, _, rfl, fun H' s' => .of (s' _ _ hp), hs⟩
  | _ => cases hi

/-! ### enumerate -/
def IteB (t : Bool) (K : PySem.W.Frag) (a : Addr) : It :=
  ⟨fun i H => ∃ (xs : List V) (x : V), SqB t K H a xs ∧ xs[i]? = some x, fun i H v H' => ∃ T x, v = .ref T ∧ H T = none ∧ H' = upd H T (.tup [.int (i : Nat), x]) ∧ ∀ xs, SqB t K H a xs → xs[i]? = some x, fun i H => ∃ xs : List V, SqB t K H a xs ∧ i = xs.length⟩
theorem two_ok {P : Program} {w : World} {H : Hp} {h : Heap} {T : Addr} {x y : V} {u v : Value} (hT : h.IsTuple T #[u, v]) (r1 : RelV x u) (r2 : RelV y v) : ObjOk P w (upd H T (.tup [x, y])) h T (.tup [x, y]) :=
  ⟨by show 2 ≤ sizeLine; decide, [u, v], .cons r1 (.cons r2 .nil), hT⟩
theorem turn_enumB {P : Program} {w : World} {K : PySem.W.Frag} {elts : List Expr} {kk : Nat} {tpos : Pos} (t : Bool) (a e it : Addr) (hne : e ≠ it) :
    Turn P w K (.Tuple elts kk tpos) (IteB t K a) [e, it] e (fun i h => (∃ old, IsEnum h e it ((i : Nat) : Int) old) ∧ IterB t h it a i) where
  mem := by simp
  obj := fun i h st b hb => by
    obtain ⟨⟨old, he⟩, hit⟩ := st
    simp only [List.mem_cons, List.not_mem_nil, or_false] at hb
    rcases hb with rfl | rfl
    · exact ⟨_, he, fun v q => nomatch q⟩
    · exact iterB_obj hit
  keep := fun i h h' st k => let ⟨⟨old, he⟩, hi⟩ := st; ⟨⟨old, k e (by simp) _ he⟩, iterB_at hi fun o q => k it (by simp) o q⟩
  item := by
    intro X hP hw hK hc i pins s σ H E I hf st hg
    subst hP hw hK
    obtain ⟨⟨old, he⟩, hit⟩ := st
    obtain ⟨xs, x, hq, hx⟩ := hg
    obtain ⟨its, rv, p, la, hz⟩ := inv_B I hq
    obtain ⟨u, hu, ru⟩ := rv.get hx
    have nea : a ≠ it := items_iter p hit
    have nee : a ≠ e := fun z => by
      obtain ⟨o, e', c'⟩ := items_cls p
      rw [z, he] at e'
      cases e'
      rcases c' with c' | c' <;> exact absurd (Value.type.inj c') (by decide)
    have hlt : i < its.toArray.size := by
      have := (List.getElem?_eq_some_iff.mp hu).1
      simpa using this
    have G := GoesN.enumFrom (prog := X.prog) (w := X.w) (A := X.A) (elts := elts) (x1 := kk) (pos := tpos) 0 (draws_B (prog := X.prog) (w := X.w) (A := X.A.in1) (I.ok.hd hc) t it a nea its.toArray) e hne
      (by simp only [List.mem_cons, List.not_mem_nil, or_false, not_or]; exact ⟨hne, fun z => nee z.symm⟩) (by simp)
    refine G.goes i s _ E hlt ⟨⟨old, by rw [Int.zero_add]; exact he⟩, hit, p⟩ fun v h' tk hY st' hk htk => ?_
    obtain ⟨T, tt, x', rfl, hT, hxi, htup⟩ := hY
    have ex : x' = u := by
      rw [List.getElem?_toArray] at hxi
      rw [hu] at hxi
      exact (Option.some.inj hxi).symm
    subst ex
    rw [Int.zero_add] at htup
    have new := two_ok (P := X.prog) (w := X.w) (H := H) (x := .int (i : Nat)) (y := x) htup ⟨tt, rfl⟩ ru
    have I1 := I.turnedNew (t' := tk) (ch := [e, it]) hk hf hT new
    obtain ⟨⟨old', he'⟩, hit', _⟩ := st'
    refine ⟨.ref T, _, I1, rfl, ⟨T, x, rfl, I.hok.fresh hT, rfl, fun ys hy => by rw [inj_B I hy hq]; exact hx⟩, ⟨⟨old', by rw [Int.zero_add] at he'; exact he'⟩, hit'⟩, fun b hb => ?_⟩
    have hb' : b < s.heap.objs.size := by
      simp only [List.mem_cons, List.not_mem_nil, or_false] at hb
      rcases hb with rfl | rfl
      · exact Heap.lt_size he
      · obtain ⟨o, q, _⟩ := iterB_obj hit
        exact Heap.lt_size q
    rw [upd_ne (Nat.ne_of_lt (Nat.lt_of_lt_of_le hb' hT))]
    exact (hf b hb).1
  done := by
    intro X hP hw hK hc i pins s σ H E I hf st hg
    subst hP hw hK
    obtain ⟨⟨old, he⟩, hit⟩ := st
    obtain ⟨xs, hq, rfl⟩ := hg
    obtain ⟨its, rv, p, la, hz⟩ := inv_B I hq
    have nea : a ≠ it := items_iter p hit
    have nee : a ≠ e := fun z => by
      obtain ⟨o, e', c'⟩ := items_cls p
      rw [z, he] at e'
      cases e'
      rcases c' with c' | c' <;> exact absurd (Value.type.inj c') (by decide)
    have hn : its.toArray.size = xs.length := by rw [List.size_toArray]; exact rv.length.symm
    have G := GoesN.enumFrom (prog := X.prog) (w := X.w) (A := X.A) (elts := elts) (x1 := kk) (pos := tpos) 0 (draws_B (prog := X.prog) (w := X.w) (A := X.A.in1) (I.ok.hd hc) t it a nea its.toArray) e hne
      (by simp only [List.mem_cons, List.not_mem_nil, or_false, not_or]; exact ⟨hne, fun z => nee z.symm⟩) (by simp)
    refine G.stops s _ E ⟨⟨old, by rw [Int.zero_add, hn]; exact he⟩, by rw [hn]; exact hit, p⟩ fun h' tk hk htk => ?_
    exact I.turnedL (t' := tk) (ch := [e, it]) hk hf
  self := fun A i s Q E st h => let ⟨⟨_, he⟩, _⟩ := st; wpAny_pyIter_enum he h

/-! enumerate of one argument begins -/
theorem meets_enum1 {v : Value} {o : Obj} {H : Heap → Prop} (B : Begins v o H) :
    Meets (Builtin.«enumerate.__new__» ⟨[.type "enumerate", v], []⟩) (fun _ R s => H s.heap ∧
      R (.ok (.ret (.ref (s.heap.push o).objs.size))) { s with heap := (s.heap.push o).push { cls := .type "enumerate", data := .fields #[.none, .bool false, .ref s.heap.objs.size, rawInt 0, .none, .none] } }) :=
  .of_wp fun prog w A R s h => by
    obtain ⟨hp, g, d, tk, os⟩ := s
    obtain ⟨h1, h⟩ := h
    have hsub := sub_enumerate
    have q1 : ∀ {A' : Around} {E : Value → Shared → Prop} {Q : Value → Shared → Prop}, Q (.ref hp.objs.size) ⟨hp.push o, g, d, tk, os⟩ → wpAny (model prog w) A' (pyIter v) Q E ⟨hp, g, d, tk, os⟩ :=
      fun q => B.iter prog w _ _ ⟨hp, g, d, tk, os⟩ _ h1 q
    wp_walk using q1
    refine wpAny_stack_any fun st => wpAny_pure ?_
    split
    · rename_i c _ _ _ _ _
      cases (c == Value.type "enumerate")
      · wp_walk using q1
        exact ⟨_, rfl, h⟩
      · wp_walk using q1
        exact ⟨_, rfl, h⟩
    · wp_walk using q1
      exact ⟨_, rfl, h⟩
theorem enum1_begins {prog : Program} {w : World} {A : Around} {E : Value → Shared → Prop} {s : Shared} {v : Value} {o : Obj} {H : Heap → Prop} {Q : Value → Shared → Prop} (B : Begins v o H) (h1 : H s.heap)
    (h : ∀ h', IsEnum h' (s.heap.objs.size + 1) s.heap.objs.size 0 .none → h'.get? s.heap.objs.size = some o → h'.objs.size = s.heap.objs.size + 2 →
      (∀ b o, s.heap.get? b = some o → h'.get? b = some o) → Q (.ref (s.heap.objs.size + 1)) { s with heap := h' }) :
    wpAny (model prog w) A (call (.type "enumerate") [v]) Q E s := by
  refine callType_new F.called_enumerate (by decide) (F.typeCall_enumerate_1 _) (F.newCall_enumerate_1 _) (fun obj => F.args_object_init_2 obj _) F.entry_enumerate_new (meets_enum1 B) ⟨h1, ?_⟩
  have hz : (s.heap.push o).objs.size = s.heap.objs.size + 1 := Heap.size_push ..
  show _ ∧ _
  rw [hz]
  have he : IsEnum ((s.heap.push o).push { cls := .type "enumerate", data := .fields #[.none, .bool false, .ref s.heap.objs.size, rawInt 0, .none, .none] }) (s.heap.objs.size + 1) s.heap.objs.size 0 .none := by
    have := Heap.get?_push_size (s.heap.push o) (o := { cls := .type "enumerate", data := .fields #[.none, .bool false, .ref s.heap.objs.size, rawInt 0, .none, .none] }) rfl
    rw [hz] at this; exact this
  exact ⟨⟨_, he, rfl⟩, h _ he (Heap.get?_push_of_some _ (Heap.get?_push_size _ B.free)) (by rw [Heap.size_push, hz]) fun b o x => Heap.get?_push_of_some _ (Heap.get?_push_of_some _ x)⟩

def iEnumB (K : PySem.W.Frag) (ta : TA) : TI := fun σ H R => ta σ H fun vs H1 => ∃ t a xs, vs = [.ref a] ∧ SqB t K H1 a xs ∧ R (IteB t K a) H1
theorem pi_enumB {X : Cx} {e : Expr} {ta : TA} {p pos tpos : Pos} {elts : List Expr} {kk : Nat} (hg : Gl X "enumerate") (hm : X.mg "enumerate" = none) (ha : PA X [e] ta) (hs : starEach [e] X.env = [(false, eval e X.env)] := by rfl) :
    PI X (.Tuple elts kk tpos) (.Call (.Name "enumerate" p) [e] [] pos) (iEnumB X.K ta) := by
  refine ⟨fun pins s σ H R I h => Call_ (ld_blt I hg hm boot_enumerate (PyProof.Rows.callWith_type1 (thn (ha.run pos pins s σ H _ I h) fun us s1 ⟨vs, H1, I1, r1, q1⟩ => ?_) hs rfl))⟩
  obtain ⟨t, a, xs, ex, hq, q⟩ := q1
  subst ex
  cases r1 with
  | cons r rr =>
    cases rr
    cases r
    obtain ⟨its, rv, p', la, hz⟩ := inv_B I1 hq
    refine enum1_begins (begins_B t a its.toArray) p' fun h' he hit hsz hk => wpAny_pyIter_enum he ?_
    have I2 : Inv X pins σ H1 { s1 with heap := h' } := I1.kept (t' := s1.toks) hk
    refine ⟨s1.heap.objs.size + 1, [s1.heap.objs.size + 1, s1.heap.objs.size], _, _, H1, rfl, I2, turn_enumB t a (s1.heap.objs.size + 1) s1.heap.objs.size (Nat.succ_ne_self _), ⟨⟨.none, he⟩, iterB_of hit⟩, fun b hb => ?_, q⟩
    have hle : s1.heap.objs.size ≤ b := by
      simp only [List.mem_cons, List.not_mem_nil, or_false] at hb
      rcases hb with z | z
      · rw [z]; exact Nat.le_add_right _ _
      · rw [z]; exact Nat.le_refl _
    exact I1.fpOk hle (I1.hok.fresh hle)
theorem enumD_get : ∀ {ds : List PyData} {k i : Nat} {d : PyData}, (enumD k ds)[i]? = some d → ∃ x, ds[i]? = some x ∧ d = .tuple [.int ((k + i : Nat) : Int), x]
  | [], k, i, d, h => by simp [enumD] at h
  | y :: r, k, 0, d, h => by
    simp only [enumD, List.getElem?_cons_zero, Option.some.injEq] at h
    exact ⟨y, rfl, h.symm⟩
  | y :: r, k, i + 1, d, h => by
    simp only [enumD, List.getElem?_cons_succ] at h
    obtain ⟨x, h1, h2⟩ := enumD_get h
    exact ⟨x, h1, by rw [h2, show k + 1 + i = k + (i + 1) by omega]⟩
theorem enumD_length : ∀ {ds : List PyData} {k : Nat}, (enumD k ds).length = ds.length
  | [], _ => rfl
  | y :: r, k => by rw [enumD, List.length_cons, List.length_cons, enumD_length]
theorem pair_ext {F1 H1 : Hp} {T : Addr} {ds : List PyData} {vs : List V} (s : Same F1 H1) (hT : H1 T = none) (hs : HDs F1 vs ds) : ∃ F', Ext F1 H1 F' (upd H1 T (.tup vs)) ∧ HD F' (.ref T) (.tuple ds) := by
  have hF : F1 T = none := s.free hT
  refine ⟨upd F1 T (.tup vs), ⟨same_new hF, fun b o e => ?_, same_new hT, fun b hb => ?_⟩, .tup upd_same (hs.mono (same_new hF))⟩
  · by_cases z : b = T
    · subst z; rw [upd_same] at e ⊢; exact e
    · rw [upd_ne z] at e ⊢; exact s _ _ e
  · by_cases z : b = T
    · subst z; exact .inr (.of hT)
    · rw [upd_ne z] at hb; exact .inl hb
section
variable {X : Cx} {tg e e2 e3 : Expr} {fa fb fc : FE} {p pos tpos : Pos} {elts : List Expr} {kk : Nat}
theorem di_enum (hg : Gl X "enumerate") (hm : X.mg "enumerate" = none) (he : DE X e fa) (hs : starEach [e] X.env = [(false, eval e X.env)] := by rfl) (hs1 : starEach [e] X.env = (false, eval e X.env) :: starEach [] X.env := by rfl) :
    DI X (.Tuple elts kk tpos) (.Call (.Name "enumerate" p) [e] [] pos) (fiEnum fa) := PI.imp (pi_enumB hg hm (pa_cons he pa_nil hs1) hs) fun σ H R h => by
  obtain ⟨F, env, xs, env', rep, e, k⟩ := h
  simp only [fiEnum, Option.bind_eq_some_iff, Option.map_eq_some_iff] at e
  obtain ⟨⟨r1, e1⟩, h1, ⟨d, e2⟩, h2, ds, h3, h4⟩ := e
  cases h4
  refine ⟨F, env, r1, e1, rep, h1, fun v F1 H1 g1 rep1 ok1 => ?_⟩
  obtain ⟨F2, g2, rep2, hd⟩ := ok1.frz g1 rep1 h2
  obtain ⟨t, a, vs, rfl, hq, hs⟩ := sqB_of (K := X.K) rep2.sub hd h3
  refine ⟨t, a, vs, rfl, hq _ rep2.sub, k _ F2 H1 g2 rep2 fun i F3 H3 s1 s2 => ⟨fun d' hd' => ?_, fun hl => ⟨vs, hq _ (s1.trans s2), by rw [hl, enumD_length, hs.length]⟩⟩⟩
  obtain ⟨x, w1, rfl⟩ := enumD_get hd'
  obtain ⟨v, w2, w3⟩ := hs.get w1
  refine ⟨⟨vs, v, hq _ (s1.trans s2), w2⟩, fun y H' yy => ?_⟩
  obtain ⟨T, x', rfl, hT, rfl, hx'⟩ := yy
  have e' := hx' vs (hq _ (s1.trans s2))
  rw [w2] at e'
  cases e'
  rw [Nat.zero_add]
  exact pair_ext s2 hT (.cons (.int _) (.cons (w3.mono s1) .nil))
end
end DL

/-! DL5b: zip of two and of three lists and tuples. -/
namespace DL
open PySem PySem.Spec PyProof.Rows L2

theorem getA {l : List Value} {i : Nat} : l.toArray[i]? = l[i]? := by simp
def ItzB (t1 t2 : Bool) (K : PySem.W.Frag) (a b : Addr) : It :=
  ⟨fun i H => ∃ (xs ys : List V) (x y : V), SqB t1 K H a xs ∧ SqB t2 K H b ys ∧ xs[i]? = some x ∧ ys[i]? = some y,
    fun i H v H' => ∃ T x y, v = .ref T ∧ H T = none ∧ H' = upd H T (.tup [x, y]) ∧ (∀ xs, SqB t1 K H a xs → xs[i]? = some x) ∧ ∀ ys, SqB t2 K H b ys → ys[i]? = some y,
    fun i H => ∃ xs ys : List V, SqB t1 K H a xs ∧ SqB t2 K H b ys ∧ i = min xs.length ys.length⟩
abbrev cells2 (N : Nat) : List Addr := [N + 4, N + 2, N + 3, N, N + 1]
theorem cells2_lt {N : Nat} {h : Heap} (hN : N + 5 ≤ h.objs.size) : ∀ b ∈ cells2 N, b < h.objs.size := fun b hb => by
  simp only [cells2, List.mem_cons, List.not_mem_nil, or_false] at hb
  rcases hb with e | e | e | e | e <;> (rw [e]; show (_ : Nat) < _; omega)
theorem turn_zipB {P : Program} {w : World} {K : PySem.W.Frag} {elts : List Expr} {kk : Nat} {tpos : Pos} (t1 t2 : Bool) (a b : Addr) (N : Nat) (ha : a < N) (hb : b < N) :
    Turn P w K (.Tuple elts kk tpos) (ItzB t1 t2 K a b) (cells2 N) (N + 4) (fun i h => (IsZip h (N + 4) (N + 2) (N + 3) .none ∧ IsTupOf2 h (N + 2) (.ref N) (.ref (N + 1)) ∧ (∃ u v, IsTupOf2 h (N + 3) u v) ∧ IterB t1 h N a i ∧ IterB t2 h (N + 1) b i) ∧ N + 5 ≤ h.objs.size) where
  mem := by simp
  obj := fun i h st c hc => by
    obtain ⟨⟨hz, hTI, ⟨u, v, hTO⟩, h1, h2⟩, _⟩ := st
    simp only [cells2, List.mem_cons, List.not_mem_nil, or_false] at hc
    rcases hc with e | e | e | e | e <;> rw [e]
    · exact ⟨_, hz, fun v q => nomatch q⟩
    · exact ⟨_, hTI, fun v q => nomatch q⟩
    · exact ⟨_, hTO, fun v q => nomatch q⟩
    · exact iterB_obj h1
    · exact iterB_obj h2
  keep := fun i h h' st k => by
    obtain ⟨⟨hz, hTI, ⟨u, v, hTO⟩, h1, h2⟩, hN⟩ := st
    have k4 := k (N + 4) (by simp) _ hz
    refine ⟨⟨k4, k (N + 2) (by simp) _ hTI, ⟨u, v, k (N + 3) (by simp) _ hTO⟩, iterB_at h1 fun o q => k N (by simp) o q, iterB_at h2 fun o q => k (N + 1) (by simp) o q⟩, ?_⟩
    have := Heap.lt_size k4
    show (_ : Nat) ≤ _
    have q : (N + 4 : Nat) < h'.objs.size := this
    omega
  item := by
    intro X hP hw hK hc i pins s σ H E I hf st hg
    subst hP hw hK
    obtain ⟨⟨hz, hTI, ⟨u0, v0, hTO⟩, h1, h2⟩, hN⟩ := st
    obtain ⟨xs, ys, x, y, hqx, hqy, hx, hy⟩ := hg
    obtain ⟨its, rv, p, _, _⟩ := inv_B I hqx
    obtain ⟨its2, rv2, p2, _, _⟩ := inv_B I hqy
    obtain ⟨u, hu, ru⟩ := rv.get hx
    obtain ⟨u2, hu2, ru2⟩ := rv2.get hy
    have G := GoesN.zip2 (prog := X.prog) (w := X.w) (A := X.A) (elts := elts) (x1 := kk) (pos := tpos) (zip_sep2 (N := N) (fp1 := [a]) (fp2 := [b]) (fun c hc => by simp only [List.mem_singleton] at hc; rw [hc]; exact ha) (fun c hc => by simp only [List.mem_singleton] at hc; rw [hc]; exact hb))
      (draws_B (prog := X.prog) (w := X.w) (A := X.A.in1) (I.ok.hd hc) t1 N a (Nat.ne_of_lt ha) its.toArray) (draws_B (prog := X.prog) (w := X.w) (A := X.A.in1) (I.ok.hd hc) t2 (N + 1) b (Nat.ne_of_lt (Nat.lt_succ_of_lt hb)) its2.toArray)
    have hlt : i < min its.toArray.size its2.toArray.size := by
      have q1 := (List.getElem?_eq_some_iff.mp hu).1
      have q2 := (List.getElem?_eq_some_iff.mp hu2).1
      simp only [List.size_toArray]
      omega
    refine G.goes i s _ E hlt ⟨hz, hTI, ⟨u0, v0, hTO⟩, ⟨h1, p⟩, h2, p2⟩ fun v h' tk hY st' hk htk => ?_
    obtain ⟨T, x', y', rfl, hT, hxi, hyi, htup⟩ := hY
    have ex : x' = u := by rw [getA, hu] at hxi; exact (Option.some.inj hxi).symm
    have ey : y' = u2 := by rw [getA, hu2] at hyi; exact (Option.some.inj hyi).symm
    subst ex ey
    have new := two_ok (P := X.prog) (w := X.w) (H := H) (x := x) (y := y) htup ru ru2
    have hk' : ∀ c o, c ∉ cells2 N → s.heap.get? c = some o → h'.get? c = some o := fun c o hcN e => hk c o (fun z => hcN (by
      simp only [List.mem_cons, List.not_mem_nil, or_false] at z ⊢
      rcases z with z | z | z | z <;> simp [z])) e
    have I1 := I.turnedNew (t' := tk) (ch := cells2 N) hk' hf hT new
    obtain ⟨z1, z2, z3, ⟨z4, _⟩, z5, _⟩ := st'
    refine ⟨.ref T, _, I1, rfl, ⟨T, x, y, rfl, I.hok.fresh hT, rfl, fun l hl => by rw [inj_B I hl hqx]; exact hx, fun l hl => by rw [inj_B I hl hqy]; exact hy⟩, ⟨⟨z1, z2, z3, z4, z5⟩, ?_⟩, fun c hcm => ?_⟩
    · exact Nat.succ_le_of_lt (Heap.lt_size z1)
    · rw [upd_ne (Nat.ne_of_lt (Nat.lt_of_lt_of_le (cells2_lt hN c hcm) hT))]
      exact (hf c hcm).1
  done := by
    intro X hP hw hK hc i pins s σ H E I hf st hg
    subst hP hw hK
    obtain ⟨⟨hz, hTI, ⟨u0, v0, hTO⟩, h1, h2⟩, hN⟩ := st
    obtain ⟨xs, ys, hqx, hqy, rfl⟩ := hg
    obtain ⟨its, rv, p, _, _⟩ := inv_B I hqx
    obtain ⟨its2, rv2, p2, _, _⟩ := inv_B I hqy
    have G := GoesN.zip2 (prog := X.prog) (w := X.w) (A := X.A) (elts := elts) (x1 := kk) (pos := tpos) (zip_sep2 (N := N) (fp1 := [a]) (fp2 := [b]) (fun c hc => by simp only [List.mem_singleton] at hc; rw [hc]; exact ha) (fun c hc => by simp only [List.mem_singleton] at hc; rw [hc]; exact hb))
      (draws_B (prog := X.prog) (w := X.w) (A := X.A.in1) (I.ok.hd hc) t1 N a (Nat.ne_of_lt ha) its.toArray) (draws_B (prog := X.prog) (w := X.w) (A := X.A.in1) (I.ok.hd hc) t2 (N + 1) b (Nat.ne_of_lt (Nat.lt_succ_of_lt hb)) its2.toArray)
    have hn : min its.toArray.size its2.toArray.size = min xs.length ys.length := by rw [List.size_toArray, List.size_toArray, rv.length, rv2.length]
    refine G.stops s _ E (by rw [hn]; exact ⟨hz, hTI, ⟨u0, v0, hTO⟩, ⟨h1, p⟩, h2, p2⟩) fun h' tk hk htk => ?_
    exact I.turnedL (t' := tk) (ch := cells2 N) (fun c o hcN e => hk c o (fun z => hcN (by
      simp only [List.mem_cons, List.not_mem_nil, or_false] at z ⊢
      rcases z with z | z | z | z <;> simp [z])) e) hf
  self := fun A i s Q E st h => wpAny_pyIter_zip st.1.1 h
def iZipB (K : PySem.W.Frag) (ta : TA) : TI := fun σ H R => ta σ H fun vs H1 => ∃ t1 t2 a b xs ys, vs = [.ref a, .ref b] ∧ SqB t1 K H1 a xs ∧ SqB t2 K H1 b ys ∧ R (ItzB t1 t2 K a b) H1
theorem pi_zipB {X : Cx} {e e2 : Expr} {ta : TA} {p pos tpos : Pos} {elts : List Expr} {kk : Nat} (hg : Gl X "zip") (hm : X.mg "zip" = none) (ha : PA X [e, e2] ta)
    (hs : starEach [e, e2] X.env = (false, eval e X.env) :: starEach [e2] X.env := by rfl) (hpl : (backTo pos (starEach [e2] X.env)).any (·.1) = false := by rfl) :
    PI X (.Tuple elts kk tpos) (.Call (.Name "zip" p) [e, e2] [] pos) (iZipB X.K ta) := by
  refine ⟨fun pins s σ H R I h => Call_ (ld_blt I hg hm PyProof.Rows.boot_zip (PyProof.Rows.callWith_type1 (thn (ha.run pos pins s σ H _ I h) fun us s1 ⟨vs, H1, I1, r1, q1⟩ => ?_) hs hpl))⟩
  obtain ⟨t1, t2, a, b, xs, ys, ex, hqx, hqy, q⟩ := q1
  subst ex
  cases r1 with
  | cons r rr =>
    cases rr with
    | cons r' rr =>
      cases rr
      cases r
      cases r'
      obtain ⟨its, rv, p1, la, _⟩ := inv_B I1 hqx
      obtain ⟨its2, rv2, p2, lb, _⟩ := inv_B I1 hqy
      refine zip_begins2 (begins_B t1 a its.toArray) (begins_B t2 b its2.toArray) p1 p2 fun h' hz hTI hTO h1 h2 hsz hk => wpAny_pyIter_zip hz ?_
      have I2 : Inv X pins σ H1 { s1 with heap := h' } := I1.kept (t' := s1.toks) hk
      refine ⟨s1.heap.objs.size + 4, cells2 s1.heap.objs.size, _, _, H1, rfl, I2, turn_zipB t1 t2 a b s1.heap.objs.size la lb, ⟨⟨hz, hTI, ⟨_, _, hTO⟩, iterB_of h1, iterB_of h2⟩, Nat.le_of_eq hsz.symm⟩, fun c hcm => ?_, q⟩
      have hle : s1.heap.objs.size ≤ c := by
        simp only [cells2, List.mem_cons, List.not_mem_nil, or_false] at hcm
        rcases hcm with e | e | e | e | e <;> (rw [e]; first | exact Nat.le_refl _ | exact Nat.le_add_right _ _)
      exact I1.fpOk hle (I1.hok.fresh hle)
/-! ### three -/
def ItzB3 (t1 t2 t3 : Bool) (K : PySem.W.Frag) (a b c : Addr) : It :=
  ⟨fun i H => ∃ (xs ys zs : List V) (x y z : V), SqB t1 K H a xs ∧ SqB t2 K H b ys ∧ SqB t3 K H c zs ∧ xs[i]? = some x ∧ ys[i]? = some y ∧ zs[i]? = some z,
    fun i H v H' => ∃ T x y z, v = .ref T ∧ H T = none ∧ H' = upd H T (.tup [x, y, z]) ∧ (∀ xs, SqB t1 K H a xs → xs[i]? = some x) ∧ (∀ ys, SqB t2 K H b ys → ys[i]? = some y) ∧ ∀ zs, SqB t3 K H c zs → zs[i]? = some z,
    fun i H => ∃ xs ys zs : List V, SqB t1 K H a xs ∧ SqB t2 K H b ys ∧ SqB t3 K H c zs ∧ i = min (min xs.length ys.length) zs.length⟩
abbrev cells3 (N : Nat) : List Addr := [N + 5, N + 3, N + 4, N, N + 1, N + 2]
theorem cells3_lt {N : Nat} {h : Heap} (hN : N + 6 ≤ h.objs.size) : ∀ b ∈ cells3 N, b < h.objs.size := fun b hb => by
  simp only [cells3, List.mem_cons, List.not_mem_nil, or_false] at hb
  rcases hb with e | e | e | e | e | e <;> (rw [e]; show (_ : Nat) < _; omega)
theorem one_lt {N : Nat} {a : Addr} (ha : a < N) : ∀ c ∈ [a], c < N := fun c hc => by
  simp only [List.mem_singleton] at hc
  rw [hc]; exact ha
theorem three_ok {P : Program} {w : World} {H : Hp} {h : Heap} {T : Addr} {x y z : V} {u v u3 : Value} (hT : h.IsTuple T #[u, v, u3]) (r1 : RelV x u) (r2 : RelV y v) (r3 : RelV z u3) : ObjOk P w (upd H T (.tup [x, y, z])) h T (.tup [x, y, z]) :=
  ⟨by show 3 ≤ sizeLine; decide, [u, v, u3], .cons r1 (.cons r2 (.cons r3 .nil)), hT⟩
theorem turn_zipB3 {P : Program} {w : World} {K : PySem.W.Frag} {elts : List Expr} {kk : Nat} {tpos : Pos} (t1 t2 t3 : Bool) (a b c : Addr) (N : Nat) (ha : a < N) (hb : b < N) (hc : c < N) :
    Turn P w K (.Tuple elts kk tpos) (ItzB3 t1 t2 t3 K a b c) (cells3 N) (N + 5) (fun i h => (IsZip h (N + 5) (N + 3) (N + 4) .none ∧ IsTupOf3 h (N + 3) (.ref N) (.ref (N + 1)) (.ref (N + 2)) ∧ (∃ u v v3, IsTupOf3 h (N + 4) u v v3) ∧ IterB t1 h N a i ∧ IterB t2 h (N + 1) b i ∧ IterB t3 h (N + 2) c i) ∧ N + 6 ≤ h.objs.size) where
  mem := by simp
  obj := fun i h st c hc => by
    obtain ⟨⟨hz, hTI, ⟨u, v, v3, hTO⟩, h1, h2, h3⟩, _⟩ := st
    simp only [cells3, List.mem_cons, List.not_mem_nil, or_false] at hc
    rcases hc with e | e | e | e | e | e <;> rw [e]
    · exact ⟨_, hz, fun v q => nomatch q⟩
    · exact ⟨_, hTI, fun v q => nomatch q⟩
    · exact ⟨_, hTO, fun v q => nomatch q⟩
    · exact iterB_obj h1
    · exact iterB_obj h2
    · exact iterB_obj h3
  keep := fun i h h' st k => by
    obtain ⟨⟨hz, hTI, ⟨u, v, v3, hTO⟩, h1, h2, h3⟩, hN⟩ := st
    have k5 := k (N + 5) (by simp) _ hz
    refine ⟨⟨k5, k (N + 3) (by simp) _ hTI, ⟨u, v, v3, k (N + 4) (by simp) _ hTO⟩, iterB_at h1 fun o q => k N (by simp) o q, iterB_at h2 fun o q => k (N + 1) (by simp) o q, iterB_at h3 fun o q => k (N + 2) (by simp) o q⟩, ?_⟩
    show (_ : Nat) ≤ _
    have q : (N + 5 : Nat) < h'.objs.size := Heap.lt_size k5
    omega
  item := by
    intro X hP hw hK hcm i pins s σ H E I hf st hg
    subst hP hw hK
    obtain ⟨⟨hz, hTI, ⟨u0, v0, w0, hTO⟩, h1, h2, h3⟩, hN⟩ := st
    obtain ⟨xs, ys, zs, x, y, z, hqx, hqy, hqz, hx, hy, hzz⟩ := hg
    obtain ⟨its, rv, p, _, _⟩ := inv_B I hqx
    obtain ⟨its2, rv2, p2, _, _⟩ := inv_B I hqy
    obtain ⟨its3, rv3, p3, _, _⟩ := inv_B I hqz
    obtain ⟨u, hu, ru⟩ := rv.get hx
    obtain ⟨u2, hu2, ru2⟩ := rv2.get hy
    obtain ⟨u3, hu3, ru3⟩ := rv3.get hzz
    have G := GoesN.zip3 (prog := X.prog) (w := X.w) (A := X.A) (elts := elts) (x1 := kk) (pos := tpos) (zip_sep3 (N := N) (fp1 := [a]) (fp2 := [b]) (fp3 := [c]) (one_lt ha) (one_lt hb) (one_lt hc))
      (draws_B (prog := X.prog) (w := X.w) (A := X.A.in1) (I.ok.hd hcm) t1 N a (Nat.ne_of_lt ha) its.toArray) (draws_B (prog := X.prog) (w := X.w) (A := X.A.in1) (I.ok.hd hcm) t2 (N + 1) b (Nat.ne_of_lt (Nat.lt_succ_of_lt hb)) its2.toArray)
      (draws_B (prog := X.prog) (w := X.w) (A := X.A.in1) (I.ok.hd hcm) t3 (N + 2) c (Nat.ne_of_lt (Nat.lt_succ_of_lt (Nat.lt_succ_of_lt hc))) its3.toArray)
    have hlt : i < min (min its.toArray.size its2.toArray.size) its3.toArray.size := by
      have q1 := (List.getElem?_eq_some_iff.mp hu).1
      have q2 := (List.getElem?_eq_some_iff.mp hu2).1
      have q3 := (List.getElem?_eq_some_iff.mp hu3).1
      simp only [List.size_toArray]
      omega
    refine G.goes i s _ E hlt ⟨hz, hTI, ⟨u0, v0, w0, hTO⟩, ⟨h1, p⟩, ⟨h2, p2⟩, h3, p3⟩ fun v h' tk hY st' hk htk => ?_
    obtain ⟨T, x', y', z', rfl, hT, hxi, hyi, hzi, htup⟩ := hY
    have ex : x' = u := by rw [getA, hu] at hxi; exact (Option.some.inj hxi).symm
    have ey : y' = u2 := by rw [getA, hu2] at hyi; exact (Option.some.inj hyi).symm
    have ez : z' = u3 := by rw [getA, hu3] at hzi; exact (Option.some.inj hzi).symm
    subst ex ey ez
    have new := three_ok (P := X.prog) (w := X.w) (H := H) (x := x) (y := y) (z := z) htup ru ru2 ru3
    have hk' : ∀ c o, c ∉ cells3 N → s.heap.get? c = some o → h'.get? c = some o := fun c o hcN e => hk c o (fun z => hcN (by
      simp only [List.mem_cons, List.not_mem_nil, or_false] at z ⊢
      rcases z with z | z | z | z | z <;> simp [z])) e
    have I1 := I.turnedNew (t' := tk) (ch := cells3 N) hk' hf hT new
    obtain ⟨z1, z2, z3, ⟨z4, _⟩, ⟨z5, _⟩, z6, _⟩ := st'
    refine ⟨.ref T, _, I1, rfl, ⟨T, x, y, z, rfl, I.hok.fresh hT, rfl, fun l hl => by rw [inj_B I hl hqx]; exact hx, fun l hl => by rw [inj_B I hl hqy]; exact hy, fun l hl => by rw [inj_B I hl hqz]; exact hzz⟩, ⟨⟨z1, z2, z3, z4, z5, z6⟩, ?_⟩, fun c hcm => ?_⟩
    · exact Nat.succ_le_of_lt (Heap.lt_size z1)
    · rw [upd_ne (Nat.ne_of_lt (Nat.lt_of_lt_of_le (cells3_lt hN c hcm) hT))]
      exact (hf c hcm).1
  done := by
    intro X hP hw hK hcm i pins s σ H E I hf st hg
    subst hP hw hK
    obtain ⟨⟨hz, hTI, ⟨u0, v0, w0, hTO⟩, h1, h2, h3⟩, hN⟩ := st
    obtain ⟨xs, ys, zs, hqx, hqy, hqz, rfl⟩ := hg
    obtain ⟨its, rv, p, _, _⟩ := inv_B I hqx
    obtain ⟨its2, rv2, p2, _, _⟩ := inv_B I hqy
    obtain ⟨its3, rv3, p3, _, _⟩ := inv_B I hqz
    have G := GoesN.zip3 (prog := X.prog) (w := X.w) (A := X.A) (elts := elts) (x1 := kk) (pos := tpos) (zip_sep3 (N := N) (fp1 := [a]) (fp2 := [b]) (fp3 := [c]) (one_lt ha) (one_lt hb) (one_lt hc))
      (draws_B (prog := X.prog) (w := X.w) (A := X.A.in1) (I.ok.hd hcm) t1 N a (Nat.ne_of_lt ha) its.toArray) (draws_B (prog := X.prog) (w := X.w) (A := X.A.in1) (I.ok.hd hcm) t2 (N + 1) b (Nat.ne_of_lt (Nat.lt_succ_of_lt hb)) its2.toArray)
      (draws_B (prog := X.prog) (w := X.w) (A := X.A.in1) (I.ok.hd hcm) t3 (N + 2) c (Nat.ne_of_lt (Nat.lt_succ_of_lt (Nat.lt_succ_of_lt hc))) its3.toArray)
    have hn : min (min its.toArray.size its2.toArray.size) its3.toArray.size = min (min xs.length ys.length) zs.length := by rw [List.size_toArray, List.size_toArray, List.size_toArray, rv.length, rv2.length, rv3.length]
    refine G.stops s _ E (by rw [hn]; exact ⟨hz, hTI, ⟨u0, v0, w0, hTO⟩, ⟨h1, p⟩, ⟨h2, p2⟩, h3, p3⟩) fun h' tk hk htk => ?_
    exact I.turnedL (t' := tk) (ch := cells3 N) (fun c o hcN e => hk c o (fun z => hcN (by
      simp only [List.mem_cons, List.not_mem_nil, or_false] at z ⊢
      rcases z with z | z | z | z | z <;> simp [z])) e) hf
  self := fun A i s Q E st h => wpAny_pyIter_zip st.1.1 h
def iZipB3 (K : PySem.W.Frag) (ta : TA) : TI := fun σ H R => ta σ H fun vs H1 => ∃ t1 t2 t3 a b c xs ys zs, vs = [.ref a, .ref b, .ref c] ∧ SqB t1 K H1 a xs ∧ SqB t2 K H1 b ys ∧ SqB t3 K H1 c zs ∧ R (ItzB3 t1 t2 t3 K a b c) H1
theorem pi_zipB3 {X : Cx} {e e2 e3 : Expr} {ta : TA} {p pos tpos : Pos} {elts : List Expr} {kk : Nat} (hg : Gl X "zip") (hm : X.mg "zip" = none) (ha : PA X [e, e2, e3] ta)
    (hs : starEach [e, e2, e3] X.env = (false, eval e X.env) :: starEach [e2, e3] X.env := by rfl) (hpl : (backTo pos (starEach [e2, e3] X.env)).any (·.1) = false := by rfl) :
    PI X (.Tuple elts kk tpos) (.Call (.Name "zip" p) [e, e2, e3] [] pos) (iZipB3 X.K ta) := by
  refine ⟨fun pins s σ H R I h => Call_ (ld_blt I hg hm PyProof.Rows.boot_zip (PyProof.Rows.callWith_type1 (thn (ha.run pos pins s σ H _ I h) fun us s1 ⟨vs, H1, I1, r1, q1⟩ => ?_) hs hpl))⟩
  obtain ⟨t1, t2, t3, a, b, c, xs, ys, zs, ex, hqx, hqy, hqz, q⟩ := q1
  subst ex
  cases r1 with
  | cons r rr =>
    cases rr with
    | cons r' rr =>
      cases rr with
      | cons r'' rr =>
        cases rr
        cases r
        cases r'
        cases r''
        obtain ⟨its, rv, p1, la, _⟩ := inv_B I1 hqx
        obtain ⟨its2, rv2, p2, lb, _⟩ := inv_B I1 hqy
        obtain ⟨its3, rv3, p3, lc, _⟩ := inv_B I1 hqz
        refine zip_begins3 (begins_B t1 a its.toArray) (begins_B t2 b its2.toArray) (begins_B t3 c its3.toArray) p1 p2 p3 fun h' hz hTI hTO h1 h2 h3 hsz hk => wpAny_pyIter_zip hz ?_
        have I2 : Inv X pins σ H1 { s1 with heap := h' } := I1.kept (t' := s1.toks) hk
        refine ⟨s1.heap.objs.size + 5, cells3 s1.heap.objs.size, _, _, H1, rfl, I2, turn_zipB3 t1 t2 t3 a b c s1.heap.objs.size la lb lc, ⟨⟨hz, hTI, ⟨_, _, _, hTO⟩, iterB_of h1, iterB_of h2, iterB_of h3⟩, Nat.le_of_eq hsz.symm⟩, fun c hcm => ?_, q⟩
        have hle : s1.heap.objs.size ≤ c := by
          simp only [cells3, List.mem_cons, List.not_mem_nil, or_false] at hcm
          rcases hcm with e | e | e | e | e | e <;> (rw [e]; first | exact Nat.le_refl _ | exact Nat.le_add_right _ _)
        exact I1.fpOk hle (I1.hok.fresh hle)
theorem zipD3_get : ∀ {xs ys zs : List PyData} {i : Nat} {d : PyData}, (zipD3 xs ys zs)[i]? = some d → ∃ x y z, xs[i]? = some x ∧ ys[i]? = some y ∧ zs[i]? = some z ∧ d = .tuple [x, y, z]
  | [], _, _, i, d, h => by simp [zipD3] at h
  | _ :: _, [], _, i, d, h => by simp [zipD3] at h
  | _ :: _, _ :: _, [], i, d, h => by simp [zipD3] at h
  | x :: xs, y :: ys, z :: zs, 0, d, h => by
    simp only [zipD3, List.getElem?_cons_zero, Option.some.injEq] at h
    exact ⟨x, y, z, rfl, rfl, rfl, h.symm⟩
  | x :: xs, y :: ys, z :: zs, i + 1, d, h => by
    simp only [zipD3, List.getElem?_cons_succ] at h
    obtain ⟨a, b, c, h1, h2, h3, h4⟩ := zipD3_get (xs := xs) (ys := ys) (zs := zs) (i := i) h
    exact ⟨a, b, c, h1, h2, h3, h4⟩
theorem zipD3_length : ∀ {xs ys zs : List PyData}, (zipD3 xs ys zs).length = min (min xs.length ys.length) zs.length
  | [], _, _ => by simp [zipD3]
  | _ :: _, [], _ => by simp [zipD3]
  | _ :: _, _ :: _, [] => by simp [zipD3]
  | x :: xs, y :: ys, z :: zs => by
    simp only [zipD3, List.length_cons]
    rw [zipD3_length]
    omega
theorem zipD_get : ∀ {xs ys : List PyData} {i : Nat} {d : PyData}, (zipD xs ys)[i]? = some d → ∃ x y, xs[i]? = some x ∧ ys[i]? = some y ∧ d = .tuple [x, y]
  | [], _, i, d, h => by simp [zipD] at h
  | _ :: _, [], i, d, h => by simp [zipD] at h
  | x :: xs, y :: ys, 0, d, h => by
    simp only [zipD, List.getElem?_cons_zero, Option.some.injEq] at h
    exact ⟨x, y, rfl, rfl, h.symm⟩
  | x :: xs, y :: ys, i + 1, d, h => by
    simp only [zipD, List.getElem?_cons_succ] at h
    obtain ⟨a, b, h1, h2, h3⟩ := zipD_get (xs := xs) (ys := ys) (i := i) h
    exact ⟨a, b, h1, h2, h3⟩
theorem zipD_length : ∀ {xs ys : List PyData}, (zipD xs ys).length = min xs.length ys.length
  | [], _ => by simp [zipD]
  | _ :: _, [] => by simp [zipD]
  | x :: xs, y :: ys => by
    simp only [zipD, List.length_cons]
    rw [zipD_length]
    omega
section
variable {X : Cx} {tg e e2 e3 : Expr} {fa fb fc : FE} {p pos tpos : Pos} {elts : List Expr} {kk : Nat}
theorem di_zip (hg : Gl X "zip") (hm : X.mg "zip" = none) (he : DE X e fa) (he2 : DE X e2 fb) (hs : starEach [e, e2] X.env = (false, eval e X.env) :: starEach [e2] X.env := by rfl) (hs1 : starEach [e2] X.env = (false, eval e2 X.env) :: starEach [] X.env := by rfl)
    (hpl : (backTo pos (starEach [e2] X.env)).any (·.1) = false := by rfl) : DI X (.Tuple elts kk tpos) (.Call (.Name "zip" p) [e, e2] [] pos) (fiZip fa fb) := PI.imp (pi_zipB hg hm (pa_cons he (pa_cons he2 pa_nil hs1) hs) hs hpl) fun σ H R h => by
  obtain ⟨F, env, xs, env', rep, e, k⟩ := h
  simp only [fiZip, Option.bind_eq_some_iff, Option.map_eq_some_iff] at e
  obtain ⟨⟨r1, e1⟩, h1, ⟨d, e2⟩, h2, ⟨r3, e3⟩, h3, ⟨d4, e4⟩, h4, ds, h5, es, h6, h7⟩ := e
  cases h7
  refine ⟨F, env, r1, e1, rep, h1, fun v F1 H1 g1 rep1 ok1 => ?_⟩
  obtain ⟨F2, g2, rep2, hd⟩ := ok1.frz g1 rep1 h2
  refine ⟨F2, e2, r3, e3, rep2, h3, fun w F3 H3 g3 rep3 ok3 => ?_⟩
  obtain ⟨F4, g4, rep4, hd4⟩ := ok3.frz g3 rep3 h4
  obtain ⟨t1, a, vs, rfl, hq, hs⟩ := sqB_of (K := X.K) rep4.sub (hd.mono g4.fz) h5
  obtain ⟨t2, b, ws, rfl, hq', hs'⟩ := sqB_of (K := X.K) rep4.sub hd4 h6
  refine ⟨t1, t2, a, b, vs, ws, rfl, hq _ rep4.sub, hq' _ rep4.sub, k _ F4 H3 (g2.trans g4) rep4 fun i F5 H5 s1 s2 => ⟨fun d' hd' => ?_, fun hl => ⟨vs, ws, hq _ (s1.trans s2), hq' _ (s1.trans s2), by rw [hl, zipD_length, hs.length, hs'.length]⟩⟩⟩
  obtain ⟨x, y, w1, w2, rfl⟩ := zipD_get hd'
  obtain ⟨v, w3, w4⟩ := hs.get w1
  obtain ⟨w, w5, w6⟩ := hs'.get w2
  refine ⟨⟨vs, ws, v, w, hq _ (s1.trans s2), hq' _ (s1.trans s2), w3, w5⟩, fun y H' yy => ?_⟩
  obtain ⟨T, x', y', rfl, hT, rfl, hx', hy'⟩ := yy
  have e' := hx' vs (hq _ (s1.trans s2))
  rw [w3] at e'
  cases e'
  have e' := hy' ws (hq' _ (s1.trans s2))
  rw [w5] at e'
  cases e'
  exact pair_ext s2 hT (.cons (w4.mono s1) (.cons (w6.mono s1) .nil))
theorem di_zip3 (hg : Gl X "zip") (hm : X.mg "zip" = none) (he : DE X e fa) (he2 : DE X e2 fb) (he3 : DE X e3 fc) (hs : starEach [e, e2, e3] X.env = (false, eval e X.env) :: starEach [e2, e3] X.env := by rfl) (hs1 : starEach [e2, e3] X.env = (false, eval e2 X.env) :: starEach [e3] X.env := by rfl) (hs2 : starEach [e3] X.env = (false, eval e3 X.env) :: starEach [] X.env := by rfl)
    (hpl : (backTo pos (starEach [e2, e3] X.env)).any (·.1) = false := by rfl) : DI X (.Tuple elts kk tpos) (.Call (.Name "zip" p) [e, e2, e3] [] pos) (fiZip3 fa fb fc) := PI.imp (pi_zipB3 hg hm (pa_cons he (pa_cons he2 (pa_cons he3 pa_nil hs2) hs1) hs) hs hpl) fun σ H R h => by
  obtain ⟨F, env, xs, env', rep, e, k⟩ := h
  simp only [fiZip3, Option.bind_eq_some_iff, Option.map_eq_some_iff] at e
  obtain ⟨⟨r1, e1⟩, h1, ⟨d, e2⟩, h2, ⟨r3, e3⟩, h3, ⟨d4, e4⟩, h4, ⟨r5, e5⟩, h5, ⟨d6, e6⟩, h6, ds, h7, es, h8, fs, h9, h10⟩ := e
  cases h10
  refine ⟨F, env, r1, e1, rep, h1, fun v F1 H1 g1 rep1 ok1 => ?_⟩
  obtain ⟨F2, g2, rep2, hd⟩ := ok1.frz g1 rep1 h2
  refine ⟨F2, e2, r3, e3, rep2, h3, fun w F3 H3 g3 rep3 ok3 => ?_⟩
  obtain ⟨F4, g4, rep4, hd4⟩ := ok3.frz g3 rep3 h4
  refine ⟨F4, e4, r5, e5, rep4, h5, fun u F5 H5 g5 rep5 ok5 => ?_⟩
  obtain ⟨F6, g6, rep6, hd6⟩ := ok5.frz g5 rep5 h6
  obtain ⟨t1, a, vs, rfl, hq, hs⟩ := sqB_of (K := X.K) rep6.sub (hd.mono (g4.fz.trans g6.fz)) h7
  obtain ⟨t2, b, ws, rfl, hq', hs'⟩ := sqB_of (K := X.K) rep6.sub (hd4.mono g6.fz) h8
  obtain ⟨t3, c, us, rfl, hq'', hs''⟩ := sqB_of (K := X.K) rep6.sub hd6 h9
  refine ⟨t1, t2, t3, a, b, c, vs, ws, us, rfl, hq _ rep6.sub, hq' _ rep6.sub, hq'' _ rep6.sub, k _ F6 H5 ((g2.trans g4).trans g6) rep6 fun i F7 H7 s1 s2 => ⟨fun d' hd' => ?_, fun hl => ⟨vs, ws, us, hq _ (s1.trans s2), hq' _ (s1.trans s2), hq'' _ (s1.trans s2), by rw [hl, zipD3_length, hs.length, hs'.length, hs''.length]⟩⟩⟩
  obtain ⟨x, y, z, w1, w2, w0, rfl⟩ := zipD3_get hd'
  obtain ⟨v, w3, w4⟩ := hs.get w1
  obtain ⟨w, w5, w6⟩ := hs'.get w2
  obtain ⟨u, w7, w8⟩ := hs''.get w0
  refine ⟨⟨vs, ws, us, v, w, u, hq _ (s1.trans s2), hq' _ (s1.trans s2), hq'' _ (s1.trans s2), w3, w5, w7⟩, fun y H' yy => ?_⟩
  obtain ⟨T, x', y', z', rfl, hT, rfl, hx', hy', hz'⟩ := yy
  have e' := hx' vs (hq _ (s1.trans s2))
  rw [w3] at e'
  cases e'
  have e' := hy' ws (hq' _ (s1.trans s2))
  rw [w5] at e'
  cases e'
  have e' := hz' us (hq'' _ (s1.trans s2))
  rw [w7] at e'
  cases e'
  exact pair_ext s2 hT (.cons (w4.mono s1) (.cons (w6.mono s1) (.cons (w8.mono s1) .nil)))
end
end DL

/-! DL6: operators and built-ins by data. -/
namespace DL
open PySem PySem.Spec PyProof.Rows L2

section
variable {X : Cx}
theorem RetW.same {F H : Hp} {Q : VK} {ds : List PyData} {p : Addr} {vs : List V} (s : Same F H) (k : RetW F H (.dat (.tuple ds)) Q) (h : F p = some (.tup vs)) (hs : HDs F vs ds) : Q (.ref p) H := k.dat s (.tup h hs)
theorem nil_of {F : Hp} {vs : List V} {ds : List PyData} (h : HDs F vs ds) : vs = [] ↔ ds = [] := by
  have e := h.length
  constructor
  · intro z; subst z; exact List.length_eq_zero_iff.mp e.symm
  · intro z; subst z; exact List.length_eq_zero_iff.mp e
theorem o_add : OpD X (binaryOp .Add) opAdd := by
  intro pins s σ H x y v u Q I rx ry h
  obtain ⟨F, dx, dy, z, sm, hx, hy, e, k⟩ := h
  unfold opAdd at e
  split at e
  · cases e
    exact op_add pins s σ H x y v u Q I rx ry ⟨_, _, hx.int, hy.int, k.int sm⟩
  · split at e
    · rename_i hz
      cases e
      exact op_add_str pins s σ H x y v u Q I rx ry ⟨_, _, hx.str, hy.str, hz, k.str sm⟩
    · cases e
  · split at e
    · rename_i xs ys hz
      cases e
      obtain ⟨a, vs, rfl, ha, hs⟩ := hx.tuple
      obtain ⟨b, ws, rfl, hb, hs'⟩ := hy.tuple
      refine op_catA pins s σ H _ _ v u Q I rx ry ⟨a, b, vs, ws, rfl, rfl, .of (sm _ _ ha), .of (sm _ _ hb), by rw [hs.length, hs'.length]; exact hz, fun z => ?_, fun _ z => ?_, fun _ _ p hp => k.tup sm (hs.append hs') hp⟩
      · have q := (nil_of hs).mp z
        subst q
        exact k.same sm hb hs'
      · have q := (nil_of hs').mp z
        subst q
        rw [List.append_nil] at k
        exact k.same sm ha hs
    · cases e
  · split at e
    · rename_i xs ys hz
      cases e
      obtain ⟨a, vs, rfl, ha, hs⟩ := hx.list sm
      obtain ⟨b, ws, rfl, hb, hs'⟩ := hy.list sm
      exact op_cat pins s σ H _ _ v u Q I rx ry ⟨a, b, vs, ws, rfl, rfl, ha, hb, by rw [hs.length, hs'.length]; exact hz, fun p hp => k.lst sm (hs.append hs') hp⟩
    · cases e
  · cases e
theorem o_sub : OpD X (binaryOp .Sub) opSub := by
  intro pins s σ H x y v u Q I rx ry h
  obtain ⟨F, dx, dy, z, sm, hx, hy, e, k⟩ := h
  unfold opSub at e
  split at e
  · cases e
    exact op_sub pins s σ H x y v u Q I rx ry ⟨_, _, hx.int, hy.int, k.int sm⟩
  · cases e
theorem low_of {i j : Int} (h : (lowI i || lowI j) = true) : CMul i j := by
  unfold lowI at h
  simp only [Bool.or_eq_true, Bool.and_eq_true, decide_eq_true_eq] at h
  exact h
theorem o_mul : OpD X (binaryOp .Mult) opMul := by
  intro pins s σ H x y v u Q I rx ry h
  obtain ⟨F, dx, dy, z, sm, hx, hy, e, k⟩ := h
  unfold opMul at e
  split at e
  · split at e
    · rename_i hz
      cases e
      exact op_mul pins s σ H x y v u Q I rx ry ⟨_, _, hx.int, hy.int, low_of hz, k.int sm⟩
    · cases e
  · split at e
    · rename_i xs n hz
      cases e
      obtain ⟨a, vs, rfl, ha, hs⟩ := hx.tuple
      exact op_repT pins s σ H _ y v u Q I rx ry ⟨a, n, vs, rfl, hy.int, .of (sm _ _ ha), fun z => hz.1 ((nil_of hs).mp z), hz.2.1, hz.2.2.1, by rw [hs.length]; exact hz.2.2.2, fun p hp => k.tup sm (hs.rep _) hp⟩
    · cases e
  · split at e
    · rename_i xs n hz
      cases e
      obtain ⟨a, vs, rfl, ha, hs⟩ := hx.list sm
      obtain ⟨q1, q2⟩ := small_of hz.1
      exact op_rep pins s σ H _ y v u Q I rx ry ⟨a, n, vs, rfl, hy.int, ha, by omega, by omega, by rw [hs.length]; exact hz.2, fun p hp => k.lst sm (hs.rep _) hp⟩
    · cases e
  · cases e
theorem o_mod : OpD X (binaryOp .Mod) opMod := by
  intro pins s σ H x y v u Q I rx ry h
  obtain ⟨F, dx, dy, z, sm, hx, hy, e, k⟩ := h
  unfold opMod at e
  split at e
  · split at e
    · rename_i hz
      cases e
      exact op_mod pins s σ H x y v u Q I rx ry ⟨_, _, hx.int, hy.int, hz, k.int sm⟩
    · cases e
  · cases e
theorem o_fdiv : OpD X (binaryOp .FloorDiv) opFdiv := by
  intro pins s σ H x y v u Q I rx ry h
  obtain ⟨F, dx, dy, z, sm, hx, hy, e, k⟩ := h
  unfold opFdiv at e
  split at e
  · split at e
    · rename_i hz
      cases e
      exact op_fdivW pins s σ H x y v u Q I rx ry ⟨_, _, hx.int, hy.int, hz, k.int sm⟩
    · cases e
  · cases e
theorem o_pow : OpD X (binaryOp .Pow) opPow := by
  intro pins s σ H x y v u Q I rx ry h
  obtain ⟨F, dx, dy, z, sm, hx, hy, e, k⟩ := h
  unfold opPow at e
  split at e
  · split at e
    · rename_i hz
      cases e
      exact op_pow pins s σ H x y v u Q I rx ry ⟨_, _, hx.int, hy.int, hz, k.int sm⟩
    · cases e
  · cases e
theorem o_lt : OpD X (compareOp .Lt) opLt := by
  intro pins s σ H x y v u Q I rx ry h
  obtain ⟨F, dx, dy, z, sm, hx, hy, e, k⟩ := h
  unfold opLt at e
  split at e
  · cases e
    exact op_lt pins s σ H x y v u Q I rx ry ⟨_, _, hx.int, hy.int, k.bool sm⟩
  · cases e
theorem o_le : OpD X (compareOp .LtE) opLe := by
  intro pins s σ H x y v u Q I rx ry h
  obtain ⟨F, dx, dy, z, sm, hx, hy, e, k⟩ := h
  unfold opLe at e
  split at e
  · cases e
    exact op_le pins s σ H x y v u Q I rx ry ⟨_, _, hx.int, hy.int, k.bool sm⟩
  · cases e
theorem o_gt : OpD X (compareOp .Gt) opGt := by
  intro pins s σ H x y v u Q I rx ry h
  obtain ⟨F, dx, dy, z, sm, hx, hy, e, k⟩ := h
  unfold opGt at e
  split at e
  · cases e
    exact op_gt pins s σ H x y v u Q I rx ry ⟨_, _, hx.int, hy.int, k.bool sm⟩
  · cases e
theorem o_ge : OpD X (compareOp .GtE) opGe := by
  intro pins s σ H x y v u Q I rx ry h
  obtain ⟨F, dx, dy, z, sm, hx, hy, e, k⟩ := h
  unfold opGe at e
  split at e
  · cases e
    exact op_ge pins s σ H x y v u Q I rx ry ⟨_, _, hx.int, hy.int, k.bool sm⟩
  · cases e
theorem o_eq (hu : X.A.units + 64 < cLine) : OpD X (compareOp .Eq) opEq := by
  intro pins s σ H x y v u Q I rx ry h
  obtain ⟨F, dx, dy, z, sm, hx, hy, e, k⟩ := h
  unfold opEq at e
  split at e
  · rename_i hz
    cases e
    rw [Bool.and_eq_true] at hz
    exact op_eqD hu pins s σ H x y v u Q I rx ry ⟨dx, dy, (hx.hd sm).dp (SeqAt.canLay_of_shaped hz.1), (hy.hd sm).dp (SeqAt.canLay_of_shaped hz.2), hz.1, hz.2, k.bool sm⟩
  · cases e
theorem o_ne (hu : X.A.units + 64 < cLine) : OpD X (compareOp .NotEq) opNe := by
  intro pins s σ H x y v u Q I rx ry h
  obtain ⟨F, dx, dy, z, sm, hx, hy, e, k⟩ := h
  unfold opNe at e
  split at e
  · rename_i hz
    cases e
    rw [Bool.and_eq_true] at hz
    exact op_neD hu pins s σ H x y v u Q I rx ry ⟨dx, dy, (hx.hd sm).dp (SeqAt.canLay_of_shaped hz.1), (hy.hd sm).dp (SeqAt.canLay_of_shaped hz.2), hz.1, hz.2, k.bool sm⟩
  · cases e
theorem flat_of {F : Hp} {v : V} {d : PyData} (h : HD F v d) (e : flatD d = true) : flatV v = true := by
  cases h <;> first | rfl | cases e
theorem flat_all {F : Hp} : ∀ {ds : List PyData} {vs : List V}, HDs F vs ds → ds.all flatD = true → vs.all flatV = true
  | [], _, .nil, _ => rfl
  | _ :: _, _, .cons h hs, e => by
    rw [List.all_cons, Bool.and_eq_true] at e ⊢
    exact ⟨flat_of h e.1, flat_all hs e.2⟩
theorem eq_flat {F : Hp} {v w : V} {d e : PyData} (h : HD F v d) (g : HD F w e) (fd : flatD d = true) (fe : flatD e = true) : eqV v w = PyData.eqv d e := by
  cases h <;> cases g <;> first | (simp [flatD] at fd; done) | (simp [flatD] at fe; done) | (simp only [PyData.eqv]; rfl)
theorem in_flat {F : Hp} {v : V} {d : PyData} (h : HD F v d) (fd : flatD d = true) : ∀ {ds : List PyData} {vs : List V}, HDs F vs ds → ds.all flatD = true → inV v vs = inD d ds
  | [], _, .nil, _ => rfl
  | _ :: _, _, .cons g gs, e => by
    rw [List.all_cons, Bool.and_eq_true] at e
    show (eqV _ v || inV v _) = (PyData.eqv _ d || inD d _)
    rw [eq_flat g h e.1 fd, in_flat h fd gs e.2]
theorem o_in (hu : X.A.units + 65 < cLine) : OpD X (compareOp .In) opIn := by
  intro pins s σ H x y v u Q I rx ry h
  obtain ⟨F, dx, dy, z, sm, hx, hy, e, k⟩ := h
  unfold opIn at e
  split at e
  · rename_i ys
    split at e
    · rename_i hz
      cases e
      rw [Bool.and_eq_true] at hz
      obtain ⟨p, vs, rfl, hp, hs⟩ := hy.list sm
      have hs' := hs.mono sm
      refine op_in_seq pins s σ H x _ v u Q I rx ry ⟨p, vs, rfl, .inl (.of hp), flat_of (hx.hd sm) hz.1, flat_all hs' hz.2, ?_⟩
      rw [in_flat (hx.hd sm) hz.1 hs' hz.2]
      exact k.bool sm
    · split at e
      · rename_i hz
        cases e
        rw [Bool.and_eq_true] at hz
        exact op_inD hu pins s σ H x y v u Q I rx ry ⟨dx, ys, (hx.hd sm).dp (SeqAt.canLay_of_shaped hz.1), (hy.hd sm).dp (SeqAt.canLay_of_shaped hz.2), hz.1, hz.2, k.bool sm⟩
      · cases e
  · rename_i ys
    split at e
    · rename_i hz
      cases e
      rw [Bool.and_eq_true] at hz
      obtain ⟨p, vs, rfl, hp, hs⟩ := hy.tuple
      have hs' := hs.mono sm
      refine op_in_seq pins s σ H x _ v u Q I rx ry ⟨p, vs, rfl, .inr (.of (sm _ _ hp)), flat_of (hx.hd sm) hz.1, flat_all hs' hz.2, ?_⟩
      rw [in_flat (hx.hd sm) hz.1 hs' hz.2]
      exact k.bool sm
    · cases e
  · cases e
theorem o_notIn (hu : X.A.units + 65 < cLine) : OpD X (compareOp .NotIn) opNotIn := by
  intro pins s σ H x y v u Q I rx ry h
  obtain ⟨F, dx, dy, z, sm, hx, hy, e, k⟩ := h
  unfold opNotIn at e
  split at e
  · rename_i ys
    split at e
    · rename_i hz
      cases e
      rw [Bool.and_eq_true] at hz
      obtain ⟨p, vs, rfl, hp, hs⟩ := hy.list sm
      have hs' := hs.mono sm
      refine op_notIn_seq pins s σ H x _ v u Q I rx ry ⟨p, vs, rfl, .inl (.of hp), flat_of (hx.hd sm) hz.1, flat_all hs' hz.2, ?_⟩
      rw [in_flat (hx.hd sm) hz.1 hs' hz.2]
      exact k.bool sm
    · split at e
      · rename_i hz
        cases e
        rw [Bool.and_eq_true] at hz
        exact op_notInD hu pins s σ H x y v u Q I rx ry ⟨dx, ys, (hx.hd sm).dp (SeqAt.canLay_of_shaped hz.1), (hy.hd sm).dp (SeqAt.canLay_of_shaped hz.2), hz.1, hz.2, k.bool sm⟩
      · cases e
  · rename_i ys
    split at e
    · rename_i hz
      cases e
      rw [Bool.and_eq_true] at hz
      obtain ⟨p, vs, rfl, hp, hs⟩ := hy.tuple
      have hs' := hs.mono sm
      refine op_notIn_seq pins s σ H x _ v u Q I rx ry ⟨p, vs, rfl, .inr (.of (sm _ _ hp)), flat_of (hx.hd sm) hz.1, flat_all hs' hz.2, ?_⟩
      rw [in_flat (hx.hd sm) hz.1 hs' hz.2]
      exact k.bool sm
    · cases e
  · cases e
theorem isNone_of {F : Hp} {v : V} {d : PyData} (h : HD F v d) : decide (v = .non) = isNone d := by
  cases h <;> first | rfl | exact decide_eq_false fun z => nomatch z
theorem o_isN : OpD X (compareOp .Is) opIsN := by
  intro pins s σ H x y v u Q I rx ry h
  obtain ⟨F, dx, dy, z, sm, hx, hy, e, k⟩ := h
  unfold opIsN at e
  split at e
  · cases e
    exact op_isN pins s σ H x y v u Q I rx ry ⟨hy.none, by rw [isNone_of (hx.hd sm)]; exact k.bool sm⟩
  · cases e
theorem o_isNotN : OpD X (compareOp .IsNot) opIsNotN := by
  intro pins s σ H x y v u Q I rx ry h
  obtain ⟨F, dx, dy, z, sm, hx, hy, e, k⟩ := h
  unfold opIsNotN at e
  split at e
  · cases e
    exact op_notN pins s σ H x y v u Q I rx ry ⟨hy.none, by rw [isNone_of (hx.hd sm)]; exact k.bool sm⟩
  · cases e
theorem o_isB : OpD X (compareOp .Is) opIsB := by
  intro pins s σ H x y v u Q I rx ry h
  obtain ⟨F, dx, dy, z, sm, hx, hy, e, k⟩ := h
  unfold opIsB at e
  split at e
  · cases e
    exact op_is_bl pins s σ H x y v u Q I rx ry ⟨_, _, hx.bool, hy.bool, k.bool sm⟩
  · cases e
theorem o_isNotB : OpD X (compareOp .IsNot) opIsNotB := by
  intro pins s σ H x y v u Q I rx ry h
  obtain ⟨F, dx, dy, z, sm, hx, hy, e, k⟩ := h
  unfold opIsNotB at e
  split at e
  · cases e
    exact op_isnot_bl pins s σ H x y v u Q I rx ry ⟨_, _, hx.bool, hy.bool, k.bool sm⟩
  · cases e
theorem o_neg : UnD X (unaryOp .USub) opNeg := by
  intro pins s σ H x v Q I rx h
  obtain ⟨F, dx, z, sm, hx, e, k⟩ := h
  unfold opNeg at e
  split at e
  · cases e
    exact un_neg pins s σ H x v Q I rx ⟨_, hx.int, k.int sm⟩
  · cases e
theorem cmp_lt (x y : PyData) (z : Rs) (h : opLt x y = some z) : ∃ b, z = .dat (.bool b) := by
  unfold opLt at h
  split at h <;> cases h
  exact ⟨_, rfl⟩
theorem cmp_le (x y : PyData) (z : Rs) (h : opLe x y = some z) : ∃ b, z = .dat (.bool b) := by
  unfold opLe at h
  split at h <;> cases h
  exact ⟨_, rfl⟩
/-- op= on ints -/
theorem p_add : PIp X .Add (rD opAddI) := by
  intro pins s σ H x y v u Q I rx ry h
  obtain ⟨F, dx, dy, z, sm, hx, hy, e, k⟩ := h
  unfold opAddI at e
  split at e
  · cases e
    exact ip_add pins s σ H x y v u Q I rx ry ⟨_, _, hx.int, hy.int, k.int sm⟩
  · cases e

/-! ### subscripts and slices -/
theorem atI_get {F : Hp} {vs : List V} {ds : List PyData} {i : Int} {d : PyData} (hs : HDs F vs ds) (h : atI ds i = some d) : ∃ v, atI vs i = some v ∧ HD F v d := by
  unfold atI at h ⊢
  simp only [Option.bind_eq_some_iff] at h
  obtain ⟨j, h1, h2⟩ := h
  obtain ⟨v, h3, h4⟩ := hs.get h2
  rw [hs.length, h1]
  exact ⟨v, h3, h4⟩
theorem o_ix : IxR X (rD opIx) := by
  intro value slice pins s σ H x y v u Q I rx ry h hs0
  obtain ⟨F, dx, dy, z, sm, hx, hy, e, k⟩ := h
  unfold opIx at e
  split at e
  · simp only [Option.map_eq_some_iff] at e
    obtain ⟨d, h1, h2⟩ := e
    cases h2
    obtain ⟨a, vs, rfl, ha, hs⟩ := hx.list sm
    obtain ⟨w, q1, q2⟩ := atI_get hs h1
    exact ix_list value slice pins s σ H _ y v u Q I rx ry ⟨a, vs, _, w, rfl, hy.int, .of ha, q1, k.dat sm q2⟩ hs0
  · simp only [Option.map_eq_some_iff] at e
    obtain ⟨d, h1, h2⟩ := e
    cases h2
    obtain ⟨a, vs, rfl, ha, hs⟩ := hx.tuple
    obtain ⟨w, q1, q2⟩ := atI_get hs h1
    exact ix_tup value slice pins s σ H _ y v u Q I rx ry ⟨a, vs, _, w, rfl, hy.int, .of (sm _ _ ha), q1, k.dat sm q2⟩ hs0
  · cases e
theorem HDs.cut {F : Hp} {vs : List V} {ds : List PyData} (hs : HDs F vs ds) (lo hi : Option Int) : HDs F (cutV vs lo hi) (cutD ds lo hi) := by
  unfold cutV cutD
  rw [hs.length]
  exact (hs.drop _).take _
def rCutD : V → Option Int → Option Int → Hp → VK → Prop := fun x lo hi H Q => ∃ F dx z, Same F H ∧ HV F H x dx ∧ opCut lo hi dx = some z ∧ RetW F H z Q
theorem o_cut : SlR X rCutD := by
  intro pins s σ H x v vl vu lo hi sl Q I rx hs0 pl pu h
  obtain ⟨F, dx, z, sm, hx, e, k⟩ := h
  unfold opCut at e
  split at e
  · cases e
    obtain ⟨a, vs, rfl, ha, hs⟩ := hx.list sm
    exact sl_list pins s σ H _ v vl vu lo hi sl Q I rx hs0 pl pu ⟨a, vs, rfl, .of ha, fun p hp => k.lst sm (hs.cut lo hi) hp⟩
  · cases e
    obtain ⟨a, vs, rfl, ha, hs⟩ := hx.tuple
    refine sl_tupA pins s σ H _ v vl vu lo hi sl Q I rx hs0 pl pu ⟨a, vs, rfl, .of (sm _ _ ha), fun w => ?_, fun _ p hp => k.tup sm (hs.cut lo hi) hp⟩
    rename_i ds
    have e3 : cutD ds lo hi = ds := by
      unfold cutD
      rw [hs.length] at w
      rw [w.1, w.2]
      simp
    rw [e3] at k
    exact k.same sm ha hs
  · rename_i z0
    split at e
    · rename_i hz
      cases e
      exact sl_str pins s σ H _ v vl vu lo hi sl Q I rx hs0 pl pu ⟨z0, hx.str, hz, k.str sm⟩
    · cases e
  · cases e
def tDO (f : FO) : TO := fun σ H Q => ∃ F env r env', Rep F H σ env ∧ f env = some (r, env') ∧
  ∀ F' H', Go F H (OwA σ env) F' H' (OwA σ env') → Rep F' H' σ env' → Q r H'
abbrev DO (X : Cx) (e : Option Expr) (f : FO) : Prop := PO X e (tDO f)
theorem PO.imp {e : Option Expr} {t t' : TO} (h : PO X e t) (k : ∀ σ H Q, t' σ H Q → t σ H Q) : PO X e t' := ⟨fun pins s σ H Q I q => h.run pins s σ H Q I (k σ H Q q)⟩
theorem do_none : DO X none foNone := PO.imp po_none fun σ H Q h => by
  obtain ⟨F, env, r, env', rep, e, k⟩ := h
  cases e
  exact k F H .refl rep
theorem do_some {e : Expr} {fa : FE} (h : DE X e fa) : DO X (some e) (foSome fa) := PO.imp (po_some h) fun σ H Q h => by
  obtain ⟨F, env, r, env', rep, e, k⟩ := h
  simp only [foSome, Option.bind_eq_some_iff] at e
  obtain ⟨⟨r1, e1⟩, h1, h2⟩ := e
  refine ⟨F, env, r1, e1, rep, h1, fun v F1 H1 g1 rep1 ok1 => ?_⟩
  split at h2
  · rename_i i hi
    simp only at hi
    cases h2
    subst hi
    cases ok1 with
    | dat hd =>
      cases hd
      exact ⟨i, rfl, k F1 H1 g1 rep1⟩
  · cases h2
theorem de_cut {e : Expr} {lo hi : Option Expr} {fa : FE} {fl fh : FO} {p2 pos : Pos} (he : DE X e fa) (hl : DO X lo fl) (hh : DO X hi fh) : DE X (.Subscript e (.Slice lo hi none p2) pos) (fCut fa fl fh) := PE.imp (pe_slice o_cut he hl hh) fun σ H Q h => by
  obtain ⟨F, env, r, env', rep, e, k⟩ := h
  simp only [fCut, Option.bind_eq_some_iff, Option.map_eq_some_iff] at e
  obtain ⟨⟨r1, e1⟩, h1, ⟨l, e2⟩, h2, ⟨u, e3⟩, h3, x, h4, z, h5, h6⟩ := e
  cases h6
  refine ⟨F, env, r1, e1, rep, h1, fun v F1 H1 g1 rep1 ok1 => ⟨F1, e1, l, e2, rep1, h2, fun F2 H2 g2 rep2 => ⟨F2, e2, u, _, rep2, h3, fun F3 H3 g3 rep3 => ?_⟩⟩⟩
  refine ⟨F3, x, r, rep3.sub, ((ok1.go g2).go g3).view rep3 h4, h5, ?_⟩
  exact ((g1.trans g2).trans g3).ret rep3 k
theorem de_ix {a b : Expr} {fa fb : FE} {pos : Pos} (ha : DE X a fa) (hb : DE X b fb) (hs : PlainIx b) : DE X (.Subscript a b pos) (fBin opIx fa fb) := PE.imp (pe_ix o_ix ha hb hs) bin_imp
theorem de_rev {e : Expr} {fa : FE} {k : Nat} {p1 p2 p3 pos : Pos} (he : DE X e fa) : DE X (.Subscript e (.Slice none none (some (.UnaryOp .USub (.Constant (.int 1) k p1) p2)) p3) pos) (fUn opRev fa) := PE.imp (pe_revL he) fun σ H Q h => by
  obtain ⟨F, env, r, env', rep, e, k⟩ := h
  simp only [fUn, Option.bind_eq_some_iff, Option.map_eq_some_iff] at e
  obtain ⟨⟨r1, e1⟩, h1, x, hx, z, hz, e3⟩ := e
  cases e3
  refine ⟨F, env, r1, _, rep, h1, fun v F1 H1 g1 rep1 ok1 => ?_⟩
  unfold opRev at hz
  split at hz
  · cases hz
    obtain ⟨a, vs, rfl, ha, hs⟩ := (ok1.view rep1 hx).list rep1.sub
    exact ⟨a, vs, rfl, .of ha, fun p hp => (g1.ret rep1 k).lst rep1.sub hs.reverse hp⟩
  · cases hz

/-! ### built-ins of one argument -/
def rC1 (op : PyData → Option Rs) : List V → Hp → VK → Prop := fun xs H Q => ∃ x, xs = [x] ∧ rD1 op x H Q
def rC2 (op : PyData → PyData → Option Rs) : List V → Hp → VK → Prop := fun xs H Q => ∃ x y, xs = [x, y] ∧ rD op x y H Q
section
variable {x : Str} {p pos : Pos} {e e2 : Expr} {fa fb : FE} {id T : String} {op : PyData → Option Rs} {op2 : PyData → PyData → Option Rs}
theorem c1_imp (σ : L2.St) (H : Hp) (Q : VK) (h : tD (fUn op fa) σ H Q) : tCB (rC1 op) (tCons (tD fa) tNil) σ H Q := by
  obtain ⟨F, env, r, env', rep, e, k⟩ := un_imp σ H Q h
  exact ⟨F, env, r, env', rep, e, fun v F1 H1 g1 rep1 ok1 => ⟨v, rfl, k v F1 H1 g1 rep1 ok1⟩⟩
theorem c2_imp (σ : L2.St) (H : Hp) (Q : VK) (h : tD (fBin op2 fa fb) σ H Q) : tCB (rC2 op2) (tCons (tD fa) (tCons (tD fb) tNil)) σ H Q := by
  obtain ⟨F, env, r, env', rep, e, k⟩ := bin_imp σ H Q h
  refine ⟨F, env, r, env', rep, e, fun v F1 H1 g1 rep1 ok1 => ?_⟩
  obtain ⟨F2, env2, r2, env2', rep2, e2, k2⟩ := k v F1 H1 g1 rep1 ok1
  exact ⟨F2, env2, r2, env2', rep2, e2, fun w F3 H3 g3 rep3 ok3 => ⟨v, w, rfl, k2 w F3 H3 g3 rep3 ok3⟩⟩
theorem de_b1 (hc : CallR X (.builtin id) (rC1 op)) (hg : Gl X x) (hm : X.mg x = none) (hv : bootBuiltins x = some (.builtin id)) (ha : DE X e fa) (hn : x ≠ "__name__" := by decide) (hdb : (x == ("__debug__" : Str)) = false := by decide)
    (hs : starEach [e] X.env = (false, eval e X.env) :: starEach [] X.env := by rfl) (hpl : (backTo pos (starEach [] X.env)).any (·.1) = false := by rfl) : DE X (.Call (.Name x p) [e] [] pos) (fUn op fa) := PE.imp (pe_callB hc hg hm hv (pa_cons ha pa_nil hs) hn hdb hs hpl) c1_imp
theorem de_b2 (hc : CallR X (.builtin id) (rC2 op2)) (hg : Gl X x) (hm : X.mg x = none) (hv : bootBuiltins x = some (.builtin id)) (ha : DE X e fa) (hb : DE X e2 fb) (hn : x ≠ "__name__" := by decide) (hdb : (x == ("__debug__" : Str)) = false := by decide)
    (hs : starEach [e, e2] X.env = (false, eval e X.env) :: starEach [e2] X.env := by rfl) (hs2 : starEach [e2] X.env = (false, eval e2 X.env) :: starEach [] X.env := by rfl) (hpl : (backTo pos (starEach [e2] X.env)).any (·.1) = false := by rfl) : DE X (.Call (.Name x p) [e, e2] [] pos) (fBin op2 fa fb) :=
  PE.imp (pe_callB hc hg hm hv (pa_cons ha (pa_cons hb pa_nil hs2) hs) hn hdb hs hpl) c2_imp
theorem de_t1 (hc : CallR X (.type T) (rC1 op)) (hg : Gl X x) (hm : X.mg x = none) (hv : bootBuiltins x = some (.type T)) (ha : DE X e fa) (hn : x ≠ "__name__" := by decide) (hdb : (x == ("__debug__" : Str)) = false := by decide)
    (hs : starEach [e] X.env = (false, eval e X.env) :: starEach [] X.env := by rfl) (hpl : (backTo pos (starEach [] X.env)).any (·.1) = false := by rfl) : DE X (.Call (.Name x p) [e] [] pos) (fUn op fa) := PE.imp (pe_callTy hc hg hm hv (pa_cons ha pa_nil hs) hn hdb hs hpl) c1_imp
end
theorem b_len : CallR X (.builtin "len") (rC1 bLen) := by
  intro pins s σ H xs us Q I r h
  obtain ⟨x, rfl, F, dx, z, sm, hx, e, k⟩ := h
  unfold bLen at e
  split at e
  · cases e
    obtain ⟨a, vs, rfl, ha, hs⟩ := hx.list sm
    exact call_len pins s σ H _ us Q I r ⟨_, vs.length, rfl, .inl ⟨vs, .of ha, rfl⟩, by rw [hs.length]; exact k.int sm⟩
  · cases e
    obtain ⟨a, vs, rfl, ha, hs⟩ := hx.tuple
    exact call_len pins s σ H _ us Q I r ⟨_, vs.length, rfl, .inr ⟨vs, .of (sm _ _ ha), rfl⟩, by rw [hs.length]; exact k.int sm⟩
  · rename_i y
    split at e
    · rename_i hz
      cases e
      have e2 := hx.str
      subst e2
      exact call_len pins s σ H _ us Q I r ⟨_, y.length, rfl, ⟨hz, rfl⟩, k.int sm⟩
    · cases e
  · cases e
theorem b_int : CallR X (.type "int") (rC1 bInt) := by
  intro pins s σ H xs us Q I r h
  obtain ⟨x, rfl, F, dx, z, sm, hx, e, k⟩ := h
  unfold bInt at e
  split at e
  · cases e
    have e2 := hx.int
    subst e2
    exact call_int1 pins s σ H _ us Q I r (.inl ⟨_, rfl, k.int sm⟩)
  · cases e
    have e2 := hx.bool
    subst e2
    exact call_int1 pins s σ H _ us Q I r (.inr ⟨_, rfl, k.int sm⟩)
  · cases e
theorem b_bool : CallR X (.type "bool") (rC1 bBool) := by
  intro pins s σ H xs us Q I r h
  obtain ⟨x, rfl, F, dx, z, sm, hx, e, k⟩ := h
  unfold bBool at e
  split at e
  · cases e
    have e2 := hx.bool
    subst e2
    exact call_bool1 pins s σ H _ us Q I r (.inr ⟨_, rfl, k.bool sm⟩)
  · cases e
    have e2 := hx.int
    subst e2
    exact call_bool1 pins s σ H _ us Q I r (.inl ⟨_, rfl, k.bool sm⟩)
  · cases e
theorem b_tuple : CallR X (.type "tuple") (rC1 bTuple) := by
  intro pins s σ H xs us Q I r h
  obtain ⟨x, rfl, F, dx, z, sm, hx, e, k⟩ := h
  unfold bTuple at e
  split at e
  · cases e
    obtain ⟨a, vs, rfl, ha, hs⟩ := hx.list sm
    exact call_tuple_of pins s σ H _ us Q I r ⟨a, vs, rfl, .inl ⟨.of ha, fun l hl => k.tup sm hs hl⟩⟩
  · cases e
    obtain ⟨a, vs, rfl, ha, hs⟩ := hx.tuple
    exact call_tuple_of pins s σ H _ us Q I r ⟨a, vs, rfl, .inr ⟨.of (sm _ _ ha), k.same sm ha hs⟩⟩
  · cases e
theorem b_list : CallR X (.type "list") (rC1 bList) := by
  intro pins s σ H xs us Q I r h
  obtain ⟨x, rfl, F, dx, z, sm, hx, e, k⟩ := h
  unfold bList at e
  split at e
  · cases e
    obtain ⟨a, vs, rfl, ha, hs⟩ := hx.list sm
    exact call_list_of pins s σ H _ us Q I r ⟨a, vs, rfl, .inl (.of ha), fun l hl => k.lst sm hs hl⟩
  · cases e
    obtain ⟨a, vs, rfl, ha, hs⟩ := hx.tuple
    exact call_list_of pins s σ H _ us Q I r ⟨a, vs, rfl, .inr (.of (sm _ _ ha)), fun l hl => k.lst sm hs hl⟩
  · cases e
theorem ints_of {F : Hp} : ∀ {ds : List PyData} {vs : List V} {is : List Int}, HDs F vs ds → intsOf ds = some is → vs = is.map V.int
  | [], _, _, .nil, e => by cases e; rfl
  | d :: ds, _, is, .cons h hs, e => by
    cases d with
    | int i =>
      simp only [intsOf, Option.map_eq_some_iff] at e
      obtain ⟨js, h1, h2⟩ := e
      subst h2
      cases h
      rw [ints_of hs h1]
      rfl
    | _ => simp [intsOf] at e
theorem bools_of {F : Hp} : ∀ {ds : List PyData} {vs : List V} {is : List Bool}, HDs F vs ds → boolsOf ds = some is → vs = is.map V.bl
  | [], _, _, .nil, e => by cases e; rfl
  | d :: ds, _, is, .cons h hs, e => by
    cases d with
    | bool i =>
      simp only [boolsOf, Option.map_eq_some_iff] at e
      obtain ⟨js, h1, h2⟩ := e
      subst h2
      cases h
      rw [bools_of hs h1]
      rfl
    | _ => simp [boolsOf] at e
theorem b_sum (hc : X.calm = true) : CallR X (.builtin "sum") (rC1 bSum) := by
  intro pins s σ H xs us Q I r h
  obtain ⟨x, rfl, F, dx, z, sm, hx, e, k⟩ := h
  unfold bSum at e
  split at e
  · simp only [Option.map_eq_some_iff] at e
    obtain ⟨is, h1, h2⟩ := e
    cases h2
    obtain ⟨a, vs, rfl, ha, hs⟩ := hx.list sm
    rw [ints_of hs h1] at ha
    exact cr_sum hc pins s σ H _ us Q I r ⟨a, is, rfl, .of ha, k.int sm⟩
  · cases e
theorem b_all (hc : X.calm = true) : CallR X (.builtin "all") (rC1 bAll) := by
  intro pins s σ H xs us Q I r h
  obtain ⟨x, rfl, F, dx, z, sm, hx, e, k⟩ := h
  unfold bAll at e
  split at e
  · simp only [Option.map_eq_some_iff] at e
    obtain ⟨is, h1, h2⟩ := e
    cases h2
    obtain ⟨a, vs, rfl, ha, hs⟩ := hx.list sm
    rw [bools_of hs h1] at ha
    exact cr_all hc pins s σ H _ us Q I r ⟨a, is, rfl, .of ha, k.bool sm⟩
  · cases e
theorem minL_le : ∀ (r : List Int) (m : Int), minL m r ≤ m ∧ (∀ y ∈ r, minL m r ≤ y) ∧ (minL m r = m ∨ minL m r ∈ r)
  | [], m => ⟨Int.le_refl m, fun y h => absurd h (by simp), Or.inl rfl⟩
  | x :: r, m => by
    obtain ⟨h1, h2, h3⟩ := minL_le r (if x < m then x else m)
    simp only [minL]
    by_cases hx : x < m
    · rw [if_pos hx] at h1 h2 h3 ⊢
      refine ⟨by omega, fun y hy => ?_, ?_⟩
      · rcases List.mem_cons.mp hy with rfl | hy
        · exact h1
        · exact h2 y hy
      · rcases h3 with h3 | h3
        · exact .inr (by rw [h3]; exact List.mem_cons_self ..)
        · exact .inr (List.mem_cons_of_mem _ h3)
    · rw [if_neg hx] at h1 h2 h3 ⊢
      refine ⟨h1, fun y hy => ?_, ?_⟩
      · rcases List.mem_cons.mp hy with rfl | hy
        · omega
        · exact h2 y hy
      · rcases h3 with h3 | h3
        · exact .inl h3
        · exact .inr (List.mem_cons_of_mem _ h3)
theorem b_min (hc : X.calm = true) : CallR X (.builtin "min") (rC1 bMin) := by
  intro pins s σ H xs us Q I r h
  obtain ⟨x, rfl, F, dx, z, sm, hx, e, k⟩ := h
  unfold bMin at e
  split at e
  · simp only [Option.bind_eq_some_iff] at e
    obtain ⟨is, h1, h2⟩ := e
    split at h2
    · rename_i y r'
      cases h2
      obtain ⟨a, vs, rfl, ha, hs⟩ := hx.list sm
      rw [ints_of hs h1] at ha
      refine cr_min hc pins s σ H _ us Q I r ⟨a, _, rfl, .of ha, by simp, fun m hm hle => ?_⟩
      obtain ⟨g1, g2, g3⟩ := minL_le r' y
      have e1 : minL y r' ≤ m := by
        rcases List.mem_cons.mp hm with rfl | hm
        · exact g1
        · exact g2 m hm
      have e2 : m ≤ minL y r' := by
        rcases g3 with g3 | g3
        · rw [g3]; exact hle y (List.mem_cons_self ..)
        · exact hle _ (List.mem_cons_of_mem _ g3)
      have e3 : m = minL y r' := Int.le_antisymm e2 e1
      rw [e3]
      exact k.int sm
    · cases h2
  · cases e
theorem b_max2 (hc : X.calm = true) : CallR X (.builtin "max") (rC2 bMax2) := by
  intro pins s σ H xs us Q I r h
  obtain ⟨x, y, rfl, F, dx, dy, z, sm, hx, hy, e, k⟩ := h
  unfold bMax2 at e
  split at e
  · cases e
    have e2 := hx.int
    have e3 := hy.int
    subst e2 e3
    exact call_max2 hc pins s σ H _ us Q I r ⟨_, _, rfl, k.int sm⟩
  · cases e
theorem b_min2 (hc : X.calm = true) : CallR X (.builtin "min") (rC2 bMin2) := by
  intro pins s σ H xs us Q I r h
  obtain ⟨x, y, rfl, F, dx, dy, z, sm, hx, hy, e, k⟩ := h
  unfold bMin2 at e
  split at e
  · cases e
    have e2 := hx.int
    have e3 := hy.int
    subst e2 e3
    exact call_min2 hc pins s σ H _ us Q I r ⟨_, _, rfl, k.int sm⟩
  · cases e
theorem b_abs : CallR X (.builtin "abs") (rC1 bAbs) := by
  intro pins s σ H xs us Q I r h
  obtain ⟨x, rfl, F, dx, z, sm, hx, e, k⟩ := h
  unfold bAbs at e
  split at e
  · cases e
    have e2 := hx.int
    subst e2
    exact call_abs pins s σ H _ us Q I r ⟨_, rfl, k.int sm⟩
  · cases e
/-! isinstance -/
theorem tyOf_of {K : PySem.W.Frag} {H : Hp} {v : V} {d : PyData} {t : String} (h : HD H v d) (e : tyName d = some t) : TyOf K H v (.type t) := by
  cases h with
  | non => cases e; exact .non
  | bl b => cases e; exact .bl b
  | int i => cases e; exact .int i
  | str x => cases e; exact .str x
  | lst h hs => cases e; exact .lst h
  | tup h hs => cases e; exact .tup h
  | dct _ _ _ => cases e
  | obj _ _ _ => cases e
  | plc _ => cases e
/-- the classes asked for, each known to the six types -/
def kitAll (T : String) : Bool := ["NoneType", "bool", "int", "str", "list", "tuple"].all fun t => decide (kitB t T = some (isTy T t))
theorem tyName_mem {d : PyData} {t : String} (e : tyName d = some t) : t ∈ ["NoneType", "bool", "int", "str", "list", "tuple"] := by
  cases d <;> cases e <;> simp
theorem kit_all {T : String} (h : kitAll T = true) {d : PyData} {t : String} (e : tyName d = some t) : kitB t T = some (isTy T t) := by
  have := List.all_eq_true.mp h t (tyName_mem e)
  exact of_decide_eq_true this
theorem isi_imp {T : String} (hT : kitAll T = true) {fa : FE} (σ : L2.St) (H : Hp) (Q : VK) (h : tD (fUn (bIsi [T]) fa) σ H Q) : tCB (rIsi X.K) (tCons (tD fa) (tCons (tC (.ty T)) tNil)) σ H Q := by
  obtain ⟨F, env, r, env', rep, e, k⟩ := un_imp σ H Q h
  refine ⟨F, env, r, env', rep, e, fun v F1 H1 g1 rep1 ok1 => ?_⟩
  obtain ⟨F2, dx, z, sm, hx, ez, kz⟩ := k v F1 H1 g1 rep1 ok1
  unfold bIsi at ez
  simp only [Option.map_eq_some_iff] at ez
  obtain ⟨t, h1, h2⟩ := ez
  cases h2
  refine ⟨v, .ty T, .type t, .type T, _, rfl, .ty T, .base (tyOf_of (hx.hd sm) h1), kit_ty (kit_all hT h1), ?_⟩
  have e2 : ([T].any fun T => isTy T t) = isTy T t := by simp
  rw [e2] at kz
  exact kz.bool sm
theorem de_isi {e : Expr} {fa : FE} {p q pos : Pos} {x : Str} {Tn : String} (hg : Gl X "isinstance") (hm : X.mg "isinstance" = none) (hgT : Gl X x) (hmT : X.mg x = none) (hv : bootBuiltins x = some (.type Tn)) (hT : kitAll Tn = true) (he : DE X e fa)
    (hn : x ≠ "__name__" := by decide) (hd : (x == ("__debug__" : Str)) = false := by decide)
    (hs : starEach [e, .Name x q] X.env = (false, eval e X.env) :: starEach [.Name x q] X.env := by rfl) (hs2 : starEach [.Name x q] X.env = (false, eval (.Name x q) X.env) :: starEach [] X.env := by rfl) (hpl : (backTo pos (starEach [.Name x q] X.env)).any (·.1) = false := by rfl) :
    DE X (.Call (.Name "isinstance" p) [e, .Name x q] [] pos) (fUn (bIsi [Tn]) fa) :=
  PE.imp (pe_callB call_isi hg hm (by decide +kernel) (pa_cons he (pa_cons (pe_bltn (v := .ty Tn) hgT hmT hv rfl hn hd) pa_nil hs2) hs) (by decide) (by decide) hs hpl) (isi_imp hT)
/-- isinstance(x, (T, U)) -/
theorem isi2_imp {T U : String} (hT : kitAll T = true) (hU : kitAll U = true) {fa : FE} (σ : L2.St) (H : Hp) (Q : VK) (h : tD (fUn (bIsi [T, U]) fa) σ H Q) : tCB (rIsiT X.K) (tCons (tD fa) (tCons (tTup (tCons (tC (.ty T)) (tCons (tC (.ty U)) tNil))) tNil)) σ H Q := by
  obtain ⟨F, env, r, env', rep, e, k⟩ := un_imp σ H Q h
  refine ⟨F, env, r, env', rep, e, fun v F1 H1 g1 rep1 ok1 => ⟨by show 2 ≤ sizeLine; decide, fun p hp => ?_⟩⟩
  obtain ⟨F2, dx, z, sm, hx, ez, kz⟩ := k v F1 H1 g1 rep1 ok1
  unfold bIsi at ez
  simp only [Option.map_eq_some_iff] at ez
  obtain ⟨t, h1, h2⟩ := ez
  cases h2
  have hd := (hx.hd sm).mono (same_new (o := .tup [.ty T, .ty U]) hp)
  have e3 : PySem.W.kitAny X.K (.type t) [.type T, .type U] = some (isTy T t || isTy U t) := by
    refine kitAny_cons (kit_ty (kit_all hT h1)) (fun z => ?_) (fun z => by rw [z]; rfl)
    rw [z, Bool.false_or]
    exact kitAny_cons (kit_ty (kit_all hU h1)) (fun z2 => by rw [z2]; rfl) fun z2 => z2
  refine ⟨v, p, [.ty T, .ty U], .type t, [.type T, .type U], _, rfl, upd_same, .cons (.ty T) (.cons (.ty U) .nil), .base (tyOf_of hd h1), e3, ?_⟩
  have e4 : ([T, U].any fun T => isTy T t) = (isTy T t || isTy U t) := by simp
  rw [e4] at kz
  exact kz _ F2 _ ⟨.refl _, sm.trans (same_new hp), same_new hp, fun _ z => .inl z⟩ (.dat (.bl _))
end
end DL

/-! DL7: what the printed derivations name; the law's own def. -/
namespace DL
open PySem PySem.Spec PyProof.Rows L2

theorem hu65 {k : Nat} {A : Around} (r : Room k A) : A.units + 65 < cLine := by have := r.un; omega
theorem bo_len : bootBuiltins "len" = some (.builtin "len") := by decide +kernel
theorem bo_int : bootBuiltins "int" = some (.type "int") := by decide +kernel
theorem bo_bool : bootBuiltins "bool" = some (.type "bool") := by decide +kernel
theorem bo_tuple : bootBuiltins "tuple" = some (.type "tuple") := by decide +kernel
theorem bo_list : bootBuiltins "list" = some (.type "list") := by decide +kernel
theorem bo_str : bootBuiltins "str" = some (.type "str") := by decide +kernel
theorem bo_sum : bootBuiltins "sum" = some (.builtin "sum") := by decide +kernel
theorem bo_all : bootBuiltins "all" = some (.builtin "all") := by decide +kernel
theorem bo_min : bootBuiltins "min" = some (.builtin "min") := by decide +kernel
theorem bo_max : bootBuiltins "max" = some (.builtin "max") := by decide +kernel
theorem bo_abs : bootBuiltins "abs" = some (.builtin "abs") := by decide +kernel
section
variable {X : Cx} {pos : Pos}
theorem de_globI {x : Str} {i : Int} (hg : Gl X x) (h : ∃ t, X.mg x = some (.int i t)) (hdb : (x == ("__debug__" : Str)) = false := by decide) : DE X (.Name x pos) (fC (.int i)) := by
  obtain ⟨t, e⟩ := h
  exact de_glob hg e (v := .int i) ⟨t, rfl⟩ (fun F => .int i) hdb
end
section
variable {P : Program} {w : World} {K : PySem.W.Frag} {mg : Str → Option Value} {base : Heap}
/-- a def that may be called by its name -/
structure Cal (P : Program) (w : World) (K : PySem.W.Frag) (mg : Str → Option Value) (base : Heap) (k : Nat) (x : Str) (sp : Sp) : Prop where
  ex : ∃ f fd ps, FnOk P w K mg base CX0 k f fd ps sp ∧ mg x = some (.ref f) ∧ PySem.W.keepIn K (.ref f) = true ∧ Binds K fd ps []
abbrev CalD (P : Program) (w : World) (K : PySem.W.Frag) (mg : Str → Option Value) (base : Heap) (k : Nat) (x : Str) (n : Nat) (R : Fn) : Prop := Cal P w K mg base k x (spD n R)
abbrev CalTD (P : Program) (w : World) (K : PySem.W.Frag) (mg : Str → Option Value) (base : Heap) (k : Nat) (x : Str) (n : Nat) (R : FnT) : Prop := Cal P w K mg base k x (spT n R)
theorem Cal.mk' {k : Nat} {x : Str} {sp : Sp} {f : Addr} {fd : FuncData} {ps : List Str} {qual : Str} {params body scope} (F : FunD K x qual params body scope [] [] f fd) (ok : FnOk P w K mg base CX0 k f fd ps sp) (hm : mg x = some (.ref f)) (hb : Binds K fd ps []) : Cal P w K mg base k x sp := ⟨f, fd, ps, ok, hm, F.kp, hb⟩
end
section
variable {X : Cx} {k i n : Nat} {x : Str} {p pos : Pos} {e : Expr} {es : List Expr} {g : FA} {R : Fn} {RT : FnT} {fa : FE}
theorem de_callD (C : CalD X.prog X.w X.K X.mg X.base k x n R) (hr : Room k X.A) (hg : Gl X x) (ha : DA X (e :: es) g) (hdb : (x == ("__debug__" : Str)) = false := by decide) (he : starEach (e :: es) X.env = (false, eval e X.env) :: starEach es X.env := by rfl) (hpl : (backTo pos (starEach es X.env)).any (·.1) = false := by rfl) :
    DE X (.Call (.Name x p) (e :: es) [] pos) (fCallN n R g) := by
  obtain ⟨f, fd, ps, ok, hm, hk, hb⟩ := C.ex
  exact de_call ok hr hg hm hk hb pass0 ha hdb he hpl
theorem de_callTD {y : Str} {py : Pos} (C : CalTD X.prog X.w X.K X.mg X.base k x n RT) (hr : Room k X.A) (hg : Gl X x) (hy : PE X (.Name y py) (tVar i)) (ha : DA X es g) (hdb : (x == ("__debug__" : Str)) = false := by decide) (he : starEach (.Name y py :: es) X.env = (false, eval (.Name y py) X.env) :: starEach es X.env := by rfl) (hpl : (backTo pos (starEach es X.env)).any (·.1) = false := by rfl) :
    DE X (.Call (.Name x p) (.Name y py :: es) [] pos) (fCallTN n RT i g) := by
  obtain ⟨f, fd, ps, ok, hm, hk, hb⟩ := C.ex
  exact de_callT ok hr hg hm hk hb pass0 hy ha hdb he hpl
end

/-- a promise that asks what never holds -/
theorem fn_none {P : Program} {w : World} {K : PySem.W.Frag} {mg : Str → Option Value} {base : Heap} {x qual : Str} {args : Arguments} {body : List Stmt} {scope : Scope} {f : Addr} {fd : FuncData} {N ps : List Str} {k n : Nat} (F : FunD K x qual args body scope [] [] f fd) (S : FnScope N ps scope) (hn : ps.length = n) :
    FnOk P w K mg base CX0 (k + 1) f fd ps (spD n fun _ => none) := by
  refine F.ok S (fun vs H Q E h => ?_) (fun cdv A outer s H vs Q E hr h => ?_)
  · obtain ⟨F, ds, r, _, hs, h1, _⟩ := h
    exact hs.length.trans (h1.trans hn.symm)
  · obtain ⟨F, ds, r, _, _, _, e, _⟩ := h
    cases e

/-! ### the law's own def: tape = [list(script), 0, 0], then the rest -/
def spLaw (K : PySem.W.Frag) : Sp := fun vs H Q _ => ∃ (a : Addr) (ns : List Int), vs = [.ref a] ∧ SqL K H a (ns.map V.int) ∧ ns.length ≤ 63 ∧ ∀ H', Q (.bl true) H'
def lawEnv (n : Nat) (ns : List Int) : Env := .dead :: .own false [.list (ns.map PyData.int), .int 0, .int 0] :: List.replicate (n - 2) .dead
theorem HDs.ints {F : Hp} : ∀ ns : List Int, HDs F (ns.map V.int) (ns.map PyData.int)
  | [] => .nil
  | n :: r => .cons (.int n) (HDs.ints r)
def rListOf (K : PySem.W.Frag) : List V → Hp → VK → Prop := fun xs H Q => ∃ p ys, xs = [V.ref p] ∧ (SqL K H p ys ∨ SqT K H p ys) ∧ ∀ l, H l = none → Q (.ref l) (upd H l (.lst ys))
theorem c_list {X : Cx} : CallR X (.type "list") (rListOf X.K) := call_list_of
def tLaw (K : PySem.W.Frag) : TS := tAsg (tLst (tCons (tCB (rListOf K) (tCons (tVar 0) tNil)) (tCons (tC (.int 0)) (tCons (tC (.int 0)) tNil)))) (gName 1)
section
variable {P : Program} {w : World} {K : PySem.W.Frag} {mg : Str → Option Value} {base : Heap}
theorem law_start {N' : List Str} {x y : Str} {a : Addr} {ns : List Int} {H : Hp} {g : FS} {D : Ends} (hS : SqL K H a (ns.map V.int)) (law : ∃ env, g (lawEnv (x :: y :: N').length ns) = some (.rt (.dat (.bool true)) env)) (k : ∀ H', D.rt (.bl true) H') : tSeq (tLaw K) (tS g) D (L2.start (x :: y :: N') [.ref a]) H := by
  obtain ⟨env, e⟩ := law
  refine ⟨.ref a, rfl, a, ns.map V.int, rfl, .inl hS, fun p hp => ⟨by show 3 ≤ sizeLine; decide, fun q hq => ?_⟩⟩
  have s1 : Same H (upd H p (.lst (ns.map V.int))) := same_new hp
  have s2 := same_new (o := .lst [V.ref p, .int 0, .int 0]) hq
  refine ⟨upd H p (.lst (ns.map V.int)), _, _, ?_, e, ?_⟩
  · have hl : (L2.start (x :: y :: N') [.ref a]) = some (.ref a) :: none :: List.replicate N'.length none := by
      unfold L2.start
      simp [List.replicate_succ]
    have henv : lawEnv (x :: y :: N').length ns = .dead :: .own false [.list (ns.map PyData.int), .int 0, .int 0] :: List.replicate N'.length .dead := by
      unfold lawEnv
      simp
    have rd : ∀ (j : Nat) (s : Sl), (List.replicate N'.length Sl.dead)[j]? = some s → s = .dead := fun j s h => by
      rw [List.getElem?_replicate] at h
      split at h
      · cases h; rfl
      · cases h
    rw [hl, henv]
    refine ⟨s2, by simp, fun j d hj => ?_, fun j d hj => ?_, fun j c d hj => ?_, fun j j' c c' es es' b h1 h2 _ _ => ?_⟩
    · match j, hj with
      | 0, h => cases h
      | 1, h => cases h
      | j + 2, h => cases rd j _ h
    · match j, hj with
      | 0, h => cases h
      | 1, h => cases h
      | j + 2, h => cases rd j _ h
    · match j, hj with
      | 0, h => cases h
      | 1, h =>
        cases h
        refine ⟨q, _, rfl, hq, upd_same, .cons (.lst upd_same (HDs.ints ns)) (.cons (.int 0) (.cons (.int 0) .nil))⟩
      | j + 2, h => cases rd j _ h
    · match j, j', h1, h2 with
      | 0, _, h, _ => cases h
      | 1, 0, _, h => cases h
      | 1, 1, _, _ => rfl
      | 1, j + 2, _, h => cases rd j _ h
      | j + 2, _, h, _ => cases rd j _ h
  · intro v σ' F' H' g' rep' ok
    cases ok with
    | dat h =>
      cases h
      exact k H'
theorem fn_law {x qual : Str} {args : Arguments} {scope : Scope} {first : Stmt} {rest : List Stmt} {f : Addr} {fd : FuncData} {N' : List Str} {y z : Str} {k : Nat} {g : FS}
    (F : FunD K x qual args (first :: rest) scope [] [] f fd) (S : FnScope (y :: z :: N') ["script"] scope)
    (hb : ∀ (cdv : Value) (A : Around) (outer : List PySem.Env) (s : Shared) (H : Hp) (E : XK), Room k (A.deeper (envOfC qual scope s.heap.objs.size f cdv)) →
      PS (cxOf CX0 P w K mg base (y :: z :: N') qual scope f cdv A outer s H E).nox first (tLaw K) ∧ DB (cxOf CX0 P w K mg base (y :: z :: N') qual scope f cdv A outer s H E).nox rest g)
    (law : ∀ ns : List Int, ns.length ≤ 63 → ∃ env, g (lawEnv (y :: z :: N').length ns) = some (.rt (.dat (.bool true)) env)) :
    FnOk P w K mg base CX0 (k + 1) f fd ["script"] (spLaw K) := by
  refine F.ok S (fun vs H Q E h => ?_) (fun cdv A outer s H vs Q E hr h => ⟨tSeq (tLaw K) (tS g), PSs.nox (pss_cons (hb cdv A outer s H E hr).1 (hb cdv A outer s H E hr).2), ?_⟩)
  · obtain ⟨a, ns, rfl, _⟩ := h
    rfl
  · obtain ⟨a, ns, rfl, hS, hl, k⟩ := h
    exact law_start hS (law ns hl) k
end
end DL

/-! EV: how a reading is worked out, step by step. -/
namespace DL
open PySem PySem.Spec PyProof.Rows L2
section
variable {env e e1 e2 e3 : Env} {fa fb fc : FE} {r r1 r2 r3 : Rs} {x y z d : PyData} {op op' : PyData → PyData → Option Rs} {u : PyData → Option Rs} {t s : FT} {b b1 b2 : Bool} {i j n np : Nat} {o : Out} {p q : FS} {ds es ts : List PyData} {g : FG} {it : FI} {vs : List Nat}
theorem ev_bin (h1 : fa env = some (r1, e1)) (h2 : fb e1 = some (r2, e2)) (h3 : view e2 r1 = some x) (h4 : view e2 r2 = some y) (h5 : op x y = some r) : fBin op fa fb env = some (r, e2) := by
  unfold fBin
  rw [h1, Option.bind_some, h2, Option.bind_some, h3, Option.bind_some, h4, Option.bind_some, h5]
  rfl
/-- both sides data -/
theorem ev_bind (h1 : fa env = some (.dat x, e1)) (h2 : fb e1 = some (.dat y, e2)) (h5 : op x y = some r) : fBin op fa fb env = some (r, e2) := ev_bin h1 h2 rfl rfl h5
theorem ev_un (h1 : fa env = some (r1, e1)) (h3 : view e1 r1 = some x) (h5 : u x = some r) : fUn u fa env = some (r, e1) := by
  unfold fUn
  rw [h1, Option.bind_some, h3, Option.bind_some, h5]
  rfl
theorem ev_B (h : fa env = some (.dat (.bool b), e)) : fB fa env = some (b, e) := by
  unfold fB
  rw [h, Option.bind_some]
theorem ev_and (h1 : s env = some (b1, e1)) (h2 : b1 = true → t e1 = some (b2, e2)) (h3 : b1 = false → e1 = e2) : ftAnd s t env = some (b1 && b2, e2) := by
  unfold ftAnd
  rw [h1, Option.bind_some]
  cases b1 with
  | true => rw [if_pos rfl, h2 rfl]; rfl
  | false => rw [if_neg (by simp), h3 rfl]; rfl
theorem ev_or (h1 : s env = some (b1, e1)) (h2 : b1 = false → t e1 = some (b2, e2)) (h3 : b1 = true → e1 = e2) : ftOr s t env = some (b1 || b2, e2) := by
  unfold ftOr
  rw [h1, Option.bind_some]
  cases b1 with
  | false => rw [if_neg (by simp), h2 rfl]; rfl
  | true => rw [if_pos rfl, h3 rfl]; rfl
theorem ev_not (h1 : s env = some (b1, e1)) : ftNot s env = some (!b1, e1) := by
  unfold ftNot
  rw [h1]
  rfl
theorem ev_ofT (h1 : s env = some (b1, e1)) : fOfT s env = some (.dat (.bool b1), e1) := by
  unfold fOfT
  rw [h1]
  rfl
theorem ev_ifE (h1 : s env = some (b, e1)) (h2 : b = true → fa e1 = some (r, e2)) (h3 : b = false → fb e1 = some (r, e2)) : fIf s fa fb env = some (r, e2) := by
  unfold fIf
  rw [h1, Option.bind_some]
  cases b with
  | true => rw [if_pos rfl, h2 rfl]
  | false => rw [if_neg (by simp), h3 rfl]
theorem ev_andE (h1 : s env = some (b1, e1)) (h2 : b1 = true → fb e1 = some (.dat (.bool b2), e2)) (h3 : b1 = false → e1 = e2) : fAndE s fb env = some (.dat (.bool (b1 && b2)), e2) := by
  unfold fAndE
  rw [h1, Option.bind_some]
  cases b1 with
  | true => rw [if_pos rfl, h2 rfl]; rfl
  | false => rw [if_neg (by simp), h3 rfl]; rfl
theorem ev_orE (h1 : s env = some (b1, e1)) (h2 : b1 = false → fb e1 = some (.dat (.bool b2), e2)) (h3 : b1 = true → e1 = e2) : fOrE s fb env = some (.dat (.bool (b1 || b2)), e2) := by
  unfold fOrE
  rw [h1, Option.bind_some]
  cases b1 with
  | false => rw [if_neg (by simp), h2 rfl]; rfl
  | true => rw [if_pos rfl, h3 rfl]; rfl
theorem ev_chain {y' : PyData} (h1 : fa env = some (r1, e1)) (h2 : fb e1 = some (r2, e2)) (h3 : view e2 r1 = some x) (h4 : view e2 r2 = some y) (h5 : op x y = some (.dat (.bool true))) (h6 : fc e2 = some (r3, e3)) (h7 : view e3 r3 = some z) (h8 : view e3 r2 = some y') (h9 : op' y' z = some (.dat (.bool b))) : fChain op op' fa fb fc env = some (.dat (.bool b), e3) := by
  unfold fChain
  rw [h1, Option.bind_some, h2, Option.bind_some, h3, Option.bind_some, h4, Option.bind_some, h5, Option.bind_some]
  simp only
  rw [h6, Option.bind_some, h7, Option.bind_some, h8, Option.bind_some, h9]
  rfl
theorem ev_chainF (h1 : fa env = some (r1, e1)) (h2 : fb e1 = some (r2, e2)) (h3 : view e2 r1 = some x) (h4 : view e2 r2 = some y) (h5 : op x y = some (.dat (.bool false))) : fChain op op' fa fb fc env = some (.dat (.bool false), e2) := by
  unfold fChain
  rw [h1, Option.bind_some, h2, Option.bind_some, h3, Option.bind_some, h4, Option.bind_some, h5, Option.bind_some]
/-! arguments, calls -/
variable {a a' : FA} {F : Fn} {FT' : FnT}
theorem ea_nil : faNil env = some ([], env) := rfl
theorem ea_cons (h1 : fa env = some (r, e1)) (h2 : frz e1 r = some (d, e2)) (h3 : a e2 = some (ds, e3)) : faCons fa a env = some (d :: ds, e3) := by
  unfold faCons
  rw [h1, Option.bind_some, h2, Option.bind_some, h3]
  rfl
theorem ea_dat (h1 : fa env = some (.dat d, e1)) (h3 : a e1 = some (ds, e3)) : faCons fa a env = some (d :: ds, e3) := ea_cons h1 rfl h3
theorem ev_call (h1 : a env = some (ds, e)) (hn : ds.length = n) (h2 : F ds = some r) : fCallN n F a env = some (r, e) := by
  unfold fCallN
  rw [h1, Option.bind_some]
  simp only
  rw [if_pos hn, h2]
  rfl
theorem ev_callT {c c' : Bool} {ts0 ts' : List PyData} (h0 : env[i]? = some (.own c ts0)) (h1 : a env = some (ds, e)) (h2 : e[i]? = some (.own c' ts)) (hn : ds.length + 1 = n) (h3 : FT' ts ds = some (r, ts')) : fCallTN n FT' i a env = some (r, e.set i (.own c' ts')) := by
  unfold fCallTN
  rw [h0]
  simp only
  rw [h1, Option.bind_some]
  simp only
  rw [h2]
  simp only
  rw [if_pos hn, h3]
  rfl
theorem ev_tup (h1 : a env = some (ds, e)) (hn : ds.length ≤ sizeLine) : fTup a env = some (.dat (.tuple ds), e) := by
  unfold fTup
  rw [h1, Option.bind_some]
  exact if_pos hn
theorem ev_lst (h1 : a env = some (ds, e)) (hn : ds.length ≤ sizeLine) : fLst a env = some (.new ds, e) := by
  unfold fLst
  rw [h1, Option.bind_some]
  exact if_pos hn
/-! comprehensions -/
def stepC (vs : List Nat) (g : FG) (t : FT) (fe : FE) (d : PyData) (env : Env) : Option (Option PyData × Env) :=
  (g d env).bind fun e1 => (t e1).bind fun p => if p.1 = true then (fe p.2).bind fun q => (frz q.2 q.1).bind fun u => some (some u.1, kill u.2 vs) else some (none, kill p.2 vs)
theorem comp_run {fe : FE} {f : PyData → Option PyData} : ∀ {xs acc : List PyData}, (∀ x ∈ xs, stepC vs g t fe x env = some (f x, env)) → acc.length + xs.length ≤ sizeLine → compD vs g t fe xs env acc = some (acc ++ xs.filterMap f, env)
  | [], acc, _, _ => by
    show some (acc, env) = _
    simp
  | x :: xs, acc, h, hl => by
    have hx := h x (List.mem_cons_self ..)
    have hl' : acc.length + xs.length < sizeLine := by
      rw [List.length_cons] at hl
      omega
    unfold stepC at hx
    unfold compD
    simp only [Option.bind_eq_some_iff] at hx
    obtain ⟨e1, h1, ⟨c, e2⟩, h2, h3⟩ := hx
    rw [h1, Option.bind_some, h2, Option.bind_some]
    cases c with
    | true =>
      rw [if_pos rfl] at h3 ⊢
      simp only [Option.bind_eq_some_iff] at h3
      obtain ⟨⟨r, e3⟩, h4, ⟨d, e4⟩, h5, h6⟩ := h3
      rw [h4, Option.bind_some, h5, Option.bind_some]
      have h7 : some d = f x ∧ kill e4 vs = env := by
        simpa using h6
      simp only
      rw [if_pos (by omega), h7.2, comp_run (fun y hy => h y (List.mem_cons_of_mem _ hy)) (by rw [List.length_append, List.length_cons, List.length_nil]; omega), List.filterMap_cons, ← h7.1]
      simp
    | false =>
      rw [if_neg (by simp)] at h3 ⊢
      have h7 : none = f x ∧ kill e2 vs = env := by
        simpa using h3
      simp only
      rw [h7.2, comp_run (fun y hy => h y (List.mem_cons_of_mem _ hy)) (by omega), List.filterMap_cons, ← h7.1]
theorem ev_comp {fe : FE} {f : PyData → Option PyData} {xs : List PyData} (h1 : it env = some (xs, e)) (hl : xs.length ≤ sizeLine) (h : ∀ x ∈ xs, stepC vs g t fe x (kill e vs) = some (f x, kill e vs)) : fComp vs it g t fe env = some (.new (xs.filterMap f), back e (kill e vs) vs) := by
  unfold fComp
  rw [h1, Option.bind_some, comp_run h (by simpa using hl)]
  rfl
/-! statements -/
theorem es_seq (h : p env = some (.nx e)) : fsSeq p q env = q e := by
  unfold fsSeq
  rw [h]
  rfl
theorem es_stop (h : p env = some (.rt r e)) : fsSeq p q env = some (.rt r e) := by
  unfold fsSeq
  rw [h]
  rfl
theorem es_ct (h : p env = some (.ct e)) : fsSeq p q env = some (.ct e) := by
  unfold fsSeq
  rw [h]
  rfl
theorem es_if (h : t env = some (b, e)) : fsIf t p q env = if b = true then p e else q e := by
  unfold fsIf
  rw [h]
  rfl
theorem es_ifT (h : t env = some (true, e)) : fsIf t p q env = p e := by
  rw [es_if h, if_pos rfl]
theorem es_ifF (h : t env = some (false, e)) : fsIf t p q env = q e := by
  rw [es_if h, if_neg (by simp)]
theorem es_name (h : fa env = some (.dat d, e)) (hi : i < e.length) : fsName fa i env = some (.nx (e.set i (.dat d))) := by
  unfold fsName
  rw [h, Option.bind_some]
  show (some (Sl.dat d, e)).bind _ = _
  rw [Option.bind_some]
  exact if_pos hi
theorem es_new (h : fa env = some (.new ds, e)) (hi : i < e.length) : fsName fa i env = some (.nx (e.set i (.own false ds))) := by
  unfold fsName
  rw [h, Option.bind_some]
  show (some (Sl.own false ds, e)).bind _ = _
  rw [Option.bind_some]
  exact if_pos hi
theorem es_par {s1 s2 : Sl} (h1 : fa env = some (r1, e1)) (h2 : fb e1 = some (r2, e2)) (p1 : Sl.plain r1 = some s1) (p2 : Sl.plain r2 = some s2) (hi : i < e2.length) (hj : j < e2.length) : fsPar fa fb i j env = some (.nx ((e2.set i s1).set j s2)) := by
  unfold fsPar
  rw [h1, Option.bind_some, h2, Option.bind_some, p1, Option.bind_some, p2, Option.bind_some]
  exact if_pos ⟨hi, hj⟩
theorem es_ret (h : fa env = some (r, e)) : fsRet fa env = some (.rt r e) := by
  unfold fsRet
  rw [h]
  rfl
theorem es_app {c c' : Bool} {ds0 : List PyData} (h0 : env[i]? = some (.own c ds0)) (h1 : fa env = some (r, e1)) (h2 : frz e1 r = some (d, e2)) (h3 : e2[i]? = some (.own c' ds)) (hl : ds.length < sizeLine) : fsMut mAppend i fa env = some (.nx (e2.set i (.own c' (ds ++ [d])))) := by
  unfold fsMut
  rw [h0]
  simp only
  rw [h1, Option.bind_some, h2, Option.bind_some]
  simp only
  rw [h3]
  have e : mAppend ds d = some (ds ++ [d]) := if_pos hl
  simp only
  rw [e]
  rfl
theorem es_put {c c' : Bool} {ds0 : List PyData} {fk : FE} {k : Int} (h1 : fa env = some (r, e1)) (h2 : frz e1 r = some (d, e2)) (h0 : e2[i]? = some (.own c ds0)) (h3 : fk e2 = some (.dat (.int k), e3)) (h4 : e3[i]? = some (.own c' ds)) (h5 : L2.ixN ds.length k = some j) : fsPut i fk fa env = some (.nx (e3.set i (.own c' (ds.set j d)))) := by
  unfold fsPut
  rw [h1, Option.bind_some, h2, Option.bind_some]
  simp only
  rw [h0]
  simp only
  rw [h3, Option.bind_some]
  simp only
  rw [h4]
  simp only
  rw [h5]
  rfl
/-! loops -/
theorem for_nil {bd : PyData → Env → Option Out} : forD bd [] env = some (.nx env) := rfl
theorem for_cons {bd : PyData → Env → Option Out} {xs : List PyData} (h : bd x env = some (.nx e)) : forD bd (x :: xs) env = forD bd xs e := by
  rw [forD, h]
  rfl
theorem for_ct {bd : PyData → Env → Option Out} {xs : List PyData} (h : bd x env = some (.ct e)) : forD bd (x :: xs) env = forD bd xs e := by
  rw [forD, h]
  rfl
theorem es_for {xs : List PyData} (h : it env = some (xs, e)) : fsFor vs it g p env = forD (stepD vs g p) xs (kill e vs) := by
  unfold fsFor
  rw [h]
  rfl
theorem step_nx (h1 : g d env = some e1) (h2 : p e1 = some (.nx e2)) : stepD vs g p d env = some (.nx (kill e2 vs)) := by
  unfold stepD
  rw [h1, Option.bind_some, h2]
  rfl
theorem step_ct (h1 : g d env = some e1) (h2 : p e1 = some (.ct e2)) : stepD vs g p d env = some (.ct (kill e2 vs)) := by
  unfold stepD
  rw [h1, Option.bind_some, h2]
  rfl
/-- a loop that ends as it should: I holds of the frame ahead of each turn -/
theorem for_inv {bd : PyData → Env → Option Out} (I : Nat → Env → Prop) : ∀ (xs : List PyData) (k : Nat) (env : Env), I k env → (∀ (m : Nat) x env, xs[m]? = some x → I (k + m) env → ∃ e, (bd x env = some (.nx e) ∨ bd x env = some (.ct e)) ∧ I (k + m + 1) e) → ∃ e, forD bd xs env = some (.nx e) ∧ I (k + xs.length) e
  | [], k, env, h, _ => ⟨env, rfl, h⟩
  | x :: xs, k, env, h, st => by
    obtain ⟨e, h1, h2⟩ := st 0 x env rfl h
    obtain ⟨e', h3, h4⟩ := for_inv I xs (k + 1) e h2 fun m y env' hy hI => by
      have := st (m + 1) y env' hy (by rw [show k + (m + 1) = k + 1 + m by omega]; exact hI)
      rw [show k + (m + 1) + 1 = k + 1 + m + 1 by omega] at this
      exact this
    refine ⟨e', ?_, by rw [List.length_cons, show k + (xs.length + 1) = k + 1 + xs.length by omega]; exact h4⟩
    rcases h1 with h1 | h1
    · rw [for_cons h1]; exact h3
    · rw [for_ct h1]; exact h3
/-! defs -/
theorem run_ret {bd : FS} (hl : ds.length = np) (h : bd (ds.map .dat ++ List.replicate (n - np) .dead) = some (.rt r1 e)) (h2 : resOf e r1 = some r) : runF np n bd ds = some r := by
  unfold runF
  rw [if_pos hl, h, Option.bind_some]
  show ((resOf e r1).map fun r' => (r', e)).map _ = _
  rw [h2]
  rfl
theorem runT_ret {bd : FS} {us : List PyData} (hl : ds.length + 1 = np) (h : bd (.own true ts :: ds.map .dat ++ List.replicate (n - np) .dead) = some (.rt r1 e)) (h2 : resOf e r1 = some r) (h3 : e[(0 : Nat)]? = some (.own true us)) : runT np n bd ts ds = some (r, us) := by
  unfold runT
  rw [if_pos hl, h, Option.bind_some]
  show (((resOf e r1).map fun r' => (r', e))).bind _ = _
  rw [h2]
  show (match e[(0 : Nat)]? with
      | some (.own true us) => some (r, us)
      | _ => none) = _
  rw [h3]
/-! operators at ints -/
theorem op_eq_int (i j : Int) : opEq (.int i) (.int j) = some (rb (decide (i = j))) := by kernel_rfl
theorem op_ne_int (i j : Int) : opNe (.int i) (.int j) = some (rb (!decide (i = j))) := by kernel_rfl
theorem op_mul_int {i j : Int} (h : (lowI i || lowI j) = true) : opMul (.int i) (.int j) = some (.dat (.int (i * j))) := if_pos h
theorem op_mod_int {i j : Int} (h : 0 < j) : opMod (.int i) (.int j) = some (.dat (.int (i % j))) := if_pos h
theorem op_fdiv_int {i j : Int} (h : 0 < j) (h2 : j.natAbs.log2 < 9000) : opFdiv (.int i) (.int j) = some (.dat (.int (i / j))) := if_pos ⟨h, h2⟩
end
end DL

/-! DP: further parts of the pure reading: sorted rows, methods. -/
namespace DL
open PySem PySem.Spec PyProof.Rows L2
def lexL : List Int → List Int → Bool
  | [], [] => false
  | [], _ :: _ => true
  | _ :: _, [] => false
  | x :: xs, y :: ys => if x = y then lexL xs ys else decide (x < y)
def insL (x : List Int) : List (List Int) → List (List Int)
  | [] => [x]
  | y :: r => if lexL y x = true then y :: insL x r else x :: y :: r
def sortL : List (List Int) → List (List Int)
  | [] => []
  | x :: r => insL x (sortL r)
def tupsOf : List PyData → Option (List (List Int))
  | [] => some []
  | .tuple d :: r => (intsOf d).bind fun is => (tupsOf r).map fun k => is :: k
  | _ :: _ => none
def neL : List (List Int) → Bool
  | [] => true
  | [] :: _ => true
  | l => l.all fun x => !x.isEmpty
def tupD (is : List Int) : PyData := .tuple (is.map PyData.int)
def bSortT : PyData → Option Rs
  | .list ds => (tupsOf ds).bind fun ks => if neL ks = true then some (.new ((sortL ks).map tupD)) else none
  | _ => none
/-- sorted, ints -/
def insI (x : Int) : List Int → List Int
  | [] => [x]
  | y :: r => if y < x then y :: insI x r else x :: y :: r
def sortI : List Int → List Int
  | [] => []
  | x :: r => insI x (sortI r)
/-- a method of a list that changes nothing, of one argument -/
def fMeth (op : PyData → PyData → Option Rs) (fa fb : FE) : FE := fun env => (fa env).bind fun p => match view p.2 p.1 with
  | some (.list _) => (fb p.2).bind fun q => (view q.2 p.1).bind fun x => (view q.2 q.1).bind fun y => (op x y).map fun z => (z, q.2)
  | _ => none
def idxOf (x : PyData) : List PyData → Option Nat
  | [] => none
  | y :: r => if PyData.eqv y x = true then some 0 else (idxOf x r).map (· + 1)
def bIndex : PyData → PyData → Option Rs
  | .list ys, x => if (flatD x && ys.all flatD) = true then (idxOf x ys).map fun (j : Nat) => ri (j : Int) else none
  | _, _ => none
/-- list(range(..)) -/
def fListG (it : FI) : FE := fun env => (it env).bind fun p => if p.1.length ≤ 2 ^ 24 then some (.new p.1, p.2) else none
/-- a def of two arguments that only looks at them and gives a number, a text, True, False or None: lists of one's own stay one's own -/
def opCall2 (R : Fn) (x y : PySem.PyData) : Option Rs := match R [x, y] with
  | some (.dat d) => if flatD d = true then some (.dat d) else none
  | _ => none
/-- sorted(set(xs)), ints: each once, ascending (fewer than 64) -/
def insS (x : Int) : List Int → List Int
  | [] => [x]
  | y :: r => if x = y then y :: r else if y < x then y :: insS x r else x :: y :: r
def setI : List Int → List Int
  | [] => []
  | x :: r => insS x (setI r)
def bSortSet : PySem.PyData → Option Rs
  | .list ds => (intsOf ds).bind fun is => if (setI is).length < 64 ∧ is.length ≤ 1000 then some (.new ((setI is).map PySem.PyData.int)) else none
  | _ => none
/-! ### a comprehension of two clauses -/
def comp2D (vs vs1 : List Nat) (g : FG) (it1 : FI) (g1 : FG) (fe : FE) : List PySem.PyData → Env → List PySem.PyData → Option (List PySem.PyData × Env)
  | [], env, acc => some (acc, env)
  | d :: ds, env, acc => (g d env).bind fun e1 => (it1 e1).bind fun p => (compD vs1 g1 ftYes fe p.1 (kill p.2 vs1) acc).bind fun q => comp2D vs vs1 g it1 g1 fe ds (kill q.2 vs) q.1
def fComp2 (vs vs1 : List Nat) (it : FI) (g : FG) (it1 : FI) (g1 : FG) (fe : FE) : FE := fun env =>
  (it env).bind fun p => (comp2D vs vs1 g it1 g1 fe p.1 (kill p.2 vs) []).map fun q => (.new q.1, back p.2 q.2 vs)
/-! ### generators: all that is handed out -/
abbrev FGn := Env → Option (List PySem.PyData)
/-- for target in iter: yield e, at the end of the def -/
def fgFor (vs : List Nat) (it : FI) (g : FG) (fe : FE) : FGn := fun env => (it env).bind fun p => (compD vs g ftYes fe p.1 (kill p.2 vs) []).map (·.1)
def fgSeq (a : FS) (b : FGn) : FGn := fun env => (a env).bind fun o => match o with
  | .nx e => b e
  | _ => none
abbrev FnG := List PySem.PyData → Option (List PySem.PyData)
def runG (np n : Nat) (b : FGn) : FnG := fun ds => if ds.length = np then b (ds.map .dat ++ List.replicate (n - np) .dead) else none
/-- list(f(..)) -/
def fListCall (n : Nat) (R : FnG) (a : FA) : FE := fun env => (a env).bind fun p => if p.1.length = n then (R p.1).map fun r => (.new r, p.2) else none
end DL

/-! DP2: further parts of the pure reading: dicts with tuple keys; the def kinds. -/
namespace DL
open PySem PySem.Spec PyProof.Rows L2
def keys6 : List (List L2.Key) := [[.inr "right", .inl 0], [.inr "right", .inl 1], [.inr "left", .inl 0], [.inr "left", .inl 1], [.inr "any", .inl 0], [.inr "any", .inl 1]]
def idxK (k : List L2.Key) : List (List L2.Key) → Option Nat
  | [] => none
  | y :: r => if y = k then some 0 else (idxK k r).map (· + 1)
/-- the indexes of the parts by their kinds -/
def kindsGo : Nat → List PyData → List (List Int) → Option (List (List Int))
  | _, [], L => some L
  | i, d :: ds, L => match d with
    | .tuple [.str x, .int n] => (idxK [.inr x, .inl (n % 2)] keys6).bind fun j => (L[j]?).bind fun ns => if ns.length < 1000 then kindsGo (i + 1) ds (L.set j (ns ++ [(i : Int)])) else none
    | _ => none
def dctD (ks : List (List L2.Key)) (ds : List PyData) : PyData := .dict ((ks.map fun k => PyData.tuple (k.map keyD)).zip ds)
def intsL (ns : List Int) : PyData := .list (ns.map PyData.int)
def kinds_F : Fn := fun as => match as with
  | [.tuple ps] => (kindsGo 0 ps (List.replicate 6 [])).map fun L => .dat (dctD keys6 (L.map intsL))
  | _ => none
def keyOf1 : PyData → Option L2.Key
  | .int i => some (.inl i)
  | .str x => some (.inr x)
  | _ => none
def keysOf : List PyData → Option (List L2.Key)
  | [] => some []
  | d :: ds => (keyOf1 d).bind fun k => (keysOf ds).map fun ks => k :: ks
def keyOfD : PyData → Option (List L2.Key)
  | .tuple ds => keysOf ds
  | _ => none
/-- d[k], k a tuple of ints and texts -/
def hasKey (key : List L2.Key) (e : PyData × PyData) : Bool := match keyOfD e.1 with
  | some k => decide (k = key)
  | none => false
def opDGet : PyData → PyData → Option Rs
  | .dict m, y => (keyOfD y).bind fun key => (m.find? (hasKey key)).map fun e => .dat e.2
  | _, _ => none
/-- sorted(xs), ints, fewer than 64 -/
def bSortI : PyData → Option Rs
  | .list ds => (intsOf ds).bind fun is => if is.length < 64 then some (.new ((sortI is).map PyData.int)) else none
  | .tuple ds => (intsOf ds).bind fun is => if is.length < 64 then some (.new ((sortI is).map PyData.int)) else none
  | _ => none
/-- a, b, c = e1, e2, e3: all made data -/
def fsPar3 (a : FA) (i j l : Nat) : FS := fun env => (a env).bind fun p => match p.1 with
  | [x, y, z] => if i < p.2.length ∧ j < p.2.length ∧ l < p.2.length then some (.nx (((p.2.set i (.dat x)).set j (.dat y)).set l (.dat z))) else none
  | _ => none
/-- {text: text, ..}[e] -/
def fLook (m : List (Str × Str)) (fb : FE) : FE := fun env => (fb env).bind fun p => match p.1 with
  | .dat (.str s) => match valV (mergeK [] (m.map fun e => (Sum.inr e.1, V.str e.2))) (Sum.inr s) with
    | some (.str t) => some (.dat (.str t), p.2)
    | _ => none
  | _ => none
/-- sorted(d), d's keys tuples of ints, none empty -/
def bSortD : PyData → Option Rs
  | .dict m => (tupsOf (m.map (·.1))).bind fun ks => if (ks.all fun k => !k.isEmpty) = true then some (.new ((sortL ks).map tupD)) else none
  | _ => none
end DL

/-! DP3: the reading of a dict that grows in two loops. -/
namespace DL
open PySem PySem.Spec PyProof.Rows L2
abbrev Cell := PyData → Nat → Nat → Option Int
abbrev Tab := List (List L2.Key × Int)
def ky (i t : Nat) : List L2.Key := [.inl (i : Int), .inl (t : Int)]
def rowT (cell : Cell) (rows : PyData) (i : Nat) : List Nat → Tab → Option Tab
  | [], acc => some acc
  | t :: ts, acc => (cell rows i t).bind fun c => rowT cell rows i ts (if i = t then acc else acc ++ [(ky i t, c)])
def tabT (cell : Cell) (rows : PyData) (n : Nat) : List Nat → Tab → Option Tab
  | [], acc => some acc
  | i :: is, acc => (rowT cell rows i (List.range n) acc).bind fun a => tabT cell rows n is a
def tabD (kvs : Tab) : PyData := dctD (kvs.map (·.1)) (kvs.map fun e => .int e.2)
abbrev eT8 (e0 e1 e2 : Sl) (rows : PyData) (n : Int) (x5 x6 x7 x8 e9 e10 e11 : Sl) : Env := [e0, e1, e2, .dat rows, .dat (.int n), x5, x6, x7, x8, e9, e10, e11]
def fTab (cell : Cell) : FS := fun env => match env with
  | [e0, e1, e2, .dat rows, .dat (.int n), .dead, .dead, .dead, .dead, e9, e10, e11] => if 0 ≤ n ∧ n ≤ 30 then (tabT cell rows n.toNat (List.range n.toNat) []).map fun kvs => .nx (eT8 e0 e1 e2 rows n (.dat (tabD kvs)) .dead .dead .dead e9 e10 e11) else none
  | _ => none
/-- xs.insert(k, e), xs the list in slot i -/
def fsIns (i : Nat) (fk fa : FE) : FS := fun env => match env[i]? with
  | some (.own _ _) => (fk env).bind fun p => match p.1 with
    | .dat (.int k) => (fa p.2).bind fun q => (frz q.2 q.1).bind fun u => match u.2[i]? with
      | some (.own b ds) => if 0 ≤ k ∧ k < 100000 ∧ ds.length < sizeLine then some (.nx (u.2.set i (.own b (ds.take k.toNat ++ [u.1] ++ ds.drop k.toNat)))) else none
      | _ => none
    | _ => none
  | _ => none
/-- t[::-1], t a tuple -/
def opRevT : PyData → Option Rs
  | .tuple xs => some (.dat (.tuple xs.reverse))
  | _ => none
end DL

namespace RP
open PySem PySem.Spec PyProof.Rows L2 DL
def g_is_integer : FS :=
    (fsRet (fAndE (fB (fUn (bIsi ["int"]) (fName 0))) (fAndE (fB (fOfT (ftNot (fB (fUn (bIsi ["bool"]) (fName 0)))))) (fChain opLe opLe (fName 1) (fName 0) (fName 2)))))
def is_integer_F : Fn := runF 3 3 g_is_integer
def g_is_part : FS :=
    (fsSeq (fsIf (ftOr (ftNot (fB (fUn (bIsi ["tuple"]) (fName 0)))) (ftOr (fB (fBin opNe (fUn bLen (fName 0)) (fC (.int 2)))) (ftNot (fB (fUn (bIsi ["str"]) (fBin opIx (fName 0) (fC (.int 0)))))))) (fsRet (fC (.bool false))) fsNext)
    (fsRet (fAndE (fB (fUn (opInK false [.str "right", .str "left", .str "any"]) (fBin opIx (fName 0) (fC (.int 0))))) (fCallN 3 is_integer_F (faCons (fBin opIx (fName 0) (fC (.int 1))) (faCons (fC (.int 1)) (faCons (fC (.int 999)) faNil)))))))
def is_part_F : Fn := runF 1 1 g_is_part
def g_is_parts : FS :=
    (fsRet (fAndE (fB (fUn (bIsi ["tuple"]) (fName 0))) (fAndE (fB (fBin opLe (fUn bLen (fName 0)) (fC (.int 30)))) (fUn bAll (fComp [1] (fiSeq (fName 0)) (fgName 1) ftYes (fCallN 1 is_part_F (faCons (fName 1) faNil)))))))
def is_parts_F : Fn := runF 1 2 g_is_parts
def g_fits_side : FS :=
    (fsRet (fOrE (fB (fBin opEq (fName 0) (fC (.str "any")))) (fBin opEq (fBin opMod (fName 1) (fC (.int 2))) (fUn bInt (fBin opEq (fName 0) (fC (.str "right")))))))
def fits_side_F : Fn := runF 2 2 g_fits_side
abbrev b1_starts : FS :=
    (fsSeq (fsName (fBin opAdd (fName 3) (fUn bInt (fBin opIn (fName 4) (fName 1)))) 7)
    (fsSeq (fsMut mAppend 2 (fName 7))
    (fsName (fBin opAdd (fName 7) (fName 6)) 3)))
abbrev b1_startss : PyData → DL.Env → Option Out := stepD [4, 5, 6, 7] (fgTup (fgCons (fgName 4) (fgCons (fgTup (fgCons (fgName 5) (fgCons (fgName 6) fgNil))) fgNil)))
    b1_starts
def g_starts : FS :=
    (fsSeq (fsName (fLst faNil) 2)
    (fsSeq (fsName (fC (.int 1)) 3)
    (fsSeq (fsFor [4, 5, 6, 7] (fiEnum (fName 0)) (fgTup (fgCons (fgName 4) (fgCons (fgTup (fgCons (fgName 5) (fgCons (fgName 6) fgNil))) fgNil))) b1_starts)
    (fsRet (fUn bTuple (fName 2))))))
def starts_F : Fn := runF 2 8 g_starts
def g_is_layout : FS :=
    (fsSeq (fsIf (ftOr (ftNot (fB (fUn (bIsi ["tuple"]) (fName 1)))) (ftNot (fB (fUn bAll (fComp [2] (fiSeq (fName 1)) (fgName 2) ftYes (fCallN 3 is_integer_F (faCons (fName 2) (faCons (fC (.int 0)) (faCons (fBin opSub (fUn bLen (fName 0)) (fC (.int 1))) faNil))))))))) (fsRet (fC (.bool false))) fsNext)
    (fsSeq (fsIf (ftNot (fB (fUn bAll (fComp [3, 4] (fiZip (fName 1) (fCut (fName 1) (foSome (fC (.int 1))) foNone)) (fgTup (fgCons (fgName 3) (fgCons (fgName 4) fgNil))) ftYes (fBin opLt (fName 3) (fName 4)))))) (fsRet (fC (.bool false))) fsNext)
    (fsRet (fUn bAll (fComp [5, 6] (fiZip (fName 0) (fCallN 2 starts_F (faCons (fName 0) (faCons (fName 1) faNil)))) (fgTup (fgCons (fgName 5) (fgCons (fgName 6) fgNil))) ftYes (fCallN 2 fits_side_F (faCons (fBin opIx (fName 5) (fC (.int 0))) (faCons (fName 6) faNil))))))))
def is_layout_F : Fn := runF 2 7 g_is_layout
def g__law_draw : FS :=
    (fsSeq (fsName (fC (.int 2305843009213693951)) 2)
    (fsSeq (fsIf (fB (fBin opLt (fBin opIx (fName 0) (fC (.int 2))) (fName 1))) (fsSeq (fsName (fC (.int 0)) 3)
    (fsSeq (fsIf (fB (fBin opGt (fUn bLen (fBin opIx (fName 0) (fC (.int 0)))) (fC (.int 0)))) (fsName (fBin opIx (fBin opIx (fName 0) (fC (.int 0))) (fBin opMod (fBin opIx (fName 0) (fC (.int 1))) (fUn bLen (fBin opIx (fName 0) (fC (.int 0)))))) 3) fsNext)
    (fsSeq (fsIf (ftOr (fB (fBin opGe (fBin opIx (fName 0) (fC (.int 1))) (fUn bLen (fBin opIx (fName 0) (fC (.int 0)))))) (fB (fBin opLt (fName 3) (fBin opPow (fC (.int 10)) (fC (.int 18)))))) (fsSeq (fsName (fBin opMod (fBin opAdd (fName 3) (fBin opMul (fC (.int 1000003)) (fBin opIx (fName 0) (fC (.int 1))))) (fName 2)) 3)
    (fsSeq (fsName (fBin opMod (fBin opAdd (fBin opAdd (fBin opMul (fName 3) (fName 3)) (fBin opMul (fC (.int 1181783497276652981)) (fName 3))) (fC (.int 2049848353892358983))) (fName 2)) 3)
    (fsName (fBin opMod (fBin opAdd (fBin opMul (fName 3) (fName 3)) (fC (.int 1442695040888963407))) (fName 2)) 3))) fsNext)
    (fsSeq (fsPut 0 (fC (.int 1)) (fBin opAdd (fBin opIx (fName 0) (fC (.int 1))) (fC (.int 1))))
    (fsPut 0 (fC (.int 2)) (fName 3)))))) fsNext)
    (fsSeq (fsName (fBin opMod (fBin opIx (fName 0) (fC (.int 2))) (fName 1)) 4)
    (fsSeq (fsPut 0 (fC (.int 2)) (fBin opFdiv (fBin opIx (fName 0) (fC (.int 2))) (fName 1)))
    (fsRet (fName 4))))))
def _law_draw_F : FnT := runT 2 5 g__law_draw
def g__law_whole : FS :=
    (fsRet (fAndE (fB (fUn (bIsi ["int"]) (fName 0))) (fOfT (ftNot (fB (fUn (bIsi ["bool"]) (fName 0)))))))
def _law_whole_F : Fn := runF 1 1 g__law_whole
def g__law_within : FS :=
    (fsRet (fAndE (fB (fCallN 1 _law_whole_F (faCons (fName 0) faNil))) (fChain opLe opLe (fName 1) (fName 0) (fName 2))))
def _law_within_F : Fn := runF 3 3 g__law_within
def g__law_like (S : Fn) : FS :=
    (fsSeq (fsIf (fB (fUn (bIsi ["list", "tuple"]) (fName 0))) (fsSeq (fsIf (ftOr (fB (fBin opNe (fUn (bIsi ["list"]) (fName 0)) (fUn (bIsi ["list"]) (fName 1)))) (fB (fBin opNe (fUn (bIsi ["tuple"]) (fName 0)) (fUn (bIsi ["tuple"]) (fName 1))))) (fsRet (fC (.bool false))) fsNext)
    (fsSeq (fsIf (fB (fBin opNe (fUn bLen (fName 0)) (fUn bLen (fName 1)))) (fsRet (fC (.bool false))) fsNext)
    (fsRet (fBin opEq (fComp [2] (fiRange1 (fUn bLen (fName 0))) (fgName 2) (ftNot (fB (fCallN 2 (S) (faCons (fBin opIx (fName 0) (fName 2)) (faCons (fBin opIx (fName 1) (fName 2)) faNil))))) (fName 2)) (fLst faNil))))) fsNext)
    (fsSeq (fsIf (fB (fUn (bIsi ["list", "tuple"]) (fName 1))) (fsRet (fC (.bool false))) fsNext)
    (fsRet (fAndE (fB (fBin opEq (fUn (bIsi ["bool"]) (fName 0)) (fUn (bIsi ["bool"]) (fName 1)))) (fBin opEq (fName 0) (fName 1))))))
def _law_like_Fn : Nat → Fn
  | 0 => fun _ => none
  | m + 1 => runF 2 3 (g__law_like (_law_like_Fn m))
def _law_like_F : Fn := _law_like_Fn 6
def g__law_any (S : FnT) : FS :=
    (fsSeq (fsName (fCallTN 2 _law_draw_F 0 (faCons (fC (.int 13)) faNil)) 2)
    (fsSeq (fsIf (ftAnd (fB (fBin opLt (fName 2) (fC (.int 4)))) (fB (fBin opGt (fName 1) (fC (.int 0))))) (fsSeq (fsName (fComp [4] (fiRange1 (fCallTN 2 _law_draw_F 0 (faCons (fC (.int 4)) faNil))) (fgName 4) ftYes (fCallTN 2 (S) 0 (faCons (fBin opSub (fName 1) (fC (.int 1))) faNil))) 3)
    (fsRet (fBin opIx (fLst (faCons (fName 3) (faCons (fUn bTuple (fName 3)) (faCons (fUn bTuple (fName 3)) (faCons (fUn bTuple (fName 3)) faNil))))) (fName 2)))) fsNext)
    (fsSeq (fsIf (fB (fBin opLt (fName 2) (fC (.int 8)))) (fsRet (fBin opIx (fLst (faCons (fBin opSub (fCallTN 2 _law_draw_F 0 (faCons (fC (.int 12)) faNil)) (fC (.int 2))) (faCons (fCallTN 2 _law_draw_F 0 (faCons (fBin opPow (fC (.int 10)) (fC (.int 12))) faNil)) (faCons (fC (.int 0)) (faCons (fC (.int 3)) faNil))))) (fBin bMax2 (fC (.int 0)) (fBin opSub (fName 2) (fC (.int 4)))))) fsNext)
    (fsSeq (fsName (fLst (faCons (fC (.str "")) (faCons (fC (.str " ")) (faCons (fC (.str "any")) (faCons (fC (.str "right")) (faCons (fC (.str "left")) (faCons (fC (.str "A")) (faCons (fC (.str "up\nb")) faNil)))))))) 3)
    (fsRet (fBin opIx (fLst (faCons (fC (.bool true)) (faCons (fC (.bool false)) (faCons (fC .none) (faCons (fBin opIx (fName 3) (fCallTN 2 _law_draw_F 0 (faCons (fC (.int 7)) faNil))) (faCons (fTup (faCons (fC (.int 1)) (faCons (fC (.int 2)) faNil))) faNil)))))) (fBin opSub (fName 2) (fC (.int 8)))))))))
def _law_any_Fn : Nat → FnT
  | 0 => fun _ _ => none
  | m + 1 => runT 2 5 (g__law_any (_law_any_Fn m))
def _law_any_F : FnT := _law_any_Fn 12
def g__law_spoilt (S : FnT) : FS :=
    (fsSeq (fsIf (ftAnd (fB (fUn (bIsi ["tuple", "list"]) (fName 1))) (ftAnd (fB (fBin opGt (fUn bLen (fName 1)) (fC (.int 0)))) (fB (fBin opGt (fCallTN 2 _law_draw_F 0 (faCons (fC (.int 7)) faNil)) (fC (.int 0)))))) (fsSeq (fsName (fCallTN 2 _law_draw_F 0 (faCons (fUn bLen (fName 1)) faNil)) 2)
    (fsSeq (fsName (fUn bList (fName 1)) 3)
    (fsSeq (fsName (fCallTN 2 _law_draw_F 0 (faCons (fC (.int 12)) faNil)) 4)
    (fsSeq (fsIf (fB (fBin opLt (fName 4) (fC (.int 8)))) (fsPut 3 (fName 2) (fCallTN 2 (S) 0 (faCons (fBin opIx (fName 3) (fName 2)) faNil))) (fsIf (fB (fBin opEq (fName 4) (fC (.int 8)))) (fsDrop (fPop 3 (fName 2))) (fsIf (fB (fBin opEq (fName 4) (fC (.int 9)))) (fsIns 3 (fName 2) (fBin opIx (fName 3) (fCallTN 2 _law_draw_F 0 (faCons (fUn bLen (fName 3)) faNil)))) (fsIf (fB (fBin opEq (fName 4) (fC (.int 10)))) (fsName (fUn opRev (fName 3)) 3) (fsIns 3 (fName 2) (fCallTN 2 _law_any_F 0 (faCons (fC (.int 1)) faNil)))))))
    (fsRet (fIf (fB (fUn (bIsi ["tuple"]) (fName 1))) (fUn bTuple (fName 3)) (fName 3))))))) fsNext)
    (fsSeq (fsIf (ftAnd (fB (fCallN 1 _law_whole_F (faCons (fName 1) faNil))) (fB (fBin opGt (fCallTN 2 _law_draw_F 0 (faCons (fC (.int 6)) faNil)) (fC (.int 0))))) (fsRet (fBin opAdd (fName 1) (fBin opIx (fLst (faCons (fC (.int 1)) (faCons (fUn opNeg (fC (.int 1))) (faCons (fC (.int 2)) (faCons (fUn opNeg (fC (.int 2))) (faCons (fC (.int 9)) (faCons (fC (.int 1000)) faNil))))))) (fCallTN 2 _law_draw_F 0 (faCons (fC (.int 6)) faNil))))) fsNext)
    (fsSeq (fsIf (ftAnd (fB (fUn (bIsi ["str"]) (fName 1))) (fB (fBin opGt (fCallTN 2 _law_draw_F 0 (faCons (fC (.int 3)) faNil)) (fC (.int 0))))) (fsSeq (fsName (fCallTN 2 _law_draw_F 0 (faCons (fBin opAdd (fUn bLen (fName 1)) (fC (.int 1))) faNil)) 5)
    (fsRet (fBin opAdd (fBin opAdd (fCut (fName 1) foNone (foSome (fName 5))) (fBin opIx (fLst (faCons (fC (.str " ")) (faCons (fC (.str "z")) (faCons (fC (.str "A")) (faCons (fC (.str "|")) (faCons (fC (.str "abcdefgh")) (faCons (fC (.str "")) faNil))))))) (fCallTN 2 _law_draw_F 0 (faCons (fC (.int 6)) faNil)))) (fCut (fName 1) (foSome (fName 5)) foNone)))) fsNext)
    (fsSeq (fsIf (ftAnd (fB (fUn (bIsi ["tuple", "list"]) (fName 1))) (fB (fBin opEq (fCallTN 2 _law_draw_F 0 (faCons (fC (.int 2)) faNil)) (fC (.int 0))))) (fsRet (fIf (fB (fUn (bIsi ["tuple"]) (fName 1))) (fUn bList (fName 1)) (fUn bTuple (fName 1)))) fsNext)
    (fsRet (fCallTN 2 _law_any_F 0 (faCons (fC (.int 2)) faNil)))))))
def _law_spoilt_Fn : Nat → FnT
  | 0 => fun _ _ => none
  | m + 1 => runT 2 6 (g__law_spoilt (_law_spoilt_Fn m))
def _law_spoilt_F : FnT := _law_spoilt_Fn 12
abbrev b1__law_rows : FS :=
    (fsSeq (fsName (fIf (fB (fBin opGt (fCallTN 2 _law_draw_F 0 (faCons (fName 2) faNil)) (fC (.int 0)))) (fBin opIx (fLst (faCons (fC (.str "right")) (faCons (fC (.str "left")) faNil))) (fCallTN 2 _law_draw_F 0 (faCons (fC (.int 2)) faNil))) (fC (.str "any"))) 5)
    (fsSeq (fsName (fBin opAdd (fC (.int 1)) (fCallTN 2 _law_draw_F 0 (faCons (fBin opIx (fLst (faCons (fC (.int 2)) (faCons (fC (.int 6)) (faCons (fC (.int 999)) faNil)))) (fCallTN 2 _law_draw_F 0 (faCons (fC (.int 3)) faNil))) faNil))) 6)
    (fsName (fBin opAdd (fName 3) (fTup (faCons (fTup (faCons (fName 5) (faCons (fName 6) faNil))) faNil))) 3)))
abbrev b1__law_rowss : PyData → DL.Env → Option Out := stepD [4, 5, 6] (fgName 4)
    b1__law_rows
def g__law_rows : FS :=
    (fsSeq (fsPar (fBin opAdd (fC (.int 1)) (fCallTN 2 _law_draw_F 0 (faCons (fC (.int 4)) faNil))) (fTup faNil) 2 3)
    (fsSeq (fsFor [4, 5, 6] (fiRange1 (fCallTN 2 _law_draw_F 0 (faCons (fBin opAdd (fName 1) (fC (.int 1))) faNil))) (fgName 4) b1__law_rows)
    (fsRet (fName 3))))
def _law_rows_F : FnT := runT 2 7 g__law_rows
def g__law_fits : FS :=
    (fsRet (fOrE (fB (fBin opEq (fName 0) (fC (.str "any")))) (fBin opEq (fBin opEq (fBin opMod (fName 1) (fC (.int 2))) (fC (.int 1))) (fBin opEq (fName 0) (fC (.str "right"))))))
def _law_fits_F : Fn := runF 2 2 g__law_fits
abbrev b1__law_firsts : FS :=
    (fsSeq (fsName (fBin opAdd (fName 3) (fIf (fB (fBin opIn (fName 4) (fName 1))) (fC (.int 1)) (fC (.int 0)))) 3)
    (fsSeq (fsMut mAppend 2 (fName 3))
    (fsName (fBin opAdd (fName 3) (fBin opIx (fName 5) (fC (.int 1)))) 3)))
abbrev b1__law_firstss : PyData → DL.Env → Option Out := stepD [4, 5] (fgTup (fgCons (fgName 4) (fgCons (fgName 5) fgNil)))
    b1__law_firsts
def g__law_firsts : FS :=
    (fsSeq (fsPar (fLst faNil) (fC (.int 1)) 2 3)
    (fsSeq (fsFor [4, 5] (fiEnum (fName 0)) (fgTup (fgCons (fgName 4) (fgCons (fgName 5) fgNil))) b1__law_firsts)
    (fsRet (fName 2))))
def _law_firsts_F : Fn := runF 2 6 g__law_firsts
def g__law_good : FS :=
    (fsRet (fBin opEq (fComp [2, 3] (fiZip (fName 0) (fCallN 2 _law_firsts_F (faCons (fName 0) (faCons (fName 1) faNil)))) (fgTup (fgCons (fgName 2) (fgCons (fgName 3) fgNil))) (ftNot (fB (fCallN 2 _law_fits_F (faCons (fBin opIx (fName 2) (fC (.int 0))) (faCons (fName 3) faNil))))) (fC (.int 1))) (fLst faNil)))
def _law_good_F : Fn := runF 2 4 g__law_good
abbrev b1__law_needed : FS :=
    (fsSeq (fsIf (ftNot (fB (fCallN 2 _law_fits_F (faCons (fBin opIx (fName 4) (fC (.int 0))) (faCons (fName 2) faNil))))) (fsSeq (fsMut mAppend 1 (fName 3))
    (fsName (fBin opAdd (fName 2) (fC (.int 1))) 2)) fsNext)
    (fsName (fBin opAdd (fName 2) (fBin opIx (fName 4) (fC (.int 1)))) 2))
abbrev b1__law_neededs : PyData → DL.Env → Option Out := stepD [3, 4] (fgTup (fgCons (fgName 3) (fgCons (fgName 4) fgNil)))
    b1__law_needed
def g__law_needed : FS :=
    (fsSeq (fsPar (fLst faNil) (fC (.int 1)) 1 2)
    (fsSeq (fsFor [3, 4] (fiEnum (fName 0)) (fgTup (fgCons (fgName 3) (fgCons (fgName 4) fgNil))) b1__law_needed)
    (fsRet (fName 1))))
def _law_needed_F : Fn := runF 1 5 g__law_needed
def g__law_is_part : FS :=
    (fsSeq (fsIf (ftOr (ftNot (fB (fUn (bIsi ["tuple"]) (fName 0)))) (ftOr (fB (fBin opNe (fUn bLen (fName 0)) (fC (.int 2)))) (ftNot (fB (fUn (bIsi ["str"]) (fBin opIx (fName 0) (fC (.int 0)))))))) (fsRet (fC (.bool false))) fsNext)
    (fsRet (fAndE (fB (fBin opIn (fBin opIx (fName 0) (fC (.int 0))) (fTup (faCons (fC (.str "right")) (faCons (fC (.str "left")) (faCons (fC (.str "any")) faNil)))))) (fCallN 3 _law_within_F (faCons (fBin opIx (fName 0) (fC (.int 1))) (faCons (fC (.int 1)) (faCons (fC (.int 999)) faNil)))))))
def _law_is_part_F : Fn := runF 1 1 g__law_is_part
def g__law_is_layout : FS :=
    (fsSeq (fsIf (ftOr (ftNot (fB (fUn (bIsi ["tuple"]) (fName 1)))) (fB (fBin opNe (fComp [2] (fiSeq (fName 1)) (fgName 2) (ftNot (fB (fCallN 3 _law_within_F (faCons (fName 2) (faCons (fC (.int 0)) (faCons (fBin opSub (fUn bLen (fName 0)) (fC (.int 1))) faNil)))))) (fName 2)) (fLst faNil)))) (fsRet (fC (.bool false))) fsNext)
    (fsSeq (fsIf (fB (fBin opNe (fComp [3, 4] (fiZip (fName 1) (fCut (fName 1) (foSome (fC (.int 1))) foNone)) (fgTup (fgCons (fgName 3) (fgCons (fgName 4) fgNil))) (fB (fBin opGe (fName 3) (fName 4))) (fC (.int 1))) (fLst faNil))) (fsRet (fC (.bool false))) fsNext)
    (fsRet (fCallN 2 _law_good_F (faCons (fName 0) (faCons (fName 1) faNil))))))
def _law_is_layout_F : Fn := runF 2 5 g__law_is_layout
def g_last_page : FS :=
    (fsRet (fBin opAdd (fUn bSum (fComp [2, 3] (fiSeq (fName 0)) (fgTup (fgCons (fgName 2) (fgCons (fgName 3) fgNil))) ftYes (fName 3))) (fUn bLen (fName 1))))
def last_page_F : Fn := runF 2 4 g_last_page
abbrev b1__law_all : FS :=
    (fsName (fBin opAdd (fName 1) (fComp [3] (fiSeq (fName 1)) (fgName 3) ftYes (fBin opAdd (fName 3) (fTup (faCons (fName 2) faNil))))) 1)
abbrev b1__law_alls : PyData → DL.Env → Option Out := stepD [2] (fgName 2)
    b1__law_all
def g__law_all : FS :=
    (fsSeq (fsName (fLst (faCons (fTup faNil) faNil)) 1)
    (fsSeq (fsFor [2] (fiRange1 (fUn bLen (fName 0))) (fgName 2) b1__law_all)
    (fsRet (fUn bSortT (fComp [3] (fiSeq (fName 1)) (fgName 3) (fB (fCallN 2 _law_good_F (faCons (fName 0) (faCons (fName 3) faNil)))) (fName 3))))))
def _law_all_F : Fn := runF 1 4 g__law_all
abbrev b1__law_laid : FS :=
    (fsName (fBin opAdd (fBin opAdd (fName 2) (fIf (fB (fBin opIn (fName 3) (fName 1))) (fLst (faCons (fC .none) faNil)) (fLst faNil))) (fBin opMul (fLst (faCons (fName 3) faNil)) (fBin opIx (fName 4) (fC (.int 1))))) 2)
abbrev b1__law_laids : PyData → DL.Env → Option Out := stepD [3, 4] (fgTup (fgCons (fgName 3) (fgCons (fgName 4) fgNil)))
    b1__law_laid
def g__law_laid : FS :=
    (fsSeq (fsName (fLst faNil) 2)
    (fsSeq (fsFor [3, 4] (fiEnum (fName 0)) (fgTup (fgCons (fgName 3) (fgCons (fgName 4) fgNil))) b1__law_laid)
    (fsRet (fName 2))))
def _law_laid_F : Fn := runF 2 5 g__law_laid
abbrev b1_stretches : FS :=
    (fsSeq (fsName (fOfT (ftNot (fB (fCallN 2 fits_side_F (faCons (fName 5) (faCons (fName 3) faNil)))))) 7)
    (fsSeq (fsIf (fB (fBin opNe (fName 5) (fC (.str "any")))) (fsSeq (fsMut mAppend 1 (fTup (faCons (fName 2) (faCons (fName 4) (faCons (fName 7) faNil)))))
    (fsName (fBin opAdd (fName 4) (fC (.int 1))) 2)) fsNext)
    (fsName (fBin opAdd (fBin opAdd (fName 3) (fUn bInt (fName 7))) (fName 6)) 3)))
abbrev b1_stretchess : PyData → DL.Env → Option Out := stepD [4, 5, 6, 7] (fgTup (fgCons (fgName 4) (fgCons (fgTup (fgCons (fgName 5) (fgCons (fgName 6) fgNil))) fgNil)))
    b1_stretches
def g_stretches : FS :=
    (fsSeq (fsName (fLst faNil) 1)
    (fsSeq (fsName (fC (.int 0)) 2)
    (fsSeq (fsName (fC (.int 1)) 3)
    (fsSeq (fsFor [4, 5, 6, 7] (fiEnum (fName 0)) (fgTup (fgCons (fgName 4) (fgCons (fgTup (fgCons (fgName 5) (fgCons (fgName 6) fgNil))) fgNil))) b1_stretches)
    (fsRet (fName 1))))))
def stretches_F : Fn := runF 1 8 g_stretches
def g_fewest_blanks : FS :=
    (fsRet (fUn bLen (fComp [1, 2, 3] (fiSeq (fCallN 1 stretches_F (faCons (fName 0) faNil))) (fgTup (fgCons (fgName 1) (fgCons (fgName 2) (fgCons (fgName 3) fgNil)))) (fB (fName 3)) (fName 2))))
def fewest_blanks_F : Fn := runF 1 4 g_fewest_blanks
def g_early_layout : FS :=
    (fsRet (fUn bTuple (fComp [1, 2, 3] (fiSeq (fCallN 1 stretches_F (faCons (fName 0) faNil))) (fgTup (fgCons (fgName 1) (fgCons (fgName 2) (fgCons (fgName 3) fgNil)))) (fB (fName 3)) (fName 1))))
def early_layout_F : Fn := runF 1 4 g_early_layout
def g_late_layout : FS :=
    (fsRet (fUn bTuple (fComp [1, 2, 3] (fiSeq (fCallN 1 stretches_F (faCons (fName 0) faNil))) (fgTup (fgCons (fgName 1) (fgCons (fgName 2) (fgCons (fgName 3) fgNil)))) (fB (fName 3)) (fName 2))))
def late_layout_F : Fn := runF 1 4 g_late_layout
abbrev b1_count_layouts : FS :=
    (fsIf (fB (fName 4)) (fsAug opMulI 1 (fBin opAdd (fBin opSub (fName 3) (fName 2)) (fC (.int 1)))) fsNext)
abbrev b1_count_layoutss : PyData → DL.Env → Option Out := stepD [2, 3, 4] (fgTup (fgCons (fgName 2) (fgCons (fgName 3) (fgCons (fgName 4) fgNil))))
    b1_count_layouts
def g_count_layouts : FS :=
    (fsSeq (fsName (fC (.int 1)) 1)
    (fsSeq (fsFor [2, 3, 4] (fiSeq (fCallN 1 stretches_F (faCons (fName 0) faNil))) (fgTup (fgCons (fgName 2) (fgCons (fgName 3) (fgCons (fgName 4) fgNil)))) b1_count_layouts)
    (fsRet (fName 1))))
def count_layouts_F : Fn := runF 1 5 g_count_layouts
abbrev b1_layouts : FS :=
    (fsIf (fB (fName 4)) (fsName (fComp2 [5, 6] [6] (fiSeq (fName 1)) (fgName 5) (fiRange2 (fName 2) (fBin opAdd (fName 3) (fC (.int 1)))) (fgName 6) (fTup (faStar (fName 5) (faCons (fName 6) faNil)))) 1) fsNext)
abbrev b1_layoutss : PyData → DL.Env → Option Out := stepD [2, 3, 4] (fgTup (fgCons (fgName 2) (fgCons (fgName 3) (fgCons (fgName 4) fgNil))))
    b1_layouts
def g_layouts : FGn :=
    (fgSeq (fsName (fLst (faCons (fTup faNil) faNil)) 1)
    (fgSeq (fsFor [2, 3, 4] (fiSeq (fCallN 1 stretches_F (faCons (fName 0) faNil))) (fgTup (fgCons (fgName 2) (fgCons (fgName 3) (fgCons (fgName 4) fgNil)))) b1_layouts)
    (fgFor [5] (fiSeq (fName 1)) (fgName 5) (fName 5))))
def layouts_G : FnG := runG 1 7 g_layouts
def g__law_short : FS :=
    (fsSeq (fsName (fCallN 1 _law_all_F (faCons (fName 0) faNil)) 1)
    (fsSeq (fsName (fUn bMin (fComp [3] (fiSeq (fName 1)) (fgName 3) ftYes (fUn bLen (fName 3)))) 2)
    (fsRet (fComp [3] (fiSeq (fName 1)) (fgName 3) (fB (fBin opEq (fUn bLen (fName 3)) (fName 2))) (fName 3)))))
def _law_short_F : Fn := runF 1 4 g__law_short
def g_first_pages : FS :=
    (fsRet (fTup (faCons (fBin opIx (fCallN 2 starts_F (faCons (fName 0) (faCons (fCallN 1 late_layout_F (faCons (fName 0) faNil)) faNil))) (fName 1)) (faCons (fBin opIx (fCallN 2 starts_F (faCons (fName 0) (faCons (fCallN 1 early_layout_F (faCons (fName 0) faNil)) faNil))) (fName 1)) faNil))))
def first_pages_F : Fn := runF 2 2 g_first_pages
def g_reordered : FS :=
    (fsRet (fUn bTuple (fComp [2] (fiSeq (fName 1)) (fgName 2) ftYes (fBin opIx (fName 0) (fName 2)))))
def reordered_F : Fn := runF 2 3 g_reordered
-- kinds_F: DP2
def g_fewest_over_orders : FS :=
    (fsSeq (fsName (fCallN 1 kinds_F (faCons (fName 0) faNil)) 1)
    (fsSeq (fsPar3 (faCons (fUn bLen (fBin opDGet (fName 1) (fTup (faCons (fC (.str "right")) (faCons (fC (.int 1)) faNil))))) (faCons (fUn bLen (fBin opDGet (fName 1) (fTup (faCons (fC (.str "left")) (faCons (fC (.int 1)) faNil))))) (faCons (fUn bLen (fBin opDGet (fName 1) (fTup (faCons (fC (.str "any")) (faCons (fC (.int 1)) faNil))))) faNil))) 2 3 4)
    (fsSeq (fsIf (ftAnd (fB (fBin opEq (fBin opAdd (fBin opAdd (fName 2) (fName 3)) (fName 4)) (fC (.int 0)))) (fB (fBin opNe (fBin opDGet (fName 1) (fTup (faCons (fC (.str "left")) (faCons (fC (.int 0)) faNil)))) (fLst faNil)))) (fsRet (fC (.int 1))) fsNext)
    (fsRet (fTri bMax3 (fC (.int 0)) (fBin opSub (fBin opSub (fBin opSub (fName 2) (fName 3)) (fName 4)) (fC (.int 1))) (fBin opSub (fBin opSub (fName 3) (fName 2)) (fName 4)))))))
def fewest_over_orders_F : Fn := runF 1 5 g_fewest_over_orders
abbrev b1_best_order : FS :=
    (fsSeq (fsName (fBin opAdd (fName 6) (fCut (fName 2) (foSome (fName 7)) (foSome (fBin opAdd (fName 7) (fC (.int 1)))))) 6)
    (fsSeq (fsIf (fB (fBin opEq (fName 7) (fC (.int 0)))) (fsName (fBin opAdd (fName 6) (fBin opDGet (fName 1) (fTup (faCons (fC (.str "left")) (faCons (fC (.int 0)) faNil))))) 6) fsNext)
    (fsName (fBin opAdd (fName 6) (fCut (fName 3) (foSome (fName 7)) (foSome (fBin opAdd (fName 7) (fC (.int 1)))))) 6)))
abbrev b1_best_orders : PyData → DL.Env → Option Out := stepD [7] (fgName 7)
    b1_best_order
def g_best_order : FS :=
    (fsSeq (fsName (fCallN 1 kinds_F (faCons (fName 0) faNil)) 1)
    (fsSeq (fsPar3 (faCons (fBin opDGet (fName 1) (fTup (faCons (fC (.str "right")) (faCons (fC (.int 1)) faNil)))) (faCons (fBin opDGet (fName 1) (fTup (faCons (fC (.str "left")) (faCons (fC (.int 1)) faNil)))) (faCons (fBin opDGet (fName 1) (fTup (faCons (fC (.str "any")) (faCons (fC (.int 1)) faNil)))) faNil))) 2 3 4)
    (fsSeq (fsName (fBin bMax2 (fC (.int 0)) (fBin bMin2 (fUn bLen (fName 4)) (fBin opFdiv (fBin opAdd (fBin opSub (fBin opAdd (fUn bLen (fName 3)) (fUn bLen (fName 4))) (fUn bLen (fName 2))) (fC (.int 1))) (fC (.int 2))))) 5)
    (fsSeq (fsPar (fBin opAdd (fName 2) (fCut (fName 4) foNone (foSome (fName 5)))) (fBin opAdd (fName 3) (fCut (fName 4) (foSome (fName 5)) foNone)) 2 3)
    (fsSeq (fsName (fBin opAdd (fBin opDGet (fName 1) (fTup (faCons (fC (.str "right")) (faCons (fC (.int 0)) faNil)))) (fBin opDGet (fName 1) (fTup (faCons (fC (.str "any")) (faCons (fC (.int 0)) faNil))))) 6)
    (fsSeq (fsFor [7] (fiRange1 (fTri bMax3 (fUn bLen (fName 2)) (fUn bLen (fName 3)) (fC (.int 1)))) (fgName 7) b1_best_order)
    (fsRet (fUn bTuple (fName 6)))))))))
def best_order_F : Fn := runF 1 8 g_best_order
abbrev b1__law_orders : FS :=
    (fsName (fBin opAdd (fName 3) (fComp [5] (fiRange1 (fName 0)) (fgName 5) (fB (fBin opNotIn (fName 5) (fName 4))) (fBin opAdd (fName 4) (fTup (faCons (fName 5) faNil))))) 3)
abbrev b1__law_orderss : PyData → DL.Env → Option Out := stepD [] (fgName 4)
    b1__law_orders
abbrev b2__law_orders : FS :=
    (fsSeq (fsName (fLst faNil) 3)
    (fsSeq (fsFor [] (fiSeq (fName 1)) (fgName 4) b1__law_orders)
    (fsName (fName 3) 1)))
abbrev b2__law_orderss : PyData → DL.Env → Option Out := stepD [2, 3, 4] (fgName 2)
    b2__law_orders
def g__law_orders : FS :=
    (fsSeq (fsName (fLst (faCons (fTup faNil) faNil)) 1)
    (fsSeq (fsFor [2, 3, 4] (fiRange1 (fName 0)) (fgName 2) b2__law_orders)
    (fsRet (fName 1))))
def _law_orders_F : Fn := runF 1 6 g__law_orders
def g__law_formula : FS :=
    (fsSeq (fsName (fUn bLen (fComp [2, 3] (fiSeq (fName 0)) (fgTup (fgCons (fgName 2) (fgCons (fgName 3) fgNil))) (ftAnd (fB (fBin opEq (fName 2) (fC (.str "right")))) (fB (fBin opEq (fBin opMod (fName 3) (fC (.int 2))) (fC (.int 1))))) (fC (.int 1)))) 1)
    (fsSeq (fsName (fUn bLen (fComp [2, 3] (fiSeq (fName 0)) (fgTup (fgCons (fgName 2) (fgCons (fgName 3) fgNil))) (ftAnd (fB (fBin opEq (fName 2) (fC (.str "left")))) (fB (fBin opEq (fBin opMod (fName 3) (fC (.int 2))) (fC (.int 1))))) (fC (.int 1)))) 4)
    (fsSeq (fsName (fUn bLen (fComp [2, 3] (fiSeq (fName 0)) (fgTup (fgCons (fgName 2) (fgCons (fgName 3) fgNil))) (ftAnd (fB (fBin opEq (fName 2) (fC (.str "any")))) (fB (fBin opEq (fBin opMod (fName 3) (fC (.int 2))) (fC (.int 1))))) (fC (.int 1)))) 5)
    (fsSeq (fsIf (ftAnd (fB (fBin opEq (fBin opAdd (fBin opAdd (fName 1) (fName 4)) (fName 5)) (fC (.int 0)))) (fB (fBin opNe (fComp [2, 3] (fiSeq (fName 0)) (fgTup (fgCons (fgName 2) (fgCons (fgName 3) fgNil))) (fB (fBin opEq (fName 2) (fC (.str "left")))) (fC (.int 1))) (fLst faNil)))) (fsRet (fC (.int 1))) fsNext)
    (fsRet (fTri bMax3 (fC (.int 0)) (fBin opSub (fBin opSub (fBin opSub (fName 1) (fName 4)) (fName 5)) (fC (.int 1))) (fBin opSub (fBin opSub (fName 4) (fName 1)) (fName 5))))))))
def _law_formula_F : Fn := runF 1 6 g__law_formula
def g_moved : FS :=
    (fsSeq (fsName (fBin opAdd (fCut (fName 0) foNone (foSome (fName 1))) (fCut (fName 0) (foSome (fBin opAdd (fName 1) (fC (.int 1)))) foNone)) 3)
    (fsRet (fBin opAdd (fBin opAdd (fCut (fName 3) foNone (foSome (fName 2))) (fCut (fName 0) (foSome (fName 1)) (foSome (fBin opAdd (fName 1) (fC (.int 1)))))) (fCut (fName 3) (foSome (fName 2)) foNone))))
def moved_F : Fn := runF 3 4 g_moved
abbrev b1_best_moves : FS :=
    (fsIf (fB (fBin opNe (fName 4) (fName 3))) (fsSeq (fsName (fCallN 1 fewest_blanks_F (faCons (fCallN 3 moved_F (faCons (fName 0) (faCons (fName 3) (faCons (fName 4) faNil)))) faNil)) 5)
    (fsSeq (fsIf (ftOr (fB (fBin opIsN (fName 1) (fC .none))) (fB (fBin opLt (fName 5) (fName 1)))) (fsPar (fName 5) (fLst faNil) 1 2) fsNext)
    (fsIf (fB (fBin opEq (fName 5) (fName 1))) (fsMut mAppend 2 (fTup (faCons (fName 3) (faCons (fName 4) faNil)))) fsNext))) fsNext)
abbrev b1_best_movess : PyData → DL.Env → Option Out := stepD [] (fgName 4)
    b1_best_moves
abbrev b2_best_moves : FS :=
    (fsFor [] (fiRange1 (fUn bLen (fName 0))) (fgName 4) b1_best_moves)
abbrev b2_best_movess : PyData → DL.Env → Option Out := stepD [3, 4, 5] (fgName 3)
    b2_best_moves
def g_best_moves : FS :=
    (fsSeq (fsPar (fC .none) (fLst faNil) 1 2)
    (fsSeq (fsFor [3, 4, 5] (fiRange1 (fUn bLen (fName 0))) (fgName 3) b2_best_moves)
    (fsRet (fTup (faCons (fIf (fB (fBin opIsNotN (fName 1) (fC .none))) (fName 1) (fCallN 1 fewest_blanks_F (faCons (fName 0) faNil))) (faCons (fName 2) faNil))))))
def best_moves_F : Fn := runF 1 6 g_best_moves
def g__law_moved : FS :=
    (fsSeq (fsName (fUn bList (fBin opAdd (fCut (fName 0) foNone (foSome (fName 1))) (fCut (fName 0) (foSome (fBin opAdd (fName 1) (fC (.int 1)))) foNone))) 3)
    (fsRet (fUn bTuple (fBin opAdd (fBin opAdd (fCut (fName 3) foNone (foSome (fName 2))) (fLst (faCons (fBin opIx (fName 0) (fName 1)) faNil))) (fCut (fName 3) (foSome (fName 2)) foNone)))))
def _law_moved_F : Fn := runF 3 4 g__law_moved
def g_page_effect : FS :=
    (fsSeq (fsAsg (fBin opIx (fName 0) (fName 1)) (fgTup (fgCons (fgName 2) (fgCons (fgName 3) fgNil))))
    (fsSeq (fsName (fBin opAdd (fBin opAdd (fCut (fName 0) foNone (foSome (fName 1))) (fTup (faCons (fTup (faCons (fName 2) (faCons (fBin opAdd (fName 3) (fC (.int 1))) faNil))) faNil))) (fCut (fName 0) (foSome (fBin opAdd (fName 1) (fC (.int 1)))) foNone)) 4)
    (fsRet (fBin opSub (fCallN 1 fewest_blanks_F (faCons (fName 4) faNil)) (fCallN 1 fewest_blanks_F (faCons (fName 0) faNil))))))
def page_effect_F : Fn := runF 2 5 g_page_effect
abbrev b1_facing : FS :=
    (fsSeq (fsName (fBin opSub (fBin opAdd (fBin opIx (fName 3) (fName 4)) (fBin opIx (fBin opIx (fName 0) (fName 4)) (fC (.int 1)))) (fC (.int 1))) 5)
    (fsIf (ftAnd (fB (fBin opEq (fBin opMod (fName 5) (fC (.int 2))) (fC (.int 0)))) (fB (fBin opEq (fBin opIx (fName 3) (fBin opAdd (fName 4) (fC (.int 1)))) (fBin opAdd (fName 5) (fC (.int 1)))))) (fsMut mAppend 2 (fName 4)) fsNext))
abbrev b1_facings : PyData → DL.Env → Option Out := stepD [4, 5] (fgName 4)
    b1_facing
def g_facing : FS :=
    (fsSeq (fsPar (fLst faNil) (fCallN 2 starts_F (faCons (fName 0) (faCons (fName 1) faNil))) 2 3)
    (fsSeq (fsFor [4, 5] (fiRange1 (fBin opSub (fUn bLen (fName 0)) (fC (.int 1)))) (fgName 4) b1_facing)
    (fsRet (fName 2))))
def facing_F : Fn := runF 2 6 g_facing
abbrev b1_surely_facing : FS :=
    (fsIf (fB (fName 4)) (fsMut mExtend 1 (fListG (fiRange2 (fName 2) (fBin opAdd (fName 3) (fC (.int 1)))))) fsNext)
abbrev b1_surely_facings : PyData → DL.Env → Option Out := stepD [2, 3, 4] (fgTup (fgCons (fgName 2) (fgCons (fgName 3) (fgCons (fgName 4) fgNil))))
    b1_surely_facing
def g_surely_facing : FS :=
    (fsSeq (fsName (fLst faNil) 1)
    (fsSeq (fsFor [2, 3, 4] (fiSeq (fCallN 1 stretches_F (faCons (fName 0) faNil))) (fgTup (fgCons (fgName 2) (fgCons (fgName 3) (fgCons (fgName 4) fgNil)))) b1_surely_facing)
    (fsRet (fComp [3] (fiSeq (fCallN 2 facing_F (faCons (fName 0) (faCons (fCallN 1 late_layout_F (faCons (fName 0) faNil)) faNil)))) (fgName 3) (fB (fBin opNotIn (fBin opAdd (fName 3) (fC (.int 1))) (fName 1))) (fName 3)))))
def surely_facing_F : Fn := runF 1 5 g_surely_facing
abbrev b1__law_facing : FS :=
    (fsSeq (fsName (fBin opSub (fBin opAdd (fBin opIx (fName 2) (fName 4)) (fBin opIx (fBin opIx (fName 0) (fName 4)) (fC (.int 1)))) (fC (.int 1))) 5)
    (fsIf (ftAnd (fB (fBin opEq (fBin opIx (fName 2) (fBin opAdd (fName 4) (fC (.int 1)))) (fBin opAdd (fName 5) (fC (.int 1))))) (fB (fBin opEq (fBin opMod (fName 5) (fC (.int 2))) (fC (.int 0))))) (fsMut mAppend 3 (fName 4)) fsNext))
abbrev b1__law_facings : PyData → DL.Env → Option Out := stepD [4, 5] (fgName 4)
    b1__law_facing
def g__law_facing : FS :=
    (fsSeq (fsPar (fCallN 2 _law_firsts_F (faCons (fName 0) (faCons (fName 1) faNil))) (fLst faNil) 2 3)
    (fsSeq (fsFor [4, 5] (fiRange1 (fBin opSub (fUn bLen (fName 0)) (fC (.int 1)))) (fgName 4) b1__law_facing)
    (fsRet (fName 3))))
def _law_facing_F : Fn := runF 2 6 g__law_facing
def g_sheets : FS :=
    (fsRet (fUn opNeg (fBin opFdiv (fUn opNeg (fCallN 2 last_page_F (faCons (fName 0) (faCons (fCallN 1 late_layout_F (faCons (fName 0) faNil)) faNil)))) (fName 1))))
def sheets_F : Fn := runF 2 2 g_sheets
def g_end_blanks : FS :=
    (fsRet (fBin opMod (fUn opNeg (fCallN 2 last_page_F (faCons (fName 0) (faCons (fCallN 1 late_layout_F (faCons (fName 0) faNil)) faNil)))) (fName 1)))
def end_blanks_F : Fn := runF 2 2 g_end_blanks
def g_is_contents : FS :=
    (fsSeq (fsIf (ftOr (fB (fBin opGt (fBin opIx (fName 1) (fC (.int 0))) (fC (.int 2)))) (ftNot (fB (fUn bAll (fComp [3, 4] (fiZip (fName 0) (fName 1)) (fgTup (fgCons (fgName 3) (fgCons (fgName 4) fgNil))) ftYes (fCallN 2 fits_side_F (faCons (fName 3) (faCons (fName 4) faNil)))))))) (fsRet (fC (.bool false))) fsNext)
    (fsRet (fOrE (fB (fBin opEq (fBin opIx (fName 1) (fC (.int 0))) (fC (.int 1)))) (fOfT (ftNot (fB (fUn bAll (fComp [3] (fiSeq (fName 0)) (fgName 3) ftYes (fBin opEq (fName 3) (fC (.str "any")))))))))))
def is_contents_F : Fn := runF 3 5 g_is_contents
def g_gaps : FS :=
    (fsRet (fComp [2, 3] (fiZip (fName 0) (fTup (faStar (fCut (fName 0) (foSome (fC (.int 1))) foNone) (faCons (fBin opAdd (fName 1) (fC (.int 1))) faNil)))) (fgTup (fgCons (fgName 2) (fgCons (fgName 3) fgNil))) ftYes (fBin opSub (fName 3) (fName 2))))
def gaps_F : Fn := runF 2 4 g_gaps
abbrev b1_choices : FS :=
    (fsIf (fB (fBin opNe (fName 7) (fC (.str "any")))) (fsSeq (fsName (fLst (faCons (fC .none) faNil)) 8)
    (fsSeq (fsIf (ftAnd (fB (fBin opEq (fName 4) (fC (.int 0)))) (fB (fBin opEq (fBin opIx (fName 1) (fC (.int 0))) (fC (.int 2))))) (fsName (fLst (faCons (fC (.int 0)) faNil)) 8) (fsMut mExtend 8 (fComp [9] (fiRange2 (fBin bMax2 (fC (.int 1)) (fName 4)) (fBin opAdd (fName 6) (fC (.int 1)))) (fgName 9) (fB (fBin opGt (fBin opIx (fName 5) (fBin opSub (fName 9) (fC (.int 1)))) (fC (.int 1)))) (fName 9))))
    (fsSeq (fsMut mAppend 3 (fName 8))
    (fsName (fBin opAdd (fName 6) (fC (.int 1))) 4)))) fsNext)
abbrev b1_choicess : PyData → DL.Env → Option Out := stepD [6, 7, 8] (fgTup (fgCons (fgName 6) (fgCons (fgName 7) fgNil)))
    b1_choices
def g_choices : FS :=
    (fsSeq (fsPar (fLst faNil) (fC (.int 0)) 3 4)
    (fsSeq (fsName (fCallN 2 gaps_F (faCons (fName 1) (faCons (fName 2) faNil))) 5)
    (fsSeq (fsFor [6, 7, 8] (fiEnum (fName 0)) (fgTup (fgCons (fgName 6) (fgCons (fgName 7) fgNil))) b1_choices)
    (fsRet (fName 3)))))
def choices_F : Fn := runF 3 10 g_choices
abbrev b1_count_books : FS :=
    (fsAug opMulI 3 (fUn bLen (fName 4)))
abbrev b1_count_bookss : PyData → DL.Env → Option Out := stepD [4] (fgName 4)
    b1_count_books
def g_count_books : FS :=
    (fsSeq (fsIf (ftNot (fB (fCallN 3 is_contents_F (faCons (fName 0) (faCons (fName 1) (faCons (fName 2) faNil)))))) (fsRet (fC (.int 0))) fsNext)
    (fsSeq (fsName (fC (.int 1)) 3)
    (fsSeq (fsFor [4] (fiSeq (fCallN 3 choices_F (faCons (fName 0) (faCons (fName 1) (faCons (fName 2) faNil))))) (fgName 4) b1_count_books)
    (fsRet (fName 3)))))
def count_books_F : Fn := runF 3 5 g_count_books
abbrev b1_lengths : FS :=
    (fsIf (fB (fBin opIn (fBin opAdd (fName 3) (fC (.int 1))) (fName 6))) (fsName (fLst (faCons (fBin opSub (fName 4) (fC (.int 1))) (faCons (fName 4) faNil))) 5) fsNext)
abbrev b1_lengthss : PyData → DL.Env → Option Out := stepD [6] (fgName 6)
    b1_lengths
def g_lengths : FS :=
    (fsSeq (fsIf (ftNot (fB (fCallN 3 is_contents_F (faCons (fName 0) (faCons (fName 1) (faCons (fName 2) faNil)))))) (fsRet (fLst faNil)) fsNext)
    (fsSeq (fsName (fBin opIx (fCallN 2 gaps_F (faCons (fName 1) (faCons (fName 2) faNil))) (fName 3)) 4)
    (fsSeq (fsName (fLst (faCons (fName 4) faNil)) 5)
    (fsSeq (fsFor [6] (fiSeq (fCallN 3 choices_F (faCons (fName 0) (faCons (fName 1) (faCons (fName 2) faNil))))) (fgName 6) b1_lengths)
    (fsRet (fName 5))))))
def lengths_F : Fn := runF 4 7 g_lengths
def g_any_book : FS :=
    (fsSeq (fsIf (ftNot (fB (fCallN 3 is_contents_F (faCons (fName 0) (faCons (fName 1) (faCons (fName 2) faNil)))))) (fsRet (fC .none)) fsNext)
    (fsSeq (fsName (fUn bTuple (fComp [4, 5] (fiZip (fName 0) (fCallN 2 gaps_F (faCons (fName 1) (faCons (fName 2) faNil)))) (fgTup (fgCons (fgName 4) (fgCons (fgName 5) fgNil))) ftYes (fTup (faCons (fName 4) (faCons (fName 5) faNil))))) 3)
    (fsRet (fTup (faCons (fName 3) (faCons (fIf (fB (fBin opEq (fBin opIx (fName 1) (fC (.int 0))) (fC (.int 2)))) (fTup (faCons (fC (.int 0)) faNil)) (fTup faNil)) faNil))))))
def any_book_F : Fn := runF 3 6 g_any_book
abbrev b1__law_books : FS :=
    (fsName (fBin opAdd (fName 3) (fComp [5] (fiSeq (fName 3)) (fgName 5) ftYes (fBin opAdd (fName 5) (fTup (faCons (fName 4) faNil))))) 3)
abbrev b1__law_bookss : PyData → DL.Env → Option Out := stepD [4] (fgName 4)
    b1__law_books
abbrev b2__law_books : FS :=
    (fsMut mAppend 8 (fTup (faCons (fName 9) (faCons (fBin opSub (fBin opSub (fBin opIx (fName 7) (fName 4)) (fBin opIx (fName 1) (fName 4))) (fIf (fB (fBin opIn (fBin opAdd (fName 4) (fC (.int 1))) (fName 5))) (fC (.int 1)) (fC (.int 0)))) faNil))))
abbrev b2__law_bookss : PyData → DL.Env → Option Out := stepD [] (fgTup (fgCons (fgName 4) (fgCons (fgName 9) fgNil)))
    b2__law_books
abbrev b3__law_books : FS :=
    (fsSeq (fsName (fBin opAdd (fUn bList (fCut (fName 1) (foSome (fC (.int 1))) foNone)) (fLst (faCons (fBin opAdd (fName 2) (fC (.int 1))) faNil))) 7)
    (fsSeq (fsName (fLst faNil) 8)
    (fsSeq (fsFor [] (fiEnum (fName 0)) (fgTup (fgCons (fgName 4) (fgCons (fgName 9) fgNil))) b2__law_books)
    (fsIf (ftAnd (fB (fBin opEq (fComp [10] (fiSeq (fName 8)) (fgName 10) (fB (fBin opLt (fBin opIx (fName 10) (fC (.int 1))) (fC (.int 1)))) (fC (.int 1))) (fLst faNil))) (fB (fBin opEq (fUn bTuple (fCallN 2 _law_firsts_F (faCons (fName 8) (faCons (fName 5) faNil)))) (fName 1)))) (fsIf (ftAnd (fB (fCallN 2 _law_good_F (faCons (fName 8) (faCons (fName 5) faNil)))) (fB (fBin opEq (fUn bLen (fName 5)) (fUn bLen (fCallN 1 _law_needed_F (faCons (fName 8) faNil)))))) (fsMut mAppend 6 (fTup (faCons (fUn bTuple (fName 8)) (faCons (fName 5) faNil)))) fsNext) fsNext))))
abbrev b3__law_bookss : PyData → DL.Env → Option Out := stepD [5, 7, 8, 9] (fgName 5)
    b3__law_books
def g__law_books : FS :=
    (fsSeq (fsName (fLst (faCons (fTup faNil) faNil)) 3)
    (fsSeq (fsFor [4] (fiRange1 (fUn bLen (fName 0))) (fgName 4) b1__law_books)
    (fsSeq (fsName (fLst faNil) 6)
    (fsSeq (fsFor [5, 7, 8, 9] (fiSeq (fName 3)) (fgName 5) b3__law_books)
    (fsRet (fName 6))))))
def _law_books_F : Fn := runF 3 11 g__law_books
def g__wall : FS :=
    (fsWhile 100 (fB (fC (.bool true))) fsNext)
def _wall_F : Fn := runF 1 1 g__wall
def g__law_turned : FS :=
    (fsRet (fUn bTuple (fComp [1, 2] (fiSeq (fName 0)) (fgTup (fgCons (fgName 1) (fgCons (fgName 2) fgNil))) ftYes (fTup (faCons (fLook [("right", "left"), ("left", "right"), ("any", "any")] (fName 1)) (faCons (fName 2) faNil))))))
def _law_turned_F : Fn := runF 1 3 g__law_turned
end RP

/-! DL8: further rules that the printed derivations name. -/
namespace DL
open PySem PySem.Spec PyProof.Rows L2
section
variable {X : Cx}
theorem de_isi2 {e : Expr} {fa : FE} {p q q2 qt pos : Pos} {x y : Str} {Tn Un : String} {nt} (hg : Gl X "isinstance") (hm : X.mg "isinstance" = none) (hgT : Gl X x) (hmT : X.mg x = none) (hv : bootBuiltins x = some (.type Tn)) (hgU : Gl X y) (hmU : X.mg y = none) (hvU : bootBuiltins y = some (.type Un)) (hT : kitAll Tn = true) (hU : kitAll Un = true) (he : DE X e fa)
    (hn : x ≠ "__name__" := by decide) (hd : (x == ("__debug__" : Str)) = false := by decide) (hn2 : y ≠ "__name__" := by decide) (hd2 : (y == ("__debug__" : Str)) = false := by decide)
    (hs : starEach [e, .Tuple [.Name x q, .Name y q2] nt qt] X.env = (false, eval e X.env) :: starEach [.Tuple [.Name x q, .Name y q2] nt qt] X.env := by rfl) (hs2 : starEach [.Tuple [.Name x q, .Name y q2] nt qt] X.env = (false, eval (.Tuple [.Name x q, .Name y q2] nt qt) X.env) :: starEach [] X.env := by rfl)
    (ht : starEach [.Name x q, .Name y q2] X.env = (false, eval (.Name x q) X.env) :: starEach [.Name y q2] X.env := by rfl) (ht2 : starEach [.Name y q2] X.env = (false, eval (.Name y q2) X.env) :: starEach [] X.env := by rfl)
    (hpl : (backTo pos (starEach [.Tuple [.Name x q, .Name y q2] nt qt] X.env)).any (·.1) = false := by rfl) :
    DE X (.Call (.Name "isinstance" p) [e, .Tuple [.Name x q, .Name y q2] nt qt] [] pos) (fUn (bIsi [Tn, Un]) fa) :=
  PE.imp (pe_callB call_isiT hg hm (by decide +kernel) (pa_cons he (pa_cons (pe_tup (pa_cons (pe_bltn (v := .ty Tn) hgT hmT hv rfl hn hd) (pa_cons (pe_bltn (v := .ty Un) hgU hmU hvU rfl hn2 hd2) pa_nil ht2) ht)) pa_nil hs2) hs) (by decide) (by decide) hs hpl) (isi2_imp hT hU)
theorem p_mul : PIp X .Mult (rD opMulI) := by
  intro pins s σ H x y v u Q I rx ry h
  obtain ⟨F, dx, dy, z, sm, hx, hy, e, k⟩ := h
  unfold opMulI at e
  split at e
  · split at e
    · rename_i hz
      cases e
      exact iop_mul pins s σ H x y v u Q I rx ry ⟨_, _, hx.int, hy.int, low_of hz, k.int sm⟩
    · cases e
  · cases e
/-- max of three ints -/
def rC3 (op : PyData → PyData → PyData → Option Rs) : List V → Hp → VK → Prop := fun xs H Q => ∃ x y w, xs = [x, y, w] ∧ ∃ F dx dy dw z, Same F H ∧ HV F H x dx ∧ HV F H y dy ∧ HV F H w dw ∧ op dx dy dw = some z ∧ RetW F H z Q
end
end DL

/-! DL9: sorted() of rows of tuples of ints of any lengths. -/
namespace DL
open PySem PySem.Spec PyProof.Rows L2

theorem bo_sorted : bootBuiltins "sorted" = some (.builtin "sorted") := by decide +kernel
/-! ### the order -/
theorem lexL_cons {x y : Int} {xs ys : List Int} : lexL (x :: xs) (y :: ys) = if x = y then lexL xs ys else decide (x < y) := rfl
theorem lexL_asym : ∀ xs ys : List Int, lexL xs ys = true → lexL ys xs = false
  | [], [], h => by cases h
  | [], _ :: _, _ => rfl
  | _ :: _, [], h => by cases h
  | x :: xs, y :: ys, h => by
    rw [lexL_cons] at h ⊢
    by_cases e : x = y
    · rw [if_pos e] at h
      rw [if_pos e.symm]
      exact lexL_asym xs ys h
    · rw [if_neg e] at h
      rw [if_neg (fun z => e z.symm)]
      have := of_decide_eq_true h
      exact decide_eq_false (by omega)
theorem lexL_tr : ∀ xs ys zs : List Int, lexL ys xs = false → lexL zs ys = false → lexL zs xs = false
  | [], ys, zs, _, _ => by cases zs <;> rfl
  | x :: xs, [], zs, h, _ => by cases h
  | x :: xs, y :: ys, [], _, h => by cases h
  | x :: xs, y :: ys, z :: zs, h1, h2 => by
    rw [lexL_cons] at h1 h2 ⊢
    by_cases e1 : y = x
    · rw [if_pos e1] at h1
      by_cases e2 : z = y
      · rw [if_pos e2] at h2
        rw [if_pos (e2.trans e1)]
        exact lexL_tr xs ys zs h1 h2
      · rw [if_neg e2] at h2
        rw [← e1, if_neg e2]
        exact h2
    · rw [if_neg e1] at h1
      have h1' := of_decide_eq_false h1
      by_cases e2 : z = y
      · rw [e2, if_neg e1]
        exact h1
      · rw [if_neg e2] at h2
        have h2' := of_decide_eq_false h2
        rw [if_neg (by omega)]
        exact decide_eq_false (by omega)
theorem lexL_eq : ∀ xs ys : List Int, lexL xs ys = false → lexL ys xs = false → xs = ys
  | [], [], _, _ => rfl
  | [], _ :: _, h, _ => by cases h
  | _ :: _, [], _, h => by cases h
  | x :: xs, y :: ys, h1, h2 => by
    rw [lexL_cons] at h1 h2
    by_cases e : x = y
    · rw [if_pos e] at h1
      rw [if_pos e.symm] at h2
      rw [e, lexL_eq xs ys h1 h2]
    · rw [if_neg e] at h1
      rw [if_neg (fun z => e z.symm)] at h2
      have h1' := of_decide_eq_false h1
      have h2' := of_decide_eq_false h2
      omega
theorem swo_key {α : Type} (k : α → List Int) : SrtO.Swo fun v u => lexL (k v) (k u) := ⟨fun _ _ => lexL_asym _ _, fun _ _ _ => lexL_tr _ _ _⟩
/-! ### the machine compares so -/
section
variable {prog : Program} {w : World} {A : Around} {E : Value → Shared → Prop} {s : Shared} {Q : Bool → Shared → Prop}
theorem lex_tups {b : Bool} {xs ys : List Value} {ns ms : List Int} (i : Nat) (hx : IntsAre xs ns) (hy : IntsAre ys ms) (h : Q (lexL ns ms) s) : PySem.W.KatLex prog w A b (decide (xs.length < ys.length)) Q (xs.zip ys) i s := by
  have gen : ∀ (f : Bool) (xs : List Value) (ns : List Int), IntsAre xs ns → ∀ (ys : List Value) (ms : List Int) (i : Nat), IntsAre ys ms → f = decide (xs.length < ys.length) → Q (lexL ns ms) s → PySem.W.KatLex prog w A b f Q (xs.zip ys) i s := by
    intro f xs ns hx
    induction hx with
    | nil =>
      intro ys ms i hy hf h
      cases hy with
      | nil =>
        subst hf
        exact PySem.W.kat_nil h
      | cons q u hy =>
        subst hf
        exact PySem.W.kat_nil h
    | @cons p t xs ns hx ih =>
      intro ys ms i hy hf h
      cases hy with
      | nil =>
        subst hf
        exact PySem.W.kat_nil h
      | @cons q u ys ms hy =>
        show PySem.W.KatLex prog w A b f Q ((Value.int p t, Value.int q u) :: xs.zip ys) i s
        refine PySem.W.kat_cons (wpAny_eqBool_int ?_)
        rw [lexL_cons] at h
        by_cases e : p = q
        · rw [if_pos e] at h
          subst e
          rw [beq_self_eq_true]
          refine PySem.W.kat_yes (ih ys ms (i + 1) hy ?_ h)
          rw [hf]
          simp
        · rw [if_neg e] at h
          rw [show (p == q) = false from beq_eq_false_iff_ne.mpr e]
          exact PySem.W.kat_no (TS.oneLt_ints _ h)
  exact gen _ xs ns hx ys ms i hy rfl h
theorem cmp_tups {vs : List Value} {k : Value → List Int} (hp : ∀ v ∈ vs, TS.TupInts s.heap v (k v)) : SrtO.Cmp prog w A s (tuples' true) (fun p => p.1 ∈ vs) (SrtO.lt2 fun v u => lexL (k v) (k u)) := by
  intro p q hm hm'
  obtain ⟨a, xs, e, ⟨o, ho, hc, n, hd⟩, hi⟩ := hp _ hm
  obtain ⟨a', xs', e', ⟨o', ho', hc', n', hd'⟩, hi'⟩ := hp _ hm'
  show wpAny (model prog w) A (keyLt' (tuples' true) p.1 q.1) (fun r s' => s' = s ∧ r = lexL (k p.1) (k q.1)) (fun _ _ => False) s
  rw [e, e'] at *
  refine PySem.W.kat_lt ho hd ho' hd' ?_
  rw [← Array.length_toList, ← Array.length_toList]
  exact lex_tups 0 hi hi' ⟨rfl, rfl⟩
theorem lexAt_lexL : ∀ (ns ms : List Int) (e r : Nat → Bool) (z : Bool) (i : Nat), (∀ j x y, ns[j]? = some x → ms[j]? = some y → e (i + j) = decide (x = y) ∧ r (i + j) = decide (x < y)) → z = decide (ns.length < ms.length) → Ob.lexAt e r z i (min ns.length ms.length) = lexL ns ms
  | [], [], e, r, z, i, _, hz => hz
  | [], y :: ms, e, r, z, i, _, hz => by
    rw [List.length_nil, Nat.zero_min]
    exact hz.trans (decide_eq_true (Nat.succ_pos _))
  | x :: ns, [], e, r, z, i, _, hz => by
    rw [List.length_nil, Nat.min_zero]
    exact hz.trans (decide_eq_false (Nat.not_lt_zero _))
  | x :: ns, y :: ms, e, r, z, i, h, hz => by
    have h0 := h 0 x y rfl rfl
    rw [Nat.add_zero] at h0
    rw [List.length_cons, List.length_cons, Nat.succ_min_succ, Ob.lexAt_succ, lexL_cons, h0.1, h0.2]
    by_cases q : x = y
    · rw [if_pos (decide_eq_true q), if_pos q]
      refine lexAt_lexL ns ms e r z (i + 1) (fun j x' y' hx hy => ?_) (by rw [hz]; simp)
      have := h (j + 1) x' y' hx hy
      rw [show i + 1 + j = i + (j + 1) by omega]
      exact this
    · rw [if_neg (by rw [decide_eq_false q]; simp), if_neg q]
theorem cmp_one {vs : List Value} {k : Value → List Int} (hu : A.units < cLine) (hp : ∀ v ∈ vs, TS.TupInts s.heap v (k v)) : SrtO.Cmp prog w A s oneType' (fun p => p.1 ∈ vs) (SrtO.lt2 fun v u => lexL (k v) (k u)) := by
  intro p q hm hm'
  obtain ⟨a, xs, e, hx, hi⟩ := hp _ hm
  obtain ⟨a', xs', e', hx', hi'⟩ := hp _ hm'
  show wpAny (model prog w) A (keyLt' oneType' p.1 q.1) (fun r s' => s' = s ∧ r = lexL (k p.1) (k q.1)) (fun _ _ => False) s
  rw [e, e'] at *
  generalize k (Value.ref a) = ns at *
  generalize k (Value.ref a') = ms at *
  obtain ⟨⟨cls, dd, data, sl⟩, ho, hc, n, hd⟩ := hx
  obtain ⟨⟨cls2, dd2, data2, sl2⟩, ho2, hc2, n2, hd2⟩ := hx'
  simp only at hc hd hc2 hd2
  subst hc hd hc2 hd2
  have l1 : xs.size = ns.length := by rw [← Array.length_toList]; exact hi.length
  have l2 : xs'.size = ms.length := by rw [← Array.length_toList]; exact hi'.length
  have at1 : ∀ j (h1 : j < xs.size), ∃ t, xs[j] = .int (ns.getD j 0) t := fun j h1 => PyProof.Rows.IntsAre.int_at hi _ _ (by simp [h1])
  have at2 : ∀ j (h1 : j < xs'.size), ∃ t, xs'[j] = .int (ms.getD j 0) t := fun j h1 => PyProof.Rows.IntsAre.int_at hi' _ _ (by simp [h1])
  rw [keyLt'_oneType, oneLt'_eq]
  simp only [if_true]
  refine wpAny_bind (wpAny_cRoomFor hu ?_)
  have hT : s.TypeIs (.ref a) "tuple" := ⟨_, ho, rfl⟩
  refine wpAny_bind (wpAny_callSpecialIfBound?_slot hT F.slot_tuple_lt (call_meets F.slot_tuple_lt hT F.entry_tuple_lt (F.args_tuple_lt_2 _ _)
    (Ob.tuple_ltAt a a' xs xs' n n2 dd dd2 sl sl2 (fun j => decide (ns.getD j 0 = ms.getD j 0)) (fun j => decide (ns.getD j 0 < ms.getD j 0))) ⟨ho, ho2, fun j h1 h2 => ?_, fun j h1 h2 _ => ?_, ?_⟩))
  · obtain ⟨t, et⟩ := at1 j h1
    obtain ⟨t', et'⟩ := at2 j h2
    rw [et, et']
    have z : (ns.getD j 0 == ms.getD j 0) = decide (ns.getD j 0 = ms.getD j 0) := by
      by_cases q : ns.getD j 0 = ms.getD j 0
      · rw [decide_eq_true q]; exact beq_iff_eq.mpr q
      · rw [decide_eq_false q]; exact beq_eq_false_iff_ne.mpr q
    rw [← z]
    exact SeqAt.EqAt.int_int _ _ _ _
  · obtain ⟨t, et⟩ := at1 j h1
    obtain ⟨t', et'⟩ := at2 j h2
    rw [et, et']
    exact Ob.RcOp.lt_int _ _ _ _
  · refine wpAny_truthy_bool ⟨rfl, ?_⟩
    rw [l1, l2]
    refine lexAt_lexL ns ms _ _ _ 0 (fun j x y hx hy => ?_) rfl
    rw [Nat.zero_add]
    simp only [List.getD_eq_getElem?_getD, hx, hy, Option.getD_some]
    exact ⟨trivial, trivial⟩
/-! ### the kind of the keys -/
def FirstOf (h : Heap) : List Value → List (Option Value) → Prop
  | [], [] => True
  | v :: vs, f :: fs => (∃ a o xs n, v = .ref a ∧ h.get? a = some o ∧ o.cls = .type "tuple" ∧ o.data = .seq xs n ∧ xs[0]? = f) ∧ FirstOf h vs fs
  | _, _ => False
theorem firsts_run {M : Model} {A : Around} {E : Value → Shared → Prop} {s : Shared} : ∀ (vs : List Value) (fs : List (Option Value)) {Q : List (Option Value) → Shared → Prop}, FirstOf s.heap vs fs → Q fs s → wpAny M A (vs.mapM firstOfTuple') Q E s
  | [], [], _, _, h => by rw [List.mapM_nil]; exact wpAny_pure h
  | [], _ :: _, _, t, _ => t.elim
  | _ :: _, [], _, t, _ => t.elim
  | v :: vs, f :: fs, Q, t, h => by
    obtain ⟨⟨a, o, xs, n, rfl, ho, hc, hd, hf⟩, t⟩ := t
    rw [List.mapM_cons]
    refine wpAny_bind ?_
    rw [PySem.W.kas_first_eq]
    refine wpAny_bind (PySem.W.Looks.here (show PySem.W.Looks M s.heap (typeOf (.ref a)) o.cls from (PySem.W.Looks.ld ho).andThen .now) ?_)
    rw [hc, if_neg (by first | decide | simp)]
    refine wpAny_bind (listItems_at ho hd (wpAny_pure ?_))
    rw [hf]
    exact wpAny_bind (firsts_run vs fs (Q := fun bs s' => wpAny M A (pure (f :: bs)) Q E s') t (wpAny_pure h))
theorem firstOf_ex {h : Heap} {k : Value → List Int} : ∀ {vs : List Value}, (∀ v ∈ vs, TS.TupInts h v (k v)) → ∃ fs, FirstOf h vs fs ∧ ∀ v r, vs = v :: r → k v = [] → ∃ r', fs = none :: r'
  | [], _ => ⟨[], trivial, fun v r e => by cases e⟩
  | v :: vs, hp => by
    obtain ⟨fs, h1, _⟩ := firstOf_ex (vs := vs) fun u hu => hp u (List.mem_cons_of_mem _ hu)
    obtain ⟨a, xs, e, ⟨o, ho, hc, n, hd⟩, hi⟩ := hp v (List.mem_cons_self ..)
    refine ⟨xs[0]? :: fs, ⟨⟨a, o, xs, n, e, ho, hc, hd, rfl⟩, h1⟩, fun u r eu ku => ⟨fs, ?_⟩⟩
    cases eu
    have : xs.size = 0 := by
      rw [← Array.length_toList, hi.length, ku]
      rfl
    rw [Array.getElem?_eq_none (by omega)]
theorem kind_one {M : Model} {A : Around} {E : Value → Shared → Prop} {s : Shared} {v : Value} {r : List Value} {k : Value → List Int} {Q : SortKind → Shared → Prop} (hp : ∀ u ∈ v :: r, TS.TupInts s.heap u (k u)) (h0 : k v = []) (h : Q oneType' s) : wpAny M A (keyKind' (v :: r).toArray) Q E s := by
  obtain ⟨fs, h1, h2⟩ := firstOf_ex hp
  obtain ⟨r', rfl⟩ := h2 v r rfl h0
  rw [kat_kind_eq, List.mapM_toArray, map_eq_pure_bind]
  refine wpAny_bind (wpAny_bind (firsts_run _ _ h1 (wpAny_pure ?_)))
  rw [if_neg (by simp), if_neg (by simp)]
  rw [oneTypeOnly'_eq, List.mapM_toArray, map_eq_pure_bind]
  have hT : ∀ u ∈ v :: r, PySem.W.Looks M s.heap (typeOf u) (.type "tuple") := fun u hu => by
    obtain ⟨a, xs, e, ⟨o, ho, hc, n, hd⟩, hi⟩ := hp u hu
    subst e
    have z : PySem.W.Looks M s.heap (typeOf (.ref a)) o.cls := (PySem.W.Looks.ld ho).andThen .now
    rw [hc] at z
    exact z
  refine wpAny_bind (wpAny_bind (wpAny_bind (PySem.W.kas_mapM (r := Value.type "tuple") _ (fun u hu Q' hq => (hT u hu).here hq) (wpAny_pure ?_))))
  have hall2 : ((List.map (fun _ => Value.type "tuple") (v :: r)).toArray.all fun x => x == Value.type "tuple") = true := by
    simp only [List.all_toArray, List.all_map, List.all_eq_true]
    intro _ _
    show (Value.type "tuple" == Value.type "tuple") = true
    decide +kernel
  have h00 : (List.map (fun _ => Value.type "tuple") (v :: r)).toArray[0]? = some (Value.type "tuple") := by simp
  rw [h00]
  simp only [hall2, if_true]
  exact wpAny_pure (wpAny_pure h)
theorem kat_of {h : Heap} {k : Value → List Int} : ∀ {vs : List Value}, (∀ v ∈ vs, TS.TupInts h v (k v)) → (∀ v ∈ vs, k v ≠ []) → ∃ fs, PySem.W.KatTups h vs fs ∧ fs.length = vs.length ∧ ∀ f, f ∈ fs → ∃ n t, f = Value.int n t
  | [], _, _ => ⟨[], PySem.W.KatTups.nil, rfl, fun f hf => by simp at hf⟩
  | v :: vs, hp, hk => by
    obtain ⟨fs, h1, h2, h3⟩ := kat_of (vs := vs) (fun u hu => hp u (List.mem_cons_of_mem _ hu)) fun u hu => hk u (List.mem_cons_of_mem _ hu)
    obtain ⟨a, xs, e, ⟨o, ho, hc, n, hd⟩, hi⟩ := hp v (List.mem_cons_self ..)
    subst e
    have hne := hk _ (List.mem_cons_self ..)
    generalize k (Value.ref a) = ns at hi hne
    generalize hl : xs.toList = l at hi
    cases hi with
    | nil => exact absurd rfl hne
    | cons m t r =>
      have e0 : xs[0]? = some (Value.int m t) := by
        rw [← Array.getElem?_toList, hl]
        rfl
      exact ⟨_ :: fs, PySem.W.KatTups.cons ho hc hd e0 h1, congrArg (· + 1) h2, fun f hf => by
        rcases List.mem_cons.mp hf with q | q
        · exact ⟨m, t, q⟩
        · exact h3 f q⟩
theorem sortable_tups {a : Addr} {vs : List Value} {k : Value → List Int} (hu : A.units < cLine) (h0 : 0 < vs.length) (hp : ∀ v ∈ vs, TS.TupInts s.heap v (k v)) (hk : (∀ v ∈ vs, k v ≠ []) ∨ ∃ v r, vs = v :: r ∧ k v = []) (ha : ∀ o, s.heap.get? a = some o → o.cls ≠ .type "tuple") : SrtO.SortableO prog w A s a vs fun v u => lexL (k v) (k u) := by
  intro h' keep
  have hp' : ∀ v ∈ vs, TS.TupInts h' v (k v) := fun v hm => (hp v hm).keeps fun b o e c => keep b o (fun z => by subst z; exact ha o e c) e
  rcases hk with hk | ⟨v, r, rfl, hk⟩
  · obtain ⟨fs, h1, h2, h3⟩ := kat_of hp' hk
    refine ⟨tuples' true, fun Q E hq => ?_, cmp_tups hp'⟩
    refine PySem.W.kat_kind (T := .type "int") h1 (by omega) (fun f hm => ?_) (by rfl) ?_
    · obtain ⟨x, t, rfl⟩ := h3 f hm
      exact PySem.W.Looks.now
    · have e : (Value.type "int" != Value.type "tuple") = true := by first | decide +kernel | rfl | decide
      rw [e]
      exact hq
  · exact ⟨oneType', fun Q E hq => kind_one (s := { s with heap := h' }) hp' hk hq, cmp_one hu hp'⟩
end
/-! ### as data: insertion sort -/
theorem insL_perm (x : List Int) : ∀ l, (insL x l).Perm (x :: l)
  | [] => List.Perm.refl _
  | y :: r => by
    unfold insL
    split
    · exact (List.Perm.cons y (insL_perm x r)).trans (List.Perm.swap x y r)
    · exact List.Perm.refl _
theorem sortL_perm : ∀ l, (sortL l).Perm l
  | [] => List.Perm.refl _
  | x :: r => (insL_perm x (sortL r)).trans (List.Perm.cons x (sortL_perm r))
abbrev srtL (l : List (List Int)) : Prop := l.Pairwise fun x y => lexL y x = false
theorem insL_srt (x : List Int) : ∀ l, srtL l → srtL (insL x l)
  | [], _ => List.pairwise_singleton _ _
  | y :: r, h => by
    obtain ⟨h1, h2⟩ := List.pairwise_cons.mp h
    unfold insL
    split
    · rename_i hy
      refine List.pairwise_cons.mpr ⟨fun z hz => ?_, insL_srt x r h2⟩
      rcases List.mem_cons.mp ((insL_perm x r).mem_iff.mp hz) with e | hz
      · rw [e]
        exact lexL_asym _ _ hy
      · exact h1 z hz
    · rename_i hy
      have hy' : lexL y x = false := by
        cases q : lexL y x with
        | true => exact absurd q hy
        | false => rfl
      refine List.pairwise_cons.mpr ⟨fun z hz => ?_, h⟩
      rcases List.mem_cons.mp hz with e | hz
      · rw [e]; exact hy'
      · exact lexL_tr x y z hy' (h1 z hz)
theorem sortL_srt : ∀ l, srtL (sortL l)
  | [] => List.Pairwise.nil
  | x :: r => insL_srt x _ (sortL_srt r)
/-- sorted rows of the same items are the same -/
theorem srt_uniq : ∀ {l m : List (List Int)}, srtL l → srtL m → l.Perm m → l = m
  | [], m, _, _, p => (List.nil_perm.mp p).symm
  | x :: r, [], _, _, p => absurd (List.perm_nil.mp p) (by simp)
  | x :: r, y :: q, hl, hm, p => by
    obtain ⟨a1, a2⟩ := List.pairwise_cons.mp hl
    obtain ⟨b1, b2⟩ := List.pairwise_cons.mp hm
    have e : x = y := by
      have hx : x ∈ y :: q := p.mem_iff.mp (List.mem_cons_self ..)
      have hy : y ∈ x :: r := p.mem_iff.mpr (List.mem_cons_self ..)
      rcases List.mem_cons.mp hx with e | hx
      · exact e
      · rcases List.mem_cons.mp hy with e | hy
        · exact e.symm
        · exact lexL_eq _ _ (a1 _ hy |> fun z => by
            have := b1 x hx
            exact this) (a1 y hy)
    subst e
    rw [srt_uniq a2 b2 ((List.perm_cons x).mp p)]
/-! ### the rule -/
def keyF (F : Hp) : V → List Int
  | .ref a => match F a with
    | some (.tup xs) => xs.map fun v => match v with
      | .int i => i
      | _ => 0
    | _ => []
  | _ => []
theorem key_ints (is : List Int) : (is.map V.int).map (fun v => match v with
      | .int i => i
      | _ => 0) = is := by
  rw [List.map_map]
  exact List.map_id is
/-- items that are tuples of ints, read off F -/
theorem keys_of {F : Hp} : ∀ {ds : List PyData} {vs : List V} {ks : List (List Int)}, HDs F vs ds → tupsOf ds = some ks → vs.map (keyF F) = ks ∧ ∀ v ∈ vs, ∃ t, v = .ref t ∧ F t = some (.tup ((keyF F v).map V.int))
  | [], _, _, .nil, e => by
    cases e
    exact ⟨rfl, fun v h => by cases h⟩
  | d :: ds, _, ks, .cons h hs, e => by
    cases d with
    | tuple xs =>
      simp only [tupsOf, Option.bind_eq_some_iff, Option.map_eq_some_iff] at e
      obtain ⟨is, e1, ks', e2, e3⟩ := e
      subst e3
      obtain ⟨i1, i2⟩ := keys_of hs e2
      cases h with
      | tup hF hxs =>
        rename_i a us
        have e4 := ints_of hxs e1
        subst e4
        have e5 : keyF F (.ref a) = is := by
          show (match F a with
            | some (.tup xs) => xs.map fun v => match v with
              | .int i => i
              | _ => 0
            | _ => []) = is
          rw [hF]
          exact key_ints is
        refine ⟨by rw [List.map_cons, e5, i1], fun v hv => ?_⟩
        rcases List.mem_cons.mp hv with q | q
        · subst q
          exact ⟨a, rfl, by rw [e5]; exact hF⟩
        · exact i2 v q
    | _ => simp [tupsOf] at e
theorem hds_keys {F : Hp} : ∀ {vs : List V}, (∀ v ∈ vs, ∃ t, v = .ref t ∧ F t = some (.tup ((keyF F v).map V.int))) → HDs F vs ((vs.map (keyF F)).map tupD)
  | [], _ => .nil
  | v :: vs, h => by
    obtain ⟨t, e, hF⟩ := h v (List.mem_cons_self ..)
    refine .cons ?_ (hds_keys fun u hu => h u (List.mem_cons_of_mem _ hu))
    rw [e] at hF ⊢
    exact .tup hF (HDs.intsV _)
  where HDs.intsV : ∀ ns : List Int, HDs F (ns.map V.int) (ns.map PyData.int)
    | [] => .nil
    | n :: r => .cons (.int n) (HDs.intsV r)
theorem b_sortT {X : Cx} (hu : X.A.units + 65 < cLine) : CallR X (.builtin "sorted") (rC1 bSortT) := by
  intro pins s σ H xs us Q I r h
  obtain ⟨x, rfl, F, dx, z, sm, hx, e, k⟩ := h
  unfold bSortT at e
  split at e
  · rename_i ds
    simp only [Option.bind_eq_some_iff] at e
    obtain ⟨ks, e1, e2⟩ := e
    split at e2
    · rename_i hne
      cases e2
      obtain ⟨a, vs, rfl, ha, hs⟩ := hx.list sm
      obtain ⟨k1, k2⟩ := keys_of hs e1
      obtain ⟨its, rv, hl, hz⟩ := I.list (show SqL X.K H a vs from .of ha)
      obtain ⟨u, rfl, ru⟩ := vals1 r
      obtain rfl : u = Value.ref a := ru
      obtain ⟨b1, b2⟩ := refs_back rv fun y m => by
        obtain ⟨t, e, _⟩ := k2 y m
        exact ⟨t, e⟩
      have hp : ∀ v ∈ its, TS.TupInts s.heap v (keyF F (backV v)) := fun v hv => by
        obtain ⟨t, rfl⟩ := b2 v hv
        have hm : V.ref t ∈ vs := by rw [b1]; exact List.mem_map.mpr ⟨_, hv, rfl⟩
        obtain ⟨t', e', ht⟩ := k2 _ hm
        cases e'
        obtain ⟨its2, r2, p2, _⟩ := I.tuple (show SqT X.K H t _ from .of (sm _ _ ht))
        exact ⟨t, its2.toArray, rfl, p2, r2.ints⟩
      have hk : (∀ v ∈ its, keyF F (backV v) ≠ []) ∨ ∃ v r, its = v :: r ∧ keyF F (backV v) = [] := by
        rw [b1, List.map_map] at k1
        cases its with
        | nil => exact .inl fun v hv => by cases hv
        | cons v rest =>
          by_cases hv : keyF F (backV v) = []
          · exact .inr ⟨v, rest, rfl, hv⟩
          · left
            rw [← k1] at hne
            have hne' : (keyF F (backV v) :: rest.map (keyF F ∘ backV)).all (fun x => !x.isEmpty) = true := by
              cases q : keyF F (backV v) with
              | nil => exact absurd q hv
              | cons y ys =>
                have hne2 : neL (keyF F (backV v) :: rest.map (keyF F ∘ backV)) = true := hne
                rw [q] at hne2
                exact hne2
            intro w hw
            have hw2 : keyF F (backV w) ∈ keyF F (backV v) :: rest.map (keyF F ∘ backV) := by
              rcases List.mem_cons.mp hw with q | q
              · rw [q]; exact List.mem_cons_self ..
              · exact List.mem_cons_of_mem _ (List.mem_map.mpr ⟨w, q, rfl⟩)
            have := List.all_eq_true.mp hne' _ hw2
            intro z
            rw [z] at this
            cases this
      refine SrtO.sorted_ord (swo_key fun v => keyF F (backV v)) hl.isList (by rw [← rv.length]; exact hz) (fun h2 h₁ a' ha' kk => ?_) fun out hs2 hb => ?_
      · refine sortable_tups (s := { s with heap := h₁ }) (by show X.A.units + 1 + 1 < cLine; omega) (by omega) (fun v hm => (hp v hm).keeps fun b o e _ => (kk b o e).2) hk fun o e => ?_
        have e' : some o = some (seqObj "list" its.toArray 0) := e.symm.trans ha'
        cases e'
        intro c
        exact absurd (Value.type.inj c) (by decide)
      · obtain ⟨ep, he'⟩ := PyProof.Rows.sortedAll_at s.heap its out.toArray
        have h3 : ∀ u ∈ out, ∃ a, u = Value.ref a := fun u hu => b2 u (hb.perm.mem_iff.mp hu)
        have pm : (out.map backV).Perm vs := by
          rw [b1]
          exact hb.perm.map backV
        have kp : ∀ v ∈ out.map backV, ∃ t, v = .ref t ∧ F t = some (.tup ((keyF F v).map V.int)) := fun v hv => k2 v (pm.mem_iff.mp hv)
        have ek : (out.map backV).map (keyF F) = sortL ks := by
          refine srt_uniq ?_ (sortL_srt ks) ?_
          · rw [List.map_map]
            exact List.pairwise_map.mpr hs2
          · refine (pm.map (keyF F)).trans ?_
            rw [k1]
            exact (sortL_perm ks).symm
        have hds := hds_keys kp
        rw [ek] at hds
        have hlen : (out.map backV).length ≤ sizeLine := by
          rw [pm.length_eq]
          exact hz
        have fr : H (s.heap.objs.size + 1) = none := I.hok.fresh (Nat.le_succ _)
        refine ⟨.ref _, upd H (s.heap.objs.size + 1) (.lst (out.map backV)), I.laid (t' := s.toks) (fun _ _ => PyProof.Rows.sortedAll_old) (Nat.le_succ _) ⟨hlen, out, ep, vals_back h3, he'⟩, rfl, ?_⟩
        exact k.lst sm hds fr
    · cases e2
  · cases e
end DL

/-! DL10: xs.index(x). -/
namespace DL
open PySem PySem.Spec PyProof.Rows L2
theorem idx_of {F : Hp} {v : V} {d : PyData} (h : HD F v d) (fd : flatD d = true) : ∀ {ds : List PyData} {vs : List V} {j : Nat}, HDs F vs ds → ds.all flatD = true → idxOf d ds = some j → ∃ z, vs[j]? = some z ∧ eqV z v = true ∧ ∀ (m : Nat) z', m < j → vs[m]? = some z' → eqV z' v = false
  | [], _, j, .nil, _, e => by cases e
  | y :: r, _, j, .cons (v := u) (vs := us) g gs, fa, e => by
    rw [List.all_cons, Bool.and_eq_true] at fa
    have ee := eq_flat g h fa.1 fd
    unfold idxOf at e
    split at e
    · rename_i hy
      cases e
      exact ⟨u, rfl, ee.trans hy, fun m z' hm => absurd hm (Nat.not_lt_zero _)⟩
    · rename_i hy
      simp only [Option.map_eq_some_iff] at e
      obtain ⟨j', e1, e2⟩ := e
      subst e2
      obtain ⟨z, h1, h2, h3⟩ := idx_of h fd gs fa.2 e1
      refine ⟨z, by simpa using h1, h2, fun m z' hm hz => ?_⟩
      cases m with
      | zero =>
        have : u = z' := by simpa using hz
        subst this
        rw [ee]
        cases q : PyData.eqv y d with
        | true => exact absurd q hy
        | false => rfl
      | succ m => exact h3 m z' (by omega) (by simpa using hz)
theorem de_index {X : Cx} {o e : Expr} {fa fb : FE} {apos cpos : Pos} (ho : DE X o fa) (he : DE X e fb)
    (hbase : attributeBase o "index" X.env (eval o X.env) = eval o X.env := by rfl)
    (hfew : ((backTo cpos (starEach [e] X.env)).all (fun x => !x.1) && (backToKw cpos (keywordEach [] X.env)).all (fun x => x.1.isSome)
      && decide ([e].length + ([] : List Keyword).length + (if ([] : List Keyword).isEmpty then 0 else 1) < 30)) = true := by rfl)
    (hline : (apos.endLine == cpos.line) = true := by rfl) (hs : starEach [e] X.env = (false, eval e X.env) :: starEach [] X.env := by rfl) (hplain : (backTo cpos (starEach [] X.env)).any (·.1) = false := by rfl) :
    DE X (.Call (.Attribute o "index" apos) [e] [] cpos) (fMeth bIndex fa fb) := PE.imp (pe_bm PySem.F.plainAttrs_list PySem.F.slot_list_index PySem.F.type_list_index mt_index ho (pa_cons he pa_nil hs) hbase hfew hline hs hplain) fun σ H Q h => by
  obtain ⟨F, env, r, env', rep, e, k⟩ := h
  simp only [fMeth, Option.bind_eq_some_iff] at e
  obtain ⟨⟨r1, e1⟩, h1, h2⟩ := e
  split at h2
  · rename_i l hv
    simp only [Option.bind_eq_some_iff, Option.map_eq_some_iff] at h2
    obtain ⟨⟨r2, e2⟩, h3, x, hx, y, hy, z, hz, e3⟩ := h2
    cases e3
    refine ⟨F, env, r1, e1, rep, h1, fun v F1 H1 g1 rep1 ok1 => ?_⟩
    obtain ⟨p0, vs0, rfl, hp0, _⟩ := (ok1.view rep1 hv).list rep1.sub
    refine ⟨.inl ⟨rfl, _, .of hp0⟩, F1, e1, r2, e2, rep1, h3, fun w F2 H2 g2 rep2 ok2 => ?_⟩
    · unfold bIndex at hz
      split at hz
      · rename_i ys xx
        split at hz
        · rename_i hf
          simp only [Option.map_eq_some_iff] at hz
          obtain ⟨j, hj, ez⟩ := hz
          cases ez
          rw [Bool.and_eq_true] at hf
          obtain ⟨a, vs, ev, ha, hs'⟩ := ((ok1.go g2).view rep2 hx).list rep2.sub
          have hw := (ok2.view rep2 hy).hd rep2.sub
          have hs2 := hs'.mono rep2.sub
          obtain ⟨z', z1, z2, z3⟩ := idx_of hw hf.1 hs2 hf.2 hj
          exact ⟨a, vs, w, j, z', ev, rfl, .of ha, flat_of hw hf.1, flat_all hs2 hf.2, z1, z2, z3, ((g1.trans g2).ret rep2 k).int rep2.sub⟩
        · cases hz
      · cases hz
  · cases h2
end DL

/-! DL11: list(range(..)), max of three. -/
namespace DL
open PySem PySem.Spec PyProof.Rows L2
theorem hds_rg {F : Hp} (i j : Int) : HDs F (rgV i j) (rangeD i (j - i).toNat) := by
  unfold rgV rangeD
  generalize List.range (j - i).toNat = l
  induction l with
  | nil => exact .nil
  | cons x r ih => exact .cons (.int _) ih
theorem rg_ret {F H : Hp} {Q : VK} {i j : Int} (sm : Same F H) (hi : smallI i = true) (hj : smallI j = true) (hl : (rangeD i (j - i).toNat).length ≤ 2 ^ 24) (k : RetW F H (.new (rangeD i (j - i).toNat)) Q) : RgOk i j ∧ ∀ q, H q = none → Q (.ref q) (upd H q (.lst (rgV i j))) := by
  obtain ⟨a1, a2⟩ := small_of hi
  obtain ⟨a3, a4⟩ := small_of hj
  have e : (rangeD i (j - i).toNat).length = (j - i).toNat := by simp [rangeD]
  rw [e] at hl
  exact ⟨⟨a1, a2, a3, a4, hl⟩, fun q hq => k.lst sm (hds_rg i j) hq⟩
section
variable {X : Cx} {a b : Expr} {fa fb : FE} {p p2 pos pos2 : Pos}
theorem de_listR2 (hc : X.calm = true) (hg : Gl X "list") (hm : X.mg "list" = none) (hg2 : Gl X "range") (hm2 : X.mg "range" = none) (ha : DE X a fa) (hb : DE X b fb)
    (na : starEach [a, b] X.env = (false, eval a X.env) :: starEach [b] X.env := by rfl) (nb : starEach [b] X.env = (false, eval b X.env) :: starEach [] X.env := by rfl) (hp : (backTo pos2 (starEach [b] X.env)).any (·.1) = false := by rfl)
    (nc : starEach [.Call (.Name "range" p2) [a, b] [] pos2] X.env = (false, eval (.Call (.Name "range" p2) [a, b] [] pos2) X.env) :: starEach [] X.env := by rfl) :
    DE X (.Call (.Name "list" p) [.Call (.Name "range" p2) [a, b] [] pos2] [] pos) (fListG (fiRange2 fa fb)) := PE.imp (pe_listRg hc hg hm (prg_2 hg2 hm2 ha hb na nb hp) nc) fun σ H Q h => by
  obtain ⟨F, env, r, env', rep, e, k⟩ := h
  simp only [fListG, fiRange2, Option.bind_eq_some_iff] at e
  obtain ⟨⟨xs, e3⟩, ⟨⟨r1, e1⟩, h1, ⟨r2, e2⟩, h2, h3⟩, h4⟩ := e
  refine ⟨F, env, r1, e1, rep, h1, fun v F1 H1 g1 rep1 ok1 => ⟨F1, e1, r2, e2, rep1, h2, fun w F2 H2 g2 rep2 ok2 => ?_⟩⟩
  simp only at h3
  split at h3
  · rename_i i j
    split at h3
    · rename_i hj
      cases h3
      simp only at h4
      split at h4
      · rename_i hl
        cases h4
        rw [Bool.and_eq_true] at hj
        cases ok1 with
        | dat hd =>
          cases hd
          cases ok2 with
          | dat hd =>
            cases hd
            exact ⟨i, j, rfl, rfl, rg_ret rep2.sub hj.1 hj.2 hl ((g1.trans g2).ret rep2 k)⟩
      · cases h4
    · cases h3
  · cases h3
theorem de_listR1 (hc : X.calm = true) (hg : Gl X "list") (hm : X.mg "list" = none) (hg2 : Gl X "range") (hm2 : X.mg "range" = none) (ha : DE X a fa)
    (na : starEach [a] X.env = (false, eval a X.env) :: starEach [] X.env := by rfl)
    (nc : starEach [.Call (.Name "range" p2) [a] [] pos2] X.env = (false, eval (.Call (.Name "range" p2) [a] [] pos2) X.env) :: starEach [] X.env := by rfl) :
    DE X (.Call (.Name "list" p) [.Call (.Name "range" p2) [a] [] pos2] [] pos) (fListG (fiRange1 fa)) := PE.imp (pe_listRg hc hg hm (prg_1 hg2 hm2 ha na) nc) fun σ H Q h => by
  obtain ⟨F, env, r, env', rep, e, k⟩ := h
  simp only [fListG, fiRange1, Option.bind_eq_some_iff] at e
  obtain ⟨⟨xs, e3⟩, ⟨⟨r1, e1⟩, h1, h3⟩, h4⟩ := e
  refine ⟨F, env, r1, e1, rep, h1, fun v F1 H1 g1 rep1 ok1 => ?_⟩
  simp only at h3
  split at h3
  · rename_i j
    split at h3
    · rename_i hj
      cases h3
      simp only at h4
      split at h4
      · rename_i hl
        cases h4
        cases ok1 with
        | dat hd =>
          cases hd
          have ez : j.toNat = (j - 0).toNat := by rw [Int.sub_zero]
          rw [ez] at hl k
          exact ⟨j, rfl, rg_ret rep1.sub (by rfl) hj hl (g1.ret rep1 k)⟩
      · cases h4
    · cases h3
  · cases h3
/-- max of three ints -/
theorem b_max3 (hc : X.calm = true) : CallR X (.builtin "max") (rC3 bMax3) := by
  intro pins s σ H xs us Q I r h
  obtain ⟨x, y, w, rfl, F, dx, dy, dw, z, sm, hx, hy, hw, e, k⟩ := h
  unfold bMax3 at e
  split at e
  · rename_i i j l
    cases e
    have e1 := hx.int
    have e2 := hy.int
    have e3 := hw.int
    subst e1 e2 e3
    refine call_max3Nu hc pins s σ H _ us Q I r ⟨_, _, _, .int (if l > (if j > i then j else i) then l else (if j > i then j else i)), rfl, ?_, k.int sm⟩
    have two : ∀ a b : Int, nuMax2 (.int a) (.int b) = some (.int (if b > a then b else a)) := fun a b => by
      show some (if decide (a < b) = true then V.int b else V.int a) = _
      by_cases h : a < b
      · rw [decide_eq_true h, if_pos rfl, if_pos h]
      · rw [decide_eq_false h, if_neg (by simp), if_neg h]
    show (nuMax2 (.int i) (.int j)).bind (fun m => nuMax2 m (.int l)) = _
    rw [two, Option.bind_some, two]
  · cases e
theorem c3_imp {op : PyData → PyData → PyData → Option Rs} {fa fb fc : FE} (σ : L2.St) (H : Hp) (Q : VK) (h : tD (fTri op fa fb fc) σ H Q) : tCB (rC3 op) (tCons (tD fa) (tCons (tD fb) (tCons (tD fc) tNil))) σ H Q := by
  obtain ⟨F, env, r, env', rep, e, k⟩ := h
  simp only [fTri, Option.bind_eq_some_iff, Option.map_eq_some_iff] at e
  obtain ⟨⟨r1, e1⟩, h1, ⟨r2, e2⟩, h2, ⟨r3, e3⟩, h3, x, hx, y, hy, w, hw, z, hz, e4⟩ := e
  cases e4
  refine ⟨F, env, r1, e1, rep, h1, fun v1 F1 H1 g1 rep1 ok1 => ⟨F1, e1, r2, e2, rep1, h2, fun v2 F2 H2 g2 rep2 ok2 => ⟨F2, e2, r3, _, rep2, h3, fun v3 F3 H3 g3 rep3 ok3 => ?_⟩⟩⟩
  exact ⟨v1, v2, v3, rfl, F3, x, y, w, r, rep3.sub, ((ok1.go g2).go g3).view rep3 hx, (ok2.go g3).view rep3 hy, ok3.view rep3 hw, hz, ((g1.trans g2).trans g3).ret rep3 k⟩
theorem de_b3 {e1 e2 e3 : Expr} {fc : FE} {x : Str} {id : String} {op : PyData → PyData → PyData → Option Rs} (hc : CallR X (.builtin id) (rC3 op)) (hg : Gl X x) (hm : X.mg x = none) (hv : bootBuiltins x = some (.builtin id)) (h1 : DE X e1 fa) (h2 : DE X e2 fb) (h3 : DE X e3 fc) (hn : x ≠ "__name__" := by decide) (hdb : (x == ("__debug__" : Str)) = false := by decide)
    (hs : starEach [e1, e2, e3] X.env = (false, eval e1 X.env) :: starEach [e2, e3] X.env := by rfl) (hs2 : starEach [e2, e3] X.env = (false, eval e2 X.env) :: starEach [e3] X.env := by rfl) (hs3 : starEach [e3] X.env = (false, eval e3 X.env) :: starEach [] X.env := by rfl) (hpl : (backTo pos (starEach [e2, e3] X.env)).any (·.1) = false := by rfl) :
    DE X (.Call (.Name x p) [e1, e2, e3] [] pos) (fTri op fa fb fc) := PE.imp (pe_callB hc hg hm hv (pa_cons h1 (pa_cons h2 (pa_cons h3 pa_nil hs3) hs2) hs) hn hdb hs hpl) c3_imp
end
end DL

/-! DL12: a call that only looks. -/
namespace DL
open PySem PySem.Spec PyProof.Rows L2
theorem HD.flat {F F' : Hp} {v : V} {d : PyData} (h : HD F v d) (f : flatD d = true) : HD F' v d := by
  cases h with
  | non => exact .non
  | bl b => exact .bl b
  | int i => exact .int i
  | str x => exact .str x
  | lst _ _ => cases f
  | tup _ _ => cases f
  | dct _ _ _ => cases f
  | obj _ _ _ => cases f
  | plc _ => cases f
theorem look2_imp {E : XK} {R : Fn} {fa fb : FE} (σ : L2.St) (H : Hp) (Q : VK) (h : tD (fBin (opCall2 R) fa fb) σ H Q) : tCall (spD 2 R) [] E (tCons (tD fa) (tCons (tD fb) tNil)) σ H Q := by
  obtain ⟨F, env, r, env', rep, e, k⟩ := bin_imp σ H Q h
  refine ⟨F, env, r, env', rep, e, fun v F1 H1 g1 rep1 ok1 => ?_⟩
  obtain ⟨F2, env2, r2, env2', rep2, e2, k2⟩ := k v F1 H1 g1 rep1 ok1
  refine ⟨F2, env2, r2, env2', rep2, e2, fun w F3 H3 g3 rep3 ok3 => ?_⟩
  obtain ⟨F4, dx, dy, z, sm, hx, hy, hz, kz⟩ := k2 w F3 H3 g3 rep3 ok3
  unfold opCall2 at hz
  split at hz
  · rename_i d hR
    split at hz
    · rename_i hf
      cases hz
      refine ⟨H3, [dx, dy], .dat d, .refl _, .cons (hx.hd sm) (.cons (hy.hd sm) .nil), rfl, hR, fun u F' H' ex ok => ?_⟩
      cases ok with
      | dat hd => exact kz u F4 H' ⟨.refl _, sm.trans ex.hs, ex.hs, fun _ z => .inl z⟩ (.dat (hd.flat hf))
    · cases hz
  · cases hz
theorem de_look2 {X : Cx} {k : Nat} {x : Str} {p pos : Pos} {a b : Expr} {fa fb : FE} {R : Fn} (C : CalD X.prog X.w X.K X.mg X.base k x 2 R) (hr : Room k X.A) (hg : Gl X x) (ha : DE X a fa) (hb : DE X b fb) (hdb : (x == ("__debug__" : Str)) = false := by decide)
    (he : starEach [a, b] X.env = (false, eval a X.env) :: starEach [b] X.env := by rfl) (he2 : starEach [b] X.env = (false, eval b X.env) :: starEach [] X.env := by rfl) (hpl : (backTo pos (starEach [b] X.env)).any (·.1) = false := by rfl) :
    DE X (.Call (.Name x p) [a, b] [] pos) (fBin (opCall2 R) fa fb) := by
  obtain ⟨f, fd, ps, ok, hm, hk, hbd⟩ := C.ex
  exact PE.imp (pe_call ok hr hg hm hk hbd .nil pass0 (pa_cons ha (pa_cons hb pa_nil he2) he) hdb he hpl) look2_imp
end DL

/-! DL13: sorted(set(xs)), ints. -/
namespace DL
open PySem PySem.Spec PyProof.Rows L2
abbrev nso (w : World) : Obj := { cls := .type "set", dict := none, data := .set #[] 0 (.fresh 0 0 (!w.params.followText "set-order")) }
section
variable {P : Program} {w : World} {A : Around} {E : Value → Shared → Prop} {s : Shared}
set_option maxHeartbeats 8000000 in
theorem set_of_list {l : Addr} {xs : Array Value} (is : List Int) {Q : Value → Shared → Prop} (hh : A.handled = none) (hl : s.heap.IsList l xs) (hit : IntsAre xs.toList is) (hb : is.length + 1 < scanBound)
    (k : ∀ (h' : Heap) (tk c : Nat), SetR w h' s.heap.objs.size (fun j => decide (j ∈ is)) c → c ≤ is.length → (∀ b o, s.heap.get? b = some o → h'.get? b = some o) → Q (.ref s.heap.objs.size) { s with heap := h', toks := tk }) :
    wpAny (model P w) A (call (.type "set") [.ref l]) Q E s := by
  have zs : xs.size = is.length := (Array.length_toList (xs := xs)).symm.trans (IntsAre.length hit)
  obtain ⟨c, tl, hmro⟩ := F.called_set.mro
  have m1 := F.called_set.made
  have m2 := F.called_set.sub
  refine wpAny_call (codeAny_of_tree ?_)
  show wpAny _ _ (callAny (.type "set") _) _ _ _
  refine wpAny_pure ⟨Code.quiet_builtin _ (by decide +kernel), codeAny_builtin F.entry_type_call ?_⟩
  rw [Around.under_plain (weight_type_call_type "set" [.ref l] []) rfl]
  have m3 := F.called_set.notType
  have m4 := F.called_set.canCreate
  have m5 := F.typeCall_set_1 (.ref l)
  repeat (any_goals (first | assumption | wp_step))
  refine codeAny_mono (code_set_led1 (.ref l) (E := E) (Q₁ := fun v s₁ => v = .ref s.heap.objs.size ∧ s₁ = { s with heap := s.heap.push (nso w) }) ⟨rfl, rfl⟩) fun r s₁ hr => ?_
  cases r with
  | error e => exact hr
  | ok fl =>
    cases fl with
    | ret obj =>
      obtain ⟨rfl, rfl⟩ := hr
      have hS : (s.heap.push (nso w)).get? s.heap.objs.size = some (nso w) := Heap.get?_push_size _ rfl
      have hT : Shared.TypeIs { s with heap := s.heap.push (nso w) } (.ref s.heap.objs.size) "set" := ⟨_, hS, rfl⟩
      have m6 := F.called_set.init.lookup
      have m7 := F.called_set.init.bind (.ref s.heap.objs.size)
      repeat (any_goals (first | assumption | wp_step))
      refine codeAny_mono (codeAny_call_builtin (R := wants (fun r s₂ => r = .none ∧ ∃ h' tk c, s₂ = { s with heap := h', toks := tk } ∧ SetR w h' s.heap.objs.size (fun j => decide (j ∈ is)) c ∧ c ≤ is.length ∧
          (∀ b o, s.heap.get? b = some o → h'.get? b = some o)) E) F.called_set.init.plain F.entry_set_init (check_set_init_1 hT ?_)) fun r₂ s₂ hr₂ => ?_
      · obtain ⟨⟨ocls, odict, odata, oslots⟩, hol, hcl, nl, hdl⟩ := id hl
        simp only at hcl hdl
        subst hcl hdl
        have hol' := Heap.get?_push_of_some (nso w) hol
        have b1 := F.sub_list_set
        have b2 := F.sub_list_frozenset
        have b3 : (Value.type "list" == Value.type "dict") = false := by decide
        have hl1 : (s.heap.push (nso w)).IsList l xs := ⟨_, hol', rfl, nl, rfl⟩
        unfold Builtin.«set.__init__» noKeywords Builtin.Frozenset.updateFrom
        generalize hPI : pyIter = PI
        wp_walk
        subst hPI
        refine wpAny_pyIter_list hl1 ?_
        refine wpAny_bind (wpAny_runValue ?_)
        have a1 : l < s.heap.objs.size := Heap.lt_size hol
        have a2 : A.in1.in1.in1.handled = none := by simp [hh]
        have a3 : (s.heap.push (nso w)).objs.size = s.heap.objs.size + 1 := Heap.size_push ..
        have a4 : l ≠ (s.heap.push (nso w)).objs.size := by rw [a3]; exact Nat.ne_of_lt (Nat.lt_succ_of_lt a1)
        have a5 : s.heap.objs.size ∉ [(s.heap.push (nso w)).objs.size, l] := by
          rw [a3]
          simp only [List.mem_cons, List.mem_singleton, List.not_mem_nil, or_false, not_or]
          exact ⟨Nat.ne_of_lt (Nat.lt_succ_self _), Nat.ne_of_gt a1⟩
        have a6 : ∀ (i : Nat) (v : Value), xs[i]? = some v → ∃ k t, is[i]? = some k ∧ v = .int k t := fun i v hv => by
          have hi : i < is.length := by rw [← zs]; exact (Array.getElem?_eq_some_iff.mp hv).1
          obtain ⟨t, e⟩ := PyProof.Rows.IntsAre.int_at hit i v (by rw [Array.getElem?_toList]; exact hv)
          exact ⟨is[i], t, List.getElem?_eq_getElem hi, by rw [e, List.getD_eq_getElem?_getD, List.getElem?_eq_getElem hi]; rfl⟩
        refine set_update_ints ((Walks.list a2 _ l a4 xs).toS) s.heap.objs.size a5 is zs hb a6 (xs.size - 0) 0 _ (by omega) (Nat.zero_le _) ⟨⟨_, Heap.get?_push_size _ rfl, rfl, rfl⟩, (hl1.push _)⟩ ?c0 ?cR
        case c0 =>
          exact ⟨0, Nat.le_refl 0, setR_new_at (Heap.get?_push_of_some _ hS)⟩
        case cR =>
          intro s' c' hm hc' hS'
          obtain ⟨h', g2, d', tk', os'⟩ := s'
          have g1 : g2 = s.gens := hm.gens
          have g2 : d' = s.drawn := hm.drawn
          have g3 : os' = s.os := hm.os
          subst g1 g2 g3
          show wpAny _ _ _ _ _ _
          refine wpAny_pure ?_
          show wpAny _ _ (ret Value.none) _ _ _
          rw [zs] at hc'
          refine wpAny_pure ⟨rfl, h', tk', c', rfl, hS', hc', fun b o e => ?_⟩
          have n0 : b < s.heap.objs.size := Heap.lt_size e
          exact hm.heap b o (by simp only [List.mem_cons, List.mem_singleton, List.not_mem_nil, or_false, not_or]; exact ⟨Nat.ne_of_lt n0, by rw [a3]; exact Nat.ne_of_lt (Nat.lt_succ_of_lt n0)⟩) (Heap.get?_push_of_some _ (Heap.get?_push_of_some _ e))
      · cases r₂ with
        | error e => exact hr₂
        | ok fl₂ =>
          cases fl₂ with
          | ret r =>
            obtain ⟨rfl, h', tk, c', rfl, hS', hc', hk'⟩ := hr₂
            repeat (any_goals (first | assumption | wp_step))
            exact k _ _ _ hS' hc' hk'
          | _ => exact hr₂.elim
    | _ => exact hr.elim
end
theorem insS_mem (x y : Int) : ∀ l : List Int, y ∈ insS x l ↔ y = x ∨ y ∈ l
  | [] => by simp [insS]
  | z :: r => by
    unfold insS
    split
    · rename_i h
      subst h
      simp
    · split
      · rw [List.mem_cons, insS_mem x y r, List.mem_cons]
        constructor
        · rintro (h | h | h)
          · exact .inr (.inl h)
          · exact .inl h
          · exact .inr (.inr h)
        · rintro (h | h | h)
          · exact .inr (.inl h)
          · exact .inl h
          · exact .inr (.inr h)
      · rw [List.mem_cons]
theorem insS_srt (x : Int) : ∀ l : List Int, l.Pairwise (· < ·) → (insS x l).Pairwise (· < ·)
  | [], _ => List.pairwise_singleton _ _
  | z :: r, h => by
    obtain ⟨h1, h2⟩ := List.pairwise_cons.mp h
    unfold insS
    split
    · exact h
    · split
      · rename_i hne hlt
        refine List.pairwise_cons.mpr ⟨fun y hy => ?_, insS_srt x r h2⟩
        rcases (insS_mem x y r).mp hy with e | hy
        · omega
        · exact h1 y hy
      · rename_i hne hlt
        refine List.pairwise_cons.mpr ⟨fun y hy => ?_, h⟩
        rcases List.mem_cons.mp hy with e | hy
        · omega
        · have := h1 y hy
          omega
theorem setI_mem (y : Int) : ∀ l : List Int, y ∈ setI l ↔ y ∈ l
  | [] => Iff.rfl
  | x :: r => by
    show y ∈ insS x (setI r) ↔ _
    rw [insS_mem, setI_mem y r, List.mem_cons]
theorem setI_srt : ∀ l : List Int, (setI l).Pairwise (· < ·)
  | [] => List.Pairwise.nil
  | x :: r => insS_srt x _ (setI_srt r)
theorem srt_same : ∀ {l m : List Int}, l.Pairwise (· < ·) → m.Pairwise (· < ·) → (∀ y, y ∈ l ↔ y ∈ m) → l = m
  | [], m, _, _, h => by
    cases m with
    | nil => rfl
    | cons y r => exact absurd ((h y).mpr (List.mem_cons_self ..)) (by simp)
  | x :: r, [], _, _, h => absurd ((h x).mp (List.mem_cons_self ..)) (by simp)
  | x :: r, y :: q, hl, hm, h => by
    obtain ⟨a1, a2⟩ := List.pairwise_cons.mp hl
    obtain ⟨b1, b2⟩ := List.pairwise_cons.mp hm
    have e : x = y := by
      rcases List.mem_cons.mp ((h x).mp (List.mem_cons_self ..)) with e | hx
      · exact e
      · rcases List.mem_cons.mp ((h y).mpr (List.mem_cons_self ..)) with e | hy
        · exact e.symm
        · have := b1 x hx
          have := a1 y hy
          omega
    subst e
    rw [srt_same a2 b2 fun z => ?_]
    constructor
    · intro hz
      rcases List.mem_cons.mp ((h z).mp (List.mem_cons_of_mem _ hz)) with e | q
      · have := a1 z hz
        omega
      · exact q
    · intro hz
      rcases List.mem_cons.mp ((h z).mpr (List.mem_cons_of_mem _ hz)) with e | q
      · have := b1 z hz
        omega
      · exact q
theorem insS_len {x : Int} : ∀ {l : List Int}, x ∉ l → (insS x l).length = l.length + 1
  | [], _ => rfl
  | z :: r, h => by
    unfold insS
    split
    · rename_i e
      exact absurd (e ▸ List.mem_cons_self ..) h
    · split
      · rw [List.length_cons, insS_len fun q => h (List.mem_cons_of_mem _ q), List.length_cons]
      · rw [List.length_cons]
theorem setI_len : ∀ {l : List Int}, l.Nodup → (setI l).length = l.length
  | [], _ => rfl
  | x :: r, h => by
    obtain ⟨h1, h2⟩ := List.nodup_cons.mp h
    show (insS x (setI r)).length = _
    rw [insS_len fun q => h1 ((setI_mem x r).mp q), setI_len h2, List.length_cons]
theorem setR_count {w : World} {h : Heap} {a : Addr} {is : List Int} {c : Nat} (R : SetR w h a (fun j => decide (j ∈ is)) c) : c = (setI is).length := by
  obtain ⟨o, es, ep, t, ho, hex, hd, g, nd, hm, hb, hf, hn, hr, hl⟩ := R
  have e : setI (es.toList.map keyOf) = setI is := srt_same (setI_srt _) (setI_srt _) fun y => by
    rw [setI_mem, setI_mem, ← hm y]
    exact decide_eq_true_iff
  rw [← e, setI_len nd, List.length_map, Array.length_toList, hn]
def tSortSet (K : PySem.W.Frag) (ta : TE) : TE := fun σ H Q => ta σ H fun x H1 => ∃ (l : Addr) (is : List Int), x = V.ref l ∧ SqL K H1 l (is.map V.int) ∧ is.length ≤ 1000 ∧ (setI is).length < 64 ∧ ∀ p, H1 p = none → Q (.ref p) (upd H1 p (.lst ((setI is).map V.int)))
theorem pe_sortSet {X : Cx} {a : Expr} {ta : TE} {p p2 q pos : Pos} (hc : X.calm = true) (hg : Gl X "sorted") (hm : X.mg "sorted" = none) (hg2 : Gl X "set") (hm2 : X.mg "set" = none) (ha : PE X a ta)
    (na : starEach [a] X.env = (false, eval a X.env) :: starEach [] X.env := by rfl) : PE X (.Call (.Name "sorted" p) [.Call (.Name "set" p2) [a] [] q] [] pos) (tSortSet X.K ta) := by
  refine ⟨fun pins s σ H Q I h => ?_⟩
  refine Call_ (ld_blt I hg hm bo_sorted ?_)
  refine PyProof.Rows.callWith_builtin1 (PyProof.Rows.args_cons ?_ rfl) rfl rfl
  refine Call_ (ld_blt I hg2 hm2 PyProof.Rows.boot_set ?_)
  refine PyProof.Rows.callWith_type1 (PyProof.Rows.args_cons (thn (ha.run pins s σ H _ I h) fun v s1 ⟨x, H1, I1, r1, q1⟩ => PyProof.Rows.args_nil ?_) na) na rfl
  obtain ⟨l, is, rfl, hq, h1, h2, q1⟩ := q1
  cases r1
  obtain ⟨its, r, pl, hz⟩ := I1.list hq
  refine set_of_list is (I1.ok.hd hc) pl.isList (by simpa using r.ints) (by unfold scanBound; omega) fun h' tk c hS hcl hk => ?_
  refine PyProof.Rows.args_nil ?_
  have hc2 : c = (setI is).length := setR_count hS
  have I2 : Inv X pins σ H1 { s1 with heap := h', toks := tk } := I1.kept hk
  refine sorted_set hS (I2.ok.hd hc) (by omega) fun s' p out c2 ns kp g1 o1 hp e i1 i2 i3 i4 => ?_
  have en : ns = setI is := srt_same i2 (setI_srt _) fun y => by
    rw [i3 y, setI_mem]
    exact decide_eq_true_iff
  subst en
  have hlen : ((setI is).map V.int).length ≤ sizeLine := by rw [List.length_map, sizeLine_eq]; omega
  have hn : H1 p = none := I2.hok.fresh hp
  have J : Inv X pins σ (upd H1 p (.lst ((setI is).map V.int))) s' :=
    I2.call' (ch := []) o1 (Un.laid kp hp hn) (I2.hok.laid kp hp ⟨hlen, out.toList, c2, vals_of_ints i1, e⟩) (by rw [g1]; exact I2.bare) (fun _ z => nomatch z)
  exact ⟨.ref p, _, J, rfl, q1 p hn⟩
theorem hds_ints (F : Hp) : ∀ is : List Int, HDs F (is.map V.int) (is.map PyData.int)
  | [] => .nil
  | i :: r => .cons (.int i) (hds_ints F r)
theorem de_sortSet {X : Cx} {a : Expr} {fa : FE} {p p2 q pos : Pos} (hc : X.calm = true) (hg : Gl X "sorted") (hm : X.mg "sorted" = none) (hg2 : Gl X "set") (hm2 : X.mg "set" = none) (ha : DE X a fa)
    (na : starEach [a] X.env = (false, eval a X.env) :: starEach [] X.env := by rfl) : DE X (.Call (.Name "sorted" p) [.Call (.Name "set" p2) [a] [] q] [] pos) (fUn bSortSet fa) := PE.imp (pe_sortSet hc hg hm hg2 hm2 ha na) fun σ H Q h => by
  obtain ⟨F, env, r, env', rep, e, k⟩ := un_imp σ H Q h
  refine ⟨F, env, r, env', rep, e, fun v F1 H1 g1 rep1 ok1 => ?_⟩
  obtain ⟨F2, dx, z, sm, hx, ez, kz⟩ := k v F1 H1 g1 rep1 ok1
  unfold bSortSet at ez
  split at ez
  · rename_i ds
    simp only [Option.bind_eq_some_iff] at ez
    obtain ⟨is, e1, e2⟩ := ez
    split at e2
    · rename_i hh
      cases e2
      obtain ⟨l, vs, rfl, ha, hs⟩ := hx.list sm
      have ev := ints_of hs e1
      subst ev
      exact ⟨l, is, rfl, .of ha, hh.2, hh.1, fun p hp => kz.lst sm (hds_ints F2 _) hp⟩
    · cases e2
  · cases ez
end DL

/-! DL14: for in a generator's body. -/
namespace DL
open PySem PySem.Spec PyProof.Rows L2 GenW
section
variable {M : Model} {A : Around} {R : GenEnd} {Y : Protocol} {n : Nat} {s0 s : Shared} {c : Code} {fs : List Frame} {env : PySem.Env} {tg it : Expr} {bd : List Stmt} {pos : Pos}
/-- what a loop's call does with an exception that comes back, as a value of the call -/
abbrev backIn (env : PySem.Env) (r : Result) : Sem Flow := (match r with | .ok f => (.pure f : Sem Flow) | .error e => .raise e).onRaise (cameBack env)
theorem seg_forS {K : Flow → Sem PySem.Fin} {J : Value → Sem PySem.Fin} {gd : Bool → Bool} {lv : List Value → List Value} (hs : ∀ x, foldedSetIterable it env x = pure x)
    (h : wpAny M (A.over c fs) (eval it env) (fun x s1 => wpAny M (A.over c fs) (pyIter x) (fun u s2 => ∀ p, Seg M A R Y n s0 (.forLoop tg u bd [] env) (M.den (.forLoop tg u bd [] env)) (.ret (fun r => (backIn env r).wrap K J gd lv) none (gd false) (lv []) c p [] :: fs) s2)
      (fun x s' => Seg M A R Y n s0 c (J x) fs s') s1) (fun x s' => Seg M A R Y n s0 c (J x) fs s') s) : Seg M A R Y n s0 c ((exec (.For tg it bd [] pos) env).wrap K J gd lv) fs s := by
  rw [exec_For]
  refine seg_bind_wrap (wpAny_standAt (seg_bind_wrap (wpAny_mono h (fun x s1 h1 => ?_) fun _ _ q => q)))
  refine seg_bind_wrap (wpAny_of_eq (hs x) (seg_bind_wrap (wpAny_standAt (seg_bind_wrap (wpAny_holding (wpAny_mono h1 (fun u s2 h2 => ?_) fun _ _ q => q))))))
  exact seg_call h2
end
section
variable {prog : Program} {w : World} {A : Around} {R : GenEnd} {Y : Protocol} {n : Nat} {s0 s : Shared} {fs : List Frame} {env : PySem.Env} {tg : Expr} {u : Value} {bd : List Stmt}
abbrev noteIn (env : PySem.Env) (e : Value) : Sem PySem.Fin := (do noteFrame e env; theTreesLotGoes e : Sem Unit).wrap (fun _ => .raise e) .raise id id
abbrev turnK (tg : Expr) (u : Value) (bd : List Stmt) (env : PySem.Env) (f : Flow) : Sem PySem.Fin := match f with
  | .next => .pure (.again (.forLoop tg u bd [] env))
  | .cont => .pure (.again (.forLoop tg u bd [] env))
  | .brk => .pure (.done .next)
  | .ret v => .pure (.done (.ret v))
theorem seg_forL (h : wpAny (model prog w) (A.over (.forLoop tg u bd [] env) fs) (pyNext u) (fun r s1 => match r with
      | none => Seg (model prog w) A R Y n s0 (.forLoop tg u bd [] env) (.pure (.again (.block [] env))) fs s1
      | some v => wpAny (model prog w) (A.over (.forLoop tg u bd [] env) fs) (letOwnedTupleGo tg u v) (fun _ s2 => wpAny (model prog w) (A.over (.forLoop tg u bd [] env) fs) (assign tg env v) (fun _ s3 =>
          Seg (model prog w) A R Y n s0 (.forLoop tg u bd [] env) ((execs bd env).wrap (turnK tg u bd env) (noteIn env) id id) fs s3)
            (fun x s' => Seg (model prog w) A R Y n s0 (.forLoop tg u bd [] env) (noteIn env x) fs s') s2) (fun x s' => Seg (model prog w) A R Y n s0 (.forLoop tg u bd [] env) (noteIn env x) fs s') s1)
      (fun x s' => Seg (model prog w) A R Y n s0 (.forLoop tg u bd [] env) (noteIn env x) fs s') s) :
    Seg (model prog w) A R Y n s0 (.forLoop tg u bd [] env) ((model prog w).den (.forLoop tg u bd [] env)) fs s := by
  show Seg _ A R Y n s0 _ ((forTurn tg u bd [] env).onRaise (fun x => do noteFrame x env; theTreesLotGoes x)) fs s
  have eh : (fun e : Value => (do noteFrame e env; theTreesLotGoes e : Sem Unit).bind fun _ => (Sem.raise e : Sem PySem.Fin)) = noteIn env := funext fun e => Sem.bind_eq_wrap _ _
  rw [Sem.onRaise_eq_wrap]
  show Seg _ A R Y n s0 _ ((forTurn tg u bd [] env).wrap .pure (fun e : Value => (do noteFrame e env; theTreesLotGoes e : Sem Unit).bind fun _ => (Sem.raise e : Sem PySem.Fin)) id id) fs s
  rw [eh]
  unfold forTurn
  refine seg_bind_wrap (wpAny_standAt (seg_bind_wrap (wpAny_onRaise (wpAny_mono h (fun r s1 h1 => ?_) fun _ _ q => wpAny_standAt q))))
  cases r with
  | none => exact h1
  | some v =>
    refine seg_bind_wrap (wpAny_mono h1 (fun _ s2 h2 => seg_bind_wrap (wpAny_mono h2 (fun _ s3 h3 => ?_) fun _ _ q => q)) fun _ _ q => q)
    rw [Sem.bind_eq_wrap', Sem.wrap_wrap]
    rw [Sem.wrap_congr (execs bd env) (K' := turnK tg u bd env) (H' := noteIn env) _ _ (fun f => by cases f <;> rfl) (fun e => by rfl)]
    exact h3
theorem seg_blk (h : Seg (model prog w) A R Y n s0 (.block [] env) (.pure (.done .next)) fs s) : Seg (model prog w) A R Y n s0 (.block [] env) ((model prog w).den (.block [] env)) fs s := h
end
section
variable {X : Cx} {tg it : Expr} {body : List Stmt} {pos : Pos} {wi : TI} {g : TG} {tb : TGn}
/-- for tg in it: body, in a generator: W turn left items ys slots heap -/
def tGFor (wi : TI) (g : TG) (tb : TGn) : TGn := fun D ys σ H => wi σ H fun J H1 => ∃ W : Nat → Nat → List V → L2.St → Hp → Prop, (∃ m, W 0 m ys σ H1) ∧ ∀ i m ys σ H, W i m ys σ H →
  (J.stop i H ∧ D.nx ys σ H) ∨ (J.go i H ∧ ∃ N : List V → L2.St → Hp → Prop, (∀ ys' σ' H', N ys' σ' H' → ∃ m', m' < m ∧ W (i + 1) m' ys' σ' H') ∧ ∀ x H', J.yld i H x H' → g x σ H' fun σ2 H2 => tb { D with nx := N, ct := N, bk := D.nx } ys σ2 H2)
theorem gs_for (hp : PassesOwn (model X.prog X.w) X.A X.env X.xe) (hc : X.calm = true) (hi : PI X tg it wi) (hg : PG X tg g) (hb : GSs X body tb) (hs : ∀ x, foldedSetIterable it X.env x = pure x := by intro _; rfl) : GS X (.For tg it body [] pos) (tGFor wi g tb) := by
  refine ⟨fun A S ip R n ys s0 c fs K J gd lv s σ H D gc hn k hI ht => ?_⟩
  obtain ⟨acc, cc, r, I⟩ := hI
  refine seg_forS hs ?_
  rw [gc.over]
  refine wpAny_mono (hi.run _ s σ H _ I ht) (fun v s1 h1 => wpAny_mono h1 (fun iv s2 h2 => ?_) fun x s' hx => k.exc n s0 x s' hx) fun x s' hx => k.exc n s0 x s' hx
  obtain ⟨a, fp, tn, Jt, H2, ea, I2, T, st2, f2, W, ⟨m0, w0⟩, turn⟩ := h2
  subst ea
  intro p
  have fS : ∀ b ∈ fp, b ≠ S := fun b hb => by
    obtain ⟨_, _, _, _, _, f⟩ := f2 b hb
    exact fun z => f (S, lstObj acc cc) (List.mem_append_right _ List.mem_cons_self) z.symm
  have fI : ∀ {acc' : Array Value} {c' : Nat} {H' : Hp}, (∀ b ∈ fp, H' b = none) → ∀ b ∈ fp, FpOk X ((S, lstObj acc' c') :: ip) H' b := fun {acc' c' H'} hn b hb => by
    obtain ⟨_, f1, f3, f4, f5, f6⟩ := f2 b hb
    refine ⟨hn b hb, f1, f3, f4, f5, fun q hq => ?_⟩
    rcases List.mem_append.mp hq with z | z
    · exact f6 q (List.mem_append_left _ z)
    · rcases List.mem_cons.mp z with z | z
      · rw [z]; exact (fS b hb).symm
      · exact f6 q (List.mem_append_right _ (List.mem_cons_of_mem _ z))
  let LC : Code := .forLoop tg (.ref a) body [] X.env
  have gl : GC X S ip A LC (.ret (fun r => (backIn X.env r).wrap K J gd lv) none (gd false) (lv []) c p [] :: fs) id := gc_loop gc rfl rfl
  have loop : ∀ (m i n : Nat) (ys : List V) (s0 s : Shared) (σ : L2.St) (H : Hp), n + ys.length = sizeLine → W i m ys σ H → tn i s.heap → (∀ b ∈ fp, H b = none) → GI X S ip ys σ H s →
      Seg (model X.prog X.w) A R (GY X S) n s0 LC ((model X.prog X.w).den LC) (.ret (fun r => (backIn X.env r).wrap K J gd lv) none (gd false) (lv []) c p [] :: fs) s := by
    intro m
    induction m using Nat.strongRecOn with
    | ind m ih =>
      intro i n ys s0 s σ H hn w st hf hI
      obtain ⟨acc, cc, r, I⟩ := hI
      have raised : ∀ (n : Nat) (s0 : Shared) (x : Value) (s' : Shared), X.xe x s' → Seg (model X.prog X.w) A R (GY X S) n s0 LC (noteIn X.env x) (.ret (fun r => (backIn X.env r).wrap K J gd lv) none (gd false) (lv []) c p [] :: fs) s' := fun n s0 x s' hx => by
        refine seg_wrap ?_
        rw [gl.over]
        refine wpAny_bind (wpAny_mono (hp x s' hx) (fun _ s2 hcb => wpAny_theTreesLotGoes ?_) fun y s2 hcb => ?_)
        · exact seg_leaf (.error x) (seg_cameBack gc k hcb)
        · exact seg_leaf (.error y) (seg_cameBack gc k hcb)
      refine seg_forL ?_
      rw [gl.over]
      rcases turn i m ys σ H w with ⟨stop, qn⟩ | ⟨go, N, hN, step⟩
      · refine wpAny_mono (T.done X rfl rfl rfl hc i _ s σ H X.xe I (fI hf) st stop) (fun q s1 ⟨e, I1⟩ => ?_) fun x s' hx => raised n s0 x s' hx
        subst e
        refine seg_again rfl (seg_blk ?_)
        exact seg_leaf (.ok .next) (k.ok n ys s0 s1 .next hn ⟨σ, H, ⟨acc, cc, r, I1⟩, qn⟩)
      · refine wpAny_mono (T.item X rfl rfl rfl hc i _ s σ H X.xe I (fI hf) st go) (fun q s1 ⟨u, e, h4⟩ => ?_) fun x s' hx => raised n s0 x s' hx
        subst e
        refine wpAny_mono h4 (fun _ s5 ⟨x, H5, I5, r5, y5, st5, fr5⟩ => ?_) fun x s' hx => raised n s0 x s' hx
        let I5' := I5.pinned (fI fr5) (T.obj _ _ st5)
        refine wpAny_mono (hg.run _ s5 σ H5 x u _ I5' r5 (step x H5 y5)) (fun _ s6 ⟨σ6, H6, I6, q6⟩ => ?_) fun x s' hx => raised n s0 x s' hx
        let ip2 := ip ++ pinsAt fp s5.heap
        have gl2 : GC X S ip2 A LC (.ret (fun r => (backIn X.env r).wrap K J gd lv) none (gd false) (lv []) c p [] :: fs) id := ⟨gl.pn, fun q hq => (List.mem_append.mp hq).elim (gl.ip q) fun z => fS q.1 (of_pinsAt z).1, gl.apart, gl.over, gl.split, gl.guard, gl.gd⟩
        have onward : ∀ {n' : Nat} {ys' : List V} {s0' s3 : Shared} {σ3 : L2.St} {H3 : Hp}, n' + ys'.length = sizeLine → GI X S ip2 ys' σ3 H3 s3 → N ys' σ3 H3 → Seg (model X.prog X.w) A R (GY X S) n' s0' LC (.pure (.again LC)) (.ret (fun r => (backIn X.env r).wrap K J gd lv) none (gd false) (lv []) c p [] :: fs) s3 := fun {n' ys' s0' s3 σ3 H3} hn' hG hNx => by
          obtain ⟨m', hm, w3⟩ := hN ys' σ3 H3 hNx
          obtain ⟨acc3, cc3, r3, I3⟩ := hG
          have pin3 : ∀ b ∈ fp, ∀ o, s5.heap.get? b = some o → s3.heap.get? b = some o ∧ H3 b = none := fun b hb o e =>
            let z := I3.pin (b, o) (List.mem_append_right _ (List.mem_cons_of_mem _ (List.mem_append_right _ (mem_pinsAt hb e))))
            ⟨z.1, z.2.1⟩
          refine seg_again rfl (ih m' hm (i + 1) n' ys' s0' s3 σ3 H3 hn' w3 (T.keep _ _ _ st5 fun b hb o e => (pin3 b hb o e).1) (fun b hb => ?_) ⟨acc3, cc3, r3, I3.pins_of fun q hq => I3.pin q ?_⟩)
          · obtain ⟨o, e, _⟩ := T.obj _ _ st5 b hb
            exact (pin3 b hb o e).2
          · refine List.mem_append_right _ ?_
            rcases List.mem_cons.mp hq with z | z
            · rw [z]; exact List.mem_cons_self
            · exact List.mem_cons_of_mem _ (List.mem_append_left _ z)
        refine hb.run A S ip2 R n ys s0 _ _ _ _ id id s6 σ6 H6 { D with nx := N, ct := N, bk := D.nx } gl2 hn ⟨fun n' ys' s0' s3 f hn' hs => ?_, fun n' s0' x s3 hx => raised n' s0' x s3 hx⟩ ⟨acc, cc, r, I6⟩ q6
        have back : ∀ {ys' : List V} {σ3 : L2.St} {H3 : Hp}, GI X S ip2 ys' σ3 H3 s3 → GI X S ip ys' σ3 H3 s3 := fun {ys' σ3 H3} hG => by
          obtain ⟨acc3, cc3, r3, I3⟩ := hG
          refine ⟨acc3, cc3, r3, I3.pins_of fun q hq => I3.pin q (List.mem_append_right _ ?_)⟩
          rcases List.mem_cons.mp hq with z | z
          · rw [z]; exact List.mem_cons_self
          · exact List.mem_cons_of_mem _ (List.mem_append_left _ z)
        cases f with
        | next => obtain ⟨σ3, H3, I3, n3⟩ := hs; exact onward hn' I3 n3
        | cont => obtain ⟨σ3, H3, I3, n3⟩ := hs; exact onward hn' I3 n3
        | brk => obtain ⟨σ3, H3, I3, n3⟩ := hs; exact seg_leaf (.ok .next) (k.ok n' ys' s0' s3 .next hn' ⟨σ3, H3, back I3, n3⟩)
        | ret v => obtain ⟨v', σ3, H3, I3, n3⟩ := hs; exact seg_leaf (.ok (.ret v)) (k.ok n' ys' s0' s3 (.ret v) hn' ⟨v', σ3, H3, back I3, n3⟩)
  exact loop m0 0 n ys s0 s2 σ H2 hn w0 st2 (fun b hb => (f2 b hb).1) ⟨acc, cc, r, I2⟩
end
end DL

/-! DL15: comprehensions of two clauses; generators by data. -/
namespace DL
open PySem PySem.Spec PyProof.Rows L2
theorem yes_if {p q : Prop} (h : p) : if true = true then p else q := by
  rw [if_pos rfl]
  exact h
/-- within a comprehension: P the new list, so far vs -/
structure CS (F0 H0 : Hp) (O0 : Ow) (P : Addr) (σ : L2.St) (env : Env) (F H : Hp) (as : List PyData) (vs : List V) : Prop where
  rep : Rep F H σ env
  go : Go F0 H0 O0 F H (OwA σ env)
  f : F P = none
  l : H P = some (.lst vs)
  hs : HDs F vs as
  no : ¬ OwnA σ env P
section
variable {F0 H0 F H F3 H3 : Hp} {O0 : Ow} {P : Addr} {σ σ3 : L2.St} {env env3 : Env} {as : List PyData} {vs : List V}
theorem CS.along (c : CS F0 H0 O0 P σ env F H as vs) (g : Go F H (OwA σ env) F3 H3 (OwA σ3 env3)) (rep : Rep F3 H3 σ3 env3) : CS F0 H0 O0 P σ3 env3 F3 H3 as vs := by
  refine ⟨rep, c.go.trans g, ?_, g.frame _ _ c.no c.l, c.hs.mono g.fz, fun z => ?_⟩
  · cases q : F3 P with
    | none => rfl
    | some o =>
      rcases g.fresh P (by rw [q]; simp) with z | z | z
      · exact absurd c.f z
      · exact (z.no c.l fun _ e => nomatch e).elim
      · exact absurd z c.no
  · rcases g.own P z with q | q
    · exact c.no q
    · rw [c.l] at q; cases q
theorem CS.ext (c : CS F0 H0 O0 P σ env F H as vs) (e : Ext F H F3 H3) : CS F0 H0 O0 P σ env F3 H3 as vs := c.along (.of_ext e) (c.rep.ext e)
theorem CS.frame (c : CS F0 H0 O0 P σ env F H as vs) (rep : Rep F H σ3 env3) (o : OwLe (OwA σ3 env3) (OwA σ env)) : CS F0 H0 O0 P σ3 env3 F H as vs :=
  ⟨rep, c.go.sub_own o, c.f, c.l, c.hs, fun z => c.no (o.1 _ z)⟩
theorem CS.push (c : CS F0 H0 O0 P σ env F H as vs) (hP : H0 P = none) {v : V} {d : PyData} (hd : HD F v d) : CS F0 H0 O0 P σ env F (upd H P (.lst (vs ++ [v]))) (as ++ [d]) (vs ++ [v]) := by
  have sub : Same F (upd H P (.lst (vs ++ [v]))) := fun b o e => by
    rw [upd_ne (ne_of_none e c.f)]
    exact c.rep.sub b o e
  refine ⟨⟨sub, c.rep.len, c.rep.dat, c.rep.ob, fun j b ds hj => ?_, c.rep.ne⟩, ⟨c.go.fz, fun b o n e => ?_, fun b e => ?_, c.go.fresh, c.go.own, c.go.bor⟩, c.f, upd_same, c.hs.append (.cons hd .nil), c.no⟩
  · obtain ⟨a, ws, z1, z2, z3, z4⟩ := c.rep.own j b ds hj
    refine ⟨a, ws, z1, z2, ?_, z4⟩
    rw [upd_ne (fun z => c.no (by subst z; exact ⟨j, b, ds, hj, z1⟩))]
    exact z3
  · rw [upd_ne (ne_of_none e hP)]
    exact c.go.frame b o n e
  · by_cases hb : b = P
    · rw [hb]; exact hP
    · rw [upd_ne hb] at e
      exact c.go.dom b e
end
section
variable {X : Cx} {vs vs1 us us1 : List Nat} {it it1 : FI} {g g1 : FG} {fe : FE}
theorem comp2_imp (hu : ∀ j ∈ us, j ∈ vs) (hu1 : ∀ j ∈ us1, j ∈ vs1) (hv : ∀ j ∈ vs1, j ∈ vs) (σ : L2.St) (H : Hp) (Q : VK) (h : tD (fComp2 vs vs1 it g it1 g1 fe) σ H Q) : tLc2 (tDI it) (tG us g) (tDT ftYes) (tDI it1) (tG us1 g1) (tDT ftYes) (tD fe) vs vs1 σ H Q := by
  obtain ⟨F, env, r, env', rep, e, k⟩ := h
  simp only [fComp2, Option.bind_eq_some_iff, Option.map_eq_some_iff] at e
  obtain ⟨⟨xs, e1⟩, h1, ⟨acc, en⟩, h2, h3⟩ := e
  cases h3
  refine ⟨F, env, xs, e1, rep, h1, fun J F' H' g' rep' wk => fun P hP => ?_⟩
  obtain ⟨repw, ow⟩ := rep'.wipe (vs := vs)
  have fP : F' P = none := rep'.sub.free hP
  let O0 : Ow := OwA (L2.wipe σ vs) (kill e1 vs)
  let Z : L2.St → Env → Hp → Hp → List PyData → List V → Prop := CS F' H' O0 P
  have ex0 : Ext F' H' F' (upd H' P (.lst [])) := ⟨.refl _, rep'.sub.trans (same_new hP), same_new hP, fun _ z => .inl z⟩
  have z0 : Z (L2.wipe σ vs) (kill e1 vs) F' (upd H' P (.lst [])) [] [] := ⟨repw.ext ex0, .of_ext ex0, fP, upd_same, .nil, fun ⟨j, c, ds, q1, q2⟩ => by
    obtain ⟨a, ws, w1, w2, w3, w4⟩ := repw.own j c ds q1
    rw [q2] at w1
    cases w1
    rw [hP] at w3
    cases w3⟩
  refine ⟨fun i m Hi => m = xs.length - i ∧ i ≤ xs.length ∧ ∃ Fi ei ai vi, Z (L2.wipe σ vs) ei Fi Hi ai vi ∧ comp2D vs vs1 g it1 g1 fe (xs.drop i) ei ai = some (acc, en), ⟨xs.length, rfl, Nat.zero_le _, F', kill e1 vs, [], [], z0, h2⟩, ?_⟩
  rintro i m Hi ⟨rfl, hi, Fi, ei, ai, vi, zi, hf⟩
  obtain ⟨w1, w2⟩ := wk i Fi Hi zi.go.fz zi.rep.sub
  by_cases hlt : i < xs.length
  · have hx : xs[i]? = some xs[i] := List.getElem?_eq_getElem hlt
    obtain ⟨hgo, hy⟩ := w1 _ hx
    rw [drop_cons hx, comp2D] at hf
    simp only [Option.bind_eq_some_iff] at hf
    obtain ⟨e2, q1, ⟨ys, e3⟩, q2, ⟨acc1, e4⟩, q3, q4⟩ := hf
    refine .inr ⟨hgo, fun Hi => ∃ Fi ei vi, Z (L2.wipe σ vs) ei Fi Hi acc1 vi ∧ comp2D vs vs1 g it1 g1 fe (xs.drop (i + 1)) ei acc1 = some (acc, en), fun Hi ⟨Fi, ei, vi, z, q⟩ => ⟨xs.length - (i + 1), by omega, rfl, hlt, Fi, ei, acc1, vi, z, q⟩, fun x H2 yy => ?_⟩
    obtain ⟨F2, ex, hd⟩ := hy x H2 yy
    refine ⟨F2, ei, _, e2, zi.rep.ext ex, hd, q1, fun σ2 rep2 o2 l2 k2 => ?_⟩
    have w4 : wipe σ2 vs = wipe σ vs := by
      have w5 : wipe σ2 vs = wipe (wipe σ vs) vs := wipe_ext l2 fun j hj => k2 j fun z => hj (hu j z)
      rw [w5, wipe_wipe]
    have z2 : Z σ2 e2 F2 H2 ai vi := (zi.ext ex).frame rep2 o2
    refine ⟨w4, F2, e2, true, e2, rep2, rfl, fun F3 H3 g3 rep3 => ?_⟩
    have z3 := z2.along g3 rep3
    refine yes_if ?_
    refine ⟨F3, e2, ys, e3, rep3, q2, fun J1 F4 H4 g4 rep4 wk1 => ?_⟩
    have z4 := z3.along g4 rep4
    obtain ⟨repw1, ow1⟩ := rep4.wipe (vs := vs1)
    have z5 : Z (L2.wipe σ2 vs1) (kill e3 vs1) F4 H4 ai vi := z4.frame repw1 ow1
    refine ⟨fun j m Hj => m = ys.length - j ∧ j ≤ ys.length ∧ ∃ Fj ej aj vj, Z (L2.wipe σ2 vs1) ej Fj Hj aj vj ∧ Same F4 Fj ∧ compD vs1 g1 ftYes fe (ys.drop j) ej aj = some (acc1, e4), ⟨ys.length, rfl, Nat.zero_le _, F4, kill e3 vs1, ai, vi, z5, .refl _, q3⟩, ?_⟩
    rintro j m Hj ⟨rfl, hj, Fj, ej, aj, vj, zj, sj, hfj⟩
    obtain ⟨u1, u2⟩ := wk1 j Fj Hj sj zj.rep.sub
    by_cases hlj : j < ys.length
    · have hyj : ys[j]? = some ys[j] := List.getElem?_eq_getElem hlj
      obtain ⟨hgo1, hy1⟩ := u1 _ hyj
      rw [drop_cons hyj, compD] at hfj
      simp only [Option.bind_eq_some_iff] at hfj
      obtain ⟨f2, p1, ⟨c, f3⟩, p2, p3⟩ := hfj
      cases p2
      rw [if_pos rfl] at p3
      simp only [Option.bind_eq_some_iff] at p3
      obtain ⟨⟨r5, f5⟩, p4, ⟨d6, f6⟩, p5, p6⟩ := p3
      refine .inr ⟨hgo1, fun Hj => ∃ Fj ej aj vj, Z (L2.wipe σ2 vs1) ej Fj Hj aj vj ∧ Same F4 Fj ∧ compD vs1 g1 ftYes fe (ys.drop (j + 1)) ej aj = some (acc1, e4), fun Hj p => ⟨ys.length - (j + 1), by omega, rfl, hlj, p⟩, fun x1 H6 yy1 => ?_⟩
      obtain ⟨F6, ex6, hd6⟩ := hy1 x1 H6 yy1
      refine ⟨F6, ej, _, f2, zj.rep.ext ex6, hd6, p1, fun σ7 rep7 o7 l7 k7 => ?_⟩
      have w7 : wipe σ7 vs1 = wipe σ2 vs1 := by
        have w8 : wipe σ7 vs1 = wipe (wipe σ2 vs1) vs1 := wipe_ext l7 fun j hj => k7 j fun z => hj (hu1 j z)
        rw [w8, wipe_wipe]
      have z7 : Z σ7 f2 F6 H6 aj vj := (zj.ext ex6).frame rep7 o7
      refine ⟨w7, F6, f2, true, f2, rep7, rfl, fun F8 H8 g8 rep8 => ?_⟩
      have z8 := z7.along g8 rep8
      refine yes_if ?_
      refine ⟨F8, f2, r5, f5, rep8, p4, fun v F9 H9 g9 rep9 ok9 => ?_⟩
      obtain ⟨F10, g10, rep10, hd10⟩ := ok9.frz g9 rep9 p5
      have z10 := z8.along g10 rep10
      split at p6
      · rename_i hz
        refine ⟨vj, z10.l, by rw [z10.hs.length]; exact hz, F10, kill f6 vs1, aj ++ [d6], vj ++ [v], ?_, sj.trans (ex6.fz.trans (g8.fz.trans g10.fz)), p6⟩
        have z11 := z10.push hP hd10
        have r1 := z11.rep.wipe (vs := vs1)
        rw [w7] at r1
        exact z11.frame r1.1 r1.2
      · cases p6
    · have e0 : j = ys.length := by omega
      subst e0
      rw [List.drop_length] at hfj
      cases hfj
      refine .inl ⟨u2 rfl, ?_⟩
      refine ⟨Fj, kill e4 vs, vj, ?_, q4⟩
      have r1 := zj.rep.wipe (vs := vs)
      have w9 : wipe (wipe σ2 vs1) vs = wipe σ vs := by
        have w10 : wipe (wipe σ2 vs1) vs = wipe σ2 vs := wipe_ext (wipe_length _ _) fun j hj => wipe_get fun z => hj (hv j z)
        rw [w10, w4]
      rw [w9] at r1
      exact zj.frame r1.1 r1.2
  · have e0 : i = xs.length := by omega
    subst e0
    rw [List.drop_length] at hf
    cases hf
    obtain ⟨r1, r2⟩ := rep'.back zi.go.fz zi.rep
    refine .inl ⟨w2 rfl, ?_⟩
    have gi := zi.go
    have gf : Go F' H' (OwA σ e1) Fi Hi (OwA σ (back e1 en vs)) := by
      refine ⟨gi.fz, fun b o n e => gi.frame b o (fun z => n (ow.1 b z)) e, gi.dom, fun b e => (gi.fresh b e).elim .inl fun z => z.elim (fun q => .inr (.inl q)) fun q => .inr (.inr (ow.1 b q)), fun b z => (gi.own b (r2.1 b z)).elim (fun q => .inl (ow.1 b q)) .inr, fun b z => ow.2 b (gi.bor b (r2.2 b z))⟩
    exact k (.ref P) Fi Hi (g'.trans gf) r1 (.new rfl (g'.dom P hP) zi.f zi.l zi.hs fun z => zi.no (r2.1 _ z))
end
end DL
namespace DL
open PySem PySem.Spec PyProof.Rows L2 GenW
section
variable {X : Cx} {vs vs1 us us1 : List Nat} {it it1 : FI} {g g1 : FG} {fe : FE}
theorem de_comp2 {elt tg iter tg1 iter1 : Expr} {scope : Scope} {pos : Pos} (own : List (Str × Nat)) (hc : X.calm = true) (hN : X.N.Nodup) (hi : DI X tg iter it) (ok : BlkOk X.N X.env.scope scope own) (hu : ∀ j ∈ us, j ∈ own.map (·.2)) (hu1 : ∀ j ∈ us1, j ∈ vs1) (hv : ∀ j ∈ vs1, j ∈ own.map (·.2))
    (hg : ∀ (s : Shared) (H : Hp) (C : Addr) (cl : List (Str × Addr)) (fp : List Addr), DG (X.blk s H scope (compEnvC scope cl C X.env) fp) tg us g) (hi1 : ∀ (s : Shared) (H : Hp) (C : Addr) (cl : List (Str × Addr)) (fp : List Addr), DI (X.blk s H scope (compEnvC scope cl C X.env) fp) tg1 iter1 it1)
    (hg1 : ∀ (s : Shared) (H : Hp) (C : Addr) (cl : List (Str × Addr)) (fp : List Addr), DG (X.blk s H scope (compEnvC scope cl C X.env) fp) tg1 us1 g1) (he : ∀ (s : Shared) (H : Hp) (C : Addr) (cl : List (Str × Addr)) (fp : List Addr), DE (X.blk s H scope (compEnvC scope cl C X.env) fp) elt fe)
    (hs : ∀ x, foldedSetIterable iter X.env x = pure x := by intro _; rfl) (hs1 : ∀ env x, foldedSetIterable iter1 env x = pure x := by intro _ _; rfl) :
    DE X (.ListComp elt [⟨tg, iter, [], 0⟩, ⟨tg1, iter1, [], 0⟩] scope pos) (fComp2 (own.map (·.2)) vs1 it g it1 g1 fe) :=
  PE.imp (pe_lc2 hc hN hi ok hv hg (fun _ _ _ _ _ => pts_yes) hi1 hg1 (fun _ _ _ _ _ => pts_yes) he hs hs1) (comp2_imp hu hu1 hv)
theorem ds_comp2 {i : Nat} {y : Str} {py : Pos} {elt tg iter tg1 iter1 : Expr} {scope : Scope} {pos spos : Pos} (own : List (Str × Nat)) (hc : X.calm = true) (hN : X.N.Nodup) (hi : DI X tg iter it) (ok : BlkOk X.N X.env.scope scope own) (hu : ∀ j ∈ us, j ∈ own.map (·.2)) (hu1 : ∀ j ∈ us1, j ∈ vs1) (hv : ∀ j ∈ vs1, j ∈ own.map (·.2))
    (hg : ∀ (s : Shared) (H : Hp) (C : Addr) (cl : List (Str × Addr)) (fp : List Addr), DG (X.blk s H scope (compEnvC scope cl C X.env) fp) tg us g) (hi1 : ∀ (s : Shared) (H : Hp) (C : Addr) (cl : List (Str × Addr)) (fp : List Addr), DI (X.blk s H scope (compEnvC scope cl C X.env) fp) tg1 iter1 it1)
    (hg1 : ∀ (s : Shared) (H : Hp) (C : Addr) (cl : List (Str × Addr)) (fp : List Addr), DG (X.blk s H scope (compEnvC scope cl C X.env) fp) tg1 us1 g1) (he : ∀ (s : Shared) (H : Hp) (C : Addr) (cl : List (Str × Addr)) (fp : List Addr), DE (X.blk s H scope (compEnvC scope cl C X.env) fp) elt fe)
    (hy : X.N[i]? = some y := by rfl) (hyl : X.env.scope.names.lookup y = some .local := by rfl) (hsw : swapsWith (.ListComp elt [⟨tg, iter, [], 0⟩, ⟨tg1, iter1, [], 0⟩] scope pos) (some (.Name y py)) spos.line X.env = pure true := by exact sw_true rfl rfl rfl (by decide +kernel))
    (hs : ∀ x, foldedSetIterable iter X.env x = pure x := by intro _; rfl) (hs1 : ∀ env x, foldedSetIterable iter1 env x = pure x := by intro _ _; rfl) :
    DS X (.Assign [.Name y py] (.ListComp elt [⟨tg, iter, [], 0⟩, ⟨tg1, iter1, [], 0⟩] scope pos) spos) (fsName (fComp2 (own.map (·.2)) vs1 it g it1 g1 fe) i) :=
  PS.imp (ps_setLc2 hc hN hy hyl hsw hi ok hv hg (fun _ _ _ _ _ => pts_yes) hi1 hg1 (fun _ _ _ _ _ => pts_yes) he hs hs1) fun D σ H h => comp2_imp hu hu1 hv σ H _ (name_imp D σ H h)
/-! ### generators -/
/-- nothing is out yet; out: all that will be -/
def tGL (f : FGn) : TGn := fun D ys σ H => ys = [] ∧ ∃ F env out, Rep F H σ env ∧ f env = some out ∧ ∀ us F' H' σ' env', Go F H (OwA σ env) F' H' (OwA σ' env') → Rep F' H' σ' env' → HDs F' us out → D.nx us σ' H'
theorem gfor_imp (D : GEnds) (ys : List V) (σ : L2.St) (H : Hp) (h : tGL (fgFor vs it g fe) D ys σ H) : tGFor (tDI it) (tG us g) (tGThen (tGYield (tD fe)) tG0) D ys σ H := by
  obtain ⟨rfl, F, env, out, rep, e, k⟩ := h
  simp only [fgFor, Option.bind_eq_some_iff, Option.map_eq_some_iff] at e
  obtain ⟨⟨xs, e1⟩, h1, ⟨out', en⟩, h2, h3⟩ := e
  cases h3
  refine ⟨F, env, xs, e1, rep, h1, fun J F' H' g' rep' wk => ?_⟩
  refine ⟨fun i m yi σi Hi => m = xs.length - i ∧ i ≤ xs.length ∧ ∃ Fi ei ai, Rep Fi Hi σi ei ∧ Go F H (OwA σ env) Fi Hi (OwA σi ei) ∧ Same F' Fi ∧ HDs Fi yi ai ∧ compD vs g ftYes fe (xs.drop i) ei ai = some (out', en),
    ⟨xs.length, rfl, Nat.zero_le _, F', kill e1 vs, [], rep'.kill, g'.sub_own own_kill, .refl _, .nil, h2⟩, ?_⟩
  rintro i m yi σi Hi ⟨rfl, hi, Fi, ei, ai, repi, gi, si, hs, hf⟩
  obtain ⟨w1, w2⟩ := wk i Fi Hi si repi.sub
  by_cases hlt : i < xs.length
  · have hx : xs[i]? = some xs[i] := List.getElem?_eq_getElem hlt
    obtain ⟨hgo, hy⟩ := w1 _ hx
    refine .inr ⟨hgo, fun y' σ' H' => ∃ Fi ei ai, Rep Fi H' σ' ei ∧ Go F H (OwA σ env) Fi H' (OwA σ' ei) ∧ Same F' Fi ∧ HDs Fi y' ai ∧ compD vs g ftYes fe (xs.drop (i + 1)) ei ai = some (out', en), fun y' σ' H' p => ⟨xs.length - (i + 1), by omega, rfl, hlt, p⟩, fun x H2 yy => ?_⟩
    obtain ⟨F2, ex, hd⟩ := hy x H2 yy
    rw [drop_cons hx, compD] at hf
    simp only [Option.bind_eq_some_iff] at hf
    obtain ⟨e2, q1, ⟨c, e3⟩, q2, q3⟩ := hf
    cases q2
    rw [if_pos rfl] at q3
    simp only [Option.bind_eq_some_iff] at q3
    obtain ⟨⟨r5, e5⟩, q4, ⟨d6, e6⟩, q5, q6⟩ := q3
    refine ⟨F2, ei, _, e2, repi.ext ex, hd, q1, fun σ2 rep2 o2 l2 k2 => ?_⟩
    have g2 : Go F H (OwA σ env) F2 H2 (OwA σ2 e2) := (gi.trans (.of_ext ex)).sub_own o2
    split at q6
    · rename_i hz
      refine ⟨by rw [hs.length]; exact hz, F2, e2, r5, e5, rep2, q4, fun v F4 H4 g4 rep4 ok4 => ?_⟩
      obtain ⟨F5, g5, rep5, hd5⟩ := ok4.frz g4 rep4 q5
      exact ⟨F5, kill e6 vs, ai ++ [d6], rep5.kill, (g2.trans g5).sub_own own_kill, (si.trans ex.fz).trans g5.fz, ((hs.mono ex.fz).mono g5.fz).append (.cons hd5 .nil), q6⟩
    · cases q6
  · have e0 : i = xs.length := by omega
    subst e0
    rw [List.drop_length] at hf
    cases hf
    exact .inl ⟨w2 rfl, k yi Fi Hi σi _ gi repi hs⟩
theorem gseq_imp {a : FS} {b : FGn} (D : GEnds) (ys : List V) (σ : L2.St) (H : Hp) (h : tGL (fgSeq a b) D ys σ H) : tGThen (tPlain (tS a)) (tGL b) D ys σ H := by
  obtain ⟨rfl, F, env, out, rep, e, k⟩ := h
  simp only [fgSeq, Option.bind_eq_some_iff] at e
  obtain ⟨o, q1, q2⟩ := e
  refine ⟨F, env, o, rep, q1, ?_⟩
  cases o with
  | nx e1 => exact fun σ' F' H' g' rep' => ⟨rfl, F', e1, out, rep', q2, fun us F2 H2 σ2 env2 g2 rep2 hd => k us F2 H2 σ2 env2 (g'.trans g2) rep2 hd⟩
  | bk _ => cases q2
  | ct _ => cases q2
  | rt _ _ => cases q2
theorem GSs.imp {st : List Stmt} {t t' : TGn} (h : GSs X st t) (k : ∀ D ys σ H, t' D ys σ H → t D ys σ H) : GSs X st t' := ⟨fun A S ip R n ys s0 c fs K J gd lv s σ H D g hn hk hI ht => h.run A S ip R n ys s0 c fs K J gd lv s σ H D g hn hk hI (k D ys σ H ht)⟩
theorem dg_seq {st : Stmt} {rest : List Stmt} {a : FS} {b : FGn} (h1 : DS X st a) (h2 : GSs X rest (tGL b)) : GSs X (st :: rest) (tGL (fgSeq a b)) := GSs.imp (gss_cons (gs_ps h1) h2) gseq_imp
theorem dg_for {tg iter e : Expr} {pos yp ep : Pos} (hp : PassesOwn (model X.prog X.w) X.A X.env X.xe) (hc : X.calm = true) (hi : DI X tg iter it) (hg : DG X tg us g) (he : DE X e fe) (hco : X.env.scope.isCoroutine = false := by rfl) (hq : interactive X.env = false := by rfl)
    (hs : ∀ x, foldedSetIterable iter X.env x = pure x := by intro _; rfl) : GSs X [.For tg iter [.Expr (.Yield (some e) yp) ep] [] pos] (tGL (fgFor vs it g fe)) :=
  GSs.imp (gss_cons (gs_for hp hc hi hg (gss_cons (gs_yield he hco hq) gss_nil) hs) gss_nil) gfor_imp
/-- a generator def by data -/
def spGD (n : Nat) (R : FnG) : SpG := fun vs H Q _ => ∃ F ds out, Same F H ∧ HDs F vs ds ∧ ds.length = n ∧ R ds = some out ∧ ∀ us F' H', Ext F H F' H' → HDs F' us out → Q us H'
end
section
variable {P : Program} {w : World} {K : PySem.W.Frag} {mg : Str → Option Value} {base : Heap}
theorem gfn_ok {x qual : Str} {params : Arguments} {body : List Stmt} {scope : Scope} {f : Addr} {fd : FuncData} {N ps : List Str} {k : Nat} {g : FGn} (F : FunD K x qual params body scope [] [] f fd) (S : GScope N ps scope)
    (hb : ∀ (cdv : Value) (A : Around) (outer : List PySem.Env) (s : Shared) (H : Hp) (E : XK) (pn : List (Addr × Obj)), Room k (A.deeper (envOfC qual scope s.heap.objs.size f cdv)) → GSs (gcxOf P w K mg base N qual scope f cdv A outer s H E pn) body (tGL g)) :
    GFn P w K mg base (k + 1) f fd ps (spGD ps.length (runG ps.length N.length g)) := by
  obtain ⟨oc, od, dV, kV, doc, pm, an, cdv, ct, osl, rfl, lk, hcd, _, _⟩ := F.ex
  refine gfn_of lk hcd S (fun vs H Q E h => ?_) fun A outer s H vs Q E pn hr h => ⟨tGL g, hb cdv A outer s H E pn hr, ?_⟩
  · obtain ⟨F, ds, out, _, hs, hn, _⟩ := h
    exact hs.length.trans hn
  · obtain ⟨F, ds, out, sm, hs, hn, e, k⟩ := h
    unfold runG at e
    rw [if_pos hn] at e
    rw [← hn] at e
    exact ⟨rfl, F, _, out, rep_start sm hs, e, fun us F' H' σ' env' g' rep' hd => k us F' H' ⟨g'.fz, rep'.sub, fun b o => g'.frame b o (own_start b), fun b hb => (g'.fresh b hb).elim .inl fun z => z.elim .inr fun q => absurd q (own_start b)⟩ hd⟩
/-- a generator def that may be called by its name -/
structure CalG (P : Program) (w : World) (K : PySem.W.Frag) (mg : Str → Option Value) (base : Heap) (k : Nat) (x : Str) (n : Nat) (R : FnG) : Prop where
  ex : ∃ f fd ps, GFn P w K mg base k f fd ps (spGD n R) ∧ mg x = some (.ref f) ∧ PySem.W.keepIn K (.ref f) = true ∧ Binds K fd ps []
theorem CalG.mk' {k n : Nat} {x : Str} {R : FnG} {f : Addr} {fd : FuncData} {ps : List Str} {qual : Str} {params body scope} (F : FunD K x qual params body scope [] [] f fd) (ok : GFn P w K mg base k f fd ps (spGD n R)) (hm : mg x = some (.ref f)) (hb : Binds K fd ps []) : CalG P w K mg base k x n R := ⟨f, fd, ps, ok, hm, F.kp, hb⟩
end
section
variable {X : Cx} {k n : Nat} {x nm : Str} {R : FnG} {e : Expr} {es : List Expr} {g : FA} {p p2 pos pos2 : Pos}
abbrev noE : XK := fun _ _ _ => False
theorem pass_no : Passes (CX X.prog X.w) X noE := fun pins σ H s e s' I h => by
  obtain ⟨a, B, H', cls, d, _, _, _, _, _, _, _, hW⟩ := h
  exact hW.elim
theorem de_listG (C : CalG X.prog X.w X.K X.mg X.base k x n R) (hr : Room k X.A) (hr3 : Room (k + 3) X.A) (hg : Gl X x) (hgl : Gl X "list") (hml : X.mg "list" = none) (ha : DA X (e :: es) g) (hdb : (x == ("__debug__" : Str)) = false := by decide)
    (he : starEach (e :: es) X.env = (false, eval e X.env) :: starEach es X.env := by rfl) (hpl : (backTo pos2 (starEach es X.env)).any (·.1) = false := by rfl)
    (ho : starEach [.Call (.Name x p2) (e :: es) [] pos2] X.env = (false, eval (.Call (.Name x p2) (e :: es) [] pos2) X.env) :: starEach [] X.env := by rfl) :
    DE X (.Call (.Name "list" p) [.Call (.Name x p2) (e :: es) [] pos2] [] pos) (fListCall n R g) := by
  obtain ⟨f, fd, ps, ok, hm, hk, hb⟩ := C.ex
  refine PE.imp (pe_listG (E := noE) (pgen_call ok hr hg hm hk hb .nil ha hdb he hpl) pass_no (fun _ _ _ z => z.elim) hr3 hgl hml bo_list (he := ho)) fun σ H Q h => ?_
  obtain ⟨F, env, r, env', rep, e, kk⟩ := h
  simp only [fListCall, Option.bind_eq_some_iff] at e
  obtain ⟨⟨ds, e1⟩, h1, h2⟩ := e
  simp only at h2
  split at h2
  · rename_i hn
    simp only [Option.map_eq_some_iff] at h2
    obtain ⟨out, hz, h3⟩ := h2
    cases h3
    refine ⟨F, env, ds, env', rep, h1, fun vs F1 H1 g1 rep1 hds => ?_⟩
    refine ⟨F1, ds, out, rep1.sub, by rw [List.append_nil]; exact hds, hn, hz, fun us F' H' ex hd q hq => ?_⟩
    refine (g1.ret rep1 kk) (.ref q) F' (upd H' q (.lst us)) ⟨ex.fz, ex.sub.trans (same_new hq), ex.hs.trans (same_new hq), ex.fresh⟩ (.new rfl (ex.hs.free hq) (ex.sub.free hq) upd_same hd)
  · cases h2
end
end DL

/-! DL16: dict comprehensions of two clauses, the keys tuples. -/
namespace DL
open PySem PySem.Spec PyProof.Rows L2

/-- {k: v for t0 in i0 for t1 in i1} -/
abbrev dc2 (k v t0 i0 t1 i1 : Expr) (sc : Scope) (p : Pos) : Expr := .DictComp k v [⟨t0, i0, [], 0⟩, ⟨t1, i1, [], 0⟩] sc p
theorem turnA (k v t0 i0 t1 i1 : Expr) (sc : Scope) (p : Pos) (z acc : Value) (en : PySem.Env) : compTurn (dc2 k v t0 i0 t1 i1 sc p) 0 z acc en = (do
    standAt i0.pos
    match ← pyNext z with
    | none => pure (.done .next)
    | some u =>
      letOwnedTupleGo t0 z u
      assign t0 en u
      let mut ok := true
      for c in ([] : List Expr) do
        if ok then ok ← isTrue c en (eval c en)
      if ok then
        let y ← eval i1 en
        standAt i1.pos
        let y ← foldedSetIterable i1 en y
        let _ ← runOwn (.compStart (dc2 k v t0 i0 t1 i1 sc p) 1 (← holding [y] (pyIter y)) acc en) en
      again (.compLoop (dc2 k v t0 i0 t1 i1 sc p) 0 z acc en)) := by rfl
theorem turnB (k v t0 i0 t1 i1 : Expr) (sc : Scope) (p : Pos) (z : Value) (D : Addr) (en : PySem.Env) : compTurn (dc2 k v t0 i0 t1 i1 sc p) 1 z (.ref D) en = (do
    standAt i1.pos
    match ← pyNext z with
    | none => pure (.done .next)
    | some u =>
      letOwnedTupleGo t1 z u
      assign t1 en u
      let mut ok := true
      for c in ([] : List Expr) do
        if ok then ok ← isTrue c en (eval c en)
      if ok then
        (do
          let a ← eval k en
          let b ← holding [a] (eval v en)
          standAt { k.pos with endLine := v.pos.endLine, endCol := v.pos.endCol }
          holding [a, b] (dictSet D a b))
      again (.compLoop (dc2 k v t0 i0 t1 i1 sc p) 1 z (.ref D) en)) := by rfl
section
variable {P : Program} {w : World} {A : Around} {R : Result → Shared → Prop} {s : Shared} {k v t0 i0 t1 i1 : Expr} {sc : Scope} {p : Pos} {z acc : Value} {en : PySem.Env}
/-- what an error does in the block -/
abbrev NE (P : Program) (w : World) (A : Around) (en : PySem.Env) (R : Result → Shared → Prop) : Value → Shared → Prop := notedBy (model P w) A en fun x t => R (.error x) t
theorem loopA (hs : ∀ y, foldedSetIterable i1 en y = pure y) (I : Nat → Shared → Prop)
    (turn : ∀ n s, I n s → wpAny (model P w) A (pyNext z) (fun r s1 => match r with
      | none => R (.ok .next) s1
      | some u => wpAny (model P w) A (letOwnedTupleGo t0 z u) (fun _ s2 => wpAny (model P w) A (assign t0 en u) (fun _ s3 => wpAny (model P w) A (eval i1 en) (fun y s4 => wpAny (model P w) A (pyIter y) (fun z1 s5 =>
          codeAny (model P w) A (.compStart (dc2 k v t0 i0 t1 i1 sc p) 1 z1 acc en) (fun r t => match r with
            | .ok _ => ∃ m, m < n ∧ I m t
            | .error _ => False) s5) (NE P w A en R) s4) (NE P w A en R) s3) (NE P w A en R) s2) (NE P w A en R) s1) (NE P w A en R) s)
    (n : Nat) (h : I n s) : codeAny (model P w) A (.compLoop (dc2 k v t0 i0 t1 i1 sc p) 0 z acc en) R s := by
  refine codeAny_loop rfl I (fun n s hI => ?_) n h
  show wpAny _ A ((compTurn (dc2 k v t0 i0 t1 i1 sc p) 0 z acc en).onRaise (fun x => do noteFrame x en; theTreesLotGoes x)) _ _ s
  apply wpAny_noted
  rw [turnA]
  refine wpAny_bind (wpAny_standAt (wpAny_bind (wpAny_mono (turn n s hI) (fun r s1 h1 => ?_) fun _ _ q => q)))
  cases r with
  | none => exact wpAny_pure h1
  | some u =>
    refine wpAny_bind (wpAny_mono h1 (fun _ s2 h2 => wpAny_bind (wpAny_mono h2 (fun _ s3 h3 => wpAny_bind (wpAny_tests_nil ?_)) fun _ _ q => q)) fun _ _ q => q)
    refine wpAny_bind (wpAny_mono h3 (fun y s4 h4 => wpAny_bind (wpAny_standAt (wpAny_bind (wpAny_of_eq (hs y) (wpAny_bind (wpAny_holding (wpAny_mono h4 (fun z1 s5 h5 => ?_) fun _ _ q => q))))))) fun _ _ q => q)
    refine wpAny_bind (wpAny_runOwn ?_)
    rw [Around.mark_none]
    refine codeAny_mono h5 fun r t hr => ?_
    cases r with
    | error e => exact hr.elim
    | ok f => first | exact wpAny_pure ⟨rfl, hr⟩ | exact wpAny_bind (wpAny_pure (wpAny_pure ⟨rfl, hr⟩))
theorem loopB {D : Addr} (I : Nat → Shared → Prop)
    (turn : ∀ n s, I n s → wpAny (model P w) A (pyNext z) (fun r s1 => match r with
      | none => R (.ok .next) s1
      | some u => wpAny (model P w) A (letOwnedTupleGo t1 z u) (fun _ s2 => wpAny (model P w) A (assign t1 en u) (fun _ s3 => wpAny (model P w) A (eval k en) (fun a s4 => wpAny (model P w) A (eval v en) (fun b s5 =>
          wpAny (model P w) A (dictSet D a b) (fun _ s6 => ∃ m, m < n ∧ I m s6) (NE P w A en R) s5) (NE P w A en R) s4) (NE P w A en R) s3) (NE P w A en R) s2) (NE P w A en R) s1) (NE P w A en R) s)
    (n : Nat) (h : I n s) : codeAny (model P w) A (.compLoop (dc2 k v t0 i0 t1 i1 sc p) 1 z (.ref D) en) R s := by
  refine codeAny_loop rfl I (fun n s hI => ?_) n h
  show wpAny _ A ((compTurn (dc2 k v t0 i0 t1 i1 sc p) 1 z (.ref D) en).onRaise (fun x => do noteFrame x en; theTreesLotGoes x)) _ _ s
  apply wpAny_noted
  rw [turnB]
  refine wpAny_bind (wpAny_standAt (wpAny_bind (wpAny_mono (turn n s hI) (fun r s1 h1 => ?_) fun _ _ q => q)))
  cases r with
  | none => exact wpAny_pure h1
  | some u =>
    refine wpAny_bind (wpAny_mono h1 (fun _ s2 h2 => wpAny_bind (wpAny_mono h2 (fun _ s3 h3 => wpAny_bind (wpAny_tests_nil ?_)) fun _ _ q => q)) fun _ _ q => q)
    exact wpAny_bind (wpAny_bind (wpAny_mono h3 (fun a s4 h4 => wpAny_bind (wpAny_holding (wpAny_mono h4 (fun b s5 h5 => wpAny_bind (wpAny_standAt (wpAny_holding (wpAny_mono h5 (fun _ s6 h6 => wpAny_pure ⟨rfl, h6⟩) fun _ _ q => q)))) fun _ _ q => q))) fun _ _ q => q))
theorem startB (h0 : codeAny (model P w) A (.compLoop (dc2 k v t0 i0 t1 i1 sc p) 1 z acc en) R s)
    (h : wpAny (model P w) A (pyIter z) (fun z1 t => codeAny (model P w) A (.compLoop (dc2 k v t0 i0 t1 i1 sc p) 1 z1 acc en) R t) (NE P w A en R) s) :
    codeAny (model P w) A (.compStart (dc2 k v t0 i0 t1 i1 sc p) 1 z acc en) R s := by
  apply codeAny_of_tree
  show wpAny _ _ ((compStart (dc2 k v t0 i0 t1 i1 sc p) 1 z acc en).onRaise (fun x => do noteFrame x en; standAt theWindowsPlace)) _ _ s
  apply wpAny_notedAt
  unfold compStart
  show wpAny _ _ (ask >>= _) _ _ s
  apply wpAny_bind
  apply wpAny_askSetting
  apply wpAny_ite
  split
  · first | exact wpAny_bind (wpAny_pure (wpAny_pure ⟨rfl, h0⟩)) | exact wpAny_pure ⟨rfl, h0⟩
  · first
      | exact wpAny_bind (wpAny_rule (wpAny_bind (wpAny_standAt (wpAny_bind (wpAny_mono h (fun z1 t q => wpAny_pure (And.intro rfl q)) fun _ _ q => q)))))
      | (apply wpAny_bind; apply wpAny_rule; show wpAny _ _ (standAt i1.pos >>= _) _ _ s; exact wpAny_bind (wpAny_standAt (wpAny_bind (wpAny_mono h (fun z1 t q => wpAny_pure (And.intro rfl q)) fun _ _ q => q))))
end
section
variable {X : Cx} {pins : List (Addr × Obj)} {σ : L2.St} {H : Hp} {s : Shared}
/-- d[k] = v within a comprehension, k a tuple of ints and texts -/
theorem put_tup {E : Value → Shared → Prop} {D b : Addr} {kvs : List (List L2.Key × V)} {k : List L2.Key} {v : V} {r : Value} {Q : Unit → Shared → Prop} (hu : X.A.units + 1 < cLine) (I : Inv X pins σ H s) (hD : H D = some (.dT kvs)) (hb : H b = some (.tup (k.map kV))) (hz : kvs.length < sizeLine)
    (rv : RelV v r) (h : ∀ t, Inv X pins σ (upd H D (.dT (putK kvs k v))) t → Q () t) : wpAny (model X.prog X.w) X.A (dictSet D (.ref b) r) Q E s := by
  obtain ⟨z, hd, xs, rel, dd⟩ := dt_of I.hok hD
  have hxs : xs.length ≤ sizeLine := (Paired.length rel) ▸ z
  refine wpAny_dictSet_heap (hsz := hxs) (show (tupleKind (mixKind X.prog X.w)).room X.A from by show X.A.units < cLine; omega) (key_of I.hok hb) dd fun h' dd' hs => h _ ?_
  obtain ⟨q, es, ep, hq, p2, p3, p4, _, p5⟩ := dd'
  refine d_write I (by rw [hD]; trivial) hs ⟨q, hq⟩ ⟨Nat.le_trans (length_putK kvs k v) hz, hd, _, (rel.put k hb rv).keeps fun c ys ec => ?_, q, es, ep, hq, p2, p3, p4, p5⟩
  exact (upd_ne (ne_of ec hD (fun z => nomatch z))).trans ec
end
section
variable {X : Cx} {k v t0 i0 t1 i1 : Expr} {sc : Scope} {own : List (Str × Nat)} {ws : List Nat} {p p' : Pos} {wi wi1 : TI} {g g1 : TG} {tk tv : TE}
/-- {k: v for t0 in i0 for t1 in i1}, keys tuples: D the new dict, vs the block's names, ws the second target's -/
def tD2 (wi : TI) (g : TG) (wi1 : TI) (g1 : TG) (tk tv : TE) (vs ws : List Nat) : TE := fun σ H Q => wi σ H fun J H1 => ∀ D, H1 D = none → ∃ W : Nat → Nat → Hp → Prop, (∃ m, W 0 m (upd H1 D (.dT []))) ∧ ∀ i m H, W i m H →
  (J.stop i H ∧ Q (.ref D) H) ∨ (J.go i H ∧ ∃ N0 : Hp → Prop, (∀ H', N0 H' → ∃ m', m' < m ∧ W (i + 1) m' H') ∧ ∀ x H', J.yld i H x H' → g x (wipe σ vs) H' fun σ2 H2 => wipe σ2 vs = wipe σ vs ∧
    wi1 σ2 H2 fun J1 H4 => ∃ W1 : Nat → Nat → Hp → Prop, (∃ m, W1 0 m H4) ∧ ∀ j l H, W1 j l H →
      (J1.stop j H ∧ N0 H) ∨ (J1.go j H ∧ ∃ N1 : Hp → Prop, (∀ H', N1 H' → ∃ l', l' < l ∧ W1 (j + 1) l' H') ∧ ∀ x H', J1.yld j H x H' → g1 x (wipe σ2 ws) H' fun σ3 H5 => wipe σ3 ws = wipe σ2 ws ∧
        tk σ3 H5 fun y H6 => tv σ3 H6 fun u H7 => ∃ kvs ks b, y = .ref b ∧ H7 b = some (.tup (ks.map kV)) ∧ H7 D = some (.dT kvs) ∧ kvs.length < sizeLine ∧ N1 (upd H7 D (.dT (putK kvs ks u)))))
theorem dc2_ok {pins : List (Addr × Obj)} {s : Shared} {σ : L2.St} {H : Hp} {Q : VK} {use : Option (Value → Sem Unit)} {Z : Value → Shared → Prop} (hu : X.A.units + 1 < cLine)
    (hc : X.calm = true) (hN : X.N.Nodup) (I : Inv X pins σ H s) (hi : PI X t0 i0 wi) (ok : BlkOk X.N X.env.scope sc own) (hw : ∀ i ∈ ws, i ∈ own.map (·.2))
    (hb : ∀ (s : Shared) (H : Hp) (C : Addr) (cl : List (Str × Addr)) (fp : List Addr), let Y := X.blk s H sc (compEnvC sc cl C X.env) fp; PG Y t0 g ∧ PI Y t1 i1 wi1 ∧ PG Y t1 g1 ∧ PE Y k tk ∧ PE Y v tv)
    (hs : ∀ x, foldedSetIterable i0 X.env x = pure x) (hs1 : ∀ env x, foldedSetIterable i1 env x = pure x) (h : tD2 wi g wi1 g1 tk tv (own.map (·.2)) ws σ H Q)
    (fin : ∀ D C t m H', Inv X pins σ H' t → Q (.ref D) H' → t.heap.Ns C m → FpOk X pins H' C → compPost (model X.prog X.w) X.A X.xe use Z (.ref D) C (.ok .next) t) :
    wpAny (model X.prog X.w) X.A (comprehension (dc2 k v t0 i0 t1 i1 sc p) sc X.env p' newDict false (eval i0 X.env) use) Z X.xe s := by
  have free : ∀ y ∈ sc.names, y.2 = .free → ∃ c, X.env.cells.lookup y.1 = some c := fun y hy e => (ok.free y hy e).elim (fun q => I.ok.has _ (.inl q)) fun q => I.ok.has _ (.inr q)
  refine wpAny_comprehension_free (use := use) rfl hs (closure_ok free) ok.kind (fun y hy e => by rw [ok.uniq y hy, e]) (thn (hi.run pins s σ H _ I h) fun _ s1 hx => thn hx fun _ s2 h2 => ?_)
  obtain ⟨it, fp, tn, J, H2, rfl, I2, T, st2, f2, q⟩ := h2
  refine wpAny_newObj_type (newEnv_comp ?_)
  generalize hD : s2.heap.objs.size = D
  obtain ⟨W, ⟨m0, w0⟩, turn⟩ := q D (I2.hok.fresh (Nat.le_of_eq hD))
  generalize hs3 : ({ s2 with heap := s2.heap.push { cls := .type "dict", data := .dict #[] } } : Shared) = s3
  have I3 : Inv X pins σ (upd H2 D (.dT [])) s3 := by
    subst hs3 hD
    exact I2.laid (t' := s2.toks) (fun _ _ e => Heap.get?_push_of_some _ e) (Nat.le_refl _) (dt_empty s2.heap I2.big)
  have h3 : s3.heap = s2.heap.push { cls := .type "dict", data := .dict #[] } := by rw [← hs3]
  have old : ∀ b ∈ fp, b < s2.heap.objs.size := fun b hb => Heap.lt_size (T.obj _ _ st2 b hb).choose_spec.1
  have f3 : ∀ b ∈ fp, FpOk X pins (upd H2 D (.dT [])) b ∧ b < s3.heap.objs.size := fun b hb => by
    refine ⟨⟨(upd_ne (Nat.ne_of_lt (hD ▸ old b hb))).trans (f2 b hb).1, (f2 b hb).2⟩, ?_⟩
    rw [h3, Heap.size_push]
    exact Nat.lt_succ_of_lt (old b hb)
  have st3 : tn 0 s3.heap := T.keep _ _ _ st2 fun b _ o e => by
    rw [h3]
    exact Heap.get?_push_of_some _ e
  have I4 := block_start I3 ok hN f3
  obtain ⟨pg, pi1, pg1, pk, pv⟩ := hb s3 (upd H2 D (.dT [])) s3.heap.objs.size (cellsFrom (s3.heap.objs.size + 1) sc.names (cloFrom X.env.cells sc.names [])) fp
  show codeAny _ _ (.compStart (dc2 k v t0 i0 t1 i1 sc p) 0 (.ref it) (.ref D) (compEnvC sc (cellsFrom (s3.heap.objs.size + 1) sc.names (cloFrom X.env.cells sc.names [])) s3.heap.objs.size X.env)) (compPost (model X.prog X.w) X.A X.xe use Z (.ref D) s3.heap.objs.size) { s3 with heap := pushCells (s3.heap.push { cls := .type "dict", data := .dict #[] }) sc.names }
  have none0 : ∀ b ∈ fp, (upd H2 D (.dT [])) b = none := fun b hb => (f3 b hb).1.1
  generalize hce : compEnvC sc (cellsFrom (s3.heap.objs.size + 1) sc.names (cloFrom X.env.cells sc.names [])) s3.heap.objs.size X.env = ce at I4 pg pi1 pg1 pk pv ⊢
  have locC : ce.locals = s3.heap.objs.size := by
    subst hce
    rfl
  generalize hH3 : upd H2 D (.dT []) = H3 at I3 I4 pg pi1 pg1 pk pv w0 none0 f3
  generalize hs4 : ({ s3 with heap := pushCells (s3.heap.push { cls := .type "dict", data := .dict #[] }) sc.names } : Shared) = s4 at I4 ⊢
  have st4 : tn 0 s4.heap := T.keep _ _ _ st3 fun b _ o e => by
    rw [← hs4]
    exact pushCells_keeps _ _ _ _ (Heap.get?_push_of_some _ e)
  let Y : Cx := X.blk s3 H3 sc ce fp
  have fpok : ∀ {σ' : L2.St} {H' : Hp} {t : Shared}, Inv Y [] σ' H' t → (∀ b ∈ fp, H' b = none) → ∀ b ∈ fp, FpOk Y [] H' b := fun {σ' H' t} J' hn b hb =>
    ⟨hn b hb, (J'.ok.exf b hb).1, J'.ok.exfs b hb, .inl hb, fun x c e => (J'.ok.exf b hb).2 x c e, fun r hr => absurd (show r ∈ ([] : List (Addr × Obj)) ++ [] from hr) (by simp)⟩
  let vs := own.map (·.2)
  let At : Nat → Shared → Prop := fun n t => ∃ i H', Inv Y [] (wipe σ vs) H' t ∧ tn i t.heap ∧ (∀ b ∈ fp, H' b = none) ∧ W i n H'
  have loop : codeAny (model X.prog X.w) X.A (.compLoop (dc2 k v t0 i0 t1 i1 sc p) 0 (.ref it) (.ref D) ce) (compPost (model X.prog X.w) X.A X.xe use Z (.ref D) s3.heap.objs.size) s4 := by
    refine loopA (hs1 ce) At ?_ m0 ⟨0, H3, I4, st4, none0, w0⟩
    rintro n s5 ⟨i, H5, I5, st5, n5, w5⟩
    rcases turn i n H5 w5 with ⟨stop, qq⟩ | ⟨go, N0, hN0, step⟩
    · refine thnF (T.done Y rfl rfl rfl hc i [] s5 _ H5 (fun _ _ => False) I5 (fpok I5 n5) st5 stop) fun r s6 ⟨hr, I6⟩ => ?_
      subst hr
      have I7 : Inv X pins σ H5 s6 := I3.call' (ch := fp) I6.os I6.base I6.hok I6.bare fun b hb => let z := (f3 b hb).1.2; ⟨z.2.2.1, z.1, z.2.2.2.1, z.2.2.2.2⟩
      have nC : H5 s3.heap.objs.size = none := locC ▸ I6.free
      obtain ⟨m, hn, _⟩ := I6.loc
      have hn' : s6.heap.Ns s3.heap.objs.size m := locC ▸ (show s6.heap.Ns ce.locals m from hn)
      exact fin D s3.heap.objs.size s6 m H5 I7 qq hn' (I3.fpOk (Nat.le_refl _) nC)
    · refine thnF (T.item Y rfl rfl rfl hc i [] s5 _ H5 (fun _ _ => False) I5 (fpok I5 n5) st5 go) fun r s6 ⟨u, hr, h6⟩ => ?_
      subst hr
      refine thnF h6 fun _ s7 ⟨x, H7, I7, r7, y7, st7, n7⟩ => ?_
      refine thnF (pg.run _ s7 _ H7 x u _ (I7.pinned (fpok I7 n7) (T.obj _ _ st7)) r7 (step x H7 y7)) fun _ s8 ⟨σ8, H8, I8, hw8, q8⟩ => ?_
      have e8 : (wipe σ vs).length = σ8.length := by
        rw [← wipe_length σ8 vs]
        exact congrArg List.length hw8.symm
      have k8 : ∀ (j : Nat) c, (wipe σ vs)[j]? = some (some c) → (wipe σ8 ws)[j]? = some (some c) := fun j c e => by
        obtain ⟨a1, a2⟩ := wipe_some (hw8.symm ▸ e)
        exact (wipe_out fun z => a2 (hw j z)).trans a1
      -- a turn of the first clause is over
      have over : ∀ {t : Shared} {H' : Hp}, Inv Y ([] ++ pinsAt fp s7.heap) (wipe σ8 ws) H' t → N0 H' → ∃ m, m < n ∧ At m t := fun {t H'} J' nx => by
        obtain ⟨m', hm, w'⟩ := hN0 H' nx
        have stay : ∀ b ∈ fp, ∀ o, s7.heap.get? b = some o → t.heap.get? b = some o ∧ H' b = none := fun b hb o e =>
          have z := J'.pin (b, o) (List.mem_append_right _ (List.mem_append_right _ (mem_pinsAt hb e)))
          ⟨z.1, z.2.1⟩
        refine ⟨m', hm, i + 1, H', (J'.unpinned (pins := [])).weak (e8.trans (wipe_length σ8 ws).symm) k8, T.keep _ _ _ st7 fun b hb o e => (stay b hb o e).1, fun b hb => ?_, w'⟩
        exact (stay b hb _ (T.obj _ _ st7 b hb).choose_spec.1).2
      refine thnF (pi1.run _ s8 σ8 H8 _ I8 q8) fun _ s10 hx => thnF hx fun _ s11 h11 => ?_
      obtain ⟨it1, fp1, tn1, J1, H11, rfl, I11, T1, st11, f11, W1, ⟨m1, w1⟩, turn1⟩ := h11
      have fpok1 : ∀ {H' : Hp}, (∀ b ∈ fp1, H' b = none) → ∀ b ∈ fp1, FpOk Y ([] ++ pinsAt fp s7.heap) H' b := fun hn b hb => ⟨hn b hb, (f11 b hb).2⟩
      let At1 : Nat → Shared → Prop := fun l t => ∃ j H', Inv Y ([] ++ pinsAt fp s7.heap) (wipe σ8 ws) H' t ∧ tn1 j t.heap ∧ (∀ b ∈ fp1, H' b = none) ∧ W1 j l H'
      have loop1 : codeAny (model X.prog X.w) X.A (.compLoop (dc2 k v t0 i0 t1 i1 sc p) 1 (.ref it1) (.ref D) ce) (fun r t => match r with
          | .ok _ => ∃ m, m < n ∧ At m t
          | .error _ => False) s11 := by
        refine loopB At1 ?_ m1 ⟨0, H11, I11.weak (wipe_length _ _) (fun j c e => (wipe_some e).1), st11, fun b hb => (f11 b hb).1, w1⟩
        rintro l s12 ⟨j, H12, I12, st12, n12, w12⟩
        rcases turn1 j l H12 w12 with ⟨stop1, nx1⟩ | ⟨go1, N1, hN1, step1⟩
        · refine thnF (T1.done Y rfl rfl rfl hc j _ s12 _ H12 (fun _ _ => False) I12 (fpok1 n12) st12 stop1) fun r s13 ⟨hr, I13⟩ => ?_
          subst hr
          exact over I13 nx1
        · refine thnF (T1.item Y rfl rfl rfl hc j _ s12 _ H12 (fun _ _ => False) I12 (fpok1 n12) st12 go1) fun r s13 ⟨u1, hr, h13⟩ => ?_
          subst hr
          refine thnF h13 fun _ s14 ⟨x1, H14, I14, r14, y14, st14, n14⟩ => ?_
          refine thnF (pg1.run _ s14 _ H14 x1 u1 _ (I14.pinned (fpok1 n14) (T1.obj _ _ st14)) r14 (step1 x1 H14 y14)) fun _ s15 ⟨σ15, H15, I15, hw15, q15⟩ => ?_
          refine thnF (pk.run _ s15 σ15 H15 _ I15 q15) fun a s16 ⟨y16, H16, I16, r16, q16⟩ => thnF (pv.run _ s16 σ15 H16 _ I16 q16) fun c s17 ⟨y17, H17, I17, r17, kvs, ks, b, ey, hbk, hD17, hz17, nx⟩ => ?_
          subst ey
          obtain rfl : a = Value.ref b := r16
          refine put_tup (X := Y) hu I17 hD17 hbk hz17 r17 fun t J' => ?_
          obtain ⟨m', hm, w'⟩ := hN1 _ nx
          have stay : ∀ b ∈ fp1, ∀ o, s14.heap.get? b = some o → t.heap.get? b = some o ∧ (upd H17 D (.dT (putK kvs ks y17))) b = none := fun b hb o e =>
            have z := J'.pin (b, o) (List.mem_append_right _ (List.mem_append_right _ (mem_pinsAt hb e)))
            ⟨z.1, z.2.1⟩
          have e15 : (wipe σ8 ws).length = σ15.length := by
            rw [← wipe_length σ15 ws]
            exact congrArg List.length hw15.symm
          refine ⟨m', hm, j + 1, _, J'.unpinned.weak e15 (fun j c e => (wipe_some (hw15.symm ▸ e)).1), T1.keep _ _ _ st14 fun b hb o e => (stay b hb o e).1, fun b hb => ?_, w'⟩
          exact (stay b hb _ (T1.obj _ _ st14 b hb).choose_spec.1).2
      exact startB loop1 (T1.self X.A 0 _ _ _ st11 loop1)
  exact codeAny_compStart_dict loop (T.self X.A 0 _ _ _ st4 loop)
theorem pe_dc2 (hu : X.A.units + 1 < cLine) (hc : X.calm = true) (hN : X.N.Nodup) (hi : PI X t0 i0 wi) (ok : BlkOk X.N X.env.scope sc own) (hw : ∀ i ∈ ws, i ∈ own.map (·.2))
    (hb : ∀ (s : Shared) (H : Hp) (C : Addr) (cl : List (Str × Addr)) (fp : List Addr), let Y := X.blk s H sc (compEnvC sc cl C X.env) fp; PG Y t0 g ∧ PI Y t1 i1 wi1 ∧ PG Y t1 g1 ∧ PE Y k tk ∧ PE Y v tv)
    (hs : ∀ x, foldedSetIterable i0 X.env x = pure x := by intro _; rfl) (hs1 : ∀ env x, foldedSetIterable i1 env x = pure x := by intro _ _; rfl) : PE X (dc2 k v t0 i0 t1 i1 sc p) (tD2 wi g wi1 g1 tk tv (own.map (·.2)) ws) := by
  refine ⟨fun pins s σ H Q I h => ?_⟩
  rw [arm_eval_DictComp]
  refine dc2_ok hu hc hN I hi ok hw hb hs hs1 h fun D C t m H' I' q hn f => ⟨m, hn, fun h2 sb => ?_⟩
  obtain ⟨f0, f1, f2, f3, f4, f5⟩ := f
  exact ⟨.ref D, H', I'.turned (t' := t.toks) (fun b o hb e => (sb.2 b hb).trans e) f0 f1 f3 f4 f5, rfl, q⟩
end
end DL

/-! DL17: a dict of new lists, its keys tuples; the def kinds. -/
namespace DL
open PySem PySem.Spec PyProof.Rows L2

/-! ### an address that is neither data nor a list of the frame's own -/
structure Apart (F H : Hp) (σ : L2.St) (env : Env) (a : Addr) (o : HO) : Prop where
  f : F a = none
  h : H a = some o
  no : ¬ OwnA σ env a
  nt : ∀ xs, o ≠ .tup xs
section
variable {F H F' H' F0 H0 : Hp} {σ σ' : L2.St} {env env' : Env} {a b : Addr} {o q : HO} {O0 : Ow}
theorem Apart.along (p : Apart F H σ env a o) (g : Go F H (OwA σ env) F' H' (OwA σ' env')) : Apart F' H' σ' env' a o := by
  refine ⟨?_, g.frame _ _ p.no p.h, fun z => ?_, p.nt⟩
  · cases e : F' a with
    | none => rfl
    | some o =>
      rcases g.fresh a (by rw [e]; simp) with z | z | z
      · exact absurd p.f z
      · exact (z.no p.h p.nt).elim
      · exact absurd z p.no
  · rcases g.own a z with e | e
    · exact p.no e
    · rw [p.h] at e; cases e
theorem Apart.frame (p : Apart F H σ env a o) (l : OwLe (OwA σ' env') (OwA σ env)) : Apart F H σ' env' a o := ⟨p.f, p.h, fun z => p.no (l.1 _ z), p.nt⟩
theorem Apart.put (p : Apart F H σ env a o) (n : a ≠ b) : Apart F (upd H b q) σ env a o := ⟨p.f, (upd_ne n).trans p.h, p.no, p.nt⟩
theorem Apart.at (p : Apart F H σ env a o) (nt : ∀ xs, q ≠ .tup xs) : Apart F (upd H a q) σ env a q := ⟨p.f, upd_same, p.no, nt⟩
theorem Rep.put (rep : Rep F H σ env) (p : Apart F H σ env a o) : Rep F (upd H a q) σ env := by
  refine ⟨fun b x e => ?_, rep.len, rep.dat, rep.ob, fun j c ds hj => ?_, rep.ne⟩
  · rw [upd_ne (ne_of_none e p.f)]
    exact rep.sub b x e
  · obtain ⟨c1, ws, z1, z2, z3, z4⟩ := rep.own j c ds hj
    refine ⟨c1, ws, z1, z2, ?_, z4⟩
    rw [upd_ne (fun z => p.no (by subst z; exact ⟨j, c, ds, hj, z1⟩))]
    exact z3
theorem Go.put (g : Go F0 H0 O0 F H (OwA σ env)) (n : H0 a = none) : Go F0 H0 O0 F (upd H a q) (OwA σ env) := by
  refine ⟨g.fz, fun b x m e => ?_, fun b e => ?_, g.fresh, g.own, g.bor⟩
  · rw [upd_ne (ne_of_none e n)]
    exact g.frame b x m e
  · by_cases hb : b = a
    · rw [hb]; exact n
    · rw [upd_ne hb] at e
      exact g.dom b e
end

/-! ### keys -/
theorem hd_keys {F : Hp} : ∀ {ds : List PyData} {vs : List V} {ks : List L2.Key}, HDs F vs ds → keysOf ds = some ks → vs = ks.map kV
  | [], _, _, .nil, e => by cases e; rfl
  | d :: ds, _, ks, .cons h hs, e => by
    simp only [keysOf, Option.bind_eq_some_iff, Option.map_eq_some_iff] at e
    obtain ⟨k, e1, ks', e2, rfl⟩ := e
    rw [hd_keys hs e2]
    cases h <;> cases e1 <;> rfl
theorem hd_key {F : Hp} {v : V} {d : PyData} {k : List L2.Key} (h : HD F v d) (e : keyOfD d = some k) : ∃ b, v = .ref b ∧ F b = some (.tup (k.map kV)) := by
  cases h with
  | tup hp hs =>
    have z := hd_keys hs e
    subst z
    exact ⟨_, rfl, hp⟩
  | _ => cases e

/-! ### {k: [] for .. for ..} by data: the keys, all new -/
def dcB (ws : List Nat) (g1 : FG) (fk : FE) : List PyData → Env → List (List L2.Key) → Option (List (List L2.Key) × Env)
  | [], env, acc => some (acc, env)
  | d :: ds, env, acc => (g1 d env).bind fun e1 => (fk e1).bind fun q => match q.1 with
    | .dat y => (keyOfD y).bind fun k => if (decide (acc.length < 64) && !acc.any fun x => decide (x = k)) = true then dcB ws g1 fk ds (kill q.2 ws) (acc ++ [k]) else none
    | _ => none
def dcA (vs ws : List Nat) (g : FG) (it1 : FI) (g1 : FG) (fk : FE) : List PyData → Env → List (List L2.Key) → Option (List (List L2.Key) × Env)
  | [], env, acc => some (acc, env)
  | d :: ds, env, acc => (g d env).bind fun e1 => (it1 e1).bind fun p => (dcB ws g1 fk p.1 (kill p.2 ws) acc).bind fun q => dcA vs ws g it1 g1 fk ds (kill q.2 vs) q.1
def dcF (vs ws : List Nat) (it : FI) (g : FG) (it1 : FI) (g1 : FG) (fk : FE) : Env → Option (List (List L2.Key) × Env) := fun env =>
  (it env).bind fun p => (dcA vs ws g it1 g1 fk p.1 (kill p.2 vs) []).map fun q => (q.1, back p.2 q.2 vs)

/-- a dict at D whose values are lists of their own, their items ints -/
structure KI (F0 H0 : Hp) (O0 : Ow) (D : Addr) (F H : Hp) (σ : L2.St) (env : Env) (ks : List (List L2.Key)) (as : List Addr) (L : List (List Int)) : Prop where
  rep : Rep F H σ env
  go : Go F0 H0 O0 F H (OwA σ env)
  d : Apart F H σ env D (.dT (ks.zip (as.map V.ref)))
  d0 : H0 D = none
  la : as.length = ks.length
  ll : L.length = ks.length
  l : ∀ (i : Nat) a ns, as[i]? = some a → L[i]? = some ns → Apart F H σ env a (.lst (ns.map V.int)) ∧ H0 a = none
  ne : ∀ a ∈ as, a ≠ D
  nd : as.Nodup
section
variable {F0 H0 F H F' H' : Hp} {O0 : Ow} {D : Addr} {σ σ' : L2.St} {env env' : Env} {ks : List (List L2.Key)} {as : List Addr} {L : List (List Int)}
theorem KI.along (k : KI F0 H0 O0 D F H σ env ks as L) (g : Go F H (OwA σ env) F' H' (OwA σ' env')) (rep : Rep F' H' σ' env') : KI F0 H0 O0 D F' H' σ' env' ks as L :=
  ⟨rep, k.go.trans g, k.d.along g, k.d0, k.la, k.ll, fun i a ns h1 h2 => ⟨(k.l i a ns h1 h2).1.along g, (k.l i a ns h1 h2).2⟩, k.ne, k.nd⟩
theorem KI.ext (k : KI F0 H0 O0 D F H σ env ks as L) (e : Ext F H F' H') : KI F0 H0 O0 D F' H' σ env ks as L := k.along (.of_ext e) (k.rep.ext e)
theorem KI.frame (k : KI F0 H0 O0 D F H σ env ks as L) (rep : Rep F H σ' env') (o : OwLe (OwA σ' env') (OwA σ env)) : KI F0 H0 O0 D F H σ' env' ks as L :=
  ⟨rep, k.go.sub_own o, k.d.frame o, k.d0, k.la, k.ll, fun i a ns h1 h2 => ⟨(k.l i a ns h1 h2).1.frame o, (k.l i a ns h1 h2).2⟩, k.ne, k.nd⟩
/-- a new key, its list at p -/
theorem KI.push (k : KI F0 H0 O0 D F H σ env ks as L) {p : Addr} (hp : Apart F H σ env p (.lst [])) (h0 : H0 p = none) (hD : p ≠ D) (hn : p ∉ as) (key : List L2.Key) :
    KI F0 H0 O0 D F (upd H D (.dT ((ks ++ [key]).zip ((as ++ [p]).map V.ref)))) σ env (ks ++ [key]) (as ++ [p]) (L ++ [[]]) := by
  refine ⟨k.rep.put k.d, k.go.put k.d0, k.d.at (fun _ e => nomatch e), k.d0, by simp [k.la], by simp [k.ll], fun i a ns h1 h2 => ?_, fun a ha => ?_, ?_⟩
  · by_cases hi : i < as.length
    · rw [List.getElem?_append_left hi] at h1
      rw [List.getElem?_append_left (by rw [k.ll, ← k.la]; exact hi)] at h2
      obtain ⟨q1, q2⟩ := k.l i a ns h1 h2
      exact ⟨q1.put (k.ne a (List.mem_of_getElem? h1)), q2⟩
    · rw [List.getElem?_append_right (by omega)] at h1
      rw [List.getElem?_append_right (by rw [k.ll, ← k.la]; omega)] at h2
      rw [show L.length = as.length by rw [k.ll, k.la]] at h2
      cases hz : i - as.length with
      | zero =>
        rw [hz] at h1 h2
        cases h1
        cases h2
        exact ⟨hp.put hD, h0⟩
      | succ m =>
        rw [hz] at h1
        simp at h1
  · rcases List.mem_append.mp ha with h | h
    · exact k.ne a h
    · rw [List.mem_singleton.mp h]
      exact hD
  · rw [List.nodup_append]
    exact ⟨k.nd, by simp, fun a ha b hb e => hn (by rw [List.mem_singleton.mp hb] at e; exact e ▸ ha)⟩
/-- one list gets an item more -/
theorem KI.app (k : KI F0 H0 O0 D F H σ env ks as L) {j : Nat} {a : Addr} {ns : List Int} (ha : as[j]? = some a) (hl : L[j]? = some ns) (n : Int) :
    KI F0 H0 O0 D F (upd H a (.lst ((ns ++ [n]).map V.int))) σ env ks as (L.set j (ns ++ [n])) := by
  obtain ⟨q1, q2⟩ := k.l j a ns ha hl
  have hm : a ∈ as := List.mem_of_getElem? ha
  refine ⟨k.rep.put q1, k.go.put q2, k.d.put (fun e => k.ne a hm e.symm), k.d0, k.la, by rw [List.length_set]; exact k.ll, fun i c ms h1 h2 => ?_, k.ne, k.nd⟩
  by_cases hij : i = j
  · subst hij
    rw [ha] at h1
    cases h1
    rw [List.getElem?_set_self (List.getElem?_eq_some_iff.mp hl).1] at h2
    cases h2
    exact ⟨q1.at (fun _ e => nomatch e), q2⟩
  · rw [List.getElem?_set_ne (fun z => hij z.symm)] at h2
    obtain ⟨p1, p2⟩ := k.l i c ms h1 h2
    refine ⟨p1.put fun e => ?_, p2⟩
    subst e
    have i1 := (List.getElem?_eq_some_iff.mp h1)
    have i2 := (List.getElem?_eq_some_iff.mp ha)
    obtain ⟨l1, v1⟩ := i1
    obtain ⟨l2, v2⟩ := i2
    rcases Nat.lt_or_gt_of_ne hij with z | z
    · exact List.pairwise_iff_getElem.mp k.nd i j l1 l2 z (v1.trans v2.symm)
    · exact List.pairwise_iff_getElem.mp k.nd j i l2 l1 z (v2.trans v1.symm)
theorem keys_val : ∀ {ks : List (List L2.Key)} {as : List Addr} {key : List L2.Key}, as.length = ks.length → key ∉ ks → valV (ks.zip (as.map V.ref)) key = none
  | [], _, _, _, _ => by rfl
  | k :: ks, [], _, h, _ => by cases h
  | k :: ks, a :: as, key, h, n => by
    rw [List.map_cons, List.zip_cons_cons, valV_neg (p := (k, V.ref a)) (fun e => n (by rw [← e]; exact List.mem_cons_self))]
    exact keys_val (by simpa using h) fun z => n (List.mem_cons_of_mem _ z)
theorem keys_at : ∀ {ks : List (List L2.Key)} {as : List Addr} {j : Nat} {key : List L2.Key}, as.length = ks.length → ks.Nodup → ks[j]? = some key → ∃ a, as[j]? = some a ∧ valV (ks.zip (as.map V.ref)) key = some (.ref a)
  | [], _, j, _, _, _, e => by simp at e
  | k :: ks, [], _, _, h, _, _ => by cases h
  | k :: ks, a :: as, 0, key, h, n, e => by
    cases e
    exact ⟨a, rfl, by rw [List.map_cons, List.zip_cons_cons]; exact valV_pos (p := (k, V.ref a)) rfl⟩
  | k :: ks, a :: as, j + 1, key, h, n, e => by
    rw [List.nodup_cons] at n
    have e' : ks[j]? = some key := by simpa using e
    obtain ⟨a', h1, h2⟩ := keys_at (by simpa using h) n.2 e'
    refine ⟨a', by simpa using h1, ?_⟩
    rw [List.map_cons, List.zip_cons_cons, valV_neg (p := (k, V.ref a)) (fun z => n.1 (by show k ∈ ks; rw [show k = key from z]; exact List.mem_of_getElem? e'))]
    exact h2
end
/-- a new dict of new lists -/
def tDC (f : Env → Option (List (List L2.Key) × Env)) : TE := fun σ H Q => ∃ F env ks env', Rep F H σ env ∧ f env = some (ks, env') ∧
  ∀ D F' H' as, KI F H (OwA σ env) D F' H' σ env' ks as (List.replicate ks.length []) → Q (.ref D) H'
theorem zip_snoc {ks : List (List L2.Key)} {as : List Addr} (h : as.length = ks.length) (k : List L2.Key) (p : Addr) : (ks ++ [k]).zip ((as ++ [p]).map V.ref) = ks.zip (as.map V.ref) ++ [(k, V.ref p)] := by
  rw [List.map_append, List.zip_append (by simp [h])]
  rfl
theorem lst_new {σ : L2.St} {F H : Hp} {env : Env} {v : V} {H0 : Hp} (h : RsOk F H H0 σ env v (.new [])) : ∃ p, v = .ref p ∧ H0 p = none ∧ Apart F H σ env p (.lst []) := by
  cases h with
  | new e h0 h1 h2 hs h3 =>
    cases hs
    exact ⟨_, e, h0, h1, h2, h3, fun _ e => nomatch e⟩
theorem rep_snoc {α : Type} (n : Nat) (x : α) : List.replicate n x ++ [x] = List.replicate (n + 1) x := (List.replicate_succ' (n := n) (a := x)).symm
section
variable {X : Cx} {vs ws us us1 : List Nat} {it it1 : FI} {g g1 : FG} {fk : FE}
theorem dc_imp (hu : ∀ j ∈ us, j ∈ vs) (hu1 : ∀ j ∈ us1, j ∈ ws) (hv : ∀ j ∈ ws, j ∈ vs) (σ : L2.St) (H : Hp) (Q : VK) (h : tDC (dcF vs ws it g it1 g1 fk) σ H Q) : tD2 (tDI it) (tG us g) (tDI it1) (tG us1 g1) (tD fk) (tD (fLst faNil)) vs ws σ H Q := by
  obtain ⟨F, env, ks, env', rep, e, kq⟩ := h
  simp only [dcF, Option.bind_eq_some_iff, Option.map_eq_some_iff] at e
  obtain ⟨⟨xs, e1⟩, h1, ⟨acc, en⟩, h2, h3⟩ := e
  cases h3
  refine ⟨F, env, xs, e1, rep, h1, fun J F' H' g' rep' wk => fun D hD => ?_⟩
  obtain ⟨repw, ow⟩ := rep'.wipe (vs := vs)
  have fD : F' D = none := rep'.sub.free hD
  let Z : L2.St → Env → Hp → Hp → List (List L2.Key) → List Addr → Prop := fun σ' en' Fi Hi ks as => KI F H (OwA σ env) D Fi Hi σ' en' ks as (List.replicate ks.length []) ∧ Same F' Fi
  have ex0 : Ext F' H' F' (upd H' D (.dT [])) := ⟨.refl _, rep'.sub.trans (same_new hD), same_new hD, fun _ z => .inl z⟩
  have z0 : Z (L2.wipe σ vs) (kill e1 vs) F' (upd H' D (.dT [])) [] [] := ⟨⟨repw.ext ex0, (g'.sub_own ow).trans (.of_ext ex0), ⟨fD, upd_same, (fun ⟨j, c, ds, q1, q2⟩ => by
    obtain ⟨a, us, w1, w2, w3, w4⟩ := repw.own j c ds q1
    rw [q2] at w1
    cases w1
    rw [hD] at w3
    cases w3), fun _ e => nomatch e⟩, g'.dom D hD, rfl, rfl, fun i a ns z _ => (by simp at z), fun a z => (by cases z), List.nodup_nil⟩, .refl _⟩
  refine ⟨fun i m Hi => m = xs.length - i ∧ i ≤ xs.length ∧ ∃ Fi ei ai li, Z (L2.wipe σ vs) ei Fi Hi ai li ∧ dcA vs ws g it1 g1 fk (xs.drop i) ei ai = some (acc, en), ⟨xs.length, rfl, Nat.zero_le _, F', kill e1 vs, [], [], z0, h2⟩, ?_⟩
  rintro i m Hi ⟨rfl, hi, Fi, ei, ai, li, zi, hf⟩
  obtain ⟨w1, w2⟩ := wk i Fi Hi zi.2 zi.1.rep.sub
  by_cases hlt : i < xs.length
  · have hx : xs[i]? = some xs[i] := List.getElem?_eq_getElem hlt
    obtain ⟨hgo, hy⟩ := w1 _ hx
    rw [drop_cons hx, dcA] at hf
    simp only [Option.bind_eq_some_iff] at hf
    obtain ⟨e2, q1, ⟨ys, e3⟩, q2, ⟨acc1, e4⟩, q3, q4⟩ := hf
    refine .inr ⟨hgo, fun Hi => ∃ Fi ei li, Z (L2.wipe σ vs) ei Fi Hi acc1 li ∧ dcA vs ws g it1 g1 fk (xs.drop (i + 1)) ei acc1 = some (acc, en), fun Hi ⟨Fi, ei, li, z, q⟩ => ⟨xs.length - (i + 1), by omega, rfl, hlt, Fi, ei, acc1, li, z, q⟩, fun x H2 yy => ?_⟩
    obtain ⟨F2, ex, hd⟩ := hy x H2 yy
    refine ⟨F2, ei, _, e2, zi.1.rep.ext ex, hd, q1, fun σ2 rep2 o2 l2 k2 => ?_⟩
    have w4 : wipe σ2 vs = wipe σ vs := by
      have w5 : wipe σ2 vs = wipe (wipe σ vs) vs := wipe_ext l2 fun j hj => k2 j fun z => hj (hu j z)
      rw [w5, wipe_wipe]
    have z2 : Z σ2 e2 F2 H2 ai li := ⟨(zi.1.ext ex).frame rep2 o2, zi.2.trans ex.fz⟩
    refine ⟨w4, F2, e2, ys, e3, rep2, q2, fun J1 F4 H4 g4 rep4 wk1 => ?_⟩
    have z4 : Z σ2 e3 F4 H4 ai li := ⟨z2.1.along g4 rep4, z2.2.trans g4.fz⟩
    obtain ⟨repw1, ow1⟩ := rep4.wipe (vs := ws)
    have z5 : Z (L2.wipe σ2 ws) (kill e3 ws) F4 H4 ai li := ⟨z4.1.frame repw1 ow1, z4.2⟩
    refine ⟨fun j m Hj => m = ys.length - j ∧ j ≤ ys.length ∧ ∃ Fj ej aj lj, Z (L2.wipe σ2 ws) ej Fj Hj aj lj ∧ Same F4 Fj ∧ dcB ws g1 fk (ys.drop j) ej aj = some (acc1, e4), ⟨ys.length, rfl, Nat.zero_le _, F4, kill e3 ws, ai, li, z5, .refl _, q3⟩, ?_⟩
    rintro j m Hj ⟨rfl, hj, Fj, ej, aj, lj, zj, sj, hfj⟩
    obtain ⟨u1, u2⟩ := wk1 j Fj Hj sj zj.1.rep.sub
    by_cases hlj : j < ys.length
    · have hyj : ys[j]? = some ys[j] := List.getElem?_eq_getElem hlj
      obtain ⟨hgo1, hy1⟩ := u1 _ hyj
      rw [drop_cons hyj, dcB] at hfj
      simp only [Option.bind_eq_some_iff] at hfj
      obtain ⟨f2, p1, ⟨r3, f3⟩, p2, p3⟩ := hfj
      split at p3
      · rename_i r3' y hr3
        simp only at hr3
        subst hr3
        simp only [Option.bind_eq_some_iff] at p3
        obtain ⟨key, p4, p5⟩ := p3
        split at p5
        · rename_i hc
          simp only [Bool.and_eq_true, decide_eq_true_eq, Bool.not_eq_true'] at hc
          obtain ⟨hc1, hc3⟩ := hc
          have hc2 : key ∉ aj := fun z => by
            rw [List.any_eq_true.mpr ⟨key, z, by simp⟩] at hc3
            cases hc3
          refine .inr ⟨hgo1, fun Hj => ∃ Fj ej lj, Z (L2.wipe σ2 ws) ej Fj Hj (aj ++ [key]) lj ∧ Same F4 Fj ∧ dcB ws g1 fk (ys.drop (j + 1)) ej (aj ++ [key]) = some (acc1, e4), fun Hj ⟨Fj, ej, lj, z, s, q⟩ => ⟨ys.length - (j + 1), by omega, rfl, hlj, Fj, ej, _, lj, z, s, q⟩, fun x1 H6 yy1 => ?_⟩
          obtain ⟨F6, ex6, hd6⟩ := hy1 x1 H6 yy1
          refine ⟨F6, ej, _, f2, zj.1.rep.ext ex6, hd6, p1, fun σ7 rep7 o7 l7 k7 => ?_⟩
          have w7 : wipe σ7 ws = wipe σ2 ws := by
            have w8 : wipe σ7 ws = wipe (wipe σ2 ws) ws := wipe_ext l7 fun j hj => k7 j fun z => hj (hu1 j z)
            rw [w8, wipe_wipe]
          have z7 : Z σ7 f2 F6 H6 aj lj := ⟨(zj.1.ext ex6).frame rep7 o7, zj.2.trans ex6.fz⟩
          refine ⟨w7, F6, f2, _, f3, rep7, p2, fun v F8 H8 g8 rep8 ok8 => ?_⟩
          have z8 : Z σ7 f3 F8 H8 aj lj := ⟨z7.1.along g8 rep8, z7.2.trans g8.fz⟩
          have hv8 : HD F8 v y := by
            cases ok8 with
            | dat h => exact h
          obtain ⟨b, rfl, hb⟩ := hd_key hv8 p4
          refine ⟨F8, f3, .new [], f3, rep8, rfl, fun u F9 H9 g9 rep9 ok9 => ?_⟩
          have z9 : Z σ7 f3 F9 H9 aj lj := ⟨z8.1.along g9 rep9, z8.2.trans g9.fz⟩
          obtain ⟨p, rfl, hp0, ap⟩ := lst_new ok9
          have pD : p ≠ D := fun z => by
            have q := z8.1.d.h
            rw [← z, hp0] at q
            cases q
          have pn : p ∉ lj := fun z => by
            obtain ⟨i, hi⟩ := List.getElem?_of_mem z
            have hil : i < aj.length := by
              have := (List.getElem?_eq_some_iff.mp hi).1
              rw [z8.1.la] at this
              exact this
            have q := (z8.1.l i p [] hi (by rw [List.getElem?_replicate, if_pos hil])).1.h
            rw [hp0] at q
            cases q
          have k10 := z9.1.push ap (z8.1.go.dom _ hp0) pD pn key
          rw [rep_snoc] at k10
          refine ⟨aj.zip (lj.map V.ref), key, b, rfl, rep9.sub _ _ (g9.fz _ _ hb), z9.1.d.h, ?_, ?_⟩
          · rw [List.length_zip]
            have : aj.length < sizeLine := Nat.lt_trans hc1 (by decide)
            omega
          · rw [putK_new _ (keys_val z9.1.la hc2), ← zip_snoc z9.1.la]
            have r1 := k10.rep.wipe (vs := ws)
            rw [w7] at r1
            refine ⟨F9, kill f3 ws, lj ++ [p], ⟨?_, z9.2⟩, sj.trans (ex6.fz.trans (g8.fz.trans g9.fz)), p5⟩
            rw [List.length_append]
            exact k10.frame r1.1 r1.2
        · cases p5
      · cases p3
    · have e0 : j = ys.length := by omega
      subst e0
      rw [List.drop_length] at hfj
      cases hfj
      refine .inl ⟨u2 rfl, ?_⟩
      have r1 := zj.1.rep.wipe (vs := vs)
      have w9 : wipe (wipe σ2 ws) vs = wipe σ vs := by
        have w10 : wipe (wipe σ2 ws) vs = wipe σ2 vs := wipe_ext (wipe_length _ _) fun j hj => wipe_get fun z => hj (hv j z)
        rw [w10, w4]
      rw [w9] at r1
      exact ⟨Fj, kill e4 vs, lj, ⟨zj.1.frame r1.1 r1.2, zj.2⟩, q4⟩
  · have e0 : i = xs.length := by omega
    subst e0
    rw [List.drop_length] at hf
    cases hf
    obtain ⟨r1, r2⟩ := rep'.back zi.2 zi.1.rep
    exact .inl ⟨w2 rfl, kq D Fi Hi li (zi.1.frame r1 r2)⟩
end
end DL

/-! DL18: the def kinds; d[k]. -/
namespace DL
open PySem PySem.Spec PyProof.Rows L2
theorem sw_dc {k v : Expr} {gs : List Comprehension} {sc : Scope} {pos py : Pos} {y : Str} {l : Nat} {env : PySem.Env} (hk : env.scope.kind = .function) (hy : env.scope.names.lookup y = some .local) (hl : (py.line == pos.line) = true)
    (ha : (sc.names.any fun (n, k) => n == y && (k == .local || k == .cell)) = false) : swapsWith (.DictComp k v gs sc pos) (some (.Name y py)) l env = pure true := by
  have e1 : env.kindOf y = some .local := hy
  have e2 : env.blockKind = .function := by
    unfold Env.blockKind
    rw [hk]
    rfl
  unfold swapsWith
  simp only [e2, e1, ha, Expr.pos, hl]
  rfl
section
variable {X : Cx} {k v t0 i0 t1 i1 : Expr} {sc : Scope} {own : List (Str × Nat)} {ws : List Nat} {p p' sp : Pos} {wi wi1 : TI} {g g1 : TG} {tk tv : TE}
theorem ps_dc2 {i : Nat} {y : Str} {py : Pos} (hu : X.A.units + 1 < cLine) (hc : X.calm = true) (hN : X.N.Nodup) (hi : PI X t0 i0 wi) (ok : BlkOk X.N X.env.scope sc own) (hw : ∀ i ∈ ws, i ∈ own.map (·.2))
    (hb : ∀ (s : Shared) (H : Hp) (C : Addr) (cl : List (Str × Addr)) (fp : List Addr), let Y := X.blk s H sc (compEnvC sc cl C X.env) fp; PG Y t0 g ∧ PI Y t1 i1 wi1 ∧ PG Y t1 g1 ∧ PE Y k tk ∧ PE Y v tv)
    (hy : X.N[i]? = some y := by rfl) (hyl : X.env.scope.names.lookup y = some .local := by rfl) (hsw : swapsWith (dc2 k v t0 i0 t1 i1 sc p) (some (.Name y py)) sp.line X.env = pure true := by exact sw_dc rfl rfl rfl (by decide +kernel))
    (hs : ∀ x, foldedSetIterable i0 X.env x = pure x := by intro _; rfl) (hs1 : ∀ env x, foldedSetIterable i1 env x = pure x := by intro _ _; rfl) : PS X (.Assign [.Name y py] (dc2 k v t0 i0 t1 i1 sc p) sp) (tAsg (tD2 wi g wi1 g1 tk tv (own.map (·.2)) ws) (gName i)) := by
  refine ⟨fun pins s σ H D I h => ?_⟩
  rw [exec_Assign_Name_used _ _ _ _ hsw]
  refine wpAny_bind (wpAny_standAt (wpAny_bind ?_))
  show wpAny _ X.A (do let _ ← comprehension (dc2 k v t0 i0 t1 i1 sc p) sc X.env (firstIterPos [⟨t0, i0, [], 0⟩, ⟨t1, i1, [], 0⟩] p) newDict false (eval i0 X.env) (some (assign (.Name y py) X.env))) _ _ s
  have h' : tD2 wi g wi1 g1 tk tv (own.map (·.2)) ws σ H (fun x H1 => gName i x σ H1 D.nx) := h
  refine wpAny_bind (thn (dc2_ok (Z := fun _ t => SP X pins D .next t) hu hc hN I hi ok hw hb hs hs1 h' fun L C t m H' I' q hn f => ?_) fun _ t hq => wpAny_pure (wpAny_pure hq))
  show wpAny _ _ (assign (.Name y py) X.env (.ref L)) _ _ _
  refine wpAny_assign_Name (store_ok2 (v := V.ref L) I' hN hy (.inl hyl) rfl (fun t2 I2 ⟨a, sb, ha⟩ => ?_) (.inr hyl))
  obtain ⟨f0, f1, f2, f3, f4, f5⟩ := f
  have aC : C ≠ a := fun e => ha.elim (fun z => f1 (e.trans z)) fun z => f4 y a z e.symm
  exact ⟨m, hn.sameBut sb aC, fun h3 sb3 => ⟨_, H', I2.turned (t' := t2.toks) (fun b o hb e => (sb3.2 b hb).trans e) f0 f1 f3 f4 f5, q⟩⟩
/-- found = {k: [] for .. for ..} -/
theorem ps_dcF {i : Nat} {y : Str} {py : Pos} {us us1 : List Nat} {it it1 : FI} {fg fg1 : FG} {fk : FE} (hu : X.A.units + 1 < cLine) (hc : X.calm = true) (hN : X.N.Nodup) (hi : DI X t0 i0 it) (ok : BlkOk X.N X.env.scope sc own)
    (h1 : ∀ j ∈ us, j ∈ own.map (·.2)) (h2 : ∀ j ∈ us1, j ∈ ws) (hw : ∀ i ∈ ws, i ∈ own.map (·.2))
    (hb : ∀ (s : Shared) (H : Hp) (C : Addr) (cl : List (Str × Addr)) (fp : List Addr), let Y := X.blk s H sc (compEnvC sc cl C X.env) fp; DG Y t0 us fg ∧ DI Y t1 i1 it1 ∧ DG Y t1 us1 fg1 ∧ DE Y k fk ∧ DE Y v (fLst faNil))
    (hy : X.N[i]? = some y := by rfl) (hyl : X.env.scope.names.lookup y = some .local := by rfl) (hsw : swapsWith (dc2 k v t0 i0 t1 i1 sc p) (some (.Name y py)) sp.line X.env = pure true := by exact sw_dc rfl rfl rfl (by decide +kernel))
    (hs : ∀ x, foldedSetIterable i0 X.env x = pure x := by intro _; rfl) (hs1 : ∀ env x, foldedSetIterable i1 env x = pure x := by intro _ _; rfl) : PS X (.Assign [.Name y py] (dc2 k v t0 i0 t1 i1 sc p) sp) (tAsg (tDC (dcF (own.map (·.2)) ws it fg it1 fg1 fk)) (gName i)) :=
  PS.imp (ps_dc2 hu hc hN hi ok hw hb hy hyl hsw hs hs1) fun D σ H h => dc_imp h1 h2 hw σ H _ h
end

/-! ### kinds: found = {..}; for index, (side, pages) in enumerate(parts): found[(side, pages % 2)].append(index); return found -/
def fKey : FE := fTup (faCons (fName 2) (faCons (fBin opMod (fName 5) (fC (.int 2))) faNil))
def gRow : FG := fgTup (fgCons (fgName 4) (fgCons (fgTup (fgCons (fgName 2) (fgCons (fgName 5) fgNil))) fgNil))
def tPush (K : PySem.W.Frag) : TS := tDrop (tBM K "list" rAppend (tDGet (tVar 1) (tD fKey)) (tCons (tD (fName 4)) tNil))
def fKinds : Env → Option (List (List L2.Key) × Env) := dcF [2, 3] [3] (fiSeq (fTup (faCons (fC (.str "right")) (faCons (fC (.str "left")) (faCons (fC (.str "any")) faNil))))) (fgName 2) (fiSeq (fTup (faCons (fC (.int 0)) (faCons (fC (.int 1)) faNil)))) (fgName 3) (fTup (faCons (fName 2) (faCons (fName 3) faNil)))
def tKinds (K : PySem.W.Frag) (us : List Nat) : TS := tSeq (tAsg (tDC fKinds) (gName 1)) (tSeq (tFor (tDI (fiEnum (fName 0))) (tG us gRow) (tPush K)) (tRet (tVar 1)))
theorem idxK_get {k : List L2.Key} : ∀ {l : List (List L2.Key)} {j : Nat}, idxK k l = some j → l[j]? = some k
  | [], _, e => by cases e
  | y :: r, j, e => by
    unfold idxK at e
    split at e
    · rename_i h
      cases e
      rw [h]
      rfl
    · simp only [Option.map_eq_some_iff] at e
      obtain ⟨i, e1, rfl⟩ := e
      have q := idxK_get e1
      simpa using q
theorem hds_lists {F : Hp} : ∀ {as : List Addr} {L : List (List Int)}, as.length = L.length → (∀ (i : Nat) a ns, as[i]? = some a → L[i]? = some ns → F a = some (.lst (ns.map V.int))) → HDs F (as.map V.ref) (L.map intsL)
  | [], [], _, _ => .nil
  | a :: as, ns :: L, h, q => .cons (.lst (q 0 a ns rfl rfl) (HDs.ints ns)) (hds_lists (by simpa using h) fun i b ms h1 h2 => q (i + 1) b ms (by simpa using h1) (by simpa using h2))
theorem HDs.one {F : Hp} {vs : List V} {d : PyData} {ds : List PyData} (h : HDs F vs (d :: ds)) : ∃ v us, vs = v :: us ∧ HD F v d ∧ HDs F us ds := by
  cases h with
  | cons h hs => exact ⟨_, _, rfl, h, hs⟩
abbrev envK (P a b c : Sl) : Env := [P, .dead, a, .dead, b, c]
theorem kinds_start : ∀ P : PyData, fKinds (envK (.dat P) .dead .dead .dead) = some (keys6, envK (.dat P) .dead .dead .dead) := by
  intro P
  kernel_rfl
theorem key_at (P : Sl) (x : Str) (i n : Int) : fKey (envK P (.dat (.str x)) (.dat (.int i)) (.dat (.int n))) = some (.dat (.tuple [.str x, .int (n % 2)]), envK P (.dat (.str x)) (.dat (.int i)) (.dat (.int n))) := by kernel_rfl
theorem row_at (P a b c : Sl) (x : Str) (i n : Int) : gRow (.tuple [.int i, .tuple [.str x, .int n]]) (envK P a b c) = some (envK P (.dat (.str x)) (.dat (.int i)) (.dat (.int n))) := rfl
theorem ix_at (P a c : Sl) (i : Int) : fName 4 (envK P a (.dat (.int i)) c) = some (.dat (.int i), envK P a (.dat (.int i)) c) := rfl
theorem enumD_at : ∀ {ds : List PyData} {n i : Nat} {d : PyData}, ds[i]? = some d → (enumD n ds)[i]? = some (.tuple [.int ((n + i : Nat) : Int), d])
  | [], _, _, _, h => by simp at h
  | y :: r, n, 0, d, h => by cases h; rfl
  | y :: r, n, i + 1, d, h => by
    have q := enumD_at (n := n + 1) (i := i) (ds := r) (d := d) (by simpa using h)
    rw [show n + 1 + i = n + (i + 1) by omega] at q
    exact q
theorem nd6 : keys6.Nodup := by decide +kernel
/-- what kinds hands out -/
theorem kinds_out {F0 H0 F H : Hp} {O0 : Ow} {D : Addr} {σ : L2.St} {env : Env} {as : List Addr} {L : List (List Int)} (s0 : ∀ b, ¬ O0.own b) (k : KI F0 H0 O0 D F H σ env keys6 as L) : ∃ F', Ext F0 H0 F' H ∧ HD F' (.ref D) (dctD keys6 (L.map intsL)) := by
  let F' : Hp := fun b => if b = D ∨ b ∈ as then H b else F b
  have inD : F' D = some (.dT (keys6.zip (as.map V.ref))) := by
    show (if D = D ∨ D ∈ as then H D else F D) = _
    rw [if_pos (.inl rfl)]
    exact k.d.h
  have hL : as.length = L.length := k.la.trans k.ll.symm
  have low : ∀ a, a ∈ as → F a = none ∧ H0 a = none := fun a ha => by
    obtain ⟨i, hi⟩ := List.getElem?_of_mem ha
    have hl : i < L.length := hL ▸ (List.getElem?_eq_some_iff.mp hi).1
    obtain ⟨q1, q2⟩ := k.l i a _ hi (List.getElem?_eq_getElem hl)
    exact ⟨q1.f, q2⟩
  have sF : Same F F' := fun b o e => by
    show (if b = D ∨ b ∈ as then H b else F b) = _
    rw [if_neg]
    · exact e
    · rintro (z | z)
      · rw [z, k.d.f] at e; cases e
      · rw [(low b z).1] at e; cases e
  refine ⟨F', ⟨k.go.fz.trans sF, fun b o e => ?_, fun b o e => k.go.frame b o (s0 b) e, fun b e => ?_⟩, ?_⟩
  · have e' : (if b = D ∨ b ∈ as then H b else F b) = some o := e
    split at e'
    · exact e'
    · exact k.rep.sub b o e'
  · have e' : (if b = D ∨ b ∈ as then H b else F b) ≠ none := e
    split at e'
    · rename_i hz
      rcases hz with z | z
      · exact .inr (.of (z ▸ k.d0))
      · exact .inr (.of (low b z).2)
    · exact (k.go.fresh b e').elim .inl fun z => z.elim .inr fun z => absurd z (s0 b)
  · refine .dct (kvs := keys6.zip (as.map V.ref)) (ds := L.map intsL) inD ?_ ?_
    · rw [List.map_snd_zip (by rw [List.length_map, k.la]; exact Nat.le_refl _)]
      refine hds_lists hL fun i a ns h1 h2 => ?_
      show (if a = D ∨ a ∈ as then H a else F a) = _
      rw [if_pos (.inr (List.mem_of_getElem? h1))]
      exact (k.l i a ns h1 h2).1.h
    · have q : ((keys6.zip (as.map V.ref)).map fun e => PyData.tuple (e.1.map keyD)) = keys6.map fun k => PyData.tuple (k.map keyD) := by
        have q1 : ((keys6.zip (as.map V.ref)).map fun e => PyData.tuple (e.1.map keyD)) = ((keys6.zip (as.map V.ref)).map (·.1)).map fun k => PyData.tuple (k.map keyD) := by rw [List.map_map]; rfl
        rw [q1, List.map_fst_zip (by rw [List.length_map, k.la]; exact Nat.le_refl _)]
      rw [q]
theorem kinds_imp {K : PySem.W.Frag} {us : List Nat} {N : List Str} {vs : List V} {H : Hp} {Q : VK} {E : XK} {D : Ends} (hN : N.length = 6) (hus : 1 ∉ us) (hrt : D.rt = Q) (h : spD 1 kinds_F vs H Q E) : tKinds K us D (L2.start N vs) H := by
  obtain ⟨F, ds, r, sm, hs, hl, e, kr⟩ := h
  match ds, hl, e with
  | [.tuple ps], _, e =>
    simp only [kinds_F, Option.map_eq_some_iff] at e
    obtain ⟨Lf, eL, rfl⟩ := e
    have rep0 : Rep F H (L2.start N vs) (envK (.dat (.tuple ps)) .dead .dead .dead) := by
      have q := rep_start (N := N) sm hs
      rw [hN] at q
      exact q
    have own0 : ∀ b, ¬ OwnA (L2.start N vs) (envK (.dat (.tuple ps)) .dead .dead .dead) b := fun b => by
      have q := own_start (N := N) (vs := vs) (ds := [.tuple ps]) (n := 5) b
      exact q
    refine ⟨F, _, keys6, envK (.dat (.tuple ps)) .dead .dead .dead, rep0, kinds_start _, fun Da F1 H1 as k1 => ?_⟩
    obtain ⟨rep2, o2⟩ := k1.rep.store (i := 1) (v := .ref Da) (s := .dead) (show 1 < 6 by decide) (fun _ z => nomatch z) (fun _ z => nomatch z) (fun _ _ z => nomatch z)
    have k2 := k1.frame rep2 o2
    have hlen : (L2.start N vs).length = 6 := rep0.len.symm
    have at1 : ((L2.start N vs).set 1 (some (V.ref Da)))[1]? = some (some (V.ref Da)) := List.getElem?_set_self (by rw [hlen]; decide)
    refine ⟨F1, envK (.dat (.tuple ps)) .dead .dead .dead, enumD 0 ps, _, k2.rep, rfl, fun J F3 H3 g3 rep3 wk => ?_⟩
    have k3 := k2.along g3 rep3
    refine ⟨fun i m σi Hi => m = ps.length - i ∧ i ≤ ps.length ∧ ∃ Fi a b c L, KI F H (OwA (L2.start N vs) (envK (.dat (.tuple ps)) .dead .dead .dead)) Da Fi Hi σi (envK (.dat (.tuple ps)) a b c) keys6 as L ∧ Same F3 Fi ∧ σi[1]? = some (some (V.ref Da)) ∧ kindsGo i (ps.drop i) L = some Lf,
      ⟨ps.length, rfl, Nat.zero_le _, F3, .dead, .dead, .dead, _, k3, .refl _, at1, eL⟩, ?_⟩
    rintro i m σi Hi ⟨rfl, hi, Fi, a, b, c, L, ki, si, ai, hf⟩
    obtain ⟨w1, w2⟩ := wk i Fi Hi si ki.rep.sub
    by_cases hlt : i < ps.length
    · have hx : ps[i]? = some ps[i] := List.getElem?_eq_getElem hlt
      rw [drop_cons hx] at hf
      have hd : (enumD 0 ps)[i]? = some (.tuple [.int (i : Int), ps[i]]) := by
        have q := enumD_at (n := 0) hx
        rw [Nat.zero_add] at q
        exact q
      obtain ⟨hgo, hy⟩ := w1 _ hd
      unfold kindsGo at hf
      split at hf
      · rename_i x n hp
        simp only [Option.bind_eq_some_iff] at hf
        obtain ⟨j, hj, ns, hns, hf⟩ := hf
        split at hf
        · rename_i hz
          refine .inr ⟨hgo, fun σ' H' => ∃ Fi a b c L, KI F H (OwA (L2.start N vs) (envK (.dat (.tuple ps)) .dead .dead .dead)) Da Fi H' σ' (envK (.dat (.tuple ps)) a b c) keys6 as L ∧ Same F3 Fi ∧ σ'[1]? = some (some (V.ref Da)) ∧ kindsGo (i + 1) (ps.drop (i + 1)) L = some Lf,
            fun σ' H' p' => ⟨ps.length - (i + 1), by omega, rfl, hlt, p'⟩, fun y H4 yy => ?_⟩
          obtain ⟨F4, ex, hd4⟩ := hy y H4 yy
          rw [hp] at hd4
          refine ⟨F4, _, _, envK (.dat (.tuple ps)) (.dat (.str x)) (.dat (.int i)) (.dat (.int n)), ki.rep.ext ex, hd4, row_at _ _ _ _ _ _ _, fun σ5 rep5 o5 l5 q5 => ?_⟩
          have k5 := (ki.ext ex).frame rep5 o5
          have a5 : σ5[1]? = some (some (V.ref Da)) := (q5 1 hus).trans ai
          refine ⟨.ref Da, a5, F4, _, .dat (.tuple [.str x, .int (n % 2)]), _, rep5, key_at _ _ _ _, fun v F6 H6 g6 rep6 ok6 => ?_⟩
          have k6 := k5.along g6 rep6
          have hv : HD F6 v (.tuple [.str x, .int (n % 2)]) := by
            cases ok6 with
            | dat h => exact h
          obtain ⟨kb, rfl, hkb⟩ := hd_key (k := [.inr x, .inl (n % 2)]) hv rfl
          obtain ⟨aj, haj, hval⟩ := keys_at k6.la nd6 (idxK_get hj)
          obtain ⟨ap, a0⟩ := k6.l j aj ns haj hns
          refine ⟨Da, .ref aj, rfl, .inr ⟨_, _, kb, .of k6.d.h, rfl, rep6.sub _ _ hkb, hval.symm⟩, .inl ⟨rfl, _, .of ap.h⟩, F6, _, .dat (.int i), _, rep6, ix_at _ _ _ _, fun w F7 H7 g7 rep7 ok7 => ?_⟩
          have k7 := k6.along g7 rep7
          have hw : w = .int i := by
            cases ok7 with
            | dat h => cases h; rfl
          subst hw
          have ap7 := (k7.l j aj ns haj hns).1
          refine ⟨aj, _, _, rfl, rfl, ap7.h, by rw [List.length_map]; exact Nat.lt_trans hz (by decide), ?_⟩
          have k8 := k7.app haj hns (i : Int)
          rw [List.map_append] at k8
          exact ⟨F7, _, _, _, _, k8, si.trans (ex.fz.trans (g6.fz.trans g7.fz)), a5, hf⟩
        · cases hf
      · cases hf
    · have e0 : i = ps.length := by omega
      subst e0
      rw [List.drop_length] at hf
      cases hf
      refine .inl ⟨w2 (by rw [enumD_length]), .ref Da, ai, ?_⟩
      obtain ⟨F', ex, hd⟩ := kinds_out own0 ki
      rw [hrt]
      exact kr _ F' Hi ex (.dat hd)
end DL
namespace DL
open PySem PySem.Spec PyProof.Rows L2
section
variable {P : Program} {w : World} {K : PySem.W.Frag} {mg : Str → Option Value} {base : Heap}
theorem fn_kinds {x qual : Str} {st : Stmt} {f : Addr} {fd : FuncData} {N ps : List Str} {us : List Nat} {k : Nat} (F : FunD K x qual (defArgs st) (defBody st) (defScope st) [] [] f fd) (S : FnScope N ps (defScope st)) (hN : N.length = 6) (hp : ps.length = 1) (hus : 1 ∉ us)
    (hb : ∀ (cdv : Value) (A : Around) (outer : List PySem.Env) (s : Shared) (H : Hp) (E : XK), Room k (A.deeper (envOfC qual (defScope st) s.heap.objs.size f cdv)) → PSs (cxOf CX0 P w K mg base N qual (defScope st) f cdv A outer s H E).nox (defBody st) (tKinds K us)) :
    FnOk P w K mg base CX0 (k + 1) f fd ps (spD 1 kinds_F) := by
  refine F.ok S (fun vs H Q E h => ?_) (fun cdv A outer s H vs Q E hr h => ⟨tKinds K us, PSs.nox (hb cdv A outer s H E hr), kinds_imp hN hus rfl h⟩)
  obtain ⟨F, ds, r, _, hs, hn, _⟩ := h
  exact hs.length.trans (hn.trans hp.symm)
end
theorem keysOf_D : ∀ ks : List L2.Key, keysOf (ks.map keyD) = some ks
  | [] => rfl
  | k :: ks => by
    rw [List.map_cons, keysOf, keysOf_D ks]
    cases k <;> rfl
theorem hasKey_tup (key k : List L2.Key) (d : PyData) : hasKey key (.tuple (k.map keyD), d) = decide (k = key) := by
  unfold hasKey keyOfD
  simp only [keysOf_D]
theorem dct_val {F : Hp} {key : List L2.Key} {e : PyData × PyData} : ∀ {kvs : List (List L2.Key × V)} {ds : List PyData}, HDs F (kvs.map (·.2)) ds → ((kvs.map fun e => PyData.tuple (e.1.map keyD)).zip ds).find? (hasKey key) = some e → ∃ v, valV kvs key = some v ∧ HD F v e.2
  | [], _, _, h => by cases h
  | (k, v) :: kvs, d :: ds, .cons hv hs, h => by
    rw [List.map_cons, List.zip_cons_cons, List.find?_cons, hasKey_tup] at h
    by_cases hk : k = key
    · rw [decide_eq_true hk] at h
      cases h
      exact ⟨v, valV_pos (p := (k, v)) hk, hv⟩
    · rw [decide_eq_false hk] at h
      obtain ⟨u, h1, h2⟩ := dct_val hs h
      exact ⟨u, by rw [valV_neg (p := (k, v)) hk]; exact h1, h2⟩
theorem obj_no {key : List L2.Key} : ∀ {xs : List Str} {ds : List PyData}, ((xs.map fun x => PyData.str x).zip ds).find? (hasKey key) = none
  | [], _ => rfl
  | _ :: _, [] => rfl
  | x :: xs, d :: ds => by
    rw [List.map_cons, List.zip_cons_cons, List.find?_cons]
    exact obj_no
section
variable {X : Cx} {o i : Expr} {fa fb : FE} {pos : Pos}
theorem dget_imp (σ : L2.St) (H : Hp) (Q : VK) (h : tD (fBin opDGet fa fb) σ H Q) : tDGet (tD fa) (tD fb) σ H Q := by
  obtain ⟨F, env, r, env', rep, e, k⟩ := h
  simp only [fBin, Option.bind_eq_some_iff, Option.map_eq_some_iff] at e
  obtain ⟨⟨r1, e1⟩, h1, ⟨r2, e2⟩, h2, x, hx, y, hy, z, hz, e3⟩ := e
  cases e3
  refine ⟨F, env, r1, e1, rep, h1, fun v F1 H1 g1 rep1 ok1 => ⟨F1, e1, r2, e2, rep1, h2, fun w F2 H2 g2 rep2 ok2 => ?_⟩⟩
  have hvx := (ok1.go g2).view rep2 hx
  have hvy := (ok2.view rep2 hy).hd rep2.sub
  unfold opDGet at hz
  split at hz
  · rename_i m y'
    simp only [Option.bind_eq_some_iff, Option.map_eq_some_iff] at hz
    obtain ⟨key, hk, e, he, ez⟩ := hz
    cases ez
    obtain ⟨b, rfl, hb⟩ := hd_key hvy hk
    cases hvx with
    | dat hd =>
      cases hd with
      | dct ha hs hm =>
        subst hm
        obtain ⟨u, q1, q2⟩ := dct_val hs he
        exact ⟨_, u, rfl, .inr ⟨_, key, b, .of (rep2.sub _ _ ha), rfl, hb, q1.symm⟩, k u F2 H2 (g1.trans g2) rep2 (.dat q2)⟩
      | obj ha hs hm =>
        subst hm
        rename_i fs ds'
        have q : ((fs.map fun e => PyData.str e.1).zip ds').find? (hasKey key) = none := by
          have q := obj_no (key := key) (xs := fs.map (·.1)) (ds := ds')
          rw [List.map_map] at q
          exact q
        have he' : ((fs.map fun e => PyData.str e.1).zip ds').find? (hasKey key) = some e := he
        rw [q] at he'
        cases he'
      | plc a => cases he
  · cases hz
theorem de_dget (hu : X.A.units + 1 < cLine) (ho : DE X o fa) (hi : DE X i fb) (hs : NoSl i) : DE X (.Subscript o i pos) (fBin opDGet fa fb) := PE.imp (pe_dget hu ho hi hs) dget_imp
end
end DL
namespace DL
theorem hu1 {k : Nat} {A : PySem.Around} (r : L2.Room k A) : A.units + 1 < PySem.cLine := by have := r.un; omega
end DL

/-! DL19: sorted() of a list or a tuple of ints. -/
namespace DL
open PySem PySem.Spec PyProof.Rows L2
theorem insI_perm (x : Int) : ∀ l, (insI x l).Perm (x :: l)
  | [] => .refl _
  | y :: r => by
    unfold insI
    split
    · exact (List.Perm.cons y (insI_perm x r)).trans (List.Perm.swap x y r)
    · exact .refl _
theorem sortI_perm : ∀ l, (sortI l).Perm l
  | [] => .refl _
  | x :: r => (insI_perm x (sortI r)).trans (List.Perm.cons x (sortI_perm r))
theorem insI_srt (x : Int) : ∀ l, l.Pairwise (· ≤ ·) → (insI x l).Pairwise (· ≤ ·)
  | [], _ => by simp [insI]
  | y :: r, h => by
    unfold insI
    rw [List.pairwise_cons] at h
    split
    · rename_i hy
      rw [List.pairwise_cons]
      refine ⟨fun z hz => ?_, insI_srt x r h.2⟩
      rcases List.mem_cons.mp ((insI_perm x r).mem_iff.mp hz) with e | e
      · rw [e]; omega
      · exact h.1 z e
    · rename_i hy
      rw [List.pairwise_cons]
      refine ⟨fun z hz => ?_, List.pairwise_cons.mpr h⟩
      rcases List.mem_cons.mp hz with e | e
      · rw [e]; omega
      · have := h.1 z e
        omega
theorem sortI_srt : ∀ l, (sortI l).Pairwise (· ≤ ·)
  | [] => .nil
  | x :: r => insI_srt x _ (sortI_srt r)
theorem sortI_uniq {l m : List Int} (p : m.Perm l) (h : m.Pairwise (· ≤ ·)) : m = sortI l :=
  List.Perm.eq_of_pairwise (fun a b _ _ h1 h2 => Int.le_antisymm h1 h2) h (sortI_srt l) (p.trans (sortI_perm l).symm)
section
variable {P : Program} {w : World} {A : Around} {E : Value → Shared → Prop} {s : Shared}
/-- a list made of a tuple's items -/
theorem take_tup {l : Addr} {vs : List Value} {Q : List Value → Shared → Prop} (hl : IsTup s.heap l vs.toArray) (hz : vs.length ≤ sizeLine)
    (h : Q vs { s with heap := (s.heap.push (seqObj "list" #[] 0)).update s.heap.objs.size (Obj.mapSeq (· ++ vs.toArray)) }) : wpAny (model P w) A (collect (.ref l)) Q E s := by
  obtain ⟨o, ho, hc, n, hd⟩ := hl
  have ho' : (s.heap.push (seqObj "list" #[] 0)).get? l = some o := Heap.get?_push_of_some _ ho
  have tt : (Value.type "tuple" == Value.type "tuple") = true := by rfl
  unfold collect
  refine wpAny_bind (wpAny_runValue (codeAny_builtin entry_proto_collect' ?_))
  show wpAny _ _ (newList [] >>= fun z => again (.builtin "list.__iadd__" ⟨[z, .ref l], []⟩)) _ _ s
  refine wpAny_bind (wpAny_newList (wpAny_pure ⟨Code.quiet_builtin _ (by decide +kernel), codeAny_builtin entry_list_iadd' ?_⟩))
  show wpAny _ _ (Builtin.List.listExtendWith (.ref s.heap.objs.size) (.ref l) (.ref s.heap.objs.size)) _ _ _
  unfold Builtin.List.listExtendWith
  apply wpAny_bind
  refine wpAny_typeOf (T := "tuple") ⟨o, ho', hc⟩ ?_
  rw [if_pos (by rw [tt]; simp)]
  refine wpAny_bind (listItems_at ho' hd (wpAny_bind (listItems_at (xs := #[]) (n := 0) (Heap.get?_push_size _ rfl) rfl ?_)))
  rw [if_neg (by simp)]
  refine wpAny_bind (listUpdate_at (xs := #[]) (n := 0) (Heap.get?_push_size _ rfl) rfl (wpAny_pure ?_) (Nat.zero_le _) ?_)
  · show wpAny _ A (load s.heap.objs.size >>= _) Q E _
    apply wpAny_bind
    refine wpAny_load (get?_update_seq (Heap.get?_push_size _ rfl) _) ?_
    show wpAny _ _ (pure ((#[] : Array Value) ++ vs.toArray).toList) Q E _
    have e : ((#[] : Array Value) ++ vs.toArray).toList = vs := by simp
    rw [e]
    exact wpAny_pure h
  · have : ((#[] : Array Value) ++ vs.toArray).size = vs.length := by simp
    rw [this]
    omega
theorem sorted_tupI {l : Addr} {vs : List Value} {ns : List Int} {Q : Value → Shared → Prop} (hl : IsTup s.heap l vs.toArray) (hI : IntsAre vs ns) (h64 : vs.length < 64)
    (h : ∀ (out : Array Value) (ns' : List Int), IntsAre out.toList ns' → ns'.Perm ns → ns'.Pairwise (· ≤ ·) → Q (.ref (s.heap.objs.size + 1)) { s with heap := sortedAll s.heap vs out }) : wpAny (model P w) A (call (.builtin "sorted") [.ref l]) Q E s := by
  refine Calls.call_function_entry kind_sorted plain_sorted entry_sorted (args_sorted1 _) ?_
  unfold Builtin.«sorted»
  apply wpAny_bind (m := checkCount "sorted" 1 1 _)
  apply wpAny_pure
  refine wpAny_bind (take_tup hl (small64 h64) (wpAny_bind (wpAny_newList ?_ (small64 h64))))
  have n1 : ((s.heap.push (seqObj "list" #[] 0)).update s.heap.objs.size (Obj.mapSeq (· ++ vs.toArray))).objs.size = s.heap.objs.size + 1 := (Heap.size_update ..).trans (size_push' _ _)
  have n2 : (((s.heap.push (seqObj "list" #[] 0)).update s.heap.objs.size (Obj.mapSeq (· ++ vs.toArray))).push (seqObj "list" vs.toArray 0)).get? (s.heap.objs.size + 1) = some (seqObj "list" vs.toArray 0) := n1 ▸ Heap.get?_push_size _ rfl
  show wpAny _ _ _ _ _ { s with heap := ((s.heap.push (seqObj "list" #[] 0)).update s.heap.objs.size (Obj.mapSeq (· ++ vs.toArray))).push (seqObj "list" vs.toArray 0) }
  rw [n1]
  exact wpAny_bind (wpAny_holding (wpAny_call_entry slot_list_sort ⟨_, n2, rfl⟩ entry_list_sort (list_sort_tree n2 hI h64 fun out ns' q1 q2 q3 => ⟨_, rfl, wpAny_pure ⟨_, rfl, h out ns' q1 q2 q3⟩⟩) (args_list_sort _)))
end
theorem b_sortI {X : Cx} : CallR X (.builtin "sorted") (rC1 bSortI) := by
  intro pins s σ H xs us Q I r h
  obtain ⟨x, rfl, F, dx, z, sm, hx, e, k⟩ := h
  unfold bSortI at e
  split at e
  · rename_i ds
    simp only [Option.bind_eq_some_iff] at e
    obtain ⟨is, h1, e⟩ := e
    split at e
    · rename_i hz
      cases e
      obtain ⟨a, vs, rfl, ha, hs⟩ := hx.list sm
      rw [ints_of hs h1] at ha
      refine cr_sorted pins s σ H _ us Q I r ⟨a, is, rfl, .of ha, hz, fun ns p q1 q2 hp => ?_⟩
      rw [sortI_uniq q1 q2]
      exact k.lst sm (HDs.ints _) hp
    · cases e
  · rename_i ds
    simp only [Option.bind_eq_some_iff] at e
    obtain ⟨is, h1, e⟩ := e
    split at e
    · rename_i hz
      cases e
      obtain ⟨a, vs, rfl, ha, hs⟩ := hx.tuple
      rw [ints_of hs h1] at ha
      obtain ⟨its, rv, hl, _⟩ := I.tuple (show SqT X.K H a (is.map V.int) from .of (sm _ _ ha))
      obtain ⟨u, rfl, ru⟩ := vals1 r
      obtain rfl : u = Value.ref a := ru
      have hi := rv.ints
      refine sorted_tupI hl hi (by rw [hi.length]; exact hz) fun out ns q1 q2 q3 => ?_
      obtain ⟨ep, he⟩ := PyProof.Rows.sortedAll_at s.heap its out
      have len : (ns.map V.int).length ≤ sizeLine := by
        rw [List.length_map, q2.length_eq]
        exact small64 hz
      have en := sortI_uniq q2 q3
      refine ⟨.ref _, upd H (s.heap.objs.size + 1) (.lst (ns.map V.int)), I.laid (t' := s.toks) (fun _ _ => PyProof.Rows.sortedAll_old) (Nat.le_succ _) ⟨len, out.toList, ep, vals_of_ints q1, he⟩, rfl, ?_⟩
      rw [en]
      exact k.lst sm (HDs.ints _) (I.hok.fresh (Nat.le_succ _))
    · cases e
  · cases e
section
variable {X : Cx}
theorem ds_par3 (i j l : Nat) {x y z : Str} {a b c : Expr} {g : FA} {px py pz pt pos : Pos} {kt k2 pt2} (hc : X.calm = true) (hN : X.N.Nodup) (ha : DA X [a, b, c] g) (hi : X.N[i]? = some x := by rfl) (hj : X.N[j]? = some y := by rfl) (hl : X.N[l]? = some z := by rfl) (hij : i ≠ j := by decide) (hil : i ≠ l := by decide) (hjl : j ≠ l := by decide)
    (hx : X.env.scope.names.lookup x = some .local := by rfl) (hy : X.env.scope.names.lookup y = some .local := by rfl) (hz : X.env.scope.names.lookup z = some .local := by rfl)
    (hw : swappedStores [.Tuple [.Name x px, .Name y py, .Name z pz] kt pt] (.Tuple [a, b, c] k2 pt2) X.env = pure (some [x, y, z]) := by rfl) (hs : swapsWithSole [.Tuple [.Name x px, .Name y py, .Name z pz] kt pt] (.Tuple [a, b, c] k2 pt2) pos.line X.env = pure false := by rfl) :
    DS X (.Assign [.Tuple [.Name x px, .Name y py, .Name z pz] kt pt] (.Tuple [a, b, c] k2 pt2) pos) (fsPar3 g i j l) := PS.imp (ps_par3 hc hN hi hj hl hij hil hjl hx hy hz ha hw hs) fun D σ H h => by
  obtain ⟨F, env, out, rep, e, k⟩ := h
  simp only [fsPar3, Option.bind_eq_some_iff] at e
  obtain ⟨⟨ds, e1⟩, h1, h2⟩ := e
  refine ⟨F, env, ds, e1, rep, h1, fun vs F1 H1 g1 rep1 hds => ?_⟩
  split at h2
  · rename_i d1 d2 d3 hd
    simp only at hd
    subst hd
    split at h2
    · rename_i hb
      obtain ⟨b1, b2, b3⟩ := hb
      cases h2
      obtain ⟨v1, us1, rfl, hv1, hds⟩ := hds.one
      obtain ⟨v2, us2, rfl, hv2, hds⟩ := hds.one
      obtain ⟨v3, us3, rfl, hv3, hds⟩ := hds.one
      cases hds
      refine ⟨v1, v2, v3, rfl, ?_⟩
      obtain ⟨r1, o1⟩ := rep1.store (s := .dat d1) (v := v1) b1 (fun _ z => by cases z; exact hv1) (fun _ z => nomatch z) (fun _ _ z => nomatch z)
      obtain ⟨r2, o2⟩ := r1.store (s := .dat d2) (v := v2) (by rw [List.length_set]; exact b2) (fun _ z => by cases z; exact hv2) (fun _ z => nomatch z) (fun _ _ z => nomatch z)
      obtain ⟨r3, o3⟩ := r2.store (s := .dat d3) (v := v3) (by rw [List.length_set, List.length_set]; exact b3) (fun _ z => by cases z; exact hv3) (fun _ z => nomatch z) (fun _ _ z => nomatch z)
      exact k _ F1 H1 (((g1.sub_own o1).sub_own o2).sub_own o3) r3
    · cases h2
  · cases h2
end
theorem HDs.erase {F : Hp} : ∀ {ds : List PyData} {vs : List V} (n : Nat), HDs F vs ds → HDs F (vs.eraseIdx n) (ds.eraseIdx n)
  | [], _, _, .nil => .nil
  | _ :: _, _, 0, .cons _ hs => hs
  | _ :: _, _, n + 1, .cons h hs => .cons h (HDs.erase n hs)
section
variable {X : Cx}
/-- xs.pop(k), xs a name -/
theorem de_pop {x : Str} {p apos cpos : Pos} {ke : Expr} {fk : FE} (i : Nat) (hk : DE X ke fk) (hx : PE X (.Name x p) (tVar i) := by exact pv i)
    (hbase : attributeBase (.Name x p) "pop" X.env (eval (.Name x p) X.env) = eval (.Name x p) X.env := by rfl)
    (hfew : ((backTo cpos (starEach [ke] X.env)).all (fun x => !x.1) && (backToKw cpos (keywordEach [] X.env)).all (fun x => x.1.isSome)
      && decide ([ke].length + ([] : List Keyword).length + (if ([] : List Keyword).isEmpty then 0 else 1) < 30)) = true := by rfl)
    (hline : (apos.endLine == cpos.line) = true := by rfl) (hs : starEach [ke] X.env = (false, eval ke X.env) :: starEach [] X.env := by rfl) (hplain : (backTo cpos (starEach [] X.env)).any (·.1) = false := by rfl) :
    DE X (.Call (.Attribute (.Name x p) "pop" apos) [ke] [] cpos) (fPop i fk) := PE.imp (pe_bm PySem.F.plainAttrs_list PySem.F.slot_list_pop PySem.F.type_list_pop mt_popAt hx (pa_cons hk pa_nil hs) hbase hfew hline hs hplain) fun σ H Q h => by
  obtain ⟨F, env, r, env', rep, e, k⟩ := h
  simp only [fPop] at e
  split at e
  · rename_i c0 ds0 hds0
    obtain ⟨l, vs0, hv, hf0, hl0, _⟩ := rep.own i c0 ds0 hds0
    simp only [Option.bind_eq_some_iff] at e
    obtain ⟨⟨r1, e1⟩, h1, h2⟩ := e
    split at h2
    · rename_i r' e' kk c ds hr hds
      simp only at hr hds
      subst hr
      split at h2
      · rename_i hb
        obtain ⟨b1, b2, b3⟩ := hb
        simp only [Option.map_eq_some_iff] at h2
        obtain ⟨d, hd, h3⟩ := h2
        cases h3
        refine ⟨_, hv, .inl ⟨rfl, _, .of hl0⟩, F, env, _, e1, rep, h1, fun v F1 H1 g1 rep1 ok1 => ?_⟩
        obtain ⟨l', vs, q1, q2, q3, q4⟩ := rep1.own i c ds hds
        rw [hv] at q1
        cases q1
        have hw : v = .int kk := by
          cases ok1 with
          | dat h => cases h; rfl
        subst hw
        obtain ⟨y, y1, y2⟩ := q4.get hd
        obtain ⟨rep3, g3⟩ := own_mut rep1 hds hv q2 q3 (q4.erase kk.toNat)
        have len : vs.length = ds.length := q4.length
        have sz : (sizeLine : Int) < 2 ^ 63 := by decide
        refine ⟨l, vs, kk, kk.toNat, y, rfl, rfl, q3, by omega, by omega, ?_, y1, k y F1 _ (g1.trans g3) rep3 (.dat y2)⟩
        unfold seqIndex?
        rw [len]
        split <;> first | omega | simp_all | skip
      · cases h2
    · cases h2
  · cases e
end
end DL

/-! DL20: {text: text, ..}[e]. -/
namespace DL
open PySem PySem.Spec PyProof.Rows L2
theorem pairs_str : ∀ (m : List (Str × Str)) (σ : L2.St) (H : Hp) (Q : List (V × V) → Hp → Prop), Q (m.map fun e => (V.str e.1, V.str e.2)) H → tPairs (m.map fun e => (tC (.str e.1), tC (.str e.2))) σ H Q
  | [], _, _, _, h => h
  | e :: r, σ, H, Q, h => pairs_str r σ H (fun ps H3 => Q ((V.str e.1, V.str e.2) :: ps) H3) h
section
variable {X : Cx} {i : Expr} {fb : FE} {pos dp : Pos} {keys : List (Option Expr)} {values : List Expr} {m : List (Str × Str)}
theorem look_imp (h15 : m.length ≤ 15) (σ : L2.St) (H : Hp) (Q : VK) (h : tD (fLook m fb) σ H Q) : tDGet (tDisp (m.map fun e => (tC (.str e.1), tC (.str e.2)))) (tD fb) σ H Q := by
  obtain ⟨F, env, r, env', rep, e, k⟩ := h
  simp only [fLook, Option.bind_eq_some_iff] at e
  obtain ⟨⟨r1, e1⟩, h1, h2⟩ := e
  intro p hp
  refine pairs_str m σ _ _ ⟨upd_same, m.map fun e => (Sum.inr e.1, V.str e.2), ?_, by rw [List.length_map]; exact h15, ?_⟩
  · rw [List.map_map]
    rfl
  have ow : ¬ OwnA σ env p := fun ⟨j, c, ds, q1, q2⟩ => by
    obtain ⟨a, ws, w1, w2, w3, w4⟩ := rep.own j c ds q1
    rw [q2] at w1
    cases w1
    rw [hp] at w3
    cases w3
  let o : HO := .dK (mergeK [] (m.map fun e => (Sum.inr e.1, V.str e.2)))
  have eq : upd (upd H p (.dK [])) p o = upd H p o := by
    funext b
    by_cases hb : b = p
    · rw [hb, upd_same, upd_same]
    · rw [upd_ne hb, upd_ne hb, upd_ne hb]
  show tD fb σ (upd (upd H p (.dK [])) p o) _
  rw [eq]
  have ex : Ext F H F (upd H p o) := ⟨.refl _, rep.sub.trans (same_new hp), same_new hp, fun _ z => .inl z⟩
  refine ⟨F, env, r1, e1, rep.ext ex, h1, fun w F1 H1 g1 rep1 ok1 => ?_⟩
  simp only at h2
  split at h2
  · rename_i s
    split at h2
    · rename_i t hv
      cases h2
      have hw : w = .str s := by
        cases ok1 with
        | dat h => cases h; rfl
      subst hw
      exact ⟨p, .str t, rfl, .inl ⟨_, .inr s, .of (g1.frame _ _ ow upd_same), rfl, hv.symm⟩, k _ F1 H1 ((Go.of_ext ex).trans g1) rep1 (.dat (.str t))⟩
    · cases h2
  · cases h2
/-- {text: text, ..}[e] -/
theorem de_lookD (hu : X.A.units + 1 < cLine) (hp : PPs X dp keys values (m.map fun e => (tC (.str e.1), tC (.str e.2)))) (hi : DE X i fb) (hs : NoSl i) (h15 : m.length ≤ 15 := by decide) (hall : keys.all (·.isSome) = true := by rfl) (hl : keys.length = values.length := by rfl) (h0 : keys ≠ [] := by exact List.cons_ne_nil _ _) (hk : keys.length ≤ 15 := by decide) :
    DE X (.Subscript (.Dict keys values dp) i pos) (fLook m fb) := PE.imp (pe_dget hu (pe_disp hp hall hl h0 hk) hi hs) (look_imp h15)
end
end DL

/-! DL21: sorted() of a dict whose keys are tuples of ints. -/
namespace DL
open PySem PySem.Spec PyProof.Rows L2
section
variable {P : Program} {w : World} {d : Addr} {es : Array DictEntry} {ep : Nat}
theorem src_raw (lo : (d == sysModules) = false) : PySem.W.KdlSrc P w "dict" d d es.size (fun i v => ∃ hi : i < es.size, v = es[i].key) (fun h => h.DictRaw d es ep) where
  type := fun _ hm => hm.typeIs
  there := fun _ hm => let ⟨_, ho, _⟩ := hm; ⟨Heap.lt_size ho, Heap.lt_size ho⟩
  keep := fun _ _ hm hk => hm.at fun o e => hk d (.inl rfl) o e
  notList := by decide
  notTuple := by decide
  hint := fun _ _ _ _ hm hq => PySem.W.kdl_hint_dict hm.typeIs hq
  iter := fun _ s hh hm => ⟨_, _, (fun _ _ hq => wpAny_pyIter_dict_raw lo hm hq), Walks.rawKeys hh _ d (Nat.ne_of_lt (let ⟨_, ho, _⟩ := hm; Heap.lt_size ho)) es ep, ⟨⟨_, Heap.get?_push_size _ rfl, rfl, rfl⟩, hm.at fun _ e => Heap.get?_push_of_some _ e⟩⟩
end
/-- the keys as ints -/
theorem tups_keys : ∀ {kvs : List (List L2.Key × V)} {ds : List PyData} {ks : List (List Int)}, kvs.length = ds.length → tupsOf (((kvs.map fun e => PyData.tuple (e.1.map keyD)).zip ds).map (·.1)) = some ks → kvs.map (·.1) = ks.map fun k => k.map Sum.inl
  | [], _, ks, _, h => by cases h; rfl
  | (k, v) :: kvs, [], _, hl, _ => by cases hl
  | (k, v) :: kvs, d :: ds, ks, hl, h => by
    have h' : ((intsOf (k.map keyD)).bind fun is => (tupsOf (((kvs.map fun e => PyData.tuple (e.1.map keyD)).zip ds).map (·.1))).map fun k => is :: k) = some ks := h
    simp only [Option.bind_eq_some_iff, Option.map_eq_some_iff] at h'
    obtain ⟨is, h1, ks', h2, rfl⟩ := h'
    have ih := tups_keys (by simpa using hl) h2
    have hk : ∀ (k : List L2.Key) (is : List Int), intsOf (k.map keyD) = some is → k = is.map Sum.inl := fun k => by
      induction k with
      | nil => intro is h; cases h; rfl
      | cons x r ih =>
        intro is h
        cases x with
        | inl i =>
          have h' : (intsOf (r.map keyD)).map (fun is => i :: is) = some is := h
          simp only [Option.map_eq_some_iff] at h'
          obtain ⟨is', h3, rfl⟩ := h'
          rw [ih is' h3]
          rfl
        | inr x => cases h
    rw [List.map_cons, List.map_cons, ih, hk k is h1]
theorem obj_tups {C : Int} {m : List (PyData × PyData)} : tupsOf (((PyData.int C, PyData.none) :: m).map (·.1)) = none := rfl
theorem kt_len {H : Hp} {kvs : List (List L2.Key × V)} {xs : List (List L2.Key × Addr × Value)} (r : KT H kvs xs) : xs.length = kvs.length := (Paired.length r).symm
theorem kt_at {H : Hp} : ∀ {kvs : List (List L2.Key × V)} {xs : List (List L2.Key × Addr × Value)}, KT H kvs xs → ∀ {ks : List (List Int)}, kvs.map (·.1) = ks.map (fun k => k.map Sum.inl) → ∀ x ∈ xs, ∃ k ∈ ks, H x.2.1 = some (.tup (k.map V.int)) := by
  intro kvs xs r
  induction r with
  | nil => intro ks _ x hx; cases hx
  | @cons p q ps qs hq t ih =>
    intro ks e x hx
    cases ks with
    | nil => cases e
    | cons k ks =>
      rw [List.map_cons, List.map_cons] at e
      obtain ⟨e1, e2⟩ := List.cons.inj e
      rcases List.mem_cons.mp hx with z | z
      · subst z
        refine ⟨k, List.mem_cons_self .., ?_⟩
        have h := hq.2.1
        rw [e1, List.map_map] at h
        exact h
      · obtain ⟨k', h1, h2⟩ := ih e2 x z
        exact ⟨k', List.mem_cons_of_mem _ h1, h2⟩
theorem kt_keys {H : Hp} : ∀ {kvs : List (List L2.Key × V)} {xs : List (List L2.Key × Addr × Value)}, KT H kvs xs → ∀ {ks : List (List Int)} (f : Addr → List Int), (∀ x ∈ xs, ∀ k : List Int, H x.2.1 = some (.tup (k.map V.int)) → f x.2.1 = k) → kvs.map (·.1) = ks.map (fun k => k.map Sum.inl) → xs.map (fun x => f x.2.1) = ks := by
  intro kvs xs r
  induction r with
  | nil => intro ks f _ e; cases ks with
    | nil => rfl
    | cons _ _ => cases e
  | @cons p q ps qs hq t ih =>
    intro ks f hf e
    cases ks with
    | nil => cases e
    | cons k ks =>
      rw [List.map_cons, List.map_cons] at e
      obtain ⟨e1, e2⟩ := List.cons.inj e
      have h := hq.2.1
      rw [e1, List.map_map] at h
      rw [List.map_cons, hf q (List.mem_cons_self ..) k h, ih f (fun x hx => hf x (List.mem_cons_of_mem _ hx)) e2]
def adrOf (y : List L2.Key × Addr × Value) : Addr := y.2.1
theorem b_sortD {X : Cx} (hc : X.calm = true) (hu : X.A.units + 65 < cLine) : CallR X (.builtin "sorted") (rC1 bSortD) := by
  intro pins s σ H xs us Q I r h
  obtain ⟨x, rfl, F, dx, z, sm, hx, e, k⟩ := h
  unfold bSortD at e
  split at e
  · rename_i m
    simp only [Option.bind_eq_some_iff] at e
    obtain ⟨ks, e1, e⟩ := e
    split at e
    · rename_i hne
      cases e
      cases hx with
      | dat hd =>
        cases hd with
        | obj ha hs hm =>
          subst hm
          cases e1
        | plc a => cases e1
        | dct ha hs hm =>
          rename_i a kvs ds
          subst hm
          obtain ⟨u, rfl, ru⟩ := vals1 r
          obtain rfl : u = Value.ref a := ru
          have hkeys := tups_keys (by have := hs.length; rw [List.length_map] at this; exact this) e1
          obtain ⟨z, lo, ys, rel, dd⟩ := dt_rd I.hok (.of (sm _ _ ha))
          obtain ⟨es, ep, raw, hsz, hes⟩ := dd.raw
          have ylen : ys.length ≤ sizeLine := by rw [kt_len rel]; exact z
          refine Calls.call_function_entry kind_sorted plain_sorted entry_sorted (args_sorted1 _) ?_
          unfold Builtin.«sorted»
          apply wpAny_bind (m := checkCount "sorted" 1 1 _)
          apply wpAny_pure
          refine wpAny_bind (PySem.W.kdu_collect (A := X.A.in1) (src_raw lo) (I.ok.hd hc) raw (by rw [hsz]; exact ylen) fun h' tk acc hk hacc => ?_)
          have I1 : Inv X pins σ H { s with heap := h', toks := tk } := I.kept hk
          have hits : acc.toList = ys.map fun y => Value.ref y.2.1 := by
            apply List.ext_getElem?
            intro j
            by_cases hj : j < es.size
            · obtain ⟨y, h1, h2, _⟩ := hes j hj
              have hj2 : j < acc.size := by rw [hacc.1]; exact hj
              obtain ⟨hi, hv⟩ := hacc.2 j acc[j] (Array.getElem?_eq_getElem hj2)
              rw [Array.getElem?_toList, Array.getElem?_eq_getElem hj2, List.getElem?_map, h1, hv, h2]
              rfl
            · rw [Array.getElem?_toList, Array.getElem?_eq_none (by rw [hacc.1]; omega), List.getElem?_map, List.getElem?_eq_none (by rw [← hsz]; omega)]
              rfl
          rw [hits]
          generalize hI : (ys.map fun y => Value.ref y.2.1) = its
          have ilen : its.length ≤ sizeLine := by rw [← hI, List.length_map]; exact ylen
          refine wpAny_bind (wpAny_newList ?_ ilen)
          have n2 : (h'.push (seqObj "list" its.toArray 0)).get? h'.objs.size = some (seqObj "list" its.toArray 0) := Heap.get?_push_size _ rfl
          show wpAny _ _ _ _ _ { s with heap := h'.push (seqObj "list" its.toArray 0), toks := tk }
          -- what the keys say
          let F' : Hp := fun b => match F b with
            | some o => some o
            | none => if b ∈ ys.map adrOf then H b else none
          have keyH : ∀ y ∈ ys, ∃ k ∈ ks, H y.2.1 = some (.tup (k.map V.int)) := kt_at rel hkeys
          have sH : Same F' H := fun b o e => by
            have e' : (match F b with
              | some o => some o
              | none => if b ∈ ys.map adrOf then H b else none) = some o := e
            split at e'
            · rename_i o' ho
              cases e'
              exact sm _ _ ho
            · split at e'
              · exact e'
              · cases e'
          have inF : ∀ y ∈ ys, F' y.2.1 = H y.2.1 := fun y hy => by
            show (match F y.2.1 with
              | some o => some o
              | none => if y.2.1 ∈ ys.map adrOf then H y.2.1 else none) = _
            split
            · rename_i o ho
              exact (sm _ _ ho).symm
            · exact if_pos (show y.2.1 ∈ ys.map adrOf from List.mem_map.mpr ⟨y, hy, rfl⟩)
          have fF : Same F F' := fun b o e => by
            show (match F b with
              | some o => some o
              | none => if b ∈ ys.map adrOf then H b else none) = _
            rw [e]
          have kf : ∀ y ∈ ys, ∀ k : List Int, H y.2.1 = some (.tup (k.map V.int)) → keyF F' (.ref y.2.1) = k := fun y hy k h => by
            have : F' y.2.1 = some (.tup (k.map V.int)) := (inF y hy).trans h
            unfold keyF
            simp only [this, List.map_map]
            have q : ((fun v => match v with
              | V.int i => i
              | _ => 0) ∘ V.int) = (id : Int → Int) := rfl
            exact (congrArg (fun f => k.map f) q).trans (List.map_id k)
          have ksm : ys.map (fun y => keyF F' (.ref y.2.1)) = ks := kt_keys rel (fun b => keyF F' (.ref b)) kf hkeys
          have hp : ∀ v ∈ its, TS.TupInts (h'.push (seqObj "list" its.toArray 0)) v (keyF F' (backV v)) := fun v hv => by
            rw [← hI] at hv
            obtain ⟨y, hy, rfl⟩ := List.mem_map.mp hv
            obtain ⟨k, _, hk2⟩ := keyH y hy
            obtain ⟨its2, r2, p2, _⟩ := I1.tuple (show SqT X.K H y.2.1 _ from .of hk2)
            rw [show keyF F' (backV (.ref y.2.1)) = k from kf y hy k hk2]
            exact ⟨y.2.1, its2.toArray, rfl, p2.keeps fun b o e => Heap.get?_push_of_some _ e, r2.ints⟩
          have hk0 : ∀ v ∈ its, keyF F' (backV v) ≠ [] := fun v hv => by
            rw [← hI] at hv
            obtain ⟨y, hy, rfl⟩ := List.mem_map.mp hv
            obtain ⟨k, hk1, hk2⟩ := keyH y hy
            rw [show keyF F' (backV (.ref y.2.1)) = k from kf y hy k hk2]
            have := List.all_eq_true.mp hne k hk1
            intro z
            rw [z] at this
            cases this
          refine wpAny_bind (wpAny_holding (wpAny_call_entry slot_list_sort ⟨_, n2, rfl⟩ entry_list_sort (SrtO.list_sort_ord (swo_key fun v => keyF F' (backV v)) n2 ilen (fun h2 => ?_) fun out hs2 hb => ⟨_, rfl, ?_⟩) (args_list_sort _)))
          · refine sortable_tups (s := { s with heap := h'.push (seqObj "list" its.toArray 0), toks := tk }) (by show X.A.units + 1 + 1 < cLine; omega) (by omega) hp (.inl hk0) fun o e => ?_
            have e' : some o = some (seqObj "list" its.toArray 0) := e.symm.trans n2
            cases e'
            intro c
            exact absurd (Value.type.inj c) (by decide)
          · obtain ⟨ep', he'⟩ := PyProof.Rows.sortedHeap_at (vs := its) (out := out.toArray) n2
            have h3 : ∀ u ∈ out, ∃ a, u = Value.ref a := fun u hu => by
              have := hb.perm.mem_iff.mp hu
              rw [← hI] at this
              obtain ⟨y, _, rfl⟩ := List.mem_map.mp this
              exact ⟨_, rfl⟩
            have kp : ∀ v ∈ out.map backV, ∃ t, v = .ref t ∧ F' t = some (.tup ((keyF F' v).map V.int)) := fun v hv => by
              obtain ⟨u, hu, rfl⟩ := List.mem_map.mp hv
              have := hb.perm.mem_iff.mp hu
              rw [← hI] at this
              obtain ⟨y, hy, rfl⟩ := List.mem_map.mp this
              obtain ⟨k, _, hk2⟩ := keyH y hy
              refine ⟨y.2.1, rfl, ?_⟩
              rw [show keyF F' (backV (.ref y.2.1)) = k from kf y hy k hk2]
              exact (inF y hy).trans hk2
            have ek : (out.map backV).map (keyF F') = sortL ks := by
              refine srt_uniq ?_ (sortL_srt ks) ?_
              · rw [List.map_map]
                exact List.pairwise_map.mpr hs2
              · have p1 := (hb.perm.map backV).map (keyF F')
                refine p1.trans ?_
                rw [← hI, List.map_map, List.map_map]
                have q : ys.map ((keyF F' ∘ backV) ∘ fun y => Value.ref y.2.1) = ks := ksm
                rw [q]
                exact (sortL_perm ks).symm
            have hds := hds_keys kp
            rw [ek] at hds
            have hlen : (out.map backV).length ≤ sizeLine := by
              rw [List.length_map, hb.perm.length_eq]
              exact ilen
            have fr : H h'.objs.size = none := I1.hok.fresh (Nat.le_refl _)
            have frF : F' h'.objs.size = none := sH.free fr
            refine wpAny_pure ⟨_, rfl, .ref h'.objs.size, upd H h'.objs.size (.lst (out.map backV)), I1.laid (t' := tk) (fun b u e => ?_) (Nat.le_refl _) (show ObjOk X.prog X.w _ _ _ (.lst (out.map backV)) from ⟨hlen, out, ep', vals_back h3, he'⟩), rfl, ?_⟩
            · have hb : b < h'.objs.size := Heap.lt_size e
              rw [PyProof.Rows.sortedHeap_old (Nat.ne_of_lt hb) (by rw [size_push']; exact Nat.lt_succ_of_lt hb)]
              exact Heap.get?_push_of_some _ e
            · refine k _ F' _ ⟨fF, sH.trans (same_new fr), same_new fr, fun b hb => ?_⟩ (.new rfl fr frF upd_same hds)
              have hb' : (match F b with
                | some o => some o
                | none => if b ∈ ys.map adrOf then H b else none) ≠ none := hb
              split at hb'
              · rename_i o ho
                exact .inl (by rw [ho]; exact hb')
              · split at hb'
                · rename_i hm
                  obtain ⟨y, hy, rfl⟩ := List.mem_map.mp hm
                  obtain ⟨k, _, hk2⟩ := keyH y hy
                  refine .inr fun o eo => ?_
                  have eo : H y.2.1 = some o := eo
                  rw [hk2] at eo
                  cases eo
                  exact ⟨_, rfl⟩
                · exact absurd rfl hb'
    · cases e
  · cases e
end DL

/-! DL22: a dict of the law's own that grows in two loops: table = {}; for i in range(n): for t in range(n): due = ..; if ..: return ..; if i != t: table[(i, t)] = .. -/
namespace DL
open PySem PySem.Spec PyProof.Rows L2
/-- so far -/
def TabKeys (kvs : Tab) : Prop := (kvs.map (·.1)).Nodup ∧ kvs.length ≤ 1000
abbrev hoT (kvs : Tab) : HO := .dT (kvs.map fun e => (e.1, V.int e.2))
structure TI (F0 H0 : Hp) (O0 : Ow) (D : Addr) (F H : Hp) (σ : L2.St) (env : Env) (kvs : Tab) : Prop where
  rep : Rep F H σ env
  go : Go F0 H0 O0 F H (OwA σ env)
  d : Apart F H σ env D (hoT kvs)
  d0 : H0 D = none
  at5 : σ[5]? = some (some (.ref D))
section
variable {F0 H0 F H F' H' : Hp} {O0 : Ow} {D : Addr} {σ σ' : L2.St} {env env' : Env} {kvs : Tab}
theorem TI.along (k : TI F0 H0 O0 D F H σ env kvs) (g : Go F H (OwA σ env) F' H' (OwA σ env')) (rep : Rep F' H' σ env') : TI F0 H0 O0 D F' H' σ env' kvs := ⟨rep, k.go.trans g, k.d.along g, k.d0, k.at5⟩
theorem TI.ext (k : TI F0 H0 O0 D F H σ env kvs) (e : Ext F H F' H') : TI F0 H0 O0 D F' H' σ env kvs := k.along (.of_ext e) (k.rep.ext e)
theorem TI.frame (k : TI F0 H0 O0 D F H σ env kvs) (rep : Rep F H σ' env') (o : OwLe (OwA σ' env') (OwA σ env)) (h5 : σ'[5]? = σ[5]?) : TI F0 H0 O0 D F H σ' env' kvs := ⟨rep, k.go.sub_own o, k.d.frame o, k.d0, h5.trans k.at5⟩
theorem TI.put (k : TI F0 H0 O0 D F H σ env kvs) (key : List L2.Key) (c : Int) (hn : key ∉ kvs.map (·.1)) : TI F0 H0 O0 D F (upd H D (.dT (putK (kvs.map fun e => (e.1, V.int e.2)) key (.int c)))) σ env (kvs ++ [(key, c)]) := by
  have e : putK (kvs.map fun e => (e.1, V.int e.2)) key (.int c) = (kvs ++ [(key, c)]).map fun e => (e.1, V.int e.2) := by
    rw [putK_new, List.map_append]
    · rfl
    · have : ∀ l : Tab, key ∉ l.map (·.1) → valV (l.map fun e => (e.1, V.int e.2)) key = none := fun l => by
        induction l with
        | nil => intro _; rfl
        | cons x r ih =>
          intro h
          rw [List.map_cons, valV_neg (p := (x.1, V.int x.2)) (fun z => h (by rw [← z]; exact List.mem_cons_self ..))]
          exact ih fun z => h (List.mem_cons_of_mem _ z)
      exact this kvs hn
  rw [e]
  exact ⟨k.rep.put k.d, k.go.put k.d0, k.d.at (fun _ e => nomatch e), k.d0, k.at5⟩
end
theorem no_if {p q : Prop} (h : q) : if false = true then p else q := by
  rw [if_neg (by simp)]
  exact h
section
variable {K : PySem.W.Frag} {cell : Cell} {fDue fLen : FE} {tC : FT} {tr : TS} {us6 us7 : List Nat}
abbrev fKy : FE := fTup (faCons (fName 6) (faCons (fName 7) faNil))
/-- the inner body -/
def tCell (fDue : FE) (tC : FT) (tr : TS) (fLen : FE) : TS := tSeq (tAsg (tD fDue) (gName 8)) (tSeq (tIfS (tDT tC) tr tNext) (tIfS (tDT (fB (fBin opNe (fName 6) (fName 7)))) (sDPut (tVar 5) (tD fKy) (tD fLen)) tNext))
/-- what the readings of the inner body give -/
def CellOk (cell : Cell) (fDue fLen : FE) (tC : FT) : Prop := ∀ (e0 e1 e2 : Sl) (rows : PyData) (n : Int) (i t : Nat) (x8 e9 e10 e11 : Sl) (c : Int), cell rows i t = some c →
  ∃ d, (∀ x8, fDue (eT8 e0 e1 e2 rows n .dead (.dat (.int i)) (.dat (.int t)) x8 e9 e10 e11) = some (.dat d, eT8 e0 e1 e2 rows n .dead (.dat (.int i)) (.dat (.int t)) x8 e9 e10 e11)) ∧
    tC (eT8 e0 e1 e2 rows n .dead (.dat (.int i)) (.dat (.int t)) (.dat d) e9 e10 e11) = some (false, eT8 e0 e1 e2 rows n .dead (.dat (.int i)) (.dat (.int t)) (.dat d) e9 e10 e11) ∧
    fLen (eT8 e0 e1 e2 rows n .dead (.dat (.int i)) (.dat (.int t)) (.dat d) e9 e10 e11) = some (.dat (.int c), eT8 e0 e1 e2 rows n .dead (.dat (.int i)) (.dat (.int t)) (.dat d) e9 e10 e11)
theorem cell_ok {F0 H0 F H : Hp} {O0 : Ow} {D : Addr} {σ : L2.St} {e0 e1 e2 x8 e9 e10 e11 : Sl} {rows : PyData} {n : Int} {i t : Nat} {kvs : Tab} {c : Int} {E : Ends} (hc : CellOk cell fDue fLen tC) (k : TI F0 H0 O0 D F H σ (eT8 e0 e1 e2 rows n .dead (.dat (.int i)) (.dat (.int t)) x8 e9 e10 e11) kvs) (h8 : ∀ b ds, x8 ≠ .own b ds) (he : cell rows i t = some c) (hn : ky i t ∉ kvs.map (·.1)) (hl : kvs.length < 1000)
    (fin : ∀ σ' F' H' d, Same F F' → TI F0 H0 O0 D F' H' σ' (eT8 e0 e1 e2 rows n .dead (.dat (.int i)) (.dat (.int t)) (.dat d) e9 e10 e11) (if i = t then kvs else kvs ++ [(ky i t, c)]) → E.nx σ' H') : tCell fDue tC tr fLen E σ H := by
  obtain ⟨d, h1, h2, h3⟩ := hc e0 e1 e2 rows n i t x8 e9 e10 e11 c he
  let E1 := eT8 e0 e1 e2 rows n .dead (.dat (.int i)) (.dat (.int t)) x8 e9 e10 e11
  let E2 := eT8 e0 e1 e2 rows n .dead (.dat (.int i)) (.dat (.int t)) (.dat d) e9 e10 e11
  refine ⟨F, E1, .dat d, E1, k.rep, h1 x8, fun v F1 H1 g1 rep1 ok1 => ?_⟩
  have k1 := k.along g1 rep1
  have hv : HD F1 v d := by
    cases ok1 with
    | dat h => exact h
  obtain ⟨rep2, o2⟩ := rep1.store (i := 8) (s := .dat d) (v := v) (show 8 < 12 by decide) (fun _ z => by cases z; exact hv) (fun _ z => nomatch z) (fun _ _ z => nomatch z)
  have k2 : TI F0 H0 O0 D F1 H1 (σ.set 8 (some v)) E2 kvs := k1.frame rep2 o2 (List.getElem?_set_ne (by decide))
  refine ⟨F1, E2, false, E2, k2.rep, h2, fun F3 H3 g3 rep3 => ?_⟩
  have k3 := k2.along g3 rep3
  refine no_if ?_
  have t3 : fB (fBin opNe (fName 6) (fName 7)) E2 = some (!decide ((i : Int) = (t : Int)), E2) := ev_B (ev_bind (x := .int i) (y := .int t) (e1 := E2) (e2 := E2) rfl rfl (op_ne_int _ _))
  by_cases q : i = t
  · rw [decide_eq_true (by omega)] at t3
    refine ⟨F3, E2, false, E2, k3.rep, t3, fun F4 H4 g4 rep4 => ?_⟩
    have k4 := k3.along g4 rep4
    refine no_if (fin _ F4 H4 d (g1.fz.trans (g3.fz.trans g4.fz)) ?_)
    rw [if_pos q]
    exact k4
  · rw [decide_eq_false (by omega)] at t3
    refine ⟨F3, E2, true, E2, k3.rep, t3, fun F4 H4 g4 rep4 => ?_⟩
    have k4 := k3.along g4 rep4
    have s4 : Same F F4 := g1.fz.trans (g3.fz.trans g4.fz)
    refine yes_if ?_
    refine ⟨F4, E2, _, E2, k4.rep, h3, fun v5 F5 H5 g5 rep5 ok5 => ?_⟩
    have k5 := k4.along g5 rep5
    have hv5 : v5 = .int c := by
      cases ok5 with
      | dat h => cases h; rfl
    subst hv5
    have tk : fKy E2 = some (.dat (.tuple [.int i, .int t]), E2) := ev_tup (ea_dat (d := .int i) (e1 := E2) rfl (ea_dat (d := .int t) (e1 := E2) rfl ea_nil)) (by show 2 ≤ sizeLine; decide)
    refine ⟨.ref D, k5.at5, F5, E2, _, E2, k5.rep, tk, fun v6 F6 H6 g6 rep6 ok6 => ?_⟩
    have k6 := k5.along g6 rep6
    have hv6 : HD F6 v6 (.tuple [.int i, .int t]) := by
      cases ok6 with
      | dat h => exact h
    obtain ⟨b, rfl, hb⟩ := hd_key (k := ky i t) hv6 rfl
    refine ⟨D, _, rfl, .inr ⟨_, ky i t, b, k6.d.h, rfl, rep6.sub _ _ hb, ?_, rfl⟩, ?_⟩
    · rw [List.length_map]
      exact Nat.lt_trans hl (by decide)
    · refine fin _ F6 _ d (s4.trans (g5.fz.trans g6.fz)) ?_
      rw [if_neg q]
      exact k6.put (ky i t) c hn
end
theorem ev_range1' {e0 e1 e2 x5 x6 x7 x8 e9 e10 e11 : Sl} {rows : PyData} (n : Nat) (h : n ≤ 1000) : fiRange1 (fName 4) (eT8 e0 e1 e2 rows n x5 x6 x7 x8 e9 e10 e11) = some (rangeD 0 n, eT8 e0 e1 e2 rows n x5 x6 x7 x8 e9 e10 e11) := by
  have hs : smallI (n : Int) = true := by
    unfold smallI
    rw [Bool.and_eq_true, decide_eq_true_iff, decide_eq_true_iff]
    omega
  have h1 : fName 4 (eT8 e0 e1 e2 rows n x5 x6 x7 x8 e9 e10 e11) = some (.dat (.int n), eT8 e0 e1 e2 rows n x5 x6 x7 x8 e9 e10 e11) := rfl
  unfold fiRange1
  rw [h1, Option.bind_some]
  simp only [hs, if_true, Int.toNat_natCast]
def KB (kvs : Tab) (i t : Nat) : Prop := (∀ k ∈ kvs.map (·.1), ∃ a b : Nat, k = ky a b ∧ (a < i ∨ (a = i ∧ b < t))) ∧ kvs.length ≤ 30 * i + t
theorem ky_inj {a b c d : Nat} (h : ky a b = ky c d) : a = c ∧ b = d := by
  unfold ky at h
  simp only [List.cons.injEq, Sum.inl.injEq, and_true] at h
  omega
theorem KB.new {kvs : Tab} {i t : Nat} (h : KB kvs i t) : ky i t ∉ kvs.map (·.1) := fun z => by
  obtain ⟨a, b, e, q⟩ := h.1 _ z
  have := ky_inj e
  omega
theorem KB.next {kvs : Tab} {i t : Nat} (h : KB kvs i t) (c : Int) : KB (if i = t then kvs else kvs ++ [(ky i t, c)]) i (t + 1) := by
  split
  · exact ⟨fun k hk => by
      obtain ⟨a, b, e, q⟩ := h.1 k hk
      exact ⟨a, b, e, by omega⟩, by have := h.2; omega⟩
  · refine ⟨fun k hk => ?_, ?_⟩
    · rw [List.map_append] at hk
      rcases List.mem_append.mp hk with z | z
      · obtain ⟨a, b, e, q⟩ := h.1 k z
        exact ⟨a, b, e, by omega⟩
      · exact ⟨i, t, List.mem_singleton.mp z, by omega⟩
    · rw [List.length_append, List.length_singleton]
      have := h.2
      omega
theorem KB.row {kvs : Tab} {i n : Nat} (h : KB kvs i n) (hn : n ≤ 30) : KB kvs (i + 1) 0 := ⟨fun k hk => by
  obtain ⟨a, b, e, q⟩ := h.1 k hk
  exact ⟨a, b, e, by omega⟩, by have := h.2; omega⟩
theorem range_at {n i : Nat} (h : i < n) : (List.range n)[i]? = some i := by rw [List.getElem?_range h]
theorem rangeD_at {n i : Nat} (h : i < n) : (rangeD 0 n)[i]? = some (.int (i : Int)) := by
  unfold rangeD
  rw [List.getElem?_map, range_at h]
  show some (PyData.int (0 + (i : Int))) = _
  rw [Int.zero_add]
theorem rangeD_length (n : Nat) : (rangeD 0 n).length = n := by unfold rangeD; rw [List.length_map, List.length_range]
section
variable {cell : Cell} {fDue fLen : FE} {tC : FT} {tr : TS} {us6 us7 : List Nat} {F0 H0 : Hp} {O0 : Ow} {D : Addr}
theorem row_ok (hc : CellOk cell fDue fLen tC) (h57 : 5 ∉ us7) {F H : Hp} {σ : L2.St} {e0 e1 e2 x7 x8 e9 e10 e11 : Sl} {rows : PyData} {n i : Nat} {kvs kvs' : Tab} {E : Ends} (hn : n ≤ 30) (hi : i < n) (h7 : ∀ b ds, x7 ≠ .own b ds) (h8 : ∀ b ds, x8 ≠ .own b ds)
    (k : TI F0 H0 O0 D F H σ (eT8 e0 e1 e2 rows n .dead (.dat (.int i)) x7 x8 e9 e10 e11) kvs) (kb : KB kvs i 0) (hr : rowT cell rows i (List.range n) kvs = some kvs')
    (fin : ∀ σ' F' H' x7 x8, (∀ b ds, x7 ≠ .own b ds) → (∀ b ds, x8 ≠ .own b ds) → Same F F' → TI F0 H0 O0 D F' H' σ' (eT8 e0 e1 e2 rows n .dead (.dat (.int i)) x7 x8 e9 e10 e11) kvs' → KB kvs' i n → E.nx σ' H') :
    tFor (tDI (fiRange1 (fName 4))) (tG us7 (fgName 7)) (tCell fDue tC tr fLen) E σ H := by
  have it : fiRange1 (fName 4) (eT8 e0 e1 e2 rows n .dead (.dat (.int i)) x7 x8 e9 e10 e11) = some (rangeD 0 n, eT8 e0 e1 e2 rows n .dead (.dat (.int i)) x7 x8 e9 e10 e11) := ev_range1' n (by omega)
  refine ⟨F, _, _, _, k.rep, it, fun J F1 H1 g1 rep1 wk => ?_⟩
  have k1 := k.along g1 rep1
  refine ⟨fun t m σi Hi => m = n - t ∧ t ≤ n ∧ ∃ Fi x7 x8 ki, (∀ b ds, x7 ≠ .own b ds) ∧ (∀ b ds, x8 ≠ .own b ds) ∧ TI F0 H0 O0 D Fi Hi σi (eT8 e0 e1 e2 rows n .dead (.dat (.int i)) x7 x8 e9 e10 e11) ki ∧ Same F1 Fi ∧ KB ki i t ∧ rowT cell rows i ((List.range n).drop t) ki = some kvs',
    ⟨n, rfl, Nat.zero_le _, F1, x7, x8, kvs, h7, h8, k1, .refl _, kb, hr⟩, ?_⟩
  rintro t m σi Hi ⟨rfl, ht, Fi, y7, y8, ki, q7, q8, ti, si, kbi, hri⟩
  obtain ⟨w1, w2⟩ := wk t Fi Hi si ti.rep.sub
  by_cases hlt : t < n
  · obtain ⟨hgo, hy⟩ := w1 _ (rangeD_at hlt)
    rw [drop_cons (range_at hlt), rowT] at hri
    simp only [Option.bind_eq_some_iff] at hri
    obtain ⟨c, hcell, hri⟩ := hri
    refine .inr ⟨hgo, fun σ' H' => ∃ Fi x7 x8 ki, (∀ b ds, x7 ≠ .own b ds) ∧ (∀ b ds, x8 ≠ .own b ds) ∧ TI F0 H0 O0 D Fi H' σ' (eT8 e0 e1 e2 rows n .dead (.dat (.int i)) x7 x8 e9 e10 e11) ki ∧ Same F1 Fi ∧ KB ki i (t + 1) ∧ rowT cell rows i ((List.range n).drop (t + 1)) ki = some kvs', fun σ' H' p' => ⟨n - (t + 1), by omega, rfl, hlt, p'⟩, fun x H2 yy => ?_⟩
    obtain ⟨F2, ex, hd⟩ := hy x H2 yy
    have t2 := ti.ext ex
    refine ⟨F2, _, _, eT8 e0 e1 e2 rows n .dead (.dat (.int i)) (.dat (.int t)) y8 e9 e10 e11, t2.rep, hd, if_pos (show 7 < 12 by decide), fun σ5 rep5 o5 l5 q5 => ?_⟩
    have t5 : TI F0 H0 O0 D F2 H2 σ5 (eT8 e0 e1 e2 rows n .dead (.dat (.int i)) (.dat (.int t)) y8 e9 e10 e11) ki := t2.frame rep5 o5 (q5 5 h57)
    refine cell_ok hc t5 q8 hcell kbi.new (by have := kbi.2; omega) fun σ' F' H' d s' t' => ?_
    exact ⟨F', .dat (.int t), .dat d, _, (fun _ _ z => nomatch z), (fun _ _ z => nomatch z), t', si.trans (ex.fz.trans s'), kbi.next c, hri⟩
  · have e0' : t = n := by omega
    subst e0'
    rw [List.drop_of_length_le (by rw [List.length_range]; exact Nat.le_refl _)] at hri
    cases hri
    exact .inl ⟨w2 (by rw [rangeD_length]), fin _ _ _ _ _ q7 q8 (g1.fz.trans si) ti kbi⟩
theorem tab_ok (hc : CellOk cell fDue fLen tC) (h56 : 5 ∉ us6) (h57 : 5 ∉ us7) {F H : Hp} {σ : L2.St} {e0 e1 e2 e9 e10 e11 : Sl} {rows : PyData} {n : Nat} {kvs' : Tab} {E : Ends} (hn : n ≤ 30)
    (k : TI F0 H0 O0 D F H σ (eT8 e0 e1 e2 rows n .dead .dead .dead .dead e9 e10 e11) []) (hr : tabT cell rows n (List.range n) [] = some kvs')
    (fin : ∀ σ' F' H' x6 x7 x8, TI F0 H0 O0 D F' H' σ' (eT8 e0 e1 e2 rows n .dead x6 x7 x8 e9 e10 e11) kvs' → E.nx σ' H') :
    tFor (tDI (fiRange1 (fName 4))) (tG us6 (fgName 6)) (tFor (tDI (fiRange1 (fName 4))) (tG us7 (fgName 7)) (tCell fDue tC tr fLen)) E σ H := by
  refine ⟨F, _, _, _, k.rep, ev_range1' n (by omega), fun J F1 H1 g1 rep1 wk => ?_⟩
  have k1 := k.along g1 rep1
  refine ⟨fun i m σi Hi => m = n - i ∧ i ≤ n ∧ ∃ Fi x6 x7 x8 ki, (∀ b ds, x6 ≠ .own b ds) ∧ (∀ b ds, x7 ≠ .own b ds) ∧ (∀ b ds, x8 ≠ .own b ds) ∧ TI F0 H0 O0 D Fi Hi σi (eT8 e0 e1 e2 rows n .dead x6 x7 x8 e9 e10 e11) ki ∧ Same F1 Fi ∧ KB ki i 0 ∧ tabT cell rows n ((List.range n).drop i) ki = some kvs',
    ⟨n, rfl, Nat.zero_le _, F1, .dead, .dead, .dead, [], (fun _ _ z => nomatch z), (fun _ _ z => nomatch z), (fun _ _ z => nomatch z), k1, .refl _, ⟨fun k hk => (by cases hk), Nat.zero_le _⟩, hr⟩, ?_⟩
  rintro i m σi Hi ⟨rfl, hi, Fi, y6, y7, y8, ki, q6, q7, q8, ti, si, kbi, hri⟩
  obtain ⟨w1, w2⟩ := wk i Fi Hi si ti.rep.sub
  by_cases hlt : i < n
  · obtain ⟨hgo, hy⟩ := w1 _ (rangeD_at hlt)
    rw [drop_cons (range_at hlt), tabT] at hri
    simp only [Option.bind_eq_some_iff] at hri
    obtain ⟨a, hrow, hri⟩ := hri
    refine .inr ⟨hgo, fun σ' H' => ∃ Fi x6 x7 x8 ki, (∀ b ds, x6 ≠ .own b ds) ∧ (∀ b ds, x7 ≠ .own b ds) ∧ (∀ b ds, x8 ≠ .own b ds) ∧ TI F0 H0 O0 D Fi H' σ' (eT8 e0 e1 e2 rows n .dead x6 x7 x8 e9 e10 e11) ki ∧ Same F1 Fi ∧ KB ki (i + 1) 0 ∧ tabT cell rows n ((List.range n).drop (i + 1)) ki = some kvs', fun σ' H' p' => ⟨n - (i + 1), by omega, rfl, hlt, p'⟩, fun x H2 yy => ?_⟩
    obtain ⟨F2, ex, hd⟩ := hy x H2 yy
    have t2 := ti.ext ex
    refine ⟨F2, _, _, eT8 e0 e1 e2 rows n .dead (.dat (.int i)) y7 y8 e9 e10 e11, t2.rep, hd, if_pos (show 6 < 12 by decide), fun σ5 rep5 o5 l5 q5 => ?_⟩
    have t5 : TI F0 H0 O0 D F2 H2 σ5 (eT8 e0 e1 e2 rows n .dead (.dat (.int i)) y7 y8 e9 e10 e11) ki := t2.frame rep5 o5 (q5 5 h56)
    refine row_ok hc h57 hn hlt q7 q8 t5 kbi hrow fun σ' F' H' z7 z8 r7 r8 s' t' kb' => ?_
    exact ⟨F', .dat (.int i), z7, z8, a, (fun _ _ z => nomatch z), r7, r8, t', si.trans (ex.fz.trans s'), kb'.row hn, hri⟩
  · have e0' : i = n := by omega
    subst e0'
    rw [List.drop_of_length_le (by rw [List.length_range]; exact Nat.le_refl _)] at hri
    cases hri
    exact .inl ⟨w2 (by rw [rangeD_length]), fin _ _ _ _ _ _ ti⟩
end
/-- what stood apart joins the data -/
theorem Rep.joinO {F H : Hp} {σ : L2.St} {env : Env} {a : Addr} {o : HO} {d : PyData} {i : Nat} (rep : Rep F H σ env) (p : Apart F H σ env a o) (hi : env[i]? = some .dead) (hv : σ[i]? = some (some (.ref a))) (hd : HD (upd F a o) (.ref a) d) : Rep (upd F a o) H σ (env.set i (.dat d)) ∧ OwLe (OwA σ (env.set i (.dat d))) (OwA σ env) := by
  have sm : Same F (upd F a o) := same_new p.f
  have own : ∀ (j : Nat) b es, (env.set i (.dat d))[j]? = some (.own b es) → env[j]? = some (.own b es) := fun j b es h => by
    rcases set_cases h with ⟨_, z⟩ | ⟨_, z⟩
    · cases z
    · exact z
  refine ⟨⟨fun b x e => ?_, by rw [List.length_set]; exact rep.len, fun j e hj => ?_, fun j e hj => ?_, fun j b es hj => ?_, fun j j' b b' ds es c h h' => rep.ne j j' b b' ds es c (own j b ds h) (own j' b' es h')⟩, fun b ⟨j, c, es, h1, h2⟩ => ⟨j, c, es, own j c es h1, h2⟩, fun b ⟨j, es, h1, h2⟩ => ⟨j, es, own j true es h1, h2⟩⟩
  · by_cases hb : b = a
    · subst hb; rw [upd_same] at e; cases e; exact p.h
    · rw [upd_ne hb] at e; exact rep.sub b x e
  · rcases set_cases hj with ⟨e1, z⟩ | ⟨_, z⟩
    · cases z
      subst e1
      exact ⟨_, hv, hd⟩
    · obtain ⟨v, q1, q2⟩ := rep.dat j e z
      exact ⟨v, q1, q2.mono sm⟩
  · rcases set_cases hj with ⟨_, z⟩ | ⟨_, z⟩
    · cases z
    · obtain ⟨v, q1, q2⟩ := rep.ob j e z
      exact ⟨v, q1, q2.mono sm⟩
  · have h := own j b es hj
    obtain ⟨c, ws, q1, q2, q3, q4⟩ := rep.own j b es h
    refine ⟨c, ws, q1, ?_, q3, q4.mono sm⟩
    rw [upd_ne (fun z => p.no (by subst z; exact ⟨j, b, es, h, q1⟩))]
    exact q2
theorem tab_hd {F : Hp} {D : Addr} (kvs : Tab) (h : F D = some (hoT kvs)) : HD F (.ref D) (tabD kvs) := by
  refine .dct (kvs := kvs.map fun e => (e.1, V.int e.2)) (ds := kvs.map fun e => .int e.2) h ?_ ?_
  · rw [List.map_map]
    have : ∀ l : Tab, HDs F (l.map ((fun x => x.2) ∘ fun e => (e.1, V.int e.2))) (l.map fun e => PyData.int e.2) := fun l => by
      induction l with
      | nil => exact .nil
      | cons x r ih => exact .cons (.int x.2) ih
    exact this kvs
  · rw [List.map_map, List.map_map]
    rfl
theorem tab_imp {cell : Cell} {fDue fLen : FE} {tC : FT} {tr : TS} {us6 us7 : List Nat} (hc : CellOk cell fDue fLen tC) (h56 : 5 ∉ us6) (h57 : 5 ∉ us7) (g : FS) (E : Ends) (σ : L2.St) (H : Hp) (h : tS (fsSeq (fTab cell) g) E σ H) :
    tSeq (tAsg tDNewT (gName 5)) (tSeq (tFor (tDI (fiRange1 (fName 4))) (tG us6 (fgName 6)) (tFor (tDI (fiRange1 (fName 4))) (tG us7 (fgName 7)) (tCell fDue tC tr fLen))) (tS g)) E σ H := by
  obtain ⟨F, env, out, rep, e, k⟩ := h
  simp only [fsSeq, Option.bind_eq_some_iff] at e
  obtain ⟨o, q1, q2⟩ := e
  unfold fTab at q1
  split at q1
  · rename_i e0 e1 e2 rows n e9 e10 e11
    split at q1
    · rename_i hn
      simp only [Option.map_eq_some_iff] at q1
      obtain ⟨kvs, ht, rfl⟩ := q1
      obtain ⟨m, rfl⟩ : ∃ m : Nat, n = (m : Int) := ⟨n.toNat, by omega⟩
      rw [Int.toNat_natCast] at ht
      intro D hD
      have ow : ¬ OwnA σ (eT8 e0 e1 e2 rows m .dead .dead .dead .dead e9 e10 e11) D := fun ⟨j, c, ds, z1, z2⟩ => by
        obtain ⟨a, ws, w1, w2, w3, w4⟩ := rep.own j c ds z1
        rw [z2] at w1
        cases w1
        rw [hD] at w3
        cases w3
      have ex : Ext F H F (upd H D (.dT [])) := ⟨.refl _, rep.sub.trans (same_new hD), same_new hD, fun _ z => .inl z⟩
      have rep1 := rep.ext ex
      obtain ⟨rep2, o2⟩ := rep1.store (i := 5) (v := .ref D) (s := .dead) (show 5 < 12 by decide) (fun _ z => nomatch z) (fun _ z => nomatch z) (fun _ _ z => nomatch z)
      have len : σ.length = 12 := rep.len.symm
      have a1 : Apart F (upd H D (.dT [])) σ (eT8 e0 e1 e2 rows m .dead .dead .dead .dead e9 e10 e11) D (hoT []) := ⟨rep.sub.free hD, upd_same, ow, fun _ z => nomatch z⟩
      have k1 : TI F H (OwA σ (eT8 e0 e1 e2 rows m .dead .dead .dead .dead e9 e10 e11)) D F (upd H D (.dT [])) (σ.set 5 (some (.ref D))) (eT8 e0 e1 e2 rows m .dead .dead .dead .dead e9 e10 e11) [] :=
        ⟨rep2, (Go.of_ext ex).sub_own o2, a1.frame o2, hD, List.getElem?_set_self (by rw [len]; decide)⟩
      refine tab_ok hc h56 h57 (by omega) k1 ht fun σ' F' H' x6 x7 x8 kt => ?_
      have rk := kt.rep.kill (vs := [6, 7, 8])
      have dk : Apart F' H' σ' (kill (eT8 e0 e1 e2 rows m .dead x6 x7 x8 e9 e10 e11) [6, 7, 8]) D (hoT kvs) := kt.d.frame own_kill
      obtain ⟨r5, o5⟩ := rk.joinO (i := 5) dk rfl kt.at5 (tab_hd kvs upd_same)
      have go : Go F H (OwA σ (eT8 e0 e1 e2 rows m .dead .dead .dead .dead e9 e10 e11)) (upd F' D (hoT kvs)) H' (OwA σ' ((kill (eT8 e0 e1 e2 rows m .dead x6 x7 x8 e9 e10 e11) [6, 7, 8]).set 5 (.dat (tabD kvs)))) := by
        have g1 := ((kt.go.sub_own own_kill).sub_own o5)
        refine ⟨g1.fz.trans (same_new kt.d.f), g1.frame, g1.dom, fun b hb => ?_, g1.own, g1.bor⟩
        by_cases z : b = D
        · subst z; exact .inr (.inl (.of hD))
        · rw [upd_ne z] at hb; exact g1.fresh b hb
      exact ⟨_, _, out, r5, q2, k.later go⟩
    · cases q1
  · cases q1
theorem db_tab {X : Cx} {s1 s2 : Stmt} {rest : List Stmt} {cell : Cell} {fDue fLen : FE} {tC : FT} {tr : TS} {us6 us7 : List Nat} {g : FS} (hc : CellOk cell fDue fLen tC) (h1 : PS X s1 (tAsg tDNewT (gName 5))) (h2 : PS X s2 (tFor (tDI (fiRange1 (fName 4))) (tG us6 (fgName 6)) (tFor (tDI (fiRange1 (fName 4))) (tG us7 (fgName 7)) (tCell fDue tC tr fLen)))) (h3 : DB X rest g) (h56 : 5 ∉ us6 := by decide) (h57 : 5 ∉ us7 := by decide) : DB X (s1 :: s2 :: rest) (fsSeq (fTab cell) g) :=
  PSs.imp (pss_cons h1 (pss_cons h2 h3)) (tab_imp hc h56 h57 g)
end DL

/-! DL23: a promise that asks what never holds, for a def that changes its list; xs.insert(k, e). -/
namespace DL
open PySem PySem.Spec PyProof.Rows L2
theorem fnT_none {P : Program} {w : World} {K : PySem.W.Frag} {mg : Str → Option Value} {base : Heap} {x qual : Str} {args : Arguments} {body : List Stmt} {scope : Scope} {f : Addr} {fd : FuncData} {N ps : List Str} {k n : Nat} (F : FunD K x qual args body scope [] [] f fd) (S : FnScope N ps scope) (hn : ps.length = n) :
    FnOk P w K mg base CX0 (k + 1) f fd ps (spT n fun _ _ => none) := by
  refine F.ok S (fun vs H Q E h => ?_) (fun cdv A outer s H vs Q E hr h => ?_)
  · obtain ⟨F, t, tvs, ts, us, ds, r, ts', rfl, _, _, _, _, hs, h1, _⟩ := h
    rw [List.length_cons, hs.length]
    exact h1.trans hn.symm
  · obtain ⟨F, t, tvs, ts, us, ds, r, ts', _, _, _, _, _, _, _, e, _⟩ := h
    cases e
section
variable {X : Cx}
/-- xs.insert(k, e), xs a name -/
theorem ds_ins {x : Str} {p apos cpos pos : Pos} {ke e : Expr} {fk fa : FE} (i : Nat) (hk : DE X ke fk) (he : DE X e fa) (hx : PE X (.Name x p) (tVar i))
    (hbase : attributeBase (.Name x p) "insert" X.env (eval (.Name x p) X.env) = eval (.Name x p) X.env := by rfl)
    (hfew : ((backTo cpos (starEach [ke, e] X.env)).all (fun x => !x.1) && (backToKw cpos (keywordEach [] X.env)).all (fun x => x.1.isSome)
      && decide ([ke, e].length + ([] : List Keyword).length + (if ([] : List Keyword).isEmpty then 0 else 1) < 30)) = true := by rfl)
    (hline : (apos.endLine == cpos.line) = true := by rfl) (hs : starEach [ke, e] X.env = (false, eval ke X.env) :: starEach [e] X.env := by rfl) (hs2 : starEach [e] X.env = (false, eval e X.env) :: starEach [] X.env := by rfl) (hplain : (backTo cpos (starEach [e] X.env)).any (·.1) = false := by rfl)
    (hsw : swapsWith (.Call (.Attribute (.Name x p) "insert" apos) [ke, e] [] cpos) none pos.line X.env = pure false := by rfl) : DS X (.Expr (.Call (.Attribute (.Name x p) "insert" apos) [ke, e] [] cpos) pos) (fsIns i fk fa) :=
  PS.imp (ps_expr (pe_bm PySem.F.plainAttrs_list PySem.F.slot_list_insert PySem.F.type_list_insert mt_insert hx (pa_cons hk (pa_cons he pa_nil hs2) hs) hbase hfew hline hs hplain) hsw) fun D σ H h => by
  obtain ⟨F, env, out, rep, e, k⟩ := h
  simp only [fsIns] at e
  split at e
  · rename_i c0 ds0 hds0
    obtain ⟨l, vs0, hv, hf0, hl0, _⟩ := rep.own i c0 ds0 hds0
    simp only [Option.bind_eq_some_iff] at e
    obtain ⟨⟨r1, e1⟩, h1, h2⟩ := e
    split at h2
    · rename_i r' kk hr
      simp only at hr
      subst hr
      simp only [Option.bind_eq_some_iff] at h2
      obtain ⟨⟨r2, e2⟩, h3, ⟨d, e3⟩, h4, h5⟩ := h2
      simp only at h5
      split at h5
      · rename_i c ds hds
        split at h5
        · rename_i hb
          obtain ⟨b1, b2, b3⟩ := hb
          cases h5
          refine ⟨_, hv, .inl ⟨rfl, _, .of hl0⟩, F, env, _, e1, rep, h1, fun v F1 H1 g1 rep1 ok1 => ?_⟩
          have hw : v = .int kk := by
            cases ok1 with
            | dat h => cases h; rfl
          subst hw
          refine ⟨F1, e1, r2, e2, rep1, h3, fun w F2 H2 g2 rep2 ok2 => ?_⟩
          obtain ⟨F3, g3, rep3, hd⟩ := ok2.frz g2 rep2 h4
          obtain ⟨l', vs, q1, q2, q3, q4⟩ := rep3.own i c ds hds
          rw [hv] at q1
          cases q1
          have hs' : HDs F3 (vs.take kk.toNat ++ [w] ++ vs.drop kk.toNat) (ds.take kk.toNat ++ [d] ++ ds.drop kk.toNat) := ((q4.take _).append (.cons hd .nil)).append (q4.drop _)
          obtain ⟨rep4, g4⟩ := own_mut rep3 hds hv q2 q3 hs'
          exact ⟨l, vs, kk, w, rfl, rfl, q3, by rw [q4.length]; exact b3, b1, by omega, k σ F3 _ ((g1.trans g3).trans g4) rep4⟩
        · cases h5
      · cases h5
    · cases h2
  · cases e
end
end DL

/-! DL24: t[::-1], t a tuple. -/
namespace DL
open PySem PySem.Spec PyProof.Rows L2
section
variable {prog : Program} {w : World} {A : Around} {E : Value → Shared → Prop} {s : Shared}
theorem adjust_back (n : Nat) : Builtin.Slice.sliceAdjust none none (-1) (n : Int) = ((n : Int) - 1, -1) := by
  unfold Builtin.Slice.sliceAdjust
  rfl
theorem places_back (n : Nat) : Builtin.Slice.slicePlaces ((n : Int) - 1) (-1) (-1) = n := by
  unfold Builtin.Slice.slicePlaces
  have h1 : ¬ ((-1 : Int) > 0) := by omega
  simp only [h1, if_false]
  rw [show (- -1 : Int) = 1 by decide, Int.ediv_one]
  split <;> omega
theorem applied_back {sl : Addr} {vl vu vs : Value} {n : Nat} {Q : Int × Int × Nat → Shared → Prop} (hs : s.heap.IsSliceOf sl vl vu vs) (pl : IsPart vl none) (pu : IsPart vu none) (ps : IsPart vs (some (-1)))
    (h : Q ((n : Int) - 1, -1, n) s) : wpAny (model prog w) A (Builtin.Slice.sliceApplied (.ref sl) (pure (n : Int))) Q E s := by
  obtain ⟨os, hos, hcs, hds⟩ := id hs
  unfold Builtin.Slice.sliceApplied Builtin.Slice.sliceFields
  refine wpAny_bind (wpAny_bind (wpAny_field hos hds (x := vl) rfl (wpAny_bind (wpAny_field hos hds (x := vu) rfl (wpAny_bind (wpAny_field hos hds (x := vs) rfl (wpAny_pure ?_)))))))
  refine wpAny_bind (HT.slicePart_ ps ?_)
  show wpAny _ _ (if ((-1 : Int) == 0) = true then _ else _) _ _ s
  rw [if_neg (by decide)]
  refine wpAny_bind (HT.slicePart_ pl (wpAny_bind (HT.slicePart_ pu (wpAny_bind (wpAny_pure ?_)))))
  show wpAny _ _ (match Builtin.Slice.sliceAdjust none none (-1) (n : Int) with | (lo, hi) => pure (lo, (-1 : Int), Builtin.Slice.slicePlaces lo hi (-1))) _ _ s
  rw [adjust_back n]
  show wpAny _ _ (pure ((n : Int) - 1, (-1 : Int), Builtin.Slice.slicePlaces ((n : Int) - 1) (-1) (-1))) _ _ s
  rw [places_back]
  exact wpAny_pure h
theorem pick_back (xs : Array Value) : ((List.range xs.size).filterMap fun (m : Nat) => xs[((xs.size : Int) - 1 + (m : Int) * (-1)).toNat]?).toArray = xs.toList.reverse.toArray := by
  have e : (List.range xs.size).filterMap (fun (m : Nat) => xs[((xs.size : Int) - 1 + (m : Int) * (-1)).toNat]?) = ((List.range xs.size).map fun k => xs.size - 1 - k).filterMap (xs[·]?) := by
    rw [List.filterMap_map]
    congr 1
    funext m
    show _ = xs[xs.size - 1 - m]?
    rw [show ((xs.size : Int) - 1 + (m : Int) * (-1)).toNat = xs.size - 1 - m by omega]
  rw [e, PySem.W.krv_range, List.filterMap_reverse, PySem.W.krv_all]
theorem getItem_tuple_back {t sl : Addr} {items : Array Value} {vl vu vs : Value} {Q : Value → Shared → Prop} (ht : IsTup s.heap t items) (hs : s.heap.IsSliceOf sl vl vu vs) (pl : IsPart vl none) (pu : IsPart vu none) (ps : IsPart vs (some (-1)))
    (h : Q (.ref s.heap.objs.size) { s with heap := s.heap.push { cls := .type "tuple", data := .seq items.toList.reverse.toArray } })
    (hsz : items.size ≤ sizeLine) : wpAny (model prog w) A (getItem (.ref t) (.ref sl)) Q E s := by
  have htake : sizeOk (.seq items.toList.reverse.toArray) := by
    show items.toList.reverse.toArray.size ≤ sizeLine
    rw [List.size_toArray, List.length_reverse, Array.length_toList]
    exact hsz
  obtain ⟨os, hos, hcs, hds⟩ := id hs
  have hTs : s.TypeIs (.ref sl) "slice" := ⟨os, hos, hcs⟩
  unfold getItem
  try with_reducible refine wpAny_holding ?_
  first | refine wpAny_bind (wpAny_pure ?_) | skip
  refine wpAny_bind (wpAny_sequenceKey ht.typeIs (by decide) ?_)
  refine wpAny_bind (wpAny_callSpecial?_slot (name := Str.ofString "__getitem__") ht.typeIs PyProof.Rows.slot_tuple_getitem
    (wpAny_call_entry PyProof.Rows.slot_tuple_getitem ht.typeIs entry_tuple_getitem ?_ (args_tuple_getitem _ _)))
  show wpAny _ _ (Builtin.Tuple.tupleItemsOf (.ref t) >>= _) _ _ s
  refine wpAny_bind (tupleItemsOf_ ht ?_)
  refine wpAny_bind (wpAny_typeOf hTs ?_)
  rw [if_pos (by decide)]
  refine wpAny_bind (applied_back hs pl pu ps ?_)
  have hno : ¬ ((((items.size : Int) - 1) == 0 && (-1 : Int) == 1 && items.size == items.size) = true) := by
    intro q
    rw [Bool.and_eq_true, Bool.and_eq_true] at q
    exact absurd q.1.2 (by decide)
  show wpAny _ _ (if ((((items.size : Int) - 1) == 0 && (-1 : Int) == 1 && items.size == items.size)) = true then _ else _) _ _ s
  rw [if_neg hno, pick_back]
  first
    | exact wpAny_bind (m := Builtin.Tuple.tupleExact _) (wpAny_newObj_type (wpAny_pure ⟨_, rfl, wpAny_pure h⟩) htake)
    | exact wpAny_bind (m := Builtin.Tuple.tupleExact _) (wpAny_newObj_type (wpAny_bind (wpAny_pure (wpAny_pure ⟨_, rfl, wpAny_pure h⟩))) htake)
    | exact wpAny_bind (wpAny_bind (m := Builtin.Tuple.tupleExact _) (wpAny_newObj_type (wpAny_pure (wpAny_pure ⟨_, rfl, wpAny_pure h⟩)) htake))
    | exact wpAny_bind (wpAny_bind (m := Builtin.Tuple.tupleExact _) (wpAny_newObj_type (wpAny_pure ⟨_, rfl, wpAny_pure h⟩) htake))
end
def tRevT (K : PySem.W.Frag) (te : TE) : TE := fun σ H Q => te σ H fun x H1 => ∃ a xs, x = .ref a ∧ SqT K H1 a xs ∧ ∀ p, H1 p = none → Q (.ref p) (upd H1 p (.tup xs.reverse))
section
variable {X : Cx}
theorem pe_revT {e : Expr} {te : TE} {k : Nat} {p1 p2 p3 pos : Pos} (he : PE X e te) : PE X (.Subscript e (.Slice none none (some (.UnaryOp .USub (.Constant (.int 1) k p1) p2)) p3) pos) (tRevT X.K te) := by
  refine ⟨fun pins s σ H Q I h => ?_⟩
  refine Subscript_ (thn (he.run pins s σ H _ I h) fun v s1 ⟨x, H1, I1, r1, q1⟩ => ?_)
  obtain ⟨a, xs, ex, hx, q⟩ := q1
  subst ex
  cases r1
  have back1 : PO X (some (.UnaryOp .USub (.Constant (.int 1) k p1) p2)) (tPart (tUn (rU fun i => .int (-i)) (tC (.int 1)))) := po_some (pe_un un_neg pe_int)
  refine wpAny_Slice (thn (po_none.run pins s1 σ H1 (fun z Ha => z = none ∧ Ha = H1) I1 ⟨rfl, rfl⟩) fun vl s2 ⟨l, H2, I2, pl, el, e2⟩ => ?_)
  subst el e2
  refine thn (po_none.run pins s2 σ H2 (fun z Ha => z = none ∧ Ha = H2) I2 ⟨rfl, rfl⟩) fun vu s3 ⟨u, H3, I3, pu, eu, e3⟩ => ?_
  subst eu e3
  refine thn (back1.run pins s3 σ H3 (fun z Ha => z = some (-1) ∧ Ha = H3) I3 ⟨1, rfl, -1, rfl, rfl, rfl⟩) fun vs s4 ⟨o, H4, I4, ps, eo, e4⟩ => ?_
  subst eo e4
  have I5 : Inv X pins σ H4 { s4 with heap := s4.heap.push { cls := .type "slice", data := .fields #[vl, vu, vs] } } := I4.kept (t' := s4.toks) fun b ob z => Heap.get?_push_of_some _ z
  obtain ⟨its, r, ht, hz⟩ := I5.tuple hx
  have hlen := r.length
  show wpAny (model X.prog X.w) X.A (subscriptTail e (.Slice none none (some (.UnaryOp .USub (.Constant (.int 1) k p1) p2)) p3) (.ref a) (.ref s4.heap.objs.size)) (EP X pins σ Q) X.xe { s4 with heap := s4.heap.push { cls := .type "slice", data := .fields #[vl, vu, vs] } }
  refine tail_any (ops := [.ref a, .ref s4.heap.objs.size]) ht.typeIs (PyProof.Rows.slot_tuple_getitem.lookup) ?_ (by with_unfolding_all rfl)
  refine getItem_tuple_back ht (Heap.IsSliceOf.new _ vl vu vs) pl pu ps ?_ (by rw [List.size_toArray]; omega)
  refine ⟨.ref _, _, I5.laid (t' := s4.toks) (o := .tup xs.reverse) (fun b ob z => Heap.get?_push_of_some _ z) (Nat.le_refl _) ?_, rfl, q _ (I5.hok.fresh (Nat.le_refl _))⟩
  exact ⟨by rw [List.length_reverse]; exact hz, _, r.reverse, IsTup.new _ _⟩
theorem de_revT {e : Expr} {fa : FE} {k : Nat} {p1 p2 p3 pos : Pos} (he : DE X e fa) : DE X (.Subscript e (.Slice none none (some (.UnaryOp .USub (.Constant (.int 1) k p1) p2)) p3) pos) (fUn opRevT fa) := PE.imp (pe_revT he) fun σ H Q h => by
  obtain ⟨F, env, r, env', rep, e, k⟩ := h
  simp only [fUn, Option.bind_eq_some_iff, Option.map_eq_some_iff] at e
  obtain ⟨⟨r1, e1⟩, h1, x, hx, z, hz, e3⟩ := e
  cases e3
  refine ⟨F, env, r1, _, rep, h1, fun v F1 H1 g1 rep1 ok1 => ?_⟩
  unfold opRevT at hz
  split at hz
  · cases hz
    obtain ⟨a, vs, rfl, ha, hs⟩ := (ok1.view rep1 hx).tuple
    exact ⟨a, vs, rfl, .of (rep1.sub _ _ ha), fun p hp => (g1.ret rep1 k).tup rep1.sub hs.reverse hp⟩
  · cases hz
end
end DL

/-! DL25: a head's facts of any kind; x in T, T a tuple of the module. -/
namespace DL
open PySem PySem.Spec PyProof.Rows L2
abbrev AlX : Type := Bool × He.AlD
abbrev Facts := List (PySem.W.Frag → Bool)
def obsX (fa : List He.Fa) (fn : List He.DefD) (ps : Facts) (K : PySem.W.Frag) : AlX := (ps.all fun p => p K, He.obsD fa fn K)
def valX (fn : List He.DefD) : AlX := (true, He.valD fn)
def obsXG (n : Nat) (fa : List He.Fa) (fn : List He.DefD) (ps : Facts) (g : Addr → Option Obj) : AlX := obsX fa fn ps (He.frG g (He.asD g n))
structure SaysX (fa : List He.Fa) (fn : List He.DefD) (ps : Facts) (K : PySem.W.Frag) : Prop where
  d : He.SaysD fa fn K
  ps : (ps.all fun p => p K) = true
theorem SaysX.of {fa : List He.Fa} {fn : List He.DefD} {ps : Facts} {K : PySem.W.Frag} (h : obsX fa fn ps K = valX fn) : SaysX fa fn ps K := ⟨congrArg (fun z : AlX => z.2) h, congrArg (fun z : AlX => z.1) h⟩
theorem SaysX.own {fa : List He.Fa} {fn : List He.DefD} {ps : Facts} {K : PySem.W.Frag} (c : SaysX fa fn ps K) (i : Nat) {p : PySem.W.Frag → Bool} (h : ps[i]? = some p := by rfl) : p K = true := List.all_eq_true.mp c.ps p (List.mem_of_getElem? h)
def hookX (n : Nat) (fa : List He.Fa) (fn : List He.DefD) (ps : Facts) : PySem.W.Hook where
  α := AlX
  obs := fun s => obsXG n fa fn ps s.heap.get?
  val := fun _ => valX fn
  says := fun _ h => ∃ K : PySem.W.Frag, K.In h ∧ SaysX fa fn ps K
  of := fun _ _ e => ⟨_, He.frG_in, .of e⟩
  keeps := fun _ _ _ ⟨K, hK, c⟩ k => ⟨K, PySem.W.Frag.In.keeps hK k, c⟩
theorem obsXG_eq {n : Nat} {fa : List He.Fa} {fn : List He.DefD} {ps : Facts} {g : Addr → Option Obj} {s : Shared} (h : ∀ a, g a = s.heap.get? a) : obsXG n fa fn ps g = (hookX n fa fn ps).obs s := by
  have e : g = s.heap.get? := funext h
  rw [e]
  rfl
/-- the module's name x stands for a tuple of these texts -/
def tupS (x : Str) (ys : List Str) (K : PySem.W.Frag) : Bool := He.tupB K x (ys.map He.Dv.str) && (He.Fa.glo x).ok K
/-- a tuple of texts that stands in the module -/
def TupAt (K : PySem.W.Frag) (mg : Str → Option Value) (x : Str) (ys : List Str) : Prop := ∃ a, mg x = some (.ref a) ∧ ∀ H, SqT K H a (ys.map V.str)
theorem tupS_ok {K : PySem.W.Frag} {h : Heap} {mg : Str → Option Value} {x : Str} {ys : List Str} (X : K.In h) (G : h.Ns mainGlobals mg) (c : tupS x ys K = true) : TupAt K mg x ys := by
  unfold tupS at c
  rw [Bool.and_eq_true] at c
  refine ⟨_, He.glo_ok X G c.2, fun H => ?_⟩
  have := He.tupB_ok c.1 H
  rwa [List.map_map] at this
section
variable {X : Cx}
theorem flat_strs : ∀ ys : List Str, (ys.map V.str).all flatV = true
  | [] => rfl
  | _ :: r => flat_strs r
theorem hds_strs (F : Hp) : ∀ ys : List Str, HDs F (ys.map V.str) (ys.map PyData.str)
  | [] => .nil
  | y :: r => .cons (.str y) (hds_strs F r)
theorem flatD_strs : ∀ ys : List Str, (ys.map PyData.str).all flatD = true
  | [] => rfl
  | _ :: r => flatD_strs r
theorem de_inK {a : Expr} {fa : FE} {x : Str} {ys : List Str} {p pos : Pos} (hg : Gl X x) (hT : TupAt X.K X.mg x ys) (ha : DE X a fa) (hm : behindInMarks .In (.Name x p) = false) (hdb : (x == ("__debug__" : Str)) = false := by decide) :
    DE X (.Compare a [.In] [.Name x p] pos) (fUn (opInK false (ys.map PyData.str)) fa) := by
  obtain ⟨t, hx, hs⟩ := hT
  refine PE.imp (pe_cmpR op_in_seq ha (pe_glob (v := .ref t) hg hx rfl hdb) hm) fun σ H Q h => ?_
  obtain ⟨F, env, r, env', rep, e, k⟩ := h
  simp only [fUn, Option.bind_eq_some_iff, Option.map_eq_some_iff] at e
  obtain ⟨⟨r1, e1⟩, h1, d, hd, z, hz, e3⟩ := e
  cases e3
  refine ⟨F, env, r1, _, rep, h1, fun v F1 H1 g1 rep1 ok1 => ?_⟩
  unfold opInK at hz
  split at hz
  · rename_i hf
    cases hz
    have hv := (ok1.view rep1 hd).hd rep1.sub
    refine ⟨t, _, rfl, .inr (hs H1), flat_of hv hf, flat_strs ys, ?_⟩
    rw [in_flat hv hf (hds_strs H1 ys) (flatD_strs ys)]
    have q := (g1.ret rep1 k).bool rep1.sub
    rw [Bool.false_xor] at q
    exact q
  · cases hz
end
end DL

/-! DL26: defs that may raise an exception of the module's own. -/
namespace DL
open PySem PySem.Spec PyProof.Rows L2
/-- what such a def gives: the name of the exception's class, or a result -/
abbrev FnX := List PyData → Option (Str ⊕ Rs)
def ResX (K : PySem.W.Frag) (F H : Hp) (Q : VK) (E : XK) : Str ⊕ Rs → Prop
  | .inr z => RetW F H z Q
  | .inl x => ∀ H', Same H H' → E (.ref (He.ga K x)) none H'
def spX (K : PySem.W.Frag) (n : Nat) (R : FnX) : Sp := fun vs H Q E => ∃ F ds r, Same F H ∧ HDs F vs ds ∧ ds.length = n ∧ R ds = some r ∧ ResX K F H Q E r
/-- where it does not raise -/
def unX (R : FnX) : Fn := fun ds => match R ds with
  | some (.inr r) => some r
  | _ => none
theorem spX_of {K : PySem.W.Frag} {n : Nat} {R : FnX} {vs : List V} {H : Hp} {Q : VK} {E : XK} (h : spD n (unX R) vs H Q E) : spX K n R vs H Q E := by
  obtain ⟨F, ds, r, sm, hs, hn, e, k⟩ := h
  unfold unX at e
  split at e
  · rename_i r' hr
    cases e
    exact ⟨F, ds, .inr r, sm, hs, hn, hr, k⟩
  · cases e
/-! ### bodies -/
abbrev FSX := Env → Option (Str ⊕ Out)
def OutX (K : PySem.W.Frag) (D : Ends) (E : XK) (F H : Hp) (O : Ow) : Str ⊕ Out → Prop
  | .inr o => OutW D F H O o
  | .inl x => ∀ F' H' O', Go F H O F' H' O' → E (.ref (He.ga K x)) none H'
def tSX (K : PySem.W.Frag) (E : XK) (g : FSX) : TS := fun D σ H => ∃ F env out, Rep F H σ env ∧ g env = some out ∧ OutX K D E F H (OwA σ env) out
def fxEnd (g : FS) : FSX := fun env => (g env).map .inr
/-- if t: raise X(..) -/
def fxGuard (t : FT) (x : Str) (b : FSX) : FSX := fun env => (t env).bind fun p => if p.1 = true then some (.inl x) else b p.2
def fxSeq (a : FS) (b : FSX) : FSX := fun env => (a env).bind fun o => match o with
  | .nx e => b e
  | o => some (.inr o)
theorem OutX.later {K : PySem.W.Frag} {D : Ends} {E : XK} {F F' H H' : Hp} {O : Ow} {σ : L2.St} {env : Env} {o : Str ⊕ Out} (h : OutX K D E F H O o) (g : Go F H O F' H' (OwA σ env)) : OutX K D E F' H' (OwA σ env) o := by
  cases o with
  | inr o => exact OutW.later (o := o) h g
  | inl x => exact fun F1 H1 O1 g1 => h F1 H1 O1 (g.trans g1)
section
variable {X : Cx} {E : XK} {c e : Expr} {st : Stmt} {rest : List Stmt} {t : FT} {a : FS} {b : FSX} {g : FS} {x : Str} {p1 p2 : Pos}
theorem dx_end (h : DB X rest g) : PSs X rest (tSX X.K E (fxEnd g)) := PSs.imp h fun D σ H z => by
  obtain ⟨F, env, out, rep, e, k⟩ := z
  simp only [fxEnd, Option.map_eq_some_iff] at e
  obtain ⟨o, h1, h2⟩ := e
  cases h2
  exact ⟨F, env, o, rep, h1, k⟩
theorem dx_guard (hc : X.calm = true) (tk : L2N.Takes X fun cls d _ H => E cls d H) (ht : DT X c t) (hm : L2N.PMk X e fun _ H Q => Q (.ref (He.ga X.K x)) none H) (hr : PSs X rest (tSX X.K E b)) : PSs X (.If c [.Raise (some e) none p1] [] p2 :: rest) (tSX X.K E (fxGuard t x b)) :=
  PSs.imp (pss_cons (ps_if ht (pss_one (L2N.ps_raise hc tk hm)) pss_nil) hr) fun D σ H z => by
    obtain ⟨F, env, out, rep, e, k⟩ := z
    simp only [fxGuard, Option.bind_eq_some_iff] at e
    obtain ⟨⟨c1, e1⟩, h1, h2⟩ := e
    refine ⟨F, env, c1, e1, rep, h1, fun F1 H1 g1 rep1 => ?_⟩
    cases c1 with
    | true =>
      rw [if_pos rfl] at h2 ⊢
      cases h2
      exact k F1 H1 _ g1
    | false =>
      rw [if_neg (by simp)] at h2 ⊢
      exact ⟨F1, e1, out, rep1, h2, k.later g1⟩
theorem dx_seq (h1 : DS X st a) (hr : PSs X rest (tSX X.K E b)) : PSs X (st :: rest) (tSX X.K E (fxSeq a b)) := PSs.imp (pss_cons h1 hr) fun D σ H z => by
  obtain ⟨F, env, out, rep, e, k⟩ := z
  simp only [fxSeq, Option.bind_eq_some_iff] at e
  obtain ⟨o, q1, q2⟩ := e
  refine ⟨F, env, o, rep, q1, ?_⟩
  cases o with
  | nx e1 => exact fun σ1 F1 H1 g1 rep1 => ⟨F1, e1, out, rep1, q2, k.later g1⟩
  | bk e1 => cases q2; exact k
  | ct e1 => cases q2; exact k
  | rt r e1 => cases q2; exact k
end
/-- n slots, np parameters -/
def runX (np n : Nat) (b : FSX) : FnX := fun ds => if ds.length = np then (b (ds.map .dat ++ List.replicate (n - np) .dead)).bind fun o => match o with
    | .inl x => some (.inl x)
    | .inr o => (endOf o).map fun p => .inr p.1
  else none
section
variable {P : Program} {w : World} {K : PySem.W.Frag} {mg : Str → Option Value} {base : Heap}
theorem fnX_ok {x qual : Str} {params : Arguments} {body : List Stmt} {scope : Scope} {f : Addr} {fd : FuncData} {N ps : List Str} {k : Nat} {g : FSX} (F : FunD K x qual params body scope [] [] f fd) (S : FnScope N ps scope)
    (hb : ∀ (cdv : Value) (A : Around) (outer : List PySem.Env) (s : Shared) (H : Hp) (E : XK), Room k (A.deeper (envOfC qual scope s.heap.objs.size f cdv)) → PSs (cxOf (L2N.CX P w) P w K mg base N qual scope f cdv A outer s H E) body (tSX K E g)) :
    FnOk P w K mg base (L2N.CX P w) (k + 1) f fd ps (spX K ps.length (runX ps.length N.length g)) := by
  refine F.ok S (fun vs H Q E h => ?_) (fun cdv A outer s H vs Q E hr h => ⟨tSX K E g, hb cdv A outer s H E hr, ?_⟩)
  · obtain ⟨F, ds, r, _, hs, hn, _⟩ := h
    exact hs.length.trans hn
  · obtain ⟨F, ds, r, sm, hs, hn, e, k⟩ := h
    unfold runX at e
    rw [if_pos hn] at e
    simp only [Option.bind_eq_some_iff] at e
    obtain ⟨o, q1, q2⟩ := e
    rw [← hn] at q1
    refine ⟨F, _, o, rep_start sm hs, q1, ?_⟩
    have ex : ∀ {F' H' : Hp} {σ' : L2.St} {e' : Env}, Go F H (OwA (L2.start N vs) (ds.map Sl.dat ++ List.replicate (N.length - ds.length) .dead)) F' H' (OwA σ' e') → Rep F' H' σ' e' → Ext F H F' H' := fun g rep =>
      ⟨g.fz, rep.sub, fun b o => g.frame b o (own_start b), fun b hb => (g.fresh b hb).elim .inl fun z => z.elim .inr fun q => absurd q (own_start b)⟩
    cases o with
    | inl x =>
      cases q2
      exact fun F' H' O' g => k H' fun b o => g.frame b o (own_start b)
    | inr o =>
      simp only [Option.map_eq_some_iff] at q2
      obtain ⟨⟨r', e'⟩, q2, q3⟩ := q2
      cases q3
      have k' : RetW F H r' Q := k
      cases o with
      | bk _ => cases q2
      | ct _ => cases q2
      | nx e1 =>
        cases q2
        exact fun σ' F' H' g rep => k' .non F' H' (ex g rep) (.dat .non)
      | rt r1 e1 =>
        simp only [endOf, Option.map_eq_some_iff] at q2
        obtain ⟨r2, q3, q4⟩ := q2
        cases q4
        exact fun v σ' F' H' g rep ok => k' v F' H' (ex g rep) (res_out g rep ok q3 fun i a _ _ _ => own_start a)
end
theorem pass_noN {X : Cx} : Passes (L2N.CX X.prog X.w) X noE := fun pins σ H s e s' I h => by
  obtain ⟨_, _, _, _, _, _, _, _, _, _, _, _, z⟩ := h
  exact z.elim
end DL

/-! DL27: instances that stand, as data: fields, operators by own methods. -/
namespace DL
open PySem PySem.Spec PyProof.Rows L2
/-- an instance of the class at C with these attributes -/
def obD (C : Nat) (fs : List (Str × PyData)) : PyData := .dict ((.int C, .none) :: fs.map fun e => (.str e.1, e.2))
def isOb (C : Nat) : PyData → Option (List (PyData × PyData))
  | .dict ((.int c, .none) :: m) => if c = (C : Int) then some m else none
  | _ => none
def fldD (f : Str) : List (PyData × PyData) → Option PyData
  | [] => none
  | (.str g, d) :: r => if f = g then some d else fldD f r
  | _ :: _ => none
theorem isOb_obD (C : Nat) (fs : List (Str × PyData)) : isOb C (obD C fs) = some (fs.map fun e => (.str e.1, e.2)) := if_pos rfl
section
variable {F H : Hp} {v : V} {C : Nat} {d : PyData} {m : List (PyData × PyData)}
theorem zip_fld {f : Str} : ∀ {fs : List (Str × V)} {ds : List PyData} {d : PyData}, HDs F (fs.map (·.2)) ds → fldD f ((fs.map fun e => PyData.str e.1).zip ds) = some d → ∃ w, fs.lookup f = some w ∧ HD F w d
  | [], _, _, .nil, e => by cases e
  | (g, w) :: fs, _, d, .cons h hs, e => by
    have e' : (if f = g then some _ else fldD f ((fs.map fun e => PyData.str e.1).zip _)) = some d := e
    by_cases hfg : f = g
    · rw [if_pos hfg] at e'
      cases e'
      exact ⟨w, by rw [List.lookup_cons, hfg]; simp, h⟩
    · rw [if_neg hfg] at e'
      obtain ⟨w', h1, h2⟩ := zip_fld hs e'
      refine ⟨w', ?_, h2⟩
      rw [List.lookup_cons, show (f == g) = false from by simpa using hfg]
      exact h1
theorem HD.ob (h : HD F v d) (e : isOb C d = some m) : ∃ a dx fs ds, v = .ref a ∧ F a = some (.ins C dx fs) ∧ HDs F (fs.map (·.2)) ds ∧ m = (fs.map fun e => PyData.str e.1).zip ds := by
  cases h with
  | obj hp hs q =>
    subst q
    have e' : (if _ then some _ else none) = some m := e
    split at e'
    · rename_i hc
      cases e'
      have hc' := Int.ofNat.inj hc
      subst hc'
      exact ⟨_, _, _, _, rfl, hp, hs, rfl⟩
    · cases e'
  | dct hp hs q =>
    subst q
    rename_i kvs ds
    cases kvs with
    | nil => cases e
    | cons k r =>
      cases ds with
      | nil => cases e
      | cons d0 ds => cases e
  | _ => cases e
def isTupD : PyData → Bool
  | .tuple _ => true
  | _ => false
def isLst : PyData → Bool
  | .list _ => true
  | _ => false
theorem HV.dat' (h : HV F H v d) (n : isLst d = false) : HD F v d := by
  cases h with
  | dat h => exact h
  | lst _ _ _ => cases n
theorem HV.ob (h : HV F H v d) (e : isOb C d = some m) : HD F v d := h.dat' (by
  cases d with
  | list _ => cases e
  | _ => rfl)
end
/-- o.f, o an instance of the class at C -/
def opFld (C : Nat) (f : Str) (d : PyData) : Option Rs := (isOb C d).bind fun m => (fldD f m).map .dat
/-- o.f, f a property of the class -/
def opSelf (C : Nat) (R : Fn) (d : PyData) : Option Rs := (isOb C d).bind fun _ => R [d]
section
variable {X : Cx} {e : Expr} {fa : FE} {f : Str} {pos : Pos} {C : Addr} {k : Nat}
theorem de_fld (cl : Cls X.K C) (nf : NoAttr X.K C f) (he : DE X e fa) (hb : attributeBase e f X.env (eval e X.env) = eval e X.env := by rfl) : DE X (.Attribute e f pos) (fUn (opFld C f) fa) := PE.imp (pe_fld he hb) fun σ H Q h => by
  obtain ⟨F, env, r, env', rep, e0, k⟩ := h
  simp only [fUn, Option.bind_eq_some_iff, Option.map_eq_some_iff] at e0
  obtain ⟨⟨r1, e1⟩, h1, x, hx, z, hz, e3⟩ := e0
  cases e3
  refine ⟨F, env, r1, _, rep, h1, fun v F1 H1 g1 rep1 ok1 => ?_⟩
  simp only [opFld, Option.bind_eq_some_iff, Option.map_eq_some_iff] at hz
  obtain ⟨m, hm, d, hd, hz⟩ := hz
  cases hz
  obtain ⟨a, dx, fs, ds, rfl, ha, hs, rfl⟩ := ((ok1.view rep1 hx).ob hm).ob hm
  obtain ⟨w, l, hw⟩ := zip_fld hs hd
  exact ⟨a, C, dx, fs, w, rfl, rep1.sub _ _ ha, cl, nf, l, (g1.ret rep1 k).dat rep1.sub hw⟩
theorem de_prop {p g : Addr} {fd : FuncData} {R : Fn} (cl : Cls X.K C) (hp : PropOf X.K C f p g) (ok : FnOk X.prog X.w X.K X.mg X.base CX0 k g fd ["self"] (spD 1 R)) (hr : Room (k + 1) X.A) (hb : Binds X.K fd ["self"] []) (he : DE X e fa)
    (hab : attributeBase e f X.env (eval e X.env) = eval e X.env := by rfl) : DE X (.Attribute e f pos) (fUn (opSelf C R) fa) := PE.imp (pe_prop (E := noE) he cl hp ok hr hb .nil pass0 hab) fun σ H Q h => by
  obtain ⟨F, env, r, env', rep, e0, k⟩ := h
  simp only [fUn, Option.bind_eq_some_iff, Option.map_eq_some_iff] at e0
  obtain ⟨⟨r1, e1⟩, h1, x, hx, z, hz, e3⟩ := e0
  cases e3
  refine ⟨F, env, r1, _, rep, h1, fun v F1 H1 g1 rep1 ok1 => ?_⟩
  simp only [opSelf, Option.bind_eq_some_iff] at hz
  obtain ⟨m, hm, hz⟩ := hz
  have hd := (ok1.view rep1 hx).ob hm
  obtain ⟨a, dx, fs, ds, rfl, ha, hs, rfl⟩ := hd.ob hm
  exact ⟨a, dx, fs, rfl, rep1.sub _ _ ha, F1, [x], _, rep1.sub, .cons hd .nil, rfl, hz, g1.ret rep1 k⟩
end
/-! ### operators by own methods -/
/-- a method by its place: what it gives, what it may raise -/
abbrev MetX (X : Cx) (k : Nat) (g : Addr) (n : Nat) (R : FnX) : Prop := FnR X.prog X.w X.K X.mg X.base (L2N.CX X.prog X.w) k g (spX X.K n R)
theorem spD_X {K : PySem.W.Frag} {n : Nat} {R : Fn} {vs : List V} {H : Hp} {Q : VK} {E : XK} (h : spX K n (fun ds => (R ds).map .inr) vs H Q E) : spD n R vs H Q E := by
  obtain ⟨F, ds, r, sm, hs, hn, e, k⟩ := h
  simp only [Option.map_eq_some_iff] at e
  obtain ⟨r', h1, h2⟩ := e
  cases h2
  exact ⟨F, ds, r', sm, hs, hn, h1, k⟩
theorem raw0 {P : Program} {w : World} {K : PySem.W.Frag} {mg : Str → Option Value} {base : Heap} {CX : CXT} {k : Nat} {f : Addr} {fd : FuncData} {ps : List Str} {sp : Sp} (F : FnOk P w K mg base CX k f fd ps sp) (hb : Binds K fd ps []) : FnR P w K mg base CX k f sp :=
  (F.raw hb .nil).imp fun vs H Q E h => by rw [List.append_nil]; exact h
/-- x op y by a method of x's class at C: y data, not a list -/
def opB (C : Nat) (R : FnX) (x y : PyData) : Option Rs := (isOb C x).bind fun _ => if isLst y = true then none else unX R [x, y]
def opAddB (C : Nat) (R : FnX) (x y : PyData) : Option Rs := (isOb C y).bind fun _ => opB C R x y
section
variable {X : Cx} {C g : Addr} {k n : Nat} {R : FnX} {pins : List (Addr × Obj)} {σ : L2.St} {H : Hp} {s : Shared} {Q : VK}
theorem run_X {F : Hp} {us : List Value} {vs : List V} {ds : List PyData} {r : Rs} (M : MetX X k g n R) (hr : Room k X.A) (I : Inv X pins σ H s) (rv : Vals vs us) (sm : Same F H) (hs : HDs F vs ds) (hn : ds.length = n) (e : unX R ds = some r) (q : RetW F H r Q) :
    wpAny (model X.prog X.w) X.A (call (.ref g) us) (EP X pins σ Q) X.xe s :=
  wpAny_call (run_fnR M hr (E := noE) pass_noN I rv (spX_of ⟨F, ds, r, sm, hs, hn, e, q⟩))
theorem ob_at {C' dx : Addr} {a : Addr} {fs : List (Str × V)} (I : Inv X pins σ H s) (ha : H a = some (.ins C' dx fs)) : ∃ ox od, PySem.W.InstAt s.heap a ox C' od ∧ ox.data = .plain := StX.insC_at I (.inr ⟨dx, fs, ha⟩)
theorem o_addB (hf : PySem.W.isFn X.K (.ref g) = true) (hs : PySem.W.findIn X.K (.ref C) "__add__" = some (some (.ref g))) (hc : PySem.W.selfFirst X.K C = true) (M : MetX X k g 2 R) (hr : Room k X.A) :
    OpD X (binaryOp .Add) (opAddB C R) := by
  intro pins s σ H x y v u Q I rx ry h
  obtain ⟨F, dx, dy, z, sm, hx, hy, e, q⟩ := h
  simp only [opAddB, opB, Option.bind_eq_some_iff] at e
  obtain ⟨m2, h2, m1, h1, e⟩ := e
  split at e
  · cases e
  · have dx1 := hx.ob h1
    have dy1 := hy.ob h2
    obtain ⟨a, ax, fs, ds, rfl, ha, _, _⟩ := dx1.ob h1
    obtain ⟨b, bx, fs', ds', rfl, hb, _, _⟩ := dy1.ob h2
    cases (show v = Value.ref a from rx)
    cases (show u = Value.ref b from ry)
    obtain ⟨ox, od, J, _⟩ := ob_at I (sm _ _ ha)
    obtain ⟨oy, od', J', _⟩ := ob_at I (sm _ _ hb)
    obtain ⟨mm, hF⟩ := I.fr
    refine PySem.W.binop_K (op := .Add) hF I.ok.mod.kin J J'.type hc hs hf (wpAny_mono (run_X M hr I (us := [.ref a, .ref b]) (vs := [.ref a, .ref b]) (.cons rfl (.cons rfl .nil)) sm (.cons dx1 (.cons dy1 .nil)) rfl e q) (fun w s' z => ?_) fun _ _ x => x)
    obtain ⟨z', H', I', rz, qz⟩ := z
    exact SlX.cmpback rz ⟨z', H', I', rz, qz⟩
theorem o_itemB (hf : PySem.W.isFn X.K (.ref g) = true) (hs : PySem.W.findIn X.K (.ref C) "__getitem__" = some (some (.ref g))) (hq : PySem.W.noSeq X.K C = true) (M : MetX X k g 2 R) (hr : Room k X.A) : OpD X getItem (opB C R) := by
  intro pins s σ H x y v u Q I rx ry h
  obtain ⟨F, dx, dy, z, sm, hx, hy, e, q⟩ := h
  simp only [opB, Option.bind_eq_some_iff] at e
  obtain ⟨m1, h1, e⟩ := e
  split at e
  · cases e
  · rename_i hl
    have dx1 := hx.ob h1
    have dy1 := hy.dat' (by simpa using hl)
    obtain ⟨a, ax, fs, ds, rfl, ha, _, _⟩ := dx1.ob h1
    cases (show v = Value.ref a from rx)
    obtain ⟨ox, od, J, _⟩ := ob_at I (sm _ _ ha)
    obtain ⟨mm, hF⟩ := I.fr
    exact PySem.W.getItem_K hF I.ok.mod.kin J hq hs hf (run_X M hr I (us := [.ref a, u]) (vs := [.ref a, y]) (.cons rfl (.cons ry .nil)) sm (.cons dx1 (.cons dy1 .nil)) rfl e q)
/-- x in o -/
def opInB (C : Nat) (R : FnX) (x y : PyData) : Option Rs := (isOb C y).bind fun _ => if isLst x = true then none else match unX R [y, x] with
  | some (.dat (.bool b)) => some (.dat (.bool b))
  | _ => none
theorem o_inB (hf : PySem.W.isFn X.K (.ref g) = true) (hs : PySem.W.findIn X.K (.ref C) "__contains__" = some (some (.ref g))) (M : MetX X k g 2 R) (hr : Room k X.A) : OpD X (compareOp .In) (opInB C R) := by
  intro pins s σ H x y v u Q I rx ry h
  obtain ⟨F, dx, dy, z, sm, hx, hy, e, q⟩ := h
  simp only [opInB, Option.bind_eq_some_iff] at e
  obtain ⟨m1, h1, e⟩ := e
  split at e
  · cases e
  · rename_i hl
    split at e
    · rename_i b hb
      cases e
      have dy1 := hy.ob h1
      have dx1 := hx.dat' (by simpa using hl)
      obtain ⟨a, ax, fs, ds, rfl, ha, _, _⟩ := dy1.ob h1
      cases (show u = Value.ref a from ry)
      obtain ⟨ox, od, J, _⟩ := ob_at I (sm _ _ ha)
      obtain ⟨mm, hF⟩ := I.fr
      refine PySem.W.in_K hF I.ok.mod.kin J hs hf (wpAny_mono (run_X M hr I (us := [.ref a, v]) (vs := [.ref a, x]) (.cons rfl (.cons rx .nil)) sm (.cons dy1 (.cons dx1 .nil)) rfl hb (Q := fun z H' => z = .bl b ∧ Q z H') fun z F' H' ex ok => ?_) (fun w s' z => ?_) fun _ _ x => x)
      · cases ok with
        | dat hd => cases hd; exact ⟨rfl, q _ F' H' ex (.dat (.bl b))⟩
      · obtain ⟨z', H', I', rz, rfl, qz⟩ := z
        cases (show w = Value.bool b from rz)
        exact wpAny_truthy_bool ⟨.bl b, H', I', rfl, qz⟩
    · cases e
/-- x == y -/
def opEqB (C : Nat) (R : FnX) (x y : PyData) : Option Rs := if ((isOb C y).isSome || isTupD y) = true then opB C R x y else none
theorem o_eqB (hf : PySem.W.isFn X.K (.ref g) = true) (hs : PySem.W.findIn X.K (.ref C) "__eq__" = some (some (.ref g))) (n1 : PySem.W.notFirst X.K C (.ref C) = true) (n2 : PySem.W.notFirst X.K C (.type "tuple") = true) (M : MetX X k g 2 R) (hr : Room k X.A) :
    OpD X (compareOp .Eq) (opEqB C R) := by
  intro pins s σ H x y v u Q I rx ry h
  obtain ⟨F, dx, dy, z, sm, hx, hy, e, q⟩ := h
  unfold opEqB at e
  split at e
  · rename_i hk
    simp only [opB, Option.bind_eq_some_iff] at e
    obtain ⟨m1, h1, e⟩ := e
    split at e
    · cases e
    · rename_i hl
      have dx1 := hx.ob h1
      have dy1 := hy.dat' (by simpa using hl)
      obtain ⟨a, ax, fs, ds, rfl, ha, _, _⟩ := dx1.ob h1
      cases (show v = Value.ref a from rx)
      obtain ⟨ox, od, J, _⟩ := ob_at I (sm _ _ ha)
      obtain ⟨mm, hF⟩ := I.fr
      have fin : wpAny (model X.prog X.w) X.A (call (.ref g) [.ref a, u]) (PySem.W.CmpBack (EP X pins σ Q)) X.xe s := wpAny_mono (run_X M hr I (us := [.ref a, u]) (vs := [.ref a, y]) (.cons rfl (.cons ry .nil)) sm (.cons dx1 (.cons dy1 .nil)) rfl e q) (fun w s' z => by
        obtain ⟨z', H', I', rz, qz⟩ := z
        exact SlX.cmpback rz ⟨z', H', I', rz, qz⟩) fun _ _ x => x
      show wpAny (model X.prog X.w) X.A (richCompare .Eq (.ref a) u) _ _ _
      rcases Bool.or_eq_true_iff.mp hk with hk | hk
      · obtain ⟨m2, h2⟩ := Option.isSome_iff_exists.mp hk
        obtain ⟨b, bx, fs', ds', rfl, hb, _, _⟩ := dy1.ob h2
        cases (show u = Value.ref b from ry)
        obtain ⟨oy, od', J', _⟩ := ob_at I (sm _ _ hb)
        exact PySem.W.cmp_K (op := .Eq) hr.units0 hF I.ok.mod.kin J J'.type n1 hs hf fin
      · cases dy with
        | tuple ys =>
          obtain ⟨b, xs, rfl, hp, _⟩ := hy.tuple
          cases (show u = Value.ref b from ry)
          obtain ⟨its, _, ⟨o, ho, hc, _⟩, _⟩ := I.tuple (xs := xs) (.of (sm _ _ hp))
          exact PySem.W.cmp_K (op := .Eq) hr.units0 hF I.ok.mod.kin J (tb := .type "tuple") (fun A' Q' E' s' kk qq => wpAny_typeOf_ref (kk _ _ ho) (by rw [hc]; exact qq)) n2 hs hf fin
        | _ => cases hk
  · cases e
end
end DL

/-! DL28: !=, len, truth, call of instances that stand. -/
namespace DL
open PySem PySem.Spec PyProof.Rows L2
section
variable {M : Model} {A : Around} {E : Value → Shared → Prop} {s : Shared} {K : PySem.W.Frag} {x C : Addr} {ox : Obj} {od : Option Obj} {name : Str}
theorem bound_bi {id : String} {args : List Value} {Q : Option Value → Shared → Prop} (kin : K.In s.heap) (J : PySem.W.InstAt s.heap x ox C od) (at_ : PySem.W.findIn K (.ref C) name = some (some (.builtin id))) (bi : ∀ self, bindSpecial (.builtin id) self = pure (.builtin id, [self]))
    (go : wpAny M A (call (.builtin id) (.ref x :: args)) (fun v => Q (some v)) E s) : wpAny M A (callSpecialIfBound? (.ref x) name args) Q E s := by
  simp only [callSpecialIfBound?, bindSpecialIfBound?]
  refine wpAny_holding (wpAny_bind (wpAny_bind (wpAny_bind (J.type.here ((PySem.W.looks_findIn kin at_).here ?_)))))
  refine wpAny_bind (wpAny_askSetting (wpAny_ite ?_))
  have last : wpAny M A (call (.builtin id) ([.ref x] ++ args) >>= fun z => pure (some z)) Q E s := wpAny_bind (wpAny_mono go (fun z s1 q => wpAny_pure q) fun _ _ q => q)
  split
  · exact wpAny_bind (wpAny_of_eq (bi _) (wpAny_pure (by exact last)))
  · exact wpAny_tryCatch (wpAny_bind (wpAny_of_eq (bi _) (wpAny_pure (by exact last))))
end
section
variable {prog : Program} {w : World} {A : Around} {E : Value → Shared → Prop} {s : Shared} {K : PySem.W.Frag} {x C f : Addr} {ox : Obj} {od : Option Obj}
/-- object.__ne__ by an own __eq__ that answers True or False -/
theorem ne_own {b : Value} {Q : Value → Shared → Prop} (hu : A.units + 1 < cLine) (kin : K.In s.heap) (J : PySem.W.InstAt s.heap x ox C od) {tb : Value} (hb : PySem.W.Looks (model prog w) s.heap (typeOf b) tb) (hn : PySem.W.notFirst K C tb = true)
    (hne : PySem.W.findIn K (.ref C) "__ne__" = some (some (.builtin "object.__ne__"))) (hs : PySem.W.findIn K (.ref C) "__eq__" = some (some (.ref f))) (hf : PySem.W.isFn K (.ref f) = true) (hob : PySem.W.subIn K (.ref C) (.type "object") = some true)
    (go : wpAny (model prog w) A.in1 (call (.ref f) [.ref x, b]) (fun r s1 => ∃ c, r = .bool c ∧ Q (.bool (!c)) s1) E s) : wpAny (model prog w) A (richCompare .NotEq (.ref x) b) Q E s := by
  have inner : wpAny (model prog w) A.in1 (Builtin.«object.__ne__» ⟨[.ref x, b], []⟩) (fun z s1 => ∃ c, z = .done (.ret (.bool (!c))) ∧ Q (.bool (!c)) s1) E s := by
    unfold Builtin.«object.__ne__»
    refine wpAny_bind (wpAny_of_eq (a := ((Value.ref x : Value), [b])) (by first | rfl | (simp only [slotArgs]; rfl)) ?_)
    refine wpAny_bind (wpAny_cRoomFor (by show A.units + 1 < cLine; exact hu) ?_)
    refine wpAny_bind (PySem.W.ifBound_K kin J hs hf (wpAny_mono go (fun r s1 q => ?_) fun _ _ q => q))
    obtain ⟨c, rfl, q⟩ := q
    exact wpAny_bind (wpAny_truthy_bool (wpAny_pure ⟨c, rfl, q⟩))
  have one : wpAny (model prog w) A (tryCompare (.ref x) "__ne__" b) (fun r s1 => ∃ v, r = some v ∧ Q v s1) E s := by
    unfold tryCompare
    refine wpAny_bind (bound_bi kin J hne F.cmp_object.ne.bind (wpAny_call (codeAny_call_builtin F.cmp_object.ne.plain F.cmpEntry_ne ?_)))
    refine @PySem.W.check_slot (model prog w) _ _ s "object.__ne__" "object" "__ne__" (.ref x) [b] [] _ F.cmpKind_ne F.cmpSplit_ne (J.type.andThen (PySem.W.looks_subIn kin hob)) (F.cmpArgs_ne _ _) ?_
    refine wpAny_mono inner (fun z s1 q => ?_) fun _ _ q => q
    obtain ⟨c, rfl, q⟩ := q
    exact wpAny_pure ⟨_, rfl, q⟩
  unfold richCompare
  simp only [oneThing_ref]
  refine wpAny_holding (wpAny_bind (wpAny_cRoomFor (Nat.lt_of_succ_lt hu) ?_))
  refine wpAny_bind (J.type.here (wpAny_bind (hb.here ?_)))
  rw [cmpInfo_NotEq]
  have fin : wpAny (model prog w) A (tryCompare (.ref x) "__ne__" b) (fun r s1 => match r with | some v => Q v s1 | none => False) E s := wpAny_mono one (fun r s1 ⟨v, e, q⟩ => by subst e; exact q) fun _ _ q => q
  split
  · rename_i q
    have e : PySem.W.subIn K tb (.ref C) = some false := by
      rcases Bool.or_eq_true_iff.mp hn with e | e
      · rw [beq_iff_eq.mp e] at q; simp at q
      · exact beq_iff_eq.mp e
    refine wpAny_bind ((PySem.W.looks_subIn kin e).here ?_)
    simp only [Bool.false_eq_true, if_false]
    refine wpAny_bind (wpAny_mono one (fun r s1 z => ?_) fun _ _ z => z)
    obtain ⟨v, rfl, q⟩ := z
    exact wpAny_pure q
  · refine wpAny_bind (wpAny_pure ?_)
    simp only [Bool.false_eq_true, if_false]
    refine wpAny_bind (wpAny_mono one (fun r s1 z => ?_) fun _ _ z => z)
    obtain ⟨v, rfl, q⟩ := z
    exact wpAny_pure q
end
section
variable {prog : Program} {w : World} {A : Around} {E : Value → Shared → Prop} {s : Shared} {x : Addr}
/-- bool(x) by x's truth -/
theorem bool_by {Q : Value → Shared → Prop} (tr : wpAny (model prog w) A.in1.in1 (truthy (.ref x)) (fun c s1 => Q (.bool c) s1) E s) : wpAny (model prog w) A (call (.type "bool") [.ref x]) Q E s := by
  refine callType_codes (T := "bool") (Bi := Builtin.«object.__init__») (Q₁ := fun r s1 => ∃ c, r = Value.bool c ∧ Q r s1) F.called_bool (F.typeCall_bool_1 _) F.entry_object_init ?_ ?_
  · refine codeAny_of_tree ?_
    show wpAny _ A.in1.in1 (do checkBuiltinCall "bool.__new__" ⟨[.type "bool", .ref x], []⟩; again (.builtin "bool.__new__" ⟨[.type "bool", .ref x], []⟩)) _ _ s
    have np : plainId "bool.__new__" = true := by decide +kernel
    refine wpAny_bind (wpAny_of_eq (F.newCall_bool_1 _) (wpAny_pure ⟨plainId_quiet np _, codeAny_builtin F.entry_bool_new ?_⟩))
    rw [Around.under_plainId np _]
    obtain ⟨hp, g, d, tk, os⟩ := s
    unfold Builtin.«bool.__new__»
    have f1 := F.conv_sub_bool
    repeat ((fail_if_success (with_reducible show wpAny _ _ (truthy _ >>= _) _ _ _)); wp_step)
    refine wpAny_bind (wpAny_mono tr (fun c s1 q => ?_) fun _ _ q => q)
    first
      | exact wpAny_pure ⟨c, rfl, q⟩
      | exact ⟨c, rfl, q⟩
  · rintro obj s1 ⟨c, rfl, q⟩
    exact ⟨rfl, F.args_object_init_2 _ _, object_init_meets F.called_bool.init.lookup F.called_bool.made (by decide) prog w A.in1 _ s1 ⟨rfl, rfl, q⟩⟩
end
section
variable {X : Cx} {C g : Addr} {k n : Nat} {R : FnX} {pins : List (Addr × Obj)} {σ : L2.St} {H : Hp} {s : Shared} {Q : VK}
/-- the same below the running body -/
theorem run_XA {A : Around} {F : Hp} {us : List Value} {vs : List V} {ds : List PyData} {r : Rs} (M : MetX X k g n R) (hr : Room k A) (e0 : Env0 X.prog X.w X.K X.mg X.base A X.stack s H) (I : Inv X pins σ H s) (rv : Vals vs us) (sm : Same F H) (hs : HDs F vs ds) (hn : ds.length = n) (e : unX R ds = some r) (q : RetW F H r Q) :
    wpAny (model X.prog X.w) A (call (.ref g) us) (EP X pins σ Q) X.xe s :=
  wpAny_call (SlX.run_at M hr e0 (E := noE) pass_noN I rv (spX_of ⟨F, ds, r, sm, hs, hn, e, q⟩))
/-- x != y -/
def opNeB (C : Nat) (R : FnX) (x y : PyData) : Option Rs := match opEqB C R x y with
  | some (.dat (.bool b)) => some (.dat (.bool (!b)))
  | _ => none
theorem o_neB (hf : PySem.W.isFn X.K (.ref g) = true) (hs : PySem.W.findIn X.K (.ref C) "__eq__" = some (some (.ref g))) (hne : PySem.W.findIn X.K (.ref C) "__ne__" = some (some (.builtin "object.__ne__"))) (hob : PySem.W.subIn X.K (.ref C) (.type "object") = some true)
    (n1 : PySem.W.notFirst X.K C (.ref C) = true) (n2 : PySem.W.notFirst X.K C (.type "tuple") = true) (M : MetX X k g 2 R) (hr : Room (k + 1) X.A) : OpD X (compareOp .NotEq) (opNeB C R) := by
  intro pins s σ H x y v u Q I rx ry h
  obtain ⟨F, dx, dy, z, sm, hx, hy, e, q⟩ := h
  unfold opNeB at e
  split at e
  · rename_i bb hbb
    cases e
    unfold opEqB at hbb
    split at hbb
    · rename_i hk
      simp only [opB, Option.bind_eq_some_iff] at hbb
      obtain ⟨m1, h1, e⟩ := hbb
      split at e
      · cases e
      · rename_i hl
        have dx1 := hx.ob h1
        have dy1 := hy.dat' (by simpa using hl)
        obtain ⟨a, ax, fs, ds, rfl, ha, _, _⟩ := dx1.ob h1
        cases (show v = Value.ref a from rx)
        obtain ⟨ox, od, J, _⟩ := ob_at I (sm _ _ ha)
        have fin : wpAny (model X.prog X.w) X.A.in1 (call (.ref g) [.ref a, u]) (fun r s1 => ∃ c, r = Value.bool c ∧ EP X pins σ Q (.bool (!c)) s1) X.xe s := wpAny_mono (run_XA M (Room.in1 hr) I.env0.in1 I (us := [.ref a, u]) (vs := [.ref a, y]) (.cons rfl (.cons ry .nil)) sm (.cons dx1 (.cons dy1 .nil)) rfl e
          (Q := fun z H' => z = .bl bb ∧ Q (.bl (!bb)) H') fun z F' H' ex ok => by
            cases ok with
            | dat hd => cases hd; exact ⟨rfl, q _ F' H' ex (.dat (.bl _))⟩) (fun w s' z => by
          obtain ⟨z', H', I', rz, rfl, qz⟩ := z
          exact ⟨bb, rz, .bl (!bb), H', I', rfl, qz⟩) fun _ _ x => x
        have hu : X.A.units + 1 < cLine := by have := hr.un; omega
        show wpAny (model X.prog X.w) X.A (richCompare .NotEq (.ref a) u) _ _ _
        rcases Bool.or_eq_true_iff.mp hk with hk | hk
        · obtain ⟨m2, h2⟩ := Option.isSome_iff_exists.mp hk
          obtain ⟨b, bx, fs', ds', rfl, hb, _, _⟩ := dy1.ob h2
          cases (show u = Value.ref b from ry)
          obtain ⟨oy, od', J', _⟩ := ob_at I (sm _ _ hb)
          exact ne_own hu I.kIn J J'.type n1 hne hs hf hob fin
        · cases dy with
          | tuple ys =>
            obtain ⟨b, xs, rfl, hp, _⟩ := hy.tuple
            cases (show u = Value.ref b from ry)
            obtain ⟨its, _, ⟨o, ho, hc, _⟩, _⟩ := I.tuple (xs := xs) (.of (sm _ _ hp))
            exact ne_own hu I.kIn J (tb := .type "tuple") (fun A' Q' E' s' kk qq => wpAny_typeOf_ref (kk _ _ ho) (by rw [hc]; exact qq)) n2 hne hs hf hob fin
          | _ => cases hk
    · cases hbb
  · cases e
/-- len(o) -/
def opLenB (C : Nat) (R : FnX) (x : PyData) : Option Rs := (isOb C x).bind fun _ => match unX R [x] with
  | some (.dat (.int i)) => if 0 ≤ i ∧ i < 2 ^ 63 then some (.dat (.int i)) else none
  | _ => none
theorem b_lenB (hf : PySem.W.isFn X.K (.ref g) = true) (hs : PySem.W.findIn X.K (.ref C) "__len__" = some (some (.ref g))) (M : MetX X k g 1 R) (hr : Room (k + 1) X.A) : CallR X (.builtin "len") (rC1 (opLenB C R)) := by
  intro pins s σ H xs us Q I r h
  obtain ⟨x, rfl, F, dx, z, sm, hx, e, q⟩ := h
  simp only [opLenB, Option.bind_eq_some_iff] at e
  obtain ⟨m1, h1, e⟩ := e
  split at e
  · rename_i i hi
    split at e
    · rename_i hb
      cases e
      have dx1 := hx.ob h1
      obtain ⟨a, ax, fs, ds, rfl, ha, _, _⟩ := dx1.ob h1
      obtain ⟨u, rfl, rx⟩ := vals1 r
      cases (show u = Value.ref a from rx)
      obtain ⟨ox, od, J, _⟩ := ob_at I (sm _ _ ha)
      obtain ⟨mm, hF⟩ := I.fr
      refine PySem.W.len_K hF I.ok.mod.kin J hs hf (wpAny_mono (run_XA M (Room.in1 hr) I.env0.in1 I (us := [.ref a]) (vs := [.ref a]) (.cons rfl .nil) sm (.cons dx1 .nil) rfl hi
        (Q := fun z H' => z = .int i ∧ Q (.int i) H') fun z F' H' ex ok => by
          cases ok with
          | dat hd => cases hd; exact ⟨rfl, q _ F' H' ex (.dat (.int i))⟩) (fun w s' z => ?_) fun _ _ x => x)
      obtain ⟨z', H', I', rz, rfl, qz⟩ := z
      obtain ⟨t, rfl⟩ := rz
      exact ⟨hb, .int i, H', I'.tok _, ⟨_, rfl⟩, qz⟩
    · cases e
  · cases e
/-- bool(o) -/
def opBoolB (C : Nat) (R : FnX) (x : PyData) : Option Rs := (isOb C x).bind fun _ => match unX R [x] with
  | some (.dat (.bool b)) => some (.dat (.bool b))
  | _ => none
theorem truth_B {A : Around} {F : Hp} {dx : PyData} {v : V} {u : Value} {b : Bool} {P : Bool → Shared → Prop} (hf : PySem.W.isFn X.K (.ref g) = true) (hs : PySem.W.findIn X.K (.ref C) "__bool__" = some (some (.ref g))) (M : MetX X k g 1 R) (hr : Room k A) (e0 : Env0 X.prog X.w X.K X.mg X.base A X.stack s H) (I : Inv X pins σ H s) (rx : RelV v u)
    (sm : Same F H) (hx : HD F v dx) (m : List (PyData × PyData)) (h1 : isOb C dx = some m) (e : unX R [dx] = some (.dat (.bool b))) (q : ∀ H' s', Inv X pins σ H' s' → Ext F H F H' ∨ True → (∃ F', Ext F H F' H') → P b s') : wpAny (model X.prog X.w) A (truthy u) P X.xe s := by
  obtain ⟨a, ax, fs, ds, rfl, ha, _, _⟩ := hx.ob h1
  cases (show u = Value.ref a from rx)
  obtain ⟨ox, od, J, _⟩ := ob_at I (sm _ _ ha)
  obtain ⟨mm, hF⟩ := I.fr
  refine PySem.W.truthy_K hF I.ok.mod.kin J hs hf (wpAny_mono (run_XA M hr e0 I (us := [.ref a]) (vs := [.ref a]) (.cons rfl .nil) sm (.cons hx .nil) rfl e
    (Q := fun z H' => z = .bl b ∧ ∃ F', Ext F H F' H') fun z F' H' ex ok => by
      cases ok with
      | dat hd => cases hd; exact ⟨rfl, F', ex⟩) (fun w s' z => ?_) fun _ _ x => x)
  obtain ⟨z', H', I', rz, rfl, qz⟩ := z
  cases (show w = Value.bool b from rz)
  exact q H' s' I' (.inr trivial) qz
theorem b_boolB (hf : PySem.W.isFn X.K (.ref g) = true) (hs : PySem.W.findIn X.K (.ref C) "__bool__" = some (some (.ref g))) (M : MetX X k g 1 R) (hr : Room (k + 2) X.A) : CallR X (.type "bool") (rC1 (opBoolB C R)) := by
  intro pins s σ H xs us Q I r h
  obtain ⟨x, rfl, F, dx, z, sm, hx, e, q⟩ := h
  simp only [opBoolB, Option.bind_eq_some_iff] at e
  obtain ⟨m1, h1, e⟩ := e
  split at e
  · rename_i b hb
    cases e
    have dx1 := hx.ob h1
    obtain ⟨u, rfl, rx⟩ := vals1 r
    obtain ⟨a, ax, fs, ds, ea, ha, _, _⟩ := dx1.ob h1
    subst ea
    cases (show u = Value.ref a from rx)
    have hr2 : Room k X.A.in1.in1 := (show Room (k + 1) X.A.in1 from Room.in1 hr).in1
    exact bool_by (truth_B (v := .ref a) (u := .ref a) hf hs M hr2 I.env0.in1.in1 I rfl sm dx1 m1 h1 hb fun H' s' I' _ ⟨F', ex⟩ => ⟨.bl b, H', I', rfl, q _ F' H' ex (.dat (.bl b))⟩)
  · cases e
end
end DL

/-! DL29: new instances: def __init__(self, *items) with two tests that raise and one attribute. -/
namespace DL
open PySem PySem.Spec PyProof.Rows L2
/-- an exception that a def let out, seen from a state a little before the call -/
theorem cxUpN {P : Program} {w : World} : StX.CXUp (L2N.CX P w) := fun outer s H s2 H2 E e s' un kp ho c => by
  obtain ⟨a, B, H', cls, d, ea, fl, hok, ub, na, os, ag, he⟩ := c
  have fr : ∀ b o, s.heap.get? b = some o → H b = none → H2 b = none := fun b o q n => un.free b o q n List.not_mem_nil
  refine ⟨a, B, H', cls, d, ea, fl, hok, ⟨fun b o q n hb => ?_, fun b o q hb => ?_, fun b o q n => ?_, fun b o q hb => ?_, fun b xs q => ?_, fun b o xs q => ?_, fun b ps q => ?_⟩, na, os.trans ho, ag, he⟩
  · exact ub.keep b o (kp b o q) (fr b o q n) hb
  · exact ub.slot b o (kp b o q) hb
  · exact ub.free b o (kp b o q) (fr b o q n)
  · exact ub.there b o (kp b o q) hb
  · exact ub.tups b xs (un.tups b xs q)
  · exact ub.frzs b o xs (un.frzs b o xs q)
  · obtain ⟨m1, e1⟩ := un.tbls b ps q
    obtain ⟨m2, e2⟩ := ub.tbls b (ps ++ m1) e1
    exact ⟨m1 ++ m2, by rw [← Array.append_assoc]; exact e2⟩
/-- what a new instance comes to: the tests ahead, then the attribute f -/
def mk2 (n : Nat) (t1 : FT) (x1 : Str) (t2 : FT) (x2 : Str) (C : Nat) (f : Str) : FnX := fun ds =>
  (t1 (.dead :: .dat (.tuple ds) :: List.replicate n .dead)).bind fun p => if p.1 = true then some (.inl x1) else (t2 p.2).bind fun q => if q.1 = true then some (.inl x2) else match (q.2 : Env)[(1 : Nat)]? with
    | some (Sl.dat d) => some (.inr (.dat (obD C [(f, d)])))
    | _ => none
/-- what is asked of a def __init__ at an instance that is being made -/
def spInit (K : PySem.W.Frag) (C : Addr) (R : FnX) : Sp := fun vs H Q E => ∃ a dx us F ds r, vs = .ref a :: us ∧ H a = some (.ins C dx []) ∧ F a = none ∧ Same F H ∧ HDs F us ds ∧ R ds = some r ∧ us.length ≤ sizeLine ∧ match r with
  | .inl x => ∀ H', Same H H' → E (.ref (He.ga K x)) none H'
  | .inr z => ∀ F' H' fs, H' a = some (.ins C dx fs) → (∃ d, z = .dat d ∧ HD (upd F' a (.ins C dx fs)) (.ref a) d) → Same F F' → F' a = none → (∀ b o, b ≠ a → H b = some o → H' b = some o) → Same F' H' →
      (∀ b, F' b ≠ none → F b ≠ none ∨ NewOk H b) → Q .non H'
theorem length1 {α : Type} : ∀ {l : List α}, l.length = 1 → ∃ x, l = [x]
  | [x], _ => ⟨x, rfl⟩
section
variable {P : Program} {w : World} {K : PySem.W.Frag} {mg : Str → Option Value} {base : Heap}
theorem init_star {x qual pv f : Str} {params : Arguments} {c1 c2 r1 r2 : Expr} {scope : Scope} {fi : Addr} {fd : FuncData} {N' : List Str} {k : Nat} {t1 t2 : FT} {x1 x2 : Str} {C : Addr} {p1 p2 q1 q2 a1 a2 a3 a4 : Pos}
    (F : FunD K x qual params [.If c1 [.Raise (some r1) none p1] [] q1, .If c2 [.Raise (some r2) none p2] [] q2, .Assign [.Attribute (.Name "self" a1) f a2] (.Name pv a3) a4] scope [] [] fi fd) (S : FnScope ("self" :: pv :: N') ["self", pv] scope)
    (hb : ∀ us rest : List Value, us.length = 1 → bindArgs fd ⟨us ++ rest, []⟩ = (newTuple rest >>= fun t => pure ((["self"] : List Str).zip us ++ [(pv, t)])))
    (cl : Cls K C) (nf : NoAttr K C f)
    (ht : ∀ (cdv : Value) (A : Around) (outer : List PySem.Env) (s : Shared) (H : Hp) (E : XK), Room k (A.deeper (envOfC qual scope s.heap.objs.size fi cdv)) →
      (DT (cxOf (L2N.CX P w) P w K mg base ("self" :: pv :: N') qual scope fi cdv A outer s H E) c1 t1 ∧ L2N.PMk (cxOf (L2N.CX P w) P w K mg base ("self" :: pv :: N') qual scope fi cdv A outer s H E) r1 fun _ H Q => Q (.ref (He.ga K x1)) none H) ∧
      (DT (cxOf (L2N.CX P w) P w K mg base ("self" :: pv :: N') qual scope fi cdv A outer s H E) c2 t2 ∧ L2N.PMk (cxOf (L2N.CX P w) P w K mg base ("self" :: pv :: N') qual scope fi cdv A outer s H E) r2 fun _ H Q => Q (.ref (He.ga K x2)) none H) ∧
      PE (cxOf (L2N.CX P w) P w K mg base ("self" :: pv :: N') qual scope fi cdv A outer s H E) (.Name "self" a1) (tVar 0) ∧ PE (cxOf (L2N.CX P w) P w K mg base ("self" :: pv :: N') qual scope fi cdv A outer s H E) (.Name pv a3) (tVar 1) ∧
      swapsWith (.Name pv a3) (some (.Attribute (.Name "self" a1) f a2)) a4.line (cxOf (L2N.CX P w) P w K mg base ("self" :: pv :: N') qual scope fi cdv A outer s H E).env = pure false) :
    FnR P w K mg base (L2N.CX P w) (k + 1) fi (spInit K C (mk2 N'.length t1 x1 t2 x2 C f)) := by
  obtain ⟨oc, od, dV, kV, doc, pm, an, cdv, ct, osl, rfl, lk, hcd, _, _⟩ := F.ex
  refine (StX.fn_star (ps := ["self"]) (pv := pv) (sp := fun vs H Q E => ∃ a dx t F ds r, vs = [.ref a, .ref t] ∧ H a = some (.ins C dx []) ∧ F a = none ∧ Same F H ∧ HD F (.ref t) (.tuple ds) ∧ mk2 N'.length t1 x1 t2 x2 C f ds = some r ∧ (match r with
    | .inl x => ∀ H', Same H H' → E (.ref (He.ga K x)) none H'
    | .inr z => ∀ F' H' fs, H' a = some (.ins C dx fs) → (∃ d, z = .dat d ∧ HD (upd F' a (.ins C dx fs)) (.ref a) d) → Same F F' → F' a = none → (∀ b o, b ≠ a → H b = some o → H' b = some o) → Same F' H' →
        (∀ b, F' b ≠ none → F b ≠ none ∨ NewOk H b) → Q .non H')) lk hcd S cxUpN hb (fun A outer s H vs Q E hr h => ?_)).imp fun vs H Q E h => ?_
  · obtain ⟨a, dx, t, F0, ds, r, rfl, ha, fa, sm, hd, e, q⟩ := h
    obtain ⟨⟨d1, m1⟩, ⟨d2, m2⟩, v0, v1, sw⟩ := ht cdv A outer s H E hr
    have tk : L2N.Takes (cxOf (L2N.CX P w) P w K mg base ("self" :: pv :: N') qual scope fi cdv A outer s H E) fun cls d _ H => E cls d H := L2N.takes_of rfl rfl rfl rfl
    refine ⟨_, pss_cons (ps_if d1 (pss_one (L2N.ps_raise rfl tk m1)) pss_nil) (pss_cons (ps_if d2 (pss_one (L2N.ps_raise rfl tk m2)) pss_nil) (pss_one (ps_fld v0 v1 sw))), ?_⟩
    have hst : L2.start ("self" :: pv :: N') [.ref a, .ref t] = some (.ref a) :: some (.ref t) :: List.replicate N'.length none := by
      unfold L2.start
      simp
    have rd : ∀ (j : Nat) (z : Sl), (List.replicate N'.length Sl.dead)[j]? = some z → z = .dead := fun j z h => by
      rw [List.getElem?_replicate] at h
      split at h
      · cases h; rfl
      · cases h
    have ne0 : ∀ (j : Nat) z, (Sl.dead :: Sl.dat (.tuple ds) :: List.replicate N'.length Sl.dead : Env)[j]? = some z → (∃ d, z = .dat d ∧ j = 1 ∧ d = .tuple ds) ∨ z = .dead := fun j z h => by
      match j, h with
      | 0, h => cases h; exact .inr rfl
      | 1, h => cases h; exact .inl ⟨_, rfl, rfl, rfl⟩
      | j + 2, h => exact .inr (rd j z h)
    have rep : Rep F0 H (L2.start ("self" :: pv :: N') [.ref a, .ref t]) (.dead :: .dat (.tuple ds) :: List.replicate N'.length .dead) := by
      rw [hst]
      refine ⟨sm, by simp, fun j d hj => ?_, fun j d hj => ?_, fun j c d hj => ?_, fun j j' c c' es es' b h1 => ?_⟩
      · rcases ne0 j _ hj with ⟨d', z, rfl, z2⟩ | z
        · cases z; subst z2; exact ⟨_, rfl, hd⟩
        · cases z
      · rcases ne0 j _ hj with ⟨d', z, _⟩ | z <;> cases z
      · rcases ne0 j _ hj with ⟨d', z, _⟩ | z <;> cases z
      · rcases ne0 j _ h1 with ⟨d', z, _⟩ | z <;> cases z
    have noO : ∀ b, ¬ OwnA (L2.start ("self" :: pv :: N') [.ref a, .ref t]) (.dead :: .dat (.tuple ds) :: List.replicate N'.length .dead) b := by
      rintro b ⟨j, c, es, h, _⟩
      rcases ne0 j _ h with ⟨d', z, _⟩ | z <;> cases z
    unfold mk2 at e
    simp only [Option.bind_eq_some_iff] at e
    obtain ⟨⟨b1, e1⟩, h1, e⟩ := e
    refine ⟨F0, _, b1, e1, rep, h1, fun F1 H1 g1 rep1 => ?_⟩
    cases b1 with
    | true =>
      rw [if_pos rfl] at e ⊢
      cases e
      exact q H1 fun b o => g1.frame b o (noO b)
    | false =>
      rw [if_neg (by simp)] at e ⊢
      simp only [Option.bind_eq_some_iff] at e
      obtain ⟨⟨b2, e2⟩, h2, e⟩ := e
      refine ⟨F1, e1, b2, e2, rep1, h2, fun F2 H2 g2 rep2 => ?_⟩
      have g := g1.trans g2
      cases b2 with
      | true =>
        rw [if_pos rfl] at e
        cases e
        exact q H2 fun b o => g.frame b o (noO b)
      | false =>
        rw [if_neg (by simp)] at e
        show sFld K (tVar 0) (tVar 1) f _ _ _
        simp only at e
        split at e
        · rename_i d hd2
          cases e
          obtain ⟨v, q1, q2⟩ := rep2.dat 1 d hd2
          have hv : v = .ref t := by
            rw [hst] at q1
            cases q1
            rfl
          subst hv
          have h2a : H2 a = some (.ins C dx []) := g.frame a _ (noO a) ha
          have f2a : F2 a = none := by
            cases z : F2 a with
            | none => rfl
            | some o =>
              rcases g.fresh a (by rw [z]; simp) with y | y | y
              · exact absurd fa y
              · exact (y.no ha fun _ e => nomatch e).elim
              · exact absurd y (noO a)
          refine ⟨.ref t, by rw [hst]; rfl, .ref a, by rw [hst]; rfl, a, C, dx, [], rfl, h2a, cl, nf, by decide, ?_⟩
          refine q F2 _ [(f, .ref t)] upd_same ⟨_, rfl, ?_⟩ g.fz f2a (fun b o hb e => ?_) (fun b o e => ?_) (fun b e => ?_)
          · have s2 : Same F2 (upd F2 a (.ins C dx [(f, .ref t)])) := same_new f2a
            exact .obj upd_same (.cons (q2.mono s2) .nil) rfl
          · rw [upd_ne hb]
            exact g.frame b o (noO b) e
          · rw [upd_ne (ne_of_none e f2a)]
            exact rep2.sub b o e
          · rcases g.fresh b e with y | y | y
            · exact .inl y
            · exact .inr y
            · exact absurd y (noO b)
        · cases e
  · obtain ⟨a, dx, us, F0, ds, r, rfl, ha, fa, sm, hs, e, hl, q⟩ := h
    refine ⟨[.ref a], us, rfl, rfl, hl, fun p hp => ?_⟩
    have hpa : p ≠ a := fun z => by rw [z, ha] at hp; cases hp
    have fp : F0 p = none := sm.free hp
    have s1 : Same F0 (upd F0 p (.tup us)) := same_new fp
    have s0 : Same H (upd H p (.tup us)) := same_new hp
    refine ⟨a, dx, p, upd F0 p (.tup us), ds, r, rfl, by rw [upd_ne hpa.symm]; exact ha, by rw [upd_ne hpa.symm]; exact fa, fun b o e => ?_, .tup upd_same (hs.mono s1), e, ?_⟩
    · by_cases hb : b = p
      · subst hb; rw [upd_same] at e ⊢; exact e
      · rw [upd_ne hb] at e ⊢; exact sm b o e
    · cases r with
      | inl x => exact fun H' z => q H' (s0.trans z)
      | inr z =>
        refine fun F' H' fs h1 h2 h3 h4 h5 h6 h7 => q F' H' fs h1 h2 (s1.trans h3) h4 (fun b o hb e => h5 b o hb (s0 b o e)) h6 fun b e => ?_
        rcases h7 b e with y | y
        · by_cases hb : b = p
          · subst hb; exact .inr (.of hp)
          · rw [upd_ne hb] at y; exact .inl y
        · refine .inr fun o e => y o (s0 b o e)
end
end DL

/-! DL30: expressions that may raise; instances made, called; classmethods; a class's constants. -/
namespace DL
open PySem PySem.Spec PyProof.Rows L2
/-- an expression that may raise: the name of the exception's class, or a result -/
abbrev FEX := Env → Option (Str ⊕ (Rs × Env))
/-- what it asks; E: the wish of the exception -/
def tDX (K : PySem.W.Frag) (E : XK) (f : FEX) : TE := fun σ H Q => ∃ F env o, Rep F H σ env ∧ f env = some o ∧ match o with
  | .inl x => ∀ F' H' O', Go F H (OwA σ env) F' H' O' → E (.ref (He.ga K x)) none H'
  | .inr (r, env') => ∀ v F' H', Go F H (OwA σ env) F' H' (OwA σ env') → Rep F' H' σ env' → RsOk F' H' H σ env' v r → Q v H'
abbrev DEX (X : Cx) (E : XK) (e : Expr) (f : FEX) : Prop := PE X e (tDX X.K E f)
def upX (f : FE) : FEX := fun env => (f env).map .inr
def dnX (f : FEX) : FE := fun env => match f env with
  | some (.inr p) => some p
  | _ => none
section
variable {X : Cx} {E : XK} {e : Expr} {f : FE} {g : FEX}
theorem dex_of (h : DE X e f) : DEX X E e (upX f) := PE.imp h fun σ H Q z => by
  obtain ⟨F, env, o, rep, e0, k⟩ := z
  simp only [upX, Option.map_eq_some_iff] at e0
  obtain ⟨⟨r, env'⟩, h1, h2⟩ := e0
  cases h2
  exact ⟨F, env, r, env', rep, h1, k⟩
theorem de_ofX (h : DEX X E e g) : DE X e (dnX g) := PE.imp h fun σ H Q z => by
  obtain ⟨F, env, r, env', rep, e0, k⟩ := z
  unfold dnX at e0
  split at e0
  · rename_i p hp
    cases e0
    exact ⟨F, env, .inr (r, env'), rep, hp, k⟩
  · cases e0
end
/-! ### results at a call, that may be an exception -/
section
variable {X : Cx} {E : XK} {C g f : Addr} {k n : Nat} {R : FnX} {pins : List (Addr × Obj)} {σ : L2.St} {H : Hp} {s : Shared} {Q : VK}
/-- a call's outcome, in a frame -/
theorem outX {F F1 H1 : Hp} {env env1 : Env} {z : Str ⊕ Rs} (g1 : Go F H (OwA σ env) F1 H1 (OwA σ env1)) (rep1 : Rep F1 H1 σ env1) (k : match (z.map id fun r => (r, env1) : Str ⊕ (Rs × Env)) with
    | .inl x => ∀ F' H' O', Go F H (OwA σ env) F' H' O' → E (.ref (He.ga X.K x)) none H'
    | .inr (r, env') => ∀ v F' H', Go F H (OwA σ env) F' H' (OwA σ env') → Rep F' H' σ env' → RsOk F' H' H σ env' v r → Q v H') : ResX X.K F1 H1 Q E z := by
  cases z with
  | inr r => exact g1.ret rep1 k
  | inl x => exact fun H' sm => k F1 H' (OwA σ env1) ⟨g1.fz, fun b o n e => sm b o (g1.frame b o n e), fun b e => g1.dom b (by
      cases q : H1 b with
      | none => rfl
      | some o => rw [sm b o q] at e; cases e), g1.fresh, g1.own, g1.bor⟩
theorem run_XE {F : Hp} {us : List Value} {vs : List V} {ds : List PyData} {r : Str ⊕ Rs} (M : MetX X k g n R) (hr : Room k X.A) (hx : Passes (L2N.CX X.prog X.w) X E) (I : Inv X pins σ H s) (rv : Vals vs us) (sm : Same F H) (hs : HDs F vs ds) (hn : ds.length = n) (e : R ds = some r) (q : ResX X.K F H Q E r) :
    wpAny (model X.prog X.w) X.A (call (.ref g) us) (EP X pins σ Q) X.xe s :=
  wpAny_call (run_fnR M hr (E := E) hx I rv ⟨F, ds, r, sm, hs, hn, e, q⟩)
/-- a class whose instances are made by an __init__ that may raise -/
abbrev MkX (X : Cx) (k : Nat) (C f : Addr) (R : FnX) : Prop := Mk X.K C f ∧ FnR X.prog X.w X.K X.mg X.base (L2N.CX X.prog X.w) k f (spInit X.K C R)
theorem run_mk {F : Hp} {us : List Value} {vs : List V} {ds : List PyData} {r : Str ⊕ Rs} (M : MkX X k C f R) (hr : Room (k + 1) X.A) (hx : Passes (L2N.CX X.prog X.w) X E) (I : Inv X pins σ H s) (rv : Vals vs us) (sm : Same F H) (hs : HDs F vs ds) (hl : vs.length ≤ sizeLine) (e : R ds = some r)
    (hd : ∀ z, r = .inr z → ∃ d, z = .dat d) (q : ResX X.K F H Q E r) : wpAny (model X.prog X.w) X.A (call (.ref C) us) (EP X pins σ Q) X.xe s := by
  refine StX.run_makeR M.1 M.2 hr hx I rv fun x dx nx ndx ne => ⟨x, dx, vs, F, ds, r, rfl, upd_same, sm.free nx, fun b o h => ?_, hs, e, hl, ?_⟩
  · have h1 := sm b o h
    rw [upd_ne (ne_of_none h1 nx), upd_ne (ne_of_none h1 ndx)]
    exact h1
  · have up : Same H (upd (upd H dx (.own x)) x (.ins C dx [])) := fun b o h => by
      rw [upd_ne (ne_of_none h nx), upd_ne (ne_of_none h ndx)]
      exact h
    cases r with
    | inl y => exact fun H' s1 => q H' (up.trans s1)
    | inr z =>
      refine fun F' H' fs h1 ⟨d, ed, hdo⟩ h3 h4 h5 h6 h7 => ⟨rfl, ?_⟩
      subst ed
      have q' : RetW F H (.dat d) Q := q
      refine q' (.ref x) (upd F' x (.ins C dx fs)) H' ⟨h3.trans (same_new h4), fun b o h => ?_, fun b o h => h5 b o (ne_of_none h nx) (up b o h), fun b h => ?_⟩ (.dat hdo)
      · by_cases hb : b = x
        · subst hb; rw [upd_same] at h; cases h; exact h1
        · rw [upd_ne hb] at h; exact h6 b o h
      · by_cases hb : b = x
        · subst hb; exact .inr (.of nx)
        · rw [upd_ne hb] at h
          rcases h7 b h with y | y
          · exact .inl y
          · exact .inr fun o e => y o (up b o e)
end
/-- x(..), x a class: its arguments, then what its __init__ says -/
def fMkX (R : FnX) (a : FA) : FEX := fun env => (a env).bind fun p => if p.1.length ≤ sizeLine then match R p.1 with
    | some (.inl x) => some (.inl x)
    | some (.inr (.dat d)) => some (.inr (.dat d, p.2))
    | _ => none
  else none
theorem mk_cases {R : FnX} {a : FA} {env : Env} {o : Str ⊕ (Rs × Env)} (h : fMkX R a env = some o) : ∃ ds e1 z, a env = some (ds, e1) ∧ ds.length ≤ sizeLine ∧ R ds = some z ∧ (∀ r, z = .inr r → ∃ d, r = .dat d) ∧ o = z.map id fun r => (r, e1) := by
  unfold fMkX at h
  simp only [Option.bind_eq_some_iff] at h
  obtain ⟨⟨ds, e1⟩, h1, h2⟩ := h
  simp only at h2
  split at h2
  · rename_i hl
    split at h2
    · rename_i x hx
      cases h2
      exact ⟨ds, e1, .inl x, h1, hl, hx, (fun _ z => nomatch z), rfl⟩
    · rename_i d hd
      cases h2
      exact ⟨ds, e1, .inr (.dat d), h1, hl, hd, (fun _ z => by cases z; exact ⟨d, rfl⟩), rfl⟩
    · cases h2
  · cases h2
section
variable {X : Cx} {E : XK} {C f g : Addr} {k n : Nat} {R : FnX} {x : Str} {e e2 o : Expr} {es : List Expr} {fa fb : FE} {a : FA} {p p2 pos pos2 : Pos}
theorem dex_mk (M : MkX X k C f R) (hr : Room (k + 1) X.A) (hx : Passes (L2N.CX X.prog X.w) X E) (hg : Gl X x) (hm : X.mg x = some (.ref C)) (ha : DA X (e :: es) a) (hdb : (x == ("__debug__" : Str)) = false := by decide)
    (he : starEach (e :: es) X.env = (false, eval e X.env) :: starEach es X.env := by rfl) (hpl : (backTo pos (starEach es X.env)).any (·.1) = false := by rfl) : DEX X E (.Call (.Name x p) (e :: es) [] pos) (fMkX R a) := by
  refine ⟨fun pins s σ H Q I h => ?_⟩
  obtain ⟨F, env, o, rep, e0, kk⟩ := h
  obtain ⟨ds, e1, z, h1, hl, h2, hd, rfl⟩ := mk_cases e0
  refine wpAny_Call_Name_kw (ld_glob I hg hm ?_ hdb)
  refine PySem.W.callWith_K (h₀ := X.base) I.ok.mod.kin M.1.kp (thn (ha.run pos pins s σ H (fun vs H1 => ∃ F1, Go F H (OwA σ env) F1 H1 (OwA σ e1) ∧ Rep F1 H1 σ e1 ∧ HDs F1 vs ds) I ⟨F, env, ds, e1, rep, h1, fun vs F1 H1 g1 rep1 hs => ⟨F1, g1, rep1, hs⟩⟩) fun us s1 ⟨vs, H1, I1, r, F1, g1, rep1, hs⟩ => ⟨I1.kIn, ?_⟩) he hpl
  exact run_mk M hr hx I1 r rep1.sub hs (by rw [hs.length]; exact hl) h2 hd (outX g1 rep1 kk)
theorem dex_mk0 (M : MkX X k C f R) (hr : Room (k + 1) X.A) (hx : Passes (L2N.CX X.prog X.w) X E) (hg : Gl X x) (hm : X.mg x = some (.ref C)) (hdb : (x == ("__debug__" : Str)) = false := by decide) : DEX X E (.Call (.Name x p) [] [] pos) (fMkX R faNil) := by
  refine ⟨fun pins s σ H Q I h => ?_⟩
  obtain ⟨F, env, o, rep, e0, kk⟩ := h
  obtain ⟨ds, e1, z, h1, hl, h2, hd, rfl⟩ := mk_cases e0
  cases h1
  refine wpAny_Call_Name_kw (ld_glob I hg hm ?_ hdb)
  refine PySem.W.callWith_K0 I.kIn M.1.kp ?_
  exact run_mk M hr hx I .nil rep.sub .nil hl h2 hd (outX .refl rep kk)
theorem args2 {M : Model} {A : Around} {Ex : Value → Shared → Prop} {s : Shared} {f : Value} {x : Sem Value} {y : Bool × Sem Value} {rest : List (Bool × Sem Value)} {Q : Args → Shared → Prop}
    (h : wpAny M A (spliced ((true, x) :: y :: rest)) (fun vs s1 => Q ⟨vs, []⟩ s1) Ex s) : wpAny M A (evalArgs f true ((true, x) :: y :: rest) []) Q Ex s := by
  unfold evalArgs
  show wpAny M A (spliced ((true, x) :: y :: rest) >>= _) Q Ex s
  refine wpAny_bind (wpAny_mono h (fun vs s1 q => ?_) fun _ _ q => q)
  exact wpAny_holding (wpAny_bind (wpAny_pure (wpAny_bind (wpAny_pure (wpAny_pure q)))))
/-- x(*a, *b ..) -/
theorem dex_mkS (M : MkX X k C f R) (hr : Room (k + 1) X.A) (hx : Passes (L2N.CX X.prog X.w) X E) (hg : Gl X x) (hm : X.mg x = some (.ref C)) (ha : DA X (.Starred e p2 :: e2 :: es) a) (hdb : (x == ("__debug__" : Str)) = false := by decide)
    (hs2 : ∃ u y r, backTo pos (starEach (.Starred e p2 :: e2 :: es) X.env) = (true, u) :: y :: r := by exact ⟨_, _, _, rfl⟩) : DEX X E (.Call (.Name x p) (.Starred e p2 :: e2 :: es) [] pos) (fMkX R a) := by
  refine ⟨fun pins s σ H Q I h => ?_⟩
  obtain ⟨F, env, o, rep, e0, kk⟩ := h
  obtain ⟨ds, e1, z, h1, hl, h2, hd, rfl⟩ := mk_cases e0
  refine wpAny_Call_Name_kw (ld_glob I hg hm ?_ hdb)
  have q := thn (ha.run pos pins s σ H (fun vs H1 => ∃ F1, Go F H (OwA σ env) F1 H1 (OwA σ e1) ∧ Rep F1 H1 σ e1 ∧ HDs F1 vs ds) I ⟨F, env, ds, e1, rep, h1, fun vs F1 H1 g1 rep1 hs => ⟨F1, g1, rep1, hs⟩⟩) (Q' := fun us s1 => X.K.In s1.heap ∧ wpAny (model X.prog X.w) X.A (call (.ref C) us) (EP X pins σ Q) X.xe s1) fun us s1 ⟨vs, H1, I1, r, F1, g1, rep1, hs⟩ => ⟨I1.kIn, run_mk M hr hx I1 r rep1.sub hs (by rw [hs.length]; exact hl) h2 hd (outX g1 rep1 kk)⟩
  obtain ⟨u, y, r, e3⟩ := hs2
  show wpAny _ _ (callWith pos (.ref C) [] (backTo pos (starEach (.Starred e p2 :: e2 :: es) X.env)) []) _ _ _
  rw [e3] at q ⊢
  exact PySem.W.ks_call rfl (PySem.W.keeps_K M.1.kp) (args2 q)
end
end DL

/-! DL31: calls of instances, items, sums, classmethods, constants, that may raise. -/
namespace DL
open PySem PySem.Spec PyProof.Rows L2
/-- x op y, that may raise -/
def rX2 (K : PySem.W.Frag) (E : XK) (op : PyData → PyData → Option (Str ⊕ Rs)) : R2 := fun x y H Q => ∃ F dx dy z, Same F H ∧ HV F H x dx ∧ HV F H y dy ∧ op dx dy = some z ∧ ResX K F H Q E z
def opBX (C : Nat) (R : FnX) (x y : PyData) : Option (Str ⊕ Rs) := (isOb C x).bind fun _ => if isLst y = true then none else R [x, y]
def opAddBX (C : Nat) (R : FnX) (x y : PyData) : Option (Str ⊕ Rs) := (isOb C y).bind fun _ => opBX C R x y
def putR (e : Env) (z : Str ⊕ Rs) : Str ⊕ (Rs × Env) := z.map id fun r => (r, e)
def fBinX (op : PyData → PyData → Option (Str ⊕ Rs)) (fa fb : FE) : FEX := fun env => (fa env).bind fun p => (fb p.2).bind fun q => (view q.2 p.1).bind fun x => (view q.2 q.1).bind fun y => (op x y).map (putR q.2)
section
variable {X : Cx} {E : XK} {C f g : Addr} {k n : Nat} {R : FnX} {Rf : Fn} {x : Str} {a b e e2 o : Expr} {es : List Expr} {fa fb : FE} {ga : FA} {fx : FEX} {p p2 pos pos2 : Pos}
theorem binX_imp {op : PyData → PyData → Option (Str ⊕ Rs)} (σ : L2.St) (H : Hp) (Q : VK) (h : tDX X.K E (fBinX op fa fb) σ H Q) : tOp (rX2 X.K E op) (tD fa) (tD fb) σ H Q := by
  obtain ⟨F, env, o, rep, e, k⟩ := h
  simp only [fBinX, Option.bind_eq_some_iff, Option.map_eq_some_iff] at e
  obtain ⟨⟨r1, e1⟩, h1, ⟨r2, e2⟩, h2, x, hx, y, hy, z, hz, e3⟩ := e
  subst e3
  refine ⟨F, env, r1, e1, rep, h1, fun v F1 H1 g1 rep1 ok1 => ⟨F1, e1, r2, e2, rep1, h2, fun w F2 H2 g2 rep2 ok2 => ?_⟩⟩
  exact ⟨F2, x, y, z, rep2.sub, (ok1.go g2).view rep2 hx, ok2.view rep2 hy, hz, outX (g1.trans g2) rep2 k⟩
theorem o_addX (hf : PySem.W.isFn X.K (.ref g) = true) (hs : PySem.W.findIn X.K (.ref C) "__add__" = some (some (.ref g))) (hc : PySem.W.selfFirst X.K C = true) (M : MetX X k g 2 R) (hr : Room k X.A) (hx : Passes (L2N.CX X.prog X.w) X E) :
    OpR X (binaryOp .Add) (rX2 X.K E (opAddBX C R)) := by
  intro pins s σ H x y v u Q I rx ry h
  obtain ⟨F, dx, dy, z, sm, hvx, hvy, e, q⟩ := h
  simp only [opAddBX, opBX, Option.bind_eq_some_iff] at e
  obtain ⟨m2, h2, m1, h1, e⟩ := e
  split at e
  · cases e
  · have dx1 := hvx.ob h1
    have dy1 := hvy.ob h2
    obtain ⟨a, ax, fs, ds, rfl, ha, _, _⟩ := dx1.ob h1
    obtain ⟨b, bx, fs', ds', rfl, hb, _, _⟩ := dy1.ob h2
    cases (show v = Value.ref a from rx)
    cases (show u = Value.ref b from ry)
    obtain ⟨ox, od, J, _⟩ := ob_at I (sm _ _ ha)
    obtain ⟨oy, od', J', _⟩ := ob_at I (sm _ _ hb)
    obtain ⟨mm, hF⟩ := I.fr
    refine PySem.W.binop_K (op := .Add) hF I.ok.mod.kin J J'.type hc hs hf (wpAny_mono (run_XE M hr hx I (us := [.ref a, .ref b]) (vs := [.ref a, .ref b]) (.cons rfl (.cons rfl .nil)) sm (.cons dx1 (.cons dy1 .nil)) rfl e q) (fun w s' z => ?_) fun _ _ x => x)
    obtain ⟨z', H', I', rz, qz⟩ := z
    exact SlX.cmpback rz ⟨z', H', I', rz, qz⟩
theorem dex_add (hf : PySem.W.isFn X.K (.ref g) = true) (hs : PySem.W.findIn X.K (.ref C) "__add__" = some (some (.ref g))) (hc : PySem.W.selfFirst X.K C = true) (M : MetX X k g 2 R) (hr : Room k X.A) (hx : Passes (L2N.CX X.prog X.w) X E) (ha : DE X a fa) (hb : DE X b fb) :
    DEX X E (.BinOp a .Add b pos) (fBinX (opAddBX C R) fa fb) := PE.imp (pe_op (o_addX hf hs hc M hr hx) ha hb) binX_imp
/-- o[i] by the class's own method -/
theorem dex_item (hf : PySem.W.isFn X.K (.ref g) = true) (hfi : PySem.W.fnIn X.K g = true) (hs : PySem.W.findIn X.K (.ref C) "__getitem__" = some (some (.ref g))) (M : MetX X k g 2 R) (hr : Room (k + 1) X.A)
    (hx : ∀ (pins : List (Addr × Obj)) (σ : L2.St) (H : Hp) (s : Shared) (e : Value) (s' : Shared), Inv X pins σ H s → L2N.CX X.prog X.w X.stack H s E e s' → X.xe e s') (ha : DE X a fa) (hb : DE X b fb)
    (hsl : ∀ q i, subscripted b true (.ref q) i = runValue (.builtin "lifetime.subscript" ⟨[.ref q, i], []⟩) := by intro _ _; with_unfolding_all rfl) : DEX X E (.Subscript a b pos) (fBinX (opBX C R) fa fb) := by
  refine PE.imp ⟨fun pins s σ H Q I h => ?_⟩ binX_imp
  refine Subscript_ (binT ha hb I (R := fun x y H2 => rX2 X.K E (opBX C R) x y H2 Q) h fun v u s2 x y H2 I2 rx ry q => ?_)
  obtain ⟨F, dx, dy, z, sm, hvx, hvy, e, q⟩ := q
  simp only [opBX, Option.bind_eq_some_iff] at e
  obtain ⟨m1, h1, e⟩ := e
  split at e
  · cases e
  · rename_i hl
    have dx1 := hvx.ob h1
    have dy1 := hvy.dat' (by simpa using hl)
    obtain ⟨a, ax, fs, ds, rfl, ha, _, _⟩ := dx1.ob h1
    cases (show v = Value.ref a from rx)
    obtain ⟨ox, od, J, _⟩ := ob_at I2 (sm _ _ ha)
    obtain ⟨mm, hF⟩ := I2.fr
    exact PySem.W.sub_K hF I2.ok.mod.kin J hs hfi hf (wpAny_call (SlX.run_at M (Room.in1 hr) I2.env0.in1 (E := E) hx I2 (us := [.ref a, u]) (ws := [.ref a, y]) (.cons rfl (.cons ry .nil)) ⟨F, [_, dy], z, sm, .cons dx1 (.cons dy1 .nil), rfl, e, q⟩)) (hsl _ _)
/-- o(e, ..), o an instance -/
def fObX (C : Nat) (R : FnX) (fa : FE) (a : FA) : FEX := fun env => (fa env).bind fun p => match p.1 with
  | .dat d => (isOb C d).bind fun _ => (a p.2).bind fun q => (R (d :: q.1)).map (putR q.2)
  | _ => none
theorem dex_callO (c : StX.CallO X.K C g) (M : MetX X k g n R) (hn : es.length + 2 = n) (hr : Room k X.A) (hx : Passes (L2N.CX X.prog X.w) X E) (ho : DE X o fa) (hal : ∀ ds e1 env, ga env = some (ds, e1) → ds.length = es.length + 1) (ha : DA X (e :: es) ga)
    (ht : eval (.Call o (e :: es) [] pos) X.env = (do callWith pos (← eval o X.env) [] (backTo pos (starEach (e :: es) X.env)) (backToKw pos (keywordEach [] X.env))) := by rfl)
    (he : starEach (e :: es) X.env = (false, eval e X.env) :: starEach es X.env := by rfl) (hpl : (backTo pos (starEach es X.env)).any (·.1) = false := by rfl) : DEX X E (.Call o (e :: es) [] pos) (fObX C R fa ga) :=
  PE.imp (StX.pe_callO (E := E) ho c M hr hx ha ht he hpl) fun σ H Q h => by
  obtain ⟨F, env, z, rep, e0, kk⟩ := h
  simp only [fObX, Option.bind_eq_some_iff] at e0
  obtain ⟨⟨r1, e1⟩, h1, h2⟩ := e0
  simp only at h2
  split at h2
  · rename_i d
    simp only [Option.bind_eq_some_iff, Option.map_eq_some_iff] at h2
    obtain ⟨m, hm, ⟨ds, e2⟩, h3, z', h4, h5⟩ := h2
    subst h5
    refine ⟨F, env, .dat d, e1, rep, h1, fun v F1 H1 g1 rep1 ok1 => ?_⟩
    have hd1 : HD F1 v d := by
      cases ok1 with
      | dat h => exact h
    obtain ⟨a, dx, fs, ds', rfl, hp, hs, _⟩ := hd1.ob hm
    refine ⟨a, rfl, F1, e1, ds, e2, rep1, h3, fun vs F2 H2 g2 rep2 hds => ⟨.inr ⟨dx, fs, rep2.sub _ _ (g2.fz _ _ hp)⟩, F2, d :: ds, z', rep2.sub, .cons (hd1.mono g2.fz) hds, ?_, h4, outX (g1.trans g2) rep2 kk⟩⟩
    rw [List.length_cons, hal _ _ _ h3]
    omega
  · cases h2
theorem len_nil : ∀ ds e1 env, faNil env = some (ds, e1) → ds.length = 0 := fun ds e1 env h => by cases h; rfl
theorem len_cons {f1 : FE} {f2 : FA} {m : Nat} (h : ∀ ds e1 env, f2 env = some (ds, e1) → ds.length = m) : ∀ ds e1 env, faCons f1 f2 env = some (ds, e1) → ds.length = m + 1 := fun ds e1 env z => by
  simp only [faCons, Option.bind_eq_some_iff, Option.map_eq_some_iff] at z
  obtain ⟨p, _, q, _, u, h3, h4⟩ := z
  cases h4
  rw [List.length_cons, h _ _ _ h3]
/-- a classmethod, called on its class -/
def spCM (K : PySem.W.Frag) (C : Addr) (R : FnX) : Sp := fun vs H Q E => ∃ us F ds r, vs = .ref C :: us ∧ Same F H ∧ HDs F us ds ∧ us.length ≤ sizeLine ∧ R ds = some r ∧ ResX K F H Q E r
def fCmX (R : FnX) (a : FA) : FEX := fun env => (a env).bind fun p => if p.1.length ≤ sizeLine then (R p.1).map (putR p.2) else none
theorem dex_cm {mc : Value} {m : Str} {pr : Addr} {apos : Pos} (r : ClX.CRead X.K C mc) (c : ClX.CMet X.K C mc m pr g) (M : FnR X.prog X.w X.K X.mg X.base (L2N.CX X.prog X.w) k g (spCM X.K C R)) (hr : Room k X.A) (hx : Passes (L2N.CX X.prog X.w) X E) (hg : Gl X x) (hm : X.mg x = some (.ref C)) (ha : DA X (e :: es) ga)
    (hdb : (x == ("__debug__" : Str)) = false := by decide) (hst : starEach (e :: es) X.env = (false, eval e X.env) :: starEach es X.env := by rfl) (hpl : (backTo pos (starEach es X.env)).any (·.1) = false := by rfl) {pl : Sem Bool}
    (ht : eval (.Call (.Attribute (.Name x p) m apos) (e :: es) [] pos) X.env = (do
      let ov ← eval (.Name x p) X.env
      standAt apos.atName
      let (f, first) ← holding [ov] (getMethod ov m pl)
      callWith pos f first (backTo pos (starEach (e :: es) X.env)) (backToKw pos (keywordEach [] X.env))) := by rfl) : DEX X E (.Call (.Attribute (.Name x p) m apos) (e :: es) [] pos) (fCmX R ga) :=
  PE.imp (ClX.pe_cmeth (E := E) (pe_glob (v := .ref C) hg hm rfl hdb) r c M hr hx ha hst hpl ht) fun σ H Q h => by
  obtain ⟨F, env, z, rep, e0, kk⟩ := h
  simp only [fCmX, Option.bind_eq_some_iff] at e0
  obtain ⟨⟨ds, e1⟩, h1, h2⟩ := e0
  simp only at h2
  split at h2
  · rename_i hl
    simp only [Option.map_eq_some_iff] at h2
    obtain ⟨z', h4, h5⟩ := h2
    subst h5
    exact ⟨rfl, F, env, ds, e1, rep, h1, fun vs F1 H1 g1 rep1 hds => ⟨vs, F1, ds, z', rfl, rep1.sub, hds, by rw [hds.length]; exact hl, h4, outX g1 rep1 kk⟩⟩
  · cases h2
/-- e.f, f a property of e's class, where e may raise -/
def fPropX (C : Nat) (Rf : Fn) (f : FEX) : FEX := fun env => (f env).bind fun o => match o with
  | .inl x => some (.inl x)
  | .inr p => (view p.2 p.1).bind fun d => (opSelf C Rf d).map fun r => .inr (r, p.2)
theorem dex_prop {pr : Addr} {fd : FuncData} {fn : Str} (cl : Cls X.K C) (hp : PropOf X.K C fn pr g) (ok : FnOk X.prog X.w X.K X.mg X.base CX0 k g fd ["self"] (spD 1 Rf)) (hr : Room (k + 1) X.A) (hb : Binds X.K fd ["self"] []) (he : DEX X E e fx)
    (hab : attributeBase e fn X.env (eval e X.env) = eval e X.env := by rfl) : DEX X E (.Attribute e fn pos) (fPropX C Rf fx) := PE.imp (pe_prop (E := noE) he cl hp ok hr hb .nil pass0 hab) fun σ H Q h => by
  obtain ⟨F, env, z, rep, e0, kk⟩ := h
  simp only [fPropX, Option.bind_eq_some_iff] at e0
  obtain ⟨o, h1, h2⟩ := e0
  refine ⟨F, env, o, rep, h1, ?_⟩
  cases o with
  | inl x =>
    cases h2
    exact kk
  | inr q =>
    obtain ⟨r1, e1⟩ := q
    simp only [Option.bind_eq_some_iff, Option.map_eq_some_iff] at h2
    obtain ⟨d, hd, r, hr', h3⟩ := h2
    subst h3
    intro v F1 H1 g1 rep1 ok1
    simp only [opSelf, Option.bind_eq_some_iff] at hr'
    obtain ⟨m, hm, hr'⟩ := hr'
    have hd1 := (ok1.view rep1 hd).ob hm
    obtain ⟨a, dx, fs, ds, rfl, ha, hs, rfl⟩ := hd1.ob hm
    exact ⟨a, dx, fs, rfl, rep1.sub _ _ ha, F1, [d], r, rep1.sub, .cons hd1 .nil, rfl, hr', g1.ret rep1 kk⟩
/-- len(e), where e may raise -/
def fUnX (u : PyData → Option Rs) (f : FEX) : FEX := fun env => (f env).bind fun o => match o with
  | .inl x => some (.inl x)
  | .inr p => (view p.2 p.1).bind fun d => (u d).map fun r => .inr (r, p.2)
theorem dex_b1 {id : String} {op : PyData → Option Rs} (hc : CallR X (.builtin id) (rC1 op)) (hg : Gl X x) (hm : X.mg x = none) (hv : bootBuiltins x = some (.builtin id)) (ha : DEX X E e fx) (hnm : x ≠ "__name__" := by decide) (hdb : (x == ("__debug__" : Str)) = false := by decide)
    (hs : starEach [e] X.env = (false, eval e X.env) :: starEach [] X.env := by rfl) (hpl : (backTo pos (starEach [] X.env)).any (·.1) = false := by rfl) : DEX X E (.Call (.Name x p) [e] [] pos) (fUnX op fx) := PE.imp (pe_callB hc hg hm hv (pa_cons ha pa_nil hs) hnm hdb hs hpl) fun σ H Q h => by
  obtain ⟨F, env, z, rep, e0, kk⟩ := h
  simp only [fUnX, Option.bind_eq_some_iff] at e0
  obtain ⟨o, h1, h2⟩ := e0
  refine ⟨F, env, o, rep, h1, ?_⟩
  cases o with
  | inl x =>
    cases h2
    exact kk
  | inr q =>
    obtain ⟨r1, e1⟩ := q
    simp only [Option.bind_eq_some_iff, Option.map_eq_some_iff] at h2
    obtain ⟨d, hd, r, hr', h3⟩ := h2
    subst h3
    exact fun v F1 H1 g1 rep1 ok1 => ⟨v, rfl, F1, d, r, rep1.sub, ok1.view rep1 hd, hr', g1.ret rep1 kk⟩
/-- C.f, a number that stands in the class -/
theorem de_const {mc : Value} {f : Str} {i : Int} {u : Value} (r : ClX.CRead X.K C mc) (c : ClX.CVal X.K C mc f (.int i) u) (hg : Gl X x) (hm : X.mg x = some (.ref C)) (hdb : (x == ("__debug__" : Str)) = false := by decide)
    (hb : attributeBase (.Name x p) f X.env (eval (.Name x p) X.env) = eval (.Name x p) X.env := by rfl) : DE X (.Attribute (.Name x p) f pos) (fC (.int i)) := PE.imp (ClX.pe_cval (pe_glob (v := .ref C) hg hm rfl hdb) hb) fun σ H Q h => by
  obtain ⟨F, env, r', env', rep, e, k⟩ := h
  cases e
  exact ⟨C, mc, .int i, u, rfl, r, c, k _ F H .refl rep (.dat (.int i))⟩
end
end DL

/-! DL32: lists walked and tuples unpacked while an exception is handled. -/
namespace DL
open PySem PySem.Spec PyProof.Rows L2 HotX
section
variable {prog : Program} {w : World} {A : Around} {E : Value → Shared → Prop} {s : Shared} {x1 : Addr}
/-- the end of an iterator, told by an exception that is made while another one is handled -/
theorem stopped_hot {α : Type} {Q : α → Shared → Prop} (hot : HotAt A x1 s.heap) (out : ∀ a h2, (∀ b o, s.heap.get? b = some o → h2.get? b = some o) → (∃ o, h2.get? a = some o ∧ o.cls = .type "StopIteration") → E (.ref a) { s with heap := h2 }) :
    wpAny (model prog w) A (newExc (.type "StopIteration") [] >>= fun z => (raiseNew z : Sem α)) Q E s := by
  obtain ⟨hh, o1, vs1, g1, d1, c1⟩ := hot
  refine wpAny_bind (?_)
  simp only [newExc, newTuple]
  refine wpAny_bind (wpAny_newObj_type (?_) (by size_fits))
  refine wpAny_bind (m := firstArgMember _ _) (wpAny_of_eq (a := Value.none) (by first | exact rfl | (simp only [firstArgMember]; rfl)) (?_))
  refine wpAny_newObj_type (?_) (by size_fits)
  have up : ∀ (t u : Obj) b o, s.heap.get? b = some o → ((s.heap.push t).push u).get? b = some o := fun t u b o q => Heap.get?_push_of_some _ (Heap.get?_push_of_some _ q)
  refine raiseNew_hot ⟨hh, o1, vs1, up _ _ _ _ g1, d1, c1⟩ (Nat.ne_of_lt (Heap.lt_size (Heap.get?_push_of_some _ g1))) (Heap.get?_push_size _ rfl) rfl (by first | (simp; done) | (simp; omega)) (out _ _ (fun b o q => ?_) ⟨_, Heap.get?_update_self _ (Heap.get?_push_size _ rfl) rfl, rfl⟩)
  rw [Heap.get?_update_other _ _ (Nat.ne_of_gt (Heap.lt_size (Heap.get?_push_of_some _ q)))]
  exact up _ _ b o q
theorem list_end_hot {it l : Addr} {i : Nat} {its : Array Value} {Q : Option Value → Shared → Prop} (hot : HotAt A x1 s.heap) (hit : s.heap.IsListIter it l i) (hl : s.heap.IsList l its) (hx : its[i]? = none) (ne : x1 ≠ it)
    (out : ∀ h2, Heap.ExtBut it s.heap h2 → Q none { s with heap := h2 }) : wpAny (model prog w) A (pyNext (.ref it)) Q E s := by
  obtain ⟨o, ho, hc, hd⟩ := id hit
  obtain ⟨ol, hol, _, nl, hdl⟩ := hl
  obtain ⟨hh, o1, vs1, g1, d1, c1⟩ := hot
  unfold pyNext
  refine wpAny_bind (wpAny_attempt (wpAny_callSpecial?_slot (name := Str.ofString "__next__") hit.typeIs slot_listiter_next (wpAny_call_entry slot_listiter_next hit.typeIs entry_listiter_next (?_) (args_listiter_next _))))
  show wpAny _ A.in1 (field (.ref it) 0 >>= _) _ _ s
  refine wpAny_bind (wpAny_field ho hd (x := Value.ref l) rfl (?_))
  show wpAny _ A.in1 (if (Value.ref l == Value.none) = true then _ else _) _ _ s
  rw [if_neg (show ¬ (Value.ref l == Value.none) = true from Bool.false_ne_true)]
  show wpAny _ A.in1 (field (.ref it) 1 >>= _) _ _ s
  refine wpAny_bind (wpAny_field ho hd (x := Value.int i 0) rfl (?_))
  show wpAny _ A.in1 (seqItems? (.ref l) >>= _) _ _ s
  refine wpAny_bind (wpAny_seqItems hol hdl (?_))
  simp only [Int.toNat_natCast, hx]
  refine wpAny_bind (wpAny_rule (wpAny_bind (wpAny_setField ho hd (by simp) (?_))))
  refine stopped_hot (A := A.in1) ⟨hh, o1, vs1, (Heap.get?_update_other _ _ ne.symm).trans g1, d1, c1⟩ fun a h2 k ⟨oe, he, hce⟩ => ?_
  refine wpAny_bind (wpAny_isInstance (T := "StopIteration") (b := true) ⟨oe, he, hce⟩ isSubtype_stop (?_))
  exact wpAny_pure (out _ fun b o hb q => k b o ((Heap.get?_update_other _ _ (Ne.symm hb)).trans q))
theorem tuple_end_hot {it l : Addr} {i : Nat} {its : Array Value} {Q : Option Value → Shared → Prop} (hot : HotAt A x1 s.heap) (hit : s.heap.IsTupleIter it l i) (hl : s.heap.IsTuple l its) (hx : its[i]? = none) (ne : x1 ≠ it)
    (out : ∀ h2, Heap.ExtBut it s.heap h2 → Q none { s with heap := h2 }) : wpAny (model prog w) A (pyNext (.ref it)) Q E s := by
  obtain ⟨o, ho, hc, hd⟩ := id hit
  obtain ⟨ol, hol, _, nl, hdl⟩ := hl
  obtain ⟨hh, o1, vs1, g1, d1, c1⟩ := hot
  unfold pyNext
  refine wpAny_bind (wpAny_attempt (wpAny_callSpecial?_slot (name := Str.ofString "__next__") hit.typeIs F.slot_tuple_iterator_next (wpAny_call_entry F.slot_tuple_iterator_next hit.typeIs F.entry_tuple_iterator_next (?_) (F.args_tuple_iterator_next_1 _))))
  show wpAny _ A.in1 (field (.ref it) 0 >>= _) _ _ s
  refine wpAny_bind (wpAny_field ho hd (x := Value.ref l) rfl (?_))
  show wpAny _ A.in1 (if (Value.ref l == Value.none) = true then _ else _) _ _ s
  rw [if_neg (show ¬ (Value.ref l == Value.none) = true from Bool.false_ne_true)]
  show wpAny _ A.in1 (field (.ref it) 1 >>= _) _ _ s
  refine wpAny_bind (wpAny_field ho hd (x := Value.int i 0) rfl (?_))
  show wpAny _ A.in1 (seqItems? (.ref l) >>= _) _ _ s
  refine wpAny_bind (wpAny_seqItems hol hdl (?_))
  simp only [Int.toNat_natCast, hx]
  refine wpAny_bind (wpAny_rule (wpAny_bind (wpAny_setField ho hd (by simp) (?_))))
  refine stopped_hot (A := A.in1) ⟨hh, o1, vs1, (Heap.get?_update_other _ _ ne.symm).trans g1, d1, c1⟩ fun a h2 k ⟨oe, he, hce⟩ => ?_
  refine wpAny_bind (wpAny_isInstance (T := "StopIteration") (b := true) ⟨oe, he, hce⟩ isSubtype_stop (?_))
  exact wpAny_pure (out _ fun b o hb q => k b o ((Heap.get?_update_other _ _ (Ne.symm hb)).trans q))
theorem unpack_hot {t : Addr} {its : Array Value} {tgs : List (Bool × (Value → Sem Unit))} {Q : Unit → Shared → Prop} (hot : HotAt A x1 s.heap) (ht : s.heap.IsTuple t its) (hn : tgs.length = its.size) (hst : tgs.findIdx? (·.1) = none)
    (go : ∀ h2, Heap.ExtBut s.heap.objs.size s.heap h2 → wpAny (model prog w) A (assignInOrder (tgs.map (·.2)) its.toList) Q E { s with heap := h2 }) : wpAny (model prog w) A (unpack (.ref t) tgs) Q E s := by
  have tne : t ≠ s.heap.objs.size := by obtain ⟨o, ho, _⟩ := ht; exact Nat.ne_of_lt (Heap.lt_size ho)
  have xne : x1 ≠ s.heap.objs.size := by obtain ⟨_, o, _, ho, _⟩ := hot; exact Nat.ne_of_lt (Heap.lt_size ho)
  unfold unpack
  rw [hn, hst]
  refine wpAny_bind (wpAny_holding ?_)
  unfold unpackItems
  refine wpAny_bind ?_
  unfold notIterableAtAll
  refine wpAny_bind (wpAny_specialOf ht.typeIs F.slot_tuple_iter.lookup (wpAny_pure ?_))
  simp only [Bool.false_eq_true, if_false]
  refine wpAny_bind (wpAny_holding (wpAny_pyIter_tuple ht (?_)))
  refine wpAny_bind (wpAny_holding (wpAny_draw_tuple tne its.size 0 _ _ ⟨_, Heap.get?_push_size _ rfl, rfl, rfl⟩ (ht.push _) (by omega) fun h3 hit3 same3 => ?_))
  have full : List.take its.size (List.drop 0 its.toList) = its.toList := by
    rw [List.drop_zero]
    exact List.take_of_length_le (by simp)
  rw [full, if_neg (by simp)]
  obtain ⟨hh, o1, vs1, g1, d1, c1⟩ := hot
  refine wpAny_bind (wpAny_holding (tuple_end_hot (x1 := x1) ⟨hh, o1, vs1, same3.extBut _ _ xne (Heap.get?_push_of_some _ g1), d1, c1⟩ hit3 ((ht.push _).extBut same3.extBut tne) (by simp) xne fun h4 ext4 => ?_))
  simp only [Option.isSome_none, Bool.false_eq_true, if_false]
  exact wpAny_pure (go h4 fun b o hb q => ext4 b o hb (same3.extBut b o hb (Heap.get?_push_of_some _ q)))
end
end DL

/-! DL33: a list comprehension over a list, while an exception is handled. -/
namespace DL
open PySem PySem.Spec PyProof.Rows L2 HotX L2H
/-- an exception is handled amid this context, it stood at its entry, out of reach -/
def HotB (Y : Cx) : Prop := ∃ p : Addr × Obj, Hot1 Y.A p ∧ Y.s_0.heap.get? p.1 = some p.2 ∧ Y.H_0 p.1 = none ∧ p.1 ∉ Y.fs ∧ p.1 ∉ Y.ex
theorem HotB.at {Y : Cx} {pins : List (Addr × Obj)} {σ : L2.St} {H : Hp} {s : Shared} (b : HotB Y) (I : Inv Y pins σ H s) : ∃ x1, HotAt Y.A x1 s.heap ∧ x1 < Y.s_0.heap.objs.size := by
  obtain ⟨p, ⟨hh, vs, d1, c1⟩, h1, h2, h3, h4⟩ := b
  exact ⟨p.1, ⟨hh, p.2, vs, I.base.keep p.1 p.2 h1 h2 h3 h4, d1, c1⟩, Heap.lt_size h1⟩
section
variable {X : Cx} {es : List Expr} {k n : Nat} {t : TGs} {pos : Pos}
theorem pg_tupH (hot : HotB X) (h : PGs X es t) (hn : (assignEach es X.env).length = n := by rfl) (hst : (assignEach es X.env).findIdx? (·.1) = none := by rfl) : PG X (.Tuple es k pos) (gTup X.K n t) := by
  refine ⟨fun pins s σ H v u Q I r hw => ?_⟩
  obtain ⟨a, xs, e1, hq, hl, hw⟩ := hw
  subst e1
  cases r
  obtain ⟨its, rv, ht, hz⟩ := I.tuple hq
  obtain ⟨x1, ha, _⟩ := hot.at I
  rw [assign_Tuple]
  refine wpAny_bind (wpAny_standAt (unpack_hot ha (its := its.toArray) ht (by simp [hn, ← hl, rv.length]) hst fun h2 hx => ?_))
  have I1 : Inv X pins σ H { s with heap := h2 } := I.kept (t' := s.toks) fun b o e => hx b o (Nat.ne_of_lt (Heap.lt_size e)) e
  exact h.run pins _ σ H xs _ Q I1 (by simpa using rv) hw
theorem pe_lcH {elt tg iter : Expr} {ifs : List Expr} {scope : Scope} {own : List (Str × Nat)} {tl : TE} {g : TG} {tt : TT} {te : TE} (hot : HotC X) (nd : X.N.Nodup) (hi : PE X iter tl) (ok : BlkOk X.N X.env.scope scope own)
    (hg : ∀ (s : Shared) (H : Hp) (C : Addr) (cl : List (Str × Addr)) (fp : List Addr), HotB (X.blk s H scope (compEnvC scope cl C X.env) fp) → PG (X.blk s H scope (compEnvC scope cl C X.env) fp) tg g)
    (ht : ∀ (s : Shared) (H : Hp) (C : Addr) (cl : List (Str × Addr)) (fp : List Addr), PTs (X.blk s H scope (compEnvC scope cl C X.env) fp) ifs tt)
    (he : ∀ (s : Shared) (H : Hp) (C : Addr) (cl : List (Str × Addr)) (fp : List Addr), PE (X.blk s H scope (compEnvC scope cl C X.env) fp) elt te) (hs : ∀ x, foldedSetIterable iter X.env x = pure x := by intro _; rfl) :
    PE X (.ListComp elt [⟨tg, iter, ifs, 0⟩] scope pos) (tLc (iList X.K tl) g tt te (own.map (·.2))) := by
  refine ⟨fun pins s σ H Q I h => ?_⟩
  rw [eval_ListComp]
  have bound : ∀ y ∈ scope.names, y.2 = .free → ∃ c, X.env.cells.lookup y.1 = some c := fun y hy e => (ok.free y hy e).elim (fun z => I.ok.has _ (.inl z)) fun z => I.ok.has _ (.inr z)
  refine wpAny_comprehension_free rfl hs (closure_ok bound) ok.kind (fun y hy e => by rw [ok.uniq y hy, e]) (thn (hi.run pins s σ H _ I h) fun xv s1 ⟨x0, H2, I1, r1, l, ex, ⟨xs0, hl0⟩, q⟩ => ?_)
  subst ex
  cases r1
  obtain ⟨its0, _, p0, _⟩ := I1.list hl0
  refine wpAny_pyIter_list p0.isList ?_
  -- the iterator
  generalize hs2 : ({ s1 with heap := s1.heap.push { cls := .type "list_iterator", data := .fields #[.ref l, .int 0 0] } } : Shared) = s2
  generalize hit : s1.heap.objs.size = it
  have up12 : ∀ b o, s1.heap.get? b = some o → s2.heap.get? b = some o := fun b o z => by rw [← hs2]; exact Heap.get?_push_of_some _ z
  have I2 : Inv X pins σ H2 s2 := by rw [← hs2]; exact I1.kept (t' := s1.toks) fun b o z => Heap.get?_push_of_some _ z
  have it2 : s2.heap.IsListIter it l 0 := by rw [← hs2, ← hit]; exact ⟨_, Heap.get?_push_size _ rfl, rfl, rfl⟩
  have fpi : FpOk X pins H2 it := by rw [← hit]; exact I1.fpOk (Nat.le_refl _) (I1.hok.fresh (Nat.le_refl _))
  have lt2 : it < s2.heap.objs.size := by obtain ⟨o, z, _⟩ := it2; exact Heap.lt_size z
  -- the new list
  refine wpAny_newObj_type (newEnv_comp (?_)) (by show 0 ≤ sizeLine; decide)
  generalize hD : s2.heap.objs.size = D
  have nD : H2 D = none := I2.hok.fresh (Nat.le_of_eq hD)
  obtain ⟨W, ⟨m0, w0⟩, turn⟩ := q D nD
  generalize hs3 : ({ s2 with heap := s2.heap.push { cls := .type "list", data := .seq ([] : List Value).toArray } } : Shared) = s3
  have up23 : ∀ b o, s2.heap.get? b = some o → s3.heap.get? b = some o := fun b o z => by rw [← hs3]; exact Heap.get?_push_of_some _ z
  have I3 : Inv X pins σ (upd H2 D (.lst [])) s3 := by
    rw [← hs3]
    refine I2.laid (t' := s2.toks) (fun b o z => Heap.get?_push_of_some _ z) (Nat.le_of_eq hD) ⟨Nat.zero_le _, [], 0, .nil, ?_⟩
    rw [← hD]
    exact Heap.get?_push_size _ rfl
  have itD : it ≠ D := by rw [← hD]; exact Nat.ne_of_lt lt2
  have lt3 : it < s3.heap.objs.size := by obtain ⟨o, z, _⟩ := it2; exact Heap.lt_size (up23 _ _ z)
  have it3 : s3.heap.IsListIter it l 0 := it2.at fun o z => up23 it o z
  have n3 : (upd H2 D (.lst [])) it = none := by rw [upd_ne itD]; exact fpi.1
  have fp3 : ∀ b ∈ [it], FpOk X pins (upd H2 D (.lst [])) b ∧ b < s3.heap.objs.size := fun b hb => by
    cases List.mem_singleton.mp hb
    exact ⟨⟨n3, fpi.2⟩, lt3⟩
  have I4 := block_start I3 ok nd fp3
  generalize hcl : cellsFrom (s3.heap.objs.size + 1) scope.names (cloFrom X.env.cells scope.names []) = cl at I4
  -- the handled exception, seen from the block
  have hb : ∀ ce, HotB (X.blk s3 (upd H2 D (.lst [])) scope ce [it]) := fun ce => by
    obtain ⟨p, h1, hp⟩ := hot
    obtain ⟨a1, a2, a3, a4, _⟩ := I3.pin p (List.mem_append_left _ hp)
    refine ⟨p, h1, a1, a2, fun z => ?_, fun z => ?_⟩
    · rcases List.mem_cons.mp (I3.stkSub p.1 z) with y | y
      · exact a3 y
      · exact a4 y
    · exact fpi.2.2.2.2.2 p (List.mem_append_left _ hp) (List.mem_singleton.mp z)
  have pg := hg s3 (upd H2 D (.lst [])) s3.heap.objs.size cl [it] (hb _)
  have pt := ht s3 (upd H2 D (.lst [])) s3.heap.objs.size cl [it]
  have pe := he s3 (upd H2 D (.lst [])) s3.heap.objs.size cl [it]
  have hbl := hb (compEnvC scope cl s3.heap.objs.size X.env)
  show codeAny _ _ (.compStart (.ListComp elt [⟨tg, iter, ifs, 0⟩] scope pos) 0 (.ref it) (.ref D) (compEnvC scope cl s3.heap.objs.size X.env)) (compPost (model X.prog X.w) X.A X.xe none (EP X pins σ Q) (.ref D) s3.heap.objs.size) { s3 with heap := pushCells (s3.heap.push { cls := .type "dict", data := .dict #[] }) scope.names }
  generalize hce : compEnvC scope cl s3.heap.objs.size X.env = ce at I4 pg pt pe hbl ⊢
  have cL : ce.locals = s3.heap.objs.size := by subst hce; rfl
  generalize hH3 : upd H2 D (.lst []) = H3 at I3 I4 pg pt pe w0 n3 fp3 hbl
  generalize hs4 : ({ s3 with heap := pushCells (s3.heap.push { cls := .type "dict", data := .dict #[] }) scope.names } : Shared) = s4 at I4 ⊢
  have it4 : s4.heap.IsListIter it l 0 := it3.at fun o z => by rw [← hs4]; exact pushCells_keeps _ _ _ _ (Heap.get?_push_of_some _ z)
  have stat : ∀ {σ' : L2.St} {H' : Hp} {s' : Shared}, Inv (X.blk s3 H3 scope ce [it]) [] σ' H' s' → H' it = none → FpOk (X.blk s3 H3 scope ce [it]) [] H' it := fun {σ' H' s'} I' hn =>
    ⟨hn, (I'.ok.exf it (List.mem_singleton.mpr rfl)).1, I'.ok.exfs it (List.mem_singleton.mpr rfl), .inl (List.mem_singleton.mpr rfl), fun x c z => (I'.ok.exf it (List.mem_singleton.mpr rfl)).2 x c z, fun p hp => absurd (show p ∈ ([] : List (Addr × Obj)) ++ [] from hp) (by simp)⟩
  have loop : codeAny (model X.prog X.w) X.A (.compLoop (.ListComp elt [⟨tg, iter, ifs, 0⟩] scope pos) 0 (.ref it) (.ref D) ce) (compPost (model X.prog X.w) X.A X.xe none (EP X pins σ Q) (.ref D) s3.heap.objs.size) s4 := by
    refine compLoop_any (fun n s' => ∃ i H', Inv (X.blk s3 H3 scope ce [it]) [] (wipe σ (own.map (·.2))) H' s' ∧ s'.heap.IsListIter it l i ∧ H' it = none ∧ W i n H') ?_ m0 ⟨0, H3, I4, it4, n3, w0⟩
    rintro n s5 ⟨i, H5, I5, it5, n5, w5⟩
    obtain ⟨f0, f1, f2, f3, f4, f5⟩ := stat I5 n5
    rcases turn i n H5 w5 with ⟨⟨xs, hq, hx⟩, qq⟩ | ⟨⟨xs, x, hq, hx⟩, Nx, hNx, step⟩
    · -- no item is left
      obtain ⟨its, rv, pl, hz⟩ := I5.list hq
      obtain ⟨x1, ha, hlt⟩ := hbl.at I5
      have xit : x1 ≠ it := fun z => by
        obtain ⟨p, ⟨h1, _⟩, g1, g2, g3, g4⟩ := hbl
        have e1 := ha.1
        rw [h1] at e1
        cases e1
        exact g4 (List.mem_singleton.mpr z)
      have hl := rv.length
      refine list_end_hot ha it5 pl.isList (by simp; omega) xit fun h6 eb => ?_
      have I6 : Inv (X.blk s3 H3 scope ce [it]) [] (wipe σ (own.map (·.2))) H5 { s5 with heap := h6 } := I5.turned (t' := s5.toks) (fun b o hb z => eb b o hb z) f0 f1 f3 f4 f5
      have I7 : Inv X pins σ H5 { s5 with heap := h6 } := I3.call' (ch := [it]) I6.os I6.base I6.hok I6.bare fun b hb => ⟨(fp3 b hb).1.2.2.2.1, (fp3 b hb).1.2.1, (fp3 b hb).1.2.2.2.2.1, (fp3 b hb).1.2.2.2.2.2⟩
      have nC : H5 s3.heap.objs.size = none := by
        have z : H5 ce.locals = none := I6.free
        rw [cL] at z
        exact z
      obtain ⟨m, hn, _⟩ := I6.loc
      have hn : ({ s5 with heap := h6 } : Shared).heap.Ns ce.locals m := hn
      rw [cL] at hn
      refine ⟨m, hn, fun h7 sb => ?_⟩
      obtain ⟨e0, e1, e2, e3, e4, e5⟩ := I3.fpOk (Nat.le_refl _) nC
      exact ⟨.ref D, H5, I7.turned (t' := s5.toks) (fun b o hb z => (sb.2 b hb).trans z) e0 e1 e3 e4 e5, rfl, qq⟩
    · -- an item
      obtain ⟨its, rv, pl, hz⟩ := I5.list hq
      obtain ⟨u, hu, ru⟩ := rv.get hx
      refine wpAny_pyNext_list_item it5 pl.isList (x := u) (by simpa using hu) fun h6 it6 sb => ?_
      have I6 : Inv (X.blk s3 H3 scope ce [it]) [] (wipe σ (own.map (·.2))) H5 { s5 with heap := h6 } := I5.turned (t' := s5.toks) (fun b o hb z => (sb.2 b hb).trans z) f0 f1 f3 f4 f5
      obtain ⟨o, e, c, d⟩ := id it6
      refine go_of (s := { s5 with heap := h6 }) e c d (by decide) ?_
      have I6' := I6.pinned (fp := [it]) (fun b hb => by cases List.mem_singleton.mp hb; exact stat I6 n5) fun b hb => by
        cases List.mem_singleton.mp hb
        exact ⟨o, e, fun v z => by rw [d] at z; cases z⟩
      refine thnF (pg.run _ { s5 with heap := h6 } _ H5 x u _ I6' ru (step x H5 ⟨rfl, fun ys hy => by rw [I5.list_inj hy hq]; exact hx⟩)) fun _ s8 ⟨σ8, H8, I8, hw8, q8⟩ => ?_
      refine thnF (pt.run _ s8 σ8 H8 _ I8 q8) fun b s9 ⟨H9, I9, q9⟩ => ?_
      have fin : ∀ {s' : Shared} {H' : Hp}, Inv (X.blk s3 H3 scope ce [it]) ([] ++ pinsAt [it] h6) σ8 H' s' → Nx H' → ∃ m, m < n ∧ ∃ i H', Inv (X.blk s3 H3 scope ce [it]) [] (wipe σ (own.map (·.2))) H' s' ∧ s'.heap.IsListIter it l i ∧ H' it = none ∧ W i m H' := fun {s' H'} I' nx => by
        obtain ⟨m', hm, w'⟩ := hNx H' nx
        have pin := I'.pin (it, o) (List.mem_append_right _ (List.mem_append_right _ (mem_pinsAt (List.mem_singleton.mpr rfl) e)))
        have hl : (wipe σ (own.map (·.2))).length = σ8.length := by rw [← hw8, wipe_length]
        refine ⟨m', hm, i + 1, H', (I'.unpinned (pins := [])).weak hl (fun j v z => ?_), it6.at fun o2 z => ?_, pin.2.1, w'⟩
        · rw [← hw8] at z
          exact (wipe_some z).1
        · rw [e] at z
          cases z
          exact pin.1
      cases b with
      | false =>
        simp only [Bool.false_eq_true, if_false] at q9 ⊢
        exact fin I9 q9
      | true =>
        simp only [if_true] at q9 ⊢
        refine thnF (pe.run _ s9 σ8 H9 _ I9 q9) fun z s10 ⟨yv, H10, I10, r10, acc, hD10, hz10, nx⟩ => ?_
        exact app_ok (X := X.blk s3 H3 scope ce [it]) I10 hD10 hz10 r10 fun s11 I11 => fin I11 nx
  exact codeAny_compStart_list loop (wpAny_pyIter_listiter it4 loop)
end
end DL

/-! DL37: what a def asks of a caught error: isinstance(e, C), a comprehension, join. -/
namespace DL
open PySem PySem.Spec PyProof.Rows L2 HotX L2H
/-- the thing at a -/
def refD (a : Nat) : PyData := .dict [(.none, .int (a : Int))]
def isRef (a : Nat) : PyData → Bool
  | .dict [(.none, .int x)] => decide (x = (a : Int))
  | _ => false
theorem isRef_self (a : Nat) : isRef a (refD a) = true := decide_eq_true rfl
theorem HD.place {F : Hp} {v : V} {d : PyData} {a : Nat} (h : HD F v d) (e : isRef a d = true) : v = .ref a := by
  cases h with
  | non => cases e
  | bl _ => cases e
  | int _ => cases e
  | str _ => cases e
  | lst _ _ => cases e
  | tup _ _ => cases e
  | dct hF hs q =>
    rename_i b kvs ds m
    subst q
    cases kvs with
    | nil => cases e
    | cons k r =>
      cases ds with
      | nil => cases e
      | cons d r2 =>
        exfalso
        simp only [List.map_cons, List.zip_cons_cons] at e
        unfold isRef at e
        split at e
        · rename_i z
          cases z
        · cases e
  | obj hF hs q =>
    subst q
    exfalso
    unfold isRef at e
    split at e
    · rename_i z
      cases z
    · cases e
  | plc b =>
    have := of_decide_eq_true (show decide ((b : Int) = (a : Int)) = true from e)
    rw [show b = a from Int.ofNat.inj this]
theorem HV.place {F H : Hp} {v : V} {d : PyData} {a : Nat} (h : HV F H v d) (e : isRef a d = true) : v = .ref a := by
  cases h with
  | dat h => exact h.place e
  | lst _ _ _ => cases e
/-- isinstance(e, C): e stands at a, the answer is b -/
def opIsE (a : Nat) (b : Bool) (d : PyData) : Option Rs := if isRef a d = true then some (rb b) else none
section
variable {X : Cx} {a D C : Addr} {oe : Obj} {b : Bool} {e : Expr} {fa : FE} {x : Str} {p q pos : Pos}
theorem call_isP (cE : ExcC X.K D) (hz : Zc (.ref D) none oe) (hf : ∃ vs, oe.data = .fields vs) (hp : (a, oe) ∈ X.pn) : CallR X (.builtin "isinstance") (rIsE X.K D a) := by
  intro pins s σ H xs us Q I r h
  obtain ⟨c, cv, y, rfl, hcv, hk, k⟩ := h
  cases r with
  | cons rx rr =>
    cases rr with
    | cons rt rr =>
      cases rr
      cases rx
      have ec := hcv _ rt
      subst ec
      have hget := (I.pin (a, oe) (List.mem_append_left _ hp)).1
      obtain ⟨vs, hv⟩ := hf
      have J : PySem.W.InstAt s.heap a oe D none := by
        obtain ⟨o1, o2, o3, o4⟩ := oe
        obtain ⟨z1, z2⟩ := hz
        dsimp only at z1 z2 hv
        subst z1 z2 hv
        exact ⟨hget, rfl, rfl, trivial⟩
      exact PySem.W.kia_one (PySem.W.handS_kitx_exc cE.hg cE.hk cE.hs cE.hd cE.ha cE.hn cE.ht cE.hm) I.kIn J hk (fun z => nomatch z) fun tk => ⟨.bl y, H, I.kept (t' := tk) fun _ _ z => z, rfl, k⟩
theorem de_isE (cE : ExcC X.K D) (hz : Zc (.ref D) none oe) (hf : ∃ vs, oe.data = .fields vs) (hp : (a, oe) ∈ X.pn) (hk : PySem.W.kitOne X.K (.ref D) (.ref C) = some b) (hg : Gl X "isinstance") (hm : X.mg "isinstance" = none) (hgC : Gl X x) (hmC : X.mg x = some (.ref C)) (he : DE X e fa)
    (hd : (x == ("__debug__" : Str)) = false := by decide) (hs : starEach [e, .Name x q] X.env = (false, eval e X.env) :: starEach [.Name x q] X.env := by rfl) (hs2 : starEach [.Name x q] X.env = (false, eval (.Name x q) X.env) :: starEach [] X.env := by rfl)
    (hpl : (backTo pos (starEach [.Name x q] X.env)).any (·.1) = false := by rfl) : DE X (.Call (.Name "isinstance" p) [e, .Name x q] [] pos) (fUn (opIsE a b) fa) :=
  PE.imp (pe_callB (call_isP cE hz hf hp) hg hm (by decide +kernel) (pa_cons he (pa_cons (pe_glob (v := .ref C) hgC hmC rfl hd) pa_nil hs2) hs) (by decide) (by decide) hs hpl) fun σ H Q h => by
    obtain ⟨F, env, r, env', rep, e, k⟩ := un_imp σ H Q h
    refine ⟨F, env, r, env', rep, e, fun v F1 H1 g1 rep1 ok1 => ?_⟩
    obtain ⟨F2, dx, z, sm, hx, ez, kz⟩ := k v F1 H1 g1 rep1 ok1
    unfold opIsE at ez
    split at ez
    · rename_i hr
      cases ez
      have ev := hx.place hr
      subst ev
      exact ⟨.ref C, .ref C, b, rfl, fun u hu => hu, hk, kz.bool sm⟩
    · cases ez
end
/-! ### a comprehension over a list, an exception being handled -/
def fiL (fa : FE) : FI := fun env => (fa env).bind fun p => (frz p.2 p.1).bind fun q => match q.1 with
  | .list ds => some (ds, q.2)
  | _ => none
theorem fiL_imp {X : Cx} {fa : FE} (σ : L2.St) (H : Hp) (R : It → Hp → Prop) (h : tDI (fiL fa) σ H R) : iList X.K (tD fa) σ H R := by
  obtain ⟨F, env, xs, env', rep, e, k⟩ := h
  simp only [fiL, Option.bind_eq_some_iff] at e
  obtain ⟨⟨r1, e1⟩, h1, ⟨d, e2⟩, h2, h3⟩ := e
  cases d with
  | list ds =>
    cases h3
    refine ⟨F, env, r1, e1, rep, h1, fun v F1 H1 g1 rep1 ok1 => ?_⟩
    obtain ⟨F2, g2, rep2, hd⟩ := ok1.frz g1 rep1 h2
    cases hd with
    | lst hp hs => exact ⟨_, rfl, ⟨_, .of (rep2.sub _ _ hp)⟩, k _ F2 H1 g2 rep2 (walk_list hp hs)⟩
  | _ => cases h3
section
variable {X : Cx} {vs us : List Nat} {fa fe : FE} {g : FG} {t : FT}
theorem de_compH {elt tg iter : Expr} {ifs : List Expr} {scope : Scope} {pos : Pos} (own : List (Str × Nat)) (hot : HotC X) (nd : X.N.Nodup) (hi : DE X iter fa) (ok : BlkOk X.N X.env.scope scope own) (hu : ∀ j ∈ us, j ∈ own.map (·.2))
    (hg : ∀ (s : Shared) (H : Hp) (C : Addr) (cl : List (Str × Addr)) (fp : List Addr), HotB (X.blk s H scope (compEnvC scope cl C X.env) fp) → DG (X.blk s H scope (compEnvC scope cl C X.env) fp) tg us g)
    (ht : ∀ (s : Shared) (H : Hp) (C : Addr) (cl : List (Str × Addr)) (fp : List Addr), PTs (X.blk s H scope (compEnvC scope cl C X.env) fp) ifs (tDT t))
    (he : ∀ (s : Shared) (H : Hp) (C : Addr) (cl : List (Str × Addr)) (fp : List Addr), DE (X.blk s H scope (compEnvC scope cl C X.env) fp) elt fe) (hs : ∀ x, foldedSetIterable iter X.env x = pure x := by intro _; rfl) :
    DE X (.ListComp elt [⟨tg, iter, ifs, 0⟩] scope pos) (fComp (own.map (·.2)) (fiL fa) g t fe) :=
  PE.imp (pe_lcH hot nd hi ok hg ht he hs) fun σ H Q h => by
    have h2 := comp_imp hu σ H Q h
    exact fiL_imp σ H _ h2
end
/-! ### join -/
def strsD : List PyData → Option (List Str)
  | [] => some []
  | .str y :: r => (strsD r).map (y :: ·)
  | _ => none
theorem strs_of : ∀ {F : Hp} {ds : List PyData} {vs : List V} {ys : List Str}, HDs F vs ds → strsD ds = some ys → vs = ys.map V.str
  | _, [], _, _, .nil, e => by cases e; rfl
  | F, d :: r, _, ys, .cons h hs, e => by
    cases d with
    | str y =>
      simp only [strsD, Option.map_eq_some_iff] at e
      obtain ⟨zs, e1, rfl⟩ := e
      cases h
      rw [strs_of hs e1]
      rfl
    | _ => cases e
def opJoin (a : Str) : PyData → Option Rs
  | .list ds => (strsD ds).bind fun ys => if (ys.map (·.length)).sum + ys.length * a.length ≤ 16777216 then some (.dat (.str (Txt.join a ys))) else none
  | _ => none
section
variable {X : Cx} {o e : Expr} {fb : FE} {a : Str} {apos pos : Pos}
theorem de_join (ho : PE X o (tC (.str a))) (he : DE X e fb) (hs : starEach [e] X.env = [(false, eval e X.env)] := by rfl) (hbase : attributeBase o "join" X.env (eval o X.env) = eval o X.env := by rfl) (hline : (apos.endLine == pos.line) = true := by rfl) :
    DE X (.Call (.Attribute o "join" apos) [e] [] pos) (fUn (opJoin a) fb) := PE.imp (pe_join ho he hs hbase hline) fun σ H Q h => by
  obtain ⟨F, env, r, env', rep, e, k⟩ := un_imp σ H Q h
  refine ⟨⟨a, rfl⟩, F, env, r, env', rep, e, fun v F1 H1 g1 rep1 ok1 => ?_⟩
  obtain ⟨F2, dx, z, sm, hx, ez, kz⟩ := k v F1 H1 g1 rep1 ok1
  cases dx with
  | list ds =>
    simp only [opJoin, Option.bind_eq_some_iff] at ez
    obtain ⟨ys, q1, q2⟩ := ez
    split at q2
    · rename_i hl
      cases q2
      obtain ⟨p, vs, rfl, hp, hsx⟩ := hx.list sm
      have ey := strs_of hsx q1
      subst ey
      exact ⟨a, p, ys, rfl, rfl, .inl (.of hp), hl, kz.str sm⟩
    · cases q2
  | _ => cases ez
end
end DL

/-! DL38: try .. except X as e: return kind(e). -/
namespace DL
open PySem PySem.Spec PyProof.Rows L2 HotX L2H
/-- a def that is called with the error that its caller holds: G by the error's class and place -/
structure FnP (P : Program) (w : World) (K : PySem.W.Frag) (mg : Str → Option Value) (base : Heap) (CX : CXT) (k : Nat) (f : Addr) (fd : FuncData) (ps : List Str) (G : Addr → Addr → Sp) : Prop where
  len : ∀ D a vs H Q E, G D a vs H Q E → vs.length = ps.length
  run : ∀ (A : Around) (outer : List PySem.Env) (s : Shared) (H : Hp) (args : Args) (us : List Value) (vs : List V) (Q : VK) (E : XK) (p : Addr × Obj) (D : Addr), RoomH k A → Hot1 A p → Zc (.ref D) none p.2 → PinOk outer H s p → Env0 P w K mg base A outer s H → BindsTo s fd args (ps.zip us) → Vals vs us → G D p.1 vs H Q E →
    codeAny (model P w) A (.call (.ref f) args) (CR CX outer P w H s Q E) s
section
variable {CX : CXT} {P : Program} {w : World} {K : PySem.W.Frag} {mg : Str → Option Value} {base : Heap} {k : Nat} {f : Addr}
theorem fn_ofP {name qual : Str} {params : Arguments} {body : List Stmt} {scope : Scope} {dV kV doc pm cdv ct oc : Value} {an od : Option Addr} {osl : Array (Option Value)} {N ps : List Str} {G : Addr → Addr → Sp}
    (lk : K.lookup f = some ⟨oc, od, .func (PySem.W.fnOf name qual params body scope dV kV doc pm an cdv ct), osl⟩) (hcd : PySem.W.codeIn K cdv qual = true) (S : FnScope N ps scope) (len : ∀ D a vs H Q E, G D a vs H Q E → vs.length = ps.length)
    (hbody : ∀ (A : Around) (outer : List PySem.Env) (s : Shared) (H : Hp) (vs : List V) (Q : VK) (E : XK) (p : Addr × Obj) (D : Addr), Hot1 A p → Zc (.ref D) none p.2 → RoomH k (A.deeper (envOfC qual scope s.heap.objs.size f cdv)) → G D p.1 vs H Q E →
      ∃ t, PSs (cxH CX P w K mg base N qual scope f cdv A outer s H E p) body t ∧ t { nx := fun _ H' => Q .non H', rt := Q } (L2.start N vs) H) :
    FnP P w K mg base CX (k + 1) f (PySem.W.fnOf name qual params body scope dV kV doc pm an cdv ct) ps G := by
  refine ⟨len, fun A outer s H args us vs Q E p D hr hot hz hpin e0 hb r hsp => ?_⟩
  have kin : K.In s.heap := e0.mod.kin.keeps fun b o q => (e0.bs b o q).1
  have lim := e0.mod.nolimit.keeps fun b o q => (e0.bs b o q).1
  refine codeAny_call_function hr.depth (kin _ _ lk) rfl S.co S.gen rfl (PySem.W.codeRec_of kin hcd) (hb _ _ _ _ (wpAny_newFunctionEnv_cells S.kind (fun y hy => ?_) fun env he s1 x => ?_))
  · exact (S.par y.1 (List.of_mem_zip hy).1).imp id fun q => ⟨q, PySem.W.cellsFrom_some _ _ _ (.inl q)⟩
  subst he
  obtain ⟨t, ht, hq⟩ := hbody A outer s H vs Q E p D hot hz (hr.deeper _) hsp
  have I : Inv (cxH CX P w K mg base N qual scope f cdv A outer s H E p) [] (L2.start N vs) H s1 := inv_startH S hpin e0 (len _ _ _ _ _ _ hsp) r x
  refine ⟨lim.keeps x.toInCall.keep, codeAny_func (wpAny_mono (ht.run [] s1 (L2.start N vs) H _ I hq) (fun fl s2 hs => ?_) fun e s2 hs => hs)⟩
  cases fl with
  | ret u =>
    obtain ⟨v, σ2, H2, J, rv, q⟩ := hs
    exact ⟨v, H2, J.os, J.bare, J.base, J.hok, rv, q⟩
  | next =>
    obtain ⟨σ2, H2, J, q⟩ := hs
    exact ⟨.non, H2, J.os, J.bare, J.base, J.hok, rfl, q⟩
  | brk => obtain ⟨_, _, _, q⟩ := hs; exact q.elim
  | cont => obtain ⟨_, _, _, q⟩ := hs; exact q.elim
/-- such a def by its name -/
structure CalP (P : Program) (w : World) (K : PySem.W.Frag) (mg : Str → Option Value) (base : Heap) (k : Nat) (x : Str) (G : Addr → Addr → Sp) : Prop where
  ex : ∃ f fd ps, FnP P w K mg base CX0 k f fd ps G ∧ mg x = some (.ref f) ∧ PySem.W.keepIn K (.ref f) = true ∧ Binds K fd ps []
end
/-! ### the kinds -/
def kindT : List (Str × Str) := [("InvalidPart", "part"), ("InvalidIndex", "index"), ("InvalidPage", "page"), ("TooMany", "many"), ("NothingToUndo", "nothing")]
/-- the class at D is the j-th of the five -/
def KindAt (K : PySem.W.Frag) (D : Addr) (j : Nat) : Prop := ExcC K D ∧ ∀ i x, kindT[i]? = some x → PySem.W.kitOne K (.ref D) (.ref (He.ga K x.1)) = some (decide (i = j))
def kindG (K : PySem.W.Frag) : Addr → Addr → Sp := fun D a vs H Q _ => ∃ (j : Nat) (x : Str × Str), kindT[j]? = some x ∧ KindAt K D j ∧ vs = [.ref a] ∧ ∀ H', Same H H' → Q (.str x.2) H'
abbrev fRow (o : PyData → Option Rs) (y : Str) : FE := fTup (faCons (fC (.str y)) (faCons (fUn o (fName 0)) faNil))
def g_kind (o : Nat → PyData → Option Rs) : FS :=
  fsSeq (fsName (fLst (faCons (fRow (o 0) "part") (faCons (fRow (o 1) "index") faNil))) 1)
  (fsSeq (fsName (fBin opAdd (fName 1) (fLst (faCons (fRow (o 2) "page") (faCons (fRow (o 3) "many") faNil)))) 1)
  (fsSeq (fsMut mAppend 1 (fRow (o 4) "nothing"))
  (fsRet (fUn (opJoin "") (fComp [2, 3] (fiL (fName 1)) (fgTup (fgCons (fgName 2) (fgCons (fgName 3) fgNil))) (fB (fName 3)) (fName 2))))))
theorem krow_at (a : Nat) (b : Bool) (y : Str) (env : Env) (h : env[0]? = some (.dat (refD a))) : fRow (opIsE a b) y env = some (.dat (.tuple [.str y, .bool b]), env) := by
  have q : fUn (opIsE a b) (fName 0) env = some (.dat (.bool b), env) := by
    refine ev_un (fa := fName 0) (r1 := .dat (refD a)) (e1 := env) (x := refD a) (by unfold fName; rw [h]) rfl ?_
    unfold opIsE
    rw [if_pos (isRef_self a)]
    rfl
  exact ev_tup (ea_dat (fa := fC (.str y)) (d := .str y) rfl (ea_dat q ea_nil)) (by show 2 ≤ sizeLine; decide)
abbrev kT (j i : Nat) (y : Str) : PyData := .tuple [.str y, .bool (decide (i = j))]
abbrev kL (j : Nat) : List PyData := [kT j 0 "part", kT j 1 "index", kT j 2 "page", kT j 3 "many", kT j 4 "nothing"]
theorem kind_end (a : Nat) : ∀ (j : Nat) (x : Str × Str), kindT[j]? = some x → fUn (opJoin "") (fComp [2, 3] (fiL (fName 1)) (fgTup (fgCons (fgName 2) (fgCons (fgName 3) fgNil))) (fB (fName 3)) (fName 2)) [.dat (refD a), .own false (kL j), .dead, .dead] = some (.dat (.str x.2), [.dat (refD a), .dat (.list (kL j)), .dead, .dead])
  | 0, x, h => by cases h; kernel_rfl
  | 1, x, h => by cases h; kernel_rfl
  | 2, x, h => by cases h; kernel_rfl
  | 3, x, h => by cases h; kernel_rfl
  | 4, x, h => by cases h; kernel_rfl
  | n + 5, x, h => by
    have : kindT[n + 5]? = none := List.getElem?_eq_none (by show 5 ≤ n + 5; omega)
    rw [this] at h
    cases h
theorem add_lists (xs ys : List PyData) (h : xs.length + ys.length ≤ sizeLine) : opAdd (.list xs) (.list ys) = some (.new (xs ++ ys)) := by
  show (if _ ≤ sizeLine then some (Rs.new _) else none) = _
  exact if_pos h
theorem kind_run (a : Nat) {j : Nat} {x : Str × Str} (h : kindT[j]? = some x) : ∃ e, g_kind (fun i => opIsE a (decide (i = j))) [.dat (refD a), .dead, .dead, .dead] = some (.rt (.dat (.str x.2)) e) := by
  let E0 : Env := [.dat (refD a), .dead, .dead, .dead]
  let E1 : Env := [.dat (refD a), .own false [kT j 0 "part", kT j 1 "index"], .dead, .dead]
  let E2 : Env := [.dat (refD a), .own false [kT j 0 "part", kT j 1 "index", kT j 2 "page", kT j 3 "many"], .dead, .dead]
  let E3 : Env := [.dat (refD a), .own false (kL j), .dead, .dead]
  have l1 : fLst (faCons (fRow (opIsE a (decide (0 = j))) "part") (faCons (fRow (opIsE a (decide (1 = j))) "index") faNil)) E0 = some (.new [kT j 0 "part", kT j 1 "index"], E0) :=
    ev_lst (ea_dat (krow_at a _ _ E0 rfl) (ea_dat (krow_at a _ _ E0 rfl) ea_nil)) (by show 2 ≤ sizeLine; decide)
  have l2 : fLst (faCons (fRow (opIsE a (decide (2 = j))) "page") (faCons (fRow (opIsE a (decide (3 = j))) "many") faNil)) E1 = some (.new [kT j 2 "page", kT j 3 "many"], E1) :=
    ev_lst (ea_dat (krow_at a _ _ E1 rfl) (ea_dat (krow_at a _ _ E1 rfl) ea_nil)) (by show 2 ≤ sizeLine; decide)
  have oa : opAdd (.list [kT j 0 "part", kT j 1 "index"]) (.list [kT j 2 "page", kT j 3 "many"]) = some (.new [kT j 0 "part", kT j 1 "index", kT j 2 "page", kT j 3 "many"]) := add_lists _ _ (by show 4 ≤ sizeLine; decide)
  refine ⟨[.dat (refD a), .dat (.list (kL j)), .dead, .dead], ?_⟩
  unfold g_kind
  refine (es_seq (e := E1) ((es_new (i := 1) l1 (by show 1 < 4; decide)).trans rfl)).trans ?_
  refine (es_seq (e := E2) ((es_new (i := 1) (ev_bin (fa := fName 1) (r1 := .own 1) (e1 := E1) rfl l2 rfl rfl oa) (by show 1 < 4; decide)).trans rfl)).trans ?_
  refine (es_seq (e := E3) ((es_app (i := 1) (c := false) (c' := false) (ds0 := [kT j 0 "part", kT j 1 "index", kT j 2 "page", kT j 3 "many"]) (ds := [kT j 0 "part", kT j 1 "index", kT j 2 "page", kT j 3 "many"]) rfl (krow_at a _ _ E2 rfl) rfl rfl (by show 4 < sizeLine; decide)).trans rfl)).trans ?_
  exact es_ret (kind_end a j x h)
end DL

/-! DL39: the kind of an error, as a def; defs that are one try. -/
namespace DL
open PySem PySem.Spec PyProof.Rows L2 HotX L2H
section
variable {P : Program} {w : World} {K : PySem.W.Frag} {mg : Str → Option Value} {base : Heap}
theorem kind_ok {x qual : Str} {params : Arguments} {body : List Stmt} {scope : Scope} {f : Addr} {fd : FuncData} {k : Nat} {N : List Str} (hN : N.length = 4) (F : FunD K x qual params body scope [] [] f fd) (S : FnScope N ["e"] scope)
    (hb : ∀ (cdv : Value) (A : Around) (outer : List PySem.Env) (s : Shared) (H : Hp) (E : XK) (p : Addr × Obj) (D : Addr) (j : Nat), Hot1 A p → Zc (.ref D) none p.2 → KindAt K D j → RoomH k (A.deeper (envOfC qual scope s.heap.objs.size f cdv)) →
      PSs (cxH CX0 P w K mg base N qual scope f cdv A outer s H E p) body (tS (g_kind fun i => opIsE p.1 (decide (i = j))))) :
    FnP P w K mg base CX0 (k + 1) f fd ["e"] (kindG K) := by
  obtain ⟨oc, od, dV, kV, doc, pm, an, cdv, ct, osl, rfl, lk, hcd, _, _⟩ := F.ex
  refine fn_ofP lk hcd S (fun D a vs H Q E h => ?_) fun A outer s H vs Q E p D hot hz hr h => ?_
  · obtain ⟨_, _, _, _, e, _⟩ := h
    rw [e]
    rfl
  · obtain ⟨j, y, hj, hk, e, q⟩ := h
    subst e
    refine ⟨_, hb cdv A outer s H E p D j hot hz hk hr, ?_⟩
    obtain ⟨e2, he2⟩ := kind_run p.1 hj
    have rs := rep_start (F := fun _ => none) (H := H) (N := N) (vs := [.ref p.1]) (ds := [refD p.1]) (fun b o z => nomatch z) (.cons (.plc p.1) .nil)
    refine ⟨fun _ => none, _, .rt (.dat (.str y.2)) e2, rs, by rw [hN]; exact he2, fun v σ2 F2 H2 g rep ok => ?_⟩
    cases ok with
    | dat h =>
      cases h
      exact q H2 fun b o => g.frame b o (own_start b)
end
/-! ### return kind(e) in an except suite -/
section
variable {X : Cx} {k i : Nat} {x n : Str} {G : Addr → Addr → Sp} {q r pos rpos : Pos}
theorem pss_kind (hr : Room k X.A) (C : CalP X.prog X.w X.K X.mg X.base k x G) (hg : Gl X x) (hn : X.N[i]? = some n) (hv : Vis X.env.scope n) (hdx : (x == ("__debug__" : Str)) = false := by decide) (hdn : (n == ("__debug__" : Str)) = false := by decide) (hcd : (n == ("__classdict__" : Str)) = false := by decide)
    (hs : ∀ Y : Cx, Y.env = X.env → starEach [.Name n q] Y.env = (false, eval (.Name n q) Y.env) :: starEach [] Y.env := by intro _ _; rfl) (hpl : (backTo pos (starEach [] X.env)).any (·.1) = false := by rfl) :
    ∀ (a : Addr) (oe : Obj) (cls : Value) (d : Option Addr) (pn : List (Addr × Obj)), L2N.Zn cls d oe → (∃ vs, oe.data = .fields vs) →
      PSs (X.suite a ((a, oe) :: pn)) [.Return (some (.Call (.Name x r) [.Name n q] [] pos)) rpos] (fun D σ H => σ[i]? = some (some (.ref a)) ∧ ∃ C, cls = .ref C ∧ d = none ∧ G C a [.ref a] H D.rt (fun _ _ _ => False)) := by
  intro a oe cls d pn hz hf
  obtain ⟨f, fd, ps, ok, hm, hk, hb⟩ := C.ex
  have pe : PE (X.suite a ((a, oe) :: pn)) (.Call (.Name x r) [.Name n q] [] pos) (fun σ H Q => σ[i]? = some (some (.ref a)) ∧ ∃ C, cls = .ref C ∧ d = none ∧ G C a [.ref a] H Q (fun _ _ _ => False)) := by
    refine ⟨fun pins s σ H Q I h => ?_⟩
    obtain ⟨hi, Dc, rfl, rfl, hG⟩ := h
    refine wpAny_Call_Name_kw (ld_glob I hg hm ?_ hdx)
    have pa : PA (X.suite a ((a, oe) :: pn)) [.Name n q] (tCons (tVar i) tNil) := pa_cons (pe_var (X := X.suite a ((a, oe) :: pn)) hn hv hdn hcd) pa_nil (hs _ rfl)
    refine PySem.W.callWith_K (h₀ := X.base) I.ok.mod.kin hk (thn (pa.run pos pins s σ H (fun vs H1 => vs = [.ref a] ∧ H1 = H) I ⟨.ref a, hi, rfl, rfl⟩) fun us s1 ⟨vs, H1, I1, rv, ev, eh⟩ => ⟨I1.kIn, ?_⟩) (hs (X.suite a ((a, oe) :: pn)) rfl) hpl
    subst ev eh
    obtain ⟨vs0, hv0⟩ := hf
    have hot : Hot1 (X.suite a ((a, oe) :: pn)).A (a, oe) := ⟨rfl, vs0, hv0, hz.2.2 vs0 hv0⟩
    have pin := I1.pin (a, oe) (List.mem_append_left _ List.mem_cons_self)
    have hpin : PinOk X.stack H1 s1 (a, oe) := ⟨pin.1, pin.2.1, fun z => (List.mem_cons.mp (I1.stkSub a z)).elim pin.2.2.1 pin.2.2.2.1, pin.2.2.2.2⟩
    have hl : us.length = ps.length := by
      rw [← rv.length]
      exact ok.len _ _ _ _ _ _ hG
    have bb := hb s1 us I1.kIn (by rw [List.append_nil]; exact hl)
    rw [List.append_nil] at bb
    refine wpAny_call (codeAny_mono (ok.run (X.suite a ((a, oe) :: pn)).A X.stack s1 H1 ⟨us, []⟩ us [.ref a] Q _ (a, oe) Dc ⟨hr.dp, hr.un⟩ hot hz.zc hpin I1.env0 bb rv hG) fun rr s2 hq => ?_)
    cases rr with
    | error e => exact hq.elim
    | ok fl =>
      cases fl with
      | ret u => exact I1.after hq
      | next => exact hq.elim
      | brk => exact hq.elim
      | cont => exact hq.elim
  exact pss_one (ps_ret pe)
end
/-! ### def f(..): try: .. except X as e: return kind(e) -/
/-- the text for the error's class -/
def wordX (x : Str) : Option Str := kindT.lookup x
def tryX (R : FnX) : Fn := fun ds => (R ds).bind fun o => match o with
  | .inr r => some r
  | .inl x => (wordX x).map fun y => .dat (.str y)
/-- what is known of the classes of errors -/
structure ErrC (K : PySem.W.Frag) (b : Str) : Prop where
  at_ : ∀ (j : Nat) x, kindT[j]? = some x → KindAt K (He.ga K x.1) j
  sub : ∀ (j : Nat) x, kindT[j]? = some x → PySem.W.exmOne K (.ref (He.ga K x.1)) (.ref (He.ga K b)) = some true
theorem word_at : ∀ {x y : Str}, wordX x = some y → ∃ j : Nat, kindT[j]? = some (x, y) := fun {x y} h => by
  unfold wordX at h
  have := PySem.mem_of_lookup h
  obtain ⟨j, hj, e⟩ := List.mem_iff_getElem.mp this
  exact ⟨j, by rw [List.getElem?_eq_getElem hj, e]⟩
/-- a wish for all slots that the frame can have -/
def allW (n : Nat) (W : WX) : XK := fun cls d H => ∀ σ : L2.St, σ.length = n → W cls d σ H
theorem all_takes {X : Cx} {W : WX} (tk : L2N.Takes X W) : L2N.Takes X fun cls d _ H => allW X.N.length W cls d H := fun u s' ⟨a, B, sI, pins, σ, H, cls, d, e, I, nb, up, sky, na, os, ag, w⟩ =>
  tk u s' ⟨a, B, sI, pins, σ, H, cls, d, e, I, nb, up, sky, na, os, ag, w σ I.len⟩
section
variable {P : Program} {w : World} {K : PySem.W.Frag} {mg : Str → Option Value} {base : Heap}
theorem try_ok {fx qual x n kn : Str} {params : Arguments} {tbody : List Stmt} {scope : Scope} {f : Addr} {fd : FuncData} {N ps : List Str} {k i : Nat} {g : FSX} {q r pos rpos np hpos tpos : Pos}
    (F : FunD K fx qual params [.Try tbody [.ExceptHandler (some (.Name x np)) (some n) [.Return (some (.Call (.Name kn r) [.Name n q] [] pos)) rpos] hpos] [] [] tpos] scope [] [] f fd) (S : FnScope N ps scope)
    (hb : ∀ (cdv : Value) (A : Around) (outer : List PySem.Env) (s : Shared) (H : Hp) (E E' : XK) (pn : List (Addr × Obj)) (xe : Value → Shared → Prop), Room k (A.deeper (envOfC qual scope s.heap.objs.size f cdv)) →
      L2N.Takes ((cxOf CX0 P w K mg base N qual scope f cdv A outer s H E).tr pn xe) (fun cls d _ H => E' cls d H) → Passes (L2N.CX P w) ((cxOf CX0 P w K mg base N qual scope f cdv A outer s H E).tr pn xe) E' →
      PSs ((cxOf CX0 P w K mg base N qual scope f cdv A outer s H E).tr pn xe) tbody (tSX K E' g))
    (CK : CalP P w K mg base k kn (kindG K)) (hmx : mg x = some (.ref (He.ga K x))) (er : ErrC K x) (hi : N[i]? = some n) (hln : scope.names.lookup n = some .local) (hgx : scope.names.lookup x = some .globalImplicit) (hgk : scope.names.lookup kn = some .globalImplicit)
    (hdx : (x == ("__debug__" : Str)) = false := by decide) (hdk : (kn == ("__debug__" : Str)) = false := by decide) (hdn : (n == ("__debug__" : Str)) = false := by decide) (hcd : (n == ("__classdict__" : Str)) = false := by decide)
    (hs : ∀ E : PySem.Env, starEach [.Name n q] E = (false, eval (.Name n q) E) :: starEach [] E := by intro _; rfl) (hpl : ∀ E : PySem.Env, (backTo pos (starEach [] E)).any (·.1) = false := by intro _; rfl) :
    FnOk P w K mg base CX0 (k + 1) f fd ps (spD ps.length (tryX (runX ps.length N.length g))) := by
  refine F.ok S (fun vs H Q E h => ?_) fun cdv A outer s H vs Q E hr h => ?_
  · obtain ⟨_, ds, _, _, hs, hn, _⟩ := h
    exact hs.length.trans hn
  · let X : Cx := cxOf CX0 P w K mg base N qual scope f cdv A outer s H E
    have tk0 : L2N.Takes X fun _ _ _ _ => False := fun _ _ ⟨_, _, _, _, _, _, _, _, _, _, _, _, _, _, _, _, z⟩ => z.elim
    have pt := L2N.ps_try_as (X := X) (body := tbody) (tb := fun W => tSX K (allW N.length W) g) (i := i) (n := n) (x := x) (c := .ref (He.ga K x)) (pos := tpos) (pos' := hpos) (np := np)
      (ts := fun a cls d => fun D σ H => σ[i]? = some (some (.ref a)) ∧ ∃ C, cls = .ref C ∧ d = none ∧ kindG K C a [.ref a] H D.rt (fun _ _ _ => False)) rfl rfl S.nd hi hln ⟨hgx, hdx, .inl hmx⟩ tk0
      (fun W pn xe tk _ => hb cdv A outer s H E (allW N.length W) pn xe hr (all_takes (X := X.tr pn xe) tk) (L2N.passes_call (all_takes (X := X.tr pn xe) tk) fun _ _ _ _ z => z))
      (pss_kind (X := X) (r := r) (rpos := rpos) hr CK hgk hi (.inl hln) hdk hdn hcd (fun Y _ => hs Y.env) (hpl X.env))
    refine ⟨_, pss_one pt, ?_⟩
    obtain ⟨F0, ds, r0, sm, hsd, hn, e, kk⟩ := h
    simp only [tryX, Option.bind_eq_some_iff] at e
    obtain ⟨o, e1, e2⟩ := e
    unfold runX at e1
    rw [if_pos hn] at e1
    simp only [Option.bind_eq_some_iff] at e1
    obtain ⟨o1, q1, q2⟩ := e1
    rw [← hn] at q1
    refine ⟨F0, _, o1, rep_start sm hsd, q1, ?_⟩
    have ex : ∀ {F' H' : Hp} {σ' : L2.St} {e' : Env}, Go F0 H (OwA (L2.start N vs) (ds.map Sl.dat ++ List.replicate (N.length - ds.length) .dead)) F' H' (OwA σ' e') → Rep F' H' σ' e' → Ext F0 H F' H' := fun g rep =>
      ⟨g.fz, rep.sub, fun b o => g.frame b o (own_start b), fun b hb => (g.fresh b hb).elim .inl fun z => z.elim .inr fun q => absurd q (own_start b)⟩
    cases o1 with
    | inl x1 =>
      cases q2
      simp only [Option.map_eq_some_iff] at e2
      obtain ⟨y, hw, rfl⟩ := e2
      obtain ⟨j, hj⟩ := word_at hw
      intro F' H' O' gg σ hσ
      have hsm : Same H H' := fun b o => gg.frame b o (own_start b)
      refine ⟨true, er.sub j _ hj, fun _ a ha => ⟨List.getElem?_set_self (by rw [hσ]; exact (List.getElem?_eq_some_iff.mp hi).1), _, rfl, rfl, j, _, hj, er.at_ j _ hj, rfl, fun H2 hs2 => ?_⟩, nofun⟩
      exact kk (.str y) F0 H2 ⟨.refl _, sm.trans (hsm.trans hs2), hsm.trans hs2, fun _ z => .inl z⟩ (.dat (.str y))
    | inr o2 =>
      simp only [Option.map_eq_some_iff] at q2
      obtain ⟨⟨r', e'⟩, q2, q3⟩ := q2
      cases q3
      cases e2
      cases o2 with
      | bk _ => cases q2
      | ct _ => cases q2
      | nx e1 =>
        cases q2
        exact fun σ' F' H' g rep => kk .non F' H' (ex g rep) (.dat .non)
      | rt r1 e1 =>
        simp only [endOf, Option.map_eq_some_iff] at q2
        obtain ⟨r2, q3, q4⟩ := q2
        cases q4
        exact fun v σ' F' H' g rep ok => kk v F' H' (ex g rep) (res_out g rep ok q3 fun i a _ _ _ => own_start a)
end
end DL

/-! DL40: a head's facts about classes, and defs that stand behind a path (a property's, a class method's). -/
namespace DL
open PySem PySem.Spec PyProof.Rows L2
/-! ### defs behind a path -/
abbrev Path := PySem.W.Frag → Addr
def fnA (K : PySem.W.Frag) (a : Addr) : He.FnW := match K.lookup a with
  | some ⟨_, _, .func fd, _⟩ => some (fd.name, fd.qualname, fd.params, fd.body, fd.scope, fd.globals, fd.closure, fd.builtins)
  | _ => none
/-- it is kept, its code's object stands, it has no defaults -/
def okA (K : PySem.W.Frag) (a : Addr) (q : Str) : Bool := PySem.W.keepIn K (.ref a) && (match K.lookup a with
  | some ⟨_, _, .func fd, _⟩ => PySem.W.codeIn K fd.code q && (He.dflB K fd.defaults [] && He.kwdB K fd.kwdefaults [])
  | _ => false)
theorem funA {K : PySem.W.Frag} {a : Addr} {d : He.DefD} (e : fnA K a = d.val) (c : okA K a d.qual = true) : ∃ fd, FunD K d.name d.qual d.params d.body d.scope [] [] a fd := by
  unfold okA at c
  rw [Bool.and_eq_true] at c
  obtain ⟨kp, c2⟩ := c
  unfold fnA at e
  cases q : K.lookup a with
  | none => rw [q] at c2; cases c2
  | some o =>
    obtain ⟨oc, od, dt, osl⟩ := o
    rw [q] at c2 e
    cases dt with
    | func fd =>
      obtain ⟨m1, m2, m3, m4, m5, m6, m7, m8, m9, m10, m11, m12, m13, m14, m15⟩ := fd
      have e2 : (some (m1, m2, m3, m4, m5, m6, m7, m15) : He.FnW) = some (d.name, d.qual, d.params, .stmts d.body, d.scope, mainGlobals, [], builtinsNs) := e
      simp only [Option.some.injEq, Prod.mk.injEq] at e2
      obtain ⟨z1, z2, z3, z4, z5, z6, z7, z8⟩ := e2
      subst z1 z2 z3 z4 z5 z6 z7 z8
      have c3 : (PySem.W.codeIn K m13 d.qual && (He.dflB K m8 [] && He.kwdB K m9 [])) = true := c2
      rw [Bool.and_eq_true, Bool.and_eq_true] at c3
      exact ⟨_, ⟨oc, od, m8, m9, m10, m11, m12, m13, m14, osl, rfl, q, c3.1, He.dflB_ok c3.2.1, He.kwdB_ok c3.2.2⟩, kp⟩
    | _ => cases c2
/-! ### the hook -/
abbrev AlY : Type := AlX × (Bool × List He.FnW)
abbrev DefsY := List (Path × He.DefD)
def obsY (fa : List He.Fa) (fn : List He.DefD) (ys : DefsY) (ps : Facts) (K : PySem.W.Frag) : AlY := (obsX fa fn ps K, ys.all fun y => okA K (y.1 K) y.2.qual, ys.map fun y => fnA K (y.1 K))
def valY (fn : List He.DefD) (ys : DefsY) : AlY := (valX fn, true, ys.map fun y => y.2.val)
/-- what the names reach, and the interpreter's own name space -/
def asY (g : Addr → Option Obj) (n : Nat) : List Addr := cStatics :: He.asD g n
def obsYG (n : Nat) (fa : List He.Fa) (fn : List He.DefD) (ys : DefsY) (ps : Facts) (g : Addr → Option Obj) : AlY := obsY fa fn ys ps (He.frG g (asY g n))
structure SaysY (fa : List He.Fa) (fn : List He.DefD) (ys : DefsY) (ps : Facts) (K : PySem.W.Frag) : Prop where
  x : SaysX fa fn ps K
  ok : (ys.all fun y => okA K (y.1 K) y.2.qual) = true
  eq : (ys.map fun y => fnA K (y.1 K)) = ys.map fun y => y.2.val
theorem SaysY.of {fa : List He.Fa} {fn : List He.DefD} {ys : DefsY} {ps : Facts} {K : PySem.W.Frag} (h : obsY fa fn ys ps K = valY fn ys) : SaysY fa fn ys ps K :=
  ⟨.of (congrArg (fun z : AlY => z.1) h), congrArg (fun z : AlY => z.2.1) h, congrArg (fun z : AlY => z.2.2) h⟩
theorem SaysY.def_ {fa : List He.Fa} {fn : List He.DefD} {ys : DefsY} {ps : Facts} {K : PySem.W.Frag} (c : SaysY fa fn ys ps K) (i : Nat) {y : Path × He.DefD} (h : ys[i]? = some y := by rfl) : ∃ fd, FunD K y.2.name y.2.qual y.2.params y.2.body y.2.scope [] [] (y.1 K) fd := by
  have e : (ys.map fun y => fnA K (y.1 K))[i]? = (ys.map fun y => y.2.val)[i]? := by rw [c.eq]
  rw [List.getElem?_map, List.getElem?_map, h] at e
  exact funA (Option.some.inj e) (List.all_eq_true.mp c.ok y (List.mem_of_getElem? h))
def hookY (n : Nat) (fa : List He.Fa) (fn : List He.DefD) (ys : DefsY) (ps : Facts) : PySem.W.Hook where
  α := AlY
  obs := fun s => obsYG n fa fn ys ps s.heap.get?
  val := fun _ => valY fn ys
  says := fun _ h => ∃ K : PySem.W.Frag, K.In h ∧ SaysY fa fn ys ps K
  of := fun _ _ e => ⟨_, He.frG_in, .of e⟩
  keeps := fun _ _ _ ⟨K, hK, c⟩ k => ⟨K, PySem.W.Frag.In.keeps hK k, c⟩
theorem obsYG_eq {n : Nat} {fa : List He.Fa} {fn : List He.DefD} {ys : DefsY} {ps : Facts} {g : Addr → Option Obj} {s : Shared} (h : ∀ a, g a = s.heap.get? a) : obsYG n fa fn ys ps g = (hookY n fa fn ys ps).obs s := by
  have e : g = s.heap.get? := funext h
  rw [e]
  rfl
/-! ### classes of errors -/
def excB (K : PySem.W.Frag) (D : Addr) : Bool := He.eqO (PySem.W.findIn K (.ref D) "__getattribute__") (some (some (.builtin "BaseException.__getattribute__"))) && (He.eqO (PySem.W.findIn K (.ref D) "__getattr__") (some none) && (decide (PySem.W.subIn K (.ref D) (.type "BaseException") = some true) &&
  (PySem.W.hasDictIn K D && (He.eqO (PySem.W.findIn K (.ref D) "__class__") (some (some (.builtin "object.__class__"))) && (He.eqO (PySem.W.specialIn K (.builtin "object.__class__") "__get__") (some (some (.builtin "getset_descriptor.__get__"))) &&
  (decide (PySem.W.takesIn K (.builtin "object.__class__") = some true) && decide (PySem.W.mroIn K D (.type "object") = some true)))))))
theorem excB_ok {K : PySem.W.Frag} {D : Addr} (h : excB K D = true) : ExcC K D := by
  unfold excB at h
  simp only [Bool.and_eq_true, decide_eq_true_eq] at h
  obtain ⟨h1, h2, h3, h4, h5, h6, h7, h8⟩ := h
  exact ⟨He.eqO_ok h1, He.eqO_ok h2, h3, h4, He.eqO_ok h5, He.eqO_ok h6, h7, h8⟩
/-- all that a try's suite asks of the five classes: b their base -/
def errB (b : Str) (K : PySem.W.Frag) : Bool := (List.range 5).all fun j => match kindT[j]? with
  | some x => excB K (He.ga K x.1) && (decide (PySem.W.exmOne K (.ref (He.ga K x.1)) (.ref (He.ga K b)) = some true) && (List.range 5).all fun i => match kindT[i]? with
    | some y => decide (PySem.W.kitOne K (.ref (He.ga K x.1)) (.ref (He.ga K y.1)) = some (decide (i = j)))
    | none => true)
  | none => true
theorem kindT_lt {j : Nat} {x : Str × Str} (h : kindT[j]? = some x) : j ∈ List.range 5 := List.mem_range.mpr (List.getElem?_eq_some_iff.mp h).1
theorem errB_ok {K : PySem.W.Frag} {b : Str} (h : errB b K = true) : ErrC K b := by
  have key : ∀ (j : Nat) x, kindT[j]? = some x → excB K (He.ga K x.1) = true ∧ PySem.W.exmOne K (.ref (He.ga K x.1)) (.ref (He.ga K b)) = some true ∧ ∀ i y, kindT[i]? = some y → PySem.W.kitOne K (.ref (He.ga K x.1)) (.ref (He.ga K y.1)) = some (decide (i = j)) := fun j x hx => by
    have h1 := List.all_eq_true.mp h j (kindT_lt hx)
    rw [hx] at h1
    simp only [Bool.and_eq_true, decide_eq_true_eq] at h1
    refine ⟨h1.1, h1.2.1, fun i y hy => ?_⟩
    have h2 := List.all_eq_true.mp h1.2.2 i (kindT_lt hy)
    rw [hy] at h2
    exact of_decide_eq_true h2
  exact ⟨fun j x hx => ⟨excB_ok (key j x hx).1, fun i y hy => (key j x hx).2.2 i y hy⟩, fun j x hx => (key j x hx).2.1⟩
/-- raise X('..') -/
theorem pmk_at {X : Cx} {x m : Str} {j : Nat} {p p2 pos : Pos} (c : (He.Fa.exc x).ok X.K = true) (gC : X.mg x = some (.ref (He.ga X.K x))) (hg : Gl X x) (hdb : (x == ("__debug__" : Str)) = false := by decide) :
    L2N.PMk X (.Call (.Name x p) [.Constant (.str m) j p2] [] pos) (fun _ H Q => Q (.ref (He.ga X.K x)) none H) := by
  obtain ⟨q1, q2, q3, q4⟩ := He.exc_ok c
  exact L2N.pmk_own PySem.F.excBase_ValueError q1 gC q2 (raises_own q3 q4) hg hdb
/-! ### a class -/
/-- a property's getter, a class method's def -/
def recAt (kind : String) (C f : Str) : Path := fun K => match PySem.W.recIn K (He.ma K (He.ga K C) f) kind with
  | some (.ref g :: _) => g
  | _ => 0
def recB (kind : String) (C f : Str) (K : PySem.W.Frag) : Bool := match PySem.W.recIn K (He.ma K (He.ga K C) f) kind with
  | some (.ref _ :: _) => true
  | _ => false
theorem recB_ok {kind : String} {C f : Str} {K : PySem.W.Frag} (h : recB kind C f K = true) : ∃ rest, PySem.W.recIn K (He.ma K (He.ga K C) f) kind = some (.ref (recAt kind C f K) :: rest) := by
  unfold recB at h
  split at h
  · rename_i g r e
    refine ⟨r, ?_⟩
    unfold recAt
    rw [e]
  · cases h
def propB (C f : Str) (K : PySem.W.Frag) : Bool := He.eqO (PySem.W.findIn K (.ref (He.ga K C)) f) (some (some (.ref (He.ma K (He.ga K C) f)))) && (He.eqO (PySem.W.specialIn K (.ref (He.ma K (He.ga K C) f)) "__get__") (some (some (.builtin "property.__get__"))) &&
  (decide (PySem.W.takesIn K (.ref (He.ma K (He.ga K C) f)) = some true) && recB "property" C f K))
theorem propB_ok {C f : Str} {K : PySem.W.Frag} (h : propB C f K = true) : PropOf K (He.ga K C) f (He.ma K (He.ga K C) f) (recAt "property" C f K) := by
  unfold propB at h
  simp only [Bool.and_eq_true, decide_eq_true_eq] at h
  obtain ⟨h1, h2, h3, h4⟩ := h
  exact ⟨He.eqO_ok h1, He.eqO_ok h2, h3, recB_ok h4⟩
/-- a method that an operator finds -/
def dunB (C m : Str) (K : PySem.W.Frag) : Bool := He.eqO (PySem.W.findIn K (.ref (He.ga K C)) m) (some (some (.ref (He.ma K (He.ga K C) m)))) && (PySem.W.isFn K (.ref (He.ma K (He.ga K C) m)) && PySem.W.fnIn K (He.ma K (He.ga K C) m))
theorem dunB_ok {C m : Str} {K : PySem.W.Frag} (h : dunB C m K = true) : PySem.W.findIn K (.ref (He.ga K C)) m = some (some (.ref (He.ma K (He.ga K C) m))) ∧ PySem.W.isFn K (.ref (He.ma K (He.ga K C) m)) = true ∧ PySem.W.fnIn K (He.ma K (He.ga K C) m) = true := by
  unfold dunB at h
  simp only [Bool.and_eq_true] at h
  exact ⟨He.eqO_ok h.1, h.2.1, h.2.2⟩
end DL

/-! DL41: statements that may raise; a class method with starred parameters. -/
namespace DL
open PySem PySem.Spec PyProof.Rows L2
def fxRet (f : FEX) : FSX := fun env => (f env).map fun o => o.map id fun p => .rt p.1 p.2
def fxIf (t : FT) (a : FSX) : FSX := fun env => (t env).bind fun p => if p.1 = true then a p.2 else some (.inr (.nx p.2))
def fxThen (a b : FSX) : FSX := fun env => (a env).bind fun o => match o with
  | .inr (.nx e) => b e
  | o => some o
section
variable {X : Cx} {E : XK} {c e : Expr} {st : Stmt} {rest : List Stmt} {t : FT} {a b : FSX} {f : FEX} {pos : Pos}
theorem dx_ret (h : DEX X E e f) : PS X (.Return (some e) pos) (tSX X.K E (fxRet f)) := PS.imp (ps_ret h) fun D σ H z => by
  obtain ⟨F, env, o, rep, e0, k⟩ := z
  simp only [fxRet, Option.map_eq_some_iff] at e0
  obtain ⟨o1, h1, h2⟩ := e0
  subst h2
  refine ⟨F, env, o1, rep, h1, ?_⟩
  cases o1 with
  | inl x => exact k
  | inr p => exact fun v F1 H1 g1 rep1 ok1 => k v σ F1 H1 g1 rep1 ok1
theorem dx_if (ht : DT X c t) (h : PSs X rest (tSX X.K E a)) : PS X (.If c rest [] pos) (tSX X.K E (fxIf t a)) := PS.imp (ps_if ht h pss_nil) fun D σ H z => by
  obtain ⟨F, env, o, rep, e0, k⟩ := z
  simp only [fxIf, Option.bind_eq_some_iff] at e0
  obtain ⟨⟨c1, e1⟩, h1, h2⟩ := e0
  refine ⟨F, env, c1, e1, rep, h1, fun F1 H1 g1 rep1 => ?_⟩
  cases c1 with
  | true =>
    rw [if_pos rfl] at h2 ⊢
    exact ⟨F1, e1, o, rep1, h2, k.later g1⟩
  | false =>
    rw [if_neg (by simp)] at h2 ⊢
    cases h2
    exact k σ F1 H1 g1 rep1
theorem dx_then (h1 : PS X st (tSX X.K E a)) (h2 : PSs X rest (tSX X.K E b)) : PSs X (st :: rest) (tSX X.K E (fxThen a b)) := PSs.imp (pss_cons h1 h2) fun D σ H z => by
  obtain ⟨F, env, o, rep, e0, k⟩ := z
  simp only [fxThen, Option.bind_eq_some_iff] at e0
  obtain ⟨o1, q1, q2⟩ := e0
  refine ⟨F, env, o1, rep, q1, ?_⟩
  cases o1 with
  | inl x => cases q2; exact k
  | inr o2 =>
    cases o2 with
    | nx e1 => exact fun σ1 F1 H1 g1 rep1 => ⟨F1, e1, o, rep1, q2, k.later g1⟩
    | bk e1 => cases q2; exact k
    | ct e1 => cases q2; exact k
    | rt r e1 => cases q2; exact k
theorem dx_last (h1 : PS X st (tSX X.K E a)) : PSs X [st] (tSX X.K E a) := PSs.imp (pss_one h1) fun D σ H z => z
end
/-- what a body comes to -/
def endX : Str ⊕ Out → Option (Str ⊕ Rs)
  | .inl x => some (.inl x)
  | .inr o => (endOf o).map fun p => .inr p.1
theorem start_X {K : PySem.W.Frag} {F H : Hp} {N : List Str} {vs : List V} {ds : List PyData} {g : FSX} {o : Str ⊕ Out} {z : Str ⊕ Rs} {Q : VK} {E : XK} (sm : Same F H) (hs : HDs F vs ds) (q1 : g (ds.map .dat ++ List.replicate (N.length - ds.length) .dead) = some o) (q2 : endX o = some z) (k : ResX K F H Q E z) :
    tSX K E g { nx := fun _ H' => Q .non H', rt := Q } (L2.start N vs) H := by
  refine ⟨F, _, o, rep_start sm hs, q1, ?_⟩
  have ex : ∀ {F' H' : Hp} {σ' : L2.St} {e' : Env}, Go F H (OwA (L2.start N vs) (ds.map Sl.dat ++ List.replicate (N.length - ds.length) .dead)) F' H' (OwA σ' e') → Rep F' H' σ' e' → Ext F H F' H' := fun g rep =>
    ⟨g.fz, rep.sub, fun b o => g.frame b o (own_start b), fun b hb => (g.fresh b hb).elim .inl fun z => z.elim .inr fun q => absurd q (own_start b)⟩
  cases o with
  | inl x =>
    cases q2
    exact fun F' H' O' g => k H' fun b o => g.frame b o (own_start b)
  | inr o =>
    simp only [endX, Option.map_eq_some_iff] at q2
    obtain ⟨⟨r', e'⟩, q2, rfl⟩ := q2
    have k' : RetW F H r' Q := k
    cases o with
    | bk _ => cases q2
    | ct _ => cases q2
    | nx e1 =>
      cases q2
      exact fun σ' F' H' g rep => k' .non F' H' (ex g rep) (.dat .non)
    | rt r1 e1 =>
      simp only [endOf, Option.map_eq_some_iff] at q2
      obtain ⟨r2, q3, q4⟩ := q2
      cases q4
      exact fun v σ' F' H' g rep ok => k' v F' H' (ex g rep) (res_out g rep ok q3 fun i a _ _ _ => own_start a)
end DL

/-! DL42: cls(*a) within a class method; such a def. -/
namespace DL
open PySem PySem.Spec PyProof.Rows L2
def fClsX (C i : Nat) (R : FnX) (fa : FE) : FEX := fun env => match env[i]? with
  | some (.dat d) => if isRef C d = true then fMkX R (faStar fa faNil) env else none
  | _ => none
section
variable {X : Cx} {E : XK} {C f : Addr} {k i : Nat} {R : FnX} {x : Str} {e : Expr} {fa : FE} {p p2 pos : Pos}
theorem dex_clsS (M : MkX X k C f R) (hr : Room (k + 1) X.A) (hx : Passes (L2N.CX X.prog X.w) X E) (he : DE X e fa) (hv : PE X (.Name x p) (tVar i))
    (hst : starEach [.Starred e p2] X.env = [(true, eval e X.env)] := by rfl) : DEX X E (.Call (.Name x p) [.Starred e p2] [] pos) (fClsX C i R fa) := by
  refine ⟨fun pins s σ H Q I h => ?_⟩
  obtain ⟨F, env, o, rep, e0, kk⟩ := h
  unfold fClsX at e0
  split at e0
  · rename_i d hd
    split at e0
    · rename_i hr0
      obtain ⟨v0, hs0, hd0⟩ := rep.dat i d hd
      have ev := hd0.place hr0
      subst ev
      obtain ⟨ds, e1, z, h1, hl, h2, hz, rfl⟩ := mk_cases e0
      simp only [faStar, Option.bind_eq_some_iff, Option.map_eq_some_iff] at h1
      obtain ⟨⟨r1, e2⟩, q1, ⟨d1, e3⟩, q2, ds0, q3, ⟨ds1, e4⟩, q4, q5⟩ := h1
      cases q4
      cases q5
      rw [List.append_nil] at hl h2
      refine wpAny_Call_Name_kw (thn (hv.run pins s σ H (fun v H1 => v = .ref C ∧ H1 = H) I ⟨.ref C, hs0, rfl, rfl⟩) fun u s1 ⟨v, H1, I1, rv, e5, e6⟩ => ?_)
      subst e5 e6
      obtain rfl : u = Value.ref C := rv
      refine PySem.W.callWith_S (h₀ := X.base) I.ok.mod.kin M.1.kp (thn (he.run pins s1 σ H1 (fun v H2 => ∃ F2, Go F H1 (OwA σ env) F2 H2 (OwA σ e3) ∧ Rep F2 H2 σ e3 ∧ HD F2 v d1) I1 ⟨F, env, r1, e2, rep, q1, fun v F1 H2 g1 rep1 ok1 => ?_⟩) fun u s2 ⟨v, H2, I2, rv, F2, g2, rep2, hd2⟩ => ?_) hst
      · obtain ⟨F3, g3, rep3, hd3⟩ := ok1.frz g1 rep1 q2
        exact ⟨F3, g3, rep3, hd3⟩
      · have fin : ∀ {a : Addr} {xs : List V}, v = .ref a → (SqT X.K H2 a xs ∨ SqL X.K H2 a xs) → HDs F2 xs ds0 → PySem.W.StarOf (model X.prog X.w) X.A X.xe u (fun vs s₂ => X.K.In s₂.heap ∧ wpAny (model X.prog X.w) X.A (call (.ref C) ([] ++ vs)) (EP X pins σ Q) X.xe s₂) s2 := fun {a xs} ea hxs hh => by
          subst ea
          obtain rfl : u = Value.ref a := rv
          exact StX.star_any I2 hxs fun us s3 I3 r3 => ⟨I3.kIn, run_mk M hr hx I3 r3 rep2.sub hh (by rw [hh.length]; exact hl) h2 hz (outX g2 rep2 kk)⟩
        cases d1 with
        | list xs =>
          cases q3
          cases hd2 with
          | lst hp hs => exact fin rfl (.inr (.of (rep2.sub _ _ hp))) hs
        | tuple xs =>
          cases q3
          cases hd2 with
          | tup hp hs => exact fin rfl (.inl (.of (rep2.sub _ _ hp))) hs
        | _ => cases q3
    · cases e0
  · cases e0
end
theorem ResOk.old {F' H' H H0 : Hp} {v : V} {r : Rs} (ok : ResOk F' H' H v r) (h : ∀ b, H b = none → H0 b = none) : ResOk F' H' H0 v r := by
  cases ok with
  | dat h => exact .dat h
  | new e h1 h2 h3 h4 => exact .new e (h _ h1) h2 h3 h4
  | ob h => exact .ob h
/-- a class method with starred parameters -/
def runC (C n : Nat) (g : FSX) : FnX := fun ds => (g (.dat (refD C) :: .dat (.tuple ds) :: List.replicate n .dead)).bind endX
section
variable {P : Program} {w : World} {K : PySem.W.Frag} {mg : Str → Option Value} {base : Heap}
theorem cm_star {x qual cv pv : Str} {params : Arguments} {body : List Stmt} {scope : Scope} {fi : Addr} {fd : FuncData} {N' : List Str} {k : Nat} {g : FSX} {C : Addr} (F : FunD K x qual params body scope [] [] fi fd) (S : FnScope (cv :: pv :: N') [cv, pv] scope)
    (hb : ∀ us rest : List Value, us.length = 1 → bindArgs fd ⟨us ++ rest, []⟩ = (newTuple rest >>= fun t => pure (([cv] : List Str).zip us ++ [(pv, t)])))
    (ht : ∀ (cdv : Value) (A : Around) (outer : List PySem.Env) (s : Shared) (H : Hp) (E : XK), Room k (A.deeper (envOfC qual scope s.heap.objs.size fi cdv)) → L2N.Takes (cxOf (L2N.CX P w) P w K mg base (cv :: pv :: N') qual scope fi cdv A outer s H E) (fun cls d _ H => E cls d H) →
      Passes (L2N.CX P w) (cxOf (L2N.CX P w) P w K mg base (cv :: pv :: N') qual scope fi cdv A outer s H E) E → PSs (cxOf (L2N.CX P w) P w K mg base (cv :: pv :: N') qual scope fi cdv A outer s H E) body (tSX K E g)) :
    FnR P w K mg base (L2N.CX P w) (k + 1) fi (spCM K C (runC C N'.length g)) := by
  obtain ⟨oc, od, dV, kV, doc, pm, an, cdv, ct, osl, rfl, lk, hcd, _, _⟩ := F.ex
  refine (StX.fn_star (ps := [cv]) (pv := pv) (sp := fun vs H Q E => ∃ t F ds z, vs = [.ref C, .ref t] ∧ Same F H ∧ HD F (.ref t) (.tuple ds) ∧ runC C N'.length g ds = some z ∧ ResX K F H Q E z) lk hcd S cxUpN hb (fun A outer s H vs Q E hr h => ?_)).imp fun vs H Q E h => ?_
  · obtain ⟨t, F0, ds, z, rfl, sm, hd, e, q⟩ := h
    have tk : L2N.Takes (cxOf (L2N.CX P w) P w K mg base (cv :: pv :: N') qual scope fi cdv A outer s H E) fun cls d _ H => E cls d H := L2N.takes_of rfl rfl rfl rfl
    refine ⟨_, ht cdv A outer s H E hr tk (L2N.passes_call tk fun _ _ _ _ z => z), ?_⟩
    unfold runC at e
    simp only [Option.bind_eq_some_iff] at e
    obtain ⟨o, q1, q2⟩ := e
    refine start_X (ds := [refD C, .tuple ds]) sm (.cons (.plc C) (.cons hd .nil)) (o := o) ?_ q2 q
    have el : (cv :: pv :: N').length - [refD C, PyData.tuple ds].length = N'.length := by simp
    rw [el]
    exact q1
  · obtain ⟨us, F0, ds, z, rfl, sm, hs, hl, e, q⟩ := h
    refine ⟨[.ref C], us, rfl, rfl, hl, fun p hp => ?_⟩
    have fp : F0 p = none := sm.free hp
    have s1 : Same F0 (upd F0 p (.tup us)) := same_new fp
    have s0 : Same H (upd H p (.tup us)) := same_new hp
    refine ⟨p, upd F0 p (.tup us), ds, z, rfl, fun b o h => ?_, .tup upd_same (hs.mono s1), e, ?_⟩
    · by_cases hb : b = p
      · subst hb; rw [upd_same] at h ⊢; exact h
      · rw [upd_ne hb] at h ⊢; exact sm b o h
    · cases z with
      | inl y => exact fun H' h => q H' (s0.trans h)
      | inr r =>
        refine fun v F' H' ex ok => q v F' H' ⟨s1.trans ex.fz, ex.sub, s0.trans ex.hs, fun b hb => ?_⟩ (ok.old fun b z => ?_)
        · rcases ex.fresh b hb with y | y
          · by_cases hbp : b = p
            · subst hbp; exact .inr (.of hp)
            · rw [upd_ne hbp] at y; exact .inl y
          · exact .inr fun o e => y o (s0 b o e)
        · cases q0 : H b with
          | none => rfl
          | some o => rw [s0 b o q0] at z; cases z
end
end DL

/-! DL43: all that a head says of the class Book. -/
namespace DL
open PySem PySem.Spec PyProof.Rows L2
/-- a special method that an operator finds -/
structure Dun (K : PySem.W.Frag) (C : Addr) (m : Str) : Prop where
  at_ : PySem.W.findIn K (.ref C) m = some (some (.ref (He.ma K C m)))
  fn : PySem.W.isFn K (.ref (He.ma K C m)) = true
  fi : PySem.W.fnIn K (He.ma K C m) = true
structure BookF (K : PySem.W.Frag) (C : Addr) : Prop where
  cl : Cls K C
  nf : NoAttr K C "rows"
  mkr : Mk K C (He.ma K C "__init__")
  dun : ∀ m ∈ (["__call__", "__getitem__", "__contains__", "__len__", "__bool__", "__add__", "__eq__"] : List Str), Dun K C m
  sf : PySem.W.selfFirst K C = true
  ns : PySem.W.noSeq K C = true
  n1 : PySem.W.notFirst K C (.ref C) = true
  n2 : PySem.W.notFirst K C (.type "tuple") = true
  ne : PySem.W.findIn K (.ref C) "__ne__" = some (some (.builtin "object.__ne__"))
  ob : PySem.W.subIn K (.ref C) (.type "object") = some true
  rd : ClX.CRead K C (.type "type")
def metB (K : PySem.W.Frag) (C : Str) (m : Str) : Bool := match PySem.W.findCls K (.ref (He.ga K C)) (.type "type") m with
  | some (.get (.builtin i) (.ref p) .none (.ref c)) => decide (i = "classmethod.__get__") && (decide (p = He.ma K (He.ga K C) m) && decide (c = He.ga K C))
  | _ => false
def cmB (C m : Str) (K : PySem.W.Frag) : Bool := metB K C m && (recB "classmethod" C m K && PySem.W.fnIn K (recAt "classmethod" C m K))
theorem cmB_ok {C m : Str} {K : PySem.W.Frag} (h : cmB C m K = true) : ClX.CMet K (He.ga K C) (.type "type") m (He.ma K (He.ga K C) m) (recAt "classmethod" C m K) := by
  unfold cmB at h
  simp only [Bool.and_eq_true] at h
  obtain ⟨h1, h2, h3⟩ := h
  refine ⟨?_, recB_ok h2, h3⟩
  unfold metB at h1
  split at h1
  · rename_i i p c e
    simp only [Bool.and_eq_true, decide_eq_true_eq] at h1
    obtain ⟨rfl, rfl, rfl⟩ := h1
    exact e
  · cases h1
/-- C.f is this int -/
def cvB (C f : Str) (n : Int) (K : PySem.W.Frag) : Bool := match PySem.W.findCls K (.ref (He.ga K C)) (.type "type") f with
  | some (.val (.int i _)) => decide (i = n)
  | _ => false
theorem cvB_ok {C f : Str} {n : Int} {K : PySem.W.Frag} (h : cvB C f n K = true) : ∃ u, ClX.CVal K (He.ga K C) (.type "type") f (.int n) u := by
  unfold cvB at h
  split at h
  · rename_i i t e
    exact ⟨.int i t, e, t, by rw [of_decide_eq_true h]⟩
  · cases h
def bookB (C : Str) (K : PySem.W.Frag) : Bool := (He.Fa.cls C).ok K && ((He.Fa.noat C "rows").ok K && ((He.Fa.mkr C).ok K && ((["__call__", "__getitem__", "__contains__", "__len__", "__bool__", "__add__", "__eq__"] : List Str).all (fun m => dunB C m K) && (PySem.W.selfFirst K (He.ga K C) && (PySem.W.noSeq K (He.ga K C) &&
  (PySem.W.notFirst K (He.ga K C) (.ref (He.ga K C)) && (PySem.W.notFirst K (He.ga K C) (.type "tuple") && (He.eqO (PySem.W.findIn K (.ref (He.ga K C)) "__ne__") (some (some (.builtin "object.__ne__"))) && (decide (PySem.W.subIn K (.ref (He.ga K C)) (.type "object") = some true) &&
  (PySem.W.readsIn K (He.ga K C) (.type "type") && He.eqO (PySem.W.specialIn K (.ref (He.ga K C)) "__getattribute__") (some (some (.builtin "type.__getattribute__")))))))))))))
theorem bookB_ok {C : Str} {K : PySem.W.Frag} (h : bookB C K = true) : BookF K (He.ga K C) := by
  unfold bookB at h
  simp only [Bool.and_eq_true, decide_eq_true_eq] at h
  obtain ⟨h1, h2, h3, h4, h5, h6, h7, h8, h9, h10, h11, h12⟩ := h
  refine ⟨He.cls_ok h1, He.noat_ok h2, He.mkr_ok h3, fun m hm => ?_, h5, h6, h7, h8, He.eqO_ok h9, h10, h11, He.eqO_ok h12⟩
  obtain ⟨q1, q2, q3⟩ := dunB_ok (List.all_eq_true.mp h4 m hm)
  exact ⟨q1, q2, q3⟩
end DL

/-! DL44: tuple * n, n from 0. -/
namespace DL
open PySem PySem.Spec PyProof.Rows L2
section
variable (l : Addr) (items : Array Value) (n : Nat) (dd : Option Addr) (sl : Array (Option Value)) (u : Tok)
theorem tupM1 : Meets (Builtin.«tuple.__mul__» ⟨[.ref l, .int 1 u], []⟩) (fun _ R s => s.heap.get? l = some { cls := .type "tuple", dict := dd, data := .seq items n, slots := sl } ∧ R (.ok (.ret (.ref l))) s) :=
  .of_wp fun prog w A R s h => by
    obtain ⟨hp, g, d, tk, os⟩ := s
    obtain ⟨hl, h⟩ := h
    have f1 := AutoSeq1.idx_int
    wp_walk using wpAny_loadPart' hl
    repeat (first
      | (refine wpAny_ite_false (by decide) ?_; wp_walk using wpAny_loadPart' hl)
      | (refine wpAny_ite_true (by simp) ?_; wp_walk using wpAny_loadPart' hl))
    exact ⟨_, rfl, h⟩
theorem tupM0 (h0 : items.isEmpty = false) : Meets (Builtin.«tuple.__mul__» ⟨[.ref l, .int 0 u], []⟩) (fun _ R s => s.heap.get? l = some { cls := .type "tuple", dict := dd, data := .seq items n, slots := sl } ∧
      R (.ok (.ret (.ref s.heap.objs.size))) { s with heap := s.heap.push { cls := .type "tuple", data := .seq #[] }, toks := s.toks }) :=
  .of_wp fun prog w A R s h => by
    obtain ⟨hp, g, d, tk, os⟩ := s
    obtain ⟨hl, h⟩ := h
    have f1 := AutoSeq1.idx_int
    wp_walk using wpAny_loadPart' hl
    repeat (first
      | (refine wpAny_ite_false (by decide) ?_; wp_walk using wpAny_loadPart' hl)
      | (refine wpAny_ite_false (by rw [h0]; decide) ?_; wp_walk using wpAny_loadPart' hl)
      | (refine wpAny_ite_true (by simp) ?_; wp_walk using wpAny_loadPart' hl))
    exact ⟨_, rfl, h⟩
end
def opMulN : PyData → PyData → Option Rs
  | .tuple xs, .int k => if xs ≠ [] ∧ 0 ≤ k ∧ k ≤ 1000 ∧ xs.length ≤ 1000 then some (.dat (.tuple (List.replicate k.toNat xs).flatten)) else none
  | _, _ => none
section
variable {X : Cx}
theorem o_mulN : OpD X (binaryOp .Mult) opMulN := by
  intro pins s σ H x y v u Q I rx ry h
  obtain ⟨F0, dx, dy, z, sm, hx, hy, e, k⟩ := h
  unfold opMulN at e
  split at e
  · split at e
    · rename_i xs n hz
      cases e
      obtain ⟨hne, n0, n1, nl⟩ := hz
      obtain ⟨a, vs, rfl, ha, hs⟩ := hx.tuple
      have ey := hy.int
      subst ey
      by_cases h2 : 2 ≤ n
      · exact op_repT pins s σ H _ _ v u Q I rx ry ⟨a, n, vs, rfl, rfl, .of (sm _ _ ha), fun z => hne ((nil_of hs).mp z), h2, n1, by rw [hs.length]; exact nl, fun p hp => k.tup sm (hs.rep _) hp⟩
      · cases rx
        obtain ⟨t, rfl⟩ := ry
        obtain ⟨its, r, ⟨⟨cls, dd, data, sl⟩, ho, hc, m, hd⟩, hl⟩ := I.tuple (.of (sm _ _ ha))
        simp only at hc hd
        subst hc hd
        have hi : its.toArray.isEmpty = false := by
          cases its with
          | nil =>
            have := r.length
            exact absurd ((nil_of hs).mp (List.eq_nil_of_length_eq_zero this)) hne
          | cons a b => rfl
        have hn : n = 0 ∨ n = 1 := by omega
        rcases hn with rfl | rfl
        · refine wpAny_binaryOp_repeat_ref (T := "tuple") (U := "int") (by decide) ⟨_, ho, rfl⟩ (fun s' => typeIs_int s' 0 t) noFill_tuple_mul F.fills_int_mul F.slot_int_rmul repeat_tuple F.slot_int_index.lookup
            (call_meets F.slot_int_rmul (typeIs_int s 0 t) F.entry_int_rmul (F.args_int_rmul_2 _ _) (int_rmul_tuple 0 t a its.toArray m dd sl)
              ⟨ho, rfl, ⟨_, ho, rfl⟩, call_meets F.slot_tuple_mul ⟨_, ho, rfl⟩ F.entry_tuple_mul (F.args_tuple_mul_2 _ _) (tupM0 a its.toArray m dd sl t hi) ⟨ho, ?_⟩⟩)
          exact ⟨.ref s.heap.objs.size, _, I.laid (t' := s.toks) (o := .tup []) (fun b ob q => Heap.get?_push_of_some _ q) (Nat.le_refl _) ⟨Nat.zero_le _, [], .nil, IsTup.new _ _⟩, rfl, k.tup sm .nil (I.hok.fresh (Nat.le_refl _))⟩
        · refine wpAny_binaryOp_repeat_ref (T := "tuple") (U := "int") (by decide) ⟨_, ho, rfl⟩ (fun s' => typeIs_int s' 1 t) noFill_tuple_mul F.fills_int_mul F.slot_int_rmul repeat_tuple F.slot_int_index.lookup
            (call_meets F.slot_int_rmul (typeIs_int s 1 t) F.entry_int_rmul (F.args_int_rmul_2 _ _) (int_rmul_tuple 1 t a its.toArray m dd sl)
              ⟨ho, rfl, ⟨_, ho, rfl⟩, call_meets F.slot_tuple_mul ⟨_, ho, rfl⟩ F.entry_tuple_mul (F.args_tuple_mul_2 _ _) (tupM1 a its.toArray m dd sl t) ⟨ho, ?_⟩⟩)
          refine ⟨.ref a, H, I, rfl, k.dat sm ?_⟩
          rw [show (List.replicate (1 : Int).toNat xs).flatten = xs by simp [List.replicate]]
          exact .tup ha hs
    · cases e
  · cases e
end
end DL

namespace K15
open PySem PySem.Spec PyProof.Rows L2 DL RP
def Book_init_F (C : Nat) : FnX := mk2 1
    (ftNot (fB (fUn bAll (fComp [2] (fiSeq (fName 1)) (fgName 2) ftYes (fCallN 1 is_part_F (faCons (fName 2) faNil)))))) "InvalidPart"
    (fB (fBin opGt (fUn bLen (fName 1)) (fC (.int 30)))) "TooMany" C "rows"
def g_Book_add (C : Nat) : FSX :=
    (fxRet (fMkX (Book_init_F C) (faStar (fUn (opFld C "rows") (fName 0)) (faStar (fUn (opFld C "rows") (fName 1)) faNil))))
def Book_add_F (C : Nat) : FnX := runX 2 2 (g_Book_add C)
abbrev b1__law_made (C : Nat) : FS :=
    (fsName (dnX (fBinX (opAddBX C (Book_add_F C)) (fName 1) (dnX (fMkX (Book_init_F C) (faCons (fName 2) faNil))))) 1)
abbrev b1__law_mades (C : Nat) : PyData → DL.Env → Option Out := stepD [2] (fgName 2)
    (b1__law_made C)
def g__law_made (C : Nat) : FS :=
    (fsSeq (fsName (dnX (fMkX (Book_init_F C) faNil)) 1)
    (fsSeq (fsFor [2] (fiSeq (fName 0)) (fgName 2) (b1__law_made C))
    (fsRet (fName 1))))
def _law_made_F (C : Nat) : Fn := runF 1 3 (g__law_made C)
def g_Book_parts (C : Nat) : FS :=
    (fsRet (fUn (opFld C "rows") (fName 0)))
def Book_parts_F (C : Nat) : Fn := runF 1 1 (g_Book_parts C)
def g__law_new (C : Nat) : FSX :=
    (fxThen (fxIf (fB (fBin opEq (fUn bLen (fName 0)) (fC (.int 0)))) (fxRet (fPropX C (Book_parts_F C) (fMkX (Book_init_F C) faNil)))) (fxThen (fxIf (fB (fBin opEq (fUn bLen (fName 0)) (fC (.int 1)))) (fxRet (fPropX C (Book_parts_F C) (fMkX (Book_init_F C) (faCons (fBin opIx (fName 0) (fC (.int 0))) faNil))))) (fxRet (fPropX C (Book_parts_F C) (fMkX (Book_init_F C) (faCons (fBin opIx (fName 0) (fC (.int 0))) (faCons (fBin opIx (fName 0) (fC (.int 1))) faNil)))))))
def _law_new_F (C : Nat) : Fn := tryX (runX 1 2 (g__law_new C))
def g_Book_len (C : Nat) : FSX :=
    (fxEnd (fsRet (fUn bLen (fUn (opFld C "rows") (fName 0)))))
def Book_len_F (C : Nat) : FnX := runX 1 1 (g_Book_len C)
def g__law_joined (C : Nat) : FSX :=
    (fxRet (fUnX (opLenB C (Book_len_F C)) (fBinX (opAddBX C (Book_add_F C)) (fName 0) (fName 1))))
def _law_joined_F (C : Nat) : Fn := tryX (runX 2 3 (g__law_joined C))
def g_Book_chapters (C : Nat) : FSX :=
    (fxSeq (fsName (fComp [3] (fiSeq (fName 1)) (fgName 3) ftYes (fTup (faCons (fC (.str "right")) (faCons (fName 3) faNil)))) 2) (fxRet (fClsX C 0 (Book_init_F C) (fName 2))))
def Book_chapters_F (C : Nat) : FnX := runC C 2 (g_Book_chapters C)
def g__law_chapters (C : Nat) : FSX :=
    (fxRet (fPropX C (Book_parts_F C) (fCmX (Book_chapters_F C) (faCons (fName 0) (faCons (fName 1) faNil)))))
def _law_chapters_F (C : Nat) : Fn := tryX (runX 2 3 (g__law_chapters C))
abbrev b1_law (C : Nat) : FS :=
    (fsSeq (fsName (fTup (faCons (fBin opIx (fLst (faCons (fC (.str "right")) (faCons (fC (.str "left")) (faCons (fC (.str "any")) faNil)))) (fCallTN 2 _law_draw_F 1 (faCons (fC (.int 3)) faNil))) (faCons (fBin opAdd (fC (.int 1)) (fCallTN 2 _law_draw_F 1 (faCons (fC (.int 999)) faNil))) faNil))) 3)
    (fsSeq (fsName (fLst (faCons (fTup (faCons (fC (.str "right")) (faCons (fC (.int 0)) faNil))) (faCons (fTup (faCons (fC (.str "right")) (faCons (fC (.int 1000)) faNil))) (faCons (fTup (faCons (fC (.str "up")) (faCons (fC (.int 1)) faNil))) (faCons (fTup (faCons (fC (.str "any")) (faCons (fC (.bool true)) faNil))) (faCons (fC .none) (faCons (fC (.str "any")) (faCons (fLst (faCons (fC (.str "any")) (faCons (fC (.int 1)) faNil))) (faCons (fTup (faCons (fC (.str "any")) faNil)) (faCons (fName 3) faNil)))))))))) 4)
    (fsSeq (fsName (fCut (fLst (faCons (fName 3) (faCons (fBin opIx (fName 4) (fCallTN 2 _law_draw_F 1 (faCons (fC (.int 9)) faNil))) faNil))) foNone (foSome (fCallTN 2 _law_draw_F 1 (faCons (fC (.int 3)) faNil)))) 5)
    (fsSeq (fsIf (ftNot (fB (fCallN 2 _law_like_F (faCons (fCallN 1 (_law_new_F C) (faCons (fName 5) faNil)) (faCons (fIf (fB (fCallN 1 is_parts_F (faCons (fUn bTuple (fName 5)) faNil))) (fUn bTuple (fName 5)) (fC (.str "part"))) faNil))))) (fsRet (fC (.bool false))) fsNext)
    (fsSeq (fsPar (fBin opAdd (fC (.int 1)) (fCallTN 2 _law_draw_F 1 (faCons (fC (.int 999)) faNil))) (fBin opIx (fLst (faCons (fC (.int 5)) (faCons (fC (.int 0)) (faCons (fC (.int 1000)) (faCons (fC (.bool true)) (faCons (fC .none) (faCons (fC (.str "5")) faNil))))))) (fCallTN 2 _law_draw_F 1 (faCons (fC (.int 6)) faNil))) 6 7)
    (fsSeq (fsName (fIf (fB (fBin opEq (fName 7) (fC (.int 5)))) (fTup (faCons (fTup (faCons (fC (.str "right")) (faCons (fName 6) faNil))) (faCons (fTup (faCons (fC (.str "right")) (faCons (fC (.int 5)) faNil))) faNil))) (fC (.str "part"))) 8)
    (fsSeq (fsIf (ftNot (fB (fCallN 2 _law_like_F (faCons (fCallN 2 (_law_chapters_F C) (faCons (fName 6) (faCons (fName 7) faNil))) (faCons (fName 8) faNil))))) (fsRet (fC (.bool false))) fsNext)
    (fsSeq (fsName (fCallTN 2 _law_draw_F 1 (faCons (fC (.int 31)) faNil)) 9)
    (fsSeq (fsName (fCallN 1 (_law_made_F C) (faCons (fBin opMulN (fTup (faCons (fTup (faCons (fC (.str "any")) (faCons (fC (.int 1)) faNil))) faNil)) (fName 9)) faNil)) 10)
    (fsSeq (fsName (fCallN 1 (_law_made_F C) (faCons (fBin opMulN (fTup (faCons (fName 3) faNil)) (fBin opSub (fC (.int 30)) (fName 9))) faNil)) 11)
    (fsSeq (fsIf (ftOr (fB (fBin opNe (fCallN 2 (_law_joined_F C) (faCons (fName 10) (faCons (fName 11) faNil))) (fC (.int 30)))) (fB (fBin opNe (fCallN 2 (_law_joined_F C) (faCons (fName 10) (faCons (dnX (fBinX (opAddBX C (Book_add_F C)) (fName 11) (dnX (fMkX (Book_init_F C) faNil)))) faNil))) (fC (.int 30))))) (fsRet (fC (.bool false))) fsNext)
    (fsSeq (fsName (fCallN 1 (_law_made_F C) (faCons (fBin opMulN (fTup (faCons (fName 3) faNil)) (fBin bMin2 (fC (.int 30)) (fBin opSub (fC (.int 31)) (fName 9)))) faNil)) 12)
    (fsIf (fB (fBin opNe (fCallN 2 (_law_joined_F C) (faCons (fName 10) (faCons (fName 12) faNil))) (fIf (fB (fBin opGt (fName 9) (fC (.int 0)))) (fC (.str "many")) (fC (.int 30))))) (fsRet (fC (.bool false))) fsNext)))))))))))))
abbrev b1_laws (C : Nat) : PyData → DL.Env → Option Out := stepD [2, 3, 4, 5, 6, 7, 8, 9, 10, 11, 12] (fgName 2)
    (b1_law C)
def g_law (C : Nat) : FS :=
    (fsSeq (fsFor [2, 3, 4, 5, 6, 7, 8, 9, 10, 11, 12] (fiRange1 (fC (.int 8))) (fgName 2) (b1_law C))
    (fsRet (fBin opEq (fCallN 1 (_law_new_F C) (faCons (fLst (faCons (fTup (faCons (fC (.str "any")) (faCons (fC (.int 1)) faNil))) (faCons (fTup (faCons (fC (.str "any")) (faCons (fC (.int 0)) faNil))) faNil))) faNil)) (fC (.str "part")))))
end K15

/-! MP: plain equations of the shared readings. -/
namespace RP
open PySem PySem.Spec PyProof.Rows L2 DL

inductive Sd where
  | any | right | left
def Sd.s : Sd → Str
  | .any => "any"
  | .right => "right"
  | .left => "left"
abbrev Pt := Sd × Int
def dP (p : Pt) : PyData := .tuple [.str p.1.s, .int p.2]
abbrev dPs (ps : List Pt) : PyData := .tuple (ps.map dP)
def isAny : Sd → Bool
  | .any => true
  | _ => false
def fits : Sd → Int → Bool
  | .any, _ => true
  | .right, p => decide (p % 2 = 1)
  | .left, p => decide (p % 2 = 0)
theorem fits_side_eq (s : Sd) (p : Int) : fits_side_F [.str s.s, .int p] = some (.dat (.bool (fits s p))) := by
  cases s
  · kernel_rfl
  · kernel_rfl
  · kernel_rfl
def b01 (b : Bool) : Int := if b = true then 1 else 0
/-- the bound parts: where the stretch begins, the part, is a blank page needed -/
def strM : List Pt → Nat → Int → Int → List (Int × Int × Bool)
  | [], _, _, _ => []
  | (s, n) :: r, i, f, p => if isAny s = true then strM r (i + 1) f (p + b01 (!fits s p) + n) else (f, (i : Int), !fits s p) :: strM r (i + 1) ((i : Int) + 1) (p + b01 (!fits s p) + n)
def dS (x : Int × Int × Bool) : PyData := .tuple [.int x.1, .int x.2.1, .bool x.2.2]
abbrev eS (D : PyData) (acc : List PyData) (f p : Int) (x4 x5 x6 x7 : Sl) : DL.Env := [.dat D, .own false acc, .dat (.int f), .dat (.int p), x4, x5, x6, x7]
theorem str_main (D : PyData) (acc : List PyData) (s : Sd) (n : Int) (i : Nat) (f p : Int) (hl : acc.length < sizeLine) (hs : isAny s = false) :
    b1_stretchess (.tuple [.int (i : Int), dP (s, n)]) (eS D acc f p .dead .dead .dead .dead) = some (.nx (eS D (acc ++ [dS (f, (i : Int), !fits s p)]) ((i : Int) + 1) (p + b01 (!fits s p) + n) .dead .dead .dead .dead)) := by
  refine step_nx (e1 := eS D acc f p (.dat (.int (i : Int))) (.dat (.str s.s)) (.dat (.int n)) .dead) (e2 := eS D (acc ++ [dS (f, (i : Int), !fits s p)]) ((i : Int) + 1) (p + b01 (!fits s p) + n) (.dat (.int (i : Int))) (.dat (.str s.s)) (.dat (.int n)) (.dat (.bool (!fits s p)))) (by kernel_rfl) ?_
  refine (es_seq (e := eS D acc f p (.dat (.int (i : Int))) (.dat (.str s.s)) (.dat (.int n)) (.dat (.bool (!fits s p)))) (by cases s <;> kernel_rfl)).trans ?_
  refine (es_seq (e := eS D (acc ++ [dS (f, (i : Int), !fits s p)]) ((i : Int) + 1) p (.dat (.int (i : Int))) (.dat (.str s.s)) (.dat (.int n)) (.dat (.bool (!fits s p)))) ?_).trans (by kernel_rfl)
  refine (es_ifT (e := eS D acc f p (.dat (.int (i : Int))) (.dat (.str s.s)) (.dat (.int n)) (.dat (.bool (!fits s p)))) ?_).trans ?_
  · cases s
    · cases hs
    · kernel_rfl
    · kernel_rfl
  · refine (es_seq (es_app (i := 1) (c := false) (ds0 := acc) (c' := false) (ds := acc) (d := dS (f, (i : Int), !fits s p)) (e1 := eS D acc f p (.dat (.int (i : Int))) (.dat (.str s.s)) (.dat (.int n)) (.dat (.bool (!fits s p)))) (r := .dat (dS (f, (i : Int), !fits s p))) rfl (by kernel_rfl) rfl rfl hl)).trans ?_
    kernel_rfl
theorem str_any (D : PyData) (acc : List PyData) (n : Int) (i : Nat) (f p : Int) :
    b1_stretchess (.tuple [.int (i : Int), dP (.any, n)]) (eS D acc f p .dead .dead .dead .dead) = some (.nx (eS D acc f (p + b01 (!fits .any p) + n) .dead .dead .dead .dead)) := by
  kernel_rfl
theorem str_loop (D : PyData) : ∀ (ps : List Pt) (acc : List PyData) (i : Nat) (f p : Int), acc.length + ps.length ≤ sizeLine →
    ∃ f' p', forD b1_stretchess (enumD i (ps.map dP)) (eS D acc f p .dead .dead .dead .dead) = some (.nx (eS D (acc ++ (strM ps i f p).map dS) f' p' .dead .dead .dead .dead))
  | [], acc, i, f, p, _ => ⟨f, p, by
    show some (Out.nx (eS D acc f p .dead .dead .dead .dead)) = _
    simp [strM]⟩
  | (s, n) :: r, acc, i, f, p, hl => by
    rw [List.length_cons] at hl
    cases hs : isAny s with
    | true =>
      have e : s = .any := by cases s <;> first | rfl | cases hs
      subst e
      obtain ⟨f', p', h⟩ := str_loop D r acc (i + 1) f (p + b01 (!fits .any p) + n) (by omega)
      refine ⟨f', p', (for_cons (str_any D acc n i f p)).trans ?_⟩
      exact h
    | false =>
      obtain ⟨f', p', h⟩ := str_loop D r (acc ++ [dS (f, (i : Int), !fits s p)]) (i + 1) ((i : Int) + 1) (p + b01 (!fits s p) + n) (by rw [List.length_append, List.length_cons, List.length_nil]; omega)
      refine ⟨f', p', (for_cons (str_main D acc s n i f p (by omega) hs)).trans ?_⟩
      rw [h]
      simp [strM, hs]
theorem stretches_eq (ps : List Pt) (hl : ps.length ≤ sizeLine) : stretches_F [dPs ps] = some (.new ((strM ps 0 0 1).map dS)) := by
  obtain ⟨f', p', h⟩ := str_loop (dPs ps) ps [] 0 0 1 (by simpa using hl)
  refine run_ret (e := eS (dPs ps) ((strM ps 0 0 1).map dS) f' p' .dead .dead .dead .dead) (r1 := .own 1) rfl ?_ rfl
  refine (es_seq (e := [.dat (dPs ps), .own false [], .dead, .dead, .dead, .dead, .dead, .dead]) (by kernel_rfl)).trans ?_
  refine (es_seq (e := [.dat (dPs ps), .own false [], .dat (.int 0), .dead, .dead, .dead, .dead, .dead]) (by kernel_rfl)).trans ?_
  refine (es_seq (e := eS (dPs ps) [] 0 1 .dead .dead .dead .dead) (by kernel_rfl)).trans ?_
  refine (es_seq (e := eS (dPs ps) ((strM ps 0 0 1).map dS) f' p' .dead .dead .dead .dead) ?_).trans (by kernel_rfl)
  refine (es_for (e := eS (dPs ps) [] 0 1 .dead .dead .dead .dead) (xs := enumD 0 (ps.map dP)) (by kernel_rfl)).trans ?_
  exact h
/-! the three that list the stretches -/
theorem filt {α : Type} (F : PyData → Option PyData) (d : α → PyData) (c : α → Bool) (m : α → PyData) (h : ∀ x, F (d x) = if c x = true then some (m x) else none) : ∀ xs : List α, (xs.map d).filterMap F = (xs.filter c).map m
  | [] => rfl
  | x :: r => by
    rw [List.map_cons, List.filterMap_cons, h]
    cases hc : c x with
    | true => simp [hc, filt F d c m h r]
    | false => simp [hc, filt F d c m h r]
def needs (ps : List Pt) : List (Int × Int × Bool) := (strM ps 0 0 1).filter (·.2.2)
def fewM (ps : List Pt) : Int := ((needs ps).length : Int)
theorem strM_len : ∀ (ps : List Pt) (i : Nat) (f p : Int), (strM ps i f p).length ≤ ps.length
  | [], _, _, _ => Nat.le_refl _
  | (s, n) :: r, i, f, p => by
    unfold strM
    split
    · exact Nat.le_succ_of_le (strM_len r _ _ _)
    · rw [List.length_cons, List.length_cons]
      exact Nat.succ_le_succ (strM_len r _ _ _)
def fS2 : PyData → Option PyData
  | .tuple [_, x, .bool true] => some x
  | _ => none
def fS1 : PyData → Option PyData
  | .tuple [x, _, .bool true] => some x
  | _ => none
theorem lay_comp (ps : List Pt) (hl : ps.length ≤ sizeLine) (it : FI) (fe : FE) (F : PyData → Option PyData) (hit : it [.dat (dPs ps), .dead, .dead, .dead] = some ((strM ps 0 0 1).map dS, [.dat (dPs ps), .dead, .dead, .dead]))
    (h : ∀ x, stepC [1, 2, 3] (fgTup (fgCons (fgName 1) (fgCons (fgName 2) (fgCons (fgName 3) fgNil)))) (fB (fName 3)) fe (dS x) [.dat (dPs ps), .dead, .dead, .dead] = some (F (dS x), [.dat (dPs ps), .dead, .dead, .dead])) :
    fComp [1, 2, 3] it (fgTup (fgCons (fgName 1) (fgCons (fgName 2) (fgCons (fgName 3) fgNil)))) (fB (fName 3)) fe [.dat (dPs ps), .dead, .dead, .dead] = some (.new (((strM ps 0 0 1).map dS).filterMap F), [.dat (dPs ps), .dead, .dead, .dead]) := by
  refine ev_comp hit ?_ fun x hx => ?_
  · rw [List.length_map]
    exact Nat.le_trans (strM_len _ _ _ _) hl
  · obtain ⟨y, _, rfl⟩ := List.mem_map.mp hx
    exact h y
theorem it_str (ps : List Pt) (hl : ps.length ≤ sizeLine) : fiSeq (fCallN 1 stretches_F (faCons (fName 0) faNil)) [.dat (dPs ps), .dead, .dead, .dead] = some ((strM ps 0 0 1).map dS, [.dat (dPs ps), .dead, .dead, .dead]) := by
  unfold fiSeq
  rw [ev_call (n := 1) (ea_dat (d := dPs ps) (e1 := [.dat (dPs ps), .dead, .dead, .dead]) (by kernel_rfl) ea_nil) rfl (stretches_eq ps hl)]
  rfl
theorem fewest_blanks_eq (ps : List Pt) (hl : ps.length ≤ sizeLine) : fewest_blanks_F [dPs ps] = some (.dat (.int (fewM ps))) := by
  refine run_ret (r1 := .dat (.int (fewM ps))) (e := [.dat (dPs ps), .dead, .dead, .dead]) rfl (es_ret (ev_un (lay_comp ps hl _ _ fS2 (it_str ps hl) ?_) rfl ?_)) rfl
  · rintro ⟨x, y, b⟩
    cases b <;> kernel_rfl
  · rw [filt fS2 dS (·.2.2) (fun x => .int x.2.1) (fun x => by obtain ⟨x, y, b⟩ := x; cases b <;> rfl)]
    show some (ri _) = _
    rw [List.length_map]
    rfl
theorem late_layout_eq (ps : List Pt) (hl : ps.length ≤ sizeLine) : late_layout_F [dPs ps] = some (.dat (.tuple ((needs ps).map fun x => .int x.2.1))) := by
  refine run_ret (r1 := .dat (.tuple ((needs ps).map fun x => .int x.2.1))) (e := [.dat (dPs ps), .dead, .dead, .dead]) rfl (es_ret (ev_un (lay_comp ps hl _ _ fS2 (it_str ps hl) ?_) rfl ?_)) rfl
  · rintro ⟨x, y, b⟩
    cases b <;> kernel_rfl
  · rw [filt fS2 dS (·.2.2) (fun x => .int x.2.1) (fun x => by obtain ⟨x, y, b⟩ := x; cases b <;> rfl)]
    rfl
theorem early_layout_eq (ps : List Pt) (hl : ps.length ≤ sizeLine) : early_layout_F [dPs ps] = some (.dat (.tuple ((needs ps).map fun x => .int x.1))) := by
  refine run_ret (r1 := .dat (.tuple ((needs ps).map fun x => .int x.1))) (e := [.dat (dPs ps), .dead, .dead, .dead]) rfl (es_ret (ev_un (lay_comp ps hl _ _ fS1 (it_str ps hl) ?_) rfl ?_)) rfl
  · rintro ⟨x, y, b⟩
    cases b <;> kernel_rfl
  · rw [filt fS1 dS (·.2.2) (fun x => .int x.1) (fun x => by obtain ⟨x, y, b⟩ := x; cases b <;> rfl)]
    rfl

/-! ### what is drawn -/
abbrev tp (ns : List Int) (t : Int × Int) : List PyData := [.list (ns.map PyData.int), .int t.1, .int t.2]
abbrev eD (ns : List Int) (i c m : Int) (x2 x3 x4 : Sl) : DL.Env := [.own true (tp ns (i, c)), .dat (.int m), x2, x3, x4]
abbrev PR : Int := 2305843009213693951
theorem mul_self (ns : List Int) (i c m y : Int) (x2 x4 : Sl) (h0 : 0 ≤ y) (h1 : y < PR) : fBin opMul (fName 3) (fName 3) (eD ns i c m x2 (.dat (.int y)) x4) = some (.dat (.int (y * y)), eD ns i c m x2 (.dat (.int y)) x4) := by
  refine ev_bind (e1 := eD ns i c m x2 (.dat (.int y)) x4) rfl rfl (op_mul_int ?_)
  have e : lowI y = true := by
    unfold lowI
    rw [Bool.and_eq_true, decide_eq_true_eq, decide_eq_true_eq]
    have : PR < 2 ^ 64 := by decide
    omega
  rw [e]
  rfl
theorem pr_mod (x : Int) : 0 ≤ x % PR ∧ x % PR < PR := ⟨Int.emod_nonneg _ (by decide), Int.emod_lt_of_pos _ (by decide)⟩
abbrev dr_hash : FS := (fsSeq (fsName (fBin opMod (fBin opAdd (fName 3) (fBin opMul (fC (.int 1000003)) (fBin opIx (fName 0) (fC (.int 1))))) (fName 2)) 3)
    (fsSeq (fsName (fBin opMod (fBin opAdd (fBin opAdd (fBin opMul (fName 3) (fName 3)) (fBin opMul (fC (.int 1181783497276652981)) (fName 3))) (fC (.int 2049848353892358983))) (fName 2)) 3)
    (fsName (fBin opMod (fBin opAdd (fBin opMul (fName 3) (fName 3)) (fC (.int 1442695040888963407))) (fName 2)) 3)))
theorem dr_hash_eq (ns : List Int) (i c m x : Int) (x4 : Sl) : ∃ z, dr_hash (eD ns i c m (.dat (.int PR)) (.dat (.int x)) x4) = some (.nx (eD ns i c m (.dat (.int PR)) (.dat (.int z)) x4)) := by
  obtain ⟨a1, a2⟩ := pr_mod (x + 1000003 * i)
  obtain ⟨b1, b2⟩ := pr_mod (((x + 1000003 * i) % PR * ((x + 1000003 * i) % PR) + 1181783497276652981 * ((x + 1000003 * i) % PR)) + 2049848353892358983)
  generalize hy : (x + 1000003 * i) % PR = y at *
  generalize hz : (y * y + 1181783497276652981 * y + 2049848353892358983) % PR = z at *
  refine ⟨(z * z + 1442695040888963407) % PR, ?_⟩
  refine (es_seq (e := eD ns i c m (.dat (.int PR)) (.dat (.int y)) x4) ?_).trans ?_
  · rw [← hy]
    kernel_rfl
  refine (es_seq (e := eD ns i c m (.dat (.int PR)) (.dat (.int z)) x4) ?_).trans ?_
  · rw [← hz]
    refine (es_name (i := 3) (d := .int ((y * y + 1181783497276652981 * y + 2049848353892358983) % PR)) (e := eD ns i c m (.dat (.int PR)) (.dat (.int y)) x4) ?_ (by show 3 < 5; decide)).trans (by kernel_rfl)
    have q1 := mul_self ns i c m y (.dat (.int PR)) x4 a1 a2
    have q2 : fBin opMul (fC (.int 1181783497276652981)) (fName 3) (eD ns i c m (.dat (.int PR)) (.dat (.int y)) x4) = some (.dat (.int (1181783497276652981 * y)), eD ns i c m (.dat (.int PR)) (.dat (.int y)) x4) := by kernel_rfl
    have q3 := ev_bind (op := opAdd) q1 q2 (r := .dat (.int (y * y + 1181783497276652981 * y))) rfl
    have q4 := ev_bind (op := opAdd) (fb := fC (.int 2049848353892358983)) q3 rfl (r := .dat (.int (y * y + 1181783497276652981 * y + 2049848353892358983))) rfl
    exact ev_bind (op := opMod) (fb := fName 2) (y := .int PR) q4 rfl (op_mod_int (by decide))
  · refine (es_name (i := 3) (d := .int ((z * z + 1442695040888963407) % PR)) (e := eD ns i c m (.dat (.int PR)) (.dat (.int z)) x4) ?_ (by show 3 < 5; decide)).trans (by kernel_rfl)
    have q1 := mul_self ns i c m z (.dat (.int PR)) x4 b1 b2
    have q4 := ev_bind (op := opAdd) (fb := fC (.int 1442695040888963407)) q1 rfl (r := .dat (.int (z * z + 1442695040888963407))) rfl
    exact ev_bind (op := opMod) (fb := fName 2) (y := .int PR) q4 rfl (op_mod_int (by decide))
theorem atI_ints (ns : List Int) (j : Int) (h0 : 0 ≤ j) (h1 : j < (ns.length : Int)) : ∃ x : Int, opIx (.list (ns.map PyData.int)) (.int j) = some (.dat (.int x)) := by
  have hj : j.toNat < ns.length := by omega
  refine ⟨ns[j.toNat], ?_⟩
  show (L2.atI (ns.map PyData.int) j).map Rs.dat = _
  unfold L2.atI L2.ixN
  rw [if_pos h0, if_pos (by rw [List.length_map]; exact h1)]
  show (((ns.map PyData.int)[j.toNat]?)).map Rs.dat = _
  rw [List.getElem?_map, List.getElem?_eq_getElem hj]
  rfl
theorem draw_eq (ns : List Int) (i c m : Int) (hi : 0 ≤ i) (hm : 0 < m) (hm2 : m.natAbs.log2 < 9000) : ∃ r t, _law_draw_F (tp ns (i, c)) [.int m] = some (.dat (.int r), tp ns t) ∧ 0 ≤ r ∧ r < m ∧ 0 ≤ t.1 := by
  -- the tape behind the first half
  have half : ∃ i' c' x3, 0 ≤ i' ∧ ∀ q : FS, g__law_draw = g__law_draw → (fsSeq (fsIf (fB (fBin opLt (fBin opIx (fName 0) (fC (.int 2))) (fName 1))) (fsSeq (fsName (fC (.int 0)) 3)
    (fsSeq (fsIf (fB (fBin opGt (fUn bLen (fBin opIx (fName 0) (fC (.int 0)))) (fC (.int 0)))) (fsName (fBin opIx (fBin opIx (fName 0) (fC (.int 0))) (fBin opMod (fBin opIx (fName 0) (fC (.int 1))) (fUn bLen (fBin opIx (fName 0) (fC (.int 0)))))) 3) fsNext)
    (fsSeq (fsIf (ftOr (fB (fBin opGe (fBin opIx (fName 0) (fC (.int 1))) (fUn bLen (fBin opIx (fName 0) (fC (.int 0)))))) (fB (fBin opLt (fName 3) (fBin opPow (fC (.int 10)) (fC (.int 18)))))) dr_hash fsNext)
    (fsSeq (fsPut 0 (fC (.int 1)) (fBin opAdd (fBin opIx (fName 0) (fC (.int 1))) (fC (.int 1))))
    (fsPut 0 (fC (.int 2)) (fName 3)))))) fsNext) q) (eD ns i c m (.dat (.int PR)) .dead .dead) = q (eD ns i' c' m (.dat (.int PR)) x3 .dead) := by
    by_cases hc : c < m
    · -- cell
      have s2 : ∃ x, fsIf (fB (fBin opGt (fUn bLen (fBin opIx (fName 0) (fC (.int 0)))) (fC (.int 0)))) (fsName (fBin opIx (fBin opIx (fName 0) (fC (.int 0))) (fBin opMod (fBin opIx (fName 0) (fC (.int 1))) (fUn bLen (fBin opIx (fName 0) (fC (.int 0)))))) 3) fsNext (eD ns i c m (.dat (.int PR)) (.dat (.int 0)) .dead) = some (.nx (eD ns i c m (.dat (.int PR)) (.dat (.int x)) .dead)) := by
        have ht : fB (fBin opGt (fUn bLen (fBin opIx (fName 0) (fC (.int 0)))) (fC (.int 0))) (eD ns i c m (.dat (.int PR)) (.dat (.int 0)) .dead) = some (decide ((0 : Int) < ((ns.map PyData.int).length : Int)), eD ns i c m (.dat (.int PR)) (.dat (.int 0)) .dead) := by kernel_rfl
        by_cases hl : (0 : Int) < ((ns.map PyData.int).length : Int)
        · rw [decide_eq_true hl] at ht
          obtain ⟨x, hx⟩ := atI_ints ns (i % ((ns.map PyData.int).length : Int)) (Int.emod_nonneg _ (by omega)) (by have := Int.emod_lt_of_pos i hl; simpa using this)
          refine ⟨x, (es_ifT ht).trans ((es_name (i := 3) (d := .int x) (e := eD ns i c m (.dat (.int PR)) (.dat (.int 0)) .dead) ?_ (by show 3 < 5; decide)).trans (by kernel_rfl))⟩
          have q1 : fBin opIx (fName 0) (fC (.int 0)) (eD ns i c m (.dat (.int PR)) (.dat (.int 0)) .dead) = some (.dat (.list (ns.map PyData.int)), eD ns i c m (.dat (.int PR)) (.dat (.int 0)) .dead) := by kernel_rfl
          have q2 : fBin opIx (fName 0) (fC (.int 1)) (eD ns i c m (.dat (.int PR)) (.dat (.int 0)) .dead) = some (.dat (.int i), eD ns i c m (.dat (.int PR)) (.dat (.int 0)) .dead) := by kernel_rfl
          have q3 : fUn bLen (fBin opIx (fName 0) (fC (.int 0))) (eD ns i c m (.dat (.int PR)) (.dat (.int 0)) .dead) = some (.dat (.int ((ns.map PyData.int).length : Int)), eD ns i c m (.dat (.int PR)) (.dat (.int 0)) .dead) := by kernel_rfl
          exact ev_bind q1 (ev_bind q2 q3 (op_mod_int hl)) hx
        · rw [decide_eq_false hl] at ht
          exact ⟨0, es_ifF ht⟩
      obtain ⟨x, hx⟩ := s2
      have s3 : ∃ z, fsIf (ftOr (fB (fBin opGe (fBin opIx (fName 0) (fC (.int 1))) (fUn bLen (fBin opIx (fName 0) (fC (.int 0)))))) (fB (fBin opLt (fName 3) (fBin opPow (fC (.int 10)) (fC (.int 18)))))) dr_hash fsNext (eD ns i c m (.dat (.int PR)) (.dat (.int x)) .dead) = some (.nx (eD ns i c m (.dat (.int PR)) (.dat (.int z)) .dead)) := by
        have ht : ftOr (fB (fBin opGe (fBin opIx (fName 0) (fC (.int 1))) (fUn bLen (fBin opIx (fName 0) (fC (.int 0)))))) (fB (fBin opLt (fName 3) (fBin opPow (fC (.int 10)) (fC (.int 18))))) (eD ns i c m (.dat (.int PR)) (.dat (.int x)) .dead) = some (decide (((ns.map PyData.int).length : Int) ≤ i) || decide (x < 10 ^ 18), eD ns i c m (.dat (.int PR)) (.dat (.int x)) .dead) :=
          ev_or (e1 := eD ns i c m (.dat (.int PR)) (.dat (.int x)) .dead) (by kernel_rfl) (fun _ => by kernel_rfl) fun _ => rfl
        cases hb : (decide (((ns.map PyData.int).length : Int) ≤ i) || decide (x < 10 ^ 18)) with
        | true =>
          rw [hb] at ht
          obtain ⟨z, hz⟩ := dr_hash_eq ns i c m x .dead
          exact ⟨z, (es_ifT ht).trans hz⟩
        | false =>
          rw [hb] at ht
          exact ⟨x, es_ifF ht⟩
      obtain ⟨z, hz⟩ := s3
      refine ⟨i + 1, z, .dat (.int z), by omega, fun q _ => ?_⟩
      refine (es_seq (e := eD ns (i + 1) z m (.dat (.int PR)) (.dat (.int z)) .dead) ?_)
      have ht : fB (fBin opLt (fBin opIx (fName 0) (fC (.int 2))) (fName 1)) (eD ns i c m (.dat (.int PR)) .dead .dead) = some (decide (c < m), eD ns i c m (.dat (.int PR)) .dead .dead) := by kernel_rfl
      rw [decide_eq_true hc] at ht
      refine (es_ifT ht).trans ?_
      refine (es_seq (e := eD ns i c m (.dat (.int PR)) (.dat (.int 0)) .dead) (by kernel_rfl)).trans ?_
      refine (es_seq hx).trans ?_
      refine (es_seq hz).trans ?_
      kernel_rfl
    · refine ⟨i, c, .dead, hi, fun q _ => ?_⟩
      refine (es_seq (e := eD ns i c m (.dat (.int PR)) .dead .dead) ?_)
      have ht : fB (fBin opLt (fBin opIx (fName 0) (fC (.int 2))) (fName 1)) (eD ns i c m (.dat (.int PR)) .dead .dead) = some (decide (c < m), eD ns i c m (.dat (.int PR)) .dead .dead) := by kernel_rfl
      rw [decide_eq_false hc] at ht
      exact es_ifF ht
  obtain ⟨i', c', x3, hi', hq⟩ := half
  refine ⟨c' % m, (i', c' / m), ?_, Int.emod_nonneg _ (by omega), Int.emod_lt_of_pos _ hm, hi'⟩
  refine runT_ret (r1 := .dat (.int (c' % m))) (e := eD ns i' (c' / m) m (.dat (.int PR)) x3 (.dat (.int (c' % m)))) rfl ?_ rfl rfl
  refine (es_seq (e := eD ns i c m (.dat (.int PR)) .dead .dead) (by kernel_rfl)).trans ?_
  refine (hq _ rfl).trans ?_
  have q5 : fBin opIx (fName 0) (fC (.int 2)) (eD ns i' c' m (.dat (.int PR)) x3 .dead) = some (.dat (.int c'), eD ns i' c' m (.dat (.int PR)) x3 .dead) := by kernel_rfl
  have q6 := ev_bind (op := opMod) (fb := fName 1) (y := .int m) q5 rfl (op_mod_int hm)
  have q7 := es_name (i := 4) q6 (by show 4 < 5; decide)
  have q8 : fBin opIx (fName 0) (fC (.int 2)) (eD ns i' c' m (.dat (.int PR)) x3 (.dat (.int (c' % m)))) = some (.dat (.int c'), eD ns i' c' m (.dat (.int PR)) x3 (.dat (.int (c' % m)))) := by kernel_rfl
  have q9 := ev_bind (op := opFdiv) (fb := fName 1) (y := .int m) q8 rfl (op_fdiv_int hm hm2)
  refine (es_seq q7).trans ?_
  refine (es_seq (es_put (i := 0) (j := 2) (k := 2) (c := true) (c' := true) (ds0 := tp ns (i', c')) (ds := tp ns (i', c')) (d := .int (c' / m)) (e1 := eD ns i' c' m (.dat (.int PR)) x3 (.dat (.int (c' % m)))) (e2 := eD ns i' c' m (.dat (.int PR)) x3 (.dat (.int (c' % m)))) (e3 := eD ns i' c' m (.dat (.int PR)) x3 (.dat (.int (c' % m)))) q9 rfl rfl rfl rfl rfl)).trans ?_
  kernel_rfl

theorem log_small {m : Int} (h0 : 0 < m) (h1 : m < 2 ^ 64) : m.natAbs.log2 < 9000 := by
  have h2 : m.natAbs < 2 ^ 64 := by omega
  have h3 : m.natAbs ≠ 0 := by omega
  have h4 : m.natAbs.log2 < 64 := (Nat.log2_lt h3).mpr h2
  omega
/-- a draw, as an expression -/
theorem draw_at {env env1 : DL.Env} {i : Nat} {c c' : Bool} {ts : List PyData} {ns : List Int} {t : Int × Int} {fa : FE} {m : Int} (h : env[i]? = some (.own c' ts)) (ha : fa env = some (.dat (.int m), env1)) (h1 : env1[i]? = some (.own c (tp ns t))) (ht : 0 ≤ t.1) (hm : 0 < m) (hm2 : m < 2 ^ 64) :
    ∃ r t', fCallTN 2 _law_draw_F i (faCons fa faNil) env = some (.dat (.int r), env1.set i (.own c (tp ns t'))) ∧ 0 ≤ r ∧ r < m ∧ 0 ≤ t'.1 := by
  obtain ⟨r, t', e, h2, h3, h4⟩ := draw_eq ns t.1 t.2 m ht hm (log_small hm hm2)
  exact ⟨r, t', ev_callT h (ea_dat ha ea_nil) h1 rfl e, h2, h3, h4⟩
abbrev eR (ns : List Int) (t : Int × Int) (most : Int) (x2 x3 x4 x5 x6 : Sl) : DL.Env := [.own true (tp ns t), .dat (.int most), x2, x3, x4, x5, x6]
theorem row_side (ns : List Int) (t : Int × Int) (most m : Int) (x3 x4 x5 x6 : Sl) (ht : 0 ≤ t.1) (hm : 0 < m) (hm2 : m < 2 ^ 64) : ∃ (s : Sd) (t' : Int × Int), 0 ≤ t'.1 ∧
    fIf (fB (fBin opGt (fCallTN 2 _law_draw_F 0 (faCons (fName 2) faNil)) (fC (.int 0)))) (fBin opIx (fLst (faCons (fC (.str "right")) (faCons (fC (.str "left")) faNil))) (fCallTN 2 _law_draw_F 0 (faCons (fC (.int 2)) faNil))) (fC (.str "any")) (eR ns t most (.dat (.int m)) x3 x4 x5 x6) = some (.dat (.str s.s), eR ns t' most (.dat (.int m)) x3 x4 x5 x6) := by
  obtain ⟨r1, t1, e1, a1, a2, a3⟩ := draw_at (env := eR ns t most (.dat (.int m)) x3 x4 x5 x6) (env1 := eR ns t most (.dat (.int m)) x3 x4 x5 x6) (i := 0) (ns := ns) (t := t) (fa := fName 2) (m := m) rfl rfl rfl ht hm hm2
  have q1 : fB (fBin opGt (fCallTN 2 _law_draw_F 0 (faCons (fName 2) faNil)) (fC (.int 0))) (eR ns t most (.dat (.int m)) x3 x4 x5 x6) = some (decide (0 < r1), eR ns t1 most (.dat (.int m)) x3 x4 x5 x6) := ev_B (ev_bind e1 rfl rfl)
  obtain ⟨r2, t2, e2, b1, b2, b3⟩ := draw_at (env := eR ns t1 most (.dat (.int m)) x3 x4 x5 x6) (env1 := eR ns t1 most (.dat (.int m)) x3 x4 x5 x6) (i := 0) (ns := ns) (t := t1) (fa := fC (.int 2)) (m := 2) rfl rfl rfl a3 (by decide) (by decide)
  have q2 : fLst (faCons (fC (.str "right")) (faCons (fC (.str "left")) faNil)) (eR ns t1 most (.dat (.int m)) x3 x4 x5 x6) = some (.new [.str "right", .str "left"], eR ns t1 most (.dat (.int m)) x3 x4 x5 x6) := by kernel_rfl
  by_cases hr : 0 < r1
  · have hr2 : r2 = 0 ∨ r2 = 1 := by omega
    rcases hr2 with rfl | rfl
    · exact ⟨.right, t2, b3, ev_ifE q1 (fun _ => ev_bin q2 e2 rfl rfl (by kernel_rfl)) fun z => by rw [decide_eq_true hr] at z; cases z⟩
    · exact ⟨.left, t2, b3, ev_ifE q1 (fun _ => ev_bin q2 e2 rfl rfl (by kernel_rfl)) fun z => by rw [decide_eq_true hr] at z; cases z⟩
  · exact ⟨.any, t1, a3, ev_ifE q1 (fun z => by rw [decide_eq_false hr] at z; cases z) fun _ => rfl⟩
theorem row_count (ns : List Int) (t : Int × Int) (most : Int) (x2 x3 x4 x5 x6 : Sl) (ht : 0 ≤ t.1) : ∃ (n : Int) (t' : Int × Int), 0 ≤ t'.1 ∧ 1 ≤ n ∧ n ≤ 999 ∧
    fBin opAdd (fC (.int 1)) (fCallTN 2 _law_draw_F 0 (faCons (fBin opIx (fLst (faCons (fC (.int 2)) (faCons (fC (.int 6)) (faCons (fC (.int 999)) faNil)))) (fCallTN 2 _law_draw_F 0 (faCons (fC (.int 3)) faNil))) faNil)) (eR ns t most x2 x3 x4 x5 x6) = some (.dat (.int n), eR ns t' most x2 x3 x4 x5 x6) := by
  obtain ⟨r1, t1, e1, a1, a2, a3⟩ := draw_at (env := eR ns t most x2 x3 x4 x5 x6) (env1 := eR ns t most x2 x3 x4 x5 x6) (i := 0) (ns := ns) (t := t) (fa := fC (.int 3)) (m := 3) rfl rfl rfl ht (by decide) (by decide)
  have q2 : fLst (faCons (fC (.int 2)) (faCons (fC (.int 6)) (faCons (fC (.int 999)) faNil))) (eR ns t most x2 x3 x4 x5 x6) = some (.new [.int 2, .int 6, .int 999], eR ns t most x2 x3 x4 x5 x6) := by kernel_rfl
  have fin : ∀ k : Int, 0 < k → k ≤ 999 → opIx (.list [.int 2, .int 6, .int 999]) (.int r1) = some (.dat (.int k)) → ∃ (n : Int) (t' : Int × Int), 0 ≤ t'.1 ∧ 1 ≤ n ∧ n ≤ 999 ∧
    fBin opAdd (fC (.int 1)) (fCallTN 2 _law_draw_F 0 (faCons (fBin opIx (fLst (faCons (fC (.int 2)) (faCons (fC (.int 6)) (faCons (fC (.int 999)) faNil)))) (fCallTN 2 _law_draw_F 0 (faCons (fC (.int 3)) faNil))) faNil)) (eR ns t most x2 x3 x4 x5 x6) = some (.dat (.int n), eR ns t' most x2 x3 x4 x5 x6) := fun k h1 h2 h3 => by
    have q3 := ev_bin q2 e1 rfl rfl h3
    obtain ⟨r2, t2, e2, b1, b2, b3⟩ := draw_at (i := 0) (ns := ns) (t := t1) (c' := true) (c := true) (ts := tp ns t) (m := k) rfl q3 rfl a3 h1 (by omega)
    refine ⟨1 + r2, t2, b3, by omega, by omega, ?_⟩
    exact ev_bind (e1 := eR ns t most x2 x3 x4 x5 x6) rfl e2 rfl
  have hr : r1 = 0 ∨ r1 = 1 ∨ r1 = 2 := by omega
  rcases hr with rfl | rfl | rfl
  · exact fin 2 (by decide) (by decide) (by kernel_rfl)
  · exact fin 6 (by decide) (by decide) (by kernel_rfl)
  · exact fin 999 (by decide) (by decide) (by kernel_rfl)
/-- parts as the laws draw them -/
structure Good (ps : List Pt) (k : Nat) : Prop where
  len : ps.length ≤ k
  pos : ∀ p ∈ ps, 1 ≤ p.2 ∧ p.2 ≤ 999
theorem small_line {n : Nat} (h : n ≤ 1000) : n ≤ sizeLine := Nat.le_trans h (by decide)
theorem row_step (ns : List Int) (t : Int × Int) (most m : Int) (ps : List Pt) (k : PyData) (ht : 0 ≤ t.1) (hm : 0 < m) (hm2 : m < 2 ^ 64) (hl : ps.length < 1000) : ∃ (p : Pt) (t' : Int × Int), 0 ≤ t'.1 ∧ 1 ≤ p.2 ∧ p.2 ≤ 999 ∧
    b1__law_rowss k (eR ns t most (.dat (.int m)) (.dat (dPs ps)) .dead .dead .dead) = some (.nx (eR ns t' most (.dat (.int m)) (.dat (dPs (ps ++ [p]))) .dead .dead .dead)) := by
  obtain ⟨s, t1, a1, e1⟩ := row_side ns t most m (.dat (dPs ps)) (.dat k) .dead .dead ht hm hm2
  obtain ⟨n, t2, b1, b2, b3, e2⟩ := row_count ns t1 most (.dat (.int m)) (.dat (dPs ps)) (.dat k) (.dat (.str s.s)) .dead a1
  refine ⟨(s, n), t2, b1, b2, b3, ?_⟩
  refine step_nx (e1 := eR ns t most (.dat (.int m)) (.dat (dPs ps)) (.dat k) .dead .dead) (e2 := eR ns t2 most (.dat (.int m)) (.dat (dPs (ps ++ [(s, n)]))) (.dat k) (.dat (.str s.s)) (.dat (.int n))) rfl ?_
  refine (es_seq (es_name e1 (by show 5 < 7; decide))).trans ?_
  refine (es_seq (es_name e2 (by show 6 < 7; decide))).trans ?_
  have q1 : fTup (faCons (fTup (faCons (fName 5) (faCons (fName 6) faNil))) faNil) (eR ns t2 most (.dat (.int m)) (.dat (dPs ps)) (.dat k) (.dat (.str s.s)) (.dat (.int n))) = some (.dat (.tuple [dP (s, n)]), eR ns t2 most (.dat (.int m)) (.dat (dPs ps)) (.dat k) (.dat (.str s.s)) (.dat (.int n))) := by kernel_rfl
  have q2 : opAdd (dPs ps) (.tuple [dP (s, n)]) = some (.dat (dPs (ps ++ [(s, n)]))) := by
    have e : dPs (ps ++ [(s, n)]) = .tuple (ps.map dP ++ [dP (s, n)]) := by
      unfold dPs
      rw [List.map_append]
      rfl
    rw [e]
    exact if_pos (small_line (by rw [List.length_map]; show ps.length + 1 ≤ 1000; omega))
  refine (es_name (i := 3) (ev_bind (x := dPs ps) (fa := fName 3) (e1 := eR ns t2 most (.dat (.int m)) (.dat (dPs ps)) (.dat k) (.dat (.str s.s)) (.dat (.int n))) rfl q1 q2) (by show 3 < 7; decide)).trans ?_
  rfl
theorem rangeD_len (lo : Int) (n : Nat) : (rangeD lo n).length = n := by simp [rangeD]
theorem rows_eq (ns : List Int) (t : Int × Int) (most : Int) (ht : 0 ≤ t.1) (h0 : 0 ≤ most) (h1 : most ≤ 999) : ∃ (ps : List Pt) (t' : Int × Int), _law_rows_F (tp ns t) [.int most] = some (.dat (dPs ps), tp ns t') ∧ 0 ≤ t'.1 ∧ Good ps most.toNat := by
  obtain ⟨r1, t1, e1, a1, a2, a3⟩ := draw_at (env := eR ns t most .dead .dead .dead .dead .dead) (env1 := eR ns t most .dead .dead .dead .dead .dead) (i := 0) (ns := ns) (t := t) (fa := fC (.int 4)) (m := 4) rfl rfl rfl ht (by decide) (by decide)
  have q1 : fBin opAdd (fC (.int 1)) (fCallTN 2 _law_draw_F 0 (faCons (fC (.int 4)) faNil)) (eR ns t most .dead .dead .dead .dead .dead) = some (.dat (.int (1 + r1)), eR ns t1 most .dead .dead .dead .dead .dead) := ev_bind rfl e1 rfl
  have q2 : fBin opAdd (fName 1) (fC (.int 1)) (eR ns t1 most (.dat (.int (1 + r1))) (.dat (dPs [])) .dead .dead .dead) = some (.dat (.int (most + 1)), eR ns t1 most (.dat (.int (1 + r1))) (.dat (dPs [])) .dead .dead .dead) := by kernel_rfl
  obtain ⟨r2, t2, e2, b1, b2, b3⟩ := draw_at (i := 0) (ns := ns) (t := t1) (c' := true) (c := true) (ts := tp ns t1) (m := most + 1) rfl q2 rfl a3 (by omega) (by omega)
  have sm : smallI r2 = true := by
    unfold smallI
    rw [Bool.and_eq_true, decide_eq_true_eq, decide_eq_true_eq]
    omega
  have q3 : fiRange1 (fCallTN 2 _law_draw_F 0 (faCons (fBin opAdd (fName 1) (fC (.int 1))) faNil)) (eR ns t1 most (.dat (.int (1 + r1))) (.dat (dPs [])) .dead .dead .dead) = some (rangeD 0 r2.toNat, eR ns t2 most (.dat (.int (1 + r1))) (.dat (dPs [])) .dead .dead .dead) := by
    unfold fiRange1
    rw [e2, Option.bind_some]
    exact if_pos sm
  obtain ⟨e, f1, ps, t3, f2, f3, f4⟩ := for_inv (bd := b1__law_rowss) (fun j env => ∃ (ps : List Pt) (t' : Int × Int), env = eR ns t' most (.dat (.int (1 + r1))) (.dat (dPs ps)) .dead .dead .dead ∧ 0 ≤ t'.1 ∧ (ps.length = j ∧ ∀ p ∈ ps, 1 ≤ p.2 ∧ p.2 ≤ 999)) (rangeD 0 r2.toNat) 0 (eR ns t2 most (.dat (.int (1 + r1))) (.dat (dPs [])) .dead .dead .dead)
    ⟨[], t2, rfl, b3, rfl, fun _ h => by cases h⟩ (fun j x env hx ⟨ps, t', h1', h2, h3, h4⟩ => by
      have hj : j < r2.toNat := by
        have := (List.getElem?_eq_some_iff.mp hx).1
        rwa [rangeD_len] at this
      obtain ⟨p, t'', c1, c2, c3, c4⟩ := row_step ns t' most (1 + r1) ps x h2 (by omega) (by omega) (by omega)
      refine ⟨_, .inl (by rw [h1']; exact c4), ps ++ [p], t'', rfl, c1, ?_, fun q hq => ?_⟩
      · rw [List.length_append, h3]
        rfl
      · rcases List.mem_append.mp hq with hq | hq
        · exact h4 q hq
        · rw [List.mem_singleton] at hq
          subst hq
          exact ⟨c2, c3⟩)
  subst f2
  rw [rangeD_len] at f4
  refine ⟨ps, t3, ?_, f3, ⟨by rw [f4.1]; omega, f4.2⟩⟩
  refine runT_ret (r1 := .dat (dPs ps)) (e := eR ns t3 most (.dat (.int (1 + r1))) (.dat (dPs ps)) .dead .dead .dead) rfl ?_ rfl rfl
  refine (es_seq (es_par (i := 2) (j := 3) q1 (r2 := .dat (dPs [])) (e2 := eR ns t1 most .dead .dead .dead .dead .dead) (by kernel_rfl) rfl rfl (by show 2 < 7; decide) (by show 3 < 7; decide))).trans ?_
  refine (es_seq ((es_for q3).trans f1)).trans ?_
  rfl

/-! ### counts, places -/
def nbl : List Pt → Int → Int
  | [], _ => 0
  | (s, n) :: r, p => b01 (!fits s p) + nbl r (p + b01 (!fits s p) + n)
def lat : List Pt → Nat → Int → List Int
  | [], _, _ => []
  | (s, n) :: r, i, p => if fits s p = true then lat r (i + 1) (p + b01 (!fits s p) + n) else (i : Int) :: lat r (i + 1) (p + b01 (!fits s p) + n)
def endp : List Pt → Int → Int
  | [], p => p
  | (s, n) :: r, p => endp r (p + b01 (!fits s p) + n)
def sumP (ps : List Pt) : Int := (ps.map (·.2)).sum
theorem lat_of : ∀ (ps : List Pt) (i : Nat) (f p : Int), ((strM ps i f p).filter (·.2.2)).map (fun x => x.2.1) = lat ps i p
  | [], _, _, _ => rfl
  | (s, n) :: r, i, f, p => by
    unfold strM lat
    cases hs : isAny s with
    | true =>
      have e : fits s p = true := by cases s <;> first | rfl | cases hs
      rw [if_pos rfl, if_pos e, lat_of]
    | false =>
      rw [if_neg (by simp)]
      cases hf : fits s p with
      | true =>
        rw [if_pos rfl, List.filter_cons_of_neg (by simp), lat_of]
      | false =>
        rw [if_neg (by simp), List.filter_cons_of_pos (by simp), List.map_cons, lat_of]
theorem lat_len : ∀ (ps : List Pt) (i : Nat) (p : Int), ((lat ps i p).length : Int) = nbl ps p
  | [], _, _ => rfl
  | (s, n) :: r, i, p => by
    unfold lat nbl
    cases hf : fits s p with
    | true =>
      rw [if_pos rfl, lat_len]
      show _ = (0 : Int) + _
      rw [Int.zero_add]
    | false =>
      rw [if_neg (by simp), List.length_cons, Int.natCast_add, lat_len]
      show _ = (1 : Int) + _
      rw [Int.add_comm]
      rfl
theorem needs_late (ps : List Pt) : (needs ps).map (fun x => PyData.int x.2.1) = (lat ps 0 1).map PyData.int := by
  rw [← lat_of ps 0 0 1, List.map_map]
  rfl
theorem few_cnt (ps : List Pt) : fewM ps = nbl ps 1 := by
  rw [← lat_len ps 0 1, ← lat_of ps 0 0 1, List.length_map]
  rfl
theorem endp_eq : ∀ (ps : List Pt) (p : Int), endp ps p = p + sumP ps + nbl ps p
  | [], p => by
    show p = p + 0 + 0
    omega
  | (s, n) :: r, p => by
    show endp r (p + b01 (!fits s p) + n) = p + (n + sumP r) + (b01 (!fits s p) + nbl r (p + b01 (!fits s p) + n))
    rw [endp_eq r]
    omega
theorem cnt_app : ∀ (a b : List Pt) (p : Int), nbl (a ++ b) p = nbl a p + nbl b (endp a p)
  | [], b, p => by
    show nbl b p = 0 + nbl b p
    omega
  | (s, n) :: r, b, p => by
    show b01 (!fits s p) + nbl (r ++ b) _ = b01 (!fits s p) + nbl r _ + nbl b (endp r _)
    rw [cnt_app r b]
    omega
theorem lat_app : ∀ (a b : List Pt) (i : Nat) (p : Int), lat (a ++ b) i p = lat a i p ++ lat b (i + a.length) (endp a p)
  | [], b, i, p => by simp [lat, endp]
  | (s, n) :: r, b, i, p => by
    have ih := lat_app r b (i + 1) (p + b01 (!fits s p) + n)
    have e : i + 1 + r.length = i + (r.length + 1) := by omega
    rw [e] at ih
    show (if fits s p = true then lat (r ++ b) (i + 1) (p + b01 (!fits s p) + n) else (i : Int) :: lat (r ++ b) (i + 1) (p + b01 (!fits s p) + n)) = (if fits s p = true then lat r (i + 1) (p + b01 (!fits s p) + n) else (i : Int) :: lat r (i + 1) (p + b01 (!fits s p) + n)) ++ lat b (i + (r.length + 1)) (endp r (p + b01 (!fits s p) + n))
    split
    · exact ih
    · rw [ih, List.cons_append]
theorem fits_par (s : Sd) {p q : Int} (h : p % 2 = q % 2) : fits s p = fits s q := by
  cases s
  · rfl
  · show decide (p % 2 = 1) = decide (q % 2 = 1)
    rw [h]
  · show decide (p % 2 = 0) = decide (q % 2 = 0)
    rw [h]
theorem cnt_par : ∀ (ps : List Pt) {p q : Int}, p % 2 = q % 2 → nbl ps p = nbl ps q
  | [], _, _, _ => rfl
  | (s, n) :: r, p, q, h => by
    unfold nbl
    rw [fits_par s h, cnt_par r (q := q + b01 (!fits s q) + n) (by omega)]
theorem fits_dec (s : Sd) (p : Int) : isAny s = false → (fits s p = true ∧ ∀ q, q % 2 ≠ p % 2 → fits s q = false) ∨ (fits s p = false ∧ ∀ q, q % 2 ≠ p % 2 → fits s q = true) := by
  intro hs
  cases s
  · cases hs
  · unfold fits
    by_cases h : p % 2 = 1
    · exact .inl ⟨decide_eq_true h, fun q hq => decide_eq_false (by omega)⟩
    · exact .inr ⟨decide_eq_false h, fun q hq => decide_eq_true (by omega)⟩
  · unfold fits
    by_cases h : p % 2 = 0
    · exact .inl ⟨decide_eq_true h, fun q hq => decide_eq_false (by omega)⟩
    · exact .inr ⟨decide_eq_false h, fun q hq => decide_eq_true (by omega)⟩
/-- is a part bound -/
def isB (s : Sd) : Bool := !isAny s
/-- at another parity: one more or one less if a bound part is there -/
theorem cnt_other : ∀ (ps : List Pt) {p q : Int}, p % 2 ≠ q % 2 → if ps.any (fun x => !isAny x.1) = true then (nbl ps p - nbl ps q = 1 ∨ nbl ps p - nbl ps q = -1) else nbl ps p = nbl ps q
  | [], _, _, _ => rfl
  | (s, n) :: r, p, q, h => by
    cases hs : isAny s with
    | true =>
      have e : s = .any := by cases s <;> first | rfl | cases hs
      subst e
      have ih := cnt_other r (p := p + 0 + n) (q := q + 0 + n) (by omega)
      have e1 : nbl ((.any, n) :: r) p = nbl r (p + 0 + n) := by
        show 0 + nbl r (p + 0 + n) = _
        omega
      have e2 : nbl ((.any, n) :: r) q = nbl r (q + 0 + n) := by
        show 0 + nbl r (q + 0 + n) = _
        omega
      rw [e1, e2]
      exact ih
    | false =>
      have ha : ((s, n) :: r).any (fun x => !isAny x.1) = true := by simp [hs]
      rw [if_pos ha]
      unfold nbl
      rcases fits_dec s p hs with ⟨h1, h2⟩ | ⟨h1, h2⟩
      · have h3 := h2 q (fun z => h z.symm)
        rw [h1, h3]
        show (0 : Int) + nbl r (p + 0 + n) - (1 + nbl r (q + 1 + n)) = 1 ∨ (0 : Int) + nbl r (p + 0 + n) - (1 + nbl r (q + 1 + n)) = -1
        rw [cnt_par r (p := p + 0 + n) (q := q + 1 + n) (by omega)]
        omega
      · have h3 := h2 q (fun z => h z.symm)
        rw [h1, h3]
        show (1 : Int) + nbl r (p + 1 + n) - (0 + nbl r (q + 0 + n)) = 1 ∨ (1 : Int) + nbl r (p + 1 + n) - (0 + nbl r (q + 0 + n)) = -1
        rw [cnt_par r (p := p + 1 + n) (q := q + 0 + n) (by omega)]
        omega
theorem cnt_near (ps : List Pt) (p q : Int) : -1 ≤ nbl ps p - nbl ps q ∧ nbl ps p - nbl ps q ≤ 1 := by
  by_cases h : p % 2 = q % 2
  · rw [cnt_par ps h]
    omega
  · have := cnt_other ps h
    split at this <;> omega
theorem lat_any : ∀ (ps : List Pt) (i : Nat) (p : Int), ps.any (fun x => !isAny x.1) = false → lat ps i p = []
  | [], _, _, _ => rfl
  | (s, n) :: r, i, p, h => by
    rw [List.any_cons, Bool.or_eq_false_iff] at h
    have e : s = .any := by cases s <;> first | rfl | (have := h.1; cases this)
    subst e
    exact (if_pos rfl).trans (lat_any r (i + 1) (p + b01 (!fits .any p) + n) h.2)
theorem cnt_lat0 {ps : List Pt} {p : Int} (h : lat ps 0 p = []) : nbl ps p = 0 := by
  rw [← lat_len ps 0 p, h]
  rfl
/-! ### readings at these -/
section
variable {env : DL.Env} {fa fb : FE} {ps qs : List Pt}
theorem add_dPs (ha : fa env = some (.dat (dPs ps), env)) (hb : fb env = some (.dat (dPs qs), env)) (hl : ps.length + qs.length ≤ 1000) : fBin opAdd fa fb env = some (.dat (dPs (ps ++ qs)), env) := by
  refine ev_bind ha hb ?_
  have e : dPs (ps ++ qs) = .tuple (ps.map dP ++ qs.map dP) := by
    unfold dPs
    rw [List.map_append]
  rw [e]
  exact if_pos (small_line (by rw [List.length_map, List.length_map]; exact hl))
theorem at_few (ha : fa env = some (.dat (dPs ps), env)) (hl : ps.length ≤ 1000) : fCallN 1 fewest_blanks_F (faCons fa faNil) env = some (.dat (.int (nbl ps 1)), env) := by
  have h := fewest_blanks_eq ps (small_line hl)
  rw [few_cnt] at h
  exact ev_call (ea_dat ha ea_nil) rfl h
theorem at_late (ha : fa env = some (.dat (dPs ps), env)) (hl : ps.length ≤ 1000) : fCallN 1 late_layout_F (faCons fa faNil) env = some (.dat (.tuple ((lat ps 0 1).map PyData.int)), env) := by
  have h := late_layout_eq ps (small_line hl)
  rw [needs_late] at h
  exact ev_call (ea_dat ha ea_nil) rfl h
end
theorem lay_ints : ∀ xs : List Int, PyData.canLayAll0 (xs.map PyData.int) = true
  | [] => by kernel_rfl
  | x :: r => by
    have e : PyData.canLayAll0 ((x :: r).map PyData.int) = PyData.canLayAll0 (r.map PyData.int) := by kernel_rfl
    rw [e]
    exact lay_ints r
theorem depth_ints : ∀ xs : List Int, PyData.depthAll (xs.map PyData.int) = 0
  | [] => by kernel_rfl
  | x :: r => by
    have e : PyData.depthAll ((x :: r).map PyData.int) = max 0 (PyData.depthAll (r.map PyData.int)) := by kernel_rfl
    rw [e, depth_ints r]
    rfl
theorem shaped_ints (xs : List Int) : SeqAt.shaped (.tuple (xs.map PyData.int)) = true := by
  have e : SeqAt.shaped (.tuple (xs.map PyData.int)) = (PyData.canLayAll0 (xs.map PyData.int) && decide (PyData.depthAll (xs.map PyData.int) + 1 ≤ 64)) := by kernel_rfl
  rw [e, lay_ints, depth_ints]
  rfl
theorem shapedL_ints (xs : List Int) : SeqAt.shaped (.list (xs.map PyData.int)) = true := by
  have e : SeqAt.shaped (.list (xs.map PyData.int)) = (PyData.canLayAll0 (xs.map PyData.int) && decide (PyData.depthAll (xs.map PyData.int) + 1 ≤ 64)) := by kernel_rfl
  rw [e, lay_ints, depth_ints]
  rfl
theorem eqv_ints : ∀ xs ys : List Int, PyData.eqvAll (xs.map PyData.int) (ys.map PyData.int) = decide (xs = ys)
  | [], [] => by kernel_rfl
  | [], y :: r => by kernel_rfl
  | x :: r, [] => by kernel_rfl
  | x :: r, y :: r' => by
    have e : PyData.eqvAll ((x :: r).map PyData.int) ((y :: r').map PyData.int) = (decide (x = y) && PyData.eqvAll (r.map PyData.int) (r'.map PyData.int)) := by kernel_rfl
    rw [e, eqv_ints r r']
    simp
theorem op_ne_ints (xs ys : List Int) : opNe (.tuple (xs.map PyData.int)) (.tuple (ys.map PyData.int)) = some (rb (!decide (xs = ys))) := by
  have e : PyData.eqv (.tuple (xs.map PyData.int)) (.tuple (ys.map PyData.int)) = PyData.eqvAll (xs.map PyData.int) (ys.map PyData.int) := by kernel_rfl
  unfold opNe
  rw [shaped_ints, shaped_ints, e, eqv_ints]
  rfl
theorem op_eq_ints (xs ys : List Int) : opEq (.tuple (xs.map PyData.int)) (.tuple (ys.map PyData.int)) = some (rb (decide (xs = ys))) := by
  have e : PyData.eqv (.tuple (xs.map PyData.int)) (.tuple (ys.map PyData.int)) = PyData.eqvAll (xs.map PyData.int) (ys.map PyData.int) := by kernel_rfl
  unfold opEq
  rw [shaped_ints, shaped_ints, e, eqv_ints]
  rfl
theorem rows_at {env env1 : DL.Env} {i : Nat} {c c' : Bool} {ts : List PyData} {ns : List Int} {t : Int × Int} {fa : FE} {m : Int} (h : env[i]? = some (.own c' ts)) (ha : fa env = some (.dat (.int m), env1)) (h1 : env1[i]? = some (.own c (tp ns t))) (ht : 0 ≤ t.1) (hm : 0 ≤ m) (hm2 : m ≤ 999) :
    ∃ ps t', fCallTN 2 _law_rows_F i (faCons fa faNil) env = some (.dat (dPs ps), env1.set i (.own c (tp ns t'))) ∧ 0 ≤ t'.1 ∧ Good ps m.toNat := by
  obtain ⟨ps, t', e, h2, h3⟩ := rows_eq ns t m ht hm hm2
  exact ⟨ps, t', ev_callT h (ea_dat ha ea_nil) h1 rfl e, h2, h3⟩
/-- a tuple walked, one value a turn -/
theorem fm_map {α : Type} (F : PyData → Option PyData) (d : α → PyData) (m : α → PyData) (h : ∀ x, F (d x) = some (m x)) : ∀ xs : List α, (xs.map d).filterMap F = xs.map m
  | [] => rfl
  | x :: r => by rw [List.map_cons, List.filterMap_cons, h, List.map_cons, fm_map F d m h r]
theorem intsOf_map : ∀ xs : List Int, intsOf (xs.map PyData.int) = some xs
  | [] => rfl
  | x :: r => by
    show (intsOf (r.map PyData.int)).map _ = _
    rw [intsOf_map r]
    rfl
end RP

/-! MP2: .. what the laws share: alike, needed, last page. -/
namespace RP
open PySem PySem.Spec PyProof.Rows L2 DL

theorem eqv_int (i j : Int) : PyData.eqv (.int i) (.int j) = decide (i = j) := by kernel_rfl
/-! ### _law_like of a thing and itself -/
def okD : Nat → PyData → Bool
  | 0, _ => false
  | n + 1, .list xs => decide (xs.length ≤ 100000) && xs.all (okD n)
  | n + 1, .tuple xs => decide (xs.length ≤ 100000) && xs.all (okD n)
  | _ + 1, .int _ => true
  | _ + 1, .bool _ => true
  | _ + 1, .none => true
  | _ + 1, .str s => SeqAt.shaped (.str s) && PyData.eqv (.str s) (.str s)
  | _ + 1, .dict _ => false
theorem like_atom {n : Nat} {d : PyData} (h1 : bIsi ["list", "tuple"] d = some (rb false)) (h2 : SeqAt.shaped d = true) (h3 : PyData.eqv d d = true) (hb : ∃ b, bIsi ["bool"] d = some (rb b)) : _law_like_Fn (n + 1) [d, d] = some (.dat (.bool true)) := by
  obtain ⟨b, hb⟩ := hb
  refine run_ret (r1 := .dat (.bool true)) (e := [.dat d, .dat d, .dead]) rfl ?_ rfl
  have t1 : fB (fUn (bIsi ["list", "tuple"]) (fName 0)) [.dat d, .dat d, .dead] = some (false, [.dat d, .dat d, .dead]) := ev_B (ev_un (r1 := .dat d) (x := d) rfl rfl h1)
  have t2 : fB (fUn (bIsi ["list", "tuple"]) (fName 1)) [.dat d, .dat d, .dead] = some (false, [.dat d, .dat d, .dead]) := ev_B (ev_un (r1 := .dat d) (x := d) rfl rfl h1)
  have t3 : fUn (bIsi ["bool"]) (fName 0) [.dat d, .dat d, .dead] = some (.dat (.bool b), [.dat d, .dat d, .dead]) := ev_un (r1 := .dat d) (x := d) rfl rfl hb
  have t4 : fUn (bIsi ["bool"]) (fName 1) [.dat d, .dat d, .dead] = some (.dat (.bool b), [.dat d, .dat d, .dead]) := ev_un (r1 := .dat d) (x := d) rfl rfl hb
  have t5 : opEq (.bool b) (.bool b) = some (.dat (.bool true)) := by cases b <;> kernel_rfl
  have t6 : opEq d d = some (.dat (.bool true)) := by
    unfold opEq
    rw [h2, h3]
    rfl
  refine (es_seq ((es_ifF t1).trans rfl)).trans ?_
  refine (es_seq ((es_ifF t2).trans rfl)).trans ?_
  exact es_ret (ev_andE (b1 := true) (b2 := true) (ev_B (ev_bind t3 t4 t5)) (fun _ => ev_bind (fa := fName 0) (fb := fName 1) rfl rfl t6) fun z => nomatch z)
theorem ix_nat {xs : List PyData} {k : Nat} {d : PyData} (h : xs[k]? = some d) : L2.atI xs (k : Int) = some d := by
  have hk := (List.getElem?_eq_some_iff.mp h).1
  unfold L2.atI L2.ixN
  rw [if_pos (by omega), if_pos (by omega)]
  exact h
theorem small_len {n : Nat} (h : n ≤ 100000) : smallI (n : Int) = true := by
  unfold smallI
  rw [Bool.and_eq_true, decide_eq_true_eq, decide_eq_true_eq]
  omega
theorem line_len {n : Nat} (h : n ≤ 100000) : n ≤ sizeLine := Nat.le_trans h (by decide)
theorem rangeD_mem {lo : Int} {n : Nat} {x : PyData} (h : x ∈ rangeD lo n) : ∃ k : Nat, k < n ∧ x = .int (lo + (k : Int)) := by
  unfold rangeD at h
  obtain ⟨k, h1, h2⟩ := List.mem_map.mp h
  exact ⟨k, List.mem_range.mp h1, h2.symm⟩
theorem fm_none : ∀ xs : List PyData, xs.filterMap (fun _ => (none : Option PyData)) = []
  | [] => rfl
  | x :: r => by rw [List.filterMap_cons, fm_none r]
theorem like_seq {n : Nat} {d : PyData} {xs : List PyData} (hl : xs.length ≤ 100000) (h1 : bIsi ["list", "tuple"] d = some (rb true)) (hb : ∃ b, bIsi ["list"] d = some (rb b)) (hb2 : ∃ b, bIsi ["tuple"] d = some (rb b)) (hn : bLen d = some (ri xs.length)) (hx : ∀ (k : Nat) e, xs[k]? = some e → opIx d (.int (k : Int)) = some (.dat e))
    (ih : ∀ e ∈ xs, _law_like_Fn n [e, e] = some (.dat (.bool true))) : _law_like_Fn (n + 1) [d, d] = some (.dat (.bool true)) := by
  obtain ⟨b, hb⟩ := hb
  obtain ⟨b2, hb2⟩ := hb2
  refine run_ret (r1 := .dat (.bool true)) (e := [.dat d, .dat d, .dead]) rfl ?_ rfl
  have t1 : fB (fUn (bIsi ["list", "tuple"]) (fName 0)) [.dat d, .dat d, .dead] = some (true, [.dat d, .dat d, .dead]) := ev_B (ev_un (r1 := .dat d) (x := d) rfl rfl h1)
  have t3 : ∀ i, i = 0 ∨ i = 1 → fUn (bIsi ["list"]) (fName i) [.dat d, .dat d, .dead] = some (.dat (.bool b), [.dat d, .dat d, .dead]) := fun i hi => by
    rcases hi with rfl | rfl <;> exact ev_un (r1 := .dat d) (x := d) rfl rfl hb
  have t4 : ∀ i, i = 0 ∨ i = 1 → fUn (bIsi ["tuple"]) (fName i) [.dat d, .dat d, .dead] = some (.dat (.bool b2), [.dat d, .dat d, .dead]) := fun i hi => by
    rcases hi with rfl | rfl <;> exact ev_un (r1 := .dat d) (x := d) rfl rfl hb2
  have t5 : ∀ b, opNe (.bool b) (.bool b) = some (.dat (.bool false)) := fun b => by cases b <;> kernel_rfl
  have t6 : ∀ i, i = 0 ∨ i = 1 → fUn bLen (fName i) [.dat d, .dat d, .dead] = some (.dat (.int (xs.length : Int)), [.dat d, .dat d, .dead]) := fun i hi => by
    rcases hi with rfl | rfl <;> exact ev_un (r1 := .dat d) (x := d) rfl rfl hn
  have t7 := op_ne_int (xs.length : Int) (xs.length : Int)
  rw [decide_eq_true rfl] at t7
  refine es_stop ?_
  refine (es_ifT t1).trans ?_
  refine (es_seq ((es_ifF (ev_or (b1 := false) (b2 := false) (ev_B (ev_bind (t3 0 (.inl rfl)) (t3 1 (.inr rfl)) (t5 b))) (fun _ => ev_B (ev_bind (t4 0 (.inl rfl)) (t4 1 (.inr rfl)) (t5 b2))) fun z => nomatch z)).trans rfl)).trans ?_
  refine (es_seq ((es_ifF (ev_B (ev_bind (t6 0 (.inl rfl)) (t6 1 (.inr rfl)) t7))).trans rfl)).trans ?_
  have it : fiRange1 (fUn bLen (fName 0)) [.dat d, .dat d, .dead] = some (rangeD 0 xs.length, [.dat d, .dat d, .dead]) := by
    unfold fiRange1
    rw [t6 0 (.inl rfl), Option.bind_some]
    exact if_pos (small_len hl)
  have c : fComp [2] (fiRange1 (fUn bLen (fName 0))) (fgName 2) (ftNot (fB (fCallN 2 (_law_like_Fn n) (faCons (fBin opIx (fName 0) (fName 2)) (faCons (fBin opIx (fName 1) (fName 2)) faNil))))) (fName 2) [.dat d, .dat d, .dead] = some (.new ((rangeD 0 xs.length).filterMap fun _ => none), [.dat d, .dat d, .dead]) := by
    refine ev_comp it (by rw [rangeD_len]; exact line_len hl) fun x hx' => ?_
    obtain ⟨k, hk, rfl⟩ := rangeD_mem hx'
    rw [Int.zero_add]
    have he := List.getElem?_eq_getElem hk
    have i1 := hx k _ he
    have q : fCallN 2 (_law_like_Fn n) (faCons (fBin opIx (fName 0) (fName 2)) (faCons (fBin opIx (fName 1) (fName 2)) faNil)) [.dat d, .dat d, .dat (.int (k : Int))] = some (.dat (.bool true), [.dat d, .dat d, .dat (.int (k : Int))]) :=
      ev_call (ea_dat (ev_bind (fa := fName 0) (fb := fName 2) (x := d) (y := .int (k : Int)) (e1 := [.dat d, .dat d, .dat (.int (k : Int))]) (e2 := [.dat d, .dat d, .dat (.int (k : Int))]) rfl rfl i1) (ea_dat (ev_bind (fa := fName 1) (fb := fName 2) (x := d) (y := .int (k : Int)) (e1 := [.dat d, .dat d, .dat (.int (k : Int))]) (e2 := [.dat d, .dat d, .dat (.int (k : Int))]) rfl rfl i1) ea_nil)) rfl (ih _ (List.getElem_mem hk))
    unfold stepC
    show (ftNot _ [.dat d, .dat d, .dat (.int (k : Int))]).bind _ = _
    rw [ev_not (ev_B q)]
    rfl
  rw [fm_none] at c
  exact es_ret (ev_bin c (r2 := .new []) (e2 := [.dat d, .dat d, .dead]) (y := .list []) (by kernel_rfl) rfl rfl (by kernel_rfl))
theorem like_refl : ∀ (n : Nat) (d : PyData), okD n d = true → _law_like_Fn n [d, d] = some (.dat (.bool true))
  | 0, _, h => by cases h
  | n + 1, .list xs, h => by
    have h2 : (decide (xs.length ≤ 100000) && xs.all (okD n)) = true := h
    rw [Bool.and_eq_true, decide_eq_true_eq] at h2
    exact like_seq h2.1 (by kernel_rfl) ⟨true, by kernel_rfl⟩ ⟨false, by kernel_rfl⟩ rfl (fun k e he => by show (L2.atI xs (k : Int)).map Rs.dat = _; rw [ix_nat he]; rfl) fun e he => like_refl n e (List.all_eq_true.mp h2.2 e he)
  | n + 1, .tuple xs, h => by
    have h2 : (decide (xs.length ≤ 100000) && xs.all (okD n)) = true := h
    rw [Bool.and_eq_true, decide_eq_true_eq] at h2
    exact like_seq h2.1 (by kernel_rfl) ⟨false, by kernel_rfl⟩ ⟨true, by kernel_rfl⟩ rfl (fun k e he => by show (L2.atI xs (k : Int)).map Rs.dat = _; rw [ix_nat he]; rfl) fun e he => like_refl n e (List.all_eq_true.mp h2.2 e he)
  | n + 1, .int i, _ => like_atom (by kernel_rfl) (by kernel_rfl) ((eqv_int i i).trans (decide_eq_true rfl)) ⟨false, by kernel_rfl⟩
  | n + 1, .bool b, _ => like_atom (by kernel_rfl) (by kernel_rfl) (by cases b <;> kernel_rfl) ⟨true, by kernel_rfl⟩
  | n + 1, .none, _ => like_atom (by kernel_rfl) (by kernel_rfl) (by kernel_rfl) ⟨false, by kernel_rfl⟩
  | n + 1, .str s, h => by
    have h2 : (SeqAt.shaped (.str s) && PyData.eqv (.str s) (.str s)) = true := h
    rw [Bool.and_eq_true] at h2
    exact like_atom (by kernel_rfl) h2.1 h2.2 ⟨false, by kernel_rfl⟩
  | n + 1, .dict _, h => by cases h
section
variable {env e1 e2 : DL.Env} {fa fb : FE} {d : PyData} {r1 r2 : Rs}
/-- _law_like(a, b), both the same thing -/
theorem at_like (ha : fa env = some (.dat d, e1)) (hb : fb e1 = some (.dat d, e2)) (h : okD 6 d = true) : fCallN 2 _law_like_F (faCons fa (faCons fb faNil)) env = some (.dat (.bool true), e2) :=
  ev_call (ea_dat ha (ea_dat hb ea_nil)) rfl (like_refl 6 d h)
theorem ok_ints (n : Nat) (xs : List Int) (hl : xs.length ≤ 100000) : okD (n + 2) (.tuple (xs.map PyData.int)) = true := by
  show (decide ((xs.map PyData.int).length ≤ 100000) && (xs.map PyData.int).all (okD (n + 1))) = true
  rw [Bool.and_eq_true, decide_eq_true_eq, List.length_map, List.all_eq_true]
  refine ⟨hl, fun x hx => ?_⟩
  obtain ⟨i, _, rfl⟩ := List.mem_map.mp hx
  rfl
theorem okL_ints (n : Nat) (xs : List Int) (hl : xs.length ≤ 100000) : okD (n + 2) (.list (xs.map PyData.int)) = true := ok_ints n xs hl
end

/-! ### _law_fits, _law_needed, last_page -/
theorem law_fits_eq (s : Sd) (p : Int) : _law_fits_F [.str s.s, .int p] = some (.dat (.bool (fits s p))) := by
  have e : ∀ b c : Bool, opEq (.bool b) (.bool c) = some (.dat (.bool (b == c))) := fun b c => by cases b <;> cases c <;> kernel_rfl
  have two : ∀ s : Sd, isAny s = false → _law_fits_F [.str s.s, .int p] = some (.dat (.bool (decide (p % 2 = 1) == PyData.eqv (.str s.s) (.str "right")))) := fun s hs => by
    refine run_ret (r1 := .dat (.bool (decide (p % 2 = 1) == PyData.eqv (.str s.s) (.str "right")))) (e := [.dat (.str s.s), .dat (.int p)]) rfl (es_ret ?_) rfl
    refine ev_orE (b1 := false) (b2 := decide (p % 2 = 1) == PyData.eqv (.str s.s) (.str "right")) (e1 := [.dat (.str s.s), .dat (.int p)]) ?_ (fun _ => ?_) fun z => nomatch z
    · cases s
      · cases hs
      · kernel_rfl
      · kernel_rfl
    · refine ev_bind (x := .bool (decide (p % 2 = 1))) (y := .bool (PyData.eqv (.str s.s) (.str "right"))) (e1 := [.dat (.str s.s), .dat (.int p)]) (by kernel_rfl) ?_ (e _ _)
      cases s
      · cases hs
      · kernel_rfl
      · kernel_rfl
  cases s
  · kernel_rfl
  · rw [two .right rfl]
    have e2 : PyData.eqv (.str Sd.right.s) (.str "right") = true := by kernel_rfl
    rw [e2]
    show some (Rs.dat (.bool (decide (p % 2 = 1) == true))) = some (Rs.dat (.bool (decide (p % 2 = 1))))
    cases decide (p % 2 = 1) <;> rfl
  · rw [two .left rfl]
    have e2 : PyData.eqv (.str Sd.left.s) (.str "right") = false := by kernel_rfl
    rw [e2]
    show some (Rs.dat (.bool (decide (p % 2 = 1) == false))) = some (Rs.dat (.bool (decide (p % 2 = 0))))
    by_cases h : p % 2 = 0
    · rw [decide_eq_true h, decide_eq_false (show ¬ p % 2 = 1 by omega)]
      rfl
    · rw [decide_eq_false h, decide_eq_true (show p % 2 = 1 by omega)]
      rfl
abbrev eN (D : PyData) (acc : List PyData) (p : Int) (x3 x4 : Sl) : DL.Env := [.dat D, .own false acc, .dat (.int p), x3, x4]
theorem need_step (D : PyData) (acc : List PyData) (s : Sd) (n : Int) (i : Nat) (p : Int) (hl : acc.length < sizeLine) :
    b1__law_neededs (.tuple [.int (i : Int), dP (s, n)]) (eN D acc p .dead .dead) = some (.nx (eN D (if fits s p = true then acc else acc ++ [.int (i : Int)]) (p + b01 (!fits s p) + n) .dead .dead)) := by
  have t1 : fB (fCallN 2 _law_fits_F (faCons (fBin opIx (fName 4) (fC (.int 0))) (faCons (fName 2) faNil))) (eN D acc p (.dat (.int (i : Int))) (.dat (dP (s, n)))) = some (fits s p, eN D acc p (.dat (.int (i : Int))) (.dat (dP (s, n)))) :=
    ev_B (ev_call (ea_dat (d := .str s.s) (e1 := eN D acc p (.dat (.int (i : Int))) (.dat (dP (s, n)))) (by kernel_rfl) (ea_dat (d := .int p) (e1 := eN D acc p (.dat (.int (i : Int))) (.dat (dP (s, n)))) (by kernel_rfl) ea_nil)) rfl (law_fits_eq s p))
  cases hf : fits s p with
  | true =>
    rw [hf] at t1
    rw [if_pos rfl]
    refine step_nx (e1 := eN D acc p (.dat (.int (i : Int))) (.dat (dP (s, n)))) (e2 := eN D acc (p + 0 + n) (.dat (.int (i : Int))) (.dat (dP (s, n)))) (by kernel_rfl) ?_
    refine (es_seq ((es_ifF (ev_not t1)).trans rfl)).trans ?_
    rw [Int.add_zero]
    kernel_rfl
  | false =>
    rw [hf] at t1
    rw [if_neg (by simp)]
    refine step_nx (e1 := eN D acc p (.dat (.int (i : Int))) (.dat (dP (s, n)))) (e2 := eN D (acc ++ [.int (i : Int)]) (p + 1 + n) (.dat (.int (i : Int))) (.dat (dP (s, n)))) (by kernel_rfl) ?_
    refine (es_seq (e := eN D (acc ++ [.int (i : Int)]) (p + 1) (.dat (.int (i : Int))) (.dat (dP (s, n)))) ((es_ifT (ev_not t1)).trans ?_)).trans (by kernel_rfl)
    refine (es_seq (es_app (i := 1) (c := false) (ds0 := acc) (c' := false) (ds := acc) (d := .int (i : Int)) (e1 := eN D acc p (.dat (.int (i : Int))) (.dat (dP (s, n)))) (r := .dat (.int (i : Int))) rfl (by kernel_rfl) rfl rfl hl)).trans ?_
    kernel_rfl
theorem need_loop (D : PyData) : ∀ (ps : List Pt) (acc : List PyData) (i : Nat) (p : Int), acc.length + ps.length ≤ sizeLine →
    ∃ p', forD b1__law_neededs (enumD i (ps.map dP)) (eN D acc p .dead .dead) = some (.nx (eN D (acc ++ (lat ps i p).map PyData.int) p' .dead .dead))
  | [], acc, i, p, _ => ⟨p, by
    show some (Out.nx (eN D acc p .dead .dead)) = _
    simp [lat]⟩
  | (s, n) :: r, acc, i, p, hl => by
    rw [List.length_cons] at hl
    have st := need_step D acc s n i p (by omega)
    cases hf : fits s p with
    | true =>
      rw [hf, if_pos rfl] at st
      obtain ⟨p', h⟩ := need_loop D r acc (i + 1) (p + b01 (!true) + n) (by omega)
      refine ⟨p', (for_cons st).trans ?_⟩
      have e : lat ((s, n) :: r) i p = lat r (i + 1) (p + b01 (!true) + n) := by
        show (if fits s p = true then lat r (i + 1) (p + b01 (!fits s p) + n) else (i : Int) :: lat r (i + 1) (p + b01 (!fits s p) + n)) = _
        rw [hf]
        exact if_pos rfl
      rw [e]
      exact h
    | false =>
      rw [hf, if_neg (by simp)] at st
      obtain ⟨p', h⟩ := need_loop D r (acc ++ [.int (i : Int)]) (i + 1) (p + b01 (!false) + n) (by rw [List.length_append, List.length_cons, List.length_nil]; omega)
      refine ⟨p', (for_cons st).trans ?_⟩
      have e : lat ((s, n) :: r) i p = (i : Int) :: lat r (i + 1) (p + b01 (!false) + n) := by
        show (if fits s p = true then lat r (i + 1) (p + b01 (!fits s p) + n) else (i : Int) :: lat r (i + 1) (p + b01 (!fits s p) + n)) = _
        rw [hf]
        exact if_neg (by simp)
      rw [e, h]
      simp
theorem law_needed_eq (ps : List Pt) (hl : ps.length ≤ sizeLine) : _law_needed_F [dPs ps] = some (.new ((lat ps 0 1).map PyData.int)) := by
  obtain ⟨p', h⟩ := need_loop (dPs ps) ps [] 0 1 (by simpa using hl)
  refine run_ret (e := eN (dPs ps) ((lat ps 0 1).map PyData.int) p' .dead .dead) (r1 := .own 1) rfl ?_ rfl
  refine (es_seq (e := eN (dPs ps) [] 1 .dead .dead) (by kernel_rfl)).trans ?_
  refine (es_seq (e := eN (dPs ps) ((lat ps 0 1).map PyData.int) p' .dead .dead) ?_).trans (by kernel_rfl)
  refine (es_for (e := eN (dPs ps) [] 1 .dead .dead) (xs := enumD 0 (ps.map dP)) (by kernel_rfl)).trans ?_
  exact h
theorem at_need {env : DL.Env} {fa : FE} {ps : List Pt} (ha : fa env = some (.dat (dPs ps), env)) (hl : ps.length ≤ 1000) : fCallN 1 _law_needed_F (faCons fa faNil) env = some (.new ((lat ps 0 1).map PyData.int), env) := ev_call (ea_dat ha ea_nil) rfl (law_needed_eq ps (small_line hl))
def f2nd : PyData → Option PyData
  | .tuple [_, n] => some n
  | _ => none
theorem pages_fm (ps : List Pt) : (ps.map dP).filterMap f2nd = (ps.map (·.2)).map PyData.int := by
  rw [fm_map f2nd dP (fun p => .int p.2) (fun x => rfl), List.map_map]
  rfl
theorem last_page_eq (ps : List Pt) (ys : List PyData) (hl : ps.length ≤ sizeLine) : last_page_F [dPs ps, .tuple ys] = some (.dat (.int (sumP ps + (ys.length : Int)))) := by
  have c : fUn bSum (fComp [2, 3] (fiSeq (fName 0)) (fgTup (fgCons (fgName 2) (fgCons (fgName 3) fgNil))) ftYes (fName 3)) [.dat (dPs ps), .dat (.tuple ys), .dead, .dead] = some (.dat (.int (sumP ps)), [.dat (dPs ps), .dat (.tuple ys), .dead, .dead]) := by
    refine ev_un (ev_comp (f := f2nd) (xs := ps.map dP) (e := [.dat (dPs ps), .dat (.tuple ys), .dead, .dead]) (by kernel_rfl) (by rw [List.length_map]; exact hl) fun x hx => ?_) rfl ?_
    · obtain ⟨⟨s, n⟩, _, rfl⟩ := List.mem_map.mp hx
      kernel_rfl
    · rw [pages_fm]
      show (intsOf _).map _ = _
      rw [intsOf_map]
      rfl
  exact run_ret (r1 := .dat (.int (sumP ps + (ys.length : Int)))) (e := [.dat (dPs ps), .dat (.tuple ys), .dead, .dead]) rfl (es_ret (ev_bind c (y := .int (ys.length : Int)) (by kernel_rfl) rfl)) rfl
theorem needs_early (ps : List Pt) : ∃ ys : List Int, early_layout_F [dPs ps] = early_layout_F [dPs ps] ∧ (needs ps).map (fun x => PyData.int x.1) = ys.map PyData.int ∧ (ys.length : Int) = nbl ps 1 := by
  refine ⟨(needs ps).map (fun x => x.1), rfl, by rw [List.map_map]; rfl, ?_⟩
  rw [List.length_map]
  exact few_cnt ps
end RP

/-! MP3: slices, one part made longer. -/
namespace RP
open PySem PySem.Spec PyProof.Rows L2 DL

theorem cut_to (xs : List PyData) (k : Nat) (h : k ≤ xs.length) : DL.cutD xs none (some (k : Int)) = xs.take k := by
  unfold DL.cutD
  rw [HT.sIx_none, HT.sIx_nat, List.drop_zero, Nat.sub_zero, Nat.min_eq_left h]
theorem cut_from (xs : List PyData) (k : Nat) (h : k ≤ xs.length) : DL.cutD xs (some (k : Int)) none = xs.drop k := by
  unfold DL.cutD
  rw [HT.sIx_none, HT.sIx_nat, Nat.min_eq_left h]
  exact List.take_of_length_le (by rw [List.length_drop]; exact Nat.le_refl _)
section
variable {env : DL.Env} {fa fb fc : FE} {P R : List Pt} {p : Pt} {k : Nat}
theorem ev_to (ha : fa env = some (.dat (dPs (P ++ R)), env)) (hb : fb env = some (.dat (.int (P.length : Int)), env)) : fCut fa foNone (foSome fb) env = some (.dat (dPs P), env) := by
  unfold fCut foSome
  rw [ha, Option.bind_some]
  show ((fb env).bind _).bind _ = _
  rw [hb]
  show some (Rs.dat (.tuple (DL.cutD ((P ++ R).map dP) none (some (P.length : Int)))), env) = _
  rw [cut_to _ _ (by rw [List.length_map, List.length_append]; omega), List.map_append, List.take_left' (by rw [List.length_map])]
theorem ev_from (ha : fa env = some (.dat (dPs (P ++ R)), env)) (hb : fb env = some (.dat (.int (P.length : Int)), env)) : fCut fa (foSome fb) foNone env = some (.dat (dPs R), env) := by
  unfold fCut foSome
  rw [ha, Option.bind_some]
  show ((fb env).bind _).bind _ = _
  rw [hb]
  show some (Rs.dat (.tuple (DL.cutD ((P ++ R).map dP) (some (P.length : Int)) none)), env) = _
  rw [cut_from _ _ (by rw [List.length_map, List.length_append]; omega), List.map_append, List.drop_left' (by rw [List.length_map])]
theorem ev_ix (ha : fa env = some (.dat (dPs (P ++ p :: R)), env)) (hb : fb env = some (.dat (.int (P.length : Int)), env)) : fBin opIx fa fb env = some (.dat (dP p), env) := by
  refine ev_bind ha hb ?_
  have e : ((P ++ p :: R).map dP)[P.length]? = some (dP p) := by
    rw [List.getElem?_map, List.getElem?_append_right (Nat.le_refl _), Nat.sub_self]
    rfl
  show (L2.atI ((P ++ p :: R).map dP) (P.length : Int)).map Rs.dat = _
  rw [ix_nat e]
  rfl
/-- parts[:i] + (q,) + parts[i + 1:] -/
theorem ev_swap {q : Pt} {fi fq : FE} (ha : fa env = some (.dat (dPs (P ++ p :: R)), env)) (hb : fi env = some (.dat (.int (P.length : Int)), env)) (hq : fq env = some (.dat (.tuple [dP q]), env)) (hl : (P ++ p :: R).length ≤ 1000) :
    fBin opAdd (fBin opAdd (fCut fa foNone (foSome fi)) fq) (fCut fa (foSome (fBin opAdd fi (fC (.int 1)))) foNone) env = some (.dat (dPs (P ++ q :: R)), env) := by
  rw [List.length_append, List.length_cons] at hl
  have h1 : fBin opAdd fi (fC (.int 1)) env = some (.dat (.int ((P ++ [p]).length : Int)), env) := by
    rw [List.length_append]
    exact ev_bind hb rfl rfl
  have h2 := add_dPs (fb := fq) (ev_to ha hb) (qs := [q]) hq (by show P.length + 1 ≤ 1000; omega)
  have h3 : fa env = some (.dat (dPs ((P ++ [p]) ++ R)), env) := by
    rw [List.append_assoc]
    exact ha
  have h4 := add_dPs h2 (ev_from h3 h1) (by rw [List.length_append]; show P.length + 1 + R.length ≤ 1000; omega)
  rw [List.append_assoc] at h4
  exact h4
end
theorem lat_par : ∀ (ps : List Pt) (i : Nat) {p q : Int}, p % 2 = q % 2 → lat ps i p = lat ps i q
  | [], _, _, _, _ => rfl
  | (s, n) :: r, i, p, q, h => by
    unfold lat
    rw [fits_par s h, lat_par r (i + 1) (q := q + b01 (!fits s q) + n) (by omega)]
/-- the parts ahead, the part, those behind -/
theorem nbl_at (P R : List Pt) (s : Sd) (n : Int) (p : Int) : nbl (P ++ (s, n) :: R) p = nbl P p + b01 (!fits s (endp P p)) + nbl R (endp P p + b01 (!fits s (endp P p)) + n) := by
  rw [cnt_app]
  show _ + (_ + _) = _
  omega
theorem lat_at (P R : List Pt) (s : Sd) (n : Int) (i : Nat) (p : Int) : lat (P ++ (s, n) :: R) i p = lat P i p ++ ((if fits s (endp P p) = true then [] else [((i + P.length : Nat) : Int)]) ++ lat R (i + P.length + 1) (endp P p + b01 (!fits s (endp P p)) + n)) := by
  rw [lat_app]
  congr 1
  show (if fits s (endp P p) = true then _ else _) = _
  split
  · rfl
  · rfl
theorem page_effect_eq (P R : List Pt) (s : Sd) (n : Int) (hl : (P ++ (s, n) :: R).length ≤ 1000) : page_effect_F [dPs (P ++ (s, n) :: R), .int (P.length : Int)] = some (.dat (.int (nbl (P ++ (s, n + 1) :: R) 1 - nbl (P ++ (s, n) :: R) 1))) := by
  have hl2 : (P ++ (s, n + 1) :: R).length ≤ 1000 := by
    rw [List.length_append, List.length_cons] at hl ⊢
    exact hl
  let E0 : DL.Env := [.dat (dPs (P ++ (s, n) :: R)), .dat (.int (P.length : Int)), .dead, .dead, .dead]
  let E1 : DL.Env := [.dat (dPs (P ++ (s, n) :: R)), .dat (.int (P.length : Int)), .dat (.str s.s), .dat (.int n), .dead]
  let E2 : DL.Env := [.dat (dPs (P ++ (s, n) :: R)), .dat (.int (P.length : Int)), .dat (.str s.s), .dat (.int n), .dat (dPs (P ++ (s, n + 1) :: R))]
  refine run_ret (r1 := .dat (.int (nbl (P ++ (s, n + 1) :: R) 1 - nbl (P ++ (s, n) :: R) 1))) (e := E2) rfl ?_ rfl
  have h1 : fBin opIx (fName 0) (fName 1) E0 = some (.dat (dP (s, n)), E0) := ev_ix rfl rfl
  refine (es_seq (e := E1) ?_).trans ?_
  · unfold fsAsg
    rw [show fBin opIx (fName 0) (fName 1) ([dPs (P ++ (s, n) :: R), .int (P.length : Int)].map Sl.dat ++ List.replicate (5 - 2) .dead) = some (.dat (dP (s, n)), E0) from h1]
    rfl
  have h2 : fBin opAdd (fBin opAdd (fCut (fName 0) foNone (foSome (fName 1))) (fTup (faCons (fTup (faCons (fName 2) (faCons (fBin opAdd (fName 3) (fC (.int 1))) faNil))) faNil))) (fCut (fName 0) (foSome (fBin opAdd (fName 1) (fC (.int 1)))) foNone) E1 = some (.dat (dPs (P ++ (s, n + 1) :: R)), E1) :=
    ev_swap (fa := fName 0) (fi := fName 1) rfl rfl (by kernel_rfl) hl
  refine (es_seq (e := E2) ((es_name (i := 4) h2 (by show 4 < 5; decide)).trans rfl)).trans ?_
  exact es_ret (ev_bind (at_few (fa := fName 4) (ps := P ++ (s, n + 1) :: R) rfl hl2) (at_few (fa := fName 0) (ps := P ++ (s, n) :: R) rfl hl) rfl)
end RP

/-! MP4: layouts: which values are layouts, how many. -/
namespace RP
open PySem PySem.Spec PyProof.Rows L2 DL

/-! ### x in a row of ints -/
theorem flat_ints : ∀ L : List Int, (L.map PyData.int).all flatD = true
  | [] => rfl
  | _ :: r => flat_ints r
theorem inD_ints (i : Int) : ∀ L : List Int, inD (.int i) (L.map PyData.int) = decide (i ∈ L)
  | [] => rfl
  | x :: r => by
    have e : inD (.int i) ((x :: r).map PyData.int) = (PyData.eqv (.int x) (.int i) || inD (.int i) (r.map PyData.int)) := rfl
    rw [e, eqv_int, inD_ints i r]
    by_cases h : x = i
    · subst h
      simp
    · rw [decide_eq_false h, Bool.false_or]
      have h2 : i ≠ x := fun z => h z.symm
      simp [h2]
theorem op_in_tup (i : Int) (L : List Int) : opIn (.int i) (.tuple (L.map PyData.int)) = some (rb (decide (i ∈ L))) := by
  show (if (true && (L.map PyData.int).all flatD) = true then some (rb (inD (.int i) (L.map PyData.int))) else none) = _
  rw [flat_ints, inD_ints]
  rfl
theorem op_in_lst (i : Int) (L : List Int) : opIn (.int i) (.list (L.map PyData.int)) = some (rb (decide (i ∈ L))) := by
  show (if (true && (L.map PyData.int).all flatD) = true then some (rb (inD (.int i) (L.map PyData.int))) else _) = _
  rw [flat_ints, inD_ints]
  rfl
/-! ### first pages -/
def stM : List Pt → List Int → Nat → Int → List Int
  | [], _, _, _ => []
  | (_, n) :: r, L, i, p => (p + b01 (decide ((i : Int) ∈ L))) :: stM r L (i + 1) (p + b01 (decide ((i : Int) ∈ L)) + n)
abbrev eT (D : PyData) (L : List Int) (acc : List PyData) (p : Int) (x4 x5 x6 x7 : Sl) : DL.Env := [.dat D, .dat (.tuple (L.map PyData.int)), .own false acc, .dat (.int p), x4, x5, x6, x7]
theorem st_step (D : PyData) (L : List Int) (acc : List PyData) (s : Sd) (n : Int) (i : Nat) (p : Int) (hl : acc.length < sizeLine) :
    b1_startss (.tuple [.int (i : Int), dP (s, n)]) (eT D L acc p .dead .dead .dead .dead) = some (.nx (eT D L (acc ++ [.int (p + b01 (decide ((i : Int) ∈ L)))]) (p + b01 (decide ((i : Int) ∈ L)) + n) .dead .dead .dead .dead)) := by
  let f := p + b01 (decide ((i : Int) ∈ L))
  let E1 := eT D L acc p (.dat (.int (i : Int))) (.dat (.str s.s)) (.dat (.int n)) .dead
  let E2 := eT D L acc p (.dat (.int (i : Int))) (.dat (.str s.s)) (.dat (.int n)) (.dat (.int f))
  let E3 := eT D L (acc ++ [.int f]) p (.dat (.int (i : Int))) (.dat (.str s.s)) (.dat (.int n)) (.dat (.int f))
  refine step_nx (e1 := E1) (e2 := eT D L (acc ++ [.int f]) (f + n) (.dat (.int (i : Int))) (.dat (.str s.s)) (.dat (.int n)) (.dat (.int f))) (by kernel_rfl) ?_
  have q1 : fBin opIn (fName 4) (fName 1) E1 = some (.dat (.bool (decide ((i : Int) ∈ L))), E1) := ev_bind rfl rfl (op_in_tup (i : Int) L)
  have q2 : fUn bInt (fBin opIn (fName 4) (fName 1)) E1 = some (.dat (.int (b01 (decide ((i : Int) ∈ L)))), E1) := ev_un q1 rfl rfl
  refine (es_seq (e := E2) ((es_name (i := 7) (ev_bind (op := opAdd) (fa := fName 3) (x := .int p) rfl q2 rfl) (by show 7 < 8; decide)).trans rfl)).trans ?_
  refine (es_seq (e := E3) ((es_app (i := 2) (c := false) (ds0 := acc) (c' := false) (ds := acc) (d := .int f) (e1 := E2) (r := .dat (.int f)) rfl rfl rfl rfl hl).trans rfl)).trans ?_
  kernel_rfl
theorem st_loop (D : PyData) (L : List Int) : ∀ (ps : List Pt) (acc : List PyData) (i : Nat) (p : Int), acc.length + ps.length ≤ sizeLine →
    ∃ p', forD b1_startss (enumD i (ps.map dP)) (eT D L acc p .dead .dead .dead .dead) = some (.nx (eT D L (acc ++ (stM ps L i p).map PyData.int) p' .dead .dead .dead .dead))
  | [], acc, i, p, _ => ⟨p, by
    show some (Out.nx (eT D L acc p .dead .dead .dead .dead)) = _
    simp [stM]⟩
  | (s, n) :: r, acc, i, p, hl => by
    rw [List.length_cons] at hl
    obtain ⟨p', h⟩ := st_loop D L r (acc ++ [.int (p + b01 (decide ((i : Int) ∈ L)))]) (i + 1) (p + b01 (decide ((i : Int) ∈ L)) + n) (by rw [List.length_append, List.length_cons, List.length_nil]; omega)
    refine ⟨p', (for_cons (st_step D L acc s n i p (by omega))).trans ?_⟩
    rw [h]
    simp [stM]
theorem starts_eq (ps : List Pt) (L : List Int) (hl : ps.length ≤ sizeLine) : starts_F [dPs ps, .tuple (L.map PyData.int)] = some (.dat (.tuple ((stM ps L 0 1).map PyData.int))) := by
  obtain ⟨p', h⟩ := st_loop (dPs ps) L ps [] 0 1 (by simpa using hl)
  let E0 := eT (dPs ps) L [] 1 .dead .dead .dead .dead
  let E1 := eT (dPs ps) L ((stM ps L 0 1).map PyData.int) p' .dead .dead .dead .dead
  refine run_ret (e := E1) (r1 := .dat (.tuple ((stM ps L 0 1).map PyData.int))) rfl ?_ rfl
  refine (es_seq (e := [.dat (dPs ps), .dat (.tuple (L.map PyData.int)), .own false [], .dead, .dead, .dead, .dead, .dead]) (by kernel_rfl)).trans ?_
  refine (es_seq (e := E0) (by kernel_rfl)).trans ?_
  refine (es_seq (e := E1) ((es_for (e := E0) (xs := enumD 0 (ps.map dP)) (by kernel_rfl)).trans h)).trans ?_
  exact es_ret (ev_un (r1 := .own 2) (e1 := E1) (x := .list ((stM ps L 0 1).map PyData.int)) rfl rfl rfl)
theorem ev_zip {env e1 e2 e3 e4 : DL.Env} {fa fb : FE} {r1 r2 : Rs} {d1 d2 : PyData} {xs ys : List PyData} (h1 : fa env = some (r1, e1)) (h2 : frz e1 r1 = some (d1, e2)) (h3 : fb e2 = some (r2, e3)) (h4 : frz e3 r2 = some (d2, e4)) (h5 : items d1 = some xs) (h6 : items d2 = some ys) : fiZip fa fb env = some (zipD xs ys, e4) := by
  unfold fiZip
  rw [h1, Option.bind_some, h2, Option.bind_some, h3, Option.bind_some, h4, Option.bind_some, h5, Option.bind_some, h6]
  rfl
theorem ev_seqI {env e1 e2 : DL.Env} {fa : FE} {r1 : Rs} {d1 : PyData} {xs : List PyData} (h1 : fa env = some (r1, e1)) (h2 : frz e1 r1 = some (d1, e2)) (h5 : items d1 = some xs) : fiSeq fa env = some (xs, e2) := by
  unfold fiSeq
  rw [h1, Option.bind_some, h2, Option.bind_some, h5]
  rfl
/-! ### is_integer, is_layout -/
theorem is_int_true {v lo hi : Int} (h1 : lo ≤ v) (h2 : v ≤ hi) : is_integer_F [.int v, .int lo, .int hi] = some (.dat (.bool true)) := by
  let E : DL.Env := [.dat (.int v), .dat (.int lo), .dat (.int hi)]
  have a1 : decide (lo ≤ v) = true := decide_eq_true h1
  have a2 : decide (v ≤ hi) = true := decide_eq_true h2
  have c : fChain opLe opLe (fName 1) (fName 0) (fName 2) E = some (.dat (.bool true), E) :=
    ev_chain (r1 := .dat (.int lo)) (e1 := E) (r2 := .dat (.int v)) (e2 := E) (x := .int lo) (y := .int v) (b := true) rfl rfl rfl rfl (congrArg (fun z => some (rb z)) a1) (r3 := .dat (.int hi)) (e3 := E) (z := .int hi) rfl rfl rfl (congrArg (fun z => some (rb z)) a2)
  have t1 : fB (fUn (bIsi ["int"]) (fName 0)) E = some (true, E) := by kernel_rfl
  have t2 : fB (fOfT (ftNot (fB (fUn (bIsi ["bool"]) (fName 0))))) E = some (true, E) := by kernel_rfl
  exact run_ret (r1 := .dat (.bool true)) (e := E) rfl (es_ret (ev_andE (b1 := true) (b2 := true) t1 (fun _ => ev_andE (b1 := true) (b2 := true) t2 (fun _ => c) fun z => nomatch z) fun z => nomatch z)) rfl
def incr : List Int → Prop
  | a :: b :: r => a < b ∧ incr (b :: r)
  | _ => True
def allfit : List Pt → List Int → Nat → Int → Prop
  | [], _, _, _ => True
  | (s, n) :: r, L, i, p => fits s (p + b01 (decide ((i : Int) ∈ L))) = true ∧ allfit r L (i + 1) (p + b01 (decide ((i : Int) ∈ L)) + n)
theorem bools_true : ∀ xs : List PyData, boolsOf (xs.filterMap fun _ => some (PyData.bool true)) = some (xs.map fun _ => true)
  | [] => rfl
  | x :: r => by
    rw [List.filterMap_cons]
    show (boolsOf (r.filterMap fun _ => some (PyData.bool true))).map _ = _
    rw [bools_true r]
    rfl
theorem all_true (xs : List PyData) : bAll (.list (xs.filterMap fun _ => some (PyData.bool true))) = some (.dat (.bool true)) := by
  show (boolsOf _).map _ = _
  rw [bools_true]
  show some (rb _) = some (rb _)
  congr 2
  rw [List.all_map]
  exact List.all_eq_true.mpr fun _ _ => rfl
/-- all([.. for ..]), each True -/
theorem ev_all {env e : DL.Env} {vs : List Nat} {it : FI} {g : FG} {fe : FE} {xs : List PyData} (h1 : it env = some (xs, e)) (hl : xs.length ≤ sizeLine) (h : ∀ x ∈ xs, stepC vs g ftYes fe x (kill e vs) = some (some (.bool true), kill e vs)) (hb : back e (kill e vs) vs = e) : fUn bAll (fComp vs it g ftYes fe) env = some (.dat (.bool true), e) := by
  have c := ev_comp (f := fun _ => some (PyData.bool true)) (t := ftYes) (g := g) (fe := fe) h1 hl h
  rw [hb] at c
  exact ev_un c rfl (all_true xs)
theorem zip_incr : ∀ L : List Int, incr L → ∀ x ∈ zipD (L.map PyData.int) ((L.map PyData.int).drop 1), ∃ a b : Int, x = .tuple [.int a, .int b] ∧ a < b
  | [], _, x, h => by cases h
  | [a], _, x, h => by cases h
  | a :: b :: r, hi, x, h => by
    have h' : x ∈ PyData.tuple [.int a, .int b] :: zipD ((b :: r).map PyData.int) (r.map PyData.int) := h
    rcases List.mem_cons.mp h' with e | h'
    · exact ⟨a, b, e, hi.1⟩
    · exact zip_incr (b :: r) hi.2 x h'
theorem zipD_len : ∀ xs ys : List PyData, (zipD xs ys).length ≤ xs.length
  | [], _ => Nat.zero_le _
  | _ :: _, [] => Nat.zero_le _
  | _ :: xs, _ :: ys => Nat.succ_le_succ (zipD_len xs ys)
theorem zip_fit : ∀ (ps : List Pt) (L : List Int) (i : Nat) (p : Int), allfit ps L i p → ∀ x ∈ zipD (ps.map dP) ((stM ps L i p).map PyData.int), ∃ s n f, x = .tuple [dP (s, n), .int f] ∧ fits s f = true
  | [], _, _, _, _, x, h => by cases h
  | (s, n) :: r, L, i, p, hf, x, h => by
    have h' : x ∈ PyData.tuple [dP (s, n), .int (p + b01 (decide ((i : Int) ∈ L)))] :: zipD (r.map dP) ((stM r L (i + 1) (p + b01 (decide ((i : Int) ∈ L)) + n)).map PyData.int) := h
    rcases List.mem_cons.mp h' with e | h'
    · exact ⟨s, n, _, e, hf.1⟩
    · exact zip_fit r L (i + 1) _ hf.2 x h'
theorem is_layout_true (ps : List Pt) (L : List Int) (hl : ps.length ≤ 1000) (hL : L.length ≤ 1000) (h1 : ∀ v ∈ L, 0 ≤ v ∧ v ≤ (ps.length : Int) - 1) (h2 : incr L) (h3 : allfit ps L 0 1) : is_layout_F [dPs ps, .tuple (L.map PyData.int)] = some (.dat (.bool true)) := by
  let E : DL.Env := [.dat (dPs ps), .dat (.tuple (L.map PyData.int)), .dead, .dead, .dead, .dead, .dead]
  have t1 : fB (fUn (bIsi ["tuple"]) (fName 1)) E = some (true, E) := by kernel_rfl
  have t2 : fUn bAll (fComp [2] (fiSeq (fName 1)) (fgName 2) ftYes (fCallN 3 is_integer_F (faCons (fName 2) (faCons (fC (.int 0)) (faCons (fBin opSub (fUn bLen (fName 0)) (fC (.int 1))) faNil))))) E = some (.dat (.bool true), E) := by
    refine ev_all (xs := L.map PyData.int) (e := E) (by kernel_rfl) (small_line (by rw [List.length_map]; exact hL)) (fun x hx => ?_) rfl
    obtain ⟨v, hv, rfl⟩ := List.mem_map.mp hx
    let E1 : DL.Env := [.dat (dPs ps), .dat (.tuple (L.map PyData.int)), .dat (.int v), .dead, .dead, .dead, .dead]
    have q1 : fBin opSub (fUn bLen (fName 0)) (fC (.int 1)) E1 = some (.dat (.int ((ps.length : Int) - 1)), E1) := by
      have e : fUn bLen (fName 0) E1 = some (.dat (.int ((ps.map dP).length : Int)), E1) := rfl
      rw [List.length_map] at e
      exact ev_bind e rfl rfl
    have q : fCallN 3 is_integer_F (faCons (fName 2) (faCons (fC (.int 0)) (faCons (fBin opSub (fUn bLen (fName 0)) (fC (.int 1))) faNil))) E1 = some (.dat (.bool true), E1) :=
      ev_call (ea_dat (fa := fName 2) (d := .int v) rfl (ea_dat (fa := fC (.int 0)) (d := .int 0) rfl (ea_dat q1 ea_nil))) rfl (is_int_true (h1 v hv).1 (h1 v hv).2)
    show (fCallN 3 is_integer_F _ E1).bind _ = _
    rw [q]
    rfl
  have t3 : fUn bAll (fComp [3, 4] (fiZip (fName 1) (fCut (fName 1) (foSome (fC (.int 1))) foNone)) (fgTup (fgCons (fgName 3) (fgCons (fgName 4) fgNil))) ftYes (fBin opLt (fName 3) (fName 4))) E = some (.dat (.bool true), E) := by
    have it : fiZip (fName 1) (fCut (fName 1) (foSome (fC (.int 1))) foNone) E = some (zipD (L.map PyData.int) ((L.map PyData.int).drop 1), E) := by
      have c : fCut (fName 1) (foSome (fC (.int 1))) foNone E = some (.dat (.tuple ((L.map PyData.int).drop 1)), E) := by
        have e : fCut (fName 1) (foSome (fC (.int 1))) foNone E = some (.dat (.tuple (DL.cutD (L.map PyData.int) (some 1) none)), E) := by kernel_rfl
        rw [e]
        cases L with
        | nil => rfl
        | cons a r =>
          have := cut_from ((a :: r).map PyData.int) 1 (by rw [List.length_map, List.length_cons]; omega)
          rw [show ((1 : Nat) : Int) = (1 : Int) from rfl] at this
          rw [this]
      exact ev_zip (r1 := .dat (.tuple (L.map PyData.int))) (e1 := E) rfl rfl c rfl rfl rfl
    refine ev_all (e := E) it (Nat.le_trans (zipD_len _ _) (small_line (by rw [List.length_map]; exact hL))) (fun x hx => ?_) rfl
    obtain ⟨a, b, rfl, hab⟩ := zip_incr L h2 x hx
    have e : stepC [3, 4] (fgTup (fgCons (fgName 3) (fgCons (fgName 4) fgNil))) ftYes (fBin opLt (fName 3) (fName 4)) (.tuple [.int a, .int b]) (kill E [3, 4]) = some (some (.bool (decide (a < b))), kill E [3, 4]) := by kernel_rfl
    rw [e, decide_eq_true hab]
  have t4 : fUn bAll (fComp [5, 6] (fiZip (fName 0) (fCallN 2 starts_F (faCons (fName 0) (faCons (fName 1) faNil)))) (fgTup (fgCons (fgName 5) (fgCons (fgName 6) fgNil))) ftYes (fCallN 2 fits_side_F (faCons (fBin opIx (fName 5) (fC (.int 0))) (faCons (fName 6) faNil)))) E = some (.dat (.bool true), E) := by
    have it : fiZip (fName 0) (fCallN 2 starts_F (faCons (fName 0) (faCons (fName 1) faNil))) E = some (zipD (ps.map dP) ((stM ps L 0 1).map PyData.int), E) := by
      have c : fCallN 2 starts_F (faCons (fName 0) (faCons (fName 1) faNil)) E = some (.dat (.tuple ((stM ps L 0 1).map PyData.int)), E) :=
        ev_call (ea_dat (fa := fName 0) (d := dPs ps) rfl (ea_dat (fa := fName 1) (d := .tuple (L.map PyData.int)) rfl ea_nil)) rfl (starts_eq ps L (small_line hl))
      exact ev_zip (r1 := .dat (dPs ps)) (e1 := E) rfl rfl c rfl rfl rfl
    refine ev_all (e := E) it (Nat.le_trans (zipD_len _ _) (small_line (by rw [List.length_map]; exact hl))) (fun x hx => ?_) rfl
    obtain ⟨s, n, f, rfl, hf⟩ := zip_fit ps L 0 1 h3 x hx
    let E1 : DL.Env := [.dat (dPs ps), .dat (.tuple (L.map PyData.int)), .dead, .dead, .dead, .dat (dP (s, n)), .dat (.int f)]
    have q : fCallN 2 fits_side_F (faCons (fBin opIx (fName 5) (fC (.int 0))) (faCons (fName 6) faNil)) E1 = some (.dat (.bool true), E1) := by
      have z := fits_side_eq s f
      rw [hf] at z
      exact ev_call (ea_dat (d := .str s.s) (e1 := E1) (by kernel_rfl) (ea_dat (fa := fName 6) (d := .int f) rfl ea_nil)) rfl z
    show (fCallN 2 fits_side_F _ E1).bind _ = _
    rw [q]
    rfl
  refine run_ret (r1 := .dat (.bool true)) (e := E) rfl ?_ rfl
  refine (es_seq (e := E) ((es_ifF (ev_or (b1 := false) (b2 := false) (ev_not t1) (fun _ => ev_not (ev_B t2)) fun z => nomatch z)).trans rfl)).trans ?_
  refine (es_seq (e := E) ((es_ifF (ev_not (ev_B t3))).trans rfl)).trans ?_
  exact es_ret t4
end RP

/-! MP5: the late and the early layout are layouts; how many layouts. -/
namespace RP
open PySem PySem.Spec PyProof.Rows L2 DL

theorem fits_after (s : Sd) (p : Int) : fits s (p + b01 (!fits s p)) = true := by
  cases s
  · rfl
  · by_cases h : p % 2 = 1
    · have e : fits .right p = true := decide_eq_true h
      rw [e]
      show decide ((p + 0) % 2 = 1) = true
      exact decide_eq_true (by omega)
    · have e : fits .right p = false := decide_eq_false h
      rw [e]
      show decide ((p + 1) % 2 = 1) = true
      exact decide_eq_true (by omega)
  · by_cases h : p % 2 = 0
    · have e : fits .left p = true := decide_eq_true h
      rw [e]
      show decide ((p + 0) % 2 = 0) = true
      exact decide_eq_true (by omega)
    · have e : fits .left p = false := decide_eq_false h
      rw [e]
      show decide ((p + 1) % 2 = 0) = true
      exact decide_eq_true (by omega)
theorem lat_cons (s : Sd) (n : Int) (r : List Pt) (i : Nat) (p : Int) : lat ((s, n) :: r) i p = (if fits s p = true then [] else [(i : Int)]) ++ lat r (i + 1) (p + b01 (!fits s p) + n) := by
  show (if fits s p = true then _ else _) = _
  split <;> rfl
theorem lat_ge : ∀ (ps : List Pt) (i : Nat) (p e : Int), e ∈ lat ps i p → (i : Int) ≤ e ∧ e < (i : Int) + (ps.length : Int)
  | [], _, _, e, h => by cases h
  | (s, n) :: r, i, p, e, h => by
    rw [lat_cons, List.mem_append] at h
    rw [List.length_cons]
    rcases h with h | h
    · split at h
      · cases h
      · rw [List.mem_singleton] at h
        omega
    · have := lat_ge r (i + 1) _ e h
      omega
theorem incr_cons {a : Int} : ∀ {l : List Int}, (∀ x ∈ l, a < x) → incr l → incr (a :: l)
  | [], _, _ => trivial
  | b :: r, h, hi => ⟨h b (List.mem_cons_self ..), hi⟩
theorem lat_incr : ∀ (ps : List Pt) (i : Nat) (p : Int), incr (lat ps i p)
  | [], _, _ => trivial
  | (s, n) :: r, i, p => by
    rw [lat_cons]
    split
    · exact lat_incr r _ _
    · exact incr_cons (fun x hx => by have := (lat_ge r _ _ x hx).1; omega) (lat_incr r _ _)
theorem fit_late : ∀ (ps : List Pt) (L : List Int) (i : Nat) (p : Int), (∀ j : Nat, i ≤ j → ((j : Int) ∈ L ↔ (j : Int) ∈ lat ps i p)) → allfit ps L i p
  | [], _, _, _, _ => trivial
  | (s, n) :: r, L, i, p, h => by
    have hi : decide ((i : Int) ∈ L) = !fits s p := by
      have h1 := h i (Nat.le_refl _)
      rw [lat_cons, List.mem_append] at h1
      have h2 : ¬ (i : Int) ∈ lat r (i + 1) (p + b01 (!fits s p) + n) := fun z => by have := (lat_ge r _ _ _ z).1; omega
      cases hf : fits s p with
      | true =>
        rw [hf] at h1 h2
        exact decide_eq_false fun z => by
          rcases h1.mp z with q | q
          · rw [if_pos rfl] at q; cases q
          · exact h2 q
      | false =>
        rw [hf] at h1
        exact decide_eq_true (h1.mpr (.inl (by rw [if_neg (by simp)]; exact List.mem_singleton_self _)))
    refine ⟨by rw [hi]; exact fits_after s p, ?_⟩
    rw [hi]
    refine fit_late r L (i + 1) _ fun j hj => ?_
    rw [h j (by omega), lat_cons, List.mem_append]
    constructor
    · rintro (q | q)
      · split at q
        · cases q
        · rw [List.mem_singleton] at q; omega
      · exact q
    · exact .inr
theorem late_is (ps : List Pt) (hl : ps.length ≤ 1000) : is_layout_F [dPs ps, .tuple ((lat ps 0 1).map PyData.int)] = some (.dat (.bool true)) := by
  refine is_layout_true ps (lat ps 0 1) hl ?_ (fun v hv => ?_) (lat_incr ps 0 1) (fit_late ps _ 0 1 fun j _ => Iff.rfl)
  · have h1 := strM_len ps 0 0 1
    have h2 := congrArg List.length (lat_of ps 0 0 1)
    rw [List.length_map] at h2
    have h3 := List.length_filter_le (fun x : Int × Int × Bool => x.2.2) (strM ps 0 0 1)
    omega
  · have := lat_ge ps 0 1 v hv
    omega
/-! the early one -/
def eps (ps : List Pt) (i : Nat) (f p : Int) : List Int := ((strM ps i f p).filter (·.2.2)).map (·.1)
def nxt : List Pt → Int → Bool
  | [], _ => false
  | (s, n) :: r, p => if isAny s = true then nxt r (p + b01 (!fits s p) + n) else !fits s p
theorem fits_any {s : Sd} (h : isAny s = true) (p : Int) : fits s p = true := by cases s <;> first | rfl | cases h
theorem eps_any {s : Sd} (h : isAny s = true) (n : Int) (r : List Pt) (i : Nat) (f p : Int) : eps ((s, n) :: r) i f p = eps r (i + 1) f (p + n) := by
  unfold eps
  show List.map _ (List.filter _ (if isAny s = true then _ else _)) = _
  rw [if_pos h, fits_any h]
  show List.map _ (List.filter _ (strM r (i + 1) f (p + 0 + n))) = _
  rw [Int.add_zero]
theorem eps_bound {s : Sd} (h : isAny s = false) (n : Int) (r : List Pt) (i : Nat) (f p : Int) : eps ((s, n) :: r) i f p = (if fits s p = true then [] else [f]) ++ eps r (i + 1) ((i : Int) + 1) (p + b01 (!fits s p) + n) := by
  unfold eps
  show List.map _ (List.filter _ (if isAny s = true then _ else _)) = _
  rw [h, if_neg (by simp)]
  cases hf : fits s p with
  | true => rw [if_pos rfl, List.filter_cons_of_neg (by simp)]; rfl
  | false => rw [if_neg (by simp), List.filter_cons_of_pos (by simp)]; rfl
theorem eps_mem : ∀ (ps : List Pt) (i : Nat) (f p e : Int), e ∈ eps ps i f p → e = f ∨ (i : Int) + 1 ≤ e
  | [], _, _, _, e, h => by cases h
  | (s, n) :: r, i, f, p, e, h => by
    cases hs : isAny s with
    | true =>
      rw [eps_any hs] at h
      rcases eps_mem r _ _ _ e h with q | q
      · exact .inl q
      · exact .inr (by omega)
    | false =>
      rw [eps_bound hs, List.mem_append] at h
      rcases h with h | h
      · split at h
        · cases h
        · exact .inl (List.mem_singleton.mp h)
      · rcases eps_mem r _ _ _ e h with q | q
        · exact .inr (by omega)
        · exact .inr (by omega)
theorem eps_f : ∀ (ps : List Pt) (i : Nat) (f p : Int), f ≤ (i : Int) → (f ∈ eps ps i f p ↔ nxt ps p = true)
  | [], _, _, _, _ => ⟨(fun h => nomatch h), (fun h => nomatch h)⟩
  | (s, n) :: r, i, f, p, hf => by
    cases hs : isAny s with
    | true =>
      rw [eps_any hs]
      have e : nxt ((s, n) :: r) p = nxt r (p + n) := by
        show (if isAny s = true then _ else _) = _
        rw [if_pos hs, fits_any hs]
        show nxt r (p + 0 + n) = _
        rw [Int.add_zero]
      rw [e]
      exact eps_f r (i + 1) f (p + n) (by omega)
    | false =>
      have e : nxt ((s, n) :: r) p = !fits s p := by
        show (if isAny s = true then _ else _) = _
        rw [hs]
        exact if_neg (by simp)
      have no : ∀ q, ¬ f ∈ eps r (i + 1) ((i : Int) + 1) q := fun q z => by
        rcases eps_mem r _ _ _ f z with w | w <;> omega
      rw [eps_bound hs, e, List.mem_append]
      cases hp : fits s p with
      | true =>
        rw [if_pos rfl]
        exact ⟨fun z => z.elim (fun q => by cases q) fun q => absurd q (no _), fun z => by cases z⟩
      | false =>
        rw [if_neg (by simp)]
        exact ⟨fun _ => rfl, fun _ => .inl (List.mem_singleton_self _)⟩
theorem eps_lt : ∀ (ps : List Pt) (i : Nat) (f p e : Int), f ≤ (i : Int) → e ∈ eps ps i f p → e < (i : Int) + (ps.length : Int) ∧ f ≤ e
  | [], _, _, _, e, _, h => by cases h
  | (s, n) :: r, i, f, p, e, hf, h => by
    rw [List.length_cons]
    cases hs : isAny s with
    | true =>
      rw [eps_any hs] at h
      have := eps_lt r (i + 1) f _ e (by omega) h
      omega
    | false =>
      rw [eps_bound hs, List.mem_append] at h
      rcases h with h | h
      · split at h
        · cases h
        · have := List.mem_singleton.mp h
          omega
      · have := eps_lt r (i + 1) ((i : Int) + 1) _ e (by omega) h
        omega
theorem eps_incr : ∀ (ps : List Pt) (i : Nat) (f p : Int), f ≤ (i : Int) → incr (eps ps i f p)
  | [], _, _, _, _ => trivial
  | (s, n) :: r, i, f, p, hf => by
    cases hs : isAny s with
    | true =>
      rw [eps_any hs]
      exact eps_incr r _ _ _ (by omega)
    | false =>
      rw [eps_bound hs]
      split
      · exact eps_incr r _ _ _ (by omega)
      · exact incr_cons (fun x hx => by have := (eps_lt r (i + 1) ((i : Int) + 1) _ x (by omega) hx).2; omega) (eps_incr r _ _ _ (by omega))
theorem fit_early : ∀ (ps : List Pt) (L : List Int) (i : Nat) (f p : Int), f ≤ (i : Int) → (∀ j : Nat, i ≤ j → ((j : Int) ∈ L ↔ (j : Int) ∈ eps ps i f p)) → allfit ps L i (p + (if f < (i : Int) then b01 (nxt ps p) else 0))
  | [], _, _, _, _, _, _ => trivial
  | (s, n) :: r, L, i, f, p, hf, h => by
    -- the page of this part
    have page : p + (if f < (i : Int) then b01 (nxt ((s, n) :: r) p) else 0) + b01 (decide ((i : Int) ∈ L)) = p + b01 (nxt ((s, n) :: r) p) := by
      by_cases hlt : f < (i : Int)
      · rw [if_pos hlt]
        have no : ¬ (i : Int) ∈ L := fun z => by
          rcases eps_mem _ _ _ _ _ ((h i (Nat.le_refl _)).mp z) with w | w <;> omega
        rw [decide_eq_false no]
        show _ + (0 : Int) = _
        omega
      · rw [if_neg hlt]
        have e : f = (i : Int) := by omega
        have h1 := h i (Nat.le_refl _)
        have h2 := eps_f ((s, n) :: r) i f p hf
        rw [e] at h1 h2
        have e2 : decide ((i : Int) ∈ L) = nxt ((s, n) :: r) p := by
          cases hb : nxt ((s, n) :: r) p with
          | true => exact decide_eq_true (h1.mpr (h2.mpr hb))
          | false =>
            refine decide_eq_false fun z => ?_
            have w := h2.mp (h1.mp z)
            rw [hb] at w
            cases w
        rw [e2]
        omega
    cases hs : isAny s with
    | true =>
      have e : nxt ((s, n) :: r) p = nxt r (p + n) := by
        show (if isAny s = true then _ else _) = _
        rw [if_pos hs, fits_any hs]
        show nxt r (p + 0 + n) = _
        rw [Int.add_zero]
      refine ⟨fits_any hs _, ?_⟩
      rw [page, e]
      have ih := fit_early r L (i + 1) f (p + n) (by omega) fun j hj => by
        rw [h j (by omega), eps_any hs]
      rw [if_pos (by omega)] at ih
      rw [show p + b01 (nxt r (p + n)) + n = p + n + b01 (nxt r (p + n)) by omega]
      exact ih
    | false =>
      have e : nxt ((s, n) :: r) p = !fits s p := by
        show (if isAny s = true then _ else _) = _
        rw [hs]
        exact if_neg (by simp)
      refine ⟨by rw [page, e]; exact fits_after s p, ?_⟩
      rw [page, e]
      have ih := fit_early r L (i + 1) ((i : Int) + 1) (p + b01 (!fits s p) + n) (by omega) fun j hj => by
        rw [h j (by omega), eps_bound hs, List.mem_append]
        constructor
        · rintro (q | q)
          · split at q
            · cases q
            · have := List.mem_singleton.mp q
              omega
          · exact q
        · exact .inr
      rw [if_neg (by omega), Int.add_zero] at ih
      exact ih
theorem early_is (ps : List Pt) (hl : ps.length ≤ 1000) : is_layout_F [dPs ps, .tuple ((eps ps 0 0 1).map PyData.int)] = some (.dat (.bool true)) := by
  have fe := fit_early ps (eps ps 0 0 1) 0 0 1 (Int.le_refl 0) fun j _ => Iff.rfl
  rw [if_neg (by omega), Int.add_zero] at fe
  refine is_layout_true ps (eps ps 0 0 1) hl ?_ (fun v hv => ?_) (eps_incr ps 0 0 1 (Int.le_refl 0)) fe
  · have h1 := strM_len ps 0 0 1
    have h3 := List.length_filter_le (fun x : Int × Int × Bool => x.2.2) (strM ps 0 0 1)
    unfold eps
    rw [List.length_map]
    omega
  · have := eps_lt ps 0 0 1 v (Int.le_refl 0) hv
    omega
theorem at_early {env : DL.Env} {fa : FE} {ps : List Pt} (ha : fa env = some (.dat (dPs ps), env)) (hl : ps.length ≤ 1000) : fCallN 1 early_layout_F (faCons fa faNil) env = some (.dat (.tuple ((eps ps 0 0 1).map PyData.int)), env) := by
  have h := early_layout_eq ps (small_line hl)
  have e : (needs ps).map (fun x => PyData.int x.1) = (eps ps 0 0 1).map PyData.int := by
    unfold eps needs
    rw [List.map_map]
    rfl
  rw [e] at h
  exact ev_call (ea_dat ha ea_nil) rfl h
/-! how many -/
def cM : List (Int × Int × Bool) → Int → Int
  | [], t => t
  | (f, i, nd) :: r, t => cM r (if nd = true then t * (i - f + 1) else t)
/-- the stretches one behind another -/
def chain : Int → Nat → List (Int × Int × Bool) → Prop
  | _, _, [] => True
  | f, m, (g, i, _) :: r => g = f ∧ f ≤ i ∧ i < (m : Int) ∧ chain (i + 1) m r
theorem str_chain : ∀ (ps : List Pt) (i : Nat) (f p : Int), f ≤ (i : Int) → chain f (i + ps.length) (strM ps i f p)
  | [], _, _, _, _ => trivial
  | (s, n) :: r, i, f, p, hf => by
    have e : i + ((s, n) :: r).length = i + 1 + r.length := by rw [List.length_cons]; omega
    rw [e]
    show chain f _ (if isAny s = true then _ else _)
    split
    · exact str_chain r (i + 1) f _ (by omega)
    · exact ⟨rfl, hf, by omega, str_chain r (i + 1) _ _ (by omega)⟩
theorem low_small {x : Int} (h0 : -100000 ≤ x) (h1 : x ≤ 100000) : lowI x = true := by
  unfold lowI
  rw [Bool.and_eq_true, decide_eq_true_eq, decide_eq_true_eq]
  omega
abbrev eC (D : PyData) (t : Int) (x2 x3 x4 : Sl) : DL.Env := [.dat D, .dat (.int t), x2, x3, x4]
theorem cnt_loop (D : PyData) : ∀ (S : List (Int × Int × Bool)) (f t : Int) (m : Nat), 0 ≤ f → m ≤ 1000 → chain f m S → forD b1_count_layoutss (S.map dS) (eC D t .dead .dead .dead) = some (.nx (eC D (cM S t) .dead .dead .dead))
  | [], _, _, _, _, _, _ => rfl
  | (g, i, nd) :: r, f, t, m, h0, hm, ⟨e1, e2, e3, e4⟩ => by
    subst e1
    refine (for_cons (e := eC D (if nd = true then t * (i - g + 1) else t) .dead .dead .dead) ?_).trans (cnt_loop D r (i + 1) _ m (by omega) hm e4)
    cases nd with
    | false => kernel_rfl
    | true =>
      rw [if_pos rfl]
      refine step_nx (e1 := eC D t (.dat (.int g)) (.dat (.int i)) (.dat (.bool true))) (e2 := eC D (t * (i - g + 1)) (.dat (.int g)) (.dat (.int i)) (.dat (.bool true))) (by kernel_rfl) ?_
      refine (es_ifT (e := eC D t (.dat (.int g)) (.dat (.int i)) (.dat (.bool true))) rfl).trans ?_
      have low : (lowI t || lowI (i - g + 1)) = true := by rw [low_small (x := i - g + 1) (by omega) (by omega), Bool.or_true]
      have om : opMulI (.int t) (.int (i - g + 1)) = some (.dat (.int (t * (i - g + 1)))) := if_pos low
      unfold fsAug
      show ((fBin opAdd (fBin opSub (fName 3) (fName 2)) (fC (.int 1)) (eC D t (.dat (.int g)) (.dat (.int i)) (.dat (.bool true)))).bind _) = _
      rw [show fBin opAdd (fBin opSub (fName 3) (fName 2)) (fC (.int 1)) (eC D t (.dat (.int g)) (.dat (.int i)) (.dat (.bool true))) = some (.dat (.int (i - g + 1)), eC D t (.dat (.int g)) (.dat (.int i)) (.dat (.bool true))) from rfl, Option.bind_some]
      show ((opMulI (.int t) (.int (i - g + 1))).bind _) = _
      rw [om]
      rfl
theorem count_layouts_eq (ps : List Pt) (hl : ps.length ≤ 1000) : count_layouts_F [dPs ps] = some (.dat (.int (cM (strM ps 0 0 1) 1))) := by
  have ch := str_chain ps 0 0 1 (Int.le_refl 0)
  rw [Nat.zero_add] at ch
  have h := cnt_loop (dPs ps) (strM ps 0 0 1) 0 1 ps.length (Int.le_refl 0) hl ch
  refine run_ret (r1 := .dat (.int (cM (strM ps 0 0 1) 1))) (e := eC (dPs ps) (cM (strM ps 0 0 1) 1) .dead .dead .dead) rfl ?_ rfl
  refine (es_seq (e := eC (dPs ps) 1 .dead .dead .dead) (by kernel_rfl)).trans ?_
  have it : fiSeq (fCallN 1 stretches_F (faCons (fName 0) faNil)) (eC (dPs ps) 1 .dead .dead .dead) = some ((strM ps 0 0 1).map dS, eC (dPs ps) 1 .dead .dead .dead) :=
    ev_seqI (ev_call (ea_dat (fa := fName 0) (d := dPs ps) rfl ea_nil) rfl (stretches_eq ps (small_line hl))) rfl rfl
  refine (es_seq ((es_for (e := eC (dPs ps) 1 .dead .dead .dead) it).trans h)).trans ?_
  exact es_ret rfl
end RP

/-! MP6: all layouts by trial: _law_firsts, _law_good, _law_all. -/
namespace RP
open PySem PySem.Spec PyProof.Rows L2 DL

abbrev eF (D : PyData) (L : List Int) (acc : List PyData) (p : Int) (x4 x5 : Sl) : DL.Env := [.dat D, .dat (.tuple (L.map PyData.int)), .own false acc, .dat (.int p), x4, x5]
theorem lf_step (D : PyData) (L : List Int) (acc : List PyData) (s : Sd) (n : Int) (i : Nat) (p : Int) (hl : acc.length < sizeLine) :
    b1__law_firstss (.tuple [.int (i : Int), dP (s, n)]) (eF D L acc p .dead .dead) = some (.nx (eF D L (acc ++ [.int (p + b01 (decide ((i : Int) ∈ L)))]) (p + b01 (decide ((i : Int) ∈ L)) + n) .dead .dead)) := by
  let f := p + b01 (decide ((i : Int) ∈ L))
  let E1 := eF D L acc p (.dat (.int (i : Int))) (.dat (dP (s, n)))
  let E2 := eF D L acc f (.dat (.int (i : Int))) (.dat (dP (s, n)))
  let E3 := eF D L (acc ++ [.int f]) f (.dat (.int (i : Int))) (.dat (dP (s, n)))
  refine step_nx (e1 := E1) (e2 := eF D L (acc ++ [.int f]) (f + n) (.dat (.int (i : Int))) (.dat (dP (s, n)))) (by kernel_rfl) ?_
  have q1 : fB (fBin opIn (fName 4) (fName 1)) E1 = some (decide ((i : Int) ∈ L), E1) := ev_B (ev_bind rfl rfl (op_in_tup (i : Int) L))
  have q2 : fIf (fB (fBin opIn (fName 4) (fName 1))) (fC (.int 1)) (fC (.int 0)) E1 = some (.dat (.int (b01 (decide ((i : Int) ∈ L)))), E1) :=
    ev_ifE q1 (fun z => by rw [z]; rfl) fun z => by rw [z]; rfl
  refine (es_seq (e := E2) ((es_name (i := 3) (ev_bind (op := opAdd) (fa := fName 3) (x := .int p) rfl q2 rfl) (by show 3 < 6; decide)).trans rfl)).trans ?_
  refine (es_seq (e := E3) ((es_app (i := 2) (c := false) (ds0 := acc) (c' := false) (ds := acc) (d := .int f) (e1 := E2) (r := .dat (.int f)) rfl rfl rfl rfl hl).trans rfl)).trans ?_
  kernel_rfl
theorem lf_loop (D : PyData) (L : List Int) : ∀ (ps : List Pt) (acc : List PyData) (i : Nat) (p : Int), acc.length + ps.length ≤ sizeLine →
    ∃ p', forD b1__law_firstss (enumD i (ps.map dP)) (eF D L acc p .dead .dead) = some (.nx (eF D L (acc ++ (stM ps L i p).map PyData.int) p' .dead .dead))
  | [], acc, i, p, _ => ⟨p, by
    show some (Out.nx (eF D L acc p .dead .dead)) = _
    simp [stM]⟩
  | (s, n) :: r, acc, i, p, hl => by
    rw [List.length_cons] at hl
    obtain ⟨p', h⟩ := lf_loop D L r (acc ++ [.int (p + b01 (decide ((i : Int) ∈ L)))]) (i + 1) (p + b01 (decide ((i : Int) ∈ L)) + n) (by rw [List.length_append, List.length_cons, List.length_nil]; omega)
    refine ⟨p', (for_cons (lf_step D L acc s n i p (by omega))).trans ?_⟩
    rw [h]
    simp [stM]
theorem law_firsts_eq (ps : List Pt) (L : List Int) (hl : ps.length ≤ sizeLine) : _law_firsts_F [dPs ps, .tuple (L.map PyData.int)] = some (.new ((stM ps L 0 1).map PyData.int)) := by
  obtain ⟨p', h⟩ := lf_loop (dPs ps) L ps [] 0 1 (by simpa using hl)
  let E0 := eF (dPs ps) L [] 1 .dead .dead
  let E1 := eF (dPs ps) L ((stM ps L 0 1).map PyData.int) p' .dead .dead
  refine run_ret (e := E1) (r1 := .own 2) rfl ?_ rfl
  refine (es_seq (e := E0) (by kernel_rfl)).trans ?_
  refine (es_seq (e := E1) ((es_for (e := E0) (xs := enumD 0 (ps.map dP)) (by kernel_rfl)).trans h)).trans ?_
  rfl
/-! good -/
def fitB : List Pt → List Int → Nat → Int → Bool
  | [], _, _, _ => true
  | (s, n) :: r, L, i, p => fits s (p + b01 (decide ((i : Int) ∈ L))) && fitB r L (i + 1) (p + b01 (decide ((i : Int) ∈ L)) + n)
theorem fitB_iff : ∀ (ps : List Pt) (L : List Int) (i : Nat) (p : Int), fitB ps L i p = true ↔ allfit ps L i p
  | [], _, _, _ => ⟨fun _ => trivial, fun _ => rfl⟩
  | (s, n) :: r, L, i, p => by
    show (_ && _) = true ↔ _ ∧ _
    rw [Bool.and_eq_true, fitB_iff r L (i + 1) _]
def fBad : PyData → Option PyData
  | .tuple [.tuple [.str s, _], .int f] => if PyData.eqv (.str s) (.str "any") || ((decide (f % 2 = 1)) == PyData.eqv (.str s) (.str "right")) then none else some (.int 1)
  | _ => none
theorem fBad_at (s : Sd) (n f : Int) : fBad (.tuple [dP (s, n), .int f]) = if fits s f = true then none else some (.int 1) := by
  have two : ∀ s : Sd, isAny s = false → fBad (.tuple [dP (s, n), .int f]) = if ((decide (f % 2 = 1)) == PyData.eqv (.str s.s) (.str "right")) = true then none else some (.int 1) := fun s hs => by
    have e : PyData.eqv (.str s.s) (.str "any") = false := by
      cases s
      · cases hs
      · kernel_rfl
      · kernel_rfl
    show (if (PyData.eqv (.str s.s) (.str "any") || ((decide (f % 2 = 1)) == PyData.eqv (.str s.s) (.str "right"))) = true then none else some (PyData.int 1)) = _
    rw [e, Bool.false_or]
  cases s
  · kernel_rfl
  · rw [two .right rfl, show PyData.eqv (.str Sd.right.s) (.str "right") = true by kernel_rfl]
    show (if (decide (f % 2 = 1) == true) = true then _ else _) = if decide (f % 2 = 1) = true then _ else _
    cases decide (f % 2 = 1) <;> rfl
  · rw [two .left rfl, show PyData.eqv (.str Sd.left.s) (.str "right") = false by kernel_rfl]
    show (if (decide (f % 2 = 1) == false) = true then _ else _) = if decide (f % 2 = 0) = true then _ else _
    by_cases h : f % 2 = 0
    · rw [decide_eq_true h, decide_eq_false (show ¬ f % 2 = 1 by omega)]
      rfl
    · rw [decide_eq_false h, decide_eq_true (show f % 2 = 1 by omega)]
      rfl
theorem bad_none : ∀ (ps : List Pt) (L : List Int) (i : Nat) (p : Int), ∃ m : Nat, (zipD (ps.map dP) ((stM ps L i p).map PyData.int)).filterMap fBad = (List.replicate m (1 : Int)).map PyData.int ∧ (m = 0 ↔ fitB ps L i p = true)
  | [], _, _, _ => ⟨0, rfl, by simp [fitB]⟩
  | (s, n) :: r, L, i, p => by
    obtain ⟨m, h1, h2⟩ := bad_none r L (i + 1) (p + b01 (decide ((i : Int) ∈ L)) + n)
    have e : zipD (((s, n) :: r).map dP) ((stM ((s, n) :: r) L i p).map PyData.int) = .tuple [dP (s, n), .int (p + b01 (decide ((i : Int) ∈ L)))] :: zipD (r.map dP) ((stM r L (i + 1) (p + b01 (decide ((i : Int) ∈ L)) + n)).map PyData.int) := rfl
    have e2 : fitB ((s, n) :: r) L i p = (fits s (p + b01 (decide ((i : Int) ∈ L))) && fitB r L (i + 1) (p + b01 (decide ((i : Int) ∈ L)) + n)) := rfl
    rw [e, e2, List.filterMap_cons, fBad_at]
    cases hf : fits s (p + b01 (decide ((i : Int) ∈ L))) with
    | true => exact ⟨m, by rw [if_pos rfl]; exact h1, by rw [Bool.true_and]; exact h2⟩
    | false => exact ⟨m + 1, by rw [if_neg (by simp), h1]; rfl, by simp⟩
theorem good_eq (ps : List Pt) (L : List Int) (hl : ps.length ≤ 1000) : _law_good_F [dPs ps, .tuple (L.map PyData.int)] = some (.dat (.bool (fitB ps L 0 1))) := by
  let E : DL.Env := [.dat (dPs ps), .dat (.tuple (L.map PyData.int)), .dead, .dead]
  have c0 : fCallN 2 _law_firsts_F (faCons (fName 0) (faCons (fName 1) faNil)) E = some (.new ((stM ps L 0 1).map PyData.int), E) :=
    ev_call (ea_dat (fa := fName 0) (d := dPs ps) rfl (ea_dat (fa := fName 1) (d := .tuple (L.map PyData.int)) rfl ea_nil)) rfl (law_firsts_eq ps L (small_line hl))
  have it : fiZip (fName 0) (fCallN 2 _law_firsts_F (faCons (fName 0) (faCons (fName 1) faNil))) E = some (zipD (ps.map dP) ((stM ps L 0 1).map PyData.int), E) := ev_zip (r1 := .dat (dPs ps)) (e1 := E) rfl rfl c0 rfl rfl rfl
  have c1 : fComp [2, 3] (fiZip (fName 0) (fCallN 2 _law_firsts_F (faCons (fName 0) (faCons (fName 1) faNil)))) (fgTup (fgCons (fgName 2) (fgCons (fgName 3) fgNil))) (ftNot (fB (fCallN 2 _law_fits_F (faCons (fBin opIx (fName 2) (fC (.int 0))) (faCons (fName 3) faNil))))) (fC (.int 1)) E = some (.new ((zipD (ps.map dP) ((stM ps L 0 1).map PyData.int)).filterMap fBad), E) := by
    refine ev_comp it (Nat.le_trans (zipD_len _ _) (small_line (by rw [List.length_map]; exact hl))) fun x hx => ?_
    have mem : ∀ (ps : List Pt) (i : Nat) (p : Int), x ∈ zipD (ps.map dP) ((stM ps L i p).map PyData.int) → ∃ s n f, x = .tuple [dP (s, n), .int f] := fun ps => by
      induction ps with
      | nil => intro i p h; cases h
      | cons q r ih =>
        intro i p h
        obtain ⟨s, n⟩ := q
        have h' : x ∈ PyData.tuple [dP (s, n), .int (p + b01 (decide ((i : Int) ∈ L)))] :: zipD (r.map dP) ((stM r L (i + 1) (p + b01 (decide ((i : Int) ∈ L)) + n)).map PyData.int) := h
        rcases List.mem_cons.mp h' with e | h'
        · exact ⟨s, n, _, e⟩
        · exact ih _ _ h'
    obtain ⟨s, n, f, rfl⟩ := mem ps 0 1 hx
    let E1 : DL.Env := [.dat (dPs ps), .dat (.tuple (L.map PyData.int)), .dat (dP (s, n)), .dat (.int f)]
    have q : ftNot (fB (fCallN 2 _law_fits_F (faCons (fBin opIx (fName 2) (fC (.int 0))) (faCons (fName 3) faNil)))) E1 = some (!fits s f, E1) :=
      ev_not (ev_B (ev_call (ea_dat (d := .str s.s) (e1 := E1) (by kernel_rfl) (ea_dat (fa := fName 3) (d := .int f) rfl ea_nil)) rfl (law_fits_eq s f)))
    rw [fBad_at]
    unfold stepC
    show ((ftNot _ E1).bind _) = _
    rw [q, Option.bind_some]
    cases fits s f <;> rfl
  obtain ⟨m, h1, h2⟩ := bad_none ps L 0 1
  rw [h1] at c1
  have oe : opEq (.list ((List.replicate m (1 : Int)).map PyData.int)) (.list []) = some (rb (fitB ps L 0 1)) := by
    have e : PyData.eqv (.list ((List.replicate m (1 : Int)).map PyData.int)) (.list (([] : List Int).map PyData.int)) = PyData.eqvAll ((List.replicate m (1 : Int)).map PyData.int) (([] : List Int).map PyData.int) := by kernel_rfl
    unfold opEq
    rw [shapedL_ints, show SeqAt.shaped (.list []) = true by kernel_rfl, show PyData.eqv (.list ((List.replicate m (1 : Int)).map PyData.int)) (.list []) = decide (List.replicate m (1 : Int) = []) from e.trans (eqv_ints _ _)]
    cases hb : fitB ps L 0 1 with
    | true =>
      have := h2.mpr hb
      subst this
      rfl
    | false =>
      obtain ⟨k, rfl⟩ : ∃ k, m = k + 1 := ⟨m - 1, by
        have : m ≠ 0 := fun z => by
          have := h2.mp z
          rw [hb] at this
          cases this
        omega⟩
      rfl
  exact run_ret (r1 := .dat (.bool (fitB ps L 0 1))) (e := E) rfl (es_ret (ev_bin c1 (fb := fLst faNil) (r2 := .new []) (e2 := E) (y := .list []) (by kernel_rfl) rfl rfl oe)) rfl
/-! all groups -/
def allG : Nat → List (List Int)
  | 0 => [[]]
  | n + 1 => allG n ++ (allG n).map fun g => g ++ [(n : Int)]
theorem allG_len : ∀ n, (allG n).length = 2 ^ n
  | 0 => rfl
  | n + 1 => by
    show (allG n ++ (allG n).map fun g => g ++ [(n : Int)]).length = _
    rw [List.length_append, List.length_map, allG_len n, Nat.pow_succ]
    omega
theorem allG_head : ∀ n, ∃ r, allG n = [] :: r ∧ ∀ g ∈ r, g ≠ []
  | 0 => ⟨[], rfl, fun g h => by cases h⟩
  | n + 1 => by
    obtain ⟨r, e, h⟩ := allG_head n
    refine ⟨r ++ (allG n).map (fun g => g ++ [(n : Int)]), ?_, fun g hg => ?_⟩
    · show allG n ++ _ = _
      rw [e]
      rfl
    · rcases List.mem_append.mp hg with hg | hg
      · exact h g hg
      · obtain ⟨q, _, rfl⟩ := List.mem_map.mp hg
        simp
theorem grp_step (D : PyData) (n : Nat) (x2 : Sl) (h : n ≤ 8) : b1__law_alls (.int (n : Int)) [.dat D, .own false ((allG n).map tupD), .dead, .dead] = some (.nx [.dat D, .own false ((allG (n + 1)).map tupD), .dead, .dead]) := by
  have pw : 2 ^ n ≤ 256 := Nat.le_trans (Nat.pow_le_pow_right (by decide) h) (by decide)
  let E1 : DL.Env := [.dat D, .own false ((allG n).map tupD), .dat (.int (n : Int)), .dead]
  let E2 : DL.Env := [.dat D, .dat (.list ((allG n).map tupD)), .dat (.int (n : Int)), .dead]
  refine step_nx (e1 := E1) (e2 := [.dat D, .own false ((allG (n + 1)).map tupD), .dat (.int (n : Int)), .dead]) rfl ?_
  let fE : PyData → Option PyData := fun x => match x with
    | .tuple xs => some (.tuple (xs ++ [.int (n : Int)]))
    | _ => none
  have c : fComp [3] (fiSeq (fName 1)) (fgName 3) ftYes (fBin opAdd (fName 3) (fTup (faCons (fName 2) faNil))) E1 = some (.new (((allG n).map tupD).filterMap fE), E2) := by
    refine ev_comp (e := E2) rfl (small_line (by rw [List.length_map, allG_len]; omega)) fun x hx => ?_
    obtain ⟨g, hg, rfl⟩ := List.mem_map.mp hx
    have gl : ∀ (m : Nat) g, g ∈ allG m → g.length ≤ m := fun m => by
      induction m with
      | zero =>
        intro g hg
        rcases List.mem_cons.mp hg with e | e
        · rw [e]; exact Nat.le_refl _
        · cases e
      | succ m ih =>
        intro g hg
        rcases List.mem_append.mp hg with hg | hg
        · exact Nat.le_succ_of_le (ih g hg)
        · obtain ⟨q, hq, rfl⟩ := List.mem_map.mp hg
          rw [List.length_append]
          exact Nat.succ_le_succ (ih q hq)
    have gll := gl n g hg
    let E3 : DL.Env := [.dat D, .dat (.list ((allG n).map tupD)), .dat (.int (n : Int)), .dat (tupD g)]
    have q : fBin opAdd (fName 3) (fTup (faCons (fName 2) faNil)) E3 = some (.dat (.tuple (g.map PyData.int ++ [.int (n : Int)])), E3) :=
      ev_bind (fa := fName 3) (x := tupD g) (e1 := E3) rfl (y := .tuple [.int (n : Int)]) (e2 := E3) (by kernel_rfl) (if_pos (small_line (by rw [List.length_map]; show g.length + 1 ≤ 1000; omega)))
    show ((fBin opAdd (fName 3) (fTup (faCons (fName 2) faNil)) E3).bind _) = _
    rw [q]
    rfl
  have fe : ((allG n).map tupD).filterMap fE = ((allG n).map fun g => g ++ [(n : Int)]).map tupD := by
    rw [fm_map fE tupD (fun g => tupD (g ++ [(n : Int)])) (fun g => by
      show some (PyData.tuple (g.map PyData.int ++ [PyData.int (n : Int)])) = some (PyData.tuple ((g ++ [(n : Int)]).map PyData.int))
      rw [List.map_append]
      rfl), List.map_map]
    rfl
  rw [fe] at c
  have oa : opAdd (.list ((allG n).map tupD)) (.list (((allG n).map fun g => g ++ [(n : Int)]).map tupD)) = some (.new ((allG (n + 1)).map tupD)) := by
    show (if _ ≤ sizeLine then some (Rs.new _) else none) = _
    rw [if_pos (small_line (by rw [List.length_map, List.length_map, List.length_map, allG_len]; omega)), ← List.map_append]
    rfl
  exact (es_new (i := 1) (ev_bin (fa := fName 1) (r1 := .own 1) (e1 := E1) rfl c rfl rfl oa) (by show 1 < 4; decide)).trans rfl
theorem grp_loop (D : PyData) : ∀ (m n : Nat), n + m ≤ 8 → forD b1__law_alls ((List.range' n m).map fun (i : Nat) => PyData.int (0 + (i : Int))) [.dat D, .own false ((allG n).map tupD), .dead, .dead] = some (.nx [.dat D, .own false ((allG (n + m)).map tupD), .dead, .dead])
  | 0, n, _ => rfl
  | m + 1, n, h => by
    rw [List.range'_succ, List.map_cons, Int.zero_add]
    refine (for_cons (grp_step D n .dead (by omega))).trans ?_
    rw [grp_loop D m (n + 1) (by omega), show n + 1 + m = n + (m + 1) by omega]
def goodG (ps : List Pt) : List (List Int) := (allG ps.length).filter fun g => fitB ps g 0 1
theorem tups_of : ∀ l : List (List Int), tupsOf (l.map tupD) = some l
  | [] => rfl
  | g :: r => by
    show (intsOf (g.map PyData.int)).bind _ = _
    rw [intsOf_map, Option.bind_some, tups_of r]
    rfl
theorem neL_good (ps : List Pt) : neL (goodG ps) = true := by
  obtain ⟨r, e, h⟩ := allG_head ps.length
  unfold goodG
  rw [e, List.filter_cons]
  have rest : ∀ l : List (List Int), (∀ g ∈ l, g ≠ []) → neL l = true := fun l hl => by
    cases l with
    | nil => rfl
    | cons g r =>
      cases g with
      | nil => exact absurd rfl (hl _ (List.mem_cons_self ..))
      | cons x xs =>
        show ((x :: xs) :: r).all (fun x => !x.isEmpty) = true
        refine List.all_eq_true.mpr fun q hq => ?_
        have := hl q hq
        cases q with
        | nil => exact absurd rfl this
        | cons _ _ => rfl
  split
  · rfl
  · exact rest _ fun g hg => h g (List.mem_filter.mp hg).1
theorem law_all_eq (ps : List Pt) (hl : ps.length ≤ 8) : _law_all_F [dPs ps] = some (.new ((sortL (goodG ps)).map tupD)) := by
  have lp := grp_loop (dPs ps) ps.length 0 (by omega)
  rw [Nat.zero_add] at lp
  let E0 : DL.Env := [.dat (dPs ps), .own false ((allG 0).map tupD), .dead, .dead]
  let E1 : DL.Env := [.dat (dPs ps), .own false ((allG ps.length).map tupD), .dead, .dead]
  let E2 : DL.Env := [.dat (dPs ps), .dat (.list ((allG ps.length).map tupD)), .dead, .dead]
  have pw : 2 ^ ps.length ≤ 256 := Nat.le_trans (Nat.pow_le_pow_right (by decide) hl) (by decide)
  refine run_ret (r1 := .new ((sortL (goodG ps)).map tupD)) (e := E2) rfl ?_ rfl
  refine (es_seq (e := E0) (by kernel_rfl)).trans ?_
  have it : fiRange1 (fUn bLen (fName 0)) E0 = some ((List.range' 0 ps.length).map fun (i : Nat) => PyData.int (0 + (i : Int)), E0) := by
    have q : fUn bLen (fName 0) E0 = some (.dat (.int ((ps.map dP).length : Int)), E0) := rfl
    unfold fiRange1
    rw [q, Option.bind_some]
    show (if smallI ((ps.map dP).length : Int) = true then some (rangeD 0 ((ps.map dP).length : Int).toNat, E0) else none) = _
    rw [List.length_map, if_pos (small_len (by omega))]
    unfold rangeD
    rw [Int.toNat_natCast, List.range_eq_range']
  refine (es_seq (e := E1) ((es_for (e := E0) it).trans lp)).trans ?_
  let fG : PyData → Option PyData := fun x => match x with
    | .tuple xs => match intsOf xs with
      | some g => if fitB ps g 0 1 = true then some x else none
      | none => none
    | _ => none
  have fg : ∀ g, fG (tupD g) = if fitB ps g 0 1 = true then some (tupD g) else none := fun g => by
    show (match intsOf (g.map PyData.int) with
      | some g => if fitB ps g 0 1 = true then some (PyData.tuple _) else none
      | none => none) = _
    rw [intsOf_map]
    rfl
  have c : fComp [3] (fiSeq (fName 1)) (fgName 3) (fB (fCallN 2 _law_good_F (faCons (fName 0) (faCons (fName 3) faNil)))) (fName 3) E1 = some (.new (((allG ps.length).map tupD).filterMap fG), E2) := by
    refine ev_comp (e := E2) rfl (small_line (by rw [List.length_map, allG_len]; omega)) fun x hx => ?_
    obtain ⟨g, hg, rfl⟩ := List.mem_map.mp hx
    let E3 : DL.Env := [.dat (dPs ps), .dat (.list ((allG ps.length).map tupD)), .dead, .dat (tupD g)]
    have q : fB (fCallN 2 _law_good_F (faCons (fName 0) (faCons (fName 3) faNil))) E3 = some (fitB ps g 0 1, E3) :=
      ev_B (ev_call (ea_dat (fa := fName 0) (d := dPs ps) rfl (ea_dat (fa := fName 3) (d := tupD g) rfl ea_nil)) rfl (good_eq ps g (by omega)))
    rw [fg]
    unfold stepC
    show ((fB _ E3).bind _) = _
    rw [q, Option.bind_some]
    cases fitB ps g 0 1 <;> rfl
  rw [filt fG tupD (fun g => fitB ps g 0 1) tupD fg] at c
  refine es_ret (ev_un c rfl ?_)
  show (tupsOf ((goodG ps).map tupD)).bind _ = _
  rw [tups_of, Option.bind_some, if_pos (neL_good ps)]
end RP

/-! MP7: which groups there are. -/
namespace RP
open PySem PySem.Spec PyProof.Rows L2 DL

theorem incr_pw : ∀ {L : List Int}, incr L → L.Pairwise (· < ·)
  | [], _ => List.Pairwise.nil
  | [a], _ => List.pairwise_singleton _ _
  | a :: b :: r, h => by
    have ih := incr_pw (L := b :: r) h.2
    refine List.pairwise_cons.mpr ⟨fun x hx => ?_, ih⟩
    rcases List.mem_cons.mp hx with e | hx
    · rw [e]; exact h.1
    · have := (List.pairwise_cons.mp ih).1 x hx
      have h1 := h.1
      omega
theorem pw_incr : ∀ {L : List Int}, L.Pairwise (· < ·) → incr L
  | [], _ => trivial
  | [a], _ => trivial
  | a :: b :: r, h => by
    obtain ⟨h1, h2⟩ := List.pairwise_cons.mp h
    exact ⟨h1 b (List.mem_cons_self ..), pw_incr h2⟩
theorem allG_sound : ∀ (n : Nat) (g : List Int), g ∈ allG n → g.Pairwise (· < ·) ∧ ∀ v ∈ g, 0 ≤ v ∧ v < (n : Int)
  | 0, g, h => by
    rcases List.mem_cons.mp h with e | e
    · subst e
      exact ⟨List.Pairwise.nil, fun v hv => by cases hv⟩
    · cases e
  | n + 1, g, h => by
    rcases List.mem_append.mp h with h | h
    · obtain ⟨h1, h2⟩ := allG_sound n g h
      exact ⟨h1, fun v hv => by have := h2 v hv; omega⟩
    · obtain ⟨q, hq, rfl⟩ := List.mem_map.mp h
      obtain ⟨h1, h2⟩ := allG_sound n q hq
      refine ⟨List.pairwise_append.mpr ⟨h1, List.pairwise_singleton _ _, fun a ha b hb => ?_⟩, fun v hv => ?_⟩
      · rw [List.mem_singleton] at hb
        have := h2 a ha
        omega
      · rcases List.mem_append.mp hv with hv | hv
        · have := h2 v hv
          omega
        · rw [List.mem_singleton] at hv
          omega
theorem allG_all : ∀ (n : Nat) (g : List Int), g.Pairwise (· < ·) → (∀ v ∈ g, 0 ≤ v ∧ v < (n : Int)) → g ∈ allG n
  | 0, g, _, h => by
    cases g with
    | nil => exact List.mem_cons_self ..
    | cons x r =>
      have := h x (List.mem_cons_self ..)
      omega
  | n + 1, g, hp, h => by
    rcases List.eq_nil_or_concat g with e | ⟨q, x, e⟩
    · subst e
      exact List.mem_append.mpr (.inl (allG_all n [] List.Pairwise.nil fun v hv => by cases hv))
    · rw [List.concat_eq_append] at e
      subst e
      obtain ⟨h1, _, h3⟩ := List.pairwise_append.mp hp
      have hx := h x (by simp)
      have hq : ∀ v ∈ q, 0 ≤ v ∧ v < x := fun v hv => ⟨(h v (List.mem_append.mpr (.inl hv))).1, h3 v hv x (List.mem_singleton_self _)⟩
      by_cases e : x = (n : Int)
      · refine List.mem_append.mpr (.inr (List.mem_map.mpr ⟨q, allG_all n q h1 fun v hv => by have := hq v hv; omega, by rw [e]⟩))
      · refine List.mem_append.mpr (.inl (allG_all n _ hp fun v hv => ?_))
        rcases List.mem_append.mp hv with hv | hv
        · have := hq v hv
          omega
        · rw [List.mem_singleton] at hv
          omega
theorem good_mem {ps : List Pt} {g : List Int} : g ∈ goodG ps ↔ (incr g ∧ (∀ v ∈ g, 0 ≤ v ∧ v < (ps.length : Int))) ∧ allfit ps g 0 1 := by
  unfold goodG
  rw [List.mem_filter, fitB_iff]
  constructor
  · rintro ⟨h1, h2⟩
    obtain ⟨a, b⟩ := allG_sound _ _ h1
    exact ⟨⟨pw_incr a, b⟩, h2⟩
  · rintro ⟨⟨h1, h2⟩, h3⟩
    exact ⟨allG_all _ _ (incr_pw h1) h2, h3⟩
theorem lat_good (ps : List Pt) : lat ps 0 1 ∈ goodG ps :=
  good_mem.mpr ⟨⟨lat_incr ps 0 1, fun v hv => by have := lat_ge ps 0 1 v hv; omega⟩, fit_late ps _ 0 1 fun j _ => Iff.rfl⟩
theorem eps_good (ps : List Pt) : eps ps 0 0 1 ∈ goodG ps := by
  have fe := fit_early ps (eps ps 0 0 1) 0 0 1 (Int.le_refl 0) fun j _ => Iff.rfl
  rw [if_neg (by omega), Int.add_zero] at fe
  exact good_mem.mpr ⟨⟨eps_incr ps 0 0 1 (Int.le_refl 0), fun v hv => by have := eps_lt ps 0 0 1 v (Int.le_refl 0) hv; omega⟩, fe⟩
theorem sort_mem {l : List (List Int)} {g : List Int} : g ∈ sortL l ↔ g ∈ l := (sortL_perm l).mem_iff
theorem sort_len (l : List (List Int)) : (sortL l).length = l.length := (sortL_perm l).length_eq
theorem sort_pos (ps : List Pt) : 0 < (sortL (goodG ps)).length := by
  rw [sort_len]
  exact List.length_pos_of_mem (lat_good ps)
theorem sort_small (ps : List Pt) (hl : ps.length ≤ 8) : (sortL (goodG ps)).length ≤ 256 := by
  rw [sort_len]
  have h1 := List.length_filter_le (fun g => fitB ps g 0 1) (allG ps.length)
  rw [allG_len] at h1
  have : 2 ^ ps.length ≤ 256 := Nat.le_trans (Nat.pow_le_pow_right (by decide) hl) (by decide)
  unfold goodG
  omega
/-- one group of all, drawn -/
theorem ix_tups (l : List (List Int)) (r : Int) (h0 : 0 ≤ r) (h1 : r < (l.length : Int)) : ∃ g ∈ l, opIx (.list (l.map tupD)) (.int r) = some (.dat (tupD g)) := by
  have hr : r.toNat < l.length := by omega
  refine ⟨l[r.toNat], List.getElem_mem hr, ?_⟩
  have e : (l.map tupD)[r.toNat]? = some (tupD l[r.toNat]) := by
    rw [List.getElem?_map, List.getElem?_eq_getElem hr]
    rfl
  have e2 := ix_nat e
  rw [show ((r.toNat : Nat) : Int) = r by omega] at e2
  show (L2.atI (l.map tupD) r).map Rs.dat = _
  rw [e2]
  rfl
end RP

/-! MP8: the short layouts. -/
namespace RP
open PySem PySem.Spec PyProof.Rows L2 DL

/-- X: the places from i on of a short layout; p: the page without the stretch's own blank page; pl: has it been laid -/
def pick : List Pt → Nat → Int → Bool → List Int → Prop
  | [], _, _, pl, X => pl = false ∧ X = []
  | (s, n) :: r, i, p, pl, X =>
    (isAny s = true ∧ pl = true ∧ pick r (i + 1) (p + n) true X) ∨
    (isAny s = true ∧ pl = false ∧ ((∃ X', X = (i : Int) :: X' ∧ nxt r (p + n) = true ∧ pick r (i + 1) (p + n) true X') ∨ pick r (i + 1) (p + n) false X)) ∨
    (isAny s = false ∧ pl = true ∧ fits s p = false ∧ pick r (i + 1) (p + 1 + n) false X) ∨
    (isAny s = false ∧ pl = false ∧ fits s p = true ∧ pick r (i + 1) (p + n) false X) ∨
    (isAny s = false ∧ pl = false ∧ fits s p = false ∧ ∃ X', X = (i : Int) :: X' ∧ pick r (i + 1) (p + 1 + n) false X')
theorem nbl_any {s : Sd} (h : isAny s = true) (n : Int) (r : List Pt) (p : Int) : nbl ((s, n) :: r) p = nbl r (p + n) := by
  show b01 (!fits s p) + nbl r (p + b01 (!fits s p) + n) = _
  rw [fits_any h]
  show 0 + nbl r (p + 0 + n) = _
  rw [Int.zero_add, Int.add_zero]
theorem nbl_fit {s : Sd} {p : Int} (h : fits s p = true) (n : Int) (r : List Pt) : nbl ((s, n) :: r) p = nbl r (p + n) := by
  show b01 (!fits s p) + nbl r (p + b01 (!fits s p) + n) = _
  rw [h]
  show 0 + nbl r (p + 0 + n) = _
  rw [Int.zero_add, Int.add_zero]
theorem nbl_not {s : Sd} {p : Int} (h : fits s p = false) (n : Int) (r : List Pt) : nbl ((s, n) :: r) p = 1 + nbl r (p + 1 + n) := by
  show b01 (!fits s p) + nbl r (p + b01 (!fits s p) + n) = _
  rw [h]
  rfl
theorem nxt_any {s : Sd} (h : isAny s = true) (n : Int) (r : List Pt) (p : Int) : nxt ((s, n) :: r) p = nxt r (p + n) := by
  show (if isAny s = true then _ else _) = _
  rw [if_pos h, fits_any h]
  show nxt r (p + 0 + n) = _
  rw [Int.add_zero]
theorem nxt_bound {s : Sd} (h : isAny s = false) (n : Int) (r : List Pt) (p : Int) : nxt ((s, n) :: r) p = !fits s p := by
  show (if isAny s = true then _ else _) = _
  rw [h]
  exact if_neg (by simp)
theorem pick_len : ∀ (ps : List Pt) (i : Nat) (p : Int) (pl : Bool) (X : List Int), pick ps i p pl X → (X.length : Int) + b01 pl = nbl ps p
  | [], _, _, _, _, ⟨h1, h2⟩ => by subst h1 h2; rfl
  | (s, n) :: r, i, p, pl, X, h => by
    rcases h with ⟨h1, h2, h3⟩ | ⟨h1, h2, h3⟩ | ⟨h1, h2, h3, h4⟩ | ⟨h1, h2, h3, h4⟩ | ⟨h1, h2, h3, X', h4, h5⟩
    · subst h2
      rw [nbl_any h1]
      exact pick_len r _ _ _ _ h3
    · subst h2
      rw [nbl_any h1]
      rcases h3 with ⟨X', e, _, h4⟩ | h3
      · have := pick_len r _ _ _ _ h4
        have t : b01 true = 1 := rfl
        have f : b01 false = 0 := rfl
        rw [e, List.length_cons]
        omega
      · exact pick_len r _ _ _ _ h3
    · subst h2
      have := pick_len r _ _ _ _ h4
      have t : b01 true = 1 := rfl
      have f : b01 false = 0 := rfl
      rw [nbl_not h3]
      omega
    · subst h2
      rw [nbl_fit h3]
      exact pick_len r _ _ _ _ h4
    · subst h2
      have := pick_len r _ _ _ _ h5
      have f : b01 false = 0 := rfl
      rw [nbl_not h3, h4, List.length_cons]
      omega
theorem pick_range : ∀ (ps : List Pt) (i : Nat) (p : Int) (pl : Bool) (X : List Int), pick ps i p pl X → X.Pairwise (· < ·) ∧ ∀ v ∈ X, (i : Int) ≤ v ∧ v < (i : Int) + (ps.length : Int)
  | [], _, _, _, _, ⟨_, h2⟩ => by
    subst h2
    exact ⟨List.Pairwise.nil, fun v hv => by cases hv⟩
  | (s, n) :: r, i, p, pl, X, h => by
    have up : ∀ {q : Int} {b : Bool} {Y : List Int}, pick r (i + 1) q b Y → Y.Pairwise (· < ·) ∧ ∀ v ∈ Y, (i : Int) + 1 ≤ v ∧ v < (i : Int) + (((s, n) :: r).length : Int) := fun {q b Y} hy => by
      obtain ⟨a, c⟩ := pick_range r _ _ _ _ hy
      refine ⟨a, fun v hv => ?_⟩
      have := c v hv
      rw [List.length_cons]
      omega
    have same : ∀ {Y : List Int}, (Y.Pairwise (· < ·) ∧ ∀ v ∈ Y, (i : Int) + 1 ≤ v ∧ v < (i : Int) + (((s, n) :: r).length : Int)) → Y.Pairwise (· < ·) ∧ ∀ v ∈ Y, (i : Int) ≤ v ∧ v < (i : Int) + (((s, n) :: r).length : Int) := fun {Y} hy => ⟨hy.1, fun v hv => by have := hy.2 v hv; omega⟩
    have cons : ∀ {Y : List Int}, (Y.Pairwise (· < ·) ∧ ∀ v ∈ Y, (i : Int) + 1 ≤ v ∧ v < (i : Int) + (((s, n) :: r).length : Int)) → ((i : Int) :: Y).Pairwise (· < ·) ∧ ∀ v ∈ (i : Int) :: Y, (i : Int) ≤ v ∧ v < (i : Int) + (((s, n) :: r).length : Int) := fun {Y} hy => by
      refine ⟨List.pairwise_cons.mpr ⟨fun v hv => by have := hy.2 v hv; omega, hy.1⟩, fun v hv => ?_⟩
      rcases List.mem_cons.mp hv with e | hv
      · rw [e, List.length_cons]
        omega
      · have := hy.2 v hv
        omega
    rcases h with ⟨h1, h2, h3⟩ | ⟨h1, h2, h3⟩ | ⟨h1, h2, h3, h4⟩ | ⟨h1, h2, h3, h4⟩ | ⟨h1, h2, h3, X', h4, h5⟩
    · exact same (up h3)
    · rcases h3 with ⟨X', e, _, h4⟩ | h3
      · rw [e]; exact cons (up h4)
      · exact same (up h3)
    · exact same (up h4)
    · exact same (up h4)
    · rw [h4]; exact cons (up h5)
/-- what the places from i + 1 on are -/
theorem tail_of {L X X' : List Int} {i : Nat} (h : ∀ j : Nat, i ≤ j → ((j : Int) ∈ L ↔ (j : Int) ∈ X)) (e : X = (i : Int) :: X') : ∀ j : Nat, i + 1 ≤ j → ((j : Int) ∈ L ↔ (j : Int) ∈ X') := fun j hj => by
  rw [h j (by omega), e, List.mem_cons]
  constructor
  · rintro (q | q)
    · omega
    · exact q
  · exact .inr
theorem dec_in {L X : List Int} {i : Nat} (h : ∀ j : Nat, i ≤ j → ((j : Int) ∈ L ↔ (j : Int) ∈ X)) : decide ((i : Int) ∈ L) = decide ((i : Int) ∈ X) := by
  congr 1
  exact propext (h i (Nat.le_refl _))
theorem fits_flip {s : Sd} {p : Int} (h : isAny s = false) : fits s (p + 1) = !fits s p := by
  rcases fits_dec s p h with ⟨h1, h2⟩ | ⟨h1, h2⟩
  · rw [h1, h2 (p + 1) (by omega)]; rfl
  · rw [h1, h2 (p + 1) (by omega)]; rfl
theorem pick_fit : ∀ (ps : List Pt) (L : List Int) (i : Nat) (p : Int) (pl : Bool) (X : List Int), pick ps i p pl X → (∀ j : Nat, i ≤ j → ((j : Int) ∈ L ↔ (j : Int) ∈ X)) → allfit ps L i (p + b01 pl)
  | [], _, _, _, _, _, _, _ => trivial
  | (s, n) :: r, L, i, p, pl, X, h, hL => by
    have t : b01 true = 1 := rfl
    have f : b01 false = 0 := rfl
    have later : ∀ {q : Int} {b : Bool} {Y : List Int}, pick r (i + 1) q b Y → ¬ (i : Int) ∈ Y := fun {q b Y} hy z => by
      have := (pick_range r _ _ _ _ hy).2 _ z
      omega
    have rest : ∀ {Y : List Int}, X = Y → ∀ j : Nat, i + 1 ≤ j → ((j : Int) ∈ L ↔ (j : Int) ∈ Y) := fun {Y} e j hj => by
      rw [← e]
      exact hL j (by omega)
    show fits s (p + b01 pl + b01 (decide ((i : Int) ∈ L))) = true ∧ allfit r L (i + 1) (p + b01 pl + b01 (decide ((i : Int) ∈ L)) + n)
    rw [dec_in hL]
    rcases h with ⟨h1, h2, h3⟩ | ⟨h1, h2, h3⟩ | ⟨h1, h2, h3, h4⟩ | ⟨h1, h2, h3, h4⟩ | ⟨h1, h2, h3, X', h4, h5⟩
    · subst h2
      rw [decide_eq_false (later h3)]
      refine ⟨fits_any h1 _, ?_⟩
      have ih := pick_fit r L (i + 1) _ _ _ h3 (rest rfl)
      rw [show p + b01 true + b01 false + n = p + n + b01 true by omega]
      exact ih
    · subst h2
      refine ⟨fits_any h1 _, ?_⟩
      rcases h3 with ⟨X', e, _, h4⟩ | h3
      · have ih := pick_fit r L (i + 1) _ _ _ h4 (tail_of hL e)
        rw [decide_eq_true (by rw [e]; exact List.mem_cons_self ..), show p + b01 false + b01 true + n = p + n + b01 true by omega]
        exact ih
      · have ih := pick_fit r L (i + 1) _ _ _ h3 (rest rfl)
        rw [decide_eq_false (later h3), show p + b01 false + b01 false + n = p + n + b01 false by omega]
        exact ih
    · subst h2
      have ih := pick_fit r L (i + 1) _ _ _ h4 (rest rfl)
      rw [decide_eq_false (later h4)]
      refine ⟨?_, ?_⟩
      · rw [show p + b01 true + b01 false = p + 1 by omega, fits_flip h1, h3]
        rfl
      · rw [show p + b01 true + b01 false + n = p + 1 + n + b01 false by omega]
        exact ih
    · subst h2
      have ih := pick_fit r L (i + 1) _ _ _ h4 (rest rfl)
      rw [decide_eq_false (later h4)]
      refine ⟨?_, ?_⟩
      · rw [show p + b01 false + b01 false = p by omega]
        exact h3
      · rw [show p + b01 false + b01 false + n = p + n + b01 false by omega]
        exact ih
    · subst h2
      have ih := pick_fit r L (i + 1) _ _ _ h5 (tail_of hL h4)
      rw [decide_eq_true (by rw [h4]; exact List.mem_cons_self ..)]
      refine ⟨?_, ?_⟩
      · rw [show p + b01 false + b01 true = p + 1 by omega, fits_flip h1, h3]
        rfl
      · rw [show p + b01 false + b01 true + n = p + 1 + n + b01 false by omega]
        exact ih
/-- the first place is i or later ones -/
theorem head_of {X : List Int} {i : Nat} {m : Int} (hp : X.Pairwise (· < ·)) (hr : ∀ v ∈ X, (i : Int) ≤ v ∧ v < m) : (∃ X', X = (i : Int) :: X' ∧ X'.Pairwise (· < ·) ∧ ∀ v ∈ X', (i : Int) + 1 ≤ v ∧ v < m) ∨ (¬ (i : Int) ∈ X ∧ ∀ v ∈ X, (i : Int) + 1 ≤ v ∧ v < m) := by
  cases X with
  | nil => exact .inr ⟨fun z => (by cases z), fun v hv => (by cases hv)⟩
  | cons x r =>
    obtain ⟨h1, h2⟩ := List.pairwise_cons.mp hp
    have hx := hr x (List.mem_cons_self ..)
    by_cases e : x = (i : Int)
    · subst e
      exact .inl ⟨r, rfl, h2, fun v hv => by
        have a := h1 v hv
        have b := hr v (List.mem_cons_of_mem _ hv)
        omega⟩
    · have all : ∀ v ∈ x :: r, (i : Int) + 1 ≤ v ∧ v < m := fun v hv => by
        have b := hr v hv
        rcases List.mem_cons.mp hv with q | hv
        · omega
        · have := h1 v hv
          omega
      exact .inr ⟨fun z => (by have := all _ z; omega), all⟩
/-- a layout needs so many -/
theorem fit_least : ∀ (ps : List Pt) (L : List Int) (i : Nat) (p : Int) (X : List Int), allfit ps L i p → X.Pairwise (· < ·) → (∀ v ∈ X, (i : Int) ≤ v ∧ v < (i : Int) + (ps.length : Int)) → (∀ j : Nat, i ≤ j → ((j : Int) ∈ L ↔ (j : Int) ∈ X)) → nbl ps p ≤ (X.length : Int)
  | [], _, _, _, X, _, _, _, _ => by
    show (0 : Int) ≤ _
    omega
  | (s, n) :: r, L, i, p, X, hf, hp, hr, hL => by
    obtain ⟨f1, f2⟩ := hf
    rw [dec_in hL] at f1 f2
    have nr : ∀ {m : Int}, m = (i : Int) + (((s, n) :: r).length : Int) → m = ((i + 1 : Nat) : Int) + (r.length : Int) := fun {m} e => by
      rw [e, List.length_cons]
      omega
    rcases head_of hp hr with ⟨X', e, q1, q2⟩ | ⟨no, q2⟩
    · rw [decide_eq_true (by rw [e]; exact List.mem_cons_self ..)] at f1 f2
      have ih := fit_least r L (i + 1) _ X' f2 q1 (fun v hv => by
        have := q2 v hv
        rw [nr rfl] at this
        omega) (tail_of hL e)
      have ih' : nbl r (p + 1 + n) ≤ (X'.length : Int) := ih
      rw [e, List.length_cons]
      cases hs : isAny s with
      | true =>
        rw [nbl_any hs]
        have := cnt_near r (p + n) (p + 1 + n)
        omega
      | false =>
        have f1' : fits s (p + 1) = true := f1
        rw [fits_flip hs] at f1'
        have : fits s p = false := by
          cases q : fits s p with
          | true => rw [q] at f1'; cases f1'
          | false => rfl
        rw [nbl_not this]
        omega
    · rw [decide_eq_false no] at f1 f2
      have ih := fit_least r L (i + 1) _ X f2 hp (fun v hv => by
        have := q2 v hv
        rw [nr rfl] at this
        omega) (fun j hj => hL j (by omega))
      have ih' : nbl r (p + 0 + n) ≤ (X.length : Int) := ih
      rw [Int.add_zero] at ih'
      have f1' : fits s (p + 0) = true := f1
      rw [Int.add_zero] at f1'
      rw [nbl_fit f1']
      exact ih'
theorem nxt_le : ∀ (ps : List Pt) (p : Int), nxt ps p = false → nbl ps p ≤ nbl ps (p + 1)
  | [], _, _ => Int.le_refl _
  | (s, n) :: r, p, h => by
    cases hs : isAny s with
    | true =>
      rw [nxt_any hs] at h
      have := nxt_le r (p + n) h
      rw [nbl_any hs, nbl_any hs, show p + 1 + n = p + n + 1 by omega]
      exact this
    | false =>
      rw [nxt_bound hs] at h
      have hf : fits s p = true := by
        cases q : fits s p with
        | true => rfl
        | false => rw [q] at h; cases h
      have hg : fits s (p + 1) = false := by rw [fits_flip hs, hf]; rfl
      rw [nbl_fit hf, nbl_not hg, cnt_par r (p := p + n) (q := p + 1 + 1 + n) (by omega)]
      omega
theorem fit_pick : ∀ (ps : List Pt) (L : List Int) (i : Nat) (p : Int) (pl : Bool) (X : List Int), allfit ps L i (p + b01 pl) → X.Pairwise (· < ·) → (∀ v ∈ X, (i : Int) ≤ v ∧ v < (i : Int) + (ps.length : Int)) → (∀ j : Nat, i ≤ j → ((j : Int) ∈ L ↔ (j : Int) ∈ X)) →
    (pl = true → nxt ps p = true) → (X.length : Int) + b01 pl = nbl ps p → pick ps i p pl X
  | [], _, _, _, pl, X, _, _, _, _, hn, hl => by
    have hl' : (X.length : Int) + b01 pl = 0 := hl
    cases pl with
    | true => exact absurd (hn rfl) (by simp [nxt])
    | false =>
      have f : b01 false = 0 := rfl
      exact ⟨rfl, List.length_eq_zero_iff.mp (by omega)⟩
  | (s, n) :: r, L, i, p, pl, X, hf, hp, hr, hL, hn, hl => by
    have t : b01 true = 1 := rfl
    have f : b01 false = 0 := rfl
    obtain ⟨f1, f2⟩ := hf
    rw [dec_in hL] at f1 f2
    have nr : ∀ {m : Int}, m = (i : Int) + (((s, n) :: r).length : Int) → m = ((i + 1 : Nat) : Int) + (r.length : Int) := fun {m} e => by
      rw [e, List.length_cons]
      omega
    rcases head_of hp hr with ⟨X', e, q1, q2⟩ | ⟨no, q2⟩
    · have q3 : ∀ v ∈ X', ((i + 1 : Nat) : Int) ≤ v ∧ v < ((i + 1 : Nat) : Int) + (r.length : Int) := fun v hv => by
        have := q2 v hv
        rw [nr rfl] at this
        omega
      have q4 := tail_of hL e
      rw [decide_eq_true (by rw [e]; exact List.mem_cons_self ..)] at f1 f2
      rw [e, List.length_cons] at hl
      cases hs : isAny s with
      | true =>
        rw [nbl_any hs] at hl
        cases pl with
        | true =>
          have lo := fit_least r L (i + 1) _ X' f2 q1 q3 q4
          have par := cnt_par r (p := p + b01 true + b01 true + n) (q := p + n) (by omega)
          omega
        | false =>
          have lo := fit_least r L (i + 1) _ X' f2 q1 q3 q4
          have nx : nxt r (p + n) = true := by
            cases q : nxt r (p + n) with
            | true => rfl
            | false =>
              have := nxt_le r (p + n) q
              rw [show p + b01 false + b01 true + n = p + n + 1 by omega] at lo
              omega
          have ih := fit_pick r L (i + 1) (p + n) true X' (by rw [show p + n + b01 true = p + b01 false + b01 true + n by omega]; exact f2) q1 q3 q4 (fun _ => nx) (by omega)
          exact .inr (.inl ⟨hs, rfl, .inl ⟨X', e, nx, ih⟩⟩)
      | false =>
        cases pl with
        | true =>
          have nx := hn rfl
          rw [nxt_bound hs] at nx
          rw [show p + b01 true + b01 true = p + 1 + 1 by omega, fits_flip hs, fits_flip hs] at f1
          cases q : fits s p with
          | true => rw [q] at nx; cases nx
          | false => rw [q] at f1; cases f1
        | false =>
          rw [show p + b01 false + b01 true = p + 1 by omega, fits_flip hs] at f1
          have hq : fits s p = false := by
            cases q : fits s p with
            | true => rw [q] at f1; cases f1
            | false => rfl
          rw [nbl_not hq] at hl
          have ih := fit_pick r L (i + 1) (p + 1 + n) false X' (by rw [show p + 1 + n + b01 false = p + b01 false + b01 true + n by omega]; exact f2) q1 q3 q4 (fun z => nomatch z) (by omega)
          exact .inr (.inr (.inr (.inr ⟨hs, rfl, hq, X', e, ih⟩)))
    · have q3 : ∀ v ∈ X, ((i + 1 : Nat) : Int) ≤ v ∧ v < ((i + 1 : Nat) : Int) + (r.length : Int) := fun v hv => by
        have := q2 v hv
        rw [nr rfl] at this
        omega
      have q4 : ∀ j : Nat, i + 1 ≤ j → ((j : Int) ∈ L ↔ (j : Int) ∈ X) := fun j hj => hL j (by omega)
      rw [decide_eq_false no] at f1 f2
      cases hs : isAny s with
      | true =>
        rw [nbl_any hs] at hl
        cases pl with
        | true =>
          have nx := hn rfl
          rw [nxt_any hs] at nx
          have ih := fit_pick r L (i + 1) (p + n) true X (by rw [show p + n + b01 true = p + b01 true + b01 false + n by omega]; exact f2) hp q3 q4 (fun _ => nx) hl
          exact .inl ⟨hs, rfl, ih⟩
        | false =>
          have ih := fit_pick r L (i + 1) (p + n) false X (by rw [show p + n + b01 false = p + b01 false + b01 false + n by omega]; exact f2) hp q3 q4 (fun z => nomatch z) hl
          exact .inr (.inl ⟨hs, rfl, .inr ih⟩)
      | false =>
        cases pl with
        | true =>
          have nx := hn rfl
          rw [nxt_bound hs] at nx
          have hq : fits s p = false := by
            cases q : fits s p with
            | true => rw [q] at nx; cases nx
            | false => rfl
          rw [nbl_not hq] at hl
          have ih := fit_pick r L (i + 1) (p + 1 + n) false X (by rw [show p + 1 + n + b01 false = p + b01 true + b01 false + n by omega]; exact f2) hp q3 q4 (fun z => nomatch z) (by omega)
          exact .inr (.inr (.inl ⟨hs, rfl, hq, ih⟩))
        | false =>
          rw [show p + b01 false + b01 false = p by omega] at f1
          rw [nbl_fit f1] at hl
          have ih := fit_pick r L (i + 1) (p + n) false X (by rw [show p + n + b01 false = p + b01 false + b01 false + n by omega]; exact f2) hp q3 q4 (fun z => nomatch z) hl
          exact .inr (.inr (.inr (.inl ⟨hs, rfl, f1, ih⟩)))
end RP

/-! MP9: short layouts are one place out of each stretch that needs a blank page. -/
namespace RP
open PySem PySem.Spec PyProof.Rows L2 DL

/-- one turn of a comprehension that keeps or leaves -/
theorem step_filter {vs : List Nat} {g : FG} {t : FT} {fe : FE} {d x : PyData} {env e1 env' : DL.Env} {b : Bool} (h1 : g d env = some e1) (h2 : t e1 = some (b, e1)) (h3 : fe e1 = some (.dat x, e1)) (h4 : kill e1 vs = env') : stepC vs g t fe d env = some (if b = true then some x else none, env') := by
  unfold stepC
  rw [h1, Option.bind_some, h2, Option.bind_some]
  cases b with
  | true =>
    simp only [if_true]
    rw [h3, Option.bind_some]
    show (some (x, e1)).bind _ = _
    rw [Option.bind_some, h4]
  | false =>
    rw [if_neg (by simp), if_neg (by simp), h4]
/-- one turn of a comprehension that keeps all -/
theorem step_map {vs : List Nat} {g : FG} {fe : FE} {d x : PyData} {env e1 e2 e3 env' : DL.Env} {r : Rs} (h1 : g d env = some e1) (h3 : fe e1 = some (r, e2)) (hf : frz e2 r = some (x, e3)) (h4 : kill e3 vs = env') : stepC vs g ftYes fe d env = some (some x, env') := by
  unfold stepC
  rw [h1, Option.bind_some]
  show (some (true, e1)).bind _ = _
  rw [Option.bind_some]
  simp only [if_true]
  rw [h3, Option.bind_some, hf, Option.bind_some, h4]
/-- the stretches that need a blank page: from, to -/
def nds (ps : List Pt) (i : Nat) (f p : Int) : List (Int × Int) := ((strM ps i f p).filter (·.2.2)).map fun x => (x.1, x.2.1)
def inP : List (Int × Int) → List Int → Prop
  | [], [] => True
  | (f, i) :: N, x :: X => (f ≤ x ∧ x ≤ i) ∧ inP N X
  | _, _ => False
theorem nds_any {s : Sd} (h : isAny s = true) (n : Int) (r : List Pt) (i : Nat) (f p : Int) : nds ((s, n) :: r) i f p = nds r (i + 1) f (p + n) := by
  unfold nds
  show List.map _ (List.filter _ (if isAny s = true then _ else _)) = _
  rw [if_pos h, fits_any h]
  show List.map _ (List.filter _ (strM r (i + 1) f (p + 0 + n))) = _
  rw [Int.add_zero]
theorem nds_fit {s : Sd} (h : isAny s = false) {p : Int} (hf : fits s p = true) (n : Int) (r : List Pt) (i : Nat) (f : Int) : nds ((s, n) :: r) i f p = nds r (i + 1) ((i : Int) + 1) (p + n) := by
  unfold nds
  show List.map _ (List.filter _ (if isAny s = true then _ else _)) = _
  rw [h, if_neg (by simp), hf, List.filter_cons_of_neg (by simp)]
  show List.map _ (List.filter _ (strM r (i + 1) _ (p + 0 + n))) = _
  rw [Int.add_zero]
theorem nds_not {s : Sd} (h : isAny s = false) {p : Int} (hf : fits s p = false) (n : Int) (r : List Pt) (i : Nat) (f : Int) : nds ((s, n) :: r) i f p = (f, (i : Int)) :: nds r (i + 1) ((i : Int) + 1) (p + 1 + n) := by
  unfold nds
  show List.map _ (List.filter _ (if isAny s = true then _ else _)) = _
  rw [h, if_neg (by simp), hf, List.filter_cons_of_pos (by simp)]
  rfl
theorem inP_nil {X : List Int} : inP [] X ↔ X = [] := by
  cases X with
  | nil => exact ⟨fun _ => rfl, fun _ => trivial⟩
  | cons x r => exact ⟨fun h => h.elim, fun h => nomatch h⟩
theorem inP_cons {f i : Int} {N : List (Int × Int)} {X : List Int} : inP ((f, i) :: N) X ↔ ∃ x X', X = x :: X' ∧ f ≤ x ∧ x ≤ i ∧ inP N X' := by
  cases X with
  | nil => exact ⟨fun h => h.elim, fun ⟨x, X', e, _⟩ => nomatch e⟩
  | cons x r =>
    constructor
    · intro h
      exact ⟨x, r, rfl, h.1.1, h.1.2, h.2⟩
    · rintro ⟨y, X', e, h1, h2, h3⟩
      cases e
      exact ⟨⟨h1, h2⟩, h3⟩
theorem pick_nds : ∀ (ps : List Pt) (i : Nat) (lo p : Int) (X : List Int), lo ≤ (i : Int) → (inP (nds ps i lo p) X ↔ pick ps i p false X ∨ ∃ x X', X = x :: X' ∧ lo ≤ x ∧ x < (i : Int) ∧ nxt ps p = true ∧ pick ps i p true X')
  | [], i, lo, p, X, _ => by
    show inP [] X ↔ (false = false ∧ X = []) ∨ _
    rw [inP_nil]
    constructor
    · intro h
      exact .inl ⟨rfl, h⟩
    · rintro (⟨_, h⟩ | ⟨x, X', _, _, _, h, _⟩)
      · exact h
      · cases h
  | (s, n) :: r, i, lo, p, X, hlo => by
    cases hs : isAny s with
    | true =>
      rw [nds_any hs, pick_nds r (i + 1) lo (p + n) X (by omega), nxt_any hs]
      constructor
      · rintro (h | ⟨x, X', e, h1, h2, h3, h4⟩)
        · exact .inl (.inr (.inl ⟨hs, rfl, .inr h⟩))
        · by_cases q : x = (i : Int)
          · subst q
            exact .inl (.inr (.inl ⟨hs, rfl, .inl ⟨X', e, h3, h4⟩⟩))
          · exact .inr ⟨x, X', e, h1, by omega, h3, .inl ⟨hs, rfl, h4⟩⟩
      · rintro (h | ⟨x, X', e, h1, h2, h3, h4⟩)
        · rcases h with ⟨_, q, _⟩ | ⟨_, _, h⟩ | ⟨q, _⟩ | ⟨q, _⟩ | ⟨q, _⟩
          · cases q
          · rcases h with ⟨X', e, h3, h4⟩ | h
            · exact .inr ⟨(i : Int), X', e, hlo, by omega, h3, h4⟩
            · exact .inl h
          all_goals (rw [hs] at q; cases q)
        · rcases h4 with ⟨_, _, h⟩ | ⟨_, q, _⟩ | ⟨q, _⟩ | ⟨q, _⟩ | ⟨q, _⟩
          · exact .inr ⟨x, X', e, h1, by omega, h3, h⟩
          · cases q
          all_goals (rw [hs] at q; cases q)
    | false =>
      rw [nxt_bound hs]
      cases hf : fits s p with
      | true =>
        rw [nds_fit hs hf, pick_nds r (i + 1) ((i : Int) + 1) (p + n) X (by omega)]
        constructor
        · rintro (h | ⟨x, X', e, h1, h2, h3, h4⟩)
          · exact .inl (.inr (.inr (.inr (.inl ⟨hs, rfl, hf, h⟩))))
          · omega
        · rintro (h | ⟨x, X', e, h1, h2, h3, h4⟩)
          · rcases h with ⟨q, _⟩ | ⟨q, _⟩ | ⟨_, q, _⟩ | ⟨_, _, _, h⟩ | ⟨_, _, q, _⟩
            · rw [hs] at q; cases q
            · rw [hs] at q; cases q
            · cases q
            · exact .inl h
            · rw [hf] at q; cases q
          · cases h3
      | false =>
        rw [nds_not hs hf, inP_cons]
        have ih := fun X' => pick_nds r (i + 1) ((i : Int) + 1) (p + 1 + n) X' (by omega)
        have ih2 : ∀ X', inP (nds r (i + 1) ((i : Int) + 1) (p + 1 + n)) X' ↔ pick r (i + 1) (p + 1 + n) false X' := fun X' => by
          rw [ih X']
          constructor
          · rintro (h | ⟨x, Y, _, h1, h2, _⟩)
            · exact h
            · omega
          · exact .inl
        constructor
        · rintro ⟨x, X', e, h1, h2, h3⟩
          rw [ih2] at h3
          by_cases q : x = (i : Int)
          · subst q
            exact .inl (.inr (.inr (.inr (.inr ⟨hs, rfl, hf, X', e, h3⟩))))
          · exact .inr ⟨x, X', e, h1, by omega, rfl, .inr (.inr (.inl ⟨hs, rfl, hf, h3⟩))⟩
        · rintro (h | ⟨x, X', e, h1, h2, _, h4⟩)
          · rcases h with ⟨q, _⟩ | ⟨q, _⟩ | ⟨_, q, _⟩ | ⟨_, _, q, _⟩ | ⟨_, _, _, X', e, h⟩
            · rw [hs] at q; cases q
            · rw [hs] at q; cases q
            · cases q
            · rw [hf] at q; cases q
            · exact ⟨(i : Int), X', e, hlo, Int.le_refl _, (ih2 X').mpr h⟩
          · rcases h4 with ⟨q, _⟩ | ⟨q, _⟩ | ⟨_, _, _, h⟩ | ⟨_, q, _⟩ | ⟨_, q, _⟩
            · rw [hs] at q; cases q
            · rw [hs] at q; cases q
            · exact ⟨x, X', e, h1, by omega, (ih2 X').mpr h⟩
            · cases q
            · cases q
/-- the short layouts -/
def isShort (ps : List Pt) (X : List Int) : Prop := inP (nds ps 0 0 1) X
theorem short_pick (ps : List Pt) (X : List Int) : isShort ps X ↔ pick ps 0 1 false X := by
  unfold isShort
  rw [pick_nds ps 0 0 1 X (Int.le_refl 0)]
  constructor
  · rintro (h | ⟨x, X', _, h1, h2, _⟩)
    · exact h
    · omega
  · exact .inl
/-- the good groups of least size are the short layouts -/
theorem short_iff (ps : List Pt) (g : List Int) : (g ∈ goodG ps ∧ (g.length : Int) = nbl ps 1) ↔ isShort ps g := by
  rw [short_pick, good_mem]
  have f : b01 false = 0 := rfl
  constructor
  · rintro ⟨⟨⟨h1, h2⟩, h3⟩, h4⟩
    exact fit_pick ps g 0 1 false g (by rw [f, Int.add_zero]; exact h3) (incr_pw h1) (fun v hv => by have := h2 v hv; omega) (fun j _ => Iff.rfl) (fun z => nomatch z) (by rw [f, Int.add_zero]; exact h4)
  · intro h
    obtain ⟨a, b⟩ := pick_range ps 0 1 false g h
    have l := pick_len ps 0 1 false g h
    have ft := pick_fit ps g 0 1 false g h fun j _ => Iff.rfl
    rw [f, Int.add_zero] at l ft
    exact ⟨⟨⟨pw_incr a, fun v hv => by have := b v hv; omega⟩, ft⟩, l⟩
theorem good_least {ps : List Pt} {g : List Int} (h : g ∈ goodG ps) : nbl ps 1 ≤ (g.length : Int) := by
  obtain ⟨⟨h1, h2⟩, h3⟩ := good_mem.mp h
  exact fit_least ps g 0 1 g h3 (incr_pw h1) (fun v hv => by have := h2 v hv; omega) fun j _ => Iff.rfl
theorem lat_short (ps : List Pt) : isShort ps (lat ps 0 1) := (short_iff ps _).mp ⟨lat_good ps, lat_len ps 0 1⟩
theorem eps_short (ps : List Pt) : isShort ps (eps ps 0 0 1) := (short_iff ps _).mp ⟨eps_good ps, by
  unfold eps
  rw [List.length_map]
  exact few_cnt ps⟩
/-! ### _law_short -/
def shortS (ps : List Pt) : List (List Int) := (sortL (goodG ps)).filter fun g => decide ((g.length : Int) = nbl ps 1)
theorem shortS_mem {ps : List Pt} {g : List Int} : g ∈ shortS ps ↔ isShort ps g := by
  unfold shortS
  rw [List.mem_filter, sort_mem, decide_eq_true_eq]
  exact short_iff ps g
theorem shortS_srt (ps : List Pt) : srtL (shortS ps) := List.Pairwise.sublist List.filter_sublist (sortL_srt _)
theorem minL_is : ∀ (r : List Int) (x m : Int), (∀ y ∈ x :: r, m ≤ y) → m ∈ x :: r → minL x r = m := fun r x m h1 h2 => by
  obtain ⟨a, b, c⟩ := minL_le' r x
  have lo : m ≤ minL x r := by
    rcases c with c | c
    · rw [c]; exact h1 x (List.mem_cons_self ..)
    · exact h1 _ (List.mem_cons_of_mem _ c)
  rcases List.mem_cons.mp h2 with e | h2
  · omega
  · have := b m h2
    omega
  where minL_le' : ∀ (r : List Int) (m : Int), minL m r ≤ m ∧ (∀ y ∈ r, minL m r ≤ y) ∧ (minL m r = m ∨ minL m r ∈ r)
    | [], m => ⟨Int.le_refl m, fun y h => absurd h (by simp), Or.inl rfl⟩
    | x :: r, m => by
      obtain ⟨h1, h2, h3⟩ := minL_le' r (if x < m then x else m)
      simp only [minL]
      by_cases hx : x < m
      · rw [if_pos hx] at h1 h2 h3 ⊢
        refine ⟨by omega, fun y hy => ?_, ?_⟩
        · rcases List.mem_cons.mp hy with rfl | hy
          · exact h1
          · exact h2 y hy
        · rcases h3 with h3 | h3
          · exact .inr (by rw [h3]; exact List.mem_cons_self ..)
          · exact .inr (List.mem_cons_of_mem _ h3)
      · rw [if_neg hx] at h1 h2 h3 ⊢
        refine ⟨h1, fun y hy => ?_, ?_⟩
        · rcases List.mem_cons.mp hy with rfl | hy
          · omega
          · exact h2 y hy
        · rcases h3 with h3 | h3
          · exact .inl h3
          · exact .inr (List.mem_cons_of_mem _ h3)
theorem law_short_eq (ps : List Pt) (hl : ps.length ≤ 8) : _law_short_F [dPs ps] = some (.new ((shortS ps).map tupD)) := by
  let G := sortL (goodG ps)
  let E0 : DL.Env := [.dat (dPs ps), .dead, .dead, .dead]
  let E1 : DL.Env := [.dat (dPs ps), .own false (G.map tupD), .dead, .dead]
  let E2 : DL.Env := [.dat (dPs ps), .dat (.list (G.map tupD)), .dead, .dead]
  let E3 : DL.Env := [.dat (dPs ps), .dat (.list (G.map tupD)), .dat (.int (nbl ps 1)), .dead]
  have gs : G.length ≤ 256 := sort_small ps hl
  have ha : fCallN 1 _law_all_F (faCons (fName 0) faNil) E0 = some (.new (G.map tupD), E0) := ev_call (ea_dat (fa := fName 0) (d := dPs ps) rfl ea_nil) rfl (law_all_eq ps hl)
  refine run_ret (r1 := .new ((shortS ps).map tupD)) (e := E3) rfl ?_ rfl
  refine (es_seq (e := E1) ((es_new (i := 1) ha (by show 1 < 4; decide)).trans rfl)).trans ?_
  let fL : PyData → Option PyData := fun x => match x with
    | .tuple xs => some (.int (xs.length : Int))
    | _ => none
  have c1 : fComp [3] (fiSeq (fName 1)) (fgName 3) ftYes (fUn bLen (fName 3)) E1 = some (.new ((G.map tupD).filterMap fL), E2) := by
    refine ev_comp (e := E2) rfl (small_line (by rw [List.length_map]; omega)) fun x hx => ?_
    obtain ⟨g, hg, rfl⟩ := List.mem_map.mp hx
    kernel_rfl
  have e1 : (G.map tupD).filterMap fL = (G.map fun g => (g.length : Int)).map PyData.int := by
    rw [fm_map fL tupD (fun g => .int (g.length : Int)) (fun g => by
      show some (PyData.int ((g.map PyData.int).length : Int)) = _
      rw [List.length_map]), List.map_map]
    rfl
  rw [e1] at c1
  have mn : bMin (.list ((G.map fun g => (g.length : Int)).map PyData.int)) = some (.dat (.int (nbl ps 1))) := by
    show (intsOf _).bind _ = _
    rw [intsOf_map, Option.bind_some]
    have hmem : nbl ps 1 ∈ G.map fun g => (g.length : Int) := List.mem_map.mpr ⟨lat ps 0 1, sort_mem.mpr (lat_good ps), lat_len ps 0 1⟩
    have hle : ∀ y ∈ G.map fun g => (g.length : Int), nbl ps 1 ≤ y := fun y hy => by
      obtain ⟨g, hg, rfl⟩ := List.mem_map.mp hy
      exact good_least (sort_mem.mp hg)
    cases q : G.map fun g => (g.length : Int) with
    | nil => rw [q] at hmem; cases hmem
    | cons x r =>
      rw [q] at hmem hle
      show some (ri (minL x r)) = _
      rw [minL_is r x _ hle hmem]
      rfl
  refine (es_seq (e := E3) ((es_name (i := 2) (ev_un c1 rfl mn) (by show 2 < 4; decide)).trans rfl)).trans ?_
  let fS : PyData → Option PyData := fun x => match x with
    | .tuple xs => if decide ((xs.length : Int) = nbl ps 1) = true then some x else none
    | _ => none
  have c2 : fComp [3] (fiSeq (fName 1)) (fgName 3) (fB (fBin opEq (fUn bLen (fName 3)) (fName 2))) (fName 3) E3 = some (.new ((G.map tupD).filterMap fS), E3) := by
    refine ev_comp (e := E3) rfl (small_line (by rw [List.length_map]; omega)) fun x hx => ?_
    obtain ⟨g, hg, rfl⟩ := List.mem_map.mp hx
    let E4 : DL.Env := [.dat (dPs ps), .dat (.list (G.map tupD)), .dat (.int (nbl ps 1)), .dat (tupD g)]
    have q : fB (fBin opEq (fUn bLen (fName 3)) (fName 2)) E4 = some (decide (((g.map PyData.int).length : Int) = nbl ps 1), E4) := ev_B (ev_bind (fa := fUn bLen (fName 3)) (x := .int ((g.map PyData.int).length : Int)) (e1 := E4) rfl (fb := fName 2) (y := .int (nbl ps 1)) rfl (op_eq_int _ _))
    have ef : fS (tupD g) = if decide (((g.map PyData.int).length : Int) = nbl ps 1) = true then some (tupD g) else none := rfl
    rw [ef]
    exact step_filter (e1 := E4) rfl q rfl rfl
  have e2 : (G.map tupD).filterMap fS = (shortS ps).map tupD := by
    rw [filt fS tupD (fun g => decide ((g.length : Int) = nbl ps 1)) tupD (fun g => by
      show (if decide (((g.map PyData.int).length : Int) = nbl ps 1) = true then some (tupD g) else none) = _
      rw [List.length_map])]
    rfl
  rw [e2] at c2
  exact es_ret c2
theorem at_short {env : DL.Env} {fa : FE} {ps : List Pt} (ha : fa env = some (.dat (dPs ps), env)) (hl : ps.length ≤ 8) : fCallN 1 _law_short_F (faCons fa faNil) env = some (.new ((shortS ps).map tupD), env) := ev_call (ea_dat ha ea_nil) rfl (law_short_eq ps hl)
end RP

/-! MP10: parts that face the next one. -/
namespace RP
open PySem PySem.Spec PyProof.Rows L2 DL

theorem row_at {env : DL.Env} {A : List Pt} {fa fi : FE} {k : Nat} {q : Pt} (ha : fa env = some (.dat (dPs A), env)) (hi : fi env = some (.dat (.int (k : Int)), env)) (hq : A[k]? = some q) : fBin opIx fa fi env = some (.dat (dP q), env) := by
  refine ev_bind ha hi ?_
  have e : (A.map dP)[k]? = some (dP q) := by rw [List.getElem?_map, hq]; rfl
  show (L2.atI (A.map dP) (k : Int)).map Rs.dat = _
  rw [ix_nat e]
  rfl
theorem page_at {env : DL.Env} {f : FE} {q : Pt} (h : f env = some (.dat (dP q), env)) : fBin opIx f (fC (.int 1)) env = some (.dat (.int q.2), env) := ev_bind h rfl rfl
theorem int_at (st : List Int) (k : Nat) (a : Int) (h : st[k]? = some a) : L2.atI (st.map PyData.int) (k : Int) = some (.int a) := ix_nat (by rw [List.getElem?_map, h]; rfl)
def fcond (ps : List Pt) (st : List Int) (k : Nat) : Bool := match ps[k]?, st[k]?, st[k + 1]? with
  | some q, some a, some b => decide (b = a + q.2 - 1 + 1) && decide ((a + q.2 - 1) % 2 = 0)
  | _, _, _ => false
def facR (ps : List Pt) (st : List Int) (k m : Nat) : List Int := ((List.range' k m).filter (fcond ps st)).map fun (j : Nat) => (j : Int)
theorem facR_succ (ps : List Pt) (st : List Int) (k m : Nat) : facR ps st k (m + 1) = (if fcond ps st k = true then [(k : Int)] else []) ++ facR ps st (k + 1) m := by
  unfold facR
  rw [List.range'_succ, List.filter_cons]
  split <;> rfl
def facL (ps : List Pt) (st : List Int) : List Int := facR ps st 0 (ps.length - 1)
section
variable (ps : List Pt) (D : PyData) (st : List Int)
abbrev eW (acc : List PyData) (x4 x5 : Sl) : DL.Env := [.dat (dPs ps), .dat D, .own false (st.map PyData.int), .own false acc, x4, x5]
theorem lfac_step (hs : st.length = ps.length) (acc : List PyData) (k : Nat) (hk : k + 1 < ps.length) (hl : acc.length < sizeLine) :
    b1__law_facings (.int (k : Int)) (eW ps D st acc .dead .dead) = some (.nx (eW ps D st (acc ++ (if fcond ps st k = true then [.int (k : Int)] else [])) .dead .dead)) := by
  have h0 : ps[k]? = some ps[k] := List.getElem?_eq_getElem (by omega)
  have h1 : st[k]? = some (st[k]'(by omega)) := List.getElem?_eq_getElem (by omega)
  have h2 : st[k + 1]? = some (st[k + 1]'(by omega)) := List.getElem?_eq_getElem (by omega)
  generalize ps[k] = q at h0
  generalize st[k]'(by omega) = a at h1
  generalize st[k + 1]'(by omega) = b at h2
  have fc : fcond ps st k = (decide (b = a + q.2 - 1 + 1) && decide ((a + q.2 - 1) % 2 = 0)) := by
    unfold fcond
    rw [h0, h1, h2]
  let E0 := eW ps D st acc (.dat (.int (k : Int))) .dead
  let E1 := eW ps D st acc (.dat (.int (k : Int))) (.dat (.int (a + q.2 - 1)))
  have i1 : fBin opIx (fName 2) (fName 4) E0 = some (.dat (.int a), E0) := ev_bin (r1 := .own 2) (e1 := E0) (r2 := .dat (.int (k : Int))) (e2 := E0) (x := .list (st.map PyData.int)) (y := .int (k : Int)) rfl rfl rfl rfl (by
    show (L2.atI (st.map PyData.int) (k : Int)).map Rs.dat = _
    rw [int_at st k a h1]; rfl)
  have i2 : fBin opIx (fBin opIx (fName 0) (fName 4)) (fC (.int 1)) E0 = some (.dat (.int q.2), E0) := page_at (row_at rfl rfl h0)
  have i3 := ev_bind (op := opSub) (fb := fC (.int 1)) (ev_bind (op := opAdd) i1 i2 (r := .dat (.int (a + q.2))) rfl) rfl (r := .dat (.int (a + q.2 - 1))) rfl
  have i4 : fBin opAdd (fName 4) (fC (.int 1)) E1 = some (.dat (.int ((k + 1 : Nat) : Int)), E1) := ev_bind (fa := fName 4) (x := .int (k : Int)) rfl rfl rfl
  have i5 : fBin opIx (fName 2) (fBin opAdd (fName 4) (fC (.int 1))) E1 = some (.dat (.int b), E1) := ev_bin (fa := fName 2) (r1 := .own 2) (e1 := E1) (x := .list (st.map PyData.int)) rfl i4 rfl rfl (by
    show (L2.atI (st.map PyData.int) ((k + 1 : Nat) : Int)).map Rs.dat = _
    rw [int_at st (k + 1) b h2]; rfl)
  have t1 : fB (fBin opEq (fBin opIx (fName 2) (fBin opAdd (fName 4) (fC (.int 1)))) (fBin opAdd (fName 5) (fC (.int 1)))) E1 = some (decide (b = a + q.2 - 1 + 1), E1) := ev_B (ev_bind i5 (fb := fBin opAdd (fName 5) (fC (.int 1))) (y := .int (a + q.2 - 1 + 1)) rfl (op_eq_int _ _))
  have t2 : fB (fBin opEq (fBin opMod (fName 5) (fC (.int 2))) (fC (.int 0))) E1 = some (decide ((a + q.2 - 1) % 2 = 0), E1) := ev_B (ev_bind (fa := fBin opMod (fName 5) (fC (.int 2))) (x := .int ((a + q.2 - 1) % 2)) (by kernel_rfl) rfl (op_eq_int _ _))
  have t3 : ∃ b2, ftAnd (fB (fBin opEq (fBin opIx (fName 2) (fBin opAdd (fName 4) (fC (.int 1)))) (fBin opAdd (fName 5) (fC (.int 1))))) (fB (fBin opEq (fBin opMod (fName 5) (fC (.int 2))) (fC (.int 0)))) E1 = some (b2, E1) ∧ b2 = fcond ps st k := ⟨_, ev_and t1 (fun _ => t2) fun _ => rfl, fc.symm⟩
  obtain ⟨b2, t3, rfl⟩ := t3
  let E2 := eW ps D st (acc ++ (if fcond ps st k = true then [.int (k : Int)] else [])) (.dat (.int (k : Int))) (.dat (.int (a + q.2 - 1)))
  refine step_nx (e1 := E0) (e2 := E2) rfl ?_
  refine (es_seq (e := E1) ((es_name (i := 5) i3 (by show 5 < 6; decide)).trans rfl)).trans ?_
  cases hc : fcond ps st k with
  | true =>
    rw [hc] at t3
    refine (es_ifT t3).trans ?_
    refine (es_app (i := 3) (c := false) (ds0 := acc) (c' := false) (ds := acc) (d := .int (k : Int)) (e1 := E1) (r := .dat (.int (k : Int))) rfl rfl rfl rfl hl).trans ?_
    show _ = some (Out.nx (eW ps D st (acc ++ (if fcond ps st k = true then [.int (k : Int)] else [])) _ _))
    rw [hc]
    rfl
  | false =>
    rw [hc] at t3
    refine (es_ifF t3).trans ?_
    show _ = some (Out.nx (eW ps D st (acc ++ (if fcond ps st k = true then [.int (k : Int)] else [])) _ _))
    rw [hc, if_neg (by simp), List.append_nil]
    rfl
theorem lfac_loop (hs : st.length = ps.length) : ∀ (m k : Nat) (acc : List PyData), k + m + 1 ≤ ps.length ∨ m = 0 → acc.length + m ≤ sizeLine → forD b1__law_facings ((List.range' k m).map fun (i : Nat) => PyData.int (0 + (i : Int))) (eW ps D st acc .dead .dead) = some (.nx (eW ps D st (acc ++ (facR ps st k m).map PyData.int) .dead .dead))
  | 0, k, acc, _, _ => by
    show some (Out.nx (eW ps D st acc .dead .dead)) = _
    simp [facR]
  | m + 1, k, acc, h, hl => by
    have h' : k + (m + 1) + 1 ≤ ps.length := by rcases h with h | h <;> omega
    rw [List.range'_succ, List.map_cons, Int.zero_add]
    refine (for_cons (lfac_step ps D st hs acc k (by omega) (by omega))).trans ?_
    rw [lfac_loop hs m (k + 1) _ (by omega) (by
      rw [List.length_append]
      split
      · show acc.length + 1 + m ≤ _; omega
      · show acc.length + 0 + m ≤ _; omega), facR_succ, List.map_append, List.append_assoc]
    split <;> rfl
abbrev eZ (acc : List PyData) (x4 x5 : Sl) : DL.Env := [.dat (dPs ps), .dat D, .own false acc, .dat (.tuple (st.map PyData.int)), x4, x5]
theorem fac_step (hs : st.length = ps.length) (acc : List PyData) (k : Nat) (hk : k + 1 < ps.length) (hl : acc.length < sizeLine) :
    b1_facings (.int (k : Int)) (eZ ps D st acc .dead .dead) = some (.nx (eZ ps D st (acc ++ (if fcond ps st k = true then [.int (k : Int)] else [])) .dead .dead)) := by
  have h0 : ps[k]? = some ps[k] := List.getElem?_eq_getElem (by omega)
  have h1 : st[k]? = some (st[k]'(by omega)) := List.getElem?_eq_getElem (by omega)
  have h2 : st[k + 1]? = some (st[k + 1]'(by omega)) := List.getElem?_eq_getElem (by omega)
  generalize ps[k] = q at h0
  generalize st[k]'(by omega) = a at h1
  generalize st[k + 1]'(by omega) = b at h2
  have fc : fcond ps st k = (decide ((a + q.2 - 1) % 2 = 0) && decide (b = a + q.2 - 1 + 1)) := by
    unfold fcond
    rw [h0, h1, h2]
    exact Bool.and_comm _ _
  let E0 := eZ ps D st acc (.dat (.int (k : Int))) .dead
  let E1 := eZ ps D st acc (.dat (.int (k : Int))) (.dat (.int (a + q.2 - 1)))
  have i1 : fBin opIx (fName 3) (fName 4) E0 = some (.dat (.int a), E0) := ev_bind (fa := fName 3) (fb := fName 4) (x := .tuple (st.map PyData.int)) (y := .int (k : Int)) rfl rfl (by
    show (L2.atI (st.map PyData.int) (k : Int)).map Rs.dat = _
    rw [int_at st k a h1]; rfl)
  have i2 : fBin opIx (fBin opIx (fName 0) (fName 4)) (fC (.int 1)) E0 = some (.dat (.int q.2), E0) := page_at (row_at rfl rfl h0)
  have i3 := ev_bind (op := opSub) (fb := fC (.int 1)) (ev_bind (op := opAdd) i1 i2 (r := .dat (.int (a + q.2))) rfl) rfl (r := .dat (.int (a + q.2 - 1))) rfl
  have i4 : fBin opAdd (fName 4) (fC (.int 1)) E1 = some (.dat (.int ((k + 1 : Nat) : Int)), E1) := ev_bind (fa := fName 4) (x := .int (k : Int)) rfl rfl rfl
  have i5 : fBin opIx (fName 3) (fBin opAdd (fName 4) (fC (.int 1))) E1 = some (.dat (.int b), E1) := ev_bind (fa := fName 3) (x := .tuple (st.map PyData.int)) rfl i4 (by
    show (L2.atI (st.map PyData.int) ((k + 1 : Nat) : Int)).map Rs.dat = _
    rw [int_at st (k + 1) b h2]; rfl)
  have t1 : fB (fBin opEq (fBin opIx (fName 3) (fBin opAdd (fName 4) (fC (.int 1)))) (fBin opAdd (fName 5) (fC (.int 1)))) E1 = some (decide (b = a + q.2 - 1 + 1), E1) := ev_B (ev_bind i5 (fb := fBin opAdd (fName 5) (fC (.int 1))) (y := .int (a + q.2 - 1 + 1)) rfl (op_eq_int _ _))
  have t2 : fB (fBin opEq (fBin opMod (fName 5) (fC (.int 2))) (fC (.int 0))) E1 = some (decide ((a + q.2 - 1) % 2 = 0), E1) := ev_B (ev_bind (fa := fBin opMod (fName 5) (fC (.int 2))) (x := .int ((a + q.2 - 1) % 2)) (by kernel_rfl) rfl (op_eq_int _ _))
  have t3 : ∃ b2, ftAnd (fB (fBin opEq (fBin opMod (fName 5) (fC (.int 2))) (fC (.int 0)))) (fB (fBin opEq (fBin opIx (fName 3) (fBin opAdd (fName 4) (fC (.int 1)))) (fBin opAdd (fName 5) (fC (.int 1))))) E1 = some (b2, E1) ∧ b2 = fcond ps st k := ⟨_, ev_and t2 (fun _ => t1) fun _ => rfl, fc.symm⟩
  obtain ⟨b2, t3, rfl⟩ := t3
  let E2 := eZ ps D st (acc ++ (if fcond ps st k = true then [.int (k : Int)] else [])) (.dat (.int (k : Int))) (.dat (.int (a + q.2 - 1)))
  refine step_nx (e1 := E0) (e2 := E2) rfl ?_
  refine (es_seq (e := E1) ((es_name (i := 5) i3 (by show 5 < 6; decide)).trans rfl)).trans ?_
  cases hc : fcond ps st k with
  | true =>
    rw [hc] at t3
    refine (es_ifT t3).trans ?_
    refine (es_app (i := 2) (c := false) (ds0 := acc) (c' := false) (ds := acc) (d := .int (k : Int)) (e1 := E1) (r := .dat (.int (k : Int))) rfl rfl rfl rfl hl).trans ?_
    show _ = some (Out.nx (eZ ps D st (acc ++ (if fcond ps st k = true then [.int (k : Int)] else [])) _ _))
    rw [hc]
    rfl
  | false =>
    rw [hc] at t3
    refine (es_ifF t3).trans ?_
    show _ = some (Out.nx (eZ ps D st (acc ++ (if fcond ps st k = true then [.int (k : Int)] else [])) _ _))
    rw [hc, if_neg (by simp), List.append_nil]
    rfl
theorem fac_loop (hs : st.length = ps.length) : ∀ (m k : Nat) (acc : List PyData), k + m + 1 ≤ ps.length ∨ m = 0 → acc.length + m ≤ sizeLine → forD b1_facings ((List.range' k m).map fun (i : Nat) => PyData.int (0 + (i : Int))) (eZ ps D st acc .dead .dead) = some (.nx (eZ ps D st (acc ++ (facR ps st k m).map PyData.int) .dead .dead))
  | 0, k, acc, _, _ => by
    show some (Out.nx (eZ ps D st acc .dead .dead)) = _
    simp [facR]
  | m + 1, k, acc, h, hl => by
    have h' : k + (m + 1) + 1 ≤ ps.length := by rcases h with h | h <;> omega
    rw [List.range'_succ, List.map_cons, Int.zero_add]
    refine (for_cons (fac_step ps D st hs acc k (by omega) (by omega))).trans ?_
    rw [fac_loop hs m (k + 1) _ (by omega) (by
      rw [List.length_append]
      split
      · show acc.length + 1 + m ≤ _; omega
      · show acc.length + 0 + m ≤ _; omega), facR_succ, List.map_append, List.append_assoc]
    split <;> rfl
end
theorem stM_len : ∀ (ps : List Pt) (L : List Int) (i : Nat) (p : Int), (stM ps L i p).length = ps.length
  | [], _, _, _ => rfl
  | (s, n) :: r, L, i, p => congrArg (· + 1) (stM_len r L (i + 1) _)
theorem range_less {env : DL.Env} {fa : FE} {ps : List Pt} (ha : fa env = some (.dat (dPs ps), env)) (hl : ps.length ≤ 1000) : fiRange1 (fBin opSub (fUn bLen fa) (fC (.int 1))) env = some ((List.range' 0 (ps.length - 1)).map fun (i : Nat) => PyData.int (0 + (i : Int)), env) := by
  have q1 : fUn bLen fa env = some (.dat (.int ((ps.map dP).length : Int)), env) := ev_un ha rfl rfl
  rw [List.length_map] at q1
  have q := ev_bind (op := opSub) (fb := fC (.int 1)) q1 rfl (r := .dat (.int ((ps.length : Int) - 1))) rfl
  unfold fiRange1
  rw [q, Option.bind_some]
  have sm : smallI ((ps.length : Int) - 1) = true := by
    unfold smallI
    rw [Bool.and_eq_true, decide_eq_true_eq, decide_eq_true_eq]
    omega
  show (if smallI ((ps.length : Int) - 1) = true then some (rangeD 0 ((ps.length : Int) - 1).toNat, env) else none) = _
  rw [if_pos sm, show ((ps.length : Int) - 1).toNat = ps.length - 1 by omega]
  unfold rangeD
  rw [List.range_eq_range']
theorem law_facing_eq (ps : List Pt) (L : List Int) (hl : ps.length ≤ 1000) : _law_facing_F [dPs ps, .tuple (L.map PyData.int)] = some (.new ((facL ps (stM ps L 0 1)).map PyData.int)) := by
  let D : PyData := .tuple (L.map PyData.int)
  let st := stM ps L 0 1
  let E0 : DL.Env := [.dat (dPs ps), .dat D, .dead, .dead, .dead, .dead]
  have lp := lfac_loop ps D st (stM_len ps L 0 1) (ps.length - 1) 0 [] (by omega) (by rw [List.length_nil]; exact small_line (by omega))
  have c : fCallN 2 _law_firsts_F (faCons (fName 0) (faCons (fName 1) faNil)) E0 = some (.new (st.map PyData.int), E0) := ev_call (ea_dat (fa := fName 0) (d := dPs ps) rfl (ea_dat (fa := fName 1) (d := D) rfl ea_nil)) rfl (law_firsts_eq ps L (small_line hl))
  refine run_ret (r1 := .own 3) (e := eW ps D st ((facL ps st).map PyData.int) .dead .dead) rfl ?_ rfl
  refine (es_seq (e := eW ps D st [] .dead .dead) ((es_par (i := 2) (j := 3) c (r2 := .new []) (e2 := E0) (by kernel_rfl) rfl rfl (by show 2 < 6; decide) (by show 3 < 6; decide)).trans rfl)).trans ?_
  refine (es_seq ((es_for (e := eW ps D st [] .dead .dead) (range_less rfl hl)).trans lp)).trans ?_
  exact es_ret rfl
theorem facing_eq (ps : List Pt) (L : List Int) (hl : ps.length ≤ 1000) : facing_F [dPs ps, .tuple (L.map PyData.int)] = some (.new ((facL ps (stM ps L 0 1)).map PyData.int)) := by
  let D : PyData := .tuple (L.map PyData.int)
  let st := stM ps L 0 1
  let E0 : DL.Env := [.dat (dPs ps), .dat D, .dead, .dead, .dead, .dead]
  have lp := fac_loop ps D st (stM_len ps L 0 1) (ps.length - 1) 0 [] (by omega) (by rw [List.length_nil]; exact small_line (by omega))
  have c : fCallN 2 starts_F (faCons (fName 0) (faCons (fName 1) faNil)) E0 = some (.dat (.tuple (st.map PyData.int)), E0) := ev_call (ea_dat (fa := fName 0) (d := dPs ps) rfl (ea_dat (fa := fName 1) (d := D) rfl ea_nil)) rfl (starts_eq ps L (small_line hl))
  refine run_ret (r1 := .own 2) (e := eZ ps D st ((facL ps st).map PyData.int) .dead .dead) rfl ?_ rfl
  refine (es_seq (e := eZ ps D st [] .dead .dead) ((es_par (i := 2) (j := 3) (fa := fLst faNil) (r1 := .new []) (e1 := E0) (by kernel_rfl) c rfl rfl (by show 2 < 6; decide) (by show 3 < 6; decide)).trans rfl)).trans ?_
  refine (es_seq ((es_for (e := eZ ps D st [] .dead .dead) (range_less rfl hl)).trans lp)).trans ?_
  exact es_ret rfl
end RP

/-! MP11: parts that surely face the next one. -/
namespace RP
open PySem PySem.Spec PyProof.Rows L2 DL

def rgI (a b : Int) : List Int := (List.range (b - a).toNat).map fun (i : Nat) => a + (i : Int)
theorem rgI_data (a b : Int) : rangeD a (b - a).toNat = (rgI a b).map PyData.int := by
  unfold rangeD rgI
  rw [List.map_map]
  rfl
theorem rgI_mem {a b x : Int} : x ∈ rgI a b ↔ a ≤ x ∧ x < b := by
  unfold rgI
  rw [List.mem_map]
  constructor
  · rintro ⟨i, hi, rfl⟩
    have := List.mem_range.mp hi
    omega
  · rintro ⟨h1, h2⟩
    exact ⟨(x - a).toNat, List.mem_range.mpr (by omega), by omega⟩
theorem rgI_len (a b : Int) : (rgI a b).length = (b - a).toNat := by
  unfold rgI
  rw [List.length_map, List.length_range]
def mvM : List (Int × Int × Bool) → List Int
  | [] => []
  | (f, i, nd) :: r => (if nd = true then rgI f (i + 1) else []) ++ mvM r
theorem es_ext {env e1 e2 : DL.Env} {fa : FE} {i : Nat} {c c' : Bool} {r : Rs} {es ds ds0 : List PyData} (h0 : env[i]? = some (.own c ds0)) (h1 : fa env = some (r, e1)) (h2 : frz e1 r = some (.list es, e2)) (h3 : e2[i]? = some (.own c' ds)) (hl : ds.length + es.length ≤ sizeLine) : fsMut mExtend i fa env = some (.nx (e2.set i (.own c' (ds ++ es)))) := by
  unfold fsMut
  rw [h0]
  simp only
  rw [h1, Option.bind_some, h2, Option.bind_some]
  simp only
  rw [h3]
  have e : mExtend ds (.list es) = some (ds ++ es) := if_pos hl
  simp only
  rw [e]
  rfl
abbrev eY (D : PyData) (mv : List Int) (x2 x3 x4 : Sl) : DL.Env := [.dat D, .own false (mv.map PyData.int), x2, x3, x4]
theorem sf_loop (D : PyData) (m : Nat) (hm : m ≤ 1000) : ∀ (S : List (Int × Int × Bool)) (f : Int) (mv : List Int), 0 ≤ f → chain f m S → mv.length + 1001 * S.length ≤ 2000000 → forD b1_surely_facings (S.map dS) (eY D mv .dead .dead .dead) = some (.nx (eY D (mv ++ mvM S) .dead .dead .dead))
  | [], _, mv, _, _, _ => by
    show some (Out.nx (eY D mv .dead .dead .dead)) = _
    simp [mvM]
  | (g, i, nd) :: r, f, mv, h0, ⟨e1, e2, e3, e4⟩, hl => by
    subst e1
    rw [List.length_cons] at hl
    cases nd with
    | false =>
      have st : b1_surely_facings (dS (g, i, false)) (eY D mv .dead .dead .dead) = some (.nx (eY D mv .dead .dead .dead)) := by kernel_rfl
      refine (for_cons st).trans ?_
      rw [sf_loop D m hm r (i + 1) mv (by omega) e4 (by omega)]
      rfl
    | true =>
      let E1 := eY D mv (.dat (.int g)) (.dat (.int i)) (.dat (.bool true))
      have rl : (rgI g (i + 1)).length ≤ 1001 := by rw [rgI_len]; omega
      have big : (3000000 : Nat) ≤ sizeLine := by decide
      have sm : (smallI g && smallI (i + 1)) = true := by
        have e : ∀ x : Int, 0 ≤ x → x ≤ 1001 → smallI x = true := fun x h1 h2 => by
          unfold smallI
          rw [Bool.and_eq_true, decide_eq_true_eq, decide_eq_true_eq]
          omega
        rw [e g (by omega) (by omega), e (i + 1) (by omega) (by omega)]
        rfl
      have it : fiRange2 (fName 2) (fBin opAdd (fName 3) (fC (.int 1))) E1 = some ((rgI g (i + 1)).map PyData.int, E1) := by
        have q2 : fBin opAdd (fName 3) (fC (.int 1)) E1 = some (.dat (.int (i + 1)), E1) := ev_bind (fa := fName 3) (x := .int i) rfl rfl rfl
        unfold fiRange2
        rw [show fName 2 E1 = some (.dat (.int g), E1) from rfl, Option.bind_some]
        show ((fBin opAdd (fName 3) (fC (.int 1)) E1).bind _) = _
        rw [q2, Option.bind_some]
        show (if (smallI g && smallI (i + 1)) = true then some (rangeD g (i + 1 - g).toNat, E1) else none) = _
        rw [if_pos sm, rgI_data]
      have lg : fListG (fiRange2 (fName 2) (fBin opAdd (fName 3) (fC (.int 1)))) E1 = some (.new ((rgI g (i + 1)).map PyData.int), E1) := by
        unfold fListG
        rw [it, Option.bind_some]
        exact if_pos (by rw [List.length_map]; exact Nat.le_trans rl (by decide))
      have st : b1_surely_facings (dS (g, i, true)) (eY D mv .dead .dead .dead) = some (.nx (eY D (mv ++ rgI g (i + 1)) .dead .dead .dead)) := by
        refine step_nx (e1 := E1) (e2 := eY D (mv ++ rgI g (i + 1)) (.dat (.int g)) (.dat (.int i)) (.dat (.bool true))) (by kernel_rfl) ?_
        refine (es_ifT (e := E1) rfl).trans ?_
        refine (es_ext (i := 1) (c := false) (c' := false) (ds0 := mv.map PyData.int) (ds := mv.map PyData.int) (e1 := E1) (e2 := E1) rfl lg rfl rfl (by rw [List.length_map, List.length_map]; omega)).trans ?_
        rw [← List.map_append]
        rfl
      refine (for_cons st).trans ?_
      rw [sf_loop D m hm r (i + 1) (mv ++ rgI g (i + 1)) (by omega) e4 (by rw [List.length_append]; omega), List.append_assoc]
      rfl
theorem op_notIn_lst (i : Int) (L : List Int) : opNotIn (.int i) (.list (L.map PyData.int)) = some (rb (!decide (i ∈ L))) := by
  show (if (true && (L.map PyData.int).all flatD) = true then some (rb (!inD (.int i) (L.map PyData.int))) else _) = _
  rw [flat_ints, inD_ints]
  rfl
def sureL (ps : List Pt) : List Int := (facL ps (stM ps (lat ps 0 1) 0 1)).filter fun k => !decide (k + 1 ∈ mvM (strM ps 0 0 1))
theorem facL_len (ps : List Pt) (st : List Int) : (facL ps st).length ≤ ps.length := by
  unfold facL facR
  rw [List.length_map]
  have h := List.length_filter_le (fcond ps st) (List.range' 0 (ps.length - 1))
  rw [List.length_range'] at h
  omega
theorem surely_eq (ps : List Pt) (hl : ps.length ≤ 1000) : surely_facing_F [dPs ps] = some (.new ((sureL ps).map PyData.int)) := by
  have ch := str_chain ps 0 0 1 (Int.le_refl 0)
  rw [Nat.zero_add] at ch
  have sl := strM_len ps 0 0 1
  let D := dPs ps
  let mv := mvM (strM ps 0 0 1)
  have lp := sf_loop D ps.length hl (strM ps 0 0 1) 0 [] (Int.le_refl 0) ch (by rw [List.length_nil]; omega)
  rw [List.nil_append] at lp
  let E0 := eY D [] .dead .dead .dead
  let E1 := eY D mv .dead .dead .dead
  refine run_ret (r1 := .new ((sureL ps).map PyData.int)) (e := E1) rfl ?_ rfl
  refine (es_seq (e := E0) (by kernel_rfl)).trans ?_
  have it : fiSeq (fCallN 1 stretches_F (faCons (fName 0) faNil)) E0 = some ((strM ps 0 0 1).map dS, E0) := ev_seqI (ev_call (ea_dat (fa := fName 0) (d := dPs ps) rfl ea_nil) rfl (stretches_eq ps (small_line hl))) rfl rfl
  refine (es_seq ((es_for (e := E0) it).trans lp)).trans ?_
  let FL := facL ps (stM ps (lat ps 0 1) 0 1)
  have c0 : fCallN 2 facing_F (faCons (fName 0) (faCons (fCallN 1 late_layout_F (faCons (fName 0) faNil)) faNil)) E1 = some (.new (FL.map PyData.int), E1) :=
    ev_call (ea_dat (fa := fName 0) (d := dPs ps) rfl (ea_dat (at_late (fa := fName 0) (ps := ps) (env := E1) rfl hl) ea_nil)) rfl (facing_eq ps _ hl)
  let fS : PyData → Option PyData := fun x => match x with
    | .int k => if (!decide (k + 1 ∈ mv)) = true then some (.int k) else none
    | _ => none
  have c1 : fComp [3] (fiSeq (fCallN 2 facing_F (faCons (fName 0) (faCons (fCallN 1 late_layout_F (faCons (fName 0) faNil)) faNil)))) (fgName 3) (fB (fBin opNotIn (fBin opAdd (fName 3) (fC (.int 1))) (fName 1))) (fName 3) E1 = some (.new ((FL.map PyData.int).filterMap fS), E1) := by
    have fl := facL_len ps (stM ps (lat ps 0 1) 0 1)
    refine ev_comp (e := E1) (ev_seqI c0 rfl rfl) (small_line (by rw [List.length_map]; exact Nat.le_trans fl hl)) fun x hx => ?_
    obtain ⟨k, hk, rfl⟩ := List.mem_map.mp hx
    let E3 := eY D mv .dead (.dat (.int k)) .dead
    have q : fB (fBin opNotIn (fBin opAdd (fName 3) (fC (.int 1))) (fName 1)) E3 = some (!decide (k + 1 ∈ mv), E3) :=
      ev_B (ev_bin (fa := fBin opAdd (fName 3) (fC (.int 1))) (fb := fName 1) (r1 := .dat (.int (k + 1))) (r2 := .own 1) (e1 := E3) (e2 := E3) (x := .int (k + 1)) (y := .list (mv.map PyData.int)) rfl rfl rfl rfl (op_notIn_lst _ _))
    exact step_filter (e1 := E3) rfl q rfl rfl
  rw [filt fS PyData.int (fun k => !decide (k + 1 ∈ mv)) PyData.int (fun k => rfl)] at c1
  exact es_ret c1
/-! ### the law behind it -/
/-- the next part begins on the next page, or one later where a blank page stands ahead of it -/
theorem st_next : ∀ (ps : List Pt) (L : List Int) (i : Nat) (p : Int) (k : Nat) (q : Pt) (a b : Int), ps[k]? = some q → (stM ps L i p)[k]? = some a → (stM ps L i p)[k + 1]? = some b → b = a + q.2 + b01 (decide (((i + k + 1 : Nat) : Int) ∈ L))
  | [], _, _, _, _, _, _, _, h, _, _ => by cases h
  | (s, n) :: r, L, i, p, 0, q, a, b, h0, h1, h2 => by
    cases r with
    | nil => cases h2
    | cons x r =>
      have e0 : (s, n) = q := Option.some.inj h0
      have e1 : p + b01 (decide ((i : Int) ∈ L)) = a := Option.some.inj h1
      have e2 : p + b01 (decide ((i : Int) ∈ L)) + n + b01 (decide (((i + 1 : Nat) : Int) ∈ L)) = b := Option.some.inj h2
      rw [← e2, ← e1, ← e0]
  | (s, n) :: r, L, i, p, k + 1, q, a, b, h0, h1, h2 => by
    have ih := st_next r L (i + 1) _ k q a b h0 h1 h2
    rw [show i + (k + 1) + 1 = i + 1 + k + 1 by omega]
    exact ih
/-- pages in the late layout, ahead of the part's own blank page; is the part's stretch one that needs a blank page -/
def pgl : List Pt → Int → Nat → Int
  | [], p, _ => p
  | _ :: _, p, 0 => p
  | (s, n) :: r, p, j + 1 => pgl r (p + b01 (!fits s p) + n) j
def inN : List Pt → Int → Nat → Bool
  | [], _, _ => false
  | x :: r, p, 0 => nxt (x :: r) p
  | (s, n) :: r, p, j + 1 => inN r (p + b01 (!fits s p) + n) j
theorem pick_page : ∀ (ps : List Pt) (L : List Int) (i : Nat) (p : Int) (pl : Bool) (X : List Int) (j : Nat), pick ps i p pl X → (∀ j : Nat, i ≤ j → ((j : Int) ∈ L ↔ (j : Int) ∈ X)) → (pl = true → nxt ps p = true) → inN ps p j = false → j < ps.length → (stM ps L i (p + b01 pl))[j]? = some (pgl ps p j)
  | [], _, _, _, _, _, _, _, _, _, _, h => absurd h (Nat.not_lt_zero _)
  | (s, n) :: r, L, i, p, pl, X, 0, h, hL, hn, hj, _ => by
    have hpl : pl = false := by
      cases pl with
      | false => rfl
      | true =>
        have := hn rfl
        have hj' : nxt ((s, n) :: r) p = false := hj
        rw [hj'] at this
        cases this
    subst hpl
    have hj' : nxt ((s, n) :: r) p = false := hj
    have no : ¬ (i : Int) ∈ X := fun z => by
      have later : ∀ {q : Int} {b : Bool} {Y : List Int}, pick r (i + 1) q b Y → ¬ (i : Int) ∈ Y := fun {q b Y} hy z => by
        have := (pick_range r _ _ _ _ hy).2 _ z
        omega
      rcases h with ⟨_, q, _⟩ | ⟨h1, _, h⟩ | ⟨_, q, _⟩ | ⟨_, _, _, h⟩ | ⟨h1, _, hf, X', e, h⟩
      · cases q
      · rcases h with ⟨X', e, h3, h4⟩ | h
        · rw [nxt_any h1, h3] at hj'
          cases hj'
        · exact later h z
      · cases q
      · exact later h z
      · rw [nxt_bound h1, hf] at hj'
        cases hj'
    show some (p + b01 false + b01 (decide ((i : Int) ∈ L))) = some p
    rw [dec_in hL, decide_eq_false no]
    show some (p + 0 + 0) = some p
    rw [Int.add_zero, Int.add_zero]
  | (s, n) :: r, L, i, p, pl, X, j + 1, h, hL, hn, hj, hlt => by
    have t : b01 true = 1 := rfl
    have f : b01 false = 0 := rfl
    have later : ∀ {q : Int} {b : Bool} {Y : List Int}, pick r (i + 1) q b Y → ¬ (i : Int) ∈ Y := fun {q b Y} hy z => by
      have := (pick_range r _ _ _ _ hy).2 _ z
      omega
    have rest : ∀ {Y : List Int}, X = Y → ∀ j : Nat, i + 1 ≤ j → ((j : Int) ∈ L ↔ (j : Int) ∈ Y) := fun {Y} e j hj => by
      rw [← e]
      exact hL j (by omega)
    have hj' : inN r (p + b01 (!fits s p) + n) j = false := hj
    have hlt' : j < r.length := by
      rw [List.length_cons] at hlt
      omega
    show (stM r L (i + 1) (p + b01 pl + b01 (decide ((i : Int) ∈ L)) + n))[j]? = some (pgl r (p + b01 (!fits s p) + n) j)
    rw [dec_in hL]
    rcases h with ⟨h1, h2, h3⟩ | ⟨h1, h2, h3⟩ | ⟨h1, h2, h3, h4⟩ | ⟨h1, h2, h3, h4⟩ | ⟨h1, h2, h3, X', h4, h5⟩
    · subst h2
      have e : p + b01 (!fits s p) + n = p + n := by rw [fits_any h1]; show p + 0 + n = _; omega
      rw [e] at hj' ⊢
      have nx := hn rfl
      rw [nxt_any h1] at nx
      have ih := pick_page r L (i + 1) (p + n) true X j h3 (rest rfl) (fun _ => nx) hj' hlt'
      rw [decide_eq_false (later h3), show p + b01 true + b01 false + n = p + n + b01 true by omega]
      exact ih
    · subst h2
      have e : p + b01 (!fits s p) + n = p + n := by rw [fits_any h1]; show p + 0 + n = _; omega
      rw [e] at hj' ⊢
      rcases h3 with ⟨X', e2, nx, h4⟩ | h3
      · have ih := pick_page r L (i + 1) (p + n) true X' j h4 (tail_of hL e2) (fun _ => nx) hj' hlt'
        rw [decide_eq_true (by rw [e2]; exact List.mem_cons_self ..), show p + b01 false + b01 true + n = p + n + b01 true by omega]
        exact ih
      · have ih := pick_page r L (i + 1) (p + n) false X j h3 (rest rfl) (fun z => nomatch z) hj' hlt'
        rw [decide_eq_false (later h3), show p + b01 false + b01 false + n = p + n + b01 false by omega]
        exact ih
    · subst h2
      have e : p + b01 (!fits s p) + n = p + 1 + n := by rw [h3]; rfl
      rw [e] at hj' ⊢
      have ih := pick_page r L (i + 1) (p + 1 + n) false X j h4 (rest rfl) (fun z => nomatch z) hj' hlt'
      rw [decide_eq_false (later h4), show p + b01 true + b01 false + n = p + 1 + n + b01 false by omega]
      exact ih
    · subst h2
      have e : p + b01 (!fits s p) + n = p + n := by rw [h3]; show p + 0 + n = _; omega
      rw [e] at hj' ⊢
      have ih := pick_page r L (i + 1) (p + n) false X j h4 (rest rfl) (fun z => nomatch z) hj' hlt'
      rw [decide_eq_false (later h4), show p + b01 false + b01 false + n = p + n + b01 false by omega]
      exact ih
    · subst h2
      have e : p + b01 (!fits s p) + n = p + 1 + n := by rw [h3]; rfl
      rw [e] at hj' ⊢
      have ih := pick_page r L (i + 1) (p + 1 + n) false X' j h5 (tail_of hL h4) (fun z => nomatch z) hj' hlt'
      rw [decide_eq_true (by rw [h4]; exact List.mem_cons_self ..), show p + b01 false + b01 true + n = p + 1 + n + b01 false by omega]
      exact ih
theorem mem_mv : ∀ (S : List (Int × Int × Bool)) (x : Int), x ∈ mvM S ↔ ∃ t ∈ (S.filter (·.2.2)).map (fun y => (y.1, y.2.1)), t.1 ≤ x ∧ x ≤ t.2
  | [], x => ⟨(fun h => nomatch h), (fun ⟨t, h, _⟩ => nomatch h)⟩
  | (f, i, nd) :: r, x => by
    have ih := mem_mv r x
    show x ∈ (if nd = true then rgI f (i + 1) else []) ++ mvM r ↔ _
    rw [List.mem_append, ih]
    cases nd with
    | false =>
      rw [if_neg (by simp), List.filter_cons_of_neg (by simp)]
      exact ⟨fun h => h.elim (fun z => nomatch z) id, .inr⟩
    | true =>
      rw [if_pos rfl, List.filter_cons_of_pos (by simp), List.map_cons, rgI_mem]
      constructor
      · rintro (h | ⟨t, h1, h2⟩)
        · exact ⟨(f, i), List.mem_cons_self .., h.1, by show x ≤ i; omega⟩
        · exact ⟨t, List.mem_cons_of_mem _ h1, h2⟩
      · rintro ⟨t, h1, h2, h3⟩
        rcases List.mem_cons.mp h1 with e | h1
        · subst e
          exact .inl ⟨h2, by have h3' : x ≤ i := h3; omega⟩
        · exact .inr ⟨t, h1, h2, h3⟩
theorem mem_mv_nds (ps : List Pt) (x : Int) : x ∈ mvM (strM ps 0 0 1) ↔ ∃ t ∈ nds ps 0 0 1, t.1 ≤ x ∧ x ≤ t.2 := mem_mv _ _
/-- each place of a short layout stands in such a stretch -/
theorem inP_mem : ∀ {N : List (Int × Int)} {X : List Int}, inP N X → ∀ x ∈ X, ∃ t ∈ N, t.1 ≤ x ∧ x ≤ t.2
  | [], X, h, x, hx => by
    rw [inP_nil] at h
    subst h
    cases hx
  | (f, i) :: N, X, h, x, hx => by
    obtain ⟨y, X', e, h1, h2, h3⟩ := inP_cons.mp h
    subst e
    rcases List.mem_cons.mp hx with q | hx
    · exact ⟨(f, i), List.mem_cons_self .., by rw [q]; exact ⟨h1, h2⟩⟩
    · obtain ⟨t, a, b⟩ := inP_mem h3 x hx
      exact ⟨t, List.mem_cons_of_mem _ a, b⟩
/-- each place of such a stretch stands in a short layout -/
theorem inP_some : ∀ {N : List (Int × Int)}, (∀ t ∈ N, t.1 ≤ t.2) → ∀ t ∈ N, ∀ x, t.1 ≤ x → x ≤ t.2 → ∃ X, inP N X ∧ x ∈ X
  | [], _, t, h, _, _, _ => nomatch h
  | (f, i) :: N, hN, t, h, x, h1, h2 => by
    have all : ∀ M : List (Int × Int), (∀ t ∈ M, t.1 ≤ t.2) → ∃ X, inP M X := fun M => by
      induction M with
      | nil => exact fun _ => ⟨[], trivial⟩
      | cons y M ih =>
        intro hM
        obtain ⟨X, hX⟩ := ih fun t ht => hM t (List.mem_cons_of_mem _ ht)
        obtain ⟨g, k⟩ := y
        exact ⟨g :: X, inP_cons.mpr ⟨g, X, rfl, Int.le_refl _, hM (g, k) (List.mem_cons_self ..), hX⟩⟩
    rcases List.mem_cons.mp h with e | h
    · subst e
      obtain ⟨X, hX⟩ := all N fun t ht => hN t (List.mem_cons_of_mem _ ht)
      exact ⟨x :: X, inP_cons.mpr ⟨x, X, rfl, h1, h2, hX⟩, List.mem_cons_self ..⟩
    · obtain ⟨X, hX, hx⟩ := inP_some (fun t ht => hN t (List.mem_cons_of_mem _ ht)) t h x h1 h2
      exact ⟨f :: X, inP_cons.mpr ⟨f, X, rfl, Int.le_refl _, hN (f, i) (List.mem_cons_self ..), hX⟩, List.mem_cons_of_mem _ hx⟩
theorem nds_le (ps : List Pt) : ∀ t ∈ nds ps 0 0 1, t.1 ≤ t.2 := by
  have ch := str_chain ps 0 0 1 (Int.le_refl 0)
  have gen : ∀ (S : List (Int × Int × Bool)) (f : Int) (m : Nat), chain f m S → ∀ y ∈ S, y.1 ≤ y.2.1 := fun S => by
    induction S with
    | nil => intro f m _ y hy; cases hy
    | cons x r ih =>
      intro f m h y hy
      obtain ⟨g, i, nd⟩ := x
      obtain ⟨h1, h2, h3, h4⟩ := h
      rcases List.mem_cons.mp hy with e | hy
      · subst e
        show g ≤ i
        omega
      · exact ih _ _ h4 y hy
  intro t ht
  unfold nds at ht
  obtain ⟨y, hy, rfl⟩ := List.mem_map.mp ht
  exact gen _ _ _ ch y (List.mem_filter.mp hy).1
end RP

/-! MP12: the first page of a part over all short layouts. -/
namespace RP
open PySem PySem.Spec PyProof.Rows L2 DL
/-- pages in the late layout, in the early one -/
def latP : List Pt → Int → Nat → Int
  | [], p, _ => p
  | (s, _) :: _, p, 0 => p + b01 (!fits s p)
  | (s, n) :: r, p, j + 1 => latP r (p + b01 (!fits s p) + n) j
def earP : List Pt → Int → Nat → Int
  | [], p, _ => p
  | x :: r, p, 0 => p + b01 (nxt (x :: r) p)
  | (s, n) :: r, p, j + 1 => earP r (p + b01 (!fits s p) + n) j
def frA : List Pt → Nat → Int
  | [], _ => 0
  | (s, _) :: _, 0 => b01 (isAny s)
  | _ :: r, j + 1 => frA r j
theorem b01_le (b : Bool) : 0 ≤ b01 b ∧ b01 b ≤ 1 := by
  cases b
  · exact ⟨by decide, by decide⟩
  · exact ⟨by decide, by decide⟩
theorem not_any_fits {s : Sd} (h : isAny s = true) (p : Int) : b01 (!fits s p) = 0 := by rw [fits_any h]; rfl
theorem lat_ear : ∀ (ps : List Pt) (p : Int) (j : Nat), latP ps p j ≤ earP ps p j ∧ earP ps p j ≤ latP ps p j + frA ps j
  | [], p, j => ⟨Int.le_refl _, by show p ≤ p + 0; omega⟩
  | (s, n) :: r, p, 0 => by
    show p + b01 (!fits s p) ≤ p + b01 (nxt ((s, n) :: r) p) ∧ p + b01 (nxt ((s, n) :: r) p) ≤ p + b01 (!fits s p) + b01 (isAny s)
    cases hs : isAny s with
    | true =>
      rw [not_any_fits hs]
      have := b01_le (nxt ((s, n) :: r) p)
      have t : b01 true = 1 := rfl
      omega
    | false =>
      rw [nxt_bound hs]
      have f : b01 false = 0 := rfl
      omega
  | (s, n) :: r, p, j + 1 => lat_ear r _ j
theorem pick_near : ∀ (ps : List Pt) (L : List Int) (i : Nat) (p : Int) (pl : Bool) (X : List Int) (j : Nat), pick ps i p pl X → (∀ j : Nat, i ≤ j → ((j : Int) ∈ L ↔ (j : Int) ∈ X)) → (pl = true → nxt ps p = true) → j < ps.length → ∃ v, (stM ps L i (p + b01 pl))[j]? = some v ∧ latP ps p j ≤ v ∧ v ≤ earP ps p j
  | [], _, _, _, _, _, _, _, _, _, h => absurd h (Nat.not_lt_zero _)
  | (s, n) :: r, L, i, p, pl, X, j, h, hL, hn, hlt => by
    have t : b01 true = 1 := rfl
    have f : b01 false = 0 := rfl
    have later : ∀ {q : Int} {b : Bool} {Y : List Int}, pick r (i + 1) q b Y → ¬ (i : Int) ∈ Y := fun {q b Y} hy z => by
      have := (pick_range r _ _ _ _ hy).2 _ z
      omega
    have rest : ∀ {Y : List Int}, X = Y → ∀ j : Nat, i + 1 ≤ j → ((j : Int) ∈ L ↔ (j : Int) ∈ Y) := fun {Y} e j hj => by
      rw [← e]
      exact hL j (by omega)
    -- what is to be shown: the page of this part, those of the others
    have go : ∀ (c : Bool) (q : Int) (pl' : Bool) (Y : List Int), b01 (decide ((i : Int) ∈ L)) = b01 c → (b01 (!fits s p) ≤ b01 pl + b01 c ∧ b01 pl + b01 c ≤ b01 (nxt ((s, n) :: r) p)) → p + b01 (!fits s p) + n = q → p + b01 pl + b01 c + n = q + b01 pl' → pick r (i + 1) q pl' Y → (∀ j : Nat, i + 1 ≤ j → ((j : Int) ∈ L ↔ (j : Int) ∈ Y)) → (pl' = true → nxt r q = true) →
        ∃ v, (stM ((s, n) :: r) L i (p + b01 pl))[j]? = some v ∧ latP ((s, n) :: r) p j ≤ v ∧ v ≤ earP ((s, n) :: r) p j := fun c q pl' Y hc hb hq hq' hp hY hn' => by
      cases j with
      | zero =>
        refine ⟨p + b01 pl + b01 (decide ((i : Int) ∈ L)), rfl, ?_, ?_⟩
        · show p + b01 (!fits s p) ≤ _
          omega
        · show _ ≤ p + b01 (nxt ((s, n) :: r) p)
          omega
      | succ j =>
        obtain ⟨v, h1, h2, h3⟩ := pick_near r L (i + 1) q pl' Y j hp hY hn' (by rw [List.length_cons] at hlt; omega)
        refine ⟨v, ?_, ?_, ?_⟩
        · show (stM r L (i + 1) (p + b01 pl + b01 (decide ((i : Int) ∈ L)) + n))[j]? = some v
          rw [hc, hq']
          exact h1
        · show latP r (p + b01 (!fits s p) + n) j ≤ v
          rw [hq]
          exact h2
        · show v ≤ earP r (p + b01 (!fits s p) + n) j
          rw [hq]
          exact h3
    have dec := dec_in hL
    rcases h with ⟨h1, h2, h3⟩ | ⟨h1, h2, h3⟩ | ⟨h1, h2, h3, h4⟩ | ⟨h1, h2, h3, h4⟩ | ⟨h1, h2, h3, X', h4, h5⟩
    · subst h2
      have nx := hn rfl
      have nf := not_any_fits h1 p
      refine go false (p + n) true X (by rw [dec, decide_eq_false (later h3)]) (by rw [nx]; omega) (by omega) (by omega) h3 (rest rfl) fun _ => ?_
      rw [nxt_any h1] at nx
      exact nx
    · subst h2
      have nf := not_any_fits h1 p
      have nb := b01_le (nxt ((s, n) :: r) p)
      rcases h3 with ⟨X', e2, nx, h4⟩ | h3
      · exact go true (p + n) true X' (by rw [dec, decide_eq_true (by rw [e2]; exact List.mem_cons_self ..)]) (by rw [nxt_any h1, nx]; omega) (by omega) (by omega) h4 (tail_of hL e2) fun _ => nx
      · exact go false (p + n) false X (by rw [dec, decide_eq_false (later h3)]) (by omega) (by omega) (by omega) h3 (rest rfl) fun z => nomatch z
    · subst h2
      have nf : b01 (!fits s p) = 1 := by rw [h3]; rfl
      exact go false (p + 1 + n) false X (by rw [dec, decide_eq_false (later h4)]) (by rw [nxt_bound h1]; omega) (by omega) (by omega) h4 (rest rfl) fun z => nomatch z
    · subst h2
      have nf : b01 (!fits s p) = 0 := by rw [h3]; rfl
      exact go false (p + n) false X (by rw [dec, decide_eq_false (later h4)]) (by rw [nxt_bound h1]; omega) (by omega) (by omega) h4 (rest rfl) fun z => nomatch z
    · subst h2
      have nf : b01 (!fits s p) = 1 := by rw [h3]; rfl
      exact go true (p + 1 + n) false X' (by rw [dec, decide_eq_true (by rw [h4]; exact List.mem_cons_self ..)]) (by rw [nxt_bound h1]; omega) (by omega) (by omega) h5 (tail_of hL h4) fun z => nomatch z
theorem short_near {ps : List Pt} {g : List Int} (h : isShort ps g) {j : Nat} (hj : j < ps.length) : ∃ v, (stM ps g 0 1)[j]? = some v ∧ latP ps 1 j ≤ v ∧ v ≤ earP ps 1 j := by
  have := pick_near ps g 0 1 false g j ((short_pick ps g).mp h) (fun _ _ => Iff.rfl) (fun z => nomatch z) hj
  have f : b01 false = 0 := rfl
  rw [f, Int.add_zero] at this
  exact this
theorem lat_page : ∀ (ps : List Pt) (L : List Int) (i : Nat) (p : Int) (j : Nat), (∀ j : Nat, i ≤ j → ((j : Int) ∈ L ↔ (j : Int) ∈ lat ps i p)) → j < ps.length → (stM ps L i p)[j]? = some (latP ps p j)
  | [], _, _, _, _, _, h => absurd h (Nat.not_lt_zero _)
  | (s, n) :: r, L, i, p, j, h, hlt => by
    have hi : decide ((i : Int) ∈ L) = !fits s p := by
      have h1 := h i (Nat.le_refl _)
      rw [lat_cons, List.mem_append] at h1
      have h2 : ¬ (i : Int) ∈ lat r (i + 1) (p + b01 (!fits s p) + n) := fun z => by have := (lat_ge r _ _ _ z).1; omega
      cases hf : fits s p with
      | true =>
        rw [hf] at h1 h2
        exact decide_eq_false fun z => by
          rcases h1.mp z with q | q
          · rw [if_pos rfl] at q; cases q
          · exact h2 q
      | false =>
        rw [hf] at h1
        exact decide_eq_true (h1.mpr (.inl (by rw [if_neg (by simp)]; exact List.mem_singleton_self _)))
    cases j with
    | zero =>
      show some (p + b01 (decide ((i : Int) ∈ L))) = some (p + b01 (!fits s p))
      rw [hi]
    | succ j =>
      show (stM r L (i + 1) (p + b01 (decide ((i : Int) ∈ L)) + n))[j]? = some (latP r (p + b01 (!fits s p) + n) j)
      rw [hi]
      refine lat_page r L (i + 1) _ j (fun j hj => ?_) (by rw [List.length_cons] at hlt; omega)
      rw [h j (by omega), lat_cons, List.mem_append]
      constructor
      · rintro (q | q)
        · split at q
          · cases q
          · rw [List.mem_singleton] at q; omega
        · exact q
      · exact .inr
theorem ear_page : ∀ (ps : List Pt) (L : List Int) (i : Nat) (f p : Int) (j : Nat), f ≤ (i : Int) → (∀ j : Nat, i ≤ j → ((j : Int) ∈ L ↔ (j : Int) ∈ eps ps i f p)) → j < ps.length → (stM ps L i (p + (if f < (i : Int) then b01 (nxt ps p) else 0)))[j]? = some (earP ps p j)
  | [], _, _, _, _, _, _, _, h => absurd h (Nat.not_lt_zero _)
  | (s, n) :: r, L, i, f, p, j, hf, h, hlt => by
    have page : p + (if f < (i : Int) then b01 (nxt ((s, n) :: r) p) else 0) + b01 (decide ((i : Int) ∈ L)) = p + b01 (nxt ((s, n) :: r) p) := by
      by_cases hlt : f < (i : Int)
      · rw [if_pos hlt]
        have no : ¬ (i : Int) ∈ L := fun z => by
          rcases eps_mem _ _ _ _ _ ((h i (Nat.le_refl _)).mp z) with w | w <;> omega
        rw [decide_eq_false no]
        show _ + (0 : Int) = _
        omega
      · rw [if_neg hlt]
        have e : f = (i : Int) := by omega
        have h1 := h i (Nat.le_refl _)
        have h2 := eps_f ((s, n) :: r) i f p hf
        rw [e] at h1 h2
        have e2 : decide ((i : Int) ∈ L) = nxt ((s, n) :: r) p := by
          cases hb : nxt ((s, n) :: r) p with
          | true => exact decide_eq_true (h1.mpr (h2.mpr hb))
          | false =>
            refine decide_eq_false fun z => ?_
            have w := h2.mp (h1.mp z)
            rw [hb] at w
            cases w
        rw [e2]
        omega
    cases j with
    | zero =>
      show some _ = some (p + b01 (nxt ((s, n) :: r) p))
      rw [page]
    | succ j =>
      have hlt' : j < r.length := by rw [List.length_cons] at hlt; omega
      show (stM r L (i + 1) (p + (if f < (i : Int) then b01 (nxt ((s, n) :: r) p) else 0) + b01 (decide ((i : Int) ∈ L)) + n))[j]? = some (earP r (p + b01 (!fits s p) + n) j)
      rw [page]
      cases hs : isAny s with
      | true =>
        rw [nxt_any hs, not_any_fits hs]
        have ih := ear_page r L (i + 1) f (p + n) j (by omega) (fun j hj => by rw [h j (by omega), eps_any hs]) hlt'
        rw [if_pos (by omega)] at ih
        rw [show p + b01 (nxt r (p + n)) + n = p + n + b01 (nxt r (p + n)) by omega, show p + 0 + n = p + n by omega]
        exact ih
      | false =>
        rw [nxt_bound hs]
        have ih := ear_page r L (i + 1) ((i : Int) + 1) (p + b01 (!fits s p) + n) j (by omega) (fun j hj => by
          rw [h j (by omega), eps_bound hs, List.mem_append]
          constructor
          · rintro (q | q)
            · split at q
              · cases q
              · have := List.mem_singleton.mp q
                omega
            · exact q
          · exact .inr) hlt'
        rw [if_neg (by omega), Int.add_zero] at ih
        exact ih
theorem late_at {ps : List Pt} {j : Nat} (h : j < ps.length) : (stM ps (lat ps 0 1) 0 1)[j]? = some (latP ps 1 j) := lat_page ps _ 0 1 j (fun _ _ => Iff.rfl) h
theorem early_at {ps : List Pt} {j : Nat} (h : j < ps.length) : (stM ps (eps ps 0 0 1) 0 1)[j]? = some (earP ps 1 j) := by
  have := ear_page ps (eps ps 0 0 1) 0 0 1 j (Int.le_refl 0) (fun _ _ => Iff.rfl) h
  rw [if_neg (by omega), Int.add_zero] at this
  exact this
theorem first_pages_eq (ps : List Pt) (j : Nat) (hl : ps.length ≤ 1000) (hj : j < ps.length) : first_pages_F [dPs ps, .int (j : Int)] = some (.dat (.tuple [.int (latP ps 1 j), .int (earP ps 1 j)])) := by
  let E : DL.Env := [.dat (dPs ps), .dat (.int (j : Int))]
  refine run_ret (e := E) (r1 := .dat (.tuple [.int (latP ps 1 j), .int (earP ps 1 j)])) rfl ?_ rfl
  have a1 : ∀ (fa : FE) (L : List Int) (v : Int), fa E = some (.dat (.tuple (L.map PyData.int)), E) → (stM ps L 0 1)[j]? = some v → fBin opIx (fCallN 2 starts_F (faCons (fName 0) (faCons fa faNil))) (fName 1) E = some (.dat (.int v), E) := fun fa L v h1 h2 =>
    ev_bind (ev_call (ea_dat (fa := fName 0) (d := dPs ps) rfl (ea_dat h1 ea_nil)) rfl (starts_eq ps L (small_line hl))) (fb := fName 1) (y := .int (j : Int)) rfl (by
      show (L2.atI _ _).map Rs.dat = _
      rw [int_at _ j v h2]
      rfl)
  exact es_ret (ev_tup (ea_dat (a1 _ _ _ (at_late (fa := fName 0) rfl hl) (late_at hj)) (ea_dat (a1 _ _ _ (at_early (fa := fName 0) rfl hl) (early_at hj)) ea_nil)) (by show 2 ≤ sizeLine; decide))
end RP

/-! EV2: comprehensions and loops over rows that are given by a function. -/
namespace RP
open PySem PySem.Spec PyProof.Rows L2 DL
section
variable {α β : Type} {env e e1 e2 : DL.Env} {vs : List Nat} {it : FI} {g : FG} {t : FT} {fe fa fb : FE} {r : Rs} {d : PyData}
theorem compD_cons (ds acc : List PyData) : compD vs g t fe (d :: ds) env acc = (g d env).bind fun e1 => (t e1).bind fun p =>
    if p.1 = true then (fe p.2).bind fun q => (frz q.2 q.1).bind fun u => if acc.length < sizeLine then compD vs g t fe ds (kill u.2 vs) (acc ++ [u.1]) else none
    else compD vs g t fe ds (kill p.2 vs) acc := rfl
theorem comp_rows (dd : α → PyData) (m : α → Option PyData) : ∀ (xs : List α) (acc : List PyData), (∀ x ∈ xs, stepC vs g t fe (dd x) env = some (m x, env)) → acc.length + xs.length ≤ sizeLine → compD vs g t fe (xs.map dd) env acc = some (acc ++ xs.filterMap m, env)
  | [], acc, _, _ => by
    show some (acc, env) = _
    simp
  | x :: xs, acc, h, hl => by
    rw [List.length_cons] at hl
    have hx := h x (List.mem_cons_self ..)
    unfold stepC at hx
    rw [List.map_cons, compD_cons]
    simp only [Option.bind_eq_some_iff] at hx
    obtain ⟨e1, h1, ⟨c, e2⟩, h2, h3⟩ := hx
    rw [h1, Option.bind_some, h2, Option.bind_some]
    cases c with
    | true =>
      rw [if_pos rfl] at h3 ⊢
      simp only [Option.bind_eq_some_iff] at h3
      obtain ⟨⟨r, e3⟩, h4, ⟨d, e4⟩, h5, h6⟩ := h3
      rw [h4, Option.bind_some, h5, Option.bind_some]
      have h7 : some d = m x ∧ kill e4 vs = env := by simpa using h6
      simp only
      rw [if_pos (by omega), h7.2, comp_rows dd m xs _ (fun y hy => h y (List.mem_cons_of_mem _ hy)) (by rw [List.length_append, List.length_singleton]; omega), List.filterMap_cons, ← h7.1]
      simp
    | false =>
      rw [if_neg (by simp)] at h3 ⊢
      have h7 : none = m x ∧ kill e2 vs = env := by simpa using h3
      simp only
      rw [h7.2, comp_rows dd m xs acc (fun y hy => h y (List.mem_cons_of_mem _ hy)) (by omega), List.filterMap_cons, ← h7.1]
theorem ev_rows {xs : List α} {dd : α → PyData} {m : α → Option PyData} (h1 : it env = some (xs.map dd, e)) (hl : xs.length ≤ sizeLine) (h : ∀ x ∈ xs, stepC vs g t fe (dd x) (kill e vs) = some (m x, kill e vs)) : fComp vs it g t fe env = some (.new (xs.filterMap m), back e (kill e vs) vs) := by
  unfold fComp
  rw [h1, Option.bind_some]
  simp only
  rw [comp_rows dd m xs [] h (by simpa using hl)]
  rfl
/-- each gives one -/
theorem ev_map {xs : List α} {dd : α → PyData} {f : α → PyData} (h1 : it env = some (xs.map dd, e)) (hl : xs.length ≤ sizeLine) (h : ∀ x ∈ xs, stepC vs g t fe (dd x) (kill e vs) = some (some (f x), kill e vs)) (hb : back e (kill e vs) vs = e1) : fComp vs it g t fe env = some (.new (xs.map f), e1) := by
  rw [ev_rows (m := fun x => some (f x)) h1 hl h, hb, show xs.filterMap (fun x => some (f x)) = xs.map f by simp]
/-- those that pass -/
theorem ev_filt {xs : List α} {dd : α → PyData} {c : α → Bool} {f : α → PyData} (h1 : it env = some (xs.map dd, e)) (hl : xs.length ≤ sizeLine) (h : ∀ x ∈ xs, stepC vs g t fe (dd x) (kill e vs) = some (if c x = true then some (f x) else none, kill e vs)) (hb : back e (kill e vs) vs = e1) : fComp vs it g t fe env = some (.new ((xs.filter c).map f), e1) := by
  have q : ∀ xs : List α, xs.filterMap (fun x => if c x = true then some (f x) else none) = (xs.filter c).map f := fun xs => by
    induction xs with
    | nil => rfl
    | cons x r ih =>
      rw [List.filterMap_cons, List.filter_cons]
      cases c x with
      | true => simp [ih]
      | false => simp [ih]
  rw [ev_rows (m := fun x => if c x = true then some (f x) else none) h1 hl h, hb, q]
theorem zipD_map (d1 : α → PyData) (d2 : β → PyData) : ∀ (xs : List α) (ys : List β), zipD (xs.map d1) (ys.map d2) = (xs.zip ys).map fun p => .tuple [d1 p.1, d2 p.2]
  | [], _ => rfl
  | _ :: _, [] => rfl
  | x :: xs, y :: ys => by
    show PyData.tuple [d1 x, d2 y] :: zipD (xs.map d1) (ys.map d2) = _
    rw [zipD_map d1 d2 xs ys]
    rfl
theorem enumD_map (d1 : α → PyData) : ∀ (xs : List α) (k : Nat), enumD k (xs.map d1) = (xs.zipIdx k).map fun p => .tuple [.int (p.2 : Int), d1 p.1]
  | [], _ => rfl
  | x :: xs, k => by
    show PyData.tuple [.int (k : Int), d1 x] :: enumD (k + 1) (xs.map d1) = _
    rw [enumD_map d1 xs (k + 1)]
    rfl
theorem zip_len (xs : List α) (ys : List β) : (xs.zip ys).length ≤ xs.length := by
  rw [List.length_zip]
  exact Nat.min_le_left _ _
/-- all([..]) -/
theorem bools_map (f : α → Bool) : ∀ xs : List α, boolsOf (xs.map fun x => PyData.bool (f x)) = some (xs.map f)
  | [] => rfl
  | x :: r => by
    show (boolsOf (r.map _)).map _ = _
    rw [bools_map f r]
    rfl
theorem all_map (f : α → Bool) (xs : List α) : bAll (.list (xs.map fun x => PyData.bool (f x))) = some (.dat (.bool (xs.all f))) := by
  show (boolsOf _).map _ = _
  rw [bools_map]
  show some (rb ((xs.map f).all id)) = _
  rw [List.all_map]
  rfl
theorem ea_star {a : FA} {ds es : List PyData} {e3 : DL.Env} (h1 : fa env = some (r, e)) (h2 : frz e r = some (d, e2)) (h3 : items d = some ds) (h4 : a e2 = some (es, e3)) : faStar fa a env = some (ds ++ es, e3) := by
  unfold faStar
  rw [h1, Option.bind_some, h2, Option.bind_some, h3, Option.bind_some, h4]
  rfl
theorem ev_cut {lo hi : FO} {a b : Option Int} {x : PyData} {r2 : Rs} (h1 : fa env = some (r, e)) (h2 : lo e = some (a, e1)) (h3 : hi e1 = some (b, e2)) (h4 : view e2 r = some x) (h5 : opCut a b x = some r2) : fCut fa lo hi env = some (r2, e2) := by
  unfold fCut
  rw [h1, Option.bind_some, h2, Option.bind_some, h3, Option.bind_some, h4, Option.bind_some, h5]
  rfl
theorem ev_someO {i : Int} (h : fa env = some (.dat (.int i), e)) : foSome fa env = some (some i, e) := by
  unfold foSome
  rw [h]
  rfl
theorem ev_enum {ds : List PyData} (h1 : fa env = some (r, e)) (h2 : frz e r = some (d, e2)) (h3 : items d = some ds) : fiEnum fa env = some (enumD 0 ds, e2) := by
  unfold fiEnum
  rw [h1, Option.bind_some, h2, Option.bind_some, h3]
  rfl
theorem ev_range1 {j : Int} (h1 : fa env = some (.dat (.int j), e)) (hj : smallI j = true) : fiRange1 fa env = some (rangeD 0 j.toNat, e) := by
  unfold fiRange1
  rw [h1, Option.bind_some]
  exact if_pos hj
theorem ev_range2 {i j : Int} (h1 : fa env = some (.dat (.int i), e)) (h2 : fb e = some (.dat (.int j), e1)) (hi : smallI i = true) (hj : smallI j = true) : fiRange2 fa fb env = some (rangeD i (j - i).toNat, e1) := by
  unfold fiRange2
  rw [h1, Option.bind_some, h2, Option.bind_some]
  exact if_pos (by rw [hi, hj]; rfl)
theorem rangeD_map (lo : Int) (n : Nat) : rangeD lo n = (List.range n).map fun (i : Nat) => PyData.int (lo + (i : Int)) := rfl
/-- a loop over rows that ends as it should -/
theorem for_rows {bd : PyData → DL.Env → Option Out} {dd : α → PyData} (I : List α → DL.Env → Prop) : ∀ (xs done : List α) (env : DL.Env), I done env → (∀ (pre : List α) x (post : List α) env, done ++ xs = pre ++ x :: post → I pre env → ∃ e, (bd (dd x) env = some (.nx e) ∨ bd (dd x) env = some (.ct e)) ∧ I (pre ++ [x]) e) → ∃ e, forD bd (xs.map dd) env = some (.nx e) ∧ I (done ++ xs) e
  | [], done, env, h, _ => ⟨env, rfl, by rw [List.append_nil]; exact h⟩
  | x :: xs, done, env, h, st => by
    obtain ⟨e, h1, h2⟩ := st done x xs env rfl h
    obtain ⟨e', h3, h4⟩ := for_rows I xs (done ++ [x]) e h2 fun pre y post env' hy hI => st pre y post env' (by rw [← hy, List.append_assoc]; rfl) hI
    refine ⟨e', ?_, by rw [List.append_assoc] at h4; exact h4⟩
    rw [List.map_cons]
    rcases h1 with h1 | h1
    · rw [for_cons h1]; exact h3
    · rw [for_ct h1]; exact h3
end
end RP

/-! MA1: data of any kind: is_integer, is_part, is_parts, is_layout. -/
namespace RP
open PySem PySem.Spec PyProof.Rows L2 DL
/-- no dict; at most n deep; lists of at most b items, texts of at most b signs -/
def nice (b : Nat) : Nat → PyData → Bool
  | 0, .none => true
  | 0, .bool _ => true
  | 0, .int _ => true
  | 0, .str x => decide (x.length ≤ b) && PyData.canLay0 (.str x)
  | 0, _ => false
  | _ + 1, .none => true
  | _ + 1, .bool _ => true
  | _ + 1, .int _ => true
  | _ + 1, .str x => decide (x.length ≤ b) && PyData.canLay0 (.str x)
  | n + 1, .list ds => decide (ds.length ≤ b) && ds.all (nice b n)
  | n + 1, .tuple ds => decide (ds.length ≤ b) && ds.all (nice b n)
  | _ + 1, .dict _ => false
section
variable {b n : Nat} {d : PyData} {ds : List PyData}
theorem nice_list (h : nice b n (.list ds) = true) : ∃ m, n = m + 1 ∧ ds.length ≤ b ∧ ∀ d ∈ ds, nice b m d = true := by
  cases n with
  | zero => cases h
  | succ m =>
    simp only [nice, Bool.and_eq_true, decide_eq_true_eq, List.all_eq_true] at h
    exact ⟨m, rfl, h.1, h.2⟩
theorem nice_tuple (h : nice b n (.tuple ds) = true) : ∃ m, n = m + 1 ∧ ds.length ≤ b ∧ ∀ d ∈ ds, nice b m d = true := by
  cases n with
  | zero => cases h
  | succ m =>
    simp only [nice, Bool.and_eq_true, decide_eq_true_eq, List.all_eq_true] at h
    exact ⟨m, rfl, h.1, h.2⟩
theorem nice_str {x : Str} (h : nice b n (.str x) = true) : x.length ≤ b ∧ PyData.canLay0 (.str x) = true := by
  cases n <;> simpa only [nice, Bool.and_eq_true, decide_eq_true_eq] using h
theorem nice_mkL {m : Nat} (h1 : ds.length ≤ b) (h2 : ∀ d ∈ ds, nice b m d = true) : nice b (m + 1) (.list ds) = true := by
  simp only [nice, Bool.and_eq_true, decide_eq_true_eq, List.all_eq_true]
  exact ⟨h1, h2⟩
theorem nice_mkT {m : Nat} (h1 : ds.length ≤ b) (h2 : ∀ d ∈ ds, nice b m d = true) : nice b (m + 1) (.tuple ds) = true := nice_mkL h1 h2
theorem nice_mkS {x : Str} (h1 : x.length ≤ b) (h2 : PyData.canLay0 (.str x) = true) : nice b n (.str x) = true := by
  cases n <;> simp only [nice, Bool.and_eq_true, decide_eq_true_eq] <;> exact ⟨h1, h2⟩
theorem nice_none : nice b n .none = true := by cases n <;> rfl
theorem nice_bool {i : Bool} : nice b n (.bool i) = true := by cases n <;> rfl
theorem nice_int {i : Int} : nice b n (.int i) = true := by cases n <;> rfl
theorem nice_mono {b' : Nat} (hb : b ≤ b') : ∀ {n n' : Nat} {d : PyData}, n ≤ n' → nice b n d = true → nice b' n' d = true
  | n, n', .none, _, _ => nice_none
  | n, n', .bool _, _, _ => nice_bool
  | n, n', .int _, _, _ => nice_int
  | n, n', .str x, _, h => nice_mkS (Nat.le_trans (nice_str h).1 hb) (nice_str h).2
  | 0, _, .list _, _, h => nomatch h
  | 0, _, .tuple _, _, h => nomatch h
  | n + 1, n', .list ds, hn, h => by
    obtain ⟨m, e, h1, h2⟩ := nice_list h
    cases e
    obtain ⟨m', rfl⟩ : ∃ m', n' = m' + 1 := ⟨n' - 1, by omega⟩
    exact nice_mkL (Nat.le_trans h1 hb) fun d hd => nice_mono hb (by omega) (h2 d hd)
  | n + 1, n', .tuple ds, hn, h => by
    obtain ⟨m, e, h1, h2⟩ := nice_tuple h
    cases e
    obtain ⟨m', rfl⟩ : ∃ m', n' = m' + 1 := ⟨n' - 1, by omega⟩
    exact nice_mkT (Nat.le_trans h1 hb) fun d hd => nice_mono hb (by omega) (h2 d hd)
  | 0, _, .dict _, _, h => nomatch h
  | _ + 1, _, .dict _, _, h => nomatch h
theorem nice_lays : ∀ {ds : List PyData}, (∀ d ∈ ds, d.canLay0 = true ∧ d.depth ≤ n) → PyData.canLayAll0 ds = true ∧ PyData.depthAll ds ≤ n
  | [], _ => ⟨by simp [PyData.canLayAll0], by simp [PyData.depthAll]⟩
  | d :: r, h => by
    have h1 := h d (List.mem_cons_self ..)
    have h2 := nice_lays (ds := r) fun e he => h e (List.mem_cons_of_mem _ he)
    exact ⟨by simp [PyData.canLayAll0, h1.1, h2.1], by simp only [PyData.depthAll]; omega⟩
theorem nice_lay : ∀ {n : Nat} {d : PyData}, nice b n d = true → d.canLay0 = true ∧ d.depth ≤ n
  | n, .none, _ => ⟨by simp [PyData.canLay0], by simp [PyData.depth]⟩
  | n, .bool _, _ => ⟨by simp [PyData.canLay0], by simp [PyData.depth]⟩
  | n, .int _, _ => ⟨by simp [PyData.canLay0], by simp [PyData.depth]⟩
  | n, .str x, h => ⟨(nice_str h).2, by simp [PyData.depth]⟩
  | 0, .list _, h => nomatch h
  | 0, .tuple _, h => nomatch h
  | n + 1, .list ds, h => by
    obtain ⟨m, e, h1, h2⟩ := nice_list h
    cases e
    have := nice_lays (n := n) fun d hd => nice_lay (h2 d hd)
    exact ⟨by simpa only [PyData.canLay0] using this.1, by simp only [PyData.depth]; omega⟩
  | n + 1, .tuple ds, h => by
    obtain ⟨m, e, h1, h2⟩ := nice_tuple h
    cases e
    have := nice_lays (n := n) fun d hd => nice_lay (h2 d hd)
    exact ⟨by simpa only [PyData.canLay0] using this.1, by simp only [PyData.depth]; omega⟩
  | 0, .dict _, h => nomatch h
  | _ + 1, .dict _, h => nomatch h
theorem nice_shaped (hn : n ≤ 64) (h : nice b n d = true) : SeqAt.shaped d = true := by
  unfold SeqAt.shaped
  rw [Bool.and_eq_true, decide_eq_true_eq]
  exact ⟨(nice_lay h).1, Nat.le_trans (nice_lay h).2 hn⟩
end
/-! ### tests of kinds -/
def isTup : PyData → Bool
  | .tuple _ => true
  | _ => false
def isStr : PyData → Bool
  | .str _ => true
  | _ => false
def isSeq : PyData → Bool
  | .tuple _ => true
  | .list _ => true
  | _ => false
def isInt : PyData → Bool
  | .int _ => true
  | _ => false
def noD : PyData → Bool
  | .dict _ => false
  | _ => true
theorem nice_noD {b n : Nat} {d : PyData} (h : nice b n d = true) : noD d = true := by
  cases d with
  | dict m => cases n <;> cases h
  | _ => rfl
theorem isi_tup {d : PyData} (h : noD d = true) : bIsi ["tuple"] d = some (rb (isTup d)) := by
  cases d with
  | dict m => cases h
  | _ => kernel_rfl
theorem isi_str {d : PyData} (h : noD d = true) : bIsi ["str"] d = some (rb (isStr d)) := by
  cases d with
  | dict m => cases h
  | _ => kernel_rfl
theorem isi_seq {d : PyData} (h : noD d = true) : bIsi ["tuple", "list"] d = some (rb (isSeq d)) := by
  cases d with
  | dict m => cases h
  | _ => kernel_rfl
/-- a whole number, within bounds -/
def inR (lo hi : Int) : PyData → Bool
  | .int i => decide (lo ≤ i) && decide (i ≤ hi)
  | _ => false
theorem chain_le {lo i hi : Int} {e : DL.Env} {fa fb fc : FE} (h1 : fa e = some (.dat (.int lo), e)) (h2 : fb e = some (.dat (.int i), e)) (h3 : fc e = some (.dat (.int hi), e)) : fChain opLe opLe fa fb fc e = some (.dat (.bool (decide (lo ≤ i) && decide (i ≤ hi))), e) := by
  cases h : decide (lo ≤ i) with
  | true =>
    rw [Bool.true_and]
    exact ev_chain h1 h2 rfl rfl (congrArg (fun z => some (rb z)) h) h3 rfl rfl rfl
  | false =>
    rw [Bool.false_and]
    exact ev_chainF h1 h2 rfl rfl (congrArg (fun z => some (rb z)) h)
theorem is_integer_any {d : PyData} (lo hi : Int) (h : noD d = true) : is_integer_F [d, .int lo, .int hi] = some (.dat (.bool (inR lo hi d))) := by
  cases d with
  | dict m => cases h
  | int i => exact run_ret (np := 3) (n := 3) (r1 := .dat (.bool (decide (lo ≤ i) && decide (i ≤ hi)))) (e := [.dat (.int i), .dat (.int lo), .dat (.int hi)]) rfl (es_ret (ev_andE (b1 := true) (e1 := [.dat (.int i), .dat (.int lo), .dat (.int hi)]) (by kernel_rfl) (fun _ => ev_andE (b1 := true) (e1 := [.dat (.int i), .dat (.int lo), .dat (.int hi)]) (by kernel_rfl) (fun _ => chain_le rfl rfl rfl) fun z => nomatch z) fun z => nomatch z)) rfl
  | _ => kernel_rfl
theorem law_whole_any {d : PyData} (h : noD d = true) : _law_whole_F [d] = some (.dat (.bool (isInt d))) := by
  cases d with
  | dict m => cases h
  | _ => kernel_rfl
theorem law_within_any {d : PyData} (lo hi : Int) (h : noD d = true) : _law_within_F [d, .int lo, .int hi] = some (.dat (.bool (inR lo hi d))) := by
  cases d with
  | dict m => cases h
  | int i => exact run_ret (np := 3) (n := 3) (r1 := .dat (.bool (decide (lo ≤ i) && decide (i ≤ hi)))) (e := [.dat (.int i), .dat (.int lo), .dat (.int hi)]) rfl (es_ret (ev_andE (b1 := true) (e1 := [.dat (.int i), .dat (.int lo), .dat (.int hi)]) (by kernel_rfl) (fun _ => chain_le rfl rfl rfl) fun z => nomatch z)) rfl
  | _ => kernel_rfl
/-! ### parts -/
def sideB (s : Str) : Bool := inD (.str s) [.str "right", .str "left", .str "any"]
def isPt : PyData → Bool
  | .tuple [.str s, d] => sideB s && inR 1 999 d
  | _ => false
theorem len3 (a b c : PyData) (r : List PyData) : opNe (.int (((a :: b :: c :: r).length : Nat) : Int)) (.int 2) = some (rb true) := by
  rw [op_ne_int, decide_eq_false (by simp only [List.length_cons]; omega)]
  rfl
theorem is_part_any {b n : Nat} {d : PyData} (h : nice b n d = true) : is_part_F [d] = some (.dat (.bool (isPt d))) := by
  cases d with
  | dict m => cases n <;> cases h
  | tuple ds =>
    obtain ⟨m, _, _, hs⟩ := nice_tuple h
    match ds, hs with
    | [], _ => kernel_rfl
    | [a], _ => cases a <;> kernel_rfl
    | a :: b' :: c :: r, _ =>
      let E : DL.Env := [.dat (.tuple (a :: b' :: c :: r))]
      have e : isPt (.tuple (a :: b' :: c :: r)) = false := by cases a <;> rfl
      rw [e]
      refine run_ret (np := 1) (n := 1) (r1 := .dat (.bool false)) (e := E) rfl (es_stop ((es_ifT (e := E) (ev_or (e1 := E) (b1 := false) (b2 := true) (by kernel_rfl) (fun _ => ev_or (e1 := E) (b1 := true) (b2 := true) (ev_B (ev_bind (e1 := E) (x := .int (((a :: b' :: c :: r).length : Nat) : Int)) rfl rfl (len3 a b' c r))) (fun z => nomatch z) fun _ => rfl) fun z => nomatch z)).trans rfl)) rfl
    | [a, b'], hs =>
      have ha := hs a (by simp)
      have hb := hs b' (by simp)
      cases a with
      | dict m => cases nice_noD ha
      | str s =>
        let E : DL.Env := [.dat (.tuple [.str s, b'])]
        refine run_ret (np := 1) (n := 1) (r1 := .dat (.bool (sideB s && inR 1 999 b'))) (e := E) rfl ((es_seq (e := E) (by kernel_rfl)).trans (es_ret (ev_andE (b1 := sideB s) (e1 := E) (ev_B (ev_un (e1 := E) (r1 := .dat (.str s)) rfl rfl (congrArg (fun z => some (rb z)) (Bool.false_xor _)))) (fun _ => ev_call (ea_dat (d := b') rfl (ea_dat (d := .int 1) rfl (ea_dat (d := .int 999) rfl ea_nil))) rfl (is_integer_any 1 999 (nice_noD hb))) fun _ => rfl))) rfl
      | _ => kernel_rfl
  | _ => kernel_rfl
theorem law_is_part_any {b n : Nat} {d : PyData} (h : nice b n d = true) : _law_is_part_F [d] = some (.dat (.bool (isPt d))) := by
  cases d with
  | dict m => cases n <;> cases h
  | tuple ds =>
    obtain ⟨m, _, _, hs⟩ := nice_tuple h
    match ds, hs with
    | [], _ => kernel_rfl
    | [a], _ => cases a <;> kernel_rfl
    | a :: b' :: c :: r, _ =>
      let E : DL.Env := [.dat (.tuple (a :: b' :: c :: r))]
      have e : isPt (.tuple (a :: b' :: c :: r)) = false := by cases a <;> rfl
      rw [e]
      refine run_ret (np := 1) (n := 1) (r1 := .dat (.bool false)) (e := E) rfl (es_stop ((es_ifT (e := E) (ev_or (e1 := E) (b1 := false) (b2 := true) (by kernel_rfl) (fun _ => ev_or (e1 := E) (b1 := true) (b2 := true) (ev_B (ev_bind (e1 := E) (x := .int (((a :: b' :: c :: r).length : Nat) : Int)) rfl rfl (len3 a b' c r))) (fun z => nomatch z) fun _ => rfl) fun z => nomatch z)).trans rfl)) rfl
    | [a, b'], hs =>
      have ha := hs a (by simp)
      have hb := hs b' (by simp)
      cases a with
      | dict m => cases nice_noD ha
      | str s =>
        let E : DL.Env := [.dat (.tuple [.str s, b'])]
        refine run_ret (np := 1) (n := 1) (r1 := .dat (.bool (sideB s && inR 1 999 b'))) (e := E) rfl ((es_seq (e := E) (by kernel_rfl)).trans (es_ret (ev_andE (b1 := sideB s) (e1 := E) (ev_B (ev_bind (e1 := E) (x := .str s) (y := .tuple [.str "right", .str "left", .str "any"]) rfl (by kernel_rfl) (by kernel_rfl))) (fun _ => ev_call (ea_dat (d := b') rfl (ea_dat (d := .int 1) rfl (ea_dat (d := .int 999) rfl ea_nil))) rfl (law_within_any 1 999 (nice_noD hb))) fun _ => rfl))) rfl
      | _ => kernel_rfl
  | _ => kernel_rfl
/-- is_parts of anything -/
def isPs : PyData → Bool
  | .tuple ds => decide (ds.length ≤ 30) && ds.all isPt
  | _ => false
theorem is_parts_any {b n : Nat} {d : PyData} (hb : b ≤ 100000) (h : nice b n d = true) : is_parts_F [d] = some (.dat (.bool (isPs d))) := by
  cases d with
  | dict m => cases n <;> cases h
  | tuple ds =>
    obtain ⟨m, _, hl, hs⟩ := nice_tuple h
    let E : DL.Env := [.dat (.tuple ds), .dead]
    have c1 : fComp [1] (fiSeq (fName 0)) (fgName 1) ftYes (fCallN 1 is_part_F (faCons (fName 1) faNil)) E = some (.new (ds.map fun d => .bool (isPt d)), E) := by
      refine ev_map (dd := id) (e := E) ?_ (Nat.le_trans hl (line_len hb)) (fun x hx => ?_) rfl
      · rw [List.map_id]
        rfl
      · have q : fCallN 1 is_part_F (faCons (fName 1) faNil) [.dat (.tuple ds), .dat x] = some (.dat (.bool (isPt x)), [.dat (.tuple ds), .dat x]) := ev_call (ea_dat (d := x) rfl ea_nil) rfl (is_part_any (hs x hx))
        show (fCallN 1 is_part_F (faCons (fName 1) faNil) [.dat (.tuple ds), .dat x]).bind _ = _
        rw [q]
        rfl
    refine run_ret (np := 1) (n := 2) (r1 := .dat (.bool (decide (ds.length ≤ 30) && ds.all isPt))) (e := E) rfl (es_ret ?_) rfl
    refine ev_andE (b1 := true) (e1 := E) (by kernel_rfl) (fun _ => ?_) fun z => nomatch z
    have k : decide ((ds.length : Int) ≤ 30) = decide (ds.length ≤ 30) := decide_eq_decide.mpr (by omega)
    rw [← k]
    refine ev_andE (e1 := E) (ev_B (ev_bind (e1 := E) (e2 := E) (x := .int (ds.length : Int)) rfl rfl rfl)) (fun _ => ?_) fun _ => rfl
    exact ev_un c1 rfl (all_map _ _)
  | _ => kernel_rfl
end RP

/-! MA2: is_layout of anything. -/
namespace RP
open PySem PySem.Spec PyProof.Rows L2 DL
def toI : List PyData → List Int
  | .int i :: r => i :: toI r
  | _ :: r => toI r
  | [] => []
theorem toI_map {lo hi : Int} : ∀ {ds : List PyData}, ds.all (inR lo hi) = true → ds = (toI ds).map PyData.int
  | [], _ => rfl
  | d :: r, h => by
    rw [List.all_cons, Bool.and_eq_true] at h
    cases d with
    | int i => exact congrArg (PyData.int i :: ·) (toI_map h.2)
    | none => cases h.1
    | bool _ => cases h.1
    | str _ => cases h.1
    | list _ => cases h.1
    | tuple _ => cases h.1
    | dict _ => cases h.1
def incB (L : List Int) : Bool := (L.zip (L.drop 1)).all fun p => decide (p.1 < p.2)
def isLay (ps : List Pt) : PyData → Bool
  | .tuple ds => ds.all (inR 0 ((ps.length : Int) - 1)) && (incB (toI ds) && fitB ps (toI ds) 0 1)
  | _ => false
theorem cut1 (L : List Int) : cutD (L.map PyData.int) (some 1) none = (L.drop 1).map PyData.int := by
  cases L with
  | nil => rfl
  | cons x r =>
    rw [List.map_drop]
    exact cut_from _ 1 (by simp)
theorem fit_zip : ∀ (ps : List Pt) (L : List Int) (i : Nat) (p : Int), ((ps.zip (stM ps L i p)).all fun q => fits q.1.1 q.2) = fitB ps L i p
  | [], _, _, _ => rfl
  | (s, n) :: r, L, i, p => by
    show (fits s (p + b01 (decide ((i : Int) ∈ L))) && ((r.zip (stM r L (i + 1) (p + b01 (decide ((i : Int) ∈ L)) + n))).all fun q => fits q.1.1 q.2)) = (fits s (p + b01 (decide ((i : Int) ∈ L))) && fitB r L (i + 1) (p + b01 (decide ((i : Int) ∈ L)) + n))
    rw [fit_zip r L (i + 1) _]
theorem stepC_of {vs : List Nat} {g : FG} {t : FT} {fe : FE} {d x : PyData} {c : Bool} {env e1 : DL.Env} (h1 : g d env = some e1) (h2 : t e1 = some (c, e1)) (h3 : fe e1 = some (.dat x, e1)) (h4 : kill e1 vs = env) : stepC vs g t fe d env = some (if c = true then some x else none, env) := by
  unfold stepC
  rw [h1, Option.bind_some, h2, Option.bind_some]
  cases c with
  | true =>
    rw [if_pos rfl, if_pos rfl]
    simp only
    rw [h3, Option.bind_some]
    simp only
    rw [show frz e1 (.dat x) = some (x, e1) from rfl, Option.bind_some]
    simp only
    rw [h4]
  | false =>
    rw [if_neg (by simp), if_neg (by simp)]
    simp only
    rw [h4]
theorem all_neg {α : Type} (c : α → Bool) (xs : List α) : ((xs.filter fun x => !c x) = []) ↔ xs.all c = true := by
  rw [List.filter_eq_nil_iff, List.all_eq_true]
  exact ⟨fun h x hx => by simpa using h x hx, fun h x hx => by simpa using h x hx⟩
theorem noDs {b n : Nat} {ds : List PyData} (h : ∀ d ∈ ds, nice b n d = true) : ∀ d ∈ ds, noD d = true := fun d hd => nice_noD (h d hd)
section
variable {ps : List Pt} {b n : Nat} {ds : List PyData}
theorem pairs_at (E : DL.Env) (L : List Int) (h : fName 1 E = some (.dat (.tuple (L.map PyData.int)), E)) : fiZip (fName 1) (fCut (fName 1) (foSome (fC (.int 1))) foNone) E = some ((L.zip (L.drop 1)).map (fun p => .tuple [.int p.1, .int p.2]), E) := by
  have c : fCut (fName 1) (foSome (fC (.int 1))) foNone E = some (.dat (.tuple ((L.drop 1).map PyData.int)), E) := ev_cut (a := some 1) (b := none) h rfl rfl rfl (congrArg (fun z => some (Rs.dat (.tuple z))) (cut1 L))
  rw [ev_zip h rfl c rfl rfl rfl, zipD_map]
theorem is_layout_any {d : PyData} (hb : b ≤ 100000) (hl : ps.length ≤ 1000) (h : nice b n d = true) : is_layout_F [dPs ps, d] = some (.dat (.bool (isLay ps d))) := by
  cases d with
  | dict m => cases n <;> cases h
  | tuple ds =>
    obtain ⟨m, _, hl2, hs⟩ := nice_tuple h
    let E : DL.Env := [.dat (dPs ps), .dat (.tuple ds), .dead, .dead, .dead, .dead, .dead]
    have t1 : fB (fUn (bIsi ["tuple"]) (fName 1)) E = some (true, E) := by kernel_rfl
    have t2 : fUn bAll (fComp [2] (fiSeq (fName 1)) (fgName 2) ftYes (fCallN 3 is_integer_F (faCons (fName 2) (faCons (fC (.int 0)) (faCons (fBin opSub (fUn bLen (fName 0)) (fC (.int 1))) faNil))))) E = some (.dat (.bool (ds.all (inR 0 ((ps.length : Int) - 1)))), E) := by
      refine ev_un (ev_map (dd := id) (f := fun d => .bool (inR 0 ((ps.length : Int) - 1) d)) (e := E) (by rw [List.map_id]; rfl) (Nat.le_trans hl2 (line_len hb)) (fun x hx => ?_) rfl) rfl (all_map _ _)
      let E1 : DL.Env := [.dat (dPs ps), .dat (.tuple ds), .dat x, .dead, .dead, .dead, .dead]
      have q1 : fBin opSub (fUn bLen (fName 0)) (fC (.int 1)) E1 = some (.dat (.int ((ps.length : Int) - 1)), E1) := by
        have e : fUn bLen (fName 0) E1 = some (.dat (.int ((ps.map dP).length : Int)), E1) := rfl
        rw [List.length_map] at e
        exact ev_bind e rfl rfl
      have q : fCallN 3 is_integer_F (faCons (fName 2) (faCons (fC (.int 0)) (faCons (fBin opSub (fUn bLen (fName 0)) (fC (.int 1))) faNil))) E1 = some (.dat (.bool (inR 0 ((ps.length : Int) - 1) x)), E1) := ev_call (ea_dat (d := x) rfl (ea_dat (d := .int 0) rfl (ea_dat q1 ea_nil))) rfl (is_integer_any _ _ (noDs hs x hx))
      show (fCallN 3 is_integer_F _ E1).bind _ = _
      rw [q]
      rfl
    show _ = some (Rs.dat (.bool (ds.all (inR 0 ((ps.length : Int) - 1)) && (incB (toI ds) && fitB ps (toI ds) 0 1))))
    cases hall : ds.all (inR 0 ((ps.length : Int) - 1)) with
    | false =>
      rw [hall] at t2
      exact run_ret (np := 2) (n := 7) (r1 := .dat (.bool false)) (e := E) rfl (es_stop ((es_ifT (e := E) (ev_or (e1 := E) (b1 := false) (b2 := true) (ev_not t1) (fun _ => ev_not (ev_B t2)) fun z => nomatch z)).trans rfl)) rfl
    | true =>
      rw [hall] at t2
      have s1 : fsIf (ftOr (ftNot (fB (fUn (bIsi ["tuple"]) (fName 1)))) (ftNot (fB (fUn bAll (fComp [2] (fiSeq (fName 1)) (fgName 2) ftYes (fCallN 3 is_integer_F (faCons (fName 2) (faCons (fC (.int 0)) (faCons (fBin opSub (fUn bLen (fName 0)) (fC (.int 1))) faNil))))))))) (fsRet (fC (.bool false))) fsNext E = some (.nx E) := (es_ifF (e := E) (ev_or (e1 := E) (b1 := false) (b2 := false) (ev_not t1) (fun _ => ev_not (ev_B t2)) fun z => nomatch z)).trans rfl
      have ed := toI_map hall
      generalize hL : toI ds = L at ed
      subst ed
      have hL2 : L.length ≤ 100000 := by rw [List.length_map] at hl2; omega
      have t3 : fUn bAll (fComp [3, 4] (fiZip (fName 1) (fCut (fName 1) (foSome (fC (.int 1))) foNone)) (fgTup (fgCons (fgName 3) (fgCons (fgName 4) fgNil))) ftYes (fBin opLt (fName 3) (fName 4))) E = some (.dat (.bool (incB L)), E) := by
        refine ev_un (ev_map (e := E) (f := fun p => .bool (decide (p.1 < p.2))) (pairs_at E L rfl) (Nat.le_trans (zip_len _ _) (line_len hL2)) (fun x hx => ?_) rfl) rfl (all_map _ _)
        kernel_rfl
      rw [Bool.true_and]
      refine run_ret (np := 2) (n := 7) (r1 := .dat (.bool (incB L && fitB ps L 0 1))) (e := E) rfl ((es_seq (e := E) s1).trans ?_) rfl
      cases hi : incB L with
      | false =>
        rw [hi] at t3
        exact es_stop ((es_ifT (e := E) (ev_not (ev_B t3))).trans rfl)
      | true =>
        rw [hi] at t3
        refine (es_seq (e := E) ((es_ifF (e := E) (ev_not (ev_B t3))).trans rfl)).trans (es_ret ?_)
        have c0 : fCallN 2 starts_F (faCons (fName 0) (faCons (fName 1) faNil)) E = some (.dat (.tuple ((stM ps L 0 1).map PyData.int)), E) := ev_call (ea_dat (fa := fName 0) (d := dPs ps) rfl (ea_dat (fa := fName 1) (d := .tuple (L.map PyData.int)) rfl ea_nil)) rfl (starts_eq ps L (small_line hl))
        have c1 : fiZip (fName 0) (fCallN 2 starts_F (faCons (fName 0) (faCons (fName 1) faNil))) E = some ((ps.zip (stM ps L 0 1)).map (fun p => .tuple [dP p.1, .int p.2]), E) := by
          rw [ev_zip (r1 := .dat (dPs ps)) (e1 := E) rfl rfl c0 rfl rfl rfl, zipD_map]
        have e := fit_zip ps L 0 1
        rw [Bool.true_and, ← e]
        refine ev_un (ev_map (f := fun p : Pt × Int => .bool (fits p.1.1 p.2)) c1 (Nat.le_trans (zip_len _ _) (small_line hl)) (fun x hx => ?_) rfl) rfl (all_map _ _)
        obtain ⟨⟨s, n⟩, f⟩ := x
        let E1 : DL.Env := [.dat (dPs ps), .dat (.tuple (L.map PyData.int)), .dead, .dead, .dead, .dat (dP (s, n)), .dat (.int f)]
        have q : fCallN 2 fits_side_F (faCons (fBin opIx (fName 5) (fC (.int 0))) (faCons (fName 6) faNil)) E1 = some (.dat (.bool (fits s f)), E1) := ev_call (ea_dat (d := .str s.s) (e1 := E1) (by kernel_rfl) (ea_dat (fa := fName 6) (d := .int f) rfl ea_nil)) rfl (fits_side_eq s f)
        show (fCallN 2 fits_side_F _ E1).bind _ = _
        rw [q]
        rfl
  | _ => kernel_rfl
theorem ne_nil {xs : List PyData} (h : ∀ d ∈ xs, nice b n d = true) (hb : xs.length ≤ b) (hn : n ≤ 63) : opNe (.list xs) (.list []) = some (rb (!decide (xs = []))) := by
  unfold opNe
  rw [if_pos (by rw [nice_shaped (n := n + 1) (by omega) (nice_mkL hb h)]; rfl)]
  cases xs with
  | nil => rfl
  | cons x r => rfl
theorem eq_nil {xs : List PyData} (h : ∀ d ∈ xs, nice b n d = true) (hb : xs.length ≤ b) (hn : n ≤ 63) : opEq (.list xs) (.list []) = some (rb (decide (xs = []))) := by
  unfold opEq
  rw [if_pos (by rw [nice_shaped (n := n + 1) (by omega) (nice_mkL hb h)]; rfl)]
  cases xs with
  | nil => rfl
  | cons x r => rfl
theorem law_is_layout_any {d : PyData} (hb : b ≤ 100000) (hl : ps.length ≤ 1000) (hn : n ≤ 60) (h : nice b n d = true) : _law_is_layout_F [dPs ps, d] = some (.dat (.bool (isLay ps d))) := by
  cases d with
  | dict m => cases n <;> cases h
  | tuple ds =>
    obtain ⟨m, rfl, hl2, hs⟩ := nice_tuple h
    let E : DL.Env := [.dat (dPs ps), .dat (.tuple ds), .dead, .dead, .dead]
    have t1 : fB (fUn (bIsi ["tuple"]) (fName 1)) E = some (true, E) := by kernel_rfl
    have t2 : fB (fBin opNe (fComp [2] (fiSeq (fName 1)) (fgName 2) (ftNot (fB (fCallN 3 _law_within_F (faCons (fName 2) (faCons (fC (.int 0)) (faCons (fBin opSub (fUn bLen (fName 0)) (fC (.int 1))) faNil)))))) (fName 2)) (fLst faNil)) E = some (!(ds.all (inR 0 ((ps.length : Int) - 1))), E) := by
      have c1 : fComp [2] (fiSeq (fName 1)) (fgName 2) (ftNot (fB (fCallN 3 _law_within_F (faCons (fName 2) (faCons (fC (.int 0)) (faCons (fBin opSub (fUn bLen (fName 0)) (fC (.int 1))) faNil)))))) (fName 2) E = some (.new ((ds.filter fun d => !inR 0 ((ps.length : Int) - 1) d).map id), E) := by
        refine ev_filt (dd := id) (c := fun d => !inR 0 ((ps.length : Int) - 1) d) (f := id) (e := E) (by rw [List.map_id]; rfl) (Nat.le_trans hl2 (line_len hb)) (fun x hx => ?_) rfl
        let E1 : DL.Env := [.dat (dPs ps), .dat (.tuple ds), .dat x, .dead, .dead]
        have q1 : fBin opSub (fUn bLen (fName 0)) (fC (.int 1)) E1 = some (.dat (.int ((ps.length : Int) - 1)), E1) := by
          have e : fUn bLen (fName 0) E1 = some (.dat (.int ((ps.map dP).length : Int)), E1) := rfl
          rw [List.length_map] at e
          exact ev_bind e rfl rfl
        have q : ftNot (fB (fCallN 3 _law_within_F (faCons (fName 2) (faCons (fC (.int 0)) (faCons (fBin opSub (fUn bLen (fName 0)) (fC (.int 1))) faNil))))) E1 = some (!inR 0 ((ps.length : Int) - 1) x, E1) := ev_not (ev_B (ev_call (ea_dat (d := x) rfl (ea_dat (d := .int 0) rfl (ea_dat q1 ea_nil))) rfl (law_within_any _ _ (noDs hs x hx))))
        show ((ftNot (fB (fCallN 3 _law_within_F (faCons (fName 2) (faCons (fC (.int 0)) (faCons (fBin opSub (fUn bLen (fName 0)) (fC (.int 1))) faNil))))) E1).bind _) = _
        rw [q]
        simp only [Option.bind_some]
        cases inR 0 ((ps.length : Int) - 1) x <;> rfl
      rw [List.map_id] at c1
      have e : decide ((ds.filter fun d => !inR 0 ((ps.length : Int) - 1) d) = []) = ds.all (inR 0 ((ps.length : Int) - 1)) := by
        rw [Bool.eq_iff_iff, decide_eq_true_eq]
        exact all_neg _ _
      rw [← e]
      exact ev_B (ev_bin c1 (r2 := .new []) (e2 := E) rfl rfl rfl (ne_nil (b := b) (n := m) (fun d hd => hs d (List.mem_filter.mp hd).1) (Nat.le_trans (List.length_filter_le _ _) hl2) (by omega)))
    show _ = some (Rs.dat (.bool (ds.all (inR 0 ((ps.length : Int) - 1)) && (incB (toI ds) && fitB ps (toI ds) 0 1))))
    cases hall : ds.all (inR 0 ((ps.length : Int) - 1)) with
    | false =>
      rw [hall] at t2
      exact run_ret (np := 2) (n := 5) (r1 := .dat (.bool false)) (e := E) rfl (es_stop ((es_ifT (e := E) (ev_or (e1 := E) (b1 := false) (b2 := true) (ev_not t1) (fun _ => t2) fun z => nomatch z)).trans rfl)) rfl
    | true =>
      rw [hall] at t2
      have s1 := (es_ifF (p := fsRet (fC (.bool false))) (q := fsNext) (e := E) (ev_or (e1 := E) (b1 := false) (b2 := false) (ev_not t1) (fun _ => t2) fun z => nomatch z)).trans (show fsNext E = some (.nx E) from rfl)
      have ed := toI_map hall
      generalize hL : toI ds = L at ed
      subst ed
      have hL2 : L.length ≤ 100000 := by rw [List.length_map] at hl2; omega
      have t3 : fB (fBin opNe (fComp [3, 4] (fiZip (fName 1) (fCut (fName 1) (foSome (fC (.int 1))) foNone)) (fgTup (fgCons (fgName 3) (fgCons (fgName 4) fgNil))) (fB (fBin opGe (fName 3) (fName 4))) (fC (.int 1))) (fLst faNil)) E = some (!incB L, E) := by
        have c1 := ev_filt (vs := [3, 4]) (g := fgTup (fgCons (fgName 3) (fgCons (fgName 4) fgNil))) (t := fB (fBin opGe (fName 3) (fName 4))) (fe := fC (.int 1)) (c := fun p : Int × Int => !decide (p.1 < p.2)) (f := fun _ => .int 1) (e1 := E) (pairs_at E L rfl) (Nat.le_trans (zip_len _ _) (line_len hL2)) (fun x hx => by
          obtain ⟨x, y⟩ := x
          have q : fB (fBin opGe (fName 3) (fName 4)) [.dat (dPs ps), .dat (.tuple (L.map PyData.int)), .dead, .dat (.int x), .dat (.int y)] = some (!decide (x < y), [.dat (dPs ps), .dat (.tuple (L.map PyData.int)), .dead, .dat (.int x), .dat (.int y)]) := by
            have : (!decide (x < y)) = decide (y ≤ x) := by
              rw [← decide_not]
              exact decide_eq_decide.mpr (by omega)
            rw [this]
            rfl
          exact stepC_of (e1 := [.dat (dPs ps), .dat (.tuple (L.map PyData.int)), .dead, .dat (.int x), .dat (.int y)]) rfl q rfl rfl) rfl
        have e : decide ((((L.zip (L.drop 1)).filter fun p => !decide (p.1 < p.2)).map fun _ => PyData.int 1) = []) = incB L := by
          rw [Bool.eq_iff_iff, decide_eq_true_eq, List.map_eq_nil_iff]
          exact all_neg _ _
        rw [← e]
        refine ev_B (ev_bin c1 (r2 := .new []) (e2 := E) rfl rfl rfl (ne_nil (b := 100000) (n := 0) (fun d hd => ?_) ?_ (by omega)))
        · obtain ⟨_, _, rfl⟩ := List.mem_map.mp hd
          rfl
        · rw [List.length_map]
          exact Nat.le_trans (List.length_filter_le _ _) (Nat.le_trans (zip_len _ _) hL2)
      rw [Bool.true_and]
      refine run_ret (np := 2) (n := 5) (r1 := .dat (.bool (incB L && fitB ps L 0 1))) (e := E) rfl ((es_seq (e := E) s1).trans ?_) rfl
      cases hi : incB L with
      | false =>
        rw [hi] at t3
        exact es_stop ((es_ifT (e := E) t3).trans rfl)
      | true =>
        rw [hi] at t3
        refine (es_seq (e := E) ((es_ifF (e := E) t3).trans rfl)).trans (es_ret ?_)
        rw [Bool.true_and]
        exact ev_call (ea_dat (fa := fName 0) (d := dPs ps) rfl (ea_dat (fa := fName 1) (d := .tuple (L.map PyData.int)) rfl ea_nil)) rfl (good_eq ps L hl)
  | _ => kernel_rfl
end
end RP

/-! PD: equality of plain data: no truth values, no dicts. -/
namespace RP
open PySem PySem.Spec PyProof.Rows L2 DL
def pur : Nat → PyData → Bool
  | _, .none => true
  | _, .int _ => true
  | _, .str x => PyData.strOk x
  | n + 1, .list xs => xs.all (pur n)
  | n + 1, .tuple xs => xs.all (pur n)
  | _, _ => false
theorem eqv_lists (xs ys : List PyData) : PyData.eqv (.list xs) (.list ys) = PyData.eqvAll xs ys := by kernel_rfl
theorem eqv_tuples (xs ys : List PyData) : PyData.eqv (.tuple xs) (.tuple ys) = PyData.eqvAll xs ys := by kernel_rfl
theorem lay_lists (xs : List PyData) : PyData.canLay0 (.list xs) = PyData.canLayAll0 xs := by kernel_rfl
theorem lay_tuples (xs : List PyData) : PyData.canLay0 (.tuple xs) = PyData.canLayAll0 xs := by kernel_rfl
theorem lay_cons (x : PyData) (xs : List PyData) : PyData.canLayAll0 (x :: xs) = (PyData.canLay0 x && PyData.canLayAll0 xs) := by kernel_rfl
theorem dep_lists (xs : List PyData) : PyData.depth (.list xs) = PyData.depthAll xs + 1 := by kernel_rfl
theorem dep_tuples (xs : List PyData) : PyData.depth (.tuple xs) = PyData.depthAll xs + 1 := by kernel_rfl
theorem dep_cons (x : PyData) (xs : List PyData) : PyData.depthAll (x :: xs) = max (PyData.depth x) (PyData.depthAll xs) := by kernel_rfl
theorem pur_all {n : Nat} (h : ∀ d, pur n d = true → PyData.canLay0 d = true ∧ PyData.depth d ≤ n) : ∀ xs : List PyData, xs.all (pur n) = true → PyData.canLayAll0 xs = true ∧ PyData.depthAll xs ≤ n
  | [], _ => ⟨by kernel_rfl, Nat.zero_le _⟩
  | x :: r, hx => by
    rw [List.all_cons, Bool.and_eq_true] at hx
    obtain ⟨a, b⟩ := h x hx.1
    obtain ⟨c, d⟩ := pur_all h r hx.2
    rw [lay_cons, dep_cons, a, c]
    exact ⟨rfl, by omega⟩
theorem pur_lay : ∀ (n : Nat) (d : PyData), pur n d = true → PyData.canLay0 d = true ∧ PyData.depth d ≤ n
  | n, .none, _ => ⟨by kernel_rfl, Nat.zero_le _⟩
  | n, .int _, _ => ⟨by kernel_rfl, Nat.zero_le _⟩
  | n, .str x, h => ⟨by
    have e : PyData.canLay0 (.str x) = PyData.strOk x := by kernel_rfl
    rw [e]
    cases n <;> exact h, Nat.zero_le _⟩
  | 0, .bool _, h => by cases h
  | n + 1, .bool _, h => by cases h
  | 0, .dict _, h => by cases h
  | n + 1, .dict _, h => by cases h
  | 0, .list _, h => by cases h
  | 0, .tuple _, h => by cases h
  | n + 1, .list xs, h => by
    obtain ⟨a, b⟩ := pur_all (pur_lay n) xs h
    rw [lay_lists, dep_lists]
    exact ⟨a, by omega⟩
  | n + 1, .tuple xs, h => by
    obtain ⟨a, b⟩ := pur_all (pur_lay n) xs h
    rw [lay_tuples, dep_tuples]
    exact ⟨a, by omega⟩
theorem pur_shaped {n : Nat} {d : PyData} (h : pur n d = true) (hn : n ≤ 64) : SeqAt.shaped d = true := by
  obtain ⟨a, b⟩ := pur_lay n d h
  unfold SeqAt.shaped
  rw [a, decide_eq_true (by omega)]
  rfl
theorem eqv_all {n m : Nat} (h : ∀ d e, pur n d = true → pur m e = true → (PyData.eqv d e = true ↔ d = e)) : ∀ xs ys : List PyData, xs.all (pur n) = true → ys.all (pur m) = true → (PyData.eqvAll xs ys = true ↔ xs = ys)
  | [], [], _, _ => ⟨fun _ => rfl, fun _ => by kernel_rfl⟩
  | [], y :: ys, _, _ => by
    have e : PyData.eqvAll [] (y :: ys) = false := by kernel_rfl
    rw [e]
    exact ⟨(fun h => nomatch h), (fun h => nomatch h)⟩
  | x :: xs, [], _, _ => by
    have e : PyData.eqvAll (x :: xs) [] = false := by kernel_rfl
    rw [e]
    exact ⟨(fun h => nomatch h), (fun h => nomatch h)⟩
  | x :: xs, y :: ys, hx, hy => by
    rw [List.all_cons, Bool.and_eq_true] at hx hy
    have e : PyData.eqvAll (x :: xs) (y :: ys) = (PyData.eqv x y && PyData.eqvAll xs ys) := by kernel_rfl
    rw [e, Bool.and_eq_true, h x y hx.1 hy.1, eqv_all h xs ys hx.2 hy.2, List.cons.injEq]
theorem eqv_pur : ∀ (n m : Nat) (d e : PyData), pur n d = true → pur m e = true → (PyData.eqv d e = true ↔ d = e) := by
  intro n
  induction n with
  | zero =>
    intro m d e hd he
    cases d with
    | list xs => cases hd
    | tuple xs => cases hd
    | dict k => cases hd
    | bool b => cases hd
    | none => cases e <;> first | exact ⟨fun _ => rfl, fun _ => by kernel_rfl⟩ | exact ⟨(fun h => nomatch (show false = true from h)), (fun h => nomatch h)⟩
    | int i =>
      cases e with
      | int j => rw [eqv_int, decide_eq_true_eq, PyData.int.injEq]
      | bool b => cases m <;> cases he
      | _ => exact ⟨(fun h => nomatch (show false = true from h)), (fun h => nomatch h)⟩
    | str x =>
      cases e with
      | str y =>
        have e2 : PyData.eqv (.str x) (.str y) = (x == y) := by kernel_rfl
        rw [e2, beq_iff_eq, PyData.str.injEq]
      | _ => exact ⟨(fun h => nomatch (show false = true from h)), (fun h => nomatch h)⟩
  | succ n ih =>
    intro m d e hd he
    cases d with
    | list xs =>
      cases e with
      | list ys =>
        cases m with
        | zero => cases he
        | succ m =>
          rw [eqv_lists, PyData.list.injEq]
          exact eqv_all (ih m) xs ys hd he
      | _ => exact ⟨(fun h => nomatch (show false = true from h)), (fun h => nomatch h)⟩
    | tuple xs =>
      cases e with
      | tuple ys =>
        cases m with
        | zero => cases he
        | succ m =>
          rw [eqv_tuples, PyData.tuple.injEq]
          exact eqv_all (ih m) xs ys hd he
      | _ => exact ⟨(fun h => nomatch (show false = true from h)), (fun h => nomatch h)⟩
    | dict k => cases hd
    | bool b => cases hd
    | none => cases e <;> first | exact ⟨fun _ => rfl, fun _ => by kernel_rfl⟩ | exact ⟨(fun h => nomatch (show false = true from h)), (fun h => nomatch h)⟩
    | int i =>
      cases e with
      | int j => rw [eqv_int, decide_eq_true_eq, PyData.int.injEq]
      | bool b => cases m <;> cases he
      | _ => exact ⟨(fun h => nomatch (show false = true from h)), (fun h => nomatch h)⟩
    | str x =>
      cases e with
      | str y =>
        have e2 : PyData.eqv (.str x) (.str y) = (x == y) := by kernel_rfl
        rw [e2, beq_iff_eq, PyData.str.injEq]
      | _ => exact ⟨(fun h => nomatch (show false = true from h)), (fun h => nomatch h)⟩
section
variable {d e : PyData} {b : Bool} {n m : Nat}
theorem eqv_b (hd : pur n d = true) (he : pur m e = true) (h : b = true ↔ d = e) : PyData.eqv d e = b := Bool.eq_iff_iff.mpr ((eqv_pur n m d e hd he).trans h.symm)
theorem op_eq_b (hd : pur n d = true) (he : pur m e = true) (hn : n ≤ 64) (hm : m ≤ 64) (h : b = true ↔ d = e) : opEq d e = some (rb b) := by
  unfold opEq
  rw [pur_shaped hd hn, pur_shaped he hm, eqv_b hd he h]
  rfl
theorem op_ne_b (hd : pur n d = true) (he : pur m e = true) (hn : n ≤ 64) (hm : m ≤ 64) (h : b = true ↔ d = e) : opNe d e = some (rb (!b)) := by
  unfold opNe
  rw [pur_shaped hd hn, pur_shaped he hm, eqv_b hd he h]
  rfl
theorem inD_pur (hd : pur n d = true) : ∀ ys : List PyData, ys.all (pur m) = true → (inD d ys = true ↔ d ∈ ys)
  | [], _ => ⟨(fun h => nomatch (show false = true from h)), (fun h => nomatch h)⟩
  | y :: r, h => by
    rw [List.all_cons, Bool.and_eq_true] at h
    show (PyData.eqv y d || inD d r) = true ↔ _
    rw [Bool.or_eq_true, eqv_pur m n y d h.1 hd, inD_pur hd r h.2, List.mem_cons]
    exact ⟨fun q => q.elim (fun z => .inl z.symm) .inr, fun q => q.elim (fun z => .inl z.symm) .inr⟩
theorem inD_b {ys : List PyData} (hd : pur n d = true) (he : ys.all (pur m) = true) (h : b = true ↔ d ∈ ys) : inD d ys = b := Bool.eq_iff_iff.mpr ((inD_pur hd ys he).trans h.symm)
/-- x in list -/
theorem op_in_b {ys : List PyData} (hd : pur n d = true) (he : ys.all (pur m) = true) (hn : n ≤ 63) (hm : m ≤ 63) (h : b = true ↔ d ∈ ys) : opIn d (.list ys) = some (rb b) := by
  have s1 := pur_shaped hd (by omega)
  have s2 : SeqAt.shaped (.list ys) = true := pur_shaped (n := m + 1) he (by omega)
  show (if (flatD d && ys.all flatD) = true then _ else if (SeqAt.shaped d && SeqAt.shaped (.list ys)) = true then _ else _) = _
  rw [s1, s2, inD_b hd he h]
  split <;> rfl
theorem op_notIn_b {ys : List PyData} (hd : pur n d = true) (he : ys.all (pur m) = true) (hn : n ≤ 63) (hm : m ≤ 63) (h : b = true ↔ d ∈ ys) : opNotIn d (.list ys) = some (rb (!b)) := by
  have s1 := pur_shaped hd (by omega)
  have s2 : SeqAt.shaped (.list ys) = true := pur_shaped (n := m + 1) he (by omega)
  show (if (flatD d && ys.all flatD) = true then _ else if (SeqAt.shaped d && SeqAt.shaped (.list ys)) = true then _ else _) = _
  rw [s1, s2, inD_b hd he h]
  split <;> rfl
end
/-! the data of parts, layouts -/
theorem strOk_s (s : Sd) : PyData.strOk s.s = true := by cases s <;> decide +kernel
theorem pur_int (n : Nat) (i : Int) : pur n (.int i) = true := by cases n <;> rfl
theorem pur_none (n : Nat) : pur n .none = true := by cases n <;> rfl
theorem pur_sd (n : Nat) (s : Sd) : pur n (.str s.s) = true := by
  have := strOk_s s
  cases n <;> exact this
theorem pur_ints (n : Nat) (L : List Int) : (L.map PyData.int).all (pur n) = true := by
  rw [List.all_eq_true]
  intro x hx
  obtain ⟨i, _, rfl⟩ := List.mem_map.mp hx
  exact pur_int n i
theorem pur_tup (n : Nat) (L : List Int) : pur (n + 1) (.tuple (L.map PyData.int)) = true := pur_ints n L
theorem pur_dP (n : Nat) (p : Pt) : pur (n + 1) (dP p) = true := by
  show [PyData.str p.1.s, PyData.int p.2].all (pur n) = true
  rw [List.all_cons, List.all_cons, pur_sd, pur_int]
  rfl
theorem pur_dPl (n : Nat) (ps : List Pt) : (ps.map dP).all (pur (n + 1)) = true := by
  rw [List.all_eq_true]
  intro x hx
  obtain ⟨i, _, rfl⟩ := List.mem_map.mp hx
  exact pur_dP n i
theorem pur_dPs (n : Nat) (ps : List Pt) : pur (n + 2) (dPs ps) = true := pur_dPl n ps
theorem s_inj {s t : Sd} (h : s.s = t.s) : s = t := by
  have k := beq_iff_eq.mpr h
  have no : ∀ {b : Bool} {p : Prop}, b = true → b = false → p := fun h1 h2 => by rw [h1] at h2; cases h2
  cases s <;> cases t <;> first | rfl | exact no k (by decide +kernel)
theorem dP_inj {p q : Pt} (h : dP p = dP q) : p = q := by
  obtain ⟨s, n⟩ := p
  obtain ⟨s', n'⟩ := q
  have h2 := PyData.tuple.inj h
  rw [List.cons.injEq, List.cons.injEq] at h2
  have a := s_inj (PyData.str.inj h2.1)
  have b := PyData.int.inj h2.2.1
  rw [show s = s' from a, show n = n' from b]
theorem map_inj {α : Type} {d : α → PyData} (h : ∀ x y, d x = d y → x = y) : ∀ {xs ys : List α}, xs.map d = ys.map d → xs = ys
  | [], [], _ => rfl
  | [], _ :: _, h' => nomatch h'
  | _ :: _, [], h' => nomatch h'
  | x :: xs, y :: ys, h' => by
    rw [List.map_cons, List.map_cons, List.cons.injEq] at h'
    rw [h _ _ h'.1, map_inj h h'.2]
theorem dPs_inj {ps qs : List Pt} (h : dPs ps = dPs qs) : ps = qs := map_inj (fun _ _ => dP_inj) (PyData.tuple.inj h)
theorem int_inj : ∀ x y : Int, PyData.int x = PyData.int y → x = y := fun _ _ h => PyData.int.inj h
theorem tupD_inj {a b : List Int} (h : tupD a = tupD b) : a = b := map_inj int_inj (PyData.tuple.inj h)
theorem ok_pur {n : Nat} : ∀ {d : PyData}, okD n d = true → okD n d = true := id
theorem okD_str (n : Nat) (s : Sd) : okD (n + 1) (.str s.s) = true := by cases s <;> kernel_rfl
theorem okD_int (n : Nat) (i : Int) : okD (n + 1) (.int i) = true := rfl
theorem okD_dP (n : Nat) (p : Pt) : okD (n + 2) (dP p) = true := by
  show (decide (2 ≤ 100000) && [PyData.str p.1.s, PyData.int p.2].all (okD (n + 1))) = true
  rw [List.all_cons, List.all_cons, okD_str, okD_int]
  rfl
theorem okD_map {α : Type} {dd : α → PyData} {n : Nat} (h : ∀ x, okD n (dd x) = true) (xs : List α) (hl : xs.length ≤ 100000) : okD (n + 1) (.tuple (xs.map dd)) = true ∧ okD (n + 1) (.list (xs.map dd)) = true := by
  have q : (decide ((xs.map dd).length ≤ 100000) && (xs.map dd).all (okD n)) = true := by
    rw [List.length_map, decide_eq_true hl, Bool.true_and, List.all_eq_true]
    intro x hx
    obtain ⟨y, _, rfl⟩ := List.mem_map.mp hx
    exact h y
  exact ⟨q, q⟩
theorem okD_dPs (n : Nat) (ps : List Pt) (hl : ps.length ≤ 100000) : okD (n + 3) (dPs ps) = true := (okD_map (okD_dP n) ps hl).1
/-- [c for ..] == [], ints -/
theorem eq_nil_filt {α : Type} (k : α → Int) (c : α → Bool) (xs : List α) : opEq (.list ((xs.filter c).map fun x => .int (k x))) (.list []) = some (rb (xs.all fun x => !c x)) := by
  refine op_eq_b (n := 2) (m := 2) ?_ rfl (by decide) (by decide) ?_
  · have := pur_ints 1 ((xs.filter c).map k)
    rw [List.map_map] at this
    exact this
  · rw [List.all_eq_true]
    constructor
    · intro h
      have e : xs.filter c = [] := List.filter_eq_nil_iff.mpr fun x hx q => by
        have := h x hx
        rw [q] at this
        cases this
      rw [e]
      rfl
    · intro h x hx
      have e := List.map_eq_nil_iff.mp (PyData.list.inj h)
      have := List.filter_eq_nil_iff.mp e x hx
      cases hc : c x with
      | true => exact absurd hc this
      | false => rfl
end RP

/-! MB: books as data, the plain law. -/
namespace K15
open PySem PySem.Spec PyProof.Rows L2 DL RP
/-- a book of these parts -/
abbrev bk (C : Nat) (ds : List PyData) : PyData := obD C [("rows", .tuple ds)]
theorem isOb_bk (C : Nat) (ds : List PyData) : isOb C (bk C ds) = some [(.str "rows", .tuple ds)] := isOb_obD C _
theorem fld_rows (C : Nat) (ds : List PyData) : opFld C "rows" (bk C ds) = some (.dat (.tuple ds)) := by
  unfold opFld
  rw [isOb_bk, Option.bind_some]
  kernel_rfl
/-- what making a book gives -/
def mkR (C : Nat) (ds : List PyData) : Str ⊕ Rs := if ds.all isPt = true then (if ds.length ≤ 30 then .inr (.dat (bk C ds)) else .inl "TooMany") else .inl "InvalidPart"
theorem init_any (C : Nat) {b n : Nat} {ds : List PyData} (hb : ds.length ≤ 1000) (h : ∀ d ∈ ds, nice b n d = true) : Book_init_F C ds = some (mkR C ds) := by
  let E : DL.Env := [.dead, .dat (.tuple ds), .dead]
  have c1 : fComp [2] (fiSeq (fName 1)) (fgName 2) ftYes (fCallN 1 is_part_F (faCons (fName 2) faNil)) E = some (.new (ds.map fun d => .bool (isPt d)), E) := by
    refine ev_map (dd := id) (e := E) ?_ (small_line hb) (fun x hx => ?_) rfl
    · rw [List.map_id]
      rfl
    · have q : fCallN 1 is_part_F (faCons (fName 2) faNil) [.dead, .dat (.tuple ds), .dat x] = some (.dat (.bool (isPt x)), [.dead, .dat (.tuple ds), .dat x]) := ev_call (ea_dat (d := x) rfl ea_nil) rfl (is_part_any (h x hx))
      exact step_map (e1 := [.dead, .dat (.tuple ds), .dat x]) rfl q rfl rfl
  have t1 : ftNot (fB (fUn bAll (fComp [2] (fiSeq (fName 1)) (fgName 2) ftYes (fCallN 1 is_part_F (faCons (fName 2) faNil))))) E = some (!ds.all isPt, E) := ev_not (ev_B (ev_un c1 rfl (all_map _ _)))
  have k : decide ((30 : Int) < (ds.length : Int)) = decide (30 < ds.length) := decide_eq_decide.mpr (by omega)
  have t2 : fB (fBin opGt (fUn bLen (fName 1)) (fC (.int 30))) E = some (decide (30 < ds.length), E) := by
    rw [← k]
    exact ev_B (ev_bind (e1 := E) (e2 := E) (x := .int (ds.length : Int)) (y := .int 30) rfl rfl rfl)
  unfold Book_init_F mk2 mkR
  show (ftNot _ E).bind _ = _
  rw [t1, Option.bind_some]
  cases hp : ds.all isPt with
  | false => rfl
  | true =>
    rw [if_neg (by simp)]
    show (fB _ E).bind _ = _
    rw [t2, Option.bind_some]
    by_cases hl : ds.length ≤ 30
    · rw [decide_eq_false (by omega), if_pos rfl, if_pos hl]
      rfl
    · rw [decide_eq_true (by omega), if_pos rfl, if_neg hl]
      rfl
theorem mkR_dat {C : Nat} {ds : List PyData} {r : Rs} (h : mkR C ds = .inr r) : r = .dat (bk C ds) := by
  unfold mkR at h
  split at h
  · split at h
    · exact (Sum.inr.inj h).symm
    · cases h
  · cases h
theorem mk_at {C : Nat} {b n : Nat} {ds : List PyData} {a : FA} {env e : DL.Env} (ha : a env = some (ds, e)) (hb : ds.length ≤ 1000) (h : ∀ d ∈ ds, nice b n d = true) : fMkX (Book_init_F C) a env = some (putR e (mkR C ds)) := by
  unfold fMkX
  rw [ha, Option.bind_some]
  simp only
  rw [if_pos (small_line hb), init_any C hb h]
  cases hz : mkR C ds with
  | inl x => rfl
  | inr r => rw [mkR_dat hz]; rfl
theorem runX_at {np n : Nat} {b : FSX} {ds : List PyData} {o : Str ⊕ Out} {z : Str ⊕ Rs} (hn : ds.length = np) (h : b (ds.map .dat ++ List.replicate (n - np) .dead) = some o) (hz : endX o = some z) : runX np n b ds = some z := by
  unfold runX
  rw [if_pos hn, h, Option.bind_some]
  cases o with
  | inl x => exact hz
  | inr o => exact hz
theorem ret_at {f : FEX} {env e : DL.Env} {z : Str ⊕ Rs} (h : f env = some (putR e z)) : fxRet f env = some (z.map id fun r => .rt r e) := by
  unfold fxRet
  rw [h]
  cases z <;> rfl
theorem end_mk {C : Nat} {ds : List PyData} {e : DL.Env} : endX ((mkR C ds).map id fun r => .rt r e) = some (mkR C ds) := by
  cases hz : mkR C ds with
  | inl x => rfl
  | inr r => rw [mkR_dat hz]; rfl
theorem add_any (C : Nat) {b n : Nat} {xs ys : List PyData} (hb : xs.length + ys.length ≤ 1000) (h : ∀ d ∈ xs ++ ys, nice b n d = true) : Book_add_F C [bk C xs, bk C ys] = some (mkR C (xs ++ ys)) := by
  let E : DL.Env := [.dat (bk C xs), .dat (bk C ys)]
  have f0 : fUn (opFld C "rows") (fName 0) E = some (.dat (.tuple xs), E) := ev_un (fa := fName 0) (r1 := .dat (bk C xs)) (e1 := E) rfl rfl (fld_rows C xs)
  have f1 : fUn (opFld C "rows") (fName 1) E = some (.dat (.tuple ys), E) := ev_un (fa := fName 1) (r1 := .dat (bk C ys)) (e1 := E) rfl rfl (fld_rows C ys)
  have fa : faStar (fUn (opFld C "rows") (fName 0)) (faStar (fUn (opFld C "rows") (fName 1)) faNil) E = some (xs ++ ys, E) := by
    have q := ea_star (a := faStar (fUn (opFld C "rows") (fName 1)) faNil) f0 rfl rfl (ea_star (a := faNil) f1 rfl rfl ea_nil)
    rw [List.append_nil] at q
    exact q
  exact runX_at (np := 2) (n := 2) rfl (ret_at (mk_at (e := E) fa (by rw [List.length_append]; exact hb) h)) end_mk
theorem len_any (C : Nat) (xs : List PyData) : Book_len_F C [bk C xs] = some (.inr (ri (xs.length : Int))) := by
  let E : DL.Env := [.dat (bk C xs)]
  have f0 : fUn bLen (fUn (opFld C "rows") (fName 0)) E = some (.dat (.int (xs.length : Int)), E) := ev_un (ev_un (fa := fName 0) (r1 := .dat (bk C xs)) (e1 := E) rfl rfl (fld_rows C xs)) rfl rfl
  refine runX_at (np := 1) (n := 1) (o := .inr (.rt (.dat (.int (xs.length : Int))) E)) rfl ?_ rfl
  show (fsRet _ E).map Sum.inr = _
  rw [es_ret f0]
  rfl
theorem parts_any (C : Nat) (xs : List PyData) : opSelf C (Book_parts_F C) (bk C xs) = some (.dat (.tuple xs)) := by
  unfold opSelf
  rw [isOb_bk, Option.bind_some]
  have f0 : fUn (opFld C "rows") (fName 0) [.dat (bk C xs)] = some (.dat (.tuple xs), [.dat (bk C xs)]) := ev_un (fa := fName 0) (r1 := .dat (bk C xs)) (e1 := [.dat (bk C xs)]) rfl rfl (fld_rows C xs)
  exact run_ret (np := 1) (n := 1) rfl (es_ret f0) rfl
/-- parts that a book may have -/
def okP (b n : Nat) (ds : List PyData) : Prop := (∀ d ∈ ds, nice b n d = true) ∧ ds.all isPt = true ∧ ds.length ≤ 30
theorem mkR_ok {C b n : Nat} {ds : List PyData} (h : okP b n ds) : mkR C ds = .inr (.dat (bk C ds)) := by
  unfold mkR
  rw [if_pos h.2.1, if_pos h.2.2]
theorem okP_nil (b n : Nat) : okP b n [] := ⟨nofun, rfl, Nat.zero_le _⟩
theorem okP_app {b n : Nat} {xs ys : List PyData} : okP b n (xs ++ ys) → okP b n xs := fun ⟨h1, h2, h3⟩ => by
  rw [List.all_append, Bool.and_eq_true] at h2
  rw [List.length_append] at h3
  exact ⟨fun d hd => h1 d (List.mem_append.mpr (.inl hd)), h2.1, by omega⟩
theorem dn_at {f : FEX} {env e : DL.Env} {r : Rs} (h : f env = some (.inr (r, e))) : dnX f env = some (r, e) := by
  unfold dnX
  rw [h]
theorem mk_dn {C b n : Nat} {ds : List PyData} {a : FA} {env e : DL.Env} (ha : a env = some (ds, e)) (h : okP b n ds) : dnX (fMkX (Book_init_F C) a) env = some (.dat (bk C ds), e) := by
  refine dn_at ?_
  rw [mk_at ha (by have := h.2.2; omega) h.1, mkR_ok h]
  rfl
theorem add_at {C b n : Nat} {xs ys : List PyData} {fa fb : FE} {env e1 e : DL.Env} (ha : fa env = some (.dat (bk C xs), e1)) (hb : fb e1 = some (.dat (bk C ys), e)) (hl : xs.length + ys.length ≤ 1000) (h : ∀ d ∈ xs ++ ys, nice b n d = true) :
    fBinX (opAddBX C (Book_add_F C)) fa fb env = some (putR e (mkR C (xs ++ ys))) := by
  unfold fBinX
  rw [ha, Option.bind_some, hb, Option.bind_some]
  show ((opAddBX C (Book_add_F C) (bk C xs) (bk C ys)).map (putR e)) = _
  have q : opAddBX C (Book_add_F C) (bk C xs) (bk C ys) = some (mkR C (xs ++ ys)) := by
    unfold opAddBX opBX
    rw [isOb_bk, Option.bind_some, isOb_bk, Option.bind_some, if_neg (by show ¬ (false = true); simp)]
    exact add_any C hl h
  rw [q]
  rfl
theorem made_any (C : Nat) {b n : Nat} {ds : List PyData} (h : okP b n ds) : _law_made_F C [.tuple ds] = some (.dat (bk C ds)) := by
  let E (xs : List PyData) : DL.Env := [.dat (.tuple ds), .dat (bk C xs), .dead]
  have s0 : fsName (dnX (fMkX (Book_init_F C) faNil)) 1 [.dat (.tuple ds), .dead, .dead] = some (.nx (E [])) := (es_name (i := 1) (mk_dn (b := b) (n := n) ea_nil (okP_nil b n)) (by show 1 < 3; decide)).trans rfl
  have loop : ∀ (xs ys : List PyData), xs ++ ys = ds → forD (b1__law_mades C) ys (E xs) = some (.nx (E ds)) := by
    intro xs ys
    induction ys generalizing xs with
    | nil =>
      intro e
      rw [List.append_nil] at e
      rw [e]
      rfl
    | cons y r ih =>
      intro e
      have hx : okP b n (xs ++ [y]) := okP_app (ys := r) (by rw [List.append_assoc]; rw [show [y] ++ r = y :: r from rfl, e]; exact h)
      have hy : okP b n [y] := ⟨fun d hd => hx.1 d (List.mem_append.mpr (.inr hd)), by have := hx.2.1; rw [List.all_append, Bool.and_eq_true] at this; exact this.2, by show 1 ≤ 30; decide⟩
      let E1 : DL.Env := [.dat (.tuple ds), .dat (bk C xs), .dat y]
      let E2 : DL.Env := [.dat (.tuple ds), .dat (bk C (xs ++ [y])), .dat y]
      refine (for_cons (e := E (xs ++ [y])) ?_).trans (ih (xs ++ [y]) (by rw [List.append_assoc]; exact e))
      refine step_nx (e1 := E1) (e2 := E2) rfl ?_
      have q1 : dnX (fMkX (Book_init_F C) (faCons (fName 2) faNil)) E1 = some (.dat (bk C [y]), E1) := mk_dn (ea_dat (fa := fName 2) (d := y) rfl ea_nil) hy
      have q2 : dnX (fBinX (opAddBX C (Book_add_F C)) (fName 1) (dnX (fMkX (Book_init_F C) (faCons (fName 2) faNil)))) E1 = some (.dat (bk C (xs ++ [y])), E1) := by
        refine dn_at ?_
        rw [add_at (fa := fName 1) (e1 := E1) rfl q1 (by have := hx.2.2; rw [List.length_append] at this; omega) hx.1, mkR_ok hx]
        rfl
      exact (es_name (i := 1) q2 (by show 1 < 3; decide)).trans rfl
  refine run_ret (np := 1) (n := 3) (r1 := .dat (bk C ds)) (e := E ds) rfl ?_ rfl
  refine (es_seq s0).trans ?_
  refine (es_seq ((es_for (e := E []) (xs := ds) rfl).trans (loop [] ds rfl))).trans ?_
  exact es_ret rfl
/-! ### the tries -/
/-- what a try makes of it: the parts, or the kind of error -/
def ptsR (ds : List PyData) : PyData := if ds.all isPt = true then (if ds.length ≤ 30 then .tuple ds else .str "many") else .str "part"
theorem tryP_at {C np n : Nat} {b : FSX} {f : FEX} {ds as : List PyData} {e : DL.Env} (hn : as.length = np) (h : b (as.map .dat ++ List.replicate (n - np) .dead) = fxRet (fPropX C (Book_parts_F C) f) (as.map .dat ++ List.replicate (n - np) .dead)) (hf : f (as.map .dat ++ List.replicate (n - np) .dead) = some (putR e (mkR C ds))) :
    tryX (runX np n b) as = some (.dat (ptsR ds)) := by
  unfold tryX runX
  rw [if_pos hn, h]
  unfold fxRet fPropX
  rw [hf, Option.bind_some]
  unfold mkR ptsR
  cases ds.all isPt with
  | false => rfl
  | true =>
    rw [if_pos rfl, if_pos rfl]
    by_cases hl : ds.length ≤ 30
    · rw [if_pos hl, if_pos hl]
      show (((view e (.dat (bk C ds))).bind fun d => (opSelf C (Book_parts_F C) d).map fun r => Sum.inr (r, e)).map _ |>.bind _ |>.bind _) = _
      show ((((opSelf C (Book_parts_F C) (bk C ds)).map fun r => Sum.inr (r, e)).map _).bind _).bind _ = _
      rw [parts_any]
      rfl
    · rw [if_neg hl, if_neg hl]
      rfl
theorem if_ret {t : FT} {f : FEX} {b : FSX} {env e : DL.Env} (h : t env = some (true, e)) : fxThen (fxIf t (fxRet f)) b env = fxRet f e := by
  have q : fxIf t (fxRet f) env = fxRet f e := by
    unfold fxIf
    rw [h, Option.bind_some]
    exact if_pos rfl
  unfold fxThen
  rw [q]
  unfold fxRet
  cases f e with
  | none => rfl
  | some o => cases o <;> rfl
theorem if_go {t : FT} {a b : FSX} {env e : DL.Env} (h : t env = some (false, e)) : fxThen (fxIf t a) b env = b e := by
  have q : fxIf t a env = some (.inr (.nx e)) := by
    unfold fxIf
    rw [h, Option.bind_some]
    exact if_neg (by simp)
  unfold fxThen
  rw [q]
  rfl
theorem new_any (C : Nat) {b n : Nat} {ds : List PyData} (hl : ds.length ≤ 2) (h : ∀ d ∈ ds, nice b n d = true) : _law_new_F C [.list ds] = some (.dat (ptsR ds)) := by
  unfold _law_new_F
  match ds, hl, h with
  | [], _, h =>
    let E : DL.Env := [.dat (.list []), .dead]
    exact tryP_at (np := 1) (n := 2) (f := fMkX (Book_init_F C) faNil) (e := E) rfl (if_ret (e := E) (by kernel_rfl)) (mk_at (b := b) (n := n) ea_nil (Nat.zero_le _) h)
  | [x], _, h =>
    let E : DL.Env := [.dat (.list [x]), .dead]
    have a0 : fBin opIx (fName 0) (fC (.int 0)) E = some (.dat x, E) := rfl
    exact tryP_at (np := 1) (n := 2) (f := fMkX (Book_init_F C) (faCons (fBin opIx (fName 0) (fC (.int 0))) faNil)) (e := E) rfl ((if_go (e := E) (by kernel_rfl)).trans (if_ret (e := E) (by kernel_rfl))) (mk_at (b := b) (n := n) (ea_dat a0 ea_nil) (by show 1 ≤ 1000; decide) h)
  | [x, y], _, h =>
    let E : DL.Env := [.dat (.list [x, y]), .dead]
    have a0 : fBin opIx (fName 0) (fC (.int 0)) E = some (.dat x, E) := rfl
    have a1 : fBin opIx (fName 0) (fC (.int 1)) E = some (.dat y, E) := rfl
    exact tryP_at (np := 1) (n := 2) (f := fMkX (Book_init_F C) (faCons (fBin opIx (fName 0) (fC (.int 0))) (faCons (fBin opIx (fName 0) (fC (.int 1))) faNil))) (e := E) rfl ((if_go (e := E) (by kernel_rfl)).trans ((if_go (e := E) (by kernel_rfl)).trans rfl)) (mk_at (b := b) (n := n) (ea_dat a0 (ea_dat a1 ea_nil)) (by show 2 ≤ 1000; decide) h)
  | _ :: _ :: _ :: _, hl, _ => exact absurd hl (by simp)
/-- Book.chapters -/
def rt (d : PyData) : PyData := .tuple [.str "right", d]
theorem chapters_any (C : Nat) {b n : Nat} {ds : List PyData} (hl : ds.length ≤ 1000) (hn : ∀ d ∈ ds.map rt, nice b n d = true) : Book_chapters_F C ds = some (mkR C (ds.map rt)) := by
  let E0 : DL.Env := [.dat (refD C), .dat (.tuple ds), .dead, .dead]
  let E1 : DL.Env := [.dat (refD C), .dat (.tuple ds), .own false (ds.map rt), .dead]
  have c1 : fComp [3] (fiSeq (fName 1)) (fgName 3) ftYes (fTup (faCons (fC (.str "right")) (faCons (fName 3) faNil))) E0 = some (.new (ds.map rt), E0) := by
    refine ev_map (dd := id) (e := E0) ?_ (small_line hl) (fun x hx => ?_) rfl
    · rw [List.map_id]
      rfl
    · exact step_map (e1 := [.dat (refD C), .dat (.tuple ds), .dead, .dat x]) (e2 := [.dat (refD C), .dat (.tuple ds), .dead, .dat x]) (e3 := [.dat (refD C), .dat (.tuple ds), .dead, .dat x]) (r := .dat (rt x)) rfl (ev_tup (ea_dat (fa := fC (.str "right")) rfl (ea_dat (fa := fName 3) (d := x) rfl ea_nil)) (by show 2 ≤ sizeLine; decide)) rfl rfl
  have s1 : fsName (fComp [3] (fiSeq (fName 1)) (fgName 3) ftYes (fTup (faCons (fC (.str "right")) (faCons (fName 3) faNil)))) 2 E0 = some (.nx E1) := (es_new (i := 2) c1 (by show 2 < 4; decide)).trans rfl
  let E2 : DL.Env := [.dat (refD C), .dat (.tuple ds), .dat (.list (ds.map rt)), .dead]
  have st : faStar (fName 2) faNil E1 = some (ds.map rt, E2) := by
    have q := ea_star (a := faNil) (fa := fName 2) (env := E1) (e := E1) (r := .own 2) (d := .list (ds.map rt)) (e2 := E2) rfl rfl rfl ea_nil
    rw [List.append_nil] at q
    exact q
  have c2 : fClsX C 0 (Book_init_F C) (fName 2) E1 = some (putR E2 (mkR C (ds.map rt))) := by
    unfold fClsX
    show (if isRef C (refD C) = true then fMkX (Book_init_F C) (faStar (fName 2) faNil) E1 else none) = _
    rw [if_pos (isRef_self C)]
    exact mk_at st (by rw [List.length_map]; exact hl) hn
  unfold Book_chapters_F runC g_Book_chapters
  show (fxSeq _ _ E0).bind endX = _
  have s2 : fxSeq (fsName (fComp [3] (fiSeq (fName 1)) (fgName 3) ftYes (fTup (faCons (fC (.str "right")) (faCons (fName 3) faNil)))) 2) (fxRet (fClsX C 0 (Book_init_F C) (fName 2))) E0 = fxRet (fClsX C 0 (Book_init_F C) (fName 2)) E1 := by
    unfold fxSeq
    rw [s1]
    rfl
  rw [s2, ret_at c2, Option.bind_some]
  exact end_mk
theorem chap_any (C : Nat) {b n : Nat} {x y : PyData} (hn : ∀ d ∈ [rt x, rt y], nice b n d = true) : _law_chapters_F C [x, y] = some (.dat (ptsR [rt x, rt y])) := by
  let E : DL.Env := [.dat x, .dat y, .dead]
  refine tryP_at (np := 2) (n := 3) (f := fCmX (Book_chapters_F C) (faCons (fName 0) (faCons (fName 1) faNil))) (e := E) rfl rfl ?_
  unfold fCmX
  show ((faCons (fName 0) (faCons (fName 1) faNil) E).bind _) = _
  rw [show faCons (fName 0) (faCons (fName 1) faNil) E = some ([x, y], E) from rfl, Option.bind_some]
  show (if 2 ≤ sizeLine then _ else _) = _
  rw [if_pos (by decide)]
  have q := chapters_any C (b := b) (n := n) (ds := [x, y]) (by show 2 ≤ 1000; decide) hn
  show (Book_chapters_F C [x, y]).map (putR E) = _
  rw [q]
  rfl
/-- len(one + other), both books -/
theorem joined_any (C : Nat) {b n : Nat} {xs ys : List PyData} (hx : okP b n xs) (hy : okP b n ys) : _law_joined_F C [bk C xs, bk C ys] = some (.dat (if xs.length + ys.length ≤ 30 then .int ((xs.length + ys.length : Nat) : Int) else .str "many")) := by
  let E : DL.Env := [.dat (bk C xs), .dat (bk C ys), .dead]
  have hn : ∀ d ∈ xs ++ ys, nice b n d = true := fun d hd => (List.mem_append.mp hd).elim (hx.1 d) (hy.1 d)
  have ha := add_at (C := C) (b := b) (n := n) (fa := fName 0) (fb := fName 1) (env := E) (e1 := E) (e := E) (xs := xs) (ys := ys) rfl rfl (by have := hx.2.2; have := hy.2.2; omega) hn
  have hp : (xs ++ ys).all isPt = true := by rw [List.all_append, hx.2.1, hy.2.1]; rfl
  unfold _law_joined_F tryX
  have q : runX 2 3 (g__law_joined C) [bk C xs, bk C ys] = some (if xs.length + ys.length ≤ 30 then .inr (.dat (.int ((xs.length + ys.length : Nat) : Int))) else .inl "TooMany") := by
    by_cases hl : xs.length + ys.length ≤ 30
    · rw [if_pos hl]
      have om : mkR C (xs ++ ys) = .inr (.dat (bk C (xs ++ ys))) := mkR_ok ⟨hn, hp, by rw [List.length_append]; exact hl⟩
      rw [om] at ha
      refine runX_at (np := 2) (n := 3) (o := .inr (.rt (.dat (.int ((xs.length + ys.length : Nat) : Int))) E)) rfl ?_ rfl
      show fxRet _ E = _
      unfold fxRet fUnX
      rw [ha]
      show ((((opLenB C (Book_len_F C) (bk C (xs ++ ys))).map _).map _)) = _
      have ol : opLenB C (Book_len_F C) (bk C (xs ++ ys)) = some (.dat (.int ((xs.length + ys.length : Nat) : Int))) := by
        unfold opLenB unX
        rw [isOb_bk, Option.bind_some, len_any, List.length_append]
        exact if_pos ⟨by omega, by omega⟩
      rw [ol]
      rfl
    · rw [if_neg hl]
      have om : mkR C (xs ++ ys) = .inl "TooMany" := by
        unfold mkR
        rw [if_pos hp, if_neg (by rw [List.length_append]; exact hl)]
      rw [om] at ha
      refine runX_at (np := 2) (n := 3) (o := .inl "TooMany") rfl ?_ rfl
      show fxRet _ E = _
      unfold fxRet fUnX
      rw [ha]
      rfl
  rw [q]
  by_cases hl : xs.length + ys.length ≤ 30
  · rw [if_pos hl, if_pos hl]; rfl
  · rw [if_neg hl, if_neg hl]; rfl
end K15

/-! M_k15: books that are made, the plain law. -/
namespace K15
open PySem PySem.Spec PyProof.Rows L2 DL RP
abbrev eX (ns : List Int) (t : Int × Int) (x2 x3 x4 x5 x6 x7 x8 x9 x10 x11 x12 : Sl) : DL.Env := [.dead, .own false (tp ns t), x2, x3, x4, x5, x6, x7, x8, x9, x10, x11, x12]
section
variable (C : Nat) (ns : List Int) (t : Int × Int) (x2 x3 x4 x5 x6 x7 x8 x9 x10 x11 x12 : Sl)
abbrev dw (m : Int) : FE := fCallTN 2 _law_draw_F 1 (faCons (fC (.int m)) faNil)
theorem dr (m : Int) (hm : 0 < m) (hm2 : m < 2 ^ 64) (ht : 0 ≤ t.1) : ∃ (r : Int) (t' : Int × Int), dw m (eX ns t x2 x3 x4 x5 x6 x7 x8 x9 x10 x11 x12) = some (.dat (.int r), eX ns t' x2 x3 x4 x5 x6 x7 x8 x9 x10 x11 x12) ∧ 0 ≤ r ∧ r < m ∧ 0 ≤ t'.1 := by
  obtain ⟨r, t', e, h1, h2, h3⟩ := draw_at (env := eX ns t x2 x3 x4 x5 x6 x7 x8 x9 x10 x11 x12) (env1 := eX ns t x2 x3 x4 x5 x6 x7 x8 x9 x10 x11 x12) (i := 1) (c := false) (c' := false) (ns := ns) (t := t) (fa := fC (.int m)) (m := m) rfl rfl rfl ht hm hm2
  exact ⟨r, t', e, h1, h2, h3⟩
theorem ix_any (ds : List PyData) (r : Int) (h0 : 0 ≤ r) (h1 : r < (ds.length : Int)) : ∃ x ∈ ds, opIx (.list ds) (.int r) = some (.dat x) := by
  have hr : r.toNat < ds.length := by omega
  refine ⟨ds[r.toNat], List.getElem_mem hr, ?_⟩
  have e2 := ix_nat (List.getElem?_eq_getElem hr)
  rw [show ((r.toNat : Nat) : Int) = r by omega] at e2
  show (L2.atI ds r).map Rs.dat = _
  rw [e2]
  rfl
/-- a part as it is drawn -/
theorem good_at (ht : 0 ≤ t.1) : ∃ (s : Sd) (k : Int) (t' : Int × Int), 0 ≤ t'.1 ∧ 1 ≤ k ∧ k ≤ 999 ∧
    fTup (faCons (fBin opIx (fLst (faCons (fC (.str "right")) (faCons (fC (.str "left")) (faCons (fC (.str "any")) faNil)))) (dw 3)) (faCons (fBin opAdd (fC (.int 1)) (dw 999)) faNil)) (eX ns t x2 x3 x4 x5 x6 x7 x8 x9 x10 x11 x12) = some (.dat (dP (s, k)), eX ns t' x2 x3 x4 x5 x6 x7 x8 x9 x10 x11 x12) := by
  let E := eX ns t x2 x3 x4 x5 x6 x7 x8 x9 x10 x11 x12
  obtain ⟨r1, t1, e1, a1, a2, a3⟩ := dr ns t x2 x3 x4 x5 x6 x7 x8 x9 x10 x11 x12 3 (by decide) (by decide) ht
  obtain ⟨r2, t2, e2, b1, b2, b3⟩ := dr ns t1 x2 x3 x4 x5 x6 x7 x8 x9 x10 x11 x12 999 (by decide) (by decide) a3
  have l1 : fLst (faCons (fC (.str "right")) (faCons (fC (.str "left")) (faCons (fC (.str "any")) faNil))) E = some (.new [.str "right", .str "left", .str "any"], E) := by kernel_rfl
  have q2 : fBin opAdd (fC (.int 1)) (dw 999) (eX ns t1 x2 x3 x4 x5 x6 x7 x8 x9 x10 x11 x12) = some (.dat (.int (1 + r2)), eX ns t2 x2 x3 x4 x5 x6 x7 x8 x9 x10 x11 x12) := ev_bind (fa := fC (.int 1)) (x := .int 1) (e1 := eX ns t1 x2 x3 x4 x5 x6 x7 x8 x9 x10 x11 x12) rfl e2 rfl
  have fin : ∀ s : Sd, opIx (.list [.str "right", .str "left", .str "any"]) (.int r1) = some (.dat (.str s.s)) → _ := fun s hs =>
    (⟨s, 1 + r2, t2, b3, by omega, by omega, ev_tup (ea_dat (ev_bin l1 e1 rfl rfl hs) (ea_dat q2 ea_nil)) (by show 2 ≤ sizeLine; decide)⟩ : ∃ (s : Sd) (k : Int) (t' : Int × Int), 0 ≤ t'.1 ∧ 1 ≤ k ∧ k ≤ 999 ∧
    fTup (faCons (fBin opIx (fLst (faCons (fC (.str "right")) (faCons (fC (.str "left")) (faCons (fC (.str "any")) faNil)))) (dw 3)) (faCons (fBin opAdd (fC (.int 1)) (dw 999)) faNil)) (eX ns t x2 x3 x4 x5 x6 x7 x8 x9 x10 x11 x12) = some (.dat (dP (s, k)), eX ns t' x2 x3 x4 x5 x6 x7 x8 x9 x10 x11 x12))
  have hr : r1 = 0 ∨ r1 = 1 ∨ r1 = 2 := by omega
  rcases hr with rfl | rfl | rfl
  · exact fin .right (by kernel_rfl)
  · exact fin .left (by kernel_rfl)
  · exact fin .any (by kernel_rfl)
end
theorem good_pt {s : Sd} {k : Int} (h0 : 1 ≤ k) (h1 : k ≤ 999) : isPt (dP (s, k)) = true := by
  have hk : inR 1 999 (.int k) = true := by
    show (decide (1 ≤ k) && decide (k ≤ 999)) = true
    rw [decide_eq_true h0, decide_eq_true h1]
    rfl
  show (sideB s.s && inR 1 999 (.int k)) = true
  rw [hk]
  cases s <;> kernel_rfl
theorem good_nice (s : Sd) (k : Int) : nice 1000 3 (dP (s, k)) = true := by cases s <;> kernel_rfl
theorem good_ok (s : Sd) (k : Int) : okD 5 (dP (s, k)) = true := by cases s <;> kernel_rfl
/-- what may stand behind a good part -/
def oddL (g : PyData) : List PyData := [.tuple [.str "right", .int 0], .tuple [.str "right", .int 1000], .tuple [.str "up", .int 1], .tuple [.str "any", .bool true], .none, .str "any", .list [.str "any", .int 1], .tuple [.str "any"], g]
theorem odd_nice {s : Sd} {k : Int} : ∀ x ∈ oddL (dP (s, k)), nice 1000 3 x = true ∧ okD 5 x = true := by
  intro x hx
  have hx : x ∈ [PyData.tuple [.str "right", .int 0], .tuple [.str "right", .int 1000], .tuple [.str "up", .int 1], .tuple [.str "any", .bool true], .none, .str "any", .list [.str "any", .int 1], .tuple [.str "any"], dP (s, k)] := hx
  simp only [List.mem_cons, List.not_mem_nil, or_false] at hx
  rcases hx with rfl | rfl | rfl | rfl | rfl | rfl | rfl | rfl | rfl
  all_goals first | exact ⟨good_nice s k, good_ok s k⟩ | exact ⟨by kernel_rfl, by kernel_rfl⟩
theorem pts_ok {ds : List PyData} (hl : ds.length ≤ 100000) (h : ∀ d ∈ ds, okD 5 d = true) : okD 6 (ptsR ds) = true := by
  unfold ptsR
  split
  · split
    · show (decide (ds.length ≤ 100000) && ds.all (okD 5)) = true
      rw [decide_eq_true hl, List.all_eq_true.mpr h]
      rfl
    · kernel_rfl
  · kernel_rfl
theorem pts_is {ds : List PyData} (hl : ds.length ≤ 30) : ptsR ds = if isPs (.tuple ds) = true then .tuple ds else .str "part" := by
  have e : isPs (.tuple ds) = ds.all isPt := by
    show (decide (ds.length ≤ 30) && ds.all isPt) = _
    rw [decide_eq_true hl, Bool.true_and]
  unfold ptsR
  rw [e, if_pos hl]
theorem rep_one (x : PyData) (m : Nat) : (List.replicate m [x]).flatten = List.replicate m x := by
  induction m with
  | zero => rfl
  | succ m ih => rw [List.replicate_succ, List.flatten_cons, ih]; rfl
theorem mul_one {x : PyData} {m : Int} (h0 : 0 ≤ m) (h1 : m ≤ 1000) : opMulN (.tuple [x]) (.int m) = some (.dat (.tuple (List.replicate m.toNat x))) := by
  have e : opMulN (.tuple [x]) (.int m) = some (.dat (.tuple (List.replicate m.toNat [x]).flatten)) := if_pos ⟨by simp, h0, h1, by show 1 ≤ 1000; decide⟩
  rw [e, rep_one]
theorem ok_rep {x : PyData} {m : Nat} (hn : nice 1000 3 x = true) (hp : isPt x = true) (hm : m ≤ 30) : okP 1000 3 (List.replicate m x) :=
  ⟨fun d hd => by rw [List.eq_of_mem_replicate hd]; exact hn, List.all_eq_true.mpr fun d hd => by rw [List.eq_of_mem_replicate hd]; exact hp, by rw [List.length_replicate]; exact hm⟩
/-- the second number of chapters -/
def othL : List PyData := [.int 5, .int 0, .int 1000, .bool true, .none, .str "5"]
theorem oth_is {x : PyData} (h : x ∈ othL) : nice 1000 3 x = true ∧ okD 5 x = true ∧ ((x = .int 5 ∧ opEq x (.int 5) = some (rb true)) ∨ (isPt (rt x) = false ∧ opEq x (.int 5) = some (rb false))) := by
  have h : x ∈ [PyData.int 5, .int 0, .int 1000, .bool true, .none, .str "5"] := h
  simp only [List.mem_cons, List.not_mem_nil, or_false] at h
  rcases h with rfl | rfl | rfl | rfl | rfl | rfl
  · exact ⟨by kernel_rfl, by kernel_rfl, .inl ⟨rfl, by kernel_rfl⟩⟩
  all_goals exact ⟨by kernel_rfl, by kernel_rfl, .inr ⟨by kernel_rfl, by kernel_rfl⟩⟩
theorem nice_rt {x : PyData} (h : nice 1000 2 x = true) : nice 1000 3 (rt x) = true := by
  show (decide (2 ≤ 1000) && (nice 1000 2 (.str "right") && (nice 1000 2 x && true))) = true
  rw [h]
  kernel_rfl
theorem made_at (C : Nat) {fa fb : FE} {x : PyData} {m : Int} {env e1 e : DL.Env} (ha : fa env = some (.dat (.tuple [x]), e1)) (hb : fb e1 = some (.dat (.int m), e)) (h0 : 0 ≤ m) (h1 : m ≤ 30) (hn : nice 1000 3 x = true) (hp : isPt x = true) :
    fCallN 1 (_law_made_F C) (faCons (fBin opMulN fa fb) faNil) env = some (.dat (bk C (List.replicate m.toNat x)), e) :=
  ev_call (ea_dat (ev_bind ha hb (mul_one h0 (by omega))) ea_nil) rfl (made_any C (ok_rep hn hp (by omega)))
theorem cut_len (xs : List PyData) (lo hi : Option Int) : (DL.cutD xs lo hi).length ≤ xs.length := by
  unfold DL.cutD
  rw [List.length_take, List.length_drop]
  omega
theorem turn (C : Nat) (ns : List Int) (t : Int × Int) (k : PyData) (ht : 0 ≤ t.1) : ∃ t', 0 ≤ t'.1 ∧ b1_laws C k (eX ns t .dead .dead .dead .dead .dead .dead .dead .dead .dead .dead .dead) = some (.nx (eX ns t' .dead .dead .dead .dead .dead .dead .dead .dead .dead .dead .dead)) := by
  let K : Sl := .dat k
  let D : Sl := .dead
  obtain ⟨s, c, t1, ht1, c0, c1, e1⟩ := good_at ns t K D D D D D D D D D D ht
  let g : PyData := dP (s, c)
  have gp : isPt g = true := good_pt c0 c1
  have gn : nice 1000 3 g = true := good_nice s c
  let G : Sl := .dat g
  let O : Sl := .own false (oddL g)
  let E1 := eX ns t1 K G D D D D D D D D D
  let E2 := eX ns t1 K G O D D D D D D D D
  -- odd
  have e2 : fLst (faCons (fTup (faCons (fC (.str "right")) (faCons (fC (.int 0)) faNil))) (faCons (fTup (faCons (fC (.str "right")) (faCons (fC (.int 1000)) faNil))) (faCons (fTup (faCons (fC (.str "up")) (faCons (fC (.int 1)) faNil))) (faCons (fTup (faCons (fC (.str "any")) (faCons (fC (.bool true)) faNil))) (faCons (fC .none) (faCons (fC (.str "any")) (faCons (fLst (faCons (fC (.str "any")) (faCons (fC (.int 1)) faNil))) (faCons (fTup (faCons (fC (.str "any")) faNil)) (faCons (fName 3) faNil))))))))) E1 = some (.new (oddL g), E1) := by kernel_rfl
  -- rows
  obtain ⟨r3, t2, d3, a3, b3, ht2⟩ := dr ns t1 K G O D D D D D D D D 9 (by decide) (by decide) ht1
  obtain ⟨x, hx, ix⟩ := ix_any (oddL g) r3 a3 b3
  obtain ⟨xn, xo⟩ := odd_nice x hx
  obtain ⟨r4, t3, d4, a4, b4, ht3⟩ := dr ns t2 K G O D D D D D D D D 3 (by decide) (by decide) ht2
  let ds : List PyData := DL.cutD [g, x] none (some r4)
  have dsub : ∀ d ∈ ds, d = g ∨ d = x := fun d hd => by
    have h1 := List.mem_of_mem_drop (List.mem_of_mem_take hd)
    simpa using h1
  have dlen : ds.length ≤ 2 := cut_len [g, x] none (some r4)
  have dn : ∀ d ∈ ds, nice 1000 3 d = true := fun d hd => (dsub d hd).elim (fun e => by rw [e]; exact gn) fun e => by rw [e]; exact xn
  have dk : ∀ d ∈ ds, okD 5 d = true := fun d hd => (dsub d hd).elim (fun e => by rw [e]; exact good_ok s c) fun e => by rw [e]; exact xo
  let E3 := eX ns t3 K G O (.own false ds) D D D D D D D
  have e3 : fCut (fLst (faCons (fName 3) (faCons (fBin opIx (fName 4) (dw 9)) faNil))) foNone (foSome (dw 3)) E2 = some (.new ds, eX ns t3 K G O D D D D D D D D) := by
    have q : fBin opIx (fName 4) (dw 9) E2 = some (.dat x, eX ns t2 K G O D D D D D D D D) := ev_bin (fa := fName 4) (r1 := .own 4) (e1 := E2) (x := .list (oddL g)) (y := .int r3) rfl d3 rfl rfl ix
    have l : fLst (faCons (fName 3) (faCons (fBin opIx (fName 4) (dw 9)) faNil)) E2 = some (.new [g, x], eX ns t2 K G O D D D D D D D D) := ev_lst (ea_dat (fa := fName 3) (d := g) (e1 := E2) rfl (ea_dat q ea_nil)) (by show 2 ≤ sizeLine; decide)
    exact ev_cut l (e1 := eX ns t2 K G O D D D D D D D D) (a := none) rfl (ev_someO d4) (x := .list [g, x]) rfl rfl
  let E4 := eX ns t3 K G O (.dat (.list ds)) D D D D D D D
  have e4 : fCallN 2 _law_like_F (faCons (fCallN 1 (_law_new_F C) (faCons (fName 5) faNil)) (faCons (fIf (fB (fCallN 1 is_parts_F (faCons (fUn bTuple (fName 5)) faNil))) (fUn bTuple (fName 5)) (fC (.str "part"))) faNil)) E3 = some (.dat (.bool true), E4) := by
    have q1 : fCallN 1 (_law_new_F C) (faCons (fName 5) faNil) E3 = some (.dat (ptsR ds), E4) := ev_call (ea_cons (fa := fName 5) (r := .own 5) (e1 := E3) (d := .list ds) (e2 := E4) rfl rfl ea_nil) rfl (new_any C dlen dn)
    have tu : fUn bTuple (fName 5) E4 = some (.dat (.tuple ds), E4) := ev_un (fa := fName 5) (r1 := .dat (.list ds)) (e1 := E4) rfl rfl rfl
    have nt : nice 1000 4 (.tuple ds) = true := by
      show (decide (ds.length ≤ 1000) && ds.all (nice 1000 3)) = true
      rw [decide_eq_true (by omega), List.all_eq_true.mpr dn]
      rfl
    have q2 : fB (fCallN 1 is_parts_F (faCons (fUn bTuple (fName 5)) faNil)) E4 = some (isPs (.tuple ds), E4) := ev_B (ev_call (ea_dat tu ea_nil) rfl (is_parts_any (b := 1000) (n := 4) (by decide) nt))
    have q3 : fIf (fB (fCallN 1 is_parts_F (faCons (fUn bTuple (fName 5)) faNil))) (fUn bTuple (fName 5)) (fC (.str "part")) E4 = some (.dat (ptsR ds), E4) := by
      rw [pts_is (by omega)]
      refine ev_ifE q2 (fun h => ?_) fun h => ?_
      · rw [if_pos h]; exact tu
      · rw [h, if_neg (by simp)]; rfl
    exact at_like q1 q3 (pts_ok (by omega) dk)
  -- chapters
  obtain ⟨r5, t4, d5, a5, b5, ht4⟩ := dr ns t3 K G O (.dat (.list ds)) D D D D D D D 999 (by decide) (by decide) ht3
  obtain ⟨r6, t5, d6, a6, b6, ht5⟩ := dr ns t4 K G O (.dat (.list ds)) D D D D D D D 6 (by decide) (by decide) ht4
  obtain ⟨y, hy, iy⟩ := ix_any othL r6 a6 b6
  obtain ⟨yn, yo, yc⟩ := oth_is hy
  let one : PyData := .int (1 + r5)
  let E5 := eX ns t5 K G O (.dat (.list ds)) (.dat one) (.dat y) D D D D D
  have p1 : fBin opAdd (fC (.int 1)) (dw 999) E4 = some (.dat one, eX ns t4 K G O (.dat (.list ds)) D D D D D D D) := ev_bind (fa := fC (.int 1)) (x := .int 1) (e1 := E4) rfl d5 rfl
  have p2 : fBin opIx (fLst (faCons (fC (.int 5)) (faCons (fC (.int 0)) (faCons (fC (.int 1000)) (faCons (fC (.bool true)) (faCons (fC .none) (faCons (fC (.str "5")) faNil))))))) (dw 6) (eX ns t4 K G O (.dat (.list ds)) D D D D D D D) = some (.dat y, eX ns t5 K G O (.dat (.list ds)) D D D D D D D) :=
    ev_bin (r1 := .new othL) (e1 := eX ns t4 K G O (.dat (.list ds)) D D D D D D D) (x := .list othL) (y := .int r6) (by kernel_rfl) d6 rfl rfl iy
  let due : PyData := ptsR [rt one, rt y]
  have onp : isPt (rt one) = true := by
    have hk : inR 1 999 one = true := by
      show (decide (1 ≤ 1 + r5) && decide (1 + r5 ≤ 999)) = true
      rw [decide_eq_true (by omega), decide_eq_true (by omega)]
      rfl
    show (sideB "right" && inR 1 999 one) = true
    rw [hk]
    kernel_rfl
  let E6 := eX ns t5 K G O (.dat (.list ds)) (.dat one) (.dat y) (.dat due) D D D D
  have e6 : fIf (fB (fBin opEq (fName 7) (fC (.int 5)))) (fTup (faCons (fTup (faCons (fC (.str "right")) (faCons (fName 6) faNil))) (faCons (fTup (faCons (fC (.str "right")) (faCons (fC (.int 5)) faNil))) faNil))) (fC (.str "part")) E5 = some (.dat due, E5) := by
    rcases yc with ⟨ey, oy⟩ | ⟨py, oy⟩
    · refine ev_ifE (b := true) (e1 := E5) (ev_B (ev_bind (fa := fName 7) (x := y) (fb := fC (.int 5)) (y := .int 5) (e1 := E5) (e2 := E5) rfl rfl oy)) (fun _ => ?_) nofun
      have ed : due = .tuple [rt one, rt (.int 5)] := by
        show ptsR [rt one, rt y] = _
        rw [ey]
        unfold ptsR
        have hp : [rt one, rt (.int 5)].all isPt = true := by
          rw [List.all_cons, onp]
          kernel_rfl
        rw [if_pos hp]
        exact if_pos (by show 2 ≤ 30; decide)
      rw [ed]
      exact ev_tup (ea_dat (d := rt one) (e1 := E5) (ev_tup (ea_dat (fa := fC (.str "right")) rfl (ea_dat (fa := fName 6) (d := one) rfl ea_nil)) (by show 2 ≤ sizeLine; decide)) (ea_dat (d := rt (.int 5)) (e1 := E5) (by kernel_rfl) ea_nil)) (by show 2 ≤ sizeLine; decide)
    · refine ev_ifE (b := false) (e1 := E5) (ev_B (ev_bind (fa := fName 7) (x := y) (fb := fC (.int 5)) (y := .int 5) (e1 := E5) (e2 := E5) rfl rfl oy)) nofun fun _ => ?_
      have ed : due = .str "part" := by
        show ptsR [rt one, rt y] = _
        unfold ptsR
        have hp : [rt one, rt y].all isPt = false := by
          rw [List.all_cons, List.all_cons, py, Bool.false_and, Bool.and_false]
        rw [hp, if_neg (by simp)]
      rw [ed]
      rfl
  have rtn : ∀ d ∈ [rt one, rt y], nice 1000 3 d = true := fun d hd => by
    simp only [List.mem_cons, List.not_mem_nil, or_false] at hd
    have y2 : nice 1000 2 y = true := by
      have hy : y ∈ [PyData.int 5, .int 0, .int 1000, .bool true, .none, .str "5"] := hy
      simp only [List.mem_cons, List.not_mem_nil, or_false] at hy
      rcases hy with e | e | e | e | e | e <;> rw [e] <;> kernel_rfl
    rcases hd with e | e
    · rw [e]; exact nice_rt rfl
    · rw [e]; exact nice_rt y2
  have okd : okD 6 due = true := by
    rcases yc with ⟨ey, _⟩ | ⟨py, _⟩
    · refine pts_ok (by show 2 ≤ 100000; decide) fun d hd => ?_
      simp only [List.mem_cons, List.not_mem_nil, or_false] at hd
      rcases hd with e | e
      · rw [e]; kernel_rfl
      · rw [e, ey]; kernel_rfl
    · have ed : due = .str "part" := by
        show ptsR [rt one, rt y] = _
        unfold ptsR
        have hp : [rt one, rt y].all isPt = false := by
          rw [List.all_cons, List.all_cons, py, Bool.false_and, Bool.and_false]
        rw [hp, if_neg (by simp)]
      rw [ed]
      kernel_rfl
  have e7 : fCallN 2 _law_like_F (faCons (fCallN 2 (_law_chapters_F C) (faCons (fName 6) (faCons (fName 7) faNil))) (faCons (fName 8) faNil)) E6 = some (.dat (.bool true), E6) :=
    at_like (ev_call (ea_dat (fa := fName 6) (d := one) (e1 := E6) rfl (ea_dat (fa := fName 7) (d := y) (e1 := E6) rfl ea_nil)) rfl (chap_any C rtn)) (fb := fName 8) (e2 := E6) rfl okd
  -- joined
  obtain ⟨m, t6, d8, a8, b8, ht6⟩ := dr ns t5 K G O (.dat (.list ds)) (.dat one) (.dat y) (.dat due) D D D D 31 (by decide) (by decide) ht5
  let M : Sl := .dat (.int m)
  let u : PyData := .tuple [.str "any", .int 1]
  have un : nice 1000 3 u = true := by kernel_rfl
  have up : isPt u = true := by kernel_rfl
  let X1 := List.replicate m.toNat u
  let X2 := List.replicate (30 - m).toNat g
  let E8 := eX ns t6 K G O (.dat (.list ds)) (.dat one) (.dat y) (.dat due) M D D D
  let E9 := eX ns t6 K G O (.dat (.list ds)) (.dat one) (.dat y) (.dat due) M (.dat (bk C X1)) D D
  let E10 := eX ns t6 K G O (.dat (.list ds)) (.dat one) (.dat y) (.dat due) M (.dat (bk C X1)) (.dat (bk C X2)) D
  have e9 : fCallN 1 (_law_made_F C) (faCons (fBin opMulN (fTup (faCons (fTup (faCons (fC (.str "any")) (faCons (fC (.int 1)) faNil))) faNil)) (fName 9)) faNil) E8 = some (.dat (bk C X1), E8) :=
    made_at C (x := u) (m := m) (e1 := E8) (by kernel_rfl) (fb := fName 9) (e := E8) rfl a8 (by omega) un up
  have one_g : ∀ E : DL.Env, E[3]? = some G → fTup (faCons (fName 3) faNil) E = some (.dat (.tuple [g]), E) := fun E h => ev_tup (ea_dat (fa := fName 3) (d := g) (e1 := E) (by unfold fName; rw [h]) ea_nil) (by show 1 ≤ sizeLine; decide)
  have e10 : fCallN 1 (_law_made_F C) (faCons (fBin opMulN (fTup (faCons (fName 3) faNil)) (fBin opSub (fC (.int 30)) (fName 9))) faNil) E9 = some (.dat (bk C X2), E9) :=
    made_at C (m := 30 - m) (e1 := E9) (one_g E9 rfl) (ev_bind (fa := fC (.int 30)) (x := .int 30) (fb := fName 9) (y := .int m) (e1 := E9) (e2 := E9) rfl rfl rfl) (by omega) (by omega) gn gp
  have k1 : okP 1000 3 X1 := ok_rep un up (by omega)
  have k2 : okP 1000 3 X2 := ok_rep gn gp (by omega)
  have l1 : X1.length = m.toNat := List.length_replicate ..
  have l2 : X2.length = (30 - m).toNat := List.length_replicate ..
  have j1 : _law_joined_F C [bk C X1, bk C X2] = some (.dat (.int 30)) := by
    rw [joined_any C k1 k2, if_pos (by rw [l1, l2]; omega), l1, l2, show ((m.toNat + (30 - m).toNat : Nat) : Int) = 30 by omega]
  have q1 : fB (fBin opNe (fCallN 2 (_law_joined_F C) (faCons (fName 10) (faCons (fName 11) faNil))) (fC (.int 30))) E10 = some (false, E10) :=
    ev_B (ev_bind (e1 := E10) (x := .int 30) (y := .int 30) (e2 := E10) (ev_call (ea_dat (fa := fName 10) (d := bk C X1) (e1 := E10) rfl (ea_dat (fa := fName 11) (d := bk C X2) (e1 := E10) rfl ea_nil)) rfl j1) rfl (by kernel_rfl))
  have nb : dnX (fBinX (opAddBX C (Book_add_F C)) (fName 11) (dnX (fMkX (Book_init_F C) faNil))) E10 = some (.dat (bk C X2), E10) := by
    refine dn_at ?_
    have hb : dnX (fMkX (Book_init_F C) faNil) E10 = some (.dat (bk C []), E10) := mk_dn (b := 1000) (n := 3) ea_nil (okP_nil 1000 3)
    rw [add_at (C := C) (b := 1000) (n := 3) (xs := X2) (ys := []) (fa := fName 11) (e1 := E10) rfl hb (by rw [l2]; show (30 - m).toNat + 0 ≤ 1000; omega) (by rw [List.append_nil]; exact k2.1), List.append_nil, mkR_ok k2]
    rfl
  have q2 : fB (fBin opNe (fCallN 2 (_law_joined_F C) (faCons (fName 10) (faCons (dnX (fBinX (opAddBX C (Book_add_F C)) (fName 11) (dnX (fMkX (Book_init_F C) faNil)))) faNil))) (fC (.int 30))) E10 = some (false, E10) :=
    ev_B (ev_bind (e1 := E10) (x := .int 30) (y := .int 30) (e2 := E10) (ev_call (ea_dat (fa := fName 10) (d := bk C X1) (e1 := E10) rfl (ea_dat nb ea_nil)) rfl j1) rfl (by kernel_rfl))
  let n3 : Int := if 31 - m < 30 then 31 - m else 30
  have n30 : 0 ≤ n3 ∧ n3 ≤ 30 := by
    show 0 ≤ (if 31 - m < 30 then 31 - m else 30) ∧ (if 31 - m < 30 then 31 - m else 30) ≤ 30
    split <;> omega
  let X3 := List.replicate n3.toNat g
  have l3 : X3.length = n3.toNat := List.length_replicate ..
  let E12 := eX ns t6 K G O (.dat (.list ds)) (.dat one) (.dat y) (.dat due) M (.dat (bk C X1)) (.dat (bk C X2)) (.dat (bk C X3))
  have e12 : fCallN 1 (_law_made_F C) (faCons (fBin opMulN (fTup (faCons (fName 3) faNil)) (fBin bMin2 (fC (.int 30)) (fBin opSub (fC (.int 31)) (fName 9)))) faNil) E10 = some (.dat (bk C X3), E10) :=
    made_at C (m := n3) (e1 := E10) (one_g E10 rfl) (ev_bind (fa := fC (.int 30)) (x := .int 30) (y := .int (31 - m)) (e1 := E10) (e2 := E10) rfl (ev_bind (fa := fC (.int 31)) (x := .int 31) (fb := fName 9) (y := .int m) (e1 := E10) (e2 := E10) rfl rfl rfl) rfl) n30.1 n30.2 gn gp
  have k3 : okP 1000 3 X3 := ok_rep gn gp (by omega)
  have q3 : fB (fBin opNe (fCallN 2 (_law_joined_F C) (faCons (fName 10) (faCons (fName 12) faNil))) (fIf (fB (fBin opGt (fName 9) (fC (.int 0)))) (fC (.str "many")) (fC (.int 30)))) E12 = some (false, E12) := by
    have tg : fB (fBin opGt (fName 9) (fC (.int 0))) E12 = some (decide (0 < m), E12) := ev_B (ev_bind (fa := fName 9) (x := .int m) (fb := fC (.int 0)) (y := .int 0) (e1 := E12) (e2 := E12) rfl rfl rfl)
    by_cases hm : 0 < m
    · have j3 : _law_joined_F C [bk C X1, bk C X3] = some (.dat (.str "many")) := by
        rw [joined_any C k1 k3, if_neg]
        rw [l1, l3]
        have : n3 = 31 - m ∨ n3 = 30 := by
          show (if 31 - m < 30 then 31 - m else 30) = 31 - m ∨ (if 31 - m < 30 then 31 - m else 30) = 30
          split
          · exact .inl rfl
          · exact .inr rfl
        omega
      rw [decide_eq_true hm] at tg
      exact ev_B (ev_bind (e1 := E12) (x := .str "many") (y := .str "many") (e2 := E12) (ev_call (ea_dat (fa := fName 10) (d := bk C X1) (e1 := E12) rfl (ea_dat (fa := fName 12) (d := bk C X3) (e1 := E12) rfl ea_nil)) rfl j3) (ev_ifE tg (fun _ => rfl) nofun) (by kernel_rfl))
    · have m0 : m = 0 := by omega
      have j3 : _law_joined_F C [bk C X1, bk C X3] = some (.dat (.int 30)) := by
        have h3 : n3 = 30 := by
          show (if 31 - m < 30 then 31 - m else 30) = 30
          rw [if_neg (by omega)]
        rw [joined_any C k1 k3, if_pos (by rw [l1, l3]; omega), l1, l3, show ((m.toNat + n3.toNat : Nat) : Int) = 30 by omega]
      rw [decide_eq_false hm] at tg
      exact ev_B (ev_bind (e1 := E12) (x := .int 30) (y := .int 30) (e2 := E12) (ev_call (ea_dat (fa := fName 10) (d := bk C X1) (e1 := E12) rfl (ea_dat (fa := fName 12) (d := bk C X3) (e1 := E12) rfl ea_nil)) rfl j3) (ev_ifE tg nofun (fun _ => rfl)) (by kernel_rfl))
  refine ⟨t6, ht6, ?_⟩
  refine step_nx (e1 := eX ns t K D D D D D D D D D D) (e2 := E12) rfl ?_
  refine (es_seq (e := E1) ((es_name (i := 3) e1 (by show 3 < 13; decide)).trans rfl)).trans ?_
  refine (es_seq (e := E2) ((es_new (i := 4) e2 (by show 4 < 13; decide)).trans rfl)).trans ?_
  refine (es_seq (e := E3) ((es_new (i := 5) e3 (by show 5 < 13; decide)).trans rfl)).trans ?_
  refine (es_seq (e := E4) ((es_ifF (ev_not (b1 := true) (ev_B e4))).trans rfl)).trans ?_
  refine (es_seq (e := E5) ((es_par (i := 6) (j := 7) p1 p2 rfl rfl (by show 6 < 13; decide) (by show 7 < 13; decide)).trans rfl)).trans ?_
  refine (es_seq (e := E6) ((es_name (i := 8) e6 (by show 8 < 13; decide)).trans rfl)).trans ?_
  refine (es_seq (e := E6) ((es_ifF (ev_not (b1 := true) (ev_B e7))).trans rfl)).trans ?_
  refine (es_seq (e := E8) ((es_name (i := 9) d8 (by show 9 < 13; decide)).trans rfl)).trans ?_
  refine (es_seq (e := E9) ((es_name (i := 10) e9 (by show 10 < 13; decide)).trans rfl)).trans ?_
  refine (es_seq (e := E10) ((es_name (i := 11) e10 (by show 11 < 13; decide)).trans rfl)).trans ?_
  refine (es_seq (e := E10) ((es_ifF (ev_or (b1 := false) (b2 := false) (e1 := E10) q1 (fun _ => q2) nofun)).trans rfl)).trans ?_
  refine (es_seq (e := E12) ((es_name (i := 12) e12 (by show 12 < 13; decide)).trans rfl)).trans ?_
  exact (es_ifF q3).trans rfl
theorem law_holds (C : Nat) : ∀ ns : List Int, ns.length ≤ 63 → ∃ env, g_law C (lawEnv 13 ns) = some (.rt (.dat (.bool true)) env) := by
  intro ns _
  obtain ⟨e, h1, t', h2, _⟩ := for_inv (bd := b1_laws C) (fun _ env => ∃ t' : Int × Int, env = eX ns t' .dead .dead .dead .dead .dead .dead .dead .dead .dead .dead .dead ∧ 0 ≤ t'.1) (rangeD 0 8) 0 (eX ns (0, 0) .dead .dead .dead .dead .dead .dead .dead .dead .dead .dead .dead)
    ⟨(0, 0), rfl, Int.le_refl 0⟩ (fun m x env _ ⟨t', h, ht⟩ => by
      obtain ⟨t'', h1, h2⟩ := turn C ns t' x ht
      exact ⟨_, .inl (by rw [h]; exact h2), t'', rfl, h1⟩)
  subst h2
  let E := eX ns t' .dead .dead .dead .dead .dead .dead .dead .dead .dead .dead .dead
  refine ⟨E, ?_⟩
  refine (es_seq ((es_for (e := eX ns (0, 0) .dead .dead .dead .dead .dead .dead .dead .dead .dead .dead .dead) (xs := rangeD 0 8) (by kernel_rfl)).trans h1)).trans ?_
  let bad : List PyData := [.tuple [.str "any", .int 1], .tuple [.str "any", .int 0]]
  have q : _law_new_F C [.list bad] = some (.dat (.str "part")) := by
    rw [new_any C (b := 1000) (n := 3) (ds := bad) (by show 2 ≤ 2; decide) (fun d hd => by
      have hd : d ∈ [PyData.tuple [.str "any", .int 1], .tuple [.str "any", .int 0]] := hd
      simp only [List.mem_cons, List.not_mem_nil, or_false] at hd
      rcases hd with rfl | rfl <;> kernel_rfl)]
    kernel_rfl
  have l : faCons (fLst (faCons (fTup (faCons (fC (.str "any")) (faCons (fC (.int 1)) faNil))) (faCons (fTup (faCons (fC (.str "any")) (faCons (fC (.int 0)) faNil))) faNil))) faNil E = some ([.list bad], E) := by kernel_rfl
  exact es_ret (ev_bind (e1 := E) (e2 := E) (x := .str "part") (y := .str "part") (ev_call l rfl q) rfl (by kernel_rfl))
end K15

/-! DL34: a generator whose consumer keeps a list and a name space of its own (a comprehension over it). -/
namespace DL
open PySem PySem.Spec PyProof.Rows L2 GenW
/-- an object that is a name space -/
def NsO (o : Obj) : Prop := ∃ es ep, o.data = .dict es ep ∧ StrKeys es
theorem NsO.ns {o : Obj} {h : Heap} {a : Addr} (z : NsO o) (e : h.get? a = some o) : ∃ m, h.Ns a m := by
  obtain ⟨es, ep, d, k⟩ := z
  exact ⟨nsFind es, o, es, ep, e, d, k, fun _ => rfl⟩
theorem nsO_of {h : Heap} {a : Addr} {m : Str → Option Value} (z : h.Ns a m) : ∃ o, h.get? a = some o ∧ NsO o := by
  obtain ⟨o, es, ep, e, d, k, _⟩ := z
  exact ⟨o, e, es, ep, d, k⟩
/-- asleep: the consumer's list at S has grown by v, its names at C may be others; nothing else moved -/
structure Slp (S C : Addr) (v : Value) (s t : Shared) : Prop where
  sys : t.os = s.os
  bar : AllBare t.gens
  kpt : ∀ b o, b ≠ S → b ≠ C → s.heap.get? b = some o → t.heap.get? b = some o
  lst : ∀ xs c, s.heap.get? S = some (lstObj xs c) → ∃ c', t.heap.get? S = some (lstObj (xs.push v) c')
  nsp : ∃ o, t.heap.get? C = some o ∧ NsO o
def GI2 (X : Cx) (S C : Addr) (ip : List (Addr × Obj)) (ys : List V) (σ : L2.St) (H : Hp) (s : Shared) : Prop :=
  ∃ (xs : Array Value) (c : Nat) (oC : Obj), NsO oC ∧ Vals ys xs.toList ∧ Inv X ((S, lstObj xs c) :: (C, oC) :: ip) σ H s
section
variable {X : Cx} {S C : Addr} {ip : List (Addr × Obj)} {ys : List V} {x : V} {v : Value} {σ : L2.St} {H : Hp} {s t : Shared}
theorem GI2.rise (np : ∀ p ∈ X.pn ++ ip, p.1 ≠ S ∧ p.1 ≠ C) (aS : L2.Apart X S) (aC : L2.Apart X C) (ne : S ≠ C) (h : GI2 X S C ip ys σ H s) (rv : RelV x v) (z : Slp S C v s t) : GI2 X S C ip (ys ++ [x]) σ H t := by
  obtain ⟨xs, c, oC, nC, r, I⟩ := h
  have mS : (S, lstObj xs c) ∈ X.pn ++ ((S, lstObj xs c) :: (C, oC) :: ip) := List.mem_append_right _ List.mem_cons_self
  have mC : (C, oC) ∈ X.pn ++ ((S, lstObj xs c) :: (C, oC) :: ip) := List.mem_append_right _ (List.mem_cons_of_mem _ List.mem_cons_self)
  obtain ⟨eS, hS0, hSL, hSf, _⟩ := I.pin _ mS
  obtain ⟨eC, hC0, hCL, hCf, _⟩ := I.pin _ mC
  have I0 : Inv X ip σ H s := I.pins_of fun p hp => I.pin p (List.mem_append_right _ (List.mem_cons_of_mem _ (List.mem_cons_of_mem _ hp)))
  obtain ⟨z1, z2, z3, z4, o', eo, no⟩ := z
  obtain ⟨c', eS'⟩ := z4 xs c eS
  obtain ⟨hh, g, d, tk, o⟩ := t
  cases (show o = s.os from z1)
  have off : ∀ b, b ∉ [S, C] → b ≠ S ∧ b ≠ C := fun b hb => ⟨fun e => hb (by rw [e]; simp), fun e => hb (by rw [e]; simp)⟩
  have k3 : ∀ b o, b ∉ [S, C] → s.heap.get? b = some o → hh.get? b = some o := fun b o hb q => z3 b o (off b hb).1 (off b hb).2 q
  have J : Inv X ip σ H { s with heap := hh, gens := g, drawn := d, toks := tk } := by
    refine I0.step (ch := [S, C]) (g' := g) (t' := tk) (d' := d) (fun b hb => ?_) (fun b ob _ _ hc q _ => k3 b ob hc q) (fun b ob _ _ hc q _ => ⟨ob.slots, k3 b ob hc q⟩) (fun _ _ _ _ n => n)
      (fun b ob hc q => ⟨ob, k3 b ob hc q⟩) (fun _ _ q => q) (fun _ _ _ q => q) (fun b ps q => ⟨#[], by rw [q]; simp⟩) (fun m hm => ?_) (fun b u q => ?_) z2
    · rcases List.mem_cons.mp hb with e | e
      · subst e
        exact ⟨.inr aS.1, aS.2.1, aS.2.2, fun p hp => (np p hp).1⟩
      · cases List.mem_singleton.mp e
        exact ⟨.inr aC.1, aC.2.1, aC.2.2, fun p hp => (np p hp).2⟩
    · obtain ⟨ob, es, ep, q, w⟩ := hm
      exact ⟨ob, es, ep, z3 _ ob hSL.symm hCL.symm q, w⟩
    · have nt : ∀ a w, H a = some w → a ≠ S ∧ a ≠ C := fun a w y => ⟨fun e => by rw [e, hS0] at y; exact absurd y nofun, fun e => by rw [e, hC0] at y; exact absurd y nofun⟩
      refine (I0.hok b u q).stay (fun a w hc y => ?_) (fun _ y => y) fun _ _ y => y
      have y2 := hc.elim (fun e => e ▸ nt b u q) fun e => nt a _ e
      exact z3 a w y2.1 y2.2 y
  refine ⟨xs.push v, c', o', no, by rw [Array.toList_push]; exact r.append (.cons rv .nil), J.pins_of fun p hp => ?_⟩
  rcases List.mem_cons.mp hp with e | hp
  · cases e
    exact ⟨eS', hS0, hSL, hSf, fun _ q => nomatch q⟩
  rcases List.mem_cons.mp hp with e | hp
  · cases e
    obtain ⟨es, ep, q, _⟩ := no
    exact ⟨eo, hC0, hCL, hCf, fun w y => by rw [q] at y; cases y⟩
  · exact J.pin p (List.mem_append_right _ hp)
end
def GY2 (X : Cx) (S C : Addr) : Protocol := fun n _ v s kap => ∃ ys x ip σ H, ys.length + n + 1 = sizeLine ∧ GI2 X S C ip ys σ H s ∧ RelV x v ∧ ∀ t, Slp S C v s t → kap (.send .none) t
/-- where a run of the generator's code stands -/
structure GC2 (X : Cx) (S C : Addr) (ip : List (Addr × Obj)) (A : Around) (c : Code) (fs : List Frame) (gd : Bool → Bool) : Prop where
  one : GC X S ip A c fs gd
  apC : L2.Apart X C
  pnC : ∀ p ∈ X.pn ++ ip, p.1 ≠ C
  ne : S ≠ C
theorem GC2.np {X : Cx} {S C : Addr} {ip : List (Addr × Obj)} {A : Around} {c : Code} {fs : List Frame} {gd : Bool → Bool} (g : GC2 X S C ip A c fs gd) : ∀ p ∈ X.pn ++ ip, p.1 ≠ S ∧ p.1 ≠ C := fun p hp =>
  ⟨(List.mem_append.mp hp).elim (g.one.pn p) (g.one.ip p), g.pnC p hp⟩
/-- what is wanted behind: of all that came out, of the heap -/
abbrev TGB := (List V → Hp → Prop) → L2.St → Hp → Prop
/-- the last statements of a generator's body, when nothing is out yet -/
structure GB (X : Cx) (st : List Stmt) (t : TGB) : Prop where
  run : ∀ (S C : Addr) (A : Around) (ip : List (Addr × Obj)) (R : GenEnd) (c : Code) (fs : List Frame) (K : Flow → Sem PySem.Fin) (J : Value → Sem PySem.Fin) (gd : Bool → Bool) (lv : List Value → List Value) (s0 s : Shared) (σ : L2.St) (H : Hp) (Q : List V → Hp → Prop),
    GC2 X S C ip A c fs gd → (∀ n s0 e s, X.xe e s → Seg (model X.prog X.w) A R (GY2 X S C) n s0 c (J e) fs s) →
    (∀ n ys s0 s σ H, ys.length + n = sizeLine → GI2 X S C ip ys σ H s → Q ys H → Seg (model X.prog X.w) A R (GY2 X S C) n s0 c (K .next) fs s) →
    GI2 X S C ip [] σ H s → t Q σ H → Seg (model X.prog X.w) A R (GY2 X S C) sizeLine s0 c ((execs st X.env).wrap K J gd lv) fs s
section
variable {X : Cx} {st : Stmt} {rest : List Stmt}
theorem GB.imp {sts : List Stmt} {t u : TGB} (h : GB X sts t) (k : ∀ Q σ H, u Q σ H → t Q σ H) : GB X sts u :=
  ⟨fun S C A ip R c fs K J gd lv s0 s σ H Q g hx hn hI ht => h.run S C A ip R c fs K J gd lv s0 s σ H Q g hx hn hI (k Q σ H ht)⟩
theorem gb_cons {t : TS} {u : TGB} (a : PS X st t) (b : GB X rest u) : GB X (st :: rest) (fun Q σ H => t { nx := fun σ1 H1 => u Q σ1 H1, rt := fun _ _ => False } σ H) := by
  refine ⟨fun S C A ip R c fs K J gd lv s0 s σ H Q g hx hn hI ht => ?_⟩
  obtain ⟨xs, k, oC, nC, r, I⟩ := hI
  refine seg_execs_cons (seg_wrap ?_)
  rw [g.one.over]
  refine wpAny_mono (a.run _ s σ H _ I ht) (fun f s1 hs => ?_) fun e s1 he => hx _ _ e s1 he
  cases f with
  | next =>
    obtain ⟨σ1, H1, I1, q⟩ := hs
    exact b.run S C A ip R c fs K J gd lv s0 s1 σ1 H1 Q g hx hn ⟨xs, k, oC, nC, r, I1⟩ q
  | brk => obtain ⟨_, _, _, q⟩ := hs; exact q.elim
  | cont => obtain ⟨_, _, _, q⟩ := hs; exact q.elim
  | ret u => obtain ⟨_, _, _, _, _, q⟩ := hs; exact q.elim
end
section
variable {X : Cx} {tg it e : Expr} {pos yp ep : Pos} {wi : L2.TI} {g : TG} {te : TE}
/-- for tg in it: yield e -/
def tGB (wi : L2.TI) (g : TG) (te : TE) : TGB := fun Q σ H => wi σ H fun J H1 => ∃ W : Nat → Nat → List V → L2.St → Hp → Prop, (∃ m, W 0 m [] σ H1) ∧ ∀ i m ys σ H, W i m ys σ H →
  (J.stop i H ∧ Q ys H) ∨ (J.go i H ∧ ∃ N : List V → L2.St → Hp → Prop, (∀ y' σ' H', N y' σ' H' → ∃ m', m' < m ∧ W (i + 1) m' y' σ' H') ∧ ∀ x H', J.yld i H x H' → g x σ H' fun σ2 H2 => ys.length < sizeLine ∧ te σ2 H2 fun y H3 => N (ys ++ [y]) σ2 H3)
theorem gb_for (hp : PassesOwn (model X.prog X.w) X.A X.env X.xe) (hc : X.calm = true) (hi : PI X tg it wi) (hg : PG X tg g) (he : PE X e te) (hco : X.env.scope.isCoroutine = false := by rfl) (hq : interactive X.env = false := by rfl)
    (hs : ∀ x, foldedSetIterable it X.env x = pure x := by intro _; rfl) : GB X [.For tg it [.Expr (.Yield (some e) yp) ep] [] pos] (tGB wi g te) := by
  refine ⟨fun S C A ip R c fs K J gd lv s0 s σ H Q gc hx hn hI ht => ?_⟩
  obtain ⟨xs, cc, oC, nC, r, I⟩ := hI
  refine seg_execs_cons (seg_forS hs ?_)
  rw [gc.one.over]
  refine wpAny_mono (hi.run _ s σ H _ I ht) (fun v s1 h1 => wpAny_mono h1 (fun iv s2 h2 => ?_) fun x s' hz => hx _ s0 x s' hz) fun x s' hz => hx _ s0 x s' hz
  obtain ⟨a, fp, tn, Jt, H2, ea, I2, T, st2, f2, W, ⟨m0, w0⟩, turn⟩ := h2
  subst ea
  intro p
  have fS : ∀ b ∈ fp, b ≠ S ∧ b ≠ C := fun b hb => by
    obtain ⟨_, _, _, _, _, f⟩ := f2 b hb
    exact ⟨fun z => f (S, lstObj xs cc) (List.mem_append_right _ List.mem_cons_self) z.symm, fun z => f (C, oC) (List.mem_append_right _ (List.mem_cons_of_mem _ List.mem_cons_self)) z.symm⟩
  have fI : ∀ {x' : Array Value} {c' : Nat} {o' : Obj} {H' : Hp}, (∀ b ∈ fp, H' b = none) → ∀ b ∈ fp, FpOk X ((S, lstObj x' c') :: (C, o') :: ip) H' b := fun {x' c' o' H'} hn b hb => by
    obtain ⟨_, f1, f3, f4, f5, f6⟩ := f2 b hb
    refine ⟨hn b hb, f1, f3, f4, f5, fun q hq => ?_⟩
    rcases List.mem_append.mp hq with z | z
    · exact f6 q (List.mem_append_left _ z)
    rcases List.mem_cons.mp z with z | z
    · rw [z]; exact (fS b hb).1.symm
    rcases List.mem_cons.mp z with z | z
    · rw [z]; exact (fS b hb).2.symm
    · exact f6 q (List.mem_append_right _ (List.mem_cons_of_mem _ (List.mem_cons_of_mem _ z)))
  let body : List Stmt := [.Expr (.Yield (some e) yp) ep]
  let K2 : Flow → Sem PySem.Fin := fun f => match f with | .next => (execs [] X.env).wrap K J gd lv | f => K f
  let LC : Code := .forLoop tg (.ref a) body [] X.env
  have out : ∀ (KK : Flow → Sem PySem.Fin), (∀ n ys s0 s σ H, ys.length + n = sizeLine → GI2 X S C ip ys σ H s → Q ys H → Seg (model X.prog X.w) A R (GY2 X S C) n s0 c (KK .next) fs s) →
      ∀ (m i n : Nat) (ys : List V) (s0 s : Shared) (σ : L2.St) (H : Hp), ys.length + n = sizeLine → W i m ys σ H → tn i s.heap → (∀ b ∈ fp, H b = none) → GI2 X S C ip ys σ H s →
      Seg (model X.prog X.w) A R (GY2 X S C) n s0 LC ((model X.prog X.w).den LC) (.ret (fun r => (backIn X.env r).wrap KK J gd lv) none (gd false) (lv []) c p [] :: fs) s := by
    intro KK hKK m
    have gl : GC X S ip A LC (.ret (fun r => (backIn X.env r).wrap KK J gd lv) none (gd false) (lv []) c p [] :: fs) id := gc_loop gc.one rfl rfl
    have raised : ∀ (n : Nat) (s0 : Shared) (x : Value) (s' : Shared), X.xe x s' → Seg (model X.prog X.w) A R (GY2 X S C) n s0 LC (noteIn X.env x) (.ret (fun r => (backIn X.env r).wrap KK J gd lv) none (gd false) (lv []) c p [] :: fs) s' := fun n s0 x s' hz => by
      have back : ∀ (y : Value) (s3 : Shared), cameBackBy (model X.prog X.w) X.A X.env X.xe y s3 → Seg (model X.prog X.w) A R (GY2 X S C) n s0 c (((Sem.raise y : Sem Flow).onRaise (cameBack X.env)).wrap KK J gd lv) fs s3 := fun y s3 h => by
        show Seg _ _ _ _ _ _ _ (((cameBack X.env y).bind (fun _ => (Sem.raise y : Sem Flow))).wrap KK J gd lv) _ _
        rw [Sem.bind_eq_wrap, Sem.wrap_wrap]
        refine seg_wrap ?_
        rw [gc.one.over]
        exact wpAny_mono h (fun _ s4 q => hx n s0 y s4 q) fun y' s4 q => hx n s0 y' s4 q
      refine seg_wrap ?_
      rw [gl.over]
      refine wpAny_bind (wpAny_mono (hp x s' hz) (fun _ s2 hcb => wpAny_theTreesLotGoes ?_) fun y s2 hcb => ?_)
      · exact seg_leaf (.error x) (back x s2 hcb)
      · exact seg_leaf (.error y) (back y s2 hcb)
    induction m using Nat.strongRecOn with
    | ind m ih =>
      intro i n ys s0 s σ H hn w st hf hI
      obtain ⟨xs, cc, oC, nC, r, I⟩ := hI
      refine seg_forL ?_
      rw [gl.over]
      rcases turn i m ys σ H w with ⟨stop, qn⟩ | ⟨go, N, hN, step⟩
      · refine wpAny_mono (T.done X rfl rfl rfl hc i _ s σ H X.xe I (fI hf) st stop) (fun q s1 ⟨e1, I1⟩ => ?_) fun x s' hz => raised n s0 x s' hz
        subst e1
        refine seg_again rfl (seg_blk ?_)
        exact seg_leaf (.ok .next) (hKK n ys s0 s1 σ H hn ⟨xs, cc, oC, nC, r, I1⟩ qn)
      · refine wpAny_mono (T.item X rfl rfl rfl hc i _ s σ H X.xe I (fI hf) st go) (fun q s1 ⟨u, e1, h4⟩ => ?_) fun x s' hz => raised n s0 x s' hz
        subst e1
        refine wpAny_mono h4 (fun _ s5 ⟨x, H5, I5, r5, y5, st5, fr5⟩ => ?_) fun x s' hz => raised n s0 x s' hz
        let I5' := I5.pinned (fI fr5) (T.obj _ _ st5)
        refine wpAny_mono (hg.run _ s5 σ H5 x u _ I5' r5 (step x H5 y5)) (fun _ s6 ⟨σ6, H6, I6, hlt, q6⟩ => ?_) fun x s' hz => raised n s0 x s' hz
        obtain ⟨n, rfl⟩ : ∃ k, n = k + 1 := ⟨n - 1, by omega⟩
        refine seg_execs_cons (seg_Expr_Yield gl.split gl.gd gl.guard ?_ hco hq)
        rw [gl.over]
        refine wpAny_mono (he.run _ s6 σ6 H6 _ I6 q6) (fun v s7 hv => ?_) fun x s' hz => raised _ s0 x s' hz
        obtain ⟨y, H7, I7, rv, q7⟩ := hv
        let ip2 := ip ++ pinsAt fp s5.heap
        have G7 : GI2 X S C ip2 ys σ6 H7 s7 := ⟨xs, cc, oC, nC, r, I7⟩
        have np2 : ∀ q ∈ X.pn ++ ip2, q.1 ≠ S ∧ q.1 ≠ C := fun q hq => by
          rcases List.mem_append.mp hq with z | z
          · exact gc.np q (List.mem_append_left _ z)
          rcases List.mem_append.mp z with z | z
          · exact gc.np q (List.mem_append_right _ z)
          · exact fS q.1 (of_pinsAt z).1
        intro kap hk
        refine ⟨ys, y, ip2, σ6, H7, by omega, G7, rv, fun s8 z => hk .none s8 ?_⟩
        refine seg_execs_nil ?_
        obtain ⟨x8, c8, o8, n8, r8, I8⟩ := G7.rise np2 gc.one.apart gc.apC gc.ne rv z
        obtain ⟨m', hm, w8⟩ := hN _ σ6 H7 q7
        have pin8 : ∀ b ∈ fp, ∀ o, s5.heap.get? b = some o → s8.heap.get? b = some o ∧ H7 b = none := fun b hb o e1 =>
          let z := I8.pin (b, o) (List.mem_append_right _ (List.mem_cons_of_mem _ (List.mem_cons_of_mem _ (List.mem_append_right _ (mem_pinsAt hb e1)))))
          ⟨z.1, z.2.1⟩
        refine seg_again rfl (ih m' hm (i + 1) n _ s8 s8 σ6 H7 (by rw [List.length_append, List.length_singleton]; omega) w8 (T.keep _ _ _ st5 fun b hb o e1 => (pin8 b hb o e1).1) (fun b hb => ?_) ⟨x8, c8, o8, n8, r8, I8.pins_of fun q hq => I8.pin q ?_⟩)
        · obtain ⟨o, e1, _⟩ := T.obj _ _ st5 b hb
          exact (pin8 b hb o e1).2
        · refine List.mem_append_right _ ?_
          rcases List.mem_cons.mp hq with y | y
          · rw [y]; exact List.mem_cons_self
          rcases List.mem_cons.mp y with y | y
          · rw [y]; exact List.mem_cons_of_mem _ List.mem_cons_self
          · exact List.mem_cons_of_mem _ (List.mem_cons_of_mem _ (List.mem_append_left _ y))
  refine out _ (fun n ys s0 s σ H h1 h2 h3 => ?_) m0 0 _ [] s0 s2 σ H2 (Nat.zero_add _) w0 st2 (fun b hb => (f2 b hb).1) ⟨xs, cc, oC, nC, r, I2⟩
  exact seg_execs_nil (hn n ys s0 s σ H h1 h2 h3)
end
end DL

/-! DL35: a generator def, and a comprehension over what it hands out. -/
namespace DL
open PySem PySem.Spec PyProof.Rows L2 GenW
/-- a run's end: all of it stands in S -/
def RE2 (P : Program) (w : World) (outer : List PySem.Env) (H : Hp) (s : Shared) (S C : Addr) (Q : List V → Hp → Prop) : GenEnd := fun n _ r t => (r = .ok (.ret .none) ∨ r = .ok .next) ∧
  ∃ G ys xs c, t.os = s.os ∧ AllBare t.gens ∧ Un (frs outer) [] H G s.heap t.heap ∧ HOk P w G t.heap ∧ G S = none ∧ G C = none ∧ t.heap.get? S = some (lstObj xs c) ∧ (∃ m, t.heap.Ns C m) ∧ Vals ys xs.toList ∧ ys.length ≤ sizeLine ∧ Q ys G
/-- something is handed out -/
def YI2 (s : Shared) (S C a : Addr) (g : Nat) : Protocol := fun n _ _v t kap => t.os = s.os ∧ AllBare t.gens ∧ t.heap.NoLimit ∧ t.heap.IsGen a g ∧
  (∃ (xs : Array Value) (c : Nat), t.heap.get? S = some (lstObj xs c) ∧ xs.size + n + 1 = sizeLine) ∧ (∃ m, t.heap.Ns C m) ∧ ∀ t', Slp S C _v t t' → kap (.send .none) t'
/-- a generator that has not begun; it may serve a comprehension -/
def GM2 (P : Program) (w : World) (k : Nat) (outer : List PySem.Env) (H : Hp) (s : Shared) (Q : List V → Hp → Prop) (u : Value) (s1 : Shared) : Prop :=
  ∃ (a : Addr) (g : Nat) (c : Code), u = .ref a ∧ s.heap.objs.size ≤ a ∧ a < s1.heap.objs.size ∧ s1.heap.IsGen a g ∧ s1.gens[g]? = some (.fresh c) ∧ s1.os = s.os ∧ AllBare s1.gens ∧ s1.heap.NoLimit ∧ (∀ b o, s.heap.get? b = some o → s1.heap.get? b = some o) ∧
    ∀ (A : Around) (S C : Addr) (t : Shared), Room k A → A.frames = some outer → s1.heap.objs.size ≤ S → s1.heap.objs.size ≤ C → S ≠ C → (∀ b o, s1.heap.get? b = some o → t.heap.get? b = some o) → (∃ c, t.heap.get? S = some (lstObj #[] c)) → (∃ m, t.heap.Ns C m) →
      t.os = s.os → AllBare t.gens → Seg (model P w) A (RE2 P w outer H s S C Q) (YI2 s S C a g) sizeLine t c ((model P w).den c) [] t
structure GFn2 (P : Program) (w : World) (K : PySem.W.Frag) (mg : Str → Option Value) (base : Heap) (k : Nat) (f : Addr) (fd : FuncData) (ps : List Str) (sp : SpG) : Prop where
  len : ∀ vs H Q E, sp vs H Q E → vs.length = ps.length
  run : ∀ (A : Around) (outer : List PySem.Env) (s : Shared) (H : Hp) (args : Args) (us : List Value) (vs : List V) (Q : List V → Hp → Prop), Room k A → Env0 P w K mg base A outer s H → BindsTo s fd args (ps.zip us) → Vals vs us → sp vs H Q (fun _ _ _ => False) →
    codeAny (model P w) A (.call (.ref f) args) (fun r t => match r with | .ok (.ret u) => GM2 P w k outer H s Q u t | _ => False) s
section
variable {P : Program} {w : World} {K : PySem.W.Frag} {mg : Str → Option Value} {base : Heap}
theorem gfn2_of {k : Nat} {f : Addr} {name qual : Str} {params : Arguments} {body : List Stmt} {scope : Scope} {dV kV doc pm cdv ct oc : Value} {an od : Option Addr} {osl : Array (Option Value)} {N ps : List Str} {sp : SpG}
    (lk : K.lookup f = some ⟨oc, od, .func (PySem.W.fnOf name qual params body scope dV kV doc pm an cdv ct), osl⟩) (hcd : PySem.W.codeIn K cdv qual = true) (Sc : GScope N ps scope) (len : ∀ vs H Q E, sp vs H Q E → vs.length = ps.length)
    (hbody : ∀ (A : Around) (outer : List PySem.Env) (s : Shared) (H : Hp) (vs : List V) (Q : List V → Hp → Prop) (pn : List (Addr × Obj)), Room k (A.deeper (envOfC qual scope s.heap.objs.size f cdv)) → sp vs H Q (fun _ _ _ => False) →
      ∃ t, GB (gcxOf P w K mg base N qual scope f cdv A outer s H (fun _ _ _ => False) pn) body t ∧ t Q (start N vs) H) :
    GFn2 P w K mg base (k + 1) f (PySem.W.fnOf name qual params body scope dV kV doc pm an cdv ct) ps sp := by
  refine ⟨len, fun A outer s H args us vs Q hr e0 hb r hsp => ?_⟩
  have hl := len _ _ _ _ hsp
  have kin : K.In s.heap := e0.mod.kin.keeps fun b o q => (e0.bs b o q).1
  have lim := e0.mod.nolimit.keeps fun b o q => (e0.bs b o q).1
  refine codeAny_call_generator hr.depth (kin _ _ lk) rfl Sc.co Sc.gen rfl (PySem.W.codeRec_of kin hcd) (hb _ _ _ _ (wpAny_newFunctionEnv_cells Sc.kind (fun y hy => ?_) fun env he s1 x => ?_))
  · exact (Sc.par y.1 (List.of_mem_zip hy).1).imp id fun q => ⟨q, PySem.W.cellsFrom_some _ _ _ (.inl q)⟩
  subst he
  have kp1 : ∀ b o, s.heap.get? b = some o → s1.heap.get? b = some o := x.toInCall.keep
  have lim1 : s1.heap.NoLimit := lim.keeps kp1
  refine ⟨lim1, ?_⟩
  obtain ⟨h1, tk, es1, _⟩ := x.done
  have os1 : s1.os = s.os := by rw [es1]
  have gen1 : s1.gens = s.gens := by rw [es1]
  have lt1 : s.heap.objs.size < s1.heap.objs.size := x.toInCall.ns.lt
  have fin : ∀ (go : Obj) (nm qn : Value) (tk2 : Nat), go.cls = .type "generator" → go.data = .fields #[.int s1.gens.size 0, nm, qn] → go.slots = #[] → (∀ h : Heap, (h.push go).get? h.objs.size = some go) →
      GM2 P w (k + 1) outer H s Q (.ref s1.heap.objs.size) { s1 with gens := s1.gens.push (.fresh (.func body (envOfC qual scope s.heap.objs.size f cdv))), toks := tk2, heap := s1.heap.push go } := by
    intro go nm qn tk2 hgc hgd hgs hgp
    have isg : ∀ h : Heap, h.get? s1.heap.objs.size = some go → h.IsGen s1.heap.objs.size s1.gens.size := fun h q => ⟨go, nm, qn, q, hgc, hgd, hgs⟩
    refine ⟨s1.heap.objs.size, s1.gens.size, _, rfl, Nat.le_of_lt lt1, ?_, isg _ (hgp _), Array.getElem?_push_size .., os1, .push (by rw [gen1]; exact e0.bare) rfl, lim1.keeps fun b o q => Heap.get?_push_of_some _ q, fun b o q => Heap.get?_push_of_some _ (kp1 b o q), ?_⟩
    · show s1.heap.objs.size < (Heap.push ..).objs.size
      rw [Heap.size_push]; exact Nat.lt_succ_self _
    intro Aw S C t hrw hfr hS hC hSC hk2 ⟨cS, eS⟩ hNC hos hba
    obtain ⟨oC, eC, nC⟩ : ∃ o, t.heap.get? C = some o ∧ NsO o := let ⟨m, z⟩ := hNC; nsO_of z
    have e0w : Env0 P w K mg base Aw outer s H := ⟨hfr, e0.mod, e0.bs, e0.bsz, e0.funs, e0.frf, e0.hok, e0.bare⟩
    let G : Cx := gcxOf P w K mg base N qual scope f cdv Aw outer s H (fun _ _ _ => False) [(s1.heap.objs.size, go)]
    obtain ⟨rd, ht, hq⟩ := hbody Aw outer s H vs Q [(s1.heap.objs.size, go)] (hrw.deeper _) hsp
    have I1 : Inv (gcxOf P w K mg base N qual scope f cdv Aw outer s H (fun _ _ _ => False) []) [] (start N vs) H s1 := inv_startG Sc hrw.hd e0w hl r x
    have kp2 : ∀ b o, s1.heap.get? b = some o → t.heap.get? b = some o := fun b o q => hk2 b o (Heap.get?_push_of_some _ q)
    have I2 : Inv (gcxOf P w K mg base N qual scope f cdv Aw outer s H (fun _ _ _ => False) []) [] (start N vs) H t :=
      I1.call' (ch := []) (hos.trans os1.symm) (Un.kept kp2) (I1.hok.kept kp2) hba fun b z => absurd z List.not_mem_nil
    have up : ∀ b, (s1.heap.push go).objs.size ≤ b → s1.heap.objs.size < b := fun b q => by rw [Heap.size_push] at q; exact q
    have lS := up S hS
    have lC := up C hC
    have hea : t.heap.get? s1.heap.objs.size = some go := hk2 _ go (hgp _)
    have young : ∀ b, s1.heap.objs.size ≤ b → H b = none ∧ b ≠ s.heap.objs.size ∧ b ∉ frs outer ∧ s.heap.objs.size ≤ b ∧ ∀ y c, (cellsFrom (s.heap.objs.size + 1) scope.names []).lookup y = some c → c ≠ b := fun b hb => by
      refine ⟨I1.hok.fresh hb, by omega, I1.nofs hb, by omega, fun y c q z => ?_⟩
      obtain ⟨_, ob, ho, _⟩ := I1.cell y c q
      have y1 := Heap.lt_size ho
      rw [z] at y1
      exact absurd (Nat.lt_of_lt_of_le y1 hb) (Nat.lt_irrefl _)
    have hG : GI2 G S C [] [] (start N vs) H t := by
      refine ⟨#[], cS, oC, nC, .nil, Inv.pinnedG I2 fun p hp => ?_⟩
      have hp : p = (s1.heap.objs.size, go) ∨ p = (S, lstObj #[] cS) ∨ p = (C, oC) := by simpa using hp
      rcases hp with rfl | rfl | rfl
      · obtain ⟨y1, y2, y3, _⟩ := young _ (Nat.le_refl _)
        exact ⟨hea, y1, y2, y3, fun v q => by rw [show go.data = _ from hgd] at q; cases q⟩
      · obtain ⟨y1, y2, y3, _⟩ := young S (Nat.le_of_lt lS)
        exact ⟨eS, y1, y2, y3, fun v q => nomatch q⟩
      · obtain ⟨y1, y2, y3, _⟩ := young C (Nat.le_of_lt lC)
        obtain ⟨es, ep, q0, _⟩ := nC
        exact ⟨eC, y1, y2, y3, fun v q => by rw [show oC.data = _ from q0] at q; cases q⟩
    have ap : ∀ b, s1.heap.objs.size < b → L2.Apart G b := fun b hb => by
      obtain ⟨_, y2, _, y4, y5⟩ := young b (Nat.le_of_lt hb)
      exact ⟨y4, y2, y5⟩
    have pn1 : ∀ b, s1.heap.objs.size < b → ∀ p ∈ G.pn, p.1 ≠ b := fun b hb p hp => by
      rw [List.mem_singleton.mp hp]
      exact Nat.ne_of_lt hb
    have got : ∀ {ys : List V} {ip : List (Addr × Obj)} {σ : L2.St} {H' : Hp} {t' : Shared}, GI2 G S C ip ys σ H' t' → t'.os = s.os ∧ AllBare t'.gens ∧ Un (frs outer) [] H H' s.heap t'.heap ∧ HOk P w H' t'.heap ∧ H' S = none ∧ H' C = none ∧
        (∃ (xs : Array Value) (c : Nat), t'.heap.get? S = some (lstObj xs c) ∧ Vals ys xs.toList) ∧ (∃ m, t'.heap.Ns C m) ∧ t'.heap.NoLimit ∧ t'.heap.IsGen s1.heap.objs.size s1.gens.size := fun {ys ip σ H' t'} hI => by
      obtain ⟨xs, c, o', n', r', J⟩ := hI
      have p1 := J.pin (S, lstObj xs c) (List.mem_append_right _ List.mem_cons_self)
      have p2 := J.pin (C, o') (List.mem_append_right _ (List.mem_cons_of_mem _ List.mem_cons_self))
      exact ⟨J.os, J.bare, J.base, J.hok, p1.2.1, p2.2.1, ⟨xs, c, p1.1, r'⟩, n'.ns p2.1, J.nolimit, isg _ (J.pin (s1.heap.objs.size, go) (List.mem_append_left _ (List.mem_singleton.mpr rfl))).1⟩
    refine seg_func (seg_imp (R := fun n s0 r t' => (r = .ok (.ret .none)) ∧ ∃ ys ip σ H', ys.length + n = sizeLine ∧ GI2 G S C ip ys σ H' t' ∧ Q ys H') (Y := GY2 G S C) (fun n s0 r t' hR => ?_) (fun n s0 v t' kap kap' hkk hY => ?_) sizeLine ?_)
    · obtain ⟨er, ys, ip, σ, H', hn, hI, hQ⟩ := hR
      obtain ⟨q1, q2, q3, q4, q5, q6, ⟨xs, c, q7, q8⟩, q9, _⟩ := got hI
      exact ⟨.inl er, H', ys, xs, c, q1, q2, q3, q4, q5, q6, q7, q9, q8, by omega, hQ⟩
    · obtain ⟨ys, y, ip, σ, H', hn, hI, rv, h3⟩ := hY
      obtain ⟨q1, q2, q3, q4, q5, q6, ⟨xs, c, q7, q8⟩, q9, q10, q11⟩ := got hI
      have hsz : xs.size = ys.length := by rw [q8.length]; simp
      exact ⟨q1, q2, q10, q11, ⟨xs, c, q7, by rw [hsz]; exact hn⟩, q9, fun t2 z => hkk _ _ (h3 t2 z)⟩
    · refine ht.run S C Aw [] _ _ [] _ _ id id t t (start N vs) H Q ⟨⟨pn1 S lS, fun p hp => absurd hp List.not_mem_nil, ap S lS, over_func, rfl, rfl, rfl⟩, ap C lC, fun p hp => pn1 C lC p (by simpa using hp), hSC⟩ (fun n s0 e t' hx => ?_) (fun n ys s0 t' σ H' hn hI hQ => ?_) hG hq
      · refine seg_wrap ?_
        rw [over_func]
        refine wpAny_mono (show wpAny (model P w) (Aw.deeper (envOfC qual scope s.heap.objs.size f cdv)) (leaving (envOfC qual scope s.heap.objs.size f cdv) e) (fun _ s2 => CX P w outer H s (fun _ _ _ => False) e s2 ∧ ∀ p ∈ [(s1.heap.objs.size, go)], s2.heap.get? p.1 = some p.2) (fun _ _ => False) t' from hx) (fun _ s2 q => ?_) fun _ s2 q => q.elim
        obtain ⟨⟨_, _, _, _, _, _, _, _, _, _, _, _, z⟩, _⟩ := q
        exact z.elim
      · exact seg_end (.ok (.ret .none)) ⟨rfl, ys, [], σ, H', hn, hI, hQ⟩
  exact fin _ _ _ _ rfl rfl rfl fun h => Heap.get?_push_size _ rfl
end
end DL

/-! DL36: [x for x in g(e, ..)]. -/
namespace DL
open PySem PySem.Spec PyProof.Rows L2 GenW
/-- the wish of a generator's body when all is out -/
abbrev outW (Q : List V → Hp → Prop) : GEnds := { nx := fun ys _ H' => Q ys H', rt := fun _ _ _ => False }
abbrev tGO (b : FGn) : TGB := fun Q σ H => tGL b (outW Q) [] σ H
section
variable {X : Cx} {st : Stmt} {rest : List Stmt} {a : FS} {b : FGn} {vs us : List Nat} {it : FI} {g : FG} {fe : FE}
theorem gb_seq (h1 : DS X st a) (h2 : GB X rest (tGO b)) : GB X (st :: rest) (tGO (fgSeq a b)) :=
  GB.imp (gb_cons h1 h2) fun Q σ H h => by
    obtain ⟨F, env, o, rep, e, k⟩ := gseq_imp _ _ _ _ h
    refine ⟨F, env, o, rep, e, ?_⟩
    cases o with
    | nx e1 => exact k
    | _ => simp only [tGL] at k; first | exact k | (exfalso; obtain ⟨_, F, env, out, rep, e, _⟩ := h; simp only [fgSeq, Option.bind_eq_some_iff] at e; obtain ⟨o, q1, q2⟩ := e; rw [e] at q1; cases q1; cases q2)
theorem gbf_imp (Q : List V → Hp → Prop) (σ : L2.St) (H : Hp) (h : tGO (fgFor vs it g fe) Q σ H) : tGB (tDI it) (tG us g) (tD fe) Q σ H := gfor_imp (us := us) _ _ _ _ h
theorem gb_forD {tg iter e : Expr} {pos yp ep : Pos} (hp : PassesOwn (model X.prog X.w) X.A X.env X.xe) (hc : X.calm = true) (hi : DI X tg iter it) (hg : DG X tg us g) (he : DE X e fe) (hco : X.env.scope.isCoroutine = false := by rfl) (hq : interactive X.env = false := by rfl)
    (hs : ∀ x, foldedSetIterable iter X.env x = pure x := by intro _; rfl) : GB X [.For tg iter [.Expr (.Yield (some e) yp) ep] [] pos] (tGO (fgFor vs it g fe)) :=
  GB.imp (gb_for hp hc hi hg he hco hq hs) gbf_imp
end
section
variable {P : Program} {w : World} {K : PySem.W.Frag} {mg : Str → Option Value} {base : Heap}
theorem gfn2_ok {x qual : Str} {params : Arguments} {body : List Stmt} {scope : Scope} {f : Addr} {fd : FuncData} {N ps : List Str} {k : Nat} {g : FGn} (F : FunD K x qual params body scope [] [] f fd) (S : GScope N ps scope)
    (hb : ∀ (cdv : Value) (A : Around) (outer : List PySem.Env) (s : Shared) (H : Hp) (E : XK) (pn : List (Addr × Obj)), Room k (A.deeper (envOfC qual scope s.heap.objs.size f cdv)) → GB (gcxOf P w K mg base N qual scope f cdv A outer s H E pn) body (tGO g)) :
    GFn2 P w K mg base (k + 1) f fd ps (spGD ps.length (runG ps.length N.length g)) := by
  obtain ⟨oc, od, dV, kV, doc, pm, an, cdv, ct, osl, rfl, lk, hcd, _, _⟩ := F.ex
  refine gfn2_of lk hcd S (fun vs H Q E h => ?_) fun A outer s H vs Q pn hr h => ⟨tGO g, hb cdv A outer s H _ pn hr, ?_⟩
  · obtain ⟨_, ds, out, _, hs, hn, _⟩ := h
    exact hs.length.trans hn
  · obtain ⟨F, ds, out, sm, hs, hn, e, k⟩ := h
    unfold runG at e
    rw [if_pos hn, ← hn] at e
    refine ⟨rfl, F, _, out, rep_start sm hs, e, fun us F' H' σ' env' g' rep' hd => k us F' H' ⟨g'.fz, rep'.sub, fun b o => g'.frame b o (own_start b), fun b hb => ?_⟩ hd⟩
    exact (g'.fresh b hb).elim .inl fun z => z.elim .inr fun q => absurd q (own_start b)
/-- such a def by its name -/
structure CalG2 (P : Program) (w : World) (K : PySem.W.Frag) (mg : Str → Option Value) (base : Heap) (k : Nat) (x : Str) (n : Nat) (R : FnG) : Prop where
  ex : ∃ f fd ps, GFn2 P w K mg base k f fd ps (spGD n R) ∧ mg x = some (.ref f) ∧ PySem.W.keepIn K (.ref f) = true ∧ Binds K fd ps []
theorem CalG2.mk' {k n : Nat} {x : Str} {R : FnG} {f : Addr} {fd : FuncData} {ps : List Str} {qual : Str} {params body scope} (F : FunD K x qual params body scope [] [] f fd) (ok : GFn2 P w K mg base k f fd ps (spGD n R)) (hm : mg x = some (.ref f)) (hb : Binds K fd ps []) : CalG2 P w K mg base k x n R := ⟨f, fd, ps, ok, hm, F.kp, hb⟩
end
section
variable {X : Cx} {k n : Nat} {x y : Str} {R : FnG} {e : Expr} {es : List Expr} {g : FA} {p1 p2 p3 pos pos2 : Pos} {scope : Scope}
theorem de_compG (C : CalG2 X.prog X.w X.K X.mg X.base k x n R) (hr : Room (k + 1) X.A) (hg : Gl X x) (ha : DA X (e :: es) g) (hk : scope.kind = .function) (hy : scope.names.lookup y = some .local) (hN : ∀ z ∈ scope.names, z.2 = .local ∧ scope.names.lookup z.1 = some .local)
    (hdb : (x == ("__debug__" : Str)) = false := by decide) (hdy : (y == ("__debug__" : Str)) = false := by decide)
    (he : starEach (e :: es) X.env = (false, eval e X.env) :: starEach es X.env := by rfl) (hpl : (backTo pos2 (starEach es X.env)).any (·.1) = false := by rfl)
    (hs : ∀ v, foldedSetIterable (.Call (.Name x p3) (e :: es) [] pos2) X.env v = pure v := by intro _; rfl) :
    DE X (.ListComp (.Name y p1) [⟨.Name y p2, .Call (.Name x p3) (e :: es) [] pos2, [], 0⟩] scope pos) (fListCall n R g) := by
  obtain ⟨f, fd, ps, ok, hm, hkp, hb⟩ := C.ex
  refine PE.imp (t := tListG (tCallG (spGD n R) [] noE (tDA g))) ⟨fun pins s σ H Q I h => ?_⟩ fun σ H Q h => ?_
  · rw [eval_ListComp]
    refine wpAny_comprehension_free rfl hs (closure_ok fun z hz q => by rw [(hN z hz).1] at q; cases q) hk (fun z hz _ => (hN z hz).2) (wpAny_Call_Name_kw (ld_glob I hg hm ?_ hdb))
    refine PySem.W.callWith_K (h₀ := X.base) I.ok.mod.kin hkp (thn (ha.run pos2 pins s σ H _ I h) fun us s1 ⟨vs, H1, I1, r, q⟩ => ⟨I1.kIn, ?_⟩) he hpl
    have hl2 : us.length = ps.length := by
      rw [← r.length]
      have := ok.len _ _ _ _ q
      simpa using this
    have q' : spGD n R vs H1 (fun out H2 => ∀ (p : Addr), H2 p = none → Q (.ref p) (upd H2 p (.lst out))) noE := by
      have z := q
      simp only [List.append_nil] at z
      exact z
    have hb1 := hb s1 us I1.kIn (by simpa using hl2)
    rw [List.append_nil] at hb1
    refine wpAny_call (codeAny_mono (ok.run X.A X.stack s1 H1 ⟨us, []⟩ us vs _ (hr.mono (by omega)) I1.env0 hb1 r q') fun rr s2 hq => ?_)
    cases rr with
    | error _ => exact hq.elim
    | ok fl =>
    cases fl with
    | next => exact hq.elim
    | brk => exact hq.elim
    | cont => exact hq.elim
    | ret u =>
    obtain ⟨a, gn, c, rfl, ha1, ha2, hgen, hgs, os2, bar2, lim2, kp2, wake⟩ := hq
    refine wpAny_pyIter_gen hgen ?_
    refine wpAny_newObj_type (newEnv_comp ?_) (by show 0 ≤ sizeLine; decide)
    generalize hD : s2.heap.objs.size = D
    generalize hs3 : ({ s2 with heap := s2.heap.push { cls := .type "list", data := .seq ([] : List Value).toArray } } : Shared) = s3
    have up23 : ∀ b o, s2.heap.get? b = some o → s3.heap.get? b = some o := fun b o z => by rw [← hs3]; exact Heap.get?_push_of_some _ z
    have eD3 : s3.heap.get? D = some (lstObj #[] 0) := by rw [← hs3, ← hD]; exact Heap.get?_push_size _ rfl
    have lD3 : D < s3.heap.objs.size := Heap.lt_size eD3
    generalize hC : s3.heap.objs.size = Cn at lD3
    have os3 : s3.os = s2.os := by rw [← hs3]
    have gn3 : s3.gens = s2.gens := by rw [← hs3]
    show codeAny _ _ (.compStart _ 0 (.ref a) (.ref D) (compEnvC scope (cellsFrom (Cn + 1) scope.names (cloFrom X.env.cells scope.names [])) Cn X.env)) (compPost (model X.prog X.w) X.A X.xe none (EP X pins σ Q) (.ref D) Cn) { s3 with heap := pushCells (s3.heap.push { cls := .type "dict", data := .dict #[] }) scope.names }
    generalize hce : compEnvC scope (cellsFrom (Cn + 1) scope.names (cloFrom X.env.cells scope.names [])) Cn X.env = ce
    have cL : ce.locals = Cn := by subst hce; rfl
    have cK : ce.scope.kind = .function := by subst hce; exact hk
    have cY : ce.kindOf y = some .local := by subst hce; exact lookup_relS_keep nofun hy
    generalize hs4 : ({ s3 with heap := pushCells (s3.heap.push { cls := .type "dict", data := .dict #[] }) scope.names } : Shared) = s4
    have up34 : ∀ b o, s3.heap.get? b = some o → s4.heap.get? b = some o := fun b o z => by rw [← hs4]; exact pushCells_keeps _ _ _ _ (Heap.get?_push_of_some _ z)
    have nC4 : s4.heap.Ns Cn fun _ => none := by
      rw [← hs4, ← hC]
      exact (Heap.Ns.new s3.heap (.type "dict")).keeps fun b o z => pushCells_keeps _ _ _ _ z
    have up24 : ∀ b o, s2.heap.get? b = some o → s4.heap.get? b = some o := fun b o z => up34 b o (up23 b o z)
    have os4 : s4.os = s2.os := by rw [← hs4]; exact os3
    have gn4 : s4.gens = s2.gens := by rw [← hs4]; exact gn3
    have szD : s2.heap.objs.size ≤ D := Nat.le_of_eq hD
    have szC : s2.heap.objs.size ≤ Cn := Nat.le_trans szD (Nat.le_of_lt lD3)
    have aD : a ≠ D := Nat.ne_of_lt (Nat.lt_of_lt_of_le ha2 szD)
    have aC : a ≠ Cn := Nat.ne_of_lt (Nat.lt_of_lt_of_le ha2 szC)
    have DC : D ≠ Cn := Nat.ne_of_lt lD3
    have stat : cStatics < s2.heap.objs.size := let ⟨_, z, _⟩ := lim2; z.lt
    let RR : GenEnd := fun n s0 r t => ((r = .ok (.ret .none) ∨ r = .ok .next) ∧ (∃ G ys xs c, t.os = s1.os ∧ AllBare t.gens ∧ Un (frs X.stack) [] H1 G s1.heap t.heap ∧ HOk X.prog X.w G t.heap ∧ G D = none ∧ G Cn = none ∧ t.heap.get? D = some (lstObj xs c) ∧ (∃ m, t.heap.Ns Cn m) ∧ Vals ys xs.toList ∧ ys.length ≤ sizeLine ∧
      ∀ (p : Addr), G p = none → Q (.ref p) (upd G p (.lst ys)))) ∨ ∃ e, r = .error e ∧ False
    have first : Seg (model X.prog X.w) X.A.in1 RR (YI2 s1 D Cn a gn) sizeLine (s4.setGen gn .running) c ((model X.prog X.w).den c) [] (s4.setGen gn .running) :=
      seg_imp (fun n s0 r t z => .inl z) (fun n s0 v t kap kap' hkk z => ⟨z.1, z.2.1, z.2.2.1, z.2.2.2.1, z.2.2.2.2.1, z.2.2.2.2.2.1, fun t' q => hkk _ _ (z.2.2.2.2.2.2 t' q)⟩) sizeLine
        (wake X.A.in1 D Cn (s4.setGen gn .running) ⟨hr.hd, by have := hr.dp; show X.A.depth + 3 * k + 5 < _; omega, by have := hr.un; show X.A.units + 1 + 16 * k + 200 < _; omega⟩ I1.ok.frames szD szC DC up24 ⟨_, up34 D _ eD3⟩ ⟨_, nC4⟩ (os4.trans os2) (allBare_setGen (by rw [gn4]; exact bar2) rfl))
    let Turn : Nat → Shared → Prop := fun m t => t.heap.IsGen a gn ∧ t.heap.NoLimit ∧ ∃ gs, t.gens[gn]? = some gs ∧ gs.Goes (model X.prog X.w) X.A.in1 RR (YI2 s1 D Cn a gn) m (.send .none) (t.setGen gn .running)
    have loop : codeAny (model X.prog X.w) X.A (.compLoop (.ListComp (.Name y p1) [⟨.Name y p2, .Call (.Name x p3) (e :: es) [] pos2, [], 0⟩] scope pos) 0 (.ref a) (.ref D) ce) (compPost (model X.prog X.w) X.A X.xe none (EP X pins σ Q) (.ref D) Cn) s4 := by
      refine compLoop_any Turn ?_ sizeLine ⟨hgen.keeps up24, lim2.keeps up24, .fresh c, by rw [gn4]; exact hgs, rfl, first⟩
      rintro m t ⟨hg1, hl1, gs, hgs1, hgo⟩
      have hgl : gn < t.gens.size := (Array.getElem?_eq_some_iff.mp hgs1).1
      refine wpAny_gsz (n := gn + 1) hgl (next_genG hr.hd hl1 (by have := hr.dp; omega) hg1 hgs1 hgo (fun v t1 gs' hbare hv => ?_) (fun t1 hp h' hk' => ?_) fun e t1 he => he.elim)
      · intro hsz
        obtain ⟨q1, q2, q3, q4, ⟨xs, cx, q5, q6⟩, ⟨mC, q7⟩, q8⟩ := hv
        have hsz1 : gn < t1.gens.size := by
          have z : (t1.setGen gn gs').gens.size = t1.gens.size := setGen_size _ _ _
          have z2 : gn + 1 ≤ (t1.setGen gn gs').gens.size := hsz
          omega
        obtain ⟨og, nm, qn, eg, cg, dg, sg⟩ := id q4
        refine go_of (s := t1.setGen gn gs') eg cg dg (by decide) ?_
        have nC1 : (t1.setGen gn gs').heap.Ns ce.locals mC := by rw [cL]; exact q7
        refine wpAny_assign_Name (wpAny_storeName_local cY nC1 (fun h5 n5 sb5 => ?_) (by rw [cK]; rfl))
        rw [cL] at sb5
        refine wpAny_tests_nil ?_
        rw [if_pos rfl]
        refine wpAny_Name (wpAny_loadName_local cK cY n5 (by rw [if_pos rfl]) ?_) hdy
        have e5 : h5.get? D = some (lstObj xs cx) := (sb5.2 D DC).trans q5
        have h0 : t1.heap.get? a = some og := eg
        cases m with
        | zero =>
          exfalso
          refine q8 { t1 with heap := h5.update D (Obj.mapSeq (·.push v)) } ⟨rfl, q2, fun b o z1 z2 z3 => ?_, fun xs' c' z => ?_, ?_⟩
          · exact (Heap.get?_update_other _ _ z1.symm).trans ((sb5.2 b z2).trans z3)
          · rw [q5] at z
            cases z
            exact ⟨_, Heap.get?_update_self _ e5 rfl⟩
          · have z := n5
            rw [cL] at z
            obtain ⟨o, zo, no⟩ := nsO_of z
            exact ⟨o, (Heap.get?_update_other _ _ DC).trans zo, no⟩
        | succ m =>
          have hxs : xs.size ≤ sizeLine := by omega
          refine append_at (s := { (t1.setGen gn gs') with heap := h5, toks := _ }) e5 (fun h6 sb6 e6 => ⟨m, Nat.lt_succ_self m, ?_⟩) hxs
          have k16 : ∀ b o, b ≠ D → b ≠ Cn → t1.heap.get? b = some o → h6.get? b = some o := fun b o z1 z2 z => (sb6.2 b z1).trans ((sb5.2 b z2).trans z)
          refine ⟨⟨og, nm, qn, k16 a og aD aC eg, cg, dg, sg⟩, ?_, gs', setGen_at hsz1, ?_⟩
          · obtain ⟨mc, ⟨o, es0, ep0, z, zr⟩, hn⟩ := q3
            exact ⟨mc, ⟨o, es0, ep0, k16 _ o (Nat.ne_of_lt (Nat.lt_of_lt_of_le stat szD)) (Nat.ne_of_lt (Nat.lt_of_lt_of_le stat szC)) z, zr⟩, hn⟩
          · refine q8 _ ⟨rfl, allBare_setGen (s := t1.setGen gn gs') (allBare_setGen q2 hbare) rfl, k16, fun xs' c' z => ?_, ?_⟩
            · rw [q5] at z
              cases z
              exact ⟨_, e6⟩
            · have z := n5
              rw [cL] at z
              obtain ⟨o, zo, no⟩ := nsO_of z
              exact ⟨o, (sb6.2 Cn DC.symm).trans zo, no⟩
      · intro hsz
        obtain ⟨G, ys, xs, cx, q1, q2, q3, q4, q5, q6, q7, ⟨mC, q8⟩, q9, q10, q11⟩ := hp
        have k2 : ∀ b o, t1.heap.get? b = some o → h'.get? b = some o := hk'
        refine ⟨mC, q8.keeps k2, fun h6 sb6 => ?_⟩
        have un : Un (frs X.stack) [] H1 G s1.heap h' := q3.trans (Un.kept k2)
        have sz1 : s1.heap.objs.size ≤ D := Nat.le_trans ha1 (Nat.le_trans (Nat.le_of_lt ha2) szD)
        have I7 : Inv X pins σ (upd G D (.lst ys)) { t1.setGen gn .finished with heap := h' } :=
          I1.drained (s' := { t1.setGen gn .finished with heap := h' }) sz1 q10 (k2 _ _ q7) q9 ExOk.nil q1 (allBare_setGen q2 rfl) un (q4.kept k2) q5
        obtain ⟨e0, e1, e3, e4, e5, e6⟩ := I1.fpOk (b := Cn) (Nat.le_trans sz1 (Nat.le_of_lt lD3)) (H' := upd G D (.lst ys)) (by rw [upd_ne DC.symm]; exact q6)
        exact ⟨.ref D, _, I7.turned (fun b o hb z => (sb6.2 b hb).trans z) e0 e1 e4 e5 e6, rfl, q11 D q5⟩
    exact codeAny_compStart_list loop (wpAny_pyIter_gen (hgen.keeps up24) loop)
  · obtain ⟨F, env, r, env', rep, e, kk⟩ := h
    simp only [fListCall, Option.bind_eq_some_iff] at e
    obtain ⟨⟨ds, e1⟩, h1, h2⟩ := e
    simp only at h2
    split at h2
    · rename_i hn
      simp only [Option.map_eq_some_iff] at h2
      obtain ⟨out, hz, h3⟩ := h2
      cases h3
      refine ⟨F, env, ds, env', rep, h1, fun vs F1 H1 g1 rep1 hds => ⟨F1, ds, out, rep1.sub, by rw [List.append_nil]; exact hds, hn, hz, fun us F' H' ex hd q hq => ?_⟩⟩
      exact (g1.ret rep1 kk) (.ref q) F' (upd H' q (.lst us)) ⟨ex.fz, ex.sub.trans (same_new hq), ex.hs.trans (same_new hq), ex.fresh⟩ (.new rfl (ex.hs.free hq) (ex.sub.free hq) upd_same hd)
    · cases h2
end
end DL

/-! DL45: what printed derivations about classes name. -/
namespace DL
open PySem PySem.Spec PyProof.Rows L2
section
variable {P : Program} {w : World} {K : PySem.W.Frag} {mg : Str → Option Value} {base : Heap}
theorem CalP.mono {j k : Nat} {x : Str} {G : Addr → Addr → Sp} (c : CalP P w K mg base j x G) (h : j ≤ k) : CalP P w K mg base k x G := by
  obtain ⟨f, fd, ps, F, r⟩ := c
  exact ⟨f, fd, ps, ⟨F.len, fun A outer s H args us vs Q E p D hr => F.run A outer s H args us vs Q E p D (hr.mono h)⟩, r⟩
/-- bound: one parameter, then the others as a tuple -/
theorem FunD.star1 {x qual : Str} {params : Arguments} {body : List Stmt} {scope : Scope} {f : Addr} {fd : FuncData} {p1 pv : Str} (F : FunD K x qual params body scope [] [] f fd)
    (h : ∀ (kV doc pm : Value) (an : Option Addr) (cdv ct : Value) (us rest : List Value), us.length = 1 → bindArgs (PySem.W.fnOf x qual params body scope .none kV doc pm an cdv ct) ⟨us ++ rest, []⟩ = (newTuple rest >>= fun t => pure (([p1] : List Str).zip us ++ [(pv, t)]))) :
    ∀ us rest : List Value, us.length = 1 → bindArgs fd ⟨us ++ rest, []⟩ = (newTuple rest >>= fun t => pure (([p1] : List Str).zip us ++ [(pv, t)])) := by
  obtain ⟨oc, od, dV, kV, doc, pm, an, cdv, ct, osl, rfl, _, _, hd, _⟩ := F.ex
  rcases hd with ⟨_, e⟩ | ⟨e, _⟩
  · subst e
    exact h kV doc pm an cdv ct
  · exact absurd rfl e
/-- a def whose own exceptions leave it -/
theorem fnX_okT {x qual : Str} {params : Arguments} {body : List Stmt} {scope : Scope} {f : Addr} {fd : FuncData} {N ps : List Str} {k : Nat} {g : FSX} (F : FunD K x qual params body scope [] [] f fd) (S : FnScope N ps scope)
    (hb : ∀ (cdv : Value) (A : Around) (outer : List PySem.Env) (s : Shared) (H : Hp) (E : XK), Room k (A.deeper (envOfC qual scope s.heap.objs.size f cdv)) → L2N.Takes (cxOf (L2N.CX P w) P w K mg base N qual scope f cdv A outer s H E) (fun cls d _ H => E cls d H) →
      Passes (L2N.CX P w) (cxOf (L2N.CX P w) P w K mg base N qual scope f cdv A outer s H E) E → PSs (cxOf (L2N.CX P w) P w K mg base N qual scope f cdv A outer s H E) body (tSX K E g)) :
    FnOk P w K mg base (L2N.CX P w) (k + 1) f fd ps (spX K ps.length (runX ps.length N.length g)) :=
  fnX_ok F S fun cdv A outer s H E hr => by
    have tk : L2N.Takes (cxOf (L2N.CX P w) P w K mg base N qual scope f cdv A outer s H E) fun cls d _ H => E cls d H := L2N.takes_of rfl rfl rfl rfl
    exact hb cdv A outer s H E hr tk (L2N.passes_call tk fun _ _ _ _ z => z)
/-- a property's getter -/
abbrev PropX (P : Program) (w : World) (K : PySem.W.Frag) (mg : Str → Option Value) (base : Heap) (k : Nat) (g : Addr) (R : Fn) : Prop := ∃ fd, FnOk P w K mg base CX0 k g fd ["self"] (spD 1 R) ∧ Binds K fd ["self"] []
end
section
variable {X : Cx} {E : XK} {C g pr : Addr} {k : Nat} {R : Fn} {e : Expr} {fa : FE} {fx : FEX} {f : Str} {pos : Pos}
theorem de_propE (cl : Cls X.K C) (hp : PropOf X.K C f pr g) (M : PropX X.prog X.w X.K X.mg X.base k g R) (hr : Room (k + 1) X.A) (he : DE X e fa) (hab : attributeBase e f X.env (eval e X.env) = eval e X.env := by rfl) : DE X (.Attribute e f pos) (fUn (opSelf C R) fa) := by
  obtain ⟨fd, ok, hb⟩ := M
  exact de_prop cl hp ok hr hb he hab
theorem dex_propE (cl : Cls X.K C) (hp : PropOf X.K C f pr g) (M : PropX X.prog X.w X.K X.mg X.base k g R) (hr : Room (k + 1) X.A) (he : DEX X E e fx) (hab : attributeBase e f X.env (eval e X.env) = eval e X.env := by rfl) : DEX X E (.Attribute e f pos) (fPropX C R fx) := by
  obtain ⟨fd, ok, hb⟩ := M
  exact dex_prop cl hp ok hr hb he hab
end
section
variable {X : Cx} {es : List Expr} {us : List Nat} {gs : FGs} {pos : Pos}
theorem dg_tupH {k n : Nat} (hot : HotB X) (h : DGs X es us gs) (hn : (assignEach es X.env).length = n := by rfl) (hst : (assignEach es X.env).findIdx? (·.1) = none := by rfl) (hl : ∀ ds env env', gs ds env = some env' → ds.length = n) : DG X (.Tuple es k pos) us (fgTup gs) :=
  PG.imp (pg_tupH hot h hn hst) fun v σ H Q z => by
    obtain ⟨F, env, d, env', rep, hd, e, kk⟩ := z
    cases d with
    | tuple ds =>
      cases hd with
      | tup hp hs => exact ⟨_, _, rfl, .of (rep.sub _ _ hp), hs.length.trans (hl _ _ _ e), F, env, ds, env', rep, hs, e, kk⟩
    | _ => cases e
end
end DL

namespace K15
open PySem PySem.Spec PyProof.Rows L2 GenW DL RP
def topS (i : Nat) : Stmt := PySem.Challenge.pw_rectopages_k15_books_that_are_made.main.body.getD i (.Pass ⟨0, 0, 0, 0⟩)
def clsS (i j : Nat) : Stmt := match topS i with
  | .ClassDef _ _ _ body .. => body.getD j (.Pass ⟨0, 0, 0, 0⟩)
  | _ => .Pass ⟨0, 0, 0, 0⟩
structure Txt (K : PySem.W.Frag) (mg : Str → Option Value) : Prop where
  len : mg "len" = none
  isinstance : mg "isinstance" = none
  int : mg "int" = none
  bool : mg "bool" = none
  tuple : mg "tuple" = none
  str : mg "str" = none
  all : mg "all" = none
  list : mg "list" = none
  range : mg "range" = none
  min : mg "min" = none
  c_MOST_PAGES : ∃ t, mg "MOST_PAGES" = some (.int 999 t)
  c_MOST_PARTS : ∃ t, mg "MOST_PARTS" = some (.int 30 t)
  g_Book : mg "Book" = some (.ref (He.ga K "Book"))
  g_BookError : mg "BookError" = some (.ref (He.ga K "BookError"))
  g_InvalidPart : mg "InvalidPart" = some (.ref (He.ga K "InvalidPart"))
  g_InvalidIndex : mg "InvalidIndex" = some (.ref (He.ga K "InvalidIndex"))
  g_InvalidPage : mg "InvalidPage" = some (.ref (He.ga K "InvalidPage"))
  g_TooMany : mg "TooMany" = some (.ref (He.ga K "TooMany"))
  g_NothingToUndo : mg "NothingToUndo" = some (.ref (He.ga K "NothingToUndo"))
  x_InvalidPart : (He.Fa.exc "InvalidPart").ok K = true
  x_InvalidIndex : (He.Fa.exc "InvalidIndex").ok K = true
  x_InvalidPage : (He.Fa.exc "InvalidPage").ok K = true
  x_TooMany : (He.Fa.exc "TooMany").ok K = true
  x_NothingToUndo : (He.Fa.exc "NothingToUndo").ok K = true
  c_SIDES : TupAt K mg "SIDES" ["right", "left", "any"]
  B : BookF K (He.ga K "Book")
  err : ErrC K "BookError"
  p_parts : PropOf K (He.ga K "Book") "parts" (He.ma K (He.ga K "Book") "parts") (recAt "property" "Book" "parts" K)
  m_chapters : ClX.CMet K (He.ga K "Book") (.type "type") "chapters" (He.ma K (He.ga K "Book") "chapters") (recAt "classmethod" "Book" "chapters" K)
section
variable {P : Program} {w : World} {K : PySem.W.Frag} {mg : Str → Option Value} {base : Heap}
abbrev s__law_draw : Stmt := topS 25
theorem sc__law_draw : FnScope ["tape", "many", "prime", "cell", "found"] ["tape", "many"] (defScope s__law_draw) := ⟨rfl, rfl, rfl, by decide +kernel, rfl, by decide +kernel, by decide +kernel⟩
theorem ok__law_draw (T : Txt K mg) {f : Addr} {fd : FuncData} (F : FunD K "_law_draw" "_law_draw" (defArgs s__law_draw) (defBody s__law_draw) (defScope s__law_draw) [] [] f fd) : FnOk P w K mg base CX0 1 f fd ["tape", "many"] (spT 2 _law_draw_F) :=
  fn_okT F sc__law_draw fun cdv A outer s H E hr => by
    have nd := sc__law_draw.nd
    exact (db_cons (ds_name 2 nd de_int)
    (db_cons (ds_if (dt_cmp o_lt (de_ix (de_name 0) de_int (fun _ _ => rfl)) (de_name 1) (nomark _)) (db_cons (ds_name 3 nd de_int)
    (db_cons (ds_if (dt_cmp o_gt (de_b1 b_len (by rfl) T.len bo_len (de_ix (de_name 0) de_int (fun _ _ => rfl))) de_int (nomark _)) (db_one (ds_name 3 nd (de_ix (de_ix (de_name 0) de_int (fun _ _ => rfl)) (de_bin o_mod (de_ix (de_name 0) de_int (fun _ _ => rfl)) (de_b1 b_len (by rfl) T.len bo_len (de_ix (de_name 0) de_int (fun _ _ => rfl)))) (fun _ _ => rfl)))) db_nil)
    (db_cons (ds_if (dt_w (dw_or (dt_cmp o_ge (de_ix (de_name 0) de_int (fun _ _ => rfl)) (de_b1 b_len (by rfl) T.len bo_len (de_ix (de_name 0) de_int (fun _ _ => rfl))) (nomark _)) (dw_or1 (dt_cmp o_lt (de_name 3) (de_bin o_pow de_int de_int) (nomark _))))) (db_cons (ds_name 3 nd (de_bin o_mod (de_bin o_add (de_name 3) (de_bin o_mul de_int (de_ix (de_name 0) de_int (fun _ _ => rfl)))) (de_name 2)))
    (db_cons (ds_name 3 nd (de_bin o_mod (de_bin o_add (de_bin o_add (de_bin o_mul (de_name 3) (de_name 3)) (de_bin o_mul de_int (de_name 3))) de_int) (de_name 2)))
    (db_one (ds_name 3 nd (de_bin o_mod (de_bin o_add (de_bin o_mul (de_name 3) (de_name 3)) de_int) (de_name 2)))))) db_nil)
    (db_cons (ds_put 0 de_int (de_bin o_add (de_ix (de_name 0) de_int (fun _ _ => rfl)) de_int) (pv 0))
    (db_one (ds_put 0 de_int (de_name 3) (pv 0))))))) db_nil)
    (db_cons (ds_name 4 nd (de_bin o_mod (de_ix (de_name 0) de_int (fun _ _ => rfl)) (de_name 1)))
    (db_cons (ds_put 0 de_int (de_bin o_fdiv (de_ix (de_name 0) de_int (fun _ _ => rfl)) (de_name 1)) (pv 0))
    (db_one (ds_ret (de_name 4)))))))
abbrev s_is_integer : Stmt := topS 5
theorem sc_is_integer : FnScope ["value", "low", "high"] ["value", "low", "high"] (defScope s_is_integer) := ⟨rfl, rfl, rfl, by decide +kernel, rfl, by decide +kernel, by decide +kernel⟩
theorem ok_is_integer (T : Txt K mg) {f : Addr} {fd : FuncData} (F : FunD K "is_integer" "is_integer" (defArgs s_is_integer) (defBody s_is_integer) (defScope s_is_integer) [] [] f fd) : FnOk P w K mg base CX0 1 f fd ["value", "low", "high"] (spD 3 is_integer_F) :=
  fn_ok F sc_is_integer fun cdv A outer s H E hr => by
    have nd := sc_is_integer.nd
    exact (db_one (ds_ret (de_and (de_isi (by rfl) T.isinstance (by rfl) T.int bo_int (by decide +kernel) (de_name 0)) (de_and (de_not (de_isi (by rfl) T.isinstance (by rfl) T.bool bo_bool (by decide +kernel) (de_name 0))) (de_one (de_chain cmp_le o_le o_le (de_name 1) (de_name 0) (de_name 2)))))))
abbrev s_is_part : Stmt := topS 6
theorem sc_is_part : FnScope ["value"] ["value"] (defScope s_is_part) := ⟨rfl, rfl, rfl, by decide +kernel, rfl, by decide +kernel, by decide +kernel⟩
theorem ok_is_part (T : Txt K mg) {f : Addr} {fd : FuncData} (F : FunD K "is_part" "is_part" (defArgs s_is_part) (defBody s_is_part) (defScope s_is_part) [] [] f fd) (C_is_integer : CalD P w K mg base 1 "is_integer" 3 is_integer_F) : FnOk P w K mg base CX0 2 f fd ["value"] (spD 1 is_part_F) :=
  fn_ok F sc_is_part fun cdv A outer s H E hr => by
    have nd := sc_is_part.nd
    exact (db_cons (ds_if (dt_w (dw_or (dt_not (dt_val (de_isi (by rfl) T.isinstance (by rfl) T.tuple bo_tuple (by decide +kernel) (de_name 0)))) (dw_or (dt_cmp (o_ne hr.units) (de_b1 b_len (by rfl) T.len bo_len (de_name 0)) de_int (nomark _)) (dw_or1 (dt_not (dt_val (de_isi (by rfl) T.isinstance (by rfl) T.str bo_str (by decide +kernel) (de_ix (de_name 0) de_int (fun _ _ => rfl))))))))) (db_one (ds_ret de_bool)) db_nil)
    (db_one (ds_ret (de_and (de_inK (ys := ["right", "left", "any"]) (by rfl) T.c_SIDES (de_ix (de_name 0) de_int (fun _ _ => rfl)) (by rfl)) (de_one (de_callD C_is_integer (hr.mono (by decide)) (by rfl) (da_cons (de_ix (de_name 0) de_int (fun _ _ => rfl)) (da_cons de_int (da_cons (de_globI (by rfl) T.c_MOST_PAGES) da_nil)))))))))
abbrev s_Book_init : Stmt := clsS 23 1
theorem sc_Book_init : FnScope ["self", "parts", "part"] ["self", "parts"] (defScope s_Book_init) := ⟨rfl, rfl, rfl, by decide +kernel, rfl, by decide +kernel, by decide +kernel⟩
theorem ok_Book_init (T : Txt K mg) (C_is_part : CalD P w K mg base 2 "is_part" 1 is_part_F) {f : Addr} {fd : FuncData} (F : FunD K "__init__" "Book.__init__" (defArgs s_Book_init) (defBody s_Book_init) (defScope s_Book_init) [] [] f fd) : FnR P w K mg base (L2N.CX P w) 3 f (spInit K (He.ga K "Book") (Book_init_F (He.ga K "Book"))) :=
  init_star F sc_Book_init (DL.FunD.star1 F fun _ _ _ _ _ _ => StX.bind_star1 (B := fun us => bindArgs _ ⟨us, []⟩) (fun _ => rfl) fun _ _ _ => rfl) T.B.cl T.B.nf fun cdv A outer s H E hr => by
    have nd := sc_Book_init.nd
    exact ⟨⟨(dt_not (dt_val (de_b1 (b_all rfl) (by rfl) T.all bo_all (de_comp [("part", 2)] rfl nd (di_seq (de_name 1)) (blkOk_by (by first | decide +kernel | rfl)) (by decide) (fun _ _ _ _ _ => (dg_name 2 nd)) (fun _ _ _ _ _ => pts_yes) (fun _ _ _ _ _ => (de_callD C_is_part (hr.mono (by decide)) (by rfl) (da_cons (de_name 2) da_nil))))))), pmk_at T.x_InvalidPart T.g_InvalidPart (by rfl)⟩, ⟨(dt_cmp o_gt (de_b1 b_len (by rfl) T.len bo_len (de_name 1)) (de_globI (by rfl) T.c_MOST_PARTS) (nomark _)), pmk_at T.x_TooMany T.g_TooMany (by rfl)⟩, pv 0, pv 1, rfl⟩
abbrev s_Book_add : Stmt := clsS 23 11
theorem sc_Book_add : FnScope ["self", "other"] ["self", "other"] (defScope s_Book_add) := ⟨rfl, rfl, rfl, by decide +kernel, rfl, by decide +kernel, by decide +kernel⟩
theorem ok_Book_add (T : Txt K mg) (M_Book_init : FnR P w K mg base (L2N.CX P w) 3 (He.ma K (He.ga K "Book") "__init__") (spInit K (He.ga K "Book") (Book_init_F (He.ga K "Book")))) {f : Addr} {fd : FuncData} (F : FunD K "__add__" "Book.__add__" (defArgs s_Book_add) (defBody s_Book_add) (defScope s_Book_add) [] [] f fd) : FnOk P w K mg base (L2N.CX P w) 6 f fd ["self", "other"] (spX K 2 (Book_add_F (He.ga K "Book"))) :=
  fnX_okT F sc_Book_add fun cdv A outer s H E hr tk hx => by
    have nd := sc_Book_add.nd
    exact (dx_last (dx_ret (dex_mkS ⟨T.B.mkr, M_Book_init⟩ (hr.mono (by decide)) hx (by rfl) T.g_Book (da_star (de_fld T.B.cl T.B.nf (de_name 0)) (da_star (de_fld T.B.cl T.B.nf (de_name 1)) da_nil)))))
abbrev s__law_made : Stmt := topS 28
theorem sc__law_made : FnScope ["rows", "book", "part"] ["rows"] (defScope s__law_made) := ⟨rfl, rfl, rfl, by decide +kernel, rfl, by decide +kernel, by decide +kernel⟩
theorem ok__law_made (T : Txt K mg) (M_Book_init : FnR P w K mg base (L2N.CX P w) 3 (He.ma K (He.ga K "Book") "__init__") (spInit K (He.ga K "Book") (Book_init_F (He.ga K "Book")))) (M_Book_add : FnR P w K mg base (L2N.CX P w) 6 (He.ma K (He.ga K "Book") "__add__") (spX K 2 (Book_add_F (He.ga K "Book")))) {f : Addr} {fd : FuncData} (F : FunD K "_law_made" "_law_made" (defArgs s__law_made) (defBody s__law_made) (defScope s__law_made) [] [] f fd) : FnOk P w K mg base CX0 9 f fd ["rows"] (spD 1 (_law_made_F (He.ga K "Book"))) :=
  fn_ok F sc__law_made fun cdv A outer s H E hr => by
    have nd := sc__law_made.nd
    exact (db_cons (ds_name 1 nd (de_ofX (E := noE) (dex_mk0 ⟨T.B.mkr, M_Book_init⟩ (hr.mono (by decide)) pass_noN (by rfl) T.g_Book)))
    (db_cons (ds_for [2] PassesOwn.never rfl (di_seq (de_name 0)) (dg_name 2 nd) (db_one (ds_name 1 nd (de_ofX (E := noE) (dex_add (T.B.dun "__add__" (by decide)).fn (T.B.dun "__add__" (by decide)).at_ T.B.sf M_Book_add (hr.mono (by decide)) pass_noN (de_name 1) (de_ofX (E := noE) (dex_mk ⟨T.B.mkr, M_Book_init⟩ (hr.mono (by decide)) pass_noN (by rfl) T.g_Book (da_cons (de_name 2) da_nil))))))))
    (db_one (ds_ret (de_name 1)))))
abbrev s_Book_parts : Stmt := clsS 23 3
theorem sc_Book_parts : FnScope ["self"] ["self"] (defScope s_Book_parts) := ⟨rfl, rfl, rfl, by decide +kernel, rfl, by decide +kernel, by decide +kernel⟩
theorem ok_Book_parts (T : Txt K mg) {f : Addr} {fd : FuncData} (F : FunD K "parts" "Book.parts" (defArgs s_Book_parts) (defBody s_Book_parts) (defScope s_Book_parts) [] [] f fd) : FnOk P w K mg base CX0 1 f fd ["self"] (spD 1 (Book_parts_F (He.ga K "Book"))) :=
  fn_ok F sc_Book_parts fun cdv A outer s H E hr => by
    have nd := sc_Book_parts.nd
    exact (db_one (ds_ret (de_fld T.B.cl T.B.nf (de_name 0))))
abbrev s__law_kind : Stmt := topS 27
theorem sc__law_kind : FnScope ["e", "some", "word", "good"] ["e"] (defScope s__law_kind) := ⟨rfl, rfl, rfl, by decide +kernel, rfl, by decide +kernel, by decide +kernel⟩
theorem ok__law_kind (T : Txt K mg) {f : Addr} {fd : FuncData} (F : FunD K "_law_kind" "_law_kind" (defArgs s__law_kind) (defBody s__law_kind) (defScope s__law_kind) [] [] f fd) : FnP P w K mg base CX0 1 f fd ["e"] (kindG K) :=
  kind_ok rfl F sc__law_kind fun cdv A outer s H E p D j hot hz hk hr => by
    have nd := sc__law_kind.nd
    have hf : ∃ vs, p.2.data = .fields vs := let ⟨_, vs, h, _⟩ := hot; ⟨vs, h⟩
    have hp : p ∈ [p] := List.mem_singleton.mpr rfl
    exact db_cons (ds_name 1 nd (de_lst (da_cons (de_tup (da_cons de_str (da_cons (de_isE hk.1 hz hf hp (hk.2 0 _ rfl) (by rfl) T.isinstance (by rfl) T.g_InvalidPart (de_name 0)) da_nil))) (da_cons (de_tup (da_cons de_str (da_cons (de_isE hk.1 hz hf hp (hk.2 1 _ rfl) (by rfl) T.isinstance (by rfl) T.g_InvalidIndex (de_name 0)) da_nil))) da_nil))))
      (db_cons (ds_name 1 nd (de_bin o_add (de_name 1) (de_lst (da_cons (de_tup (da_cons de_str (da_cons (de_isE hk.1 hz hf hp (hk.2 2 _ rfl) (by rfl) T.isinstance (by rfl) T.g_InvalidPage (de_name 0)) da_nil))) (da_cons (de_tup (da_cons de_str (da_cons (de_isE hk.1 hz hf hp (hk.2 3 _ rfl) (by rfl) T.isinstance (by rfl) T.g_TooMany (de_name 0)) da_nil))) da_nil)))))
      (db_cons (ds_app 1 (de_tup (da_cons de_str (da_cons (de_isE hk.1 hz hf hp (hk.2 4 _ rfl) (by rfl) T.isinstance (by rfl) T.g_NothingToUndo (de_name 0)) da_nil))) (pv 1))
      (db_one (ds_ret (de_join pe_str (de_compH [("word", 2), ("good", 3)] ⟨p, hot, hp⟩ nd (de_name 1) (blkOk_by (by first | decide +kernel | rfl)) (by decide) (fun _ _ _ _ _ hb => dg_tupH hb (dgs_cons (dg_name 2 nd) (dgs_cons (dg_name 3 nd) dgs_nil)) rfl rfl (fgCons_len (fgCons_len fgNil_len))) (fun _ _ _ _ _ => (pts_t (dt_val (de_name 3)))) (fun _ _ _ _ _ => (de_name 2))))))))
abbrev s__law_new : Stmt := topS 29
theorem sc__law_new : FnScope ["rows", "e"] ["rows"] (defScope s__law_new) := ⟨rfl, rfl, rfl, by decide +kernel, rfl, by decide +kernel, by decide +kernel⟩
theorem ok__law_new (T : Txt K mg) (C__law_kind : CalP P w K mg base 1 "_law_kind" (kindG K)) (M_Book_parts : PropX P w K mg base 1 (recAt "property" "Book" "parts" K) (Book_parts_F (He.ga K "Book"))) (M_Book_init : FnR P w K mg base (L2N.CX P w) 3 (He.ma K (He.ga K "Book") "__init__") (spInit K (He.ga K "Book") (Book_init_F (He.ga K "Book")))) {f : Addr} {fd : FuncData} (F : FunD K "_law_new" "_law_new" (defArgs s__law_new) (defBody s__law_new) (defScope s__law_new) [] [] f fd) : FnOk P w K mg base CX0 6 f fd ["rows"] (spD 1 (_law_new_F (He.ga K "Book"))) :=
  try_ok (i := 1) F sc__law_new (fun cdv A outer s H E E' pn xe hr tk hx => by
    have nd := sc__law_new.nd
    exact (dx_then (dx_if (dt_cmp (o_eq hr.units) (de_b1 b_len (by rfl) T.len bo_len (de_name 0)) de_int (nomark _)) (dx_last (dx_ret (dex_propE T.B.cl T.p_parts M_Book_parts (hr.mono (by decide)) (dex_mk0 ⟨T.B.mkr, M_Book_init⟩ (hr.mono (by decide)) hx (by rfl) T.g_Book))))) (dx_then (dx_if (dt_cmp (o_eq hr.units) (de_b1 b_len (by rfl) T.len bo_len (de_name 0)) de_int (nomark _)) (dx_last (dx_ret (dex_propE T.B.cl T.p_parts M_Book_parts (hr.mono (by decide)) (dex_mk ⟨T.B.mkr, M_Book_init⟩ (hr.mono (by decide)) hx (by rfl) T.g_Book (da_cons (de_ix (de_name 0) de_int (fun _ _ => rfl)) da_nil)))))) (dx_last (dx_ret (dex_propE T.B.cl T.p_parts M_Book_parts (hr.mono (by decide)) (dex_mk ⟨T.B.mkr, M_Book_init⟩ (hr.mono (by decide)) hx (by rfl) T.g_Book (da_cons (de_ix (de_name 0) de_int (fun _ _ => rfl)) (da_cons (de_ix (de_name 0) de_int (fun _ _ => rfl)) da_nil))))))))) (C__law_kind.mono (by decide)) T.g_BookError T.err rfl rfl rfl rfl
abbrev s__law_like : Stmt := topS 26
theorem sc__law_like : FnScope ["one", "two", "k"] ["one", "two"] (defScope s__law_like) := ⟨rfl, rfl, rfl, by decide +kernel, rfl, by decide +kernel, by decide +kernel⟩
theorem ok__law_like (T : Txt K mg) {f : Addr} {fd : FuncData} (F : FunD K "_law_like" "_law_like" (defArgs s__law_like) (defBody s__law_like) (defScope s__law_like) [] [] f fd) (hm : mg "_law_like" = some (.ref f)) (hb : Binds K fd ["one", "two"] []) : ∀ m : Nat, FnOk P w K mg base CX0 (m + 1) f fd ["one", "two"] (spD 2 (_law_like_Fn m))
  | 0 => fn_none F sc__law_like rfl
  | m + 1 => by
    have C_self : CalD P w K mg base (m + 1) "_law_like" 2 (_law_like_Fn m) := Cal.mk' F (ok__law_like T F hm hb m) hm hb
    exact fn_ok (k := m + 1) F sc__law_like fun cdv A outer s H E hr => by
      have nd := sc__law_like.nd
      exact (db_cons (ds_if (dt_val (de_isi2 (by rfl) T.isinstance (by rfl) T.list bo_list (by rfl) T.tuple bo_tuple (by decide +kernel) (by decide +kernel) (de_name 0))) (db_cons (ds_if (dt_w (dw_or (dt_cmp (o_ne hr.units) (de_isi (by rfl) T.isinstance (by rfl) T.list bo_list (by decide +kernel) (de_name 0)) (de_isi (by rfl) T.isinstance (by rfl) T.list bo_list (by decide +kernel) (de_name 1)) (nomark _)) (dw_or1 (dt_cmp (o_ne hr.units) (de_isi (by rfl) T.isinstance (by rfl) T.tuple bo_tuple (by decide +kernel) (de_name 0)) (de_isi (by rfl) T.isinstance (by rfl) T.tuple bo_tuple (by decide +kernel) (de_name 1)) (nomark _))))) (db_one (ds_ret de_bool)) db_nil)
    (db_cons (ds_if (dt_cmp (o_ne hr.units) (de_b1 b_len (by rfl) T.len bo_len (de_name 0)) (de_b1 b_len (by rfl) T.len bo_len (de_name 1)) (nomark _)) (db_one (ds_ret de_bool)) db_nil)
    (db_one (ds_ret (de_cmp (o_eq hr.units) (de_comp [("k", 2)] rfl nd (di_range1 (by rfl) T.range (de_b1 b_len (by rfl) T.len bo_len (de_name 0))) (blkOk_by (by first | decide +kernel | rfl)) (by decide) (fun _ _ _ _ _ => (dg_name 2 nd)) (fun _ _ _ _ _ => (pts_t (dt_not (dt_val (de_callD C_self (hr.mono (by omega)) (by rfl) (da_cons (de_ix (de_name 0) (de_name 2) (fun _ _ => rfl)) (da_cons (de_ix (de_name 1) (de_name 2) (fun _ _ => rfl)) da_nil))))))) (fun _ _ _ _ _ => (de_name 2))) (de_lst da_nil) (nomark _)))))) db_nil)
    (db_cons (ds_if (dt_val (de_isi2 (by rfl) T.isinstance (by rfl) T.list bo_list (by rfl) T.tuple bo_tuple (by decide +kernel) (by decide +kernel) (de_name 1))) (db_one (ds_ret de_bool)) db_nil)
    (db_one (ds_ret (de_and (de_cmp (o_eq hr.units) (de_isi (by rfl) T.isinstance (by rfl) T.bool bo_bool (by decide +kernel) (de_name 0)) (de_isi (by rfl) T.isinstance (by rfl) T.bool bo_bool (by decide +kernel) (de_name 1)) (nomark _)) (de_one (de_cmp (o_eq hr.units) (de_name 0) (de_name 1) (nomark _))))))))
abbrev s_Book_len : Stmt := clsS 23 9
theorem sc_Book_len : FnScope ["self"] ["self"] (defScope s_Book_len) := ⟨rfl, rfl, rfl, by decide +kernel, rfl, by decide +kernel, by decide +kernel⟩
theorem ok_Book_len (T : Txt K mg) {f : Addr} {fd : FuncData} (F : FunD K "__len__" "Book.__len__" (defArgs s_Book_len) (defBody s_Book_len) (defScope s_Book_len) [] [] f fd) : FnOk P w K mg base (L2N.CX P w) 1 f fd ["self"] (spX K 1 (Book_len_F (He.ga K "Book"))) :=
  fnX_okT F sc_Book_len fun cdv A outer s H E hr tk hx => by
    have nd := sc_Book_len.nd
    exact (dx_end (db_one (ds_ret (de_b1 b_len (by rfl) T.len bo_len (de_fld T.B.cl T.B.nf (de_name 0))))))
abbrev s__law_joined : Stmt := topS 31
theorem sc__law_joined : FnScope ["one", "other", "e"] ["one", "other"] (defScope s__law_joined) := ⟨rfl, rfl, rfl, by decide +kernel, rfl, by decide +kernel, by decide +kernel⟩
theorem ok__law_joined (T : Txt K mg) (C__law_kind : CalP P w K mg base 1 "_law_kind" (kindG K)) (M_Book_len : FnR P w K mg base (L2N.CX P w) 1 (He.ma K (He.ga K "Book") "__len__") (spX K 1 (Book_len_F (He.ga K "Book")))) (M_Book_add : FnR P w K mg base (L2N.CX P w) 6 (He.ma K (He.ga K "Book") "__add__") (spX K 2 (Book_add_F (He.ga K "Book")))) {f : Addr} {fd : FuncData} (F : FunD K "_law_joined" "_law_joined" (defArgs s__law_joined) (defBody s__law_joined) (defScope s__law_joined) [] [] f fd) : FnOk P w K mg base CX0 9 f fd ["one", "other"] (spD 2 (_law_joined_F (He.ga K "Book"))) :=
  try_ok (i := 2) F sc__law_joined (fun cdv A outer s H E E' pn xe hr tk hx => by
    have nd := sc__law_joined.nd
    exact (dx_last (dx_ret (dex_b1 (b_lenB (T.B.dun "__len__" (by decide)).fn (T.B.dun "__len__" (by decide)).at_ M_Book_len (hr.mono (by decide))) (by rfl) T.len bo_len (dex_add (T.B.dun "__add__" (by decide)).fn (T.B.dun "__add__" (by decide)).at_ T.B.sf M_Book_add (hr.mono (by decide)) hx (de_name 0) (de_name 1)))))) (C__law_kind.mono (by decide)) T.g_BookError T.err rfl rfl rfl rfl
abbrev s_Book_chapters : Stmt := clsS 23 2
theorem sc_Book_chapters : FnScope ["cls", "pages", "parts", "count"] ["cls", "pages"] (defScope s_Book_chapters) := ⟨rfl, rfl, rfl, by decide +kernel, rfl, by decide +kernel, by decide +kernel⟩
theorem ok_Book_chapters (T : Txt K mg) (M_Book_init : FnR P w K mg base (L2N.CX P w) 3 (He.ma K (He.ga K "Book") "__init__") (spInit K (He.ga K "Book") (Book_init_F (He.ga K "Book")))) {f : Addr} {fd : FuncData} (F : FunD K "chapters" "Book.chapters" (defArgs s_Book_chapters) (defBody s_Book_chapters) (defScope s_Book_chapters) [] [] f fd) : FnR P w K mg base (L2N.CX P w) 6 f (spCM K (He.ga K "Book") (Book_chapters_F (He.ga K "Book"))) :=
  cm_star F sc_Book_chapters (DL.FunD.star1 F fun _ _ _ _ _ _ => StX.bind_star1 (B := fun us => bindArgs _ ⟨us, []⟩) (fun _ => rfl) fun _ _ _ => rfl) fun cdv A outer s H E hr tk hx => by
    have nd := sc_Book_chapters.nd
    exact (dx_seq (ds_comp (i := 2) [("count", 3)] rfl nd (di_seq (de_name 1)) (blkOk_by (by first | decide +kernel | rfl)) (by decide) (fun _ _ _ _ _ => (dg_name 3 nd)) (fun _ _ _ _ _ => pts_yes) (fun _ _ _ _ _ => (de_tup (da_cons de_str (da_cons (de_name 3) da_nil))))) (dx_last (dx_ret (dex_clsS ⟨T.B.mkr, M_Book_init⟩ (hr.mono (by decide)) hx (de_name 2) (pv 0)))))
abbrev s__law_chapters : Stmt := topS 30
theorem sc__law_chapters : FnScope ["one", "other", "e"] ["one", "other"] (defScope s__law_chapters) := ⟨rfl, rfl, rfl, by decide +kernel, rfl, by decide +kernel, by decide +kernel⟩
theorem ok__law_chapters (T : Txt K mg) (C__law_kind : CalP P w K mg base 1 "_law_kind" (kindG K)) (M_Book_parts : PropX P w K mg base 1 (recAt "property" "Book" "parts" K) (Book_parts_F (He.ga K "Book"))) (M_Book_chapters : FnR P w K mg base (L2N.CX P w) 6 (recAt "classmethod" "Book" "chapters" K) (spCM K (He.ga K "Book") (Book_chapters_F (He.ga K "Book")))) {f : Addr} {fd : FuncData} (F : FunD K "_law_chapters" "_law_chapters" (defArgs s__law_chapters) (defBody s__law_chapters) (defScope s__law_chapters) [] [] f fd) : FnOk P w K mg base CX0 9 f fd ["one", "other"] (spD 2 (_law_chapters_F (He.ga K "Book"))) :=
  try_ok (i := 2) F sc__law_chapters (fun cdv A outer s H E E' pn xe hr tk hx => by
    have nd := sc__law_chapters.nd
    exact (dx_last (dx_ret (dex_propE T.B.cl T.p_parts M_Book_parts (hr.mono (by decide)) (dex_cm T.B.rd T.m_chapters M_Book_chapters (hr.mono (by decide)) hx (by rfl) T.g_Book (da_cons (de_name 0) (da_cons (de_name 1) da_nil))))))) (C__law_kind.mono (by decide)) T.g_BookError T.err rfl rfl rfl rfl
abbrev s_is_parts : Stmt := topS 7
theorem sc_is_parts : FnScope ["value", "part"] ["value"] (defScope s_is_parts) := ⟨rfl, rfl, rfl, by decide +kernel, rfl, by decide +kernel, by decide +kernel⟩
theorem ok_is_parts (T : Txt K mg) {f : Addr} {fd : FuncData} (F : FunD K "is_parts" "is_parts" (defArgs s_is_parts) (defBody s_is_parts) (defScope s_is_parts) [] [] f fd) (C_is_part : CalD P w K mg base 2 "is_part" 1 is_part_F) : FnOk P w K mg base CX0 3 f fd ["value"] (spD 1 is_parts_F) :=
  fn_ok F sc_is_parts fun cdv A outer s H E hr => by
    have nd := sc_is_parts.nd
    exact (db_one (ds_ret (de_and (de_isi (by rfl) T.isinstance (by rfl) T.tuple bo_tuple (by decide +kernel) (de_name 0)) (de_and (de_cmp o_le (de_b1 b_len (by rfl) T.len bo_len (de_name 0)) (de_globI (by rfl) T.c_MOST_PARTS) (nomark _)) (de_one (de_b1 (b_all rfl) (by rfl) T.all bo_all (de_comp [("part", 1)] rfl nd (di_seq (de_name 0)) (blkOk_by (by first | decide +kernel | rfl)) (by decide) (fun _ _ _ _ _ => (dg_name 1 nd)) (fun _ _ _ _ _ => pts_yes) (fun _ _ _ _ _ => (de_callD C_is_part (hr.mono (by decide)) (by rfl) (da_cons (de_name 1) da_nil))))))))))
abbrev s_law : Stmt := topS 32
theorem sc_law : FnScope ["script", "tape", "turn", "good", "odd", "rows", "one", "other", "due", "many", "first", "second", "third"] ["script"] (defScope s_law) := ⟨rfl, rfl, rfl, by decide +kernel, rfl, by decide +kernel, by decide +kernel⟩
theorem ok_law (T : Txt K mg) (C__law_draw : CalTD P w K mg base 1 "_law_draw" 2 _law_draw_F) (C__law_like : CalD P w K mg base 7 "_law_like" 2 _law_like_F) (C_is_parts : CalD P w K mg base 3 "is_parts" 1 is_parts_F) (C__law_new : CalD P w K mg base 6 "_law_new" 1 (_law_new_F (He.ga K "Book"))) (C__law_chapters : CalD P w K mg base 9 "_law_chapters" 2 (_law_chapters_F (He.ga K "Book"))) (C__law_made : CalD P w K mg base 9 "_law_made" 1 (_law_made_F (He.ga K "Book"))) (C__law_joined : CalD P w K mg base 9 "_law_joined" 2 (_law_joined_F (He.ga K "Book"))) (M_Book_add : FnR P w K mg base (L2N.CX P w) 6 (He.ma K (He.ga K "Book") "__add__") (spX K 2 (Book_add_F (He.ga K "Book")))) (M_Book_init : FnR P w K mg base (L2N.CX P w) 3 (He.ma K (He.ga K "Book") "__init__") (spInit K (He.ga K "Book") (Book_init_F (He.ga K "Book")))) {f : Addr} {fd : FuncData} (F : FunD K "law" "law" (defArgs s_law) (defBody s_law) (defScope s_law) [] [] f fd) : FnOk P w K mg base CX0 10 f fd ["script"] (spLaw K) :=
  fn_law F sc_law (fun cdv A outer s H E hr => by
    have nd := sc_law.nd
    exact ⟨ps_set (i := 1) nd rfl (by first | exact .inl rfl | exact .inr rfl) (pe_lst (pa_cons (pe_callTy c_list (by rfl) T.list bo_list (pa_cons (pv 0) pa_nil)) (pa_cons pe_int (pa_cons pe_int pa_nil)))), (db_cons (ds_for [2, 3, 4, 5, 6, 7, 8, 9, 10, 11, 12] PassesOwn.never rfl (di_range1 (by rfl) T.range de_int) (dg_name 2 nd) (db_cons (ds_name 3 nd (de_tup (da_cons (de_ix (de_lst (da_cons de_str (da_cons de_str (da_cons de_str da_nil)))) (de_callTD C__law_draw (hr.mono (by decide)) (by rfl) (pv 1) (da_cons de_int da_nil)) (fun _ _ => rfl)) (da_cons (de_bin o_add de_int (de_callTD C__law_draw (hr.mono (by decide)) (by rfl) (pv 1) (da_cons de_int da_nil))) da_nil))))
    (db_cons (ds_name 4 nd (de_lst (da_cons (de_tup (da_cons de_str (da_cons de_int da_nil))) (da_cons (de_tup (da_cons de_str (da_cons de_int da_nil))) (da_cons (de_tup (da_cons de_str (da_cons de_int da_nil))) (da_cons (de_tup (da_cons de_str (da_cons de_bool da_nil))) (da_cons de_none (da_cons de_str (da_cons (de_lst (da_cons de_str (da_cons de_int da_nil))) (da_cons (de_tup (da_cons de_str da_nil)) (da_cons (de_name 3) da_nil)))))))))))
    (db_cons (ds_name 5 nd (de_cut (de_lst (da_cons (de_name 3) (da_cons (de_ix (de_name 4) (de_callTD C__law_draw (hr.mono (by decide)) (by rfl) (pv 1) (da_cons de_int da_nil)) (fun _ _ => rfl)) da_nil))) do_none (do_some (de_callTD C__law_draw (hr.mono (by decide)) (by rfl) (pv 1) (da_cons de_int da_nil)))))
    (db_cons (ds_if (dt_not (dt_val (de_callD C__law_like (hr.mono (by decide)) (by rfl) (da_cons (de_callD C__law_new (hr.mono (by decide)) (by rfl) (da_cons (de_name 5) da_nil)) (da_cons (de_if (dt_val (de_callD C_is_parts (hr.mono (by decide)) (by rfl) (da_cons (de_t1 b_tuple (by rfl) T.tuple bo_tuple (de_name 5)) da_nil))) (de_t1 b_tuple (by rfl) T.tuple bo_tuple (de_name 5)) de_str) da_nil))))) (db_one (ds_ret de_bool)) db_nil)
    (db_cons (ds_par 6 7 rfl nd (de_bin o_add de_int (de_callTD C__law_draw (hr.mono (by decide)) (by rfl) (pv 1) (da_cons de_int da_nil))) (de_ix (de_lst (da_cons de_int (da_cons de_int (da_cons de_int (da_cons de_bool (da_cons de_none (da_cons de_str da_nil))))))) (de_callTD C__law_draw (hr.mono (by decide)) (by rfl) (pv 1) (da_cons de_int da_nil)) (fun _ _ => rfl)))
    (db_cons (ds_name 8 nd (de_if (dt_cmp (o_eq hr.units) (de_name 7) de_int (nomark _)) (de_tup (da_cons (de_tup (da_cons de_str (da_cons (de_name 6) da_nil))) (da_cons (de_tup (da_cons de_str (da_cons de_int da_nil))) da_nil))) de_str))
    (db_cons (ds_if (dt_not (dt_val (de_callD C__law_like (hr.mono (by decide)) (by rfl) (da_cons (de_callD C__law_chapters (hr.mono (by decide)) (by rfl) (da_cons (de_name 6) (da_cons (de_name 7) da_nil))) (da_cons (de_name 8) da_nil))))) (db_one (ds_ret de_bool)) db_nil)
    (db_cons (ds_name 9 nd (de_callTD C__law_draw (hr.mono (by decide)) (by rfl) (pv 1) (da_cons de_int da_nil)))
    (db_cons (ds_name 10 nd (de_callD C__law_made (hr.mono (by decide)) (by rfl) (da_cons (de_bin o_mulN (de_tup (da_cons (de_tup (da_cons de_str (da_cons de_int da_nil))) da_nil)) (de_name 9)) da_nil)))
    (db_cons (ds_name 11 nd (de_callD C__law_made (hr.mono (by decide)) (by rfl) (da_cons (de_bin o_mulN (de_tup (da_cons (de_name 3) da_nil)) (de_bin o_sub de_int (de_name 9))) da_nil)))
    (db_cons (ds_if (dt_w (dw_or (dt_cmp (o_ne hr.units) (de_callD C__law_joined (hr.mono (by decide)) (by rfl) (da_cons (de_name 10) (da_cons (de_name 11) da_nil))) de_int (nomark _)) (dw_or1 (dt_cmp (o_ne hr.units) (de_callD C__law_joined (hr.mono (by decide)) (by rfl) (da_cons (de_name 10) (da_cons (de_ofX (E := noE) (dex_add (T.B.dun "__add__" (by decide)).fn (T.B.dun "__add__" (by decide)).at_ T.B.sf M_Book_add (hr.mono (by decide)) pass_noN (de_name 11) (de_ofX (E := noE) (dex_mk0 ⟨T.B.mkr, M_Book_init⟩ (hr.mono (by decide)) pass_noN (by rfl) T.g_Book)))) da_nil))) de_int (nomark _))))) (db_one (ds_ret de_bool)) db_nil)
    (db_cons (ds_name 12 nd (de_callD C__law_made (hr.mono (by decide)) (by rfl) (da_cons (de_bin o_mulN (de_tup (da_cons (de_name 3) da_nil)) (de_b2 (b_min2 rfl) (by rfl) T.min bo_min de_int (de_bin o_sub de_int (de_name 9)))) da_nil)))
    (db_one (ds_if (dt_cmp (o_ne hr.units) (de_callD C__law_joined (hr.mono (by decide)) (by rfl) (da_cons (de_name 10) (da_cons (de_name 12) da_nil))) (de_if (dt_cmp o_gt (de_name 9) de_int (nomark _)) de_str de_int) (nomark _)) (db_one (ds_ret de_bool)) db_nil)))))))))))))))
    (db_one (ds_ret (de_cmp (o_eq hr.units) (de_callD C__law_new (hr.mono (by decide)) (by rfl) (da_cons (de_lst (da_cons (de_tup (da_cons de_str (da_cons de_int da_nil))) (da_cons (de_tup (da_cons de_str (da_cons de_int da_nil))) da_nil))) da_nil)) de_str (nomark _)))))⟩) (law_holds (He.ga K "Book"))
end
def dd__law_draw : He.DefD := ⟨("_law_draw", none), "_law_draw", "_law_draw", defArgs s__law_draw, defBody s__law_draw, defScope s__law_draw, [], []⟩
def dd_is_integer : He.DefD := ⟨("is_integer", none), "is_integer", "is_integer", defArgs s_is_integer, defBody s_is_integer, defScope s_is_integer, [], []⟩
def dd_is_part : He.DefD := ⟨("is_part", none), "is_part", "is_part", defArgs s_is_part, defBody s_is_part, defScope s_is_part, [], []⟩
def dd_Book_init : He.DefD := ⟨("Book", some "__init__"), "__init__", "Book.__init__", defArgs s_Book_init, defBody s_Book_init, defScope s_Book_init, [], []⟩
def dd_Book_add : He.DefD := ⟨("Book", some "__add__"), "__add__", "Book.__add__", defArgs s_Book_add, defBody s_Book_add, defScope s_Book_add, [], []⟩
def dd__law_made : He.DefD := ⟨("_law_made", none), "_law_made", "_law_made", defArgs s__law_made, defBody s__law_made, defScope s__law_made, [], []⟩
def dd_Book_parts : He.DefD := ⟨("Book", some "parts"), "parts", "Book.parts", defArgs s_Book_parts, defBody s_Book_parts, defScope s_Book_parts, [], []⟩
def dd__law_kind : He.DefD := ⟨("_law_kind", none), "_law_kind", "_law_kind", defArgs s__law_kind, defBody s__law_kind, defScope s__law_kind, [], []⟩
def dd__law_new : He.DefD := ⟨("_law_new", none), "_law_new", "_law_new", defArgs s__law_new, defBody s__law_new, defScope s__law_new, [], []⟩
def dd__law_like : He.DefD := ⟨("_law_like", none), "_law_like", "_law_like", defArgs s__law_like, defBody s__law_like, defScope s__law_like, [], []⟩
def dd_Book_len : He.DefD := ⟨("Book", some "__len__"), "__len__", "Book.__len__", defArgs s_Book_len, defBody s_Book_len, defScope s_Book_len, [], []⟩
def dd__law_joined : He.DefD := ⟨("_law_joined", none), "_law_joined", "_law_joined", defArgs s__law_joined, defBody s__law_joined, defScope s__law_joined, [], []⟩
def dd_Book_chapters : He.DefD := ⟨("Book", some "chapters"), "chapters", "Book.chapters", defArgs s_Book_chapters, defBody s_Book_chapters, defScope s_Book_chapters, [], []⟩
def dd__law_chapters : He.DefD := ⟨("_law_chapters", none), "_law_chapters", "_law_chapters", defArgs s__law_chapters, defBody s__law_chapters, defScope s__law_chapters, [], []⟩
def dd_is_parts : He.DefD := ⟨("is_parts", none), "is_parts", "is_parts", defArgs s_is_parts, defBody s_is_parts, defScope s_is_parts, [], []⟩
def dd_law : He.DefD := ⟨("law", none), "law", "law", defArgs s_law, defBody s_law, defScope s_law, [], []⟩
def fn : List He.DefD := [dd__law_draw, dd_is_integer, dd_is_part, dd_Book_init, dd_Book_add, dd__law_made, dd__law_kind, dd__law_new, dd__law_like, dd_Book_len, dd__law_joined, dd__law_chapters, dd_is_parts, dd_law]
def ys : DefsY := [(recAt "property" "Book" "parts", dd_Book_parts), (recAt "classmethod" "Book" "chapters", dd_Book_chapters)]
def ps : Facts := [tupS "SIDES" ["right", "left", "any"], bookB "Book", errB "BookError", propB "Book" "parts", cmB "Book" "chapters"]
def fa : List He.Fa := [.glo "_law_draw", .glo "is_integer", .glo "is_part", .glo "_law_made", .glo "_law_kind", .glo "_law_new", .glo "_law_like", .glo "_law_joined", .glo "_law_chapters", .glo "is_parts", .glo "law", .free "len", .free "isinstance", .free "int", .free "bool", .free "tuple", .free "str", .free "all", .free "list", .free "range", .free "min", .int "MOST_PAGES" 999, .int "MOST_PARTS" 30, .glo "Book", .glo "BookError", .glo "InvalidPart", .glo "InvalidIndex", .glo "InvalidPage", .glo "TooMany", .glo "NothingToUndo", .exc "InvalidPart", .exc "InvalidIndex", .exc "InvalidPage", .exc "TooMany", .exc "NothingToUndo"]
abbrev R : PySem.W.OpenRow := PySem.W.OpenLaw.row PySem.Challenge.rw_rectopages_k15_books_that_are_made
abbrev hk : PySem.W.Hook := hookY 6 fa fn ys ps
def ob (s : PySem.W.SharedT) : AlY := obsYG 6 fa fn ys ps (HandSHeadRun.getT s)
theorem ob_eq (s : PySem.W.SharedT) : ob s = hk.obs s.abs := obsYG_eq (HandSHeadRun.getT_eq s)
def loose : List Str := ["_wall", "MOST_PARTS", "MOST_PAGES", "SIDES", "is_integer", "is_part", "is_parts", "fits_side", "starts", "stretches", "fewest_blanks", "late_layout", "BookError", "InvalidPart", "InvalidIndex", "InvalidPage", "TooMany", "NothingToUndo", "MOST_PAGE", "Book", "_law_draw", "_law_like", "_law_kind", "_law_made", "_law_new", "_law_chapters", "_law_joined"]
theorem run (w : World) : HandSHeadRun.RunEq R (PySem.W.view R.prog [32]) hk ob 3000 loose w := by
  intro os
  kernel_rfl
theorem facts {P : Program} {w : World} {K : PySem.W.Frag} {h : Heap} {mg : Str → Option Value} {f : Addr} (X : K.In h) (G : h.Ns mainGlobals mg) (hfa : mg ("law" : Str) = some (.ref f)) (cx : SaysY fa fn ys ps K) :
    ∃ fd : FuncData, (∀ (s : Shared) (v : Value), BindsTo s fd ⟨[v], []⟩ [("script", v)]) ∧ ∀ base : Heap, K.In base → base.Ns mainGlobals mg → FnOk P w K mg base CX0 10 f fd ["script"] (spLaw K) := by
  have c := cx.x.d
  obtain ⟨fd__law_draw, FF__law_draw⟩ := c.def_ 0 (d := dd__law_draw) rfl
  have g__law_draw := He.glo_ok X G (c.fact 0 (f := .glo "_law_draw") rfl)
  obtain ⟨fd_is_integer, FF_is_integer⟩ := c.def_ 1 (d := dd_is_integer) rfl
  have g_is_integer := He.glo_ok X G (c.fact 1 (f := .glo "is_integer") rfl)
  obtain ⟨fd_is_part, FF_is_part⟩ := c.def_ 2 (d := dd_is_part) rfl
  have g_is_part := He.glo_ok X G (c.fact 2 (f := .glo "is_part") rfl)
  obtain ⟨fd_Book_init, FF_Book_init⟩ := c.def_ 3 (d := dd_Book_init) rfl
  obtain ⟨fd_Book_add, FF_Book_add⟩ := c.def_ 4 (d := dd_Book_add) rfl
  obtain ⟨fd__law_made, FF__law_made⟩ := c.def_ 5 (d := dd__law_made) rfl
  have g__law_made := He.glo_ok X G (c.fact 3 (f := .glo "_law_made") rfl)
  obtain ⟨fd__law_kind, FF__law_kind⟩ := c.def_ 6 (d := dd__law_kind) rfl
  have g__law_kind := He.glo_ok X G (c.fact 4 (f := .glo "_law_kind") rfl)
  obtain ⟨fd__law_new, FF__law_new⟩ := c.def_ 7 (d := dd__law_new) rfl
  have g__law_new := He.glo_ok X G (c.fact 5 (f := .glo "_law_new") rfl)
  obtain ⟨fd__law_like, FF__law_like⟩ := c.def_ 8 (d := dd__law_like) rfl
  have g__law_like := He.glo_ok X G (c.fact 6 (f := .glo "_law_like") rfl)
  obtain ⟨fd_Book_len, FF_Book_len⟩ := c.def_ 9 (d := dd_Book_len) rfl
  obtain ⟨fd__law_joined, FF__law_joined⟩ := c.def_ 10 (d := dd__law_joined) rfl
  have g__law_joined := He.glo_ok X G (c.fact 7 (f := .glo "_law_joined") rfl)
  obtain ⟨fd__law_chapters, FF__law_chapters⟩ := c.def_ 11 (d := dd__law_chapters) rfl
  have g__law_chapters := He.glo_ok X G (c.fact 8 (f := .glo "_law_chapters") rfl)
  obtain ⟨fd_is_parts, FF_is_parts⟩ := c.def_ 12 (d := dd_is_parts) rfl
  have g_is_parts := He.glo_ok X G (c.fact 9 (f := .glo "is_parts") rfl)
  obtain ⟨fd_law, FF_law⟩ := c.def_ 13 (d := dd_law) rfl
  have g_law := He.glo_ok X G (c.fact 10 (f := .glo "law") rfl)
  obtain ⟨fd_Book_parts, FF_Book_parts⟩ := cx.def_ 0 (y := (recAt "property" "Book" "parts", dd_Book_parts)) rfl
  obtain ⟨fd_Book_chapters, FF_Book_chapters⟩ := cx.def_ 1 (y := (recAt "classmethod" "Book" "chapters", dd_Book_chapters)) rfl
  have T : Txt K mg := ⟨He.free_ok X G (c.fact 11 (f := .free "len") rfl),
    He.free_ok X G (c.fact 12 (f := .free "isinstance") rfl),
    He.free_ok X G (c.fact 13 (f := .free "int") rfl),
    He.free_ok X G (c.fact 14 (f := .free "bool") rfl),
    He.free_ok X G (c.fact 15 (f := .free "tuple") rfl),
    He.free_ok X G (c.fact 16 (f := .free "str") rfl),
    He.free_ok X G (c.fact 17 (f := .free "all") rfl),
    He.free_ok X G (c.fact 18 (f := .free "list") rfl),
    He.free_ok X G (c.fact 19 (f := .free "range") rfl),
    He.free_ok X G (c.fact 20 (f := .free "min") rfl),
    He.int_ok X G (c.fact 21 (f := .int "MOST_PAGES" 999) rfl),
    He.int_ok X G (c.fact 22 (f := .int "MOST_PARTS" 30) rfl),
    He.glo_ok X G (c.fact 23 (f := .glo "Book") rfl),
    He.glo_ok X G (c.fact 24 (f := .glo "BookError") rfl),
    He.glo_ok X G (c.fact 25 (f := .glo "InvalidPart") rfl),
    He.glo_ok X G (c.fact 26 (f := .glo "InvalidIndex") rfl),
    He.glo_ok X G (c.fact 27 (f := .glo "InvalidPage") rfl),
    He.glo_ok X G (c.fact 28 (f := .glo "TooMany") rfl),
    He.glo_ok X G (c.fact 29 (f := .glo "NothingToUndo") rfl),
    c.fact 30 (f := .exc "InvalidPart") rfl,
    c.fact 31 (f := .exc "InvalidIndex") rfl,
    c.fact 32 (f := .exc "InvalidPage") rfl,
    c.fact 33 (f := .exc "TooMany") rfl,
    c.fact 34 (f := .exc "NothingToUndo") rfl,
    tupS_ok X G (cx.x.own 0 (p := tupS "SIDES" ["right", "left", "any"]) rfl),
    bookB_ok (cx.x.own 1 (p := bookB "Book") rfl),
    errB_ok (cx.x.own 2 (p := errB "BookError") rfl),
    propB_ok (cx.x.own 3 (p := propB "Book" "parts") rfl),
    cmB_ok (cx.x.own 4 (p := cmB "Book" "chapters") rfl)⟩
  have e := hfa.symm.trans g_law
  cases e
  have b := FunD.bindsA (ps := ["script"]) FF_law fun _ _ _ _ _ _ us hl => match us, hl with | [_], _ => rfl
  refine ⟨fd_law, fun s v => b s [v] rfl, fun base _ _ => ?_⟩
  have C__law_draw : CalTD P w K mg base 1 "_law_draw" 2 _law_draw_F := Cal.mk' FF__law_draw (ok__law_draw T FF__law_draw) g__law_draw (FF__law_draw.bindsN (ps := ["tape", "many"]) fun _ _ _ _ _ _ us hl => match us, hl with | [_, _], _ => rfl)
  have C_is_integer : CalD P w K mg base 1 "is_integer" 3 is_integer_F := Cal.mk' FF_is_integer (ok_is_integer T FF_is_integer) g_is_integer (FF_is_integer.bindsN (ps := ["value", "low", "high"]) fun _ _ _ _ _ _ us hl => match us, hl with | [_, _, _], _ => rfl)
  have C_is_part : CalD P w K mg base 2 "is_part" 1 is_part_F := Cal.mk' FF_is_part (ok_is_part T FF_is_part C_is_integer) g_is_part (FF_is_part.bindsN (ps := ["value"]) fun _ _ _ _ _ _ us hl => match us, hl with | [_], _ => rfl)
  have M_Book_init := ok_Book_init (P := P) (w := w) (base := base) T C_is_part FF_Book_init
  have M_Book_add : FnR P w K mg base (L2N.CX P w) 6 (He.ma K (He.ga K "Book") "__add__") (spX K 2 (Book_add_F (He.ga K "Book"))) := raw0 (ok_Book_add T M_Book_init FF_Book_add) (FF_Book_add.bindsN (ps := ["self", "other"]) fun _ _ _ _ _ _ us hl => match us, hl with | [_, _], _ => rfl)
  have C__law_made : CalD P w K mg base 9 "_law_made" 1 (_law_made_F (He.ga K "Book")) := Cal.mk' FF__law_made (ok__law_made T M_Book_init M_Book_add FF__law_made) g__law_made (FF__law_made.bindsN (ps := ["rows"]) fun _ _ _ _ _ _ us hl => match us, hl with | [_], _ => rfl)
  have M_Book_parts : PropX P w K mg base 1 (recAt "property" "Book" "parts" K) (Book_parts_F (He.ga K "Book")) := ⟨_, ok_Book_parts T FF_Book_parts, FF_Book_parts.bindsN (ps := ["self"]) fun _ _ _ _ _ _ us hl => match us, hl with | [_], _ => rfl⟩
  have C__law_kind : CalP P w K mg base 1 "_law_kind" (kindG K) := ⟨_, _, _, ok__law_kind T FF__law_kind, g__law_kind, FF__law_kind.kp, FF__law_kind.bindsN (ps := ["e"]) fun _ _ _ _ _ _ us hl => match us, hl with | [_], _ => rfl⟩
  have C__law_new : CalD P w K mg base 6 "_law_new" 1 (_law_new_F (He.ga K "Book")) := Cal.mk' FF__law_new (ok__law_new T C__law_kind M_Book_parts M_Book_init FF__law_new) g__law_new (FF__law_new.bindsN (ps := ["rows"]) fun _ _ _ _ _ _ us hl => match us, hl with | [_], _ => rfl)
  have B__law_like := FF__law_like.bindsN (ps := ["one", "two"]) fun _ _ _ _ _ _ us hl => match us, hl with | [_, _], _ => rfl
  have C__law_like : CalD P w K mg base 7 "_law_like" 2 _law_like_F := Cal.mk' FF__law_like (ok__law_like T FF__law_like g__law_like B__law_like 6) g__law_like B__law_like
  have M_Book_len : FnR P w K mg base (L2N.CX P w) 1 (He.ma K (He.ga K "Book") "__len__") (spX K 1 (Book_len_F (He.ga K "Book"))) := raw0 (ok_Book_len T FF_Book_len) (FF_Book_len.bindsN (ps := ["self"]) fun _ _ _ _ _ _ us hl => match us, hl with | [_], _ => rfl)
  have C__law_joined : CalD P w K mg base 9 "_law_joined" 2 (_law_joined_F (He.ga K "Book")) := Cal.mk' FF__law_joined (ok__law_joined T C__law_kind M_Book_len M_Book_add FF__law_joined) g__law_joined (FF__law_joined.bindsN (ps := ["one", "other"]) fun _ _ _ _ _ _ us hl => match us, hl with | [_, _], _ => rfl)
  have M_Book_chapters := ok_Book_chapters (P := P) (w := w) (base := base) T M_Book_init FF_Book_chapters
  have C__law_chapters : CalD P w K mg base 9 "_law_chapters" 2 (_law_chapters_F (He.ga K "Book")) := Cal.mk' FF__law_chapters (ok__law_chapters T C__law_kind M_Book_parts M_Book_chapters FF__law_chapters) g__law_chapters (FF__law_chapters.bindsN (ps := ["one", "other"]) fun _ _ _ _ _ _ us hl => match us, hl with | [_, _], _ => rfl)
  have C_is_parts : CalD P w K mg base 3 "is_parts" 1 is_parts_F := Cal.mk' FF_is_parts (ok_is_parts T FF_is_parts C_is_part) g_is_parts (FF_is_parts.bindsN (ps := ["value"]) fun _ _ _ _ _ _ us hl => match us, hl with | [_], _ => rfl)
  exact ok_law T C__law_draw C__law_like C_is_parts C__law_new C__law_chapters C__law_made C__law_joined M_Book_add M_Book_init FF_law
end K15
open PySem PySem.W PySem.Calls PyProof.Rows
set_option maxHeartbeats 0 in
theorem PySem.Challenge.cw_rectopages_k15_books_that_are_made_holds : PySem.Challenge.rw_rectopages_k15_books_that_are_made.Holds := by
  w_on; o_law
  refine HandSHeadRun.head_any (r := OpenLaw.row PySem.Challenge.rw_rectopages_k15_books_that_are_made) (q := view (OpenLaw.row PySem.Challenge.rw_rectopages_k15_books_that_are_made).prog [32]) (H := K15.hk) (ob := K15.ob) (M := 3000) (loose := K15.loose) (d := HandSHeadRun.topDef (OpenLaw.row PySem.Challenge.rw_rectopages_k15_books_that_are_made).prog 32) (kwd := []) K15.ob_eq
    (by kernel_rfl) (fun s => by kernel_rfl) K15.run (by kernel_rfl) (by kernel_rfl) (by kernel_rfl) (by rfl) (by first | assumption | decide +kernel) (by decide +kernel) ⟨rfl, rfl, rfl, rfl, rfl, by decide +kernel⟩ ?hw ?hc
  case hw => w_witness2
  case hc =>
    refine L2.walk_ofE (l := PySem.Challenge.rw_rectopages_k15_books_that_are_made) (n := 63) (k := 10) (x := "script") (CX := L2.CX0) rfl (by decide) (by kernel_rfl) ⟨rfl, by decide, by decide⟩ ?F (fun _ _ _ _ z => z)
    intro w mg fa h Y G hmg0
    obtain ⟨K, KX, c⟩ := Y
    have hmg : mg ("law" : PySem.Str) = some (.ref fa) := by
      have e : (HandSHeadRun.topDef (OpenLaw.row PySem.Challenge.rw_rectopages_k15_books_that_are_made).prog 32).name = ("law" : PySem.Str) := by kernel_rfl
      rw [← e]
      exact hmg0
    obtain ⟨fd, hb, hF⟩ := K15.facts (P := (PySem.Challenge.rw_rectopages_k15_books_that_are_made).prog) (w := w) KX G hmg c
    exact ⟨K, fd, DL.spLaw K, KX, hb, fun H a ns hl _ hS => ⟨a, ns, rfl, hS, hl, fun _ => rfl⟩, hF⟩
