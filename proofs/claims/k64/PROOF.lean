import PyProof.Rows.All
import Wide.All
import OpenK.AllK
import Wide.FinOn
import HandS.ForMost
import HandS.SortInts
import HandS.ForExc
import HandS.Wide
import HandS.IsInst
import HandS.Deep
import HandS.TryMany
import HandS.TupAny
import HandS.TupMul
import HandS.TryOnly
import HandS.Conv
import KE.KTupSum
import KE.DataMinMax
import HandS.TupLe
import HandS.RaiseMore
import HandS.Gcd
import HandS.Strs
import KE.GoesMore
import HandS.Zip
import HandS.SetFor
import HandS.Style
import HandS.ForSpec
import HandS.ExcIs
import KE.KExcIs
import KE.OsGo
import PySem.Challenge.RW_carriedbreaks_k64_whole_marks_forged
set_option Elab.async false
set_option linter.all false
set_option maxRecDepth 100000
/-! PV: an evaluator of small Python over plain data. First part: the small syntax, its evaluation. No heap here. -/
namespace PV
open PySem PySem.Spec PyProof.Rows L2

/-- an argument: data, or the hand -/
inductive AV where
  | d (x : PyData)
  | h
/-- a result: a value, an exception (its class, what it carries), or no word -/
inductive R (S α : Type) where
  | ok (a : α) (s : S)
  | exn (c : Str) (p : Option PyData) (s : S)
  | bad
def R.bind {S α β : Type} : R S α → (α → S → R S β) → R S β
  | .ok a s, f => f a s
  | .exn c p s, _ => .exn c p s
  | .bad, _ => .bad
def M (S α : Type) := S → R S α
def M.pure {S α : Type} (a : α) : M S α := fun s => .ok a s
def M.bind {S α β : Type} (m : M S α) (f : α → M S β) : M S β := fun s => (m s).bind fun a s' => f a s'
instance {S : Type} : Monad (M S) where
  pure := M.pure
  bind := M.bind
def bad {S α : Type} : M S α := fun _ => .bad
def ofO {S α : Type} : Option α → M S α
  | some a => pure a
  | none => bad
/-- no exception leaves -/
def noX {S α : Type} (m : M S α) : M S α := fun s => match m s with
  | .exn _ _ _ => .bad
  | r => r

inductive Bop where | add | sub | mul | fdiv | mod | pow | shl | shr | band | bor | bxor
  deriving DecidableEq
inductive Cop where | eq | ne | lt | le | gt | ge | is_ | isNot | in_ | notIn
  deriving DecidableEq
inductive Ty where | tuple | list | int | bool | str
  deriving DecidableEq
inductive Prim where | len | tuple | list | int | abs | sum | all | any | isinst (t : Ty) | str | min2 | max2 | gcd | max1 | sorted
  deriving DecidableEq
inductive Mth where | index | count
  deriving DecidableEq
inductive SrcK where | seq | rng1 | rng2 | rv | enum | zip
  deriving DecidableEq
/-- one thing of an expression: x[::-1], sorted(set(x)), len(set(x)), list(range(x)) -/
inductive Fu where | rev | sset | lset | lrng
  deriving DecidableEq
/-- a target: a name, a tuple of names -/
inductive Tg where
  | nm (i : Nat)
  | tup (is : List Nat)
  deriving DecidableEq

/-- scalars -/
inductive Sc where
  | non | bl (b : Bool) | int (i : Int) | str (x : Str)
  deriving DecidableEq
def Sc.d : Sc → PyData
  | .non => .none
  | .bl b => .bool b
  | .int i => .int i
  | .str x => .str x

mutual
inductive Ex where
  | var (i : Nat)
  | con (c : Sc)
  | glob (x : Str)
  | bop (o : Bop) (a b : Ex)
  | neg (a : Ex)
  | cmp (o : Cop) (a b : Ex)
  | chain (o1 o2 : Cop) (a b c : Ex)
  | and (a b : Ex)
  | or (a b : Ex)
  | not (a : Ex)
  | ite (c : Tx) (a b : Ex)
  | idx (a i : Ex)
  | slc (a : Ex) (lo hi : Option Ex)
  | tup (es : List Ex)
  | lst (es : List Ex)
  | call (f : Str) (es : List Ex)
  | prim (p : Prim) (es : List Ex)
  | meth (m : Mth) (o : Ex) (es : List Ex)
  | trng (a : Ex)
  | fus (k : Fu) (a : Ex)
  | stp (a : Ex) (lo : Option Ex) (k : Nat)
  | comp (elt : Ex) (tg : Tg) (k : SrcK) (src : List Ex) (ifs : List Tx) (slots : List Nat)
  | comp2 (elt : Ex) (tg : Tg) (k : SrcK) (src : List Ex) (tg2 : Tg) (k2 : SrcK) (src2 : List Ex) (ifs : List Tx) (slots slots2 : List Nat)
  | comp3 (elt : Ex) (tg : Tg) (k : SrcK) (src : List Ex) (tg2 : Tg) (k2 : SrcK) (src2 : List Ex) (tg3 : Tg) (k3 : SrcK) (src3 : List Ex) (slots slots2 slots3 : List Nat)
inductive Tx where
  | and (a b : Tx)
  | or (a b : Tx)
  | not (a : Tx)
  | e (x : Ex)
end

/-- what an except suite says of the error that it holds -/
inductive SuE where
  | con (c : Sc)
  | var (i : Nat)
  | val
  | isa (x : Str)
  | isaT (x y : Str)
  | not (a : SuE)
  | and (a b : SuE)
  | or (a b : SuE)
  | eqv (i : Nat)
/-- a clause except c as (slot i): what it sets, what it returns -/
structure Hd where
  c : Str
  i : Nat
  sets : List (Nat × SuE)
  tp : Bool
  r : List SuE
inductive St' where
  | asg (t : Tg) (e : Ex)
  | own (i : Nat) (e : Ex)
  | asgR (i : Nat) (e : Ex)
  | par (i j : Nat) (a b : Ex)
  | par3 (i j k : Nat) (a b c : Ex)
  | parO (i j : Nat) (a b : Ex)
  | parP (i j : Nat) (a b : Ex)
  | share (i : Nat)
  | aug (i : Nat) (o : Bop) (e : Ex)
  | app (i : Nat) (e : Ex)
  | setIx (i : Nat) (ix e : Ex)
  | appPop (i j : Nat) (e : Ex)
  | augIx (i : Nat) (o : Bop) (ix e : Ex)
  | ext (i j : Nat)
  | expr (e : Ex)
  | ret (e : Ex)
  | retN
  | ifs (c : Tx) (a b : List St')
  | loop (tg : Tg) (k : SrcK) (src : List Ex) (body : List St')
  | while (c : Tx) (body : List St')
  | raise (c : Str) (arg : Option Ex)
  | tryN (body : List St')
  | tryy (body : List St') (hs : List (Str × List St'))
  | tryA (body : List St') (c : Str) (i : Option Nat) (sets : List (Nat × SuE)) (tp : Bool) (r : List SuE)
  | tryM (body : List St') (hs : List Hd)
  | tryI (body : List St') (c : Str) (i j : Nat) (z : Str)
  | brk | cont | pass
  | never

/-- a slot: not assigned, data, a list of one's own, the hand -/
inductive Sl where
  | no
  | v (d : PyData)
  | own (xs : List PyData)
  | hand
  | rng (n : Int)
abbrev Env := List Sl

/-! ### operations on data -/
def smallI (i : Int) : Bool := decide (i.natAbs < 18446744073709551616)
def mulOk (i j : Int) : Bool := smallI i || smallI j || decide (i.natAbs.log2 + j.natAbs.log2 < 1000000)
def bopD : Bop → PyData → PyData → Option PyData
  | .add, .int i, .int j => some (.int (i + j))
  | .add, .str x, .str y => if x.length + y.length ≤ sizeLine then some (.str (x ++ y)) else none
  | .add, .list xs, .list ys => if xs.length + ys.length ≤ sizeLine then some (.list (xs ++ ys)) else none
  | .add, .tuple xs, .tuple ys => if xs.length + ys.length ≤ sizeLine then some (.tuple (xs ++ ys)) else none
  | .sub, .int i, .int j => some (.int (i - j))
  | .mul, .int i, .int j => if mulOk i j then some (.int (i * j)) else none
  | .mul, .list xs, .int k => if smallI k && decide (-(2 ^ 63) ≤ k ∧ k < 2 ^ 63) && decide (xs.length * k.toNat ≤ sizeLine) then some (.list (List.replicate k.toNat xs).flatten) else none
  | .mul, .tuple xs, .int k => if k = 1 then some (.tuple xs) else if !xs.isEmpty && decide (2 ≤ k) && decide (k ≤ 1000) && decide (xs.length ≤ 1000) then some (.tuple (List.replicate k.toNat xs).flatten) else none
  | .fdiv, .int i, .int j => if decide (0 < j) && decide (j.natAbs.log2 < 9000) then some (.int (i / j)) else none
  | .mod, .int i, .int j => if 0 < j then some (.int (i % j)) else none
  | .pow, .int i, .int j => if decide (0 ≤ j) && decide (j ≤ 1000000) && smallI i then some (.int (i ^ j.toNat)) else none
  | .shl, .int i, .int j => if decide (0 ≤ j) && decide (j ≤ 1000000) && smallI i then some (.int (i * 2 ^ j.toNat)) else none
  | .shr, .int i, .int j => if 0 ≤ j then some (.int (i / 2 ^ j.toNat)) else none
  | .band, .int i, .int j => some (.int (Builtin.bitAnd i j))
  | .bor, .int i, .int j => some (.int (Builtin.bitOr i j))
  | .bxor, .int i, .int j => some (.int (Builtin.bitXor i j))
  | _, _, _ => none
def augD : Bop → Int → Int → Option Int
  | .add, a, b => some (a + b)
  | .sub, a, b => some (a - b)
  | _, _, _ => none
def flatD : PyData → Bool
  | .none | .bool _ | .int _ | .str _ => true
  | _ => false
def memD (d : PyData) (ds : List PyData) : Bool := ds.any fun z => PyData.eqv z d
def isD : PyData → PyData → Option Bool
  | .none, .none => some true
  | _, .none => some false
  | .bool a, .bool b => some (a == b)
  | .int _, .bool _ => some false
  | .str _, .bool _ => some false
  | .none, .bool _ => some false
  | _, _ => none
def cmpB : Cop → PyData → PyData → Option Bool
  | .eq, a, b => if SeqAt.shaped a && SeqAt.shaped b then some (PyData.eqv a b) else none
  | .ne, a, b => if SeqAt.shaped a && SeqAt.shaped b then some (!PyData.eqv a b) else none
  | .lt, .int i, .int j => some (decide (i < j))
  | .le, .int i, .int j => some (decide (i ≤ j))
  | .gt, .int i, .int j => some (decide (j < i))
  | .ge, .int i, .int j => some (decide (j ≤ i))
  | .is_, a, b => isD a b
  | .isNot, a, b => (isD a b).map (!·)
  | .in_, a, .list ds => if SeqAt.shaped a && SeqAt.shaped (.list ds) then some (memD a ds) else none
  | .notIn, a, .list ds => if SeqAt.shaped a && SeqAt.shaped (.list ds) then some (!memD a ds) else none
  | .in_, a, .tuple ds => if flatD a && ds.all flatD then some (memD a ds) else none
  | .notIn, a, .tuple ds => if flatD a && ds.all flatD then some (!memD a ds) else none
  | _, _, _ => none
def cmpD (o : Cop) (a b : PyData) : Option PyData := (cmpB o a b).map .bool
def truth : PyData → Option Bool
  | .none => some false
  | .bool b => some b
  | .int i => some (i != 0)
  | .str x => if x.length ≤ sizeLine then some ((x.length : Int) != 0) else none
  | .list xs => some (!xs.isEmpty)
  | .tuple xs => some (!xs.isEmpty)
  | .dict _ => none
def idxD : PyData → PyData → Option PyData
  | .list xs, .int i => atI xs i
  | .tuple xs, .int i => atI xs i
  | _, _ => none
def cutD (xs : List PyData) (lo hi : Option Int) : List PyData := (xs.drop (HT.sIx xs.length 0 lo)).take (HT.sIx xs.length xs.length hi - HT.sIx xs.length 0 lo)
def slcD : PyData → Option Int → Option Int → Option PyData
  | .list xs, lo, hi => some (.list (cutD xs lo hi))
  | .tuple xs, lo, hi => some (.tuple (cutD xs lo hi))
  | _, _, _ => none
def intsD : List PyData → Option (List Int)
  | [] => some []
  | .int i :: r => (intsD r).map (i :: ·)
  | _ => none
def boolsD : List PyData → Option (List Bool)
  | [] => some []
  | .bool i :: r => (boolsD r).map (i :: ·)
  | _ => none
def sortI (ns : List Int) : List Int := ns.mergeSort fun a b => decide (a ≤ b)
/-- x before y: by the first place at which they differ -/
def ltL : List Int → List Int → Bool
  | [], [] => false
  | [], _ :: _ => true
  | _ :: _, [] => false
  | x :: xs, y :: ys => if x = y then ltL xs ys else decide (x < y)
def sortT (xs : List (List Int)) : List (List Int) := xs.mergeSort fun a b => !ltL b a
def tupsD : List PyData → Option (List (List Int))
  | [] => some []
  | .tuple ds :: r => (intsD ds).bind fun ns => (tupsD r).map (ns :: ·)
  | _ => none
def lenOk : List (List Int) → Bool
  | [] => false
  | ns :: r => decide (1 ≤ ns.length) && r.all fun ms => decide (ms.length = ns.length)
def tupI (ns : List Int) : PyData := .tuple (ns.map .int)
/-- ints, or tuples of ints of one length, in order -/
def sortD (xs : List PyData) : Option (List PyData) := match intsD xs with
  | some ns => some ((sortI ns).map .int)
  | none => (tupsD xs).bind fun xss => if lenOk xss then some ((sortT xss).map tupI) else none
def maxI : List Int → Option Int
  | [] => none
  | x :: r => some (r.foldl max x)
def tyD : Ty → PyData → Bool
  | .tuple, .tuple _ => true
  | .list, .list _ => true
  | .int, .int _ => true
  | .int, .bool _ => true
  | .bool, .bool _ => true
  | .str, .str _ => true
  | _, _ => false
def noDict : PyData → Bool
  | .dict _ => false
  | _ => true
def primD : Prim → List PyData → Option PyData
  | .len, [.list xs] => some (.int xs.length)
  | .len, [.tuple xs] => some (.int xs.length)
  | .len, [.str x] => if x.length ≤ sizeLine then some (.int x.length) else none
  | .tuple, [.list xs] => some (.tuple xs)
  | .tuple, [.tuple xs] => some (.tuple xs)
  | .list, [.list xs] => some (.list xs)
  | .list, [.tuple xs] => some (.list xs)
  | .int, [.int i] => some (.int i)
  | .int, [.bool b] => some (.int (if b then 1 else 0))
  | .abs, [.int i] => some (.int (if i < 0 then -i else i))
  | .sum, [.list xs] => (intsD xs).map fun ns => .int ns.sum
  | .sum, [.tuple xs] => (intsD xs).map fun ns => .int ns.sum
  | .all, [.list xs] => (boolsD xs).map fun bs => .bool (bs.all id)
  | .any, [.list xs] => (boolsD xs).map fun bs => .bool (bs.any id)
  | .isinst t, [x] => if noDict x then some (.bool (tyD t x)) else none
  | .str, [.int i] => if i.natAbs.log2 < 1920 then some (.str (toString i)) else none
  | .min2, [.int i, .int j] => some (.int (if j < i then j else i))
  | .max2, [.int i, .int j] => some (.int (if j > i then j else i))
  | .max1, [.list xs] => ((intsD xs).bind maxI).map .int
  | .max1, [.tuple xs] => ((intsD xs).bind maxI).map .int
  | .sorted, [.list xs] => (sortD xs).map .list
  | .gcd, [.int i, .int j] => some (.int ((Nat.gcd i.natAbs j.natAbs : Nat) : Int))
  | _, _ => none
def findD (d : PyData) : List PyData → Option Nat
  | [] => none
  | x :: r => if PyData.eqv x d then some 0 else (findD d r).map (· + 1)
def seqD : PyData → Bool
  | .list _ | .tuple _ => true
  | _ => false
def methD : Mth → PyData → List PyData → Option PyData
  | .index, .list xs, [d] => if flatD d && xs.all flatD then (findD d xs).map fun j => .int (j : Nat) else none
  | .index, .tuple xs, [d] => if flatD d && xs.all flatD then (findD d xs).map fun j => .int (j : Nat) else none
  | .count, .list xs, [d] => if flatD d && xs.all flatD then some (.int (xs.countP (fun z => PyData.eqv z d) : Nat)) else none
  | .count, .tuple xs, [d] => if flatD d && xs.all flatD then some (.int (xs.countP (fun z => PyData.eqv z d) : Nat)) else none
  | _, _, _ => none
def rngD (a : Int) (n : Nat) : List PyData := (List.range n).map fun (i : Nat) => .int (a + i)
/-- the ints that are met, each once -/
def dedI : List Int → List Int
  | [] => []
  | x :: r => if r.contains x then dedI r else x :: dedI r
def fusD : Fu → PyData → Option PyData
  | .rev, .tuple xs => some (.tuple xs.reverse)
  | .rev, .list xs => some (.list xs.reverse)
  | .sset, .tuple xs => (intsD xs).bind fun ns => if ns.length ≤ 4000 then some (.list ((sortI (dedI ns)).map .int)) else none
  | .lset, .tuple xs => (intsD xs).bind fun ns => if ns.length ≤ 4000 then some (.int ((dedI ns).length : Nat)) else none
  | .lrng, .int n => if n ≤ 16777216 ∧ -4611686018427387904 ≤ n then some (.list (rngD 0 n.toNat)) else none
  | _, _ => none
/-- the places of xs[lo::k] -/
def stepIx (lo : Int) (k n : Nat) : List Nat := sliceRange (sliceBounds (some lo) none (some (k : Int)) n).1 (sliceBounds (some lo) none (some (k : Int)) n).2.1 (sliceBounds (some lo) none (some (k : Int)) n).2.2
def stpD : PyData → Option Int → Nat → Option PyData
  | .list xs, some lo, k => if 1 ≤ k then some (.list ((stepIx lo k xs.length).filterMap (xs[·]?))) else none
  | _, _, _ => none
/-- each item with its place -/
def zipD (xs ys : List PyData) : List PyData := List.zipWith (fun x y => .tuple [x, y]) xs ys
def enumD (xs : List PyData) : List PyData := xs.zipIdx.map fun p => .tuple [.int (p.2 : Nat), p.1]
def srcD : SrcK → List PyData → Option (List PyData)
  | .seq, [.list xs] => some xs
  | .seq, [.tuple xs] => some xs
  | .rng1, [.int n] => if n ≤ 16777216 ∧ -4611686018427387904 ≤ n then some (rngD 0 n.toNat) else none
  | .rng2, [.int a, .int b] => if (-4611686018427387904 ≤ a ∧ a < 4611686018427387904) ∧ (-4611686018427387904 ≤ b ∧ b < 4611686018427387904) ∧ b - a ≤ 16777216 then some (rngD a (b - a).toNat) else none
  | .enum, [.tuple xs] => some (enumD xs)
  | .zip, [.tuple xs, .tuple ys] => some (zipD xs ys)
  | _, _ => none
def setSlots : List Nat → List PyData → Env → Option Env
  | [], [], env => some env
  | i :: is, d :: ds, env => if i < env.length then setSlots is ds (env.set i (.v d)) else none
  | _, _, _ => none
def setTg : Tg → PyData → Env → Option Env
  | .nm i, d, env => if i < env.length then some (env.set i (.v d)) else none
  | .tup is, .tuple ds, env => setSlots is ds env
  | .tup is, .list ds, env => setSlots is ds env
  | .tup _, _, _ => none
def wipeE (env : Env) : List Nat → Env
  | [] => env
  | v :: vs => (wipeE env vs).set v .no
def partD : PyData → Option Int
  | .int i => some i
  | _ => none

/-! ### evaluation -/
section
variable {S : Type}
/-- a value that is only read -/
def rdE (a : Ex) (env : Env) (m : M S PyData) : M S PyData := match a with
  | .var i => match env[i]? with
    | some (.v d) => pure d
    | some (.own ds) => pure (.list ds)
    | _ => bad
  | _ => m
/-- what a comprehension walks: a range object under a name, or as told -/
def rvE (k : SrcK) (src : List Ex) (env : Env) (m : M S (List PyData)) : M S (List PyData) := match k with
  | .rv => match src with
    | [.var i] => match env[i]? with
      | some (.rng n) => ofO (srcD .rng1 [.int n])
      | _ => bad
    | _ => bad
  | _ => m
def argE (a : Ex) (env : Env) (m : M S PyData) : M S AV := match a with
  | .var i => match env[i]? with
    | some (.v d) => pure (.d d)
    | some .hand => pure .h
    | _ => bad
  | _ => do
    let d ← m
    pure (.d d)
def pushO {α : Type} : Option α → List α → List α
  | some y, ys => y :: ys
  | none, ys => ys
/-- a comprehension's walk -/
def filtM {α β : Type} (f : α → M S (Option β)) : List α → M S (List β)
  | [] => pure []
  | x :: r => do
    let y ← f x
    let ys ← filtM f r
    pure (pushO y ys)
def setTg' (tg : Tg) (slots : List Nat) (env : Env) (item : PyData) : Option Env := setTg tg item (wipeE env slots)
def turnK (me : M S PyData) : Bool → M S (Option PyData)
  | true => do
    let y ← me
    pure (some y)
  | false => pure none
/-- a turn of a comprehension -/
def turnM (tg : Tg) (slots : List Nat) (mi : Env → M S Bool) (me : Env → M S PyData) (env : Env) (item : PyData) : M S (Option PyData) := do
  let env' ← ofO (setTg' tg slots env item)
  let b ← mi env'
  turnK (me env') b
/-- a walk whose turns make lists -/
def flatM {α β : Type} (f : α → M S (List β)) : List α → M S (List β)
  | [] => pure []
  | x :: r => do
    let ys ← f x
    let zs ← flatM f r
    pure (ys ++ zs)
/-- a turn of the outer for of two -/
def turn2 (tg : Tg) (slots : List Nat) (ms2 : Env → M S (List PyData)) (tg2 : Tg) (slots2 : List Nat) (mi : Env → M S Bool) (me : Env → M S PyData) (env : Env) (item : PyData) : M S (List PyData) := do
  let env' ← ofO (setTg' tg slots env item)
  let items2 ← ms2 env'
  filtM (turnM tg2 slots2 mi me env') items2
/-- a turn of the outer for of three -/
def turn3 (tg : Tg) (slots : List Nat) (ms2 : Env → M S (List PyData)) (tg2 : Tg) (slots2 : List Nat) (ms3 : Env → M S (List PyData)) (tg3 : Tg) (slots3 : List Nat) (me : Env → M S PyData) (env : Env) (item : PyData) : M S (List PyData) := do
  let env' ← ofO (setTg' tg slots env item)
  let items2 ← ms2 env'
  flatM (turn2 tg2 slots2 ms3 tg3 slots3 (fun _ => pure true) me env') items2
def ownB : Sl → Bool
  | .own _ => true
  | _ => false
/-- no list of one's own -/
def noOwn (env : Env) : Bool := env.all fun x => !ownB x
abbrev Tbl (S : Type) := Str → Option (List AV → M S PyData)
abbrev Gls := Str → Option PyData
def lenE (ds : List PyData) : M S PUnit := if ds.length ≤ sizeLine then pure ⟨⟩ else bad
variable (T : Tbl S) (G : Gls)
mutual
def evE : Ex → Env → M S PyData
  | .var i, env => match env[i]? with
    | some (.v d) => pure d
    | _ => bad
  | .con c, _ => pure c.d
  | .glob x, _ => ofO (G x)
  | .bop o a b, env => do
    let x ← rdE a env (evE a env)
    let y ← rdE b env (evE b env)
    ofO (bopD o x y)
  | .neg a, env => do
    let x ← rdE a env (evE a env)
    match x with
    | .int i => pure (.int (-i))
    | _ => bad
  | .cmp o a b, env => do
    let x ← rdE a env (evE a env)
    let y ← rdE b env (evE b env)
    ofO (cmpD o x y)
  | .chain o1 o2 a b c, env => do
    let x ← rdE a env (evE a env)
    let y ← rdE b env (evE b env)
    match cmpB o1 x y with
    | some true => do
      let z ← rdE c env (evE c env)
      ofO (cmpD o2 y z)
    | some false => pure (.bool false)
    | none => bad
  | .and a b, env => do
    let x ← evE a env
    match x with
    | .bool true => evE b env
    | .bool false => pure (.bool false)
    | _ => bad
  | .or a b, env => do
    let x ← evE a env
    match x with
    | .bool true => pure (.bool true)
    | .bool false => evE b env
    | _ => bad
  | .not a, env => do
    let x ← evE a env
    match x with
    | .bool b => pure (.bool (!b))
    | _ => bad
  | .ite c a b, env => do
    let t ← evT c env
    match t with
    | true => evE a env
    | false => evE b env
  | .idx a i, env => do
    let x ← rdE a env (evE a env)
    let y ← rdE i env (evE i env)
    ofO (idxD x y)
  | .slc a lo hi, env => do
    let x ← rdE a env (evE a env)
    let l ← evO lo env
    let h ← evO hi env
    ofO (slcD x l h)
  | .tup es, env => do
    let ds ← evEs es env
    lenE ds
    pure (.tuple ds)
  | .lst es, env => do
    let ds ← evEs es env
    lenE ds
    pure (.list ds)
  | .call f es, env =>
    match T f with
    | some F => do
      let avs ← evAs es env
      F avs
    | none => bad
  | .prim p es, env => do
    let ds ← evRs es env
    ofO (primD p ds)
  | .meth m o es, env => do
    let x ← rdE o env (evE o env)
    match seqD x with
    | true => do
      let ds ← evRs es env
      ofO (methD m x ds)
    | false => bad
  | .trng a, env => do
    let x ← rdE a env (evE a env)
    let ds ← ofO (srcD .rng1 [x])
    pure (.tuple ds)
  | .fus k a, env => do
    let x ← rdE a env (evE a env)
    ofO (fusD k x)
  | .stp a lo k, env => do
    let x ← rdE a env (evE a env)
    let l ← evO lo env
    ofO (stpD x l k)
  | .comp elt tg k src ifs slots, env => do
    let items ← rvE k src env (do
      let ds ← evRs src env
      ofO (srcD k ds))
    lenE items
    let out ← noX (filtM (turnM tg slots (evTs ifs) (evE elt) env) items)
    pure (.list out)
  | .comp2 elt tg k src tg2 k2 src2 ifs slots slots2, env =>
    match noOwn env with
    | true => do
      let items ← rvE k src env (do
        let ds ← evRs src env
        ofO (srcD k ds))
      let out ← noX (flatM (turn2 tg slots (fun env1 => do
        let ds ← evEs src2 env1
        ofO (srcD k2 ds)) tg2 slots2 (evTs ifs) (evE elt) env) items)
      lenE out
      pure (.list out)
    | false => bad
  | .comp3 elt tg k src tg2 k2 src2 tg3 k3 src3 slots slots2 slots3, env =>
    match noOwn env with
    | true => do
      let items ← rvE k src env (do
        let ds ← evRs src env
        ofO (srcD k ds))
      let out ← noX (flatM (turn3 tg slots (fun env1 => do
        let ds ← evEs src2 env1
        ofO (srcD k2 ds)) tg2 slots2 (fun env2 => do
        let ds ← evEs src3 env2
        ofO (srcD k3 ds)) tg3 slots3 (evE elt) env) items)
      lenE out
      pure (.list out)
    | false => bad
def evT : Tx → Env → M S Bool
  | .and a b, env => do
    let x ← evT a env
    match x with
    | true => evT b env
    | false => pure false
  | .or a b, env => do
    let x ← evT a env
    match x with
    | true => pure true
    | false => evT b env
  | .not a, env => do
    let x ← evT a env
    pure (!x)
  | .e a, env => do
    let x ← rdE a env (evE a env)
    ofO (truth x)
def evO : Option Ex → Env → M S (Option Int)
  | none, _ => pure none
  | some a, env => do
    let x ← rdE a env (evE a env)
    match x with
    | .int i => pure (some i)
    | _ => bad
def evEs : List Ex → Env → M S (List PyData)
  | [], _ => pure []
  | a :: r, env => do
    let x ← evE a env
    let xs ← evEs r env
    pure (x :: xs)
def evRs : List Ex → Env → M S (List PyData)
  | [], _ => pure []
  | a :: r, env => do
    let x ← rdE a env (evE a env)
    let xs ← evRs r env
    pure (x :: xs)
def evAs : List Ex → Env → M S (List AV)
  | [], _ => pure []
  | a :: r, env => do
    let x ← argE a env (evE a env)
    let xs ← evAs r env
    pure (x :: xs)
def evTs : List Tx → Env → M S Bool
  | [], _ => pure true
  | a :: r, env => do
    let x ← evT a env
    match x with
    | true => evTs r env
    | false => pure false
end

/-! ### statements -/
inductive Fl where
  | nx (env : Env)
  | ret (d : PyData)
  | bk (env : Env)
  | ct (env : Env)
inductive RS (S : Type) where
  | ok (f : Fl) (s : S)
  | exn (c : Str) (p : Option PyData) (env : Env) (s : S)
  | bad
def onE {α : Type} (r : R S α) (env : Env) (k : α → S → RS S) : RS S := match r with
  | .ok a s => k a s
  | .exn c p s => .exn c p env s
  | .bad => .bad
def onO {α : Type} (o : Option α) (k : α → RS S) : RS S := match o with
  | some a => k a
  | none => .bad
def thenS (r : RS S) (k : Env → S → RS S) : RS S := match r with
  | .ok (.nx env) s => k env s
  | r => r
/-- behind a turn: the next one, or the loop's end -/
def againS (r : RS S) (k : Env → S → RS S) : RS S := match r with
  | .ok (.nx env) s => k env s
  | .ok (.ct env) s => k env s
  | .ok (.bk env) s => .ok (.nx env) s
  | x => x
/-- a for over items -/
def loopS (tg : Tg) (body : Env → S → RS S) : List PyData → Env → S → RS S
  | [], env, s => .ok (.nx env) s
  | d :: r, env, s => onO (setTg tg d env) fun env1 => againS (body env1 s) (loopS tg body r)
def whileS (c : Env → M S Bool) (body : Env → S → RS S) : Nat → Env → S → RS S
  | 0, _, _ => .bad
  | n + 1, env, s => onE (c env s) env fun b s1 => match b with
    | true => againS (body env s1) (whileS c body n)
    | false => .ok (.nx env) s1
/-- what raises is no answer -/
def calmS (r : RS S) : RS S := match r with
  | .exn _ _ _ _ => .bad
  | x => x
variable (sub : Str → Str → Bool) (F : Nat)
/-- a class that may be named -/
def okN (x : Str) : Bool := sub x x || x == "BreakError" || x == "ValueError"
/-- the class that carries a value -/
def lowB (c : Str) : Bool := c == "BadTable"
def suE : SuE → Env → Str → Option PyData → Option PyData
  | .con k, _, _, _ => some k.d
  | .var j, env, _, _ => match env[j]? with
    | some (.v d) => some d
    | _ => none
  | .val, _, c, p => match lowB c with
    | true => p
    | false => none
  | .isa x, _, c, _ => match okN sub x with
    | true => some (.bool (sub c x))
    | false => none
  | .isaT x y, _, c, _ => match okN sub x && okN sub y with
    | true => some (.bool (sub c x || sub c y))
    | false => none
  | .not a, env, c, p => match suE a env c p with
    | some (.bool b) => some (.bool (!b))
    | _ => none
  | .and a b, env, c, p => match suE a env c p with
    | some (.bool true) => suE b env c p
    | some (.bool false) => some (.bool false)
    | _ => none
  | .or a b, env, c, p => match suE a env c p with
    | some (.bool true) => some (.bool true)
    | some (.bool false) => suE b env c p
    | _ => none
  | .eqv j, env, c, p => match lowB c, p, env[j]? with
    | true, some d, some (.v x) => cmpD .eq d x
    | _, _, _ => none
def suEs : List SuE → Env → Str → Option PyData → Option (List PyData)
  | [], _, _, _ => some []
  | a :: r, env, c, p => match suE sub a env c p with
    | some d => (suEs r env c p).map (d :: ·)
    | none => none
/-- an except suite: names are set, something is returned -/
def suRun : List (Nat × SuE) → Bool → List SuE → Env → Str → Option PyData → Option PyData
  | (j, a) :: l, tp, r, env, c, p => match suE sub a env c p with
    | some d => if j < env.length then suRun l tp r (env.set j (.v d)) c p else none
    | none => none
  | [], true, r, env, c, p => match suEs sub r env c p with
    | some ds => if ds.length ≤ sizeLine then some (.tuple ds) else none
    | none => none
  | [], false, [a], env, c, p => suE sub a env c p
  | [], false, _, _, _, _ => none
def hdE (i : Option Nat) (env : Env) : Option Env := match i with
  | some i => if i < env.length then some (env.set i .no) else none
  | none => some env
/-- an except suite: if e.value != y or isinstance(e, z): return False -/
def ifRun (j : Nat) (z : Str) (env : Env) (c : Str) (p : Option PyData) : Option (Option PyData) := match suE sub .val env c p, suE sub (.var j) env c p with
  | some d, some y => (match cmpD .ne d y with
    | some (.bool true) => some (some (.bool false))
    | some (.bool false) => (match suE sub (.isa z) env c p with
      | some (.bool true) => some (some (.bool false))
      | some (.bool false) => some none
      | _ => none)
    | _ => none)
  | _, _ => none
def runHs : List Hd → Str → Option PyData → Env → S → RS S
  | [], x, p, env, s => .exn x p env s
  | h :: r, x, p, env, s => match sub x h.c with
    | true => (match (hdE (some h.i) env).bind fun e => suRun sub h.sets h.tp h.r e x p with
      | some d => .ok (.ret d) s
      | none => .bad)
    | false => runHs r x p env s
mutual
def evS : St' → Env → S → RS S
  | .asg t e, env, s => onE (evE T G e env s) env fun d s => onO (setTg t d env) fun env' => .ok (.nx env') s
  | .own i e, env, s => onE (evE T G e env s) env fun d s => match d with
    | .list ds => if i < env.length then .ok (.nx (env.set i (.own ds))) s else .bad
    | _ => .bad
  | .asgR i e, env, s => onE (rdE e env (evE T G e env) s) env fun d s => match d with
    | .int n => if i < env.length ∧ n ≤ 16777216 ∧ -4611686018427387904 ≤ n then .ok (.nx (env.set i (.rng n))) s else .bad
    | _ => .bad
  | .par i j a b, env, s => onE (evE T G a env s) env fun x s => onE (evE T G b env s) env fun y s =>
      if i < env.length ∧ j < env.length ∧ i ≠ j then .ok (.nx ((env.set i (.v x)).set j (.v y))) s else .bad
  | .parO i j a b, env, s => onE (evE T G a env s) env fun x s => onE (evE T G b env s) env fun y s => match x with
    | .list ds => if i < env.length ∧ j < env.length ∧ i ≠ j then .ok (.nx ((env.set i (.own ds)).set j (.v y))) s else .bad
    | _ => .bad
  | .parP i j a b, env, s => onE (evE T G a env s) env fun x s => onE (evE T G b env s) env fun y s => match y with
    | .list ds => if i < env.length ∧ j < env.length ∧ i ≠ j then .ok (.nx ((env.set i (.v x)).set j (.own ds))) s else .bad
    | _ => .bad
  | .par3 i j k a b c, env, s => onE (evE T G a env s) env fun x s => onE (evE T G b env s) env fun y s => onE (evE T G c env s) env fun z s =>
      if i < env.length ∧ j < env.length ∧ k < env.length ∧ i ≠ j ∧ i ≠ k ∧ j ≠ k then .ok (.nx (((env.set i (.v x)).set j (.v y)).set k (.v z))) s else .bad
  | .share i, env, s => match env[i]? with
    | some (.own ds) => .ok (.nx (env.set i (.v (.list ds)))) s
    | some (.v _) => .ok (.nx env) s
    | _ => .bad
  | .aug i o e, env, s => match env[i]? with
    | some (.v x) => onE (rdE e env (evE T G e env) s) env fun y s => match x, y with
      | .int a, .int b => onO (augD o a b) fun r => .ok (.nx (env.set i (.v (.int r)))) s
      | _, _ => .bad
    | _ => .bad
  | .app i e, env, s => match env[i]? with
    | some (.own ds) => onE (evE T G e env s) env fun d s => if ds.length < sizeLine then .ok (.nx (env.set i (.own (ds ++ [d])))) s else .bad
    | _ => .bad
  | .appPop i j e, env, s => match env[i]?, env[j]? with
    | some (.own ds), some (.own es) => onE (evE T G e env s) env fun d s => (match d with
      | .int k => (match es[k.toNat]? with
        | some y => if (0 ≤ k ∧ k < 4611686018427387904) ∧ ds.length < sizeLine ∧ i ≠ j then .ok (.nx ((env.set j (.own (es.eraseIdx k.toNat))).set i (.own (ds ++ [y])))) s else .bad
        | none => .bad)
      | _ => .bad)
    | _, _ => .bad
  | .augIx i o ix e, env, s => match env[i]? with
    | some (.own ds) => onE (rdE ix env (evE T G ix env) s) env fun k s => (match k with
      | .int k => (match (if 0 ≤ k then ds[k.toNat]? else none) with
        | some (.int a) => onE (rdE e env (evE T G e env) s) env fun y s => (match y with
          | .int b => onO (augD o a b) fun r => .ok (.nx (env.set i (.own (ds.set k.toNat (.int r))))) s
          | _ => .bad)
        | _ => .bad)
      | _ => .bad)
    | _ => .bad
  | .ext i j, env, s => match env[i]?, env[j]? with
    | some (.own ds), some (.own es) => if i ≠ j ∧ ds.length + es.length ≤ sizeLine then .ok (.nx (env.set i (.own (ds ++ es)))) s else .bad
    | _, _ => .bad
  | .setIx i ix e, env, s => onE (evE T G e env s) env fun d s => match env[i]? with
    | some (.own ds) => onE (rdE ix env (evE T G ix env) s) env fun k s => (match k with
      | .int k => onO (ixN ds.length k) fun j => .ok (.nx (env.set i (.own (ds.set j d)))) s
      | _ => .bad)
    | _ => .bad
  | .expr e, env, s => onE (evE T G e env s) env fun _ s => .ok (.nx env) s
  | .ret e, env, s => onE (evE T G e env s) env fun d s => .ok (.ret d) s
  | .retN, _, s => .ok (.ret .none) s
  | .ifs c a b, env, s => onE (evT T G c env s) env fun t s => match t with
    | true => evSs a env s
    | false => evSs b env s
  | .loop tg k src body, env, s => onE ((do
      let ds ← evEs T G src env
      ofO (srcD k ds) : M S (List PyData)) s) env fun items s => loopS tg (evSs body) items env s
  | .while c body, env, s => whileS (evT T G c) (evSs body) F env s
  | .raise c none, env, s => match sub c c && !lowB c with
    | true => .exn c none env s
    | false => .bad
  | .raise c (some e), env, s => match sub c c && lowB c with
    | true => onE (evE T G e env s) env fun d s => .exn c (some d) env s
    | false => .bad
  | .tryN body, env, s => calmS (evSs body env s)
  | .tryy body hs, env, s => match evSs body env s with
    | .exn c p env' s' => evH hs c p env' s'
    | x => x
  | .tryA body c i sets tp r, env, s => match evSs body env s with
    | .exn x p env' s' => (match okN sub c with
      | true => (match sub x c with
        | true => (match (hdE i env').bind fun e => suRun sub sets tp r e x p with
          | some d => .ok (.ret d) s'
          | none => .bad)
        | false => .exn x p env' s')
      | false => .bad)
    | x => x
  | .tryI body c i j z, env, s => match evSs body env s with
    | .exn x p env' s' => (match okN sub c with
      | true => (match sub x c with
        | true => (match (hdE (some i) env').bind (fun e => ifRun sub j z e x p) with
          | some (some d) => .ok (.ret d) s'
          | some none => .ok (.nx (env'.set i .no)) s'
          | none => .bad)
        | false => .exn x p env' s')
      | false => .bad)
    | x => x
  | .tryM body hs, env, s => match hs.all (fun h => okN sub h.c) with
    | true => (match evSs body env s with
      | .exn x p env' s' => runHs sub hs x p env' s'
      | x => x)
    | false => .bad
  | .brk, env, s => .ok (.bk env) s
  | .cont, env, s => .ok (.ct env) s
  | .pass, env, s => .ok (.nx env) s
  | .never, _, _ => .bad
def evSs : List St' → Env → S → RS S
  | [], env, s => .ok (.nx env) s
  | a :: r, env, s => match evS a env s with
    | .ok (.nx env') s' => evSs r env' s'
    | x => x
def evH : List (Str × List St') → Str → Option PyData → Env → S → RS S
  | [], c, p, env, s => .exn c p env s
  | (x, suite) :: r, c, p, env, s => match sub c x with
    | true => evSs suite env s
    | false => evH r c p env s
end
/-- a def's body -/
structure Fn where
  names : List Str
  params : List Str
  body : List St'
def slot : AV → Sl
  | .d x => .v x
  | .h => .hand
def startE (n : Nat) (avs : List AV) : Env := avs.map slot ++ List.replicate (n - avs.length) .no
def runF (f : Fn) (avs : List AV) : M S PyData := fun s =>
  if avs.length = f.params.length ∧ f.params.length ≤ f.names.length then
    match evSs T G sub F f.body (startE f.names.length avs) s with
    | .ok (.ret d) s' => .ok d s'
    | .ok (.nx _) s' => .ok .none s'
    | .ok _ _ => .bad
    | .exn c p _ s' => .exn c p s'
    | .bad => .bad
  else .bad
end
/-- the defs' meaning, by how deep calls may go; base: what is told otherwise (the hand's) -/
def den {S : Type} (P : Str → Option Fn) (base : Tbl S) (G : Gls) (sub : Str → Str → Bool) (F : Nat) : Nat → Tbl S
  | 0 => fun _ => none
  | n + 1 => fun f => match base f with
    | some b => some b
    | none => match P f with
      | some fn => some (runF (den P base G sub F n) G sub F fn)
      | none => none
end PV
set_option Elab.async false
set_option linter.all false
set_option maxRecDepth 100000
set_option maxHeartbeats 1000000
/-! PV, second part: data in the heap, what stays, the judgements of the evaluator. -/
namespace PV
open PySem PySem.Spec PyProof.Rows L2

/-! ### data at values: lists are tracked, tuples are known objects or written -/
/-- a tuple without a dict of its own -/
def TupN (K : PySem.W.Frag) (M : Hp) (a : Addr) (vs : List V) : Prop :=
  (∃ o : Obj, M a = some (.frz o (.tup vs)) ∧ o.dict = none) ∨
    ∃ (o : Obj) (its : Array Value) (n : Nat), K.lookup a = some o ∧ o.cls = .type "tuple" ∧ o.dict = none ∧ o.data = .seq its n ∧ its.size ≤ sizeLine ∧ Vals vs its.toList
theorem TupN.sq {K : PySem.W.Frag} {M : Hp} {a : Addr} {vs : List V} (h : TupN K M a vs) : SqT K M a vs := by
  rcases h with ⟨o, h, _⟩ | ⟨o, its, n, h1, h2, _, h3, h4, h5⟩
  · exact .inl (.inr ⟨o, h⟩)
  · exact .inr ⟨o, its, n, h1, h2, h3, h4, h5⟩
mutual
inductive Rp (K : PySem.W.Frag) (M : Hp) : PyData → V → Prop
  | non : Rp K M .none .non
  | bl (b : Bool) : Rp K M (.bool b) (.bl b)
  | int (i : Int) : Rp K M (.int i) (.int i)
  | str (x : Str) : Rp K M (.str x) (.str x)
  | lst {a : Addr} {vs : List V} {ds : List PyData} : M a = some (.lst vs) → RpA K M ds vs → Rp K M (.list ds) (.ref a)
  | tup {a : Addr} {vs : List V} {ds : List PyData} : TupN K M a vs → RpA K M ds vs → Rp K M (.tuple ds) (.ref a)
inductive RpA (K : PySem.W.Frag) (M : Hp) : List PyData → List V → Prop
  | nil : RpA K M [] []
  | cons {d : PyData} {v : V} {ds : List PyData} {vs : List V} : Rp K M d v → RpA K M ds vs → RpA K M (d :: ds) (v :: vs)
end
variable {K : PySem.W.Frag} {M M1 M2 M' H H1 H2 H' : Hp}
theorem Same.sqT {a : Addr} {xs : List V} (e : Same M M') (h : SqT K M a xs) : SqT K M' a xs := by
  rcases h with (h | ⟨o, h⟩) | h
  · exact .inl (.inl (e _ _ h))
  · exact .inl (.inr ⟨o, e _ _ h⟩)
  · exact .inr h
theorem TupN.mono {a : Addr} {xs : List V} (e : Same M M') (h : TupN K M a xs) : TupN K M' a xs := by
  rcases h with ⟨o, h, d⟩ | h
  · exact .inl ⟨o, e _ _ h, d⟩
  · exact .inr h
mutual
theorem Rp.mono (e : Same M M') : ∀ {d : PyData} {v : V}, Rp K M d v → Rp K M' d v
  | _, _, .non => .non
  | _, _, .bl b => .bl b
  | _, _, .int i => .int i
  | _, _, .str x => .str x
  | _, _, .lst h r => .lst (e _ _ h) (RpA.mono e r)
  | _, _, .tup h r => .tup (h.mono e) (RpA.mono e r)
theorem RpA.mono (e : Same M M') : ∀ {ds : List PyData} {vs : List V}, RpA K M ds vs → RpA K M' ds vs
  | _, _, .nil => .nil
  | _, _, .cons h r => .cons (Rp.mono e h) (RpA.mono e r)
end
mutual
theorem Rp.dp : ∀ {d : PyData} {v : V}, Rp K M d v → Dp K M v d
  | _, _, .non => .non
  | _, _, .bl b => .bl b
  | _, _, .int i => .int i
  | _, _, .str x => .str x
  | _, _, .lst h r => .lst (SqL.of h) (RpA.dp r)
  | _, _, .tup h r => .tup h.sq (RpA.dp r)
theorem RpA.dp : ∀ {ds : List PyData} {vs : List V}, RpA K M ds vs → DpAll K M vs ds
  | _, _, .nil => .nil
  | _, _, .cons h r => .cons (Rp.dp h) (RpA.dp r)
end
theorem RpA.len : ∀ {ds : List PyData} {vs : List V}, RpA K M ds vs → vs.length = ds.length
  | _, _, .nil => rfl
  | _, _, .cons _ r => congrArg (· + 1) (RpA.len r)
theorem RpA.app : ∀ {ds es : List PyData} {vs ws : List V}, RpA K M ds vs → RpA K M es ws → RpA K M (ds ++ es) (vs ++ ws)
  | _, _, _, _, .nil, s => s
  | _, _, _, _, .cons h r, s => .cons h (RpA.app r s)
theorem RpA.get : ∀ {ds : List PyData} {vs : List V} {i : Nat} {d : PyData}, RpA K M ds vs → ds[i]? = some d → ∃ v, vs[i]? = some v ∧ Rp K M d v
  | _, _, _, _, .nil, e => by simp at e
  | _, _, 0, _, .cons h _, e => by simp at e; subst e; exact ⟨_, rfl, h⟩
  | _, _, i + 1, d, .cons _ r, e => by
    obtain ⟨v, h1, h2⟩ := RpA.get (i := i) r (by simpa using e)
    exact ⟨v, by simpa using h1, h2⟩
theorem RpA.getV : ∀ {ds : List PyData} {vs : List V} {i : Nat} {v : V}, RpA K M ds vs → vs[i]? = some v → ∃ d, ds[i]? = some d ∧ Rp K M d v
  | _, _, _, _, .nil, e => by simp at e
  | _, _, 0, _, .cons h _, e => by simp at e; subst e; exact ⟨_, rfl, h⟩
  | _, _, i + 1, d, .cons _ r, e => by
    obtain ⟨v, h1, h2⟩ := RpA.getV (i := i) r (by simpa using e)
    exact ⟨v, by simpa using h1, h2⟩
theorem RpA.set : ∀ {ds : List PyData} {vs : List V} {d : PyData} {v : V} (i : Nat), Rp K M d v → RpA K M ds vs → RpA K M (ds.set i d) (vs.set i v)
  | _, _, _, _, _, _, .nil => .nil
  | _, _, _, _, 0, h, .cons _ r => .cons h r
  | _, _, _, _, i + 1, h, .cons q r => .cons q (RpA.set i h r)
theorem RpA.drop : ∀ {ds : List PyData} {vs : List V} (n : Nat), RpA K M ds vs → RpA K M (ds.drop n) (vs.drop n)
  | _, _, 0, r => r
  | _, _, _ + 1, .nil => .nil
  | _, _, n + 1, .cons _ r => RpA.drop n r
theorem RpA.take : ∀ {ds : List PyData} {vs : List V} (n : Nat), RpA K M ds vs → RpA K M (ds.take n) (vs.take n)
  | _, _, 0, _ => .nil
  | _, _, _ + 1, .nil => .nil
  | _, _, n + 1, .cons h r => .cons h (RpA.take n r)
theorem RpA.cut {ds : List PyData} {vs : List V} (r : RpA K M ds vs) (lo hi : Option Int) : RpA K M (cutD ds lo hi) (cutV vs lo hi) := by
  unfold cutD cutV
  rw [r.len]
  exact RpA.take _ (RpA.drop _ r)
theorem RpA.rep {ds : List PyData} {vs : List V} (r : RpA K M ds vs) : ∀ k : Nat, RpA K M (List.replicate k ds).flatten (List.replicate k vs).flatten
  | 0 => .nil
  | k + 1 => by
    rw [List.replicate_succ, List.replicate_succ, List.flatten_cons, List.flatten_cons]
    exact r.app (RpA.rep r k)
theorem TupN.new {p : Addr} {o : Obj} {vs : List V} (h : o.dict = none) : TupN K (upd M p (.frz o (.tup vs))) p vs := .inl ⟨o, upd_same, h⟩
theorem same_upd {p : Addr} {o : HO} (h : H p = none) : Same H (upd H p o) := fun b x e => by
  rw [upd_ne (ne_of_none e h)]
  exact e

/-! ### the hand -/
structure HI (S : Type) where
  Z : Addr → Prop
  za : Addr
  HP : S → Hp → Prop
  hpf : ∀ s H H', HP s H → (∀ a, Z a → H' a = H a) → HP s H'
  zt : ∀ s H a, HP s H → Z a → H a ≠ none
section
variable {S : Type} {I : HI S} {s s1 s2 s' : S}
/-- what is read: data, or a list that somebody owns -/
def RpR (K : PySem.W.Frag) (I : HI S) (M H : Hp) (d : PyData) (v : V) : Prop :=
  Rp K M d v ∨ ∃ a vs ds, d = .list ds ∧ v = .ref a ∧ H a = some (.lst vs) ∧ ¬ I.Z a ∧ RpA K M ds vs
/-- pure steps: only new things -/
structure Ext0 (M H M' H' : Hp) : Prop where
  sub : Same M' H'
  m : ∀ a, H a ≠ none → M' a = M a
  h : ∀ a o, H a = some o → H' a = some o
structure Ok (I : HI S) (M H : Hp) (s : S) : Prop where
  sub : Same M H
  z : ∀ a, I.Z a → M a = none
  hp : I.HP s H
structure Ext (I : HI S) (M H M' H' : Hp) (s' : S) : Prop where
  sub : Same M' H'
  m : ∀ a, H a ≠ none → M' a = M a
  h : ∀ a o, H a = some o → ¬ I.Z a → H' a = some o
  z : ∀ a, I.Z a → M' a = none
  hp : I.HP s' H'
theorem Ok.free (k : Ok I M H s) {a : Addr} (h : H a = none) : M a = none := k.sub.free h
theorem Same.of_m (k : Same M H) (m : ∀ a, H a ≠ none → M' a = M a) : Same M M' := fun b o e => by
  rw [m b (by rw [k b o e]; exact fun z => nomatch z)]
  exact e
theorem Ext.mm (x : Ext I M H M' H' s') (k : Ok I M H s) : Same M M' := Same.of_m k.sub x.m
theorem Ext.ok (x : Ext I M H M' H' s') : Ok I M' H' s' := ⟨x.sub, x.z, x.hp⟩
theorem Ext.rfl (k : Ok I M H s) : Ext I M H M H s := ⟨k.sub, fun _ _ => Eq.refl _, fun _ _ e _ => e, k.z, k.hp⟩
theorem Ext.trans (k : Ok I M H s) (x : Ext I M H M1 H1 s1) (y : Ext I M1 H1 M2 H2 s2) : Ext I M H M2 H2 s2 := by
  refine ⟨y.sub, fun a n => ?_, fun a o e n => y.h a o (x.h a o e n) n, y.z, y.hp⟩
  by_cases hz : I.Z a
  · rw [y.z a hz, k.z a hz]
  · cases q : H a with
    | none => exact absurd q n
    | some o =>
      rw [y.m a (by rw [x.h a o q hz]; exact fun z => nomatch z)]
      exact x.m a n
theorem Ext0.ext (k : Ok I M H s) (x : Ext0 M H M' H') : Ext I M H M' H' s :=
  ⟨x.sub, x.m, fun a o e _ => x.h a o e, fun a hz => by rw [x.m a (I.zt s H a k.hp hz)]; exact k.z a hz, I.hpf s H H' k.hp fun a hz => by
    cases q : H a with
    | none => exact absurd q (I.zt s H a k.hp hz)
    | some o => rw [x.h a o q]⟩
theorem Ext0.rfl (k : Same M H) : Ext0 M H M H := ⟨k, fun _ _ => Eq.refl _, fun _ _ e => e⟩
/-- a new object, shared -/
theorem Ext0.new {p : Addr} {o : HO} (k : Same M H) (hp : H p = none) : Ext0 M H (upd M p o) (upd H p o) := by
  refine ⟨fun a u e => ?_, fun a n => ?_, same_upd hp⟩
  · by_cases q : a = p
    · subst q
      rw [upd_same] at e ⊢
      exact e
    · rw [upd_ne q] at e ⊢
      exact k a u e
  · exact upd_ne fun q => n (q ▸ hp)
/-- a new object, not shared -/
theorem Ext0.own {p : Addr} {o : HO} (k : Same M H) (hp : H p = none) : Ext0 M H M (upd H p o) :=
  ⟨fun a u e => same_upd hp a u (k a u e), fun _ _ => Eq.refl _, same_upd hp⟩
theorem RpR.mono {d : PyData} {v : V} (k : Ok I M H s) (x : Ext I M H M' H' s') (r : RpR K I M H d v) : RpR K I M' H' d v := by
  rcases r with r | ⟨a, vs, ds, e1, e2, h, n, r⟩
  · exact .inl (Rp.mono (x.mm k) r)
  · exact .inr ⟨a, vs, ds, e1, e2, x.h a _ h n, n, RpA.mono (x.mm k) r⟩
theorem RpR.lst {ds : List PyData} {v : V} (k : Same M H) (r : RpR K I M H (.list ds) v) : ∃ a vs, v = .ref a ∧ H a = some (.lst vs) ∧ RpA K M ds vs := by
  rcases r with r | ⟨a, vs, es, e1, e2, h, _, r⟩
  · cases r with
    | lst h r => exact ⟨_, _, Eq.refl _, k _ _ h, r⟩
  · cases e1
    exact ⟨a, vs, e2, h, r⟩
theorem RpR.tup {ds : List PyData} {v : V} (k : Same M H) (r : RpR K I M H (.tuple ds) v) : ∃ a vs, v = .ref a ∧ TupN K M a vs ∧ TupN K H a vs ∧ RpA K M ds vs := by
  rcases r with r | ⟨a, vs, es, e1, _⟩
  · cases r with
    | tup h r => exact ⟨_, _, Eq.refl _, h, h.mono k, r⟩
  · cases e1
theorem RpR.int {i : Int} {v : V} (r : RpR K I M H (.int i) v) : v = .int i := by
  rcases r with r | ⟨_, _, _, e, _⟩
  · cases r
    exact Eq.refl _
  · cases e
theorem RpR.str {i : Str} {v : V} (r : RpR K I M H (.str i) v) : v = .str i := by
  rcases r with r | ⟨_, _, _, e, _⟩
  · cases r
    exact Eq.refl _
  · cases e
theorem RpR.bl {i : Bool} {v : V} (r : RpR K I M H (.bool i) v) : v = .bl i := by
  rcases r with r | ⟨_, _, _, e, _⟩
  · cases r
    exact Eq.refl _
  · cases e
theorem RpR.non {v : V} (r : RpR K I M H .none v) : v = .non := by
  rcases r with r | ⟨_, _, _, e, _⟩
  · cases r
    exact Eq.refl _
  · cases e
mutual
theorem Dp.mono (e : Same M M') : ∀ {d : PyData} {v : V}, Dp K M v d → Dp K M' v d
  | _, _, .non => .non
  | _, _, .bl b => .bl b
  | _, _, .int i => .int i
  | _, _, .str x => .str x
  | _, _, .lst h r => .lst (e.seq h) (DpAll.mono e r)
  | _, _, .tup h r => .tup (PV.Same.sqT e h) (DpAll.mono e r)
theorem DpAll.mono (e : Same M M') : ∀ {ds : List PyData} {vs : List V}, DpAll K M vs ds → DpAll K M' vs ds
  | _, _, .nil => .nil
  | _, _, .cons h r => .cons (Dp.mono e h) (DpAll.mono e r)
end
theorem RpR.dp {d : PyData} {v : V} (k : Same M H) (r : RpR K I M H d v) : Dp K H v d := by
  rcases r with r | ⟨a, vs, ds, e1, e2, h, _, r⟩
  · exact Dp.mono k (Rp.dp r)
  · subst e1
    subst e2
    exact .lst (SqL.of h) (DpAll.mono k (RpA.dp r))
/-- a result: a list is new and nobody's -/
def ResF (K : PySem.W.Frag) (H M' H' : Hp) (d : PyData) (v : V) : Prop := match d with
  | .list ds => ∃ p vs, v = .ref p ∧ H p = none ∧ H' p = some (.lst vs) ∧ M' p = none ∧ RpA K M' ds vs
  | d => Rp K M' d v

/-! ### slots -/
def SlOk (K : PySem.W.Frag) (I : HI S) (H0 M H : Hp) : Sl → Option V → Prop
  | .no, _ => True
  | .v d, ov => ∃ v, ov = some v ∧ Rp K M d v
  | .own ds, ov => ∃ p vs, ov = some (.ref p) ∧ H p = some (.lst vs) ∧ M p = none ∧ H0 p = none ∧ ¬ I.Z p ∧ RpA K M ds vs
  | .hand, ov => ov = some (.ref I.za)
  | .rng n, ov => ∃ a, ov = some (.ref a) ∧ M a = some (.rng 0 n)
structure Gd (K : PySem.W.Frag) (I : HI S) (H0 M0 M H : Hp) (σ : List (Option V)) (env : Env) (s : S) : Prop where
  ok : Ok I M H s
  m0 : ∀ a, H0 a ≠ none → M a = M0 a
  h0 : ∀ a o, H0 a = some o → ¬ I.Z a → H a = some o
  len : σ.length = env.length
  sl : ∀ (i : Nat) (x : Sl), env[i]? = some x → ∃ ov, σ[i]? = some ov ∧ SlOk K I H0 M H x ov
  sep : ∀ (i j : Nat) (xs ys : List PyData) (p : Addr), i ≠ j → env[i]? = some (.own xs) → env[j]? = some (.own ys) → σ[i]? = some (some (.ref p)) → σ[j]? ≠ some (some (.ref p))
variable {H0 M0 : Hp} {σ : List (Option V)} {env : Env}
theorem Gd.ext (g : Gd K I H0 M0 M H σ env s) (x : Ext I M H M' H' s') : Gd K I H0 M0 M' H' σ env s' := by
  have mm := x.mm g.ok
  have hh : ∀ a, H0 a ≠ none → M' a = M0 a := fun a n => by
    by_cases hz : I.Z a
    · rw [x.z a hz, ← g.m0 a n, g.ok.z a hz]
    · cases q : H0 a with
      | none => exact absurd q n
      | some o =>
        rw [x.m a (by rw [g.h0 a o q hz]; exact fun z => nomatch z)]
        exact g.m0 a n
  refine ⟨x.ok, hh, fun a o e n => x.h a o (g.h0 a o e n) n, g.len, fun i y e => ?_, g.sep⟩
  obtain ⟨ov, h1, h2⟩ := g.sl i y e
  refine ⟨ov, h1, ?_⟩
  cases y with
  | no => trivial
  | v d =>
    obtain ⟨v, e1, r⟩ := h2
    exact ⟨v, e1, Rp.mono mm r⟩
  | own ds =>
    obtain ⟨p, vs, e1, hp, mp, h0, nz, r⟩ := h2
    refine ⟨p, vs, e1, x.h p _ hp nz, ?_, h0, nz, RpA.mono mm r⟩
    rw [x.m p (by rw [hp]; exact fun z => nomatch z)]
    exact mp
  | hand => exact h2
  | rng n =>
    obtain ⟨a, e1, e2⟩ := h2
    exact ⟨a, e1, mm _ _ e2⟩

/-! ### exceptions, and what comes behind -/
/-- how an exception of class c that carries p lies -/
structure XI where
  cls : Str → Option Addr
  fld : Str
def Xr (K : PySem.W.Frag) (J : XI) (c : Str) (p : Option PyData) (cls : Value) (dd : Option Addr) (M' H' : Hp) : Prop :=
  ∃ C, J.cls c = some C ∧ cls = .ref C ∧ match p with
    | none => dd = none
    | some d => ∃ a v, dd = some a ∧ H' a = some (.xd [(J.fld, v)]) ∧ Rp K M' d v
def After (K : PySem.W.Frag) (I : HI S) (J : XI) (W : WX) (σ : L2.St) (M H : Hp) {α : Type} (r : R S α) (Φ : α → S → Prop) : Prop := match r with
  | .ok a s' => Φ a s'
  | .exn c p s' => ∀ cls dd M' H', Ext I M H M' H' s' → Xr K J c p cls dd M' H' → W cls dd σ H'
  | .bad => False
variable {J : XI} {W : WX}
theorem After.imp {α : Type} {r : R S α} {Φ Ψ : α → S → Prop} (h : After K I J W σ M H r Φ) (f : ∀ a s, Φ a s → Ψ a s) : After K I J W σ M H r Ψ := by
  cases r with
  | ok a s => exact f a s h
  | exn c p s => exact h
  | bad => exact h
theorem After.bind {α β : Type} {r : R S α} {f : α → S → R S β} {Φ : β → S → Prop} (h : After K I J W σ M H (r.bind f) Φ) : After K I J W σ M H r fun a s => After K I J W σ M H (f a s) Φ := by
  cases r with
  | ok a s => exact h
  | exn c p s => exact h
  | bad => exact h
theorem After.bd {α β : Type} {m : PV.M S α} {f : α → PV.M S β} {Φ : β → S → Prop} (h : After K I J W σ M H (m.bind f s) Φ) : After K I J W σ M H (m s) fun a s' => After K I J W σ M H (f a s') Φ := After.bind h
theorem After.ext {α : Type} {r : R S α} {Φ Ψ : α → S → Prop} (k : Ok I M H s) (x : Ext I M H M1 H1 s1) (h : After K I J W σ M H r Φ) (f : ∀ a s, Φ a s → Ψ a s) : After K I J W σ M1 H1 r Ψ := by
  cases r with
  | ok a s => exact f a s h
  | exn c p s => exact fun cls dd M' H' y z => h cls dd M' H' (x.trans k y) z
  | bad => exact h
theorem After.ofO {α : Type} {o : Option α} {Φ : α → S → Prop} (h : After K I J W σ M H (PV.ofO o s) Φ) : ∃ a, o = some a ∧ Φ a s := by
  cases o with
  | none => exact (show False from h).elim
  | some a => exact ⟨a, Eq.refl _, h⟩

/-! ### readings -/
variable (K I J H0 M0 W)
/-- an expression, evaluated to data -/
def TD {β : Type} (P : Hp → Hp → Hp → β → V → Prop) (m : Env → PV.M S β) : TE := fun σ H Q => ∃ M env s, Gd K I H0 M0 M H σ env s ∧
  After K I J W σ M H (m env s) fun d s' => ∀ v M' H', Ext I M H M' H' s' → P H M' H' d v → Q v H'
abbrev PV_ (_ : Hp) (M' _ : Hp) (d : PyData) (v : V) : Prop := Rp K M' d v
abbrev PR_ (_ : Hp) (M' H' : Hp) (d : PyData) (v : V) : Prop := RpR K I M' H' d v
abbrev PF_ (H M' H' : Hp) (d : PyData) (v : V) : Prop := ResF K H M' H' d v
/-- a test -/
def TTd (m : Env → PV.M S Bool) : TT := fun σ H Q => ∃ M env s, Gd K I H0 M0 M H σ env s ∧
  After K I J W σ M H (m env s) fun b s' => ∀ M' H', Ext I M H M' H' s' → Q b H'
/-- arguments -/
def TAd {α : Type} (P : Hp → Hp → List α → List V → Prop) (m : Env → PV.M S (List α)) : TA := fun σ H Q => ∃ M env s, Gd K I H0 M0 M H σ env s ∧
  After K I J W σ M H (m env s) fun ds s' => ∀ vs M' H', Ext I M H M' H' s' → P M' H' ds vs → Q vs H'
end
/-- another reading, by a fact that may use the state's invariant -/
theorem _root_.L2.PE.wk {X : Cx} {e : PySem.Expr} {t t' : TE} (h : PE X e t) (w : ∀ pins s σ H Q, Inv X pins σ H s → t' σ H Q → t σ H Q) : PE X e t' :=
  ⟨fun pins s σ H Q I q => h.run pins s σ H Q I (w pins s σ H Q I q)⟩
theorem _root_.L2.PT.wk {X : Cx} {e : PySem.Expr} {t t' : TT} (h : PT X e t) (w : ∀ pins s σ H Q, Inv X pins σ H s → t' σ H Q → t σ H Q) : PT X e t' :=
  ⟨fun pins s σ H Q I q => h.run pins s σ H Q I (w pins s σ H Q I q)⟩
theorem _root_.L2.PA.wk {X : Cx} {e : List PySem.Expr} {t t' : TA} (h : PA X e t) (w : ∀ pins s σ H Q, Inv X pins σ H s → t' σ H Q → t σ H Q) : PA X e t' :=
  ⟨fun pos pins s σ H Q I q => h.run pos pins s σ H Q I (w pins s σ H Q I q)⟩
theorem _root_.L2.PS.wk {X : Cx} {e : PySem.Stmt} {t t' : TS} (h : PS X e t) (w : ∀ pins s σ H D, Inv X pins σ H s → t' D σ H → t D σ H) : PS X e t' :=
  ⟨fun pins s σ H Q I q => h.run pins s σ H Q I (w pins s σ H Q I q)⟩
theorem _root_.L2.PSs.wk {X : Cx} {e : List PySem.Stmt} {t t' : TS} (h : PSs X e t) (w : ∀ pins s σ H D, Inv X pins σ H s → t' D σ H → t D σ H) : PSs X e t' :=
  ⟨fun pins s σ H Q I q => h.run pins s σ H Q I (w pins s σ H Q I q)⟩
end PV
set_option Elab.async false
set_option linter.all false
set_option maxRecDepth 100000
set_option maxHeartbeats 4000000
/-! PV, third part: the operations on data are those of the machine. -/
namespace PV
open PySem PySem.Spec PyProof.Rows L2
section
variable {S : Type} {I : HI S} {X : Cx}
/-- a two-place operation of the machine follows one on data -/
def Op2 (X : Cx) (I : HI S) (f : Value → Value → Sem Value) (g : PyData → PyData → Option PyData) : Prop :=
  ∀ (pins : List (Addr × Obj)) (s : Shared) (σ : L2.St) (H : Hp) (x y : V) (v u : Value) (Q : VK) (M : Hp) (dx dy d : PyData), Inv X pins σ H s → RelV x v → RelV y u → Same M H →
    RpR X.K I M H dx x → RpR X.K I M H dy y → g dx dy = some d → (∀ z M' H', Ext0 M H M' H' → ResF X.K H M' H' d z → Q z H') → wpAny (model X.prog X.w) X.A (f v u) (EP X pins σ Q) X.xe s
/-- its reading -/
def r2 (X : Cx) (I : HI S) (g : PyData → PyData → Option PyData) : R2 := fun x y H Q => ∃ M dx dy d, Same M H ∧ RpR X.K I M H dx x ∧ RpR X.K I M H dy y ∧ g dx dy = some d ∧ ∀ z M' H', Ext0 M H M' H' → ResF X.K H M' H' d z → Q z H'
theorem Op2.opR {f : Value → Value → Sem Value} {g : PyData → PyData → Option PyData} (h : Op2 X I f g) : OpR X f (r2 X I g) := by
  intro pins s σ H x y v u Q i rx ry q
  obtain ⟨M, dx, dy, d, k, p1, p2, e, q⟩ := q
  exact h pins s σ H x y v u Q M dx dy d i rx ry k p1 p2 e q
theorem small_of {i : Int} (h : smallI i = true) : -(2 ^ 64) < i ∧ i < 2 ^ 64 := by
  have h2 : i.natAbs < 18446744073709551616 := of_decide_eq_true h
  omega
/-- a new tuple is laid -/
theorem laidT {pins : List (Addr × Obj)} {σ : L2.St} {H : Hp} {s : Shared} {vs : List V} {its : List Value} (i : Inv X pins σ H s) (r : Vals vs its) (hz : vs.length ≤ sizeLine) {Q : VK}
    (q : ∀ p o, H p = none → o.dict = none → Q (.ref p) (upd H p (.frz o (.tup vs)))) : EP X pins σ Q (.ref s.heap.objs.size) { s with heap := s.heap.push { cls := .type "tuple", data := .seq its.toArray } } := by
  have hn : H s.heap.objs.size = none := i.hok.fresh (Nat.le_refl _)
  refine ⟨.ref s.heap.objs.size, _, i.laid (t' := s.toks) (o := .frz { cls := .type "tuple", data := .seq its.toArray } (.tup vs)) (fun b u e => Heap.get?_push_of_some _ e) (Nat.le_refl _) ?_, rfl, q _ _ hn rfl⟩
  exact ⟨Heap.get?_push_size _ rfl, hz, its, r, IsTup.new _ _⟩
/-- t + u of any tuples, the new one known -/
def rCatN (K : PySem.W.Frag) : R2 := fun x y H Q => ∃ a b xs ys, x = .ref a ∧ y = .ref b ∧ SqT K H a xs ∧ SqT K H b ys ∧ xs.length + ys.length ≤ sizeLine ∧
  (xs = [] → Q (.ref b) H) ∧ (xs ≠ [] → ys = [] → Q (.ref a) H) ∧ (xs ≠ [] → ys ≠ [] → ∀ p o, H p = none → o.dict = none → Q (.ref p) (upd H p (.frz o (.tup (xs ++ ys)))))
theorem op_catN : OpR X (binaryOp .Add) (rCatN X.K) := by
  intro pins s σ H x y v u Q i rx ry h
  obtain ⟨a, b, xs, ys, rfl, rfl, ha, hb, hz, q0, q1, q2⟩ := h
  obtain ⟨its, r1, p1, _⟩ := i.tuple ha
  obtain ⟨its2, r2, p2, _⟩ := i.tuple hb
  have n1 := Vals.nil_iff r1
  have n2 := Vals.nil_iff r2
  cases rx
  cases ry
  by_cases hx : xs = []
  · subst hx
    cases r1
    exact cat_tup0 p1 p2 ⟨.ref b, H, i, rfl, q0 rfl⟩
  · refine HT.cat_tup p1 p2 (fun z => hx (n1.mp z)) (fun z => ⟨.ref a, H, i, rfl, q1 hx (n2.mp z)⟩) (fun z => ?_) (by rw [← r1.length, ← r2.length]; exact hz)
    exact laidT i (r1.append r2) (by rw [List.length_append]; exact hz) (q2 hx fun w => z (n2.mpr w))
theorem op2_add : Op2 X I (binaryOp .Add) (bopD .add) := by
  intro pins s σ H x y v u Q M dx dy d i rx ry k p1 p2 e q
  cases dx <;> cases dy <;> try exact nomatch (show (none : Option PyData) = some d from e)
  case int.int a b =>
    cases e
    cases p1.int
    cases p2.int
    exact op_add pins s σ H _ _ v u Q i rx ry ⟨a, b, rfl, rfl, q _ _ _ (.rfl k) (.int _)⟩
  case str.str a b =>
    replace e : (if a.length + b.length ≤ sizeLine then some (PyData.str (a ++ b)) else none) = some d := e
    split at e
    · rename_i hz
      cases e
      cases p1.str
      cases p2.str
      exact op_add_str pins s σ H _ _ v u Q i rx ry ⟨a, b, rfl, rfl, hz, q _ _ _ (.rfl k) (.str _)⟩
    · cases e
  case list.list a b =>
    replace e : (if a.length + b.length ≤ sizeLine then some (PyData.list (a ++ b)) else none) = some d := e
    split at e
    · rename_i hz
      cases e
      obtain ⟨l1, v1, rfl, h1, q1⟩ := p1.lst k
      obtain ⟨l2, v2, rfl, h2, q2⟩ := p2.lst k
      exact op_cat pins s σ H _ _ v u Q i rx ry ⟨l1, l2, v1, v2, rfl, rfl, h1, h2, by rw [q1.len, q2.len]; exact hz, fun p hp => q _ M _ (.own k hp) ⟨p, _, rfl, hp, upd_same, k.free hp, q1.app q2⟩⟩
    · cases e
  case tuple.tuple a b =>
    replace e : (if a.length + b.length ≤ sizeLine then some (PyData.tuple (a ++ b)) else none) = some d := e
    split at e
    · rename_i hz
      cases e
      obtain ⟨l1, v1, rfl, h1, h1', q1⟩ := p1.tup k
      obtain ⟨l2, v2, rfl, h2, h2', q2⟩ := p2.tup k
      refine op_catN pins s σ H _ _ v u Q i rx ry ⟨l1, l2, v1, v2, rfl, rfl, h1'.sq, h2'.sq, by rw [q1.len, q2.len]; exact hz, fun z => ?_, fun z1 z2 => ?_, fun z1 z2 p o hp hd => ?_⟩
      · subst z
        cases q1
        exact q _ _ _ (.rfl k) (.tup h2 q2)
      · subst z2
        cases q2
        rw [List.append_nil] at q
        exact q _ _ _ (.rfl k) (.tup h1 q1)
      · exact q _ _ _ (.new k hp) (.tup (.new hd) (RpA.mono (same_upd (k.free hp)) (q1.app q2)))
    · cases e
theorem op2_int {f : Value → Value → Sem Value} {C : Int → Int → Prop} {g : Int → Int → Int} {o : Bop} (h : OpR X f (rI C fun i j => .int (g i j)))
    (hg : ∀ dx dy d, bopD o dx dy = some d → ∃ a b, dx = .int a ∧ dy = .int b ∧ C a b ∧ d = .int (g a b)) : Op2 X I f (bopD o) := by
  intro pins s σ H x y v u Q M dx dy d i rx ry k p1 p2 e q
  obtain ⟨a, b, rfl, rfl, c, rfl⟩ := hg _ _ _ e
  cases p1.int
  cases p2.int
  exact h pins s σ H _ _ v u Q i rx ry ⟨a, b, rfl, rfl, c, q _ _ _ (.rfl k) (.int _)⟩
theorem op2_int0 {f : Value → Value → Sem Value} {g : Int → Int → Int} {o : Bop} (h : OpR X f (rI0 fun i j => .int (g i j)))
    (hg : ∀ dx dy d, bopD o dx dy = some d → ∃ a b, dx = .int a ∧ dy = .int b ∧ d = .int (g a b)) : Op2 X I f (bopD o) := by
  intro pins s σ H x y v u Q M dx dy d i rx ry k p1 p2 e q
  obtain ⟨a, b, rfl, rfl, rfl⟩ := hg _ _ _ e
  cases p1.int
  cases p2.int
  exact h pins s σ H _ _ v u Q i rx ry ⟨a, b, rfl, rfl, q _ _ _ (.rfl k) (.int _)⟩
theorem op2_sub : Op2 X I (binaryOp .Sub) (bopD .sub) := op2_int0 op_sub fun dx dy d e => by
  cases dx <;> cases dy <;> try exact nomatch (show (none : Option PyData) = some d from e)
  case int.int a b =>
    cases e
    exact ⟨a, b, rfl, rfl, rfl⟩
theorem op2_band : Op2 X I (binaryOp .BitAnd) (bopD .band) := op2_int0 op_and fun dx dy d e => by
  cases dx <;> cases dy <;> try exact nomatch (show (none : Option PyData) = some d from e)
  case int.int a b =>
    cases e
    exact ⟨a, b, rfl, rfl, rfl⟩
theorem op2_bor : Op2 X I (binaryOp .BitOr) (bopD .bor) := op2_int0 op_or fun dx dy d e => by
  cases dx <;> cases dy <;> try exact nomatch (show (none : Option PyData) = some d from e)
  case int.int a b =>
    cases e
    exact ⟨a, b, rfl, rfl, rfl⟩
theorem op2_bxor : Op2 X I (binaryOp .BitXor) (bopD .bxor) := op2_int0 op_xor fun dx dy d e => by
  cases dx <;> cases dy <;> try exact nomatch (show (none : Option PyData) = some d from e)
  case int.int a b =>
    cases e
    exact ⟨a, b, rfl, rfl, rfl⟩
theorem op2_mod : Op2 X I (binaryOp .Mod) (bopD .mod) := op2_int op_mod fun dx dy d e => by
  cases dx <;> cases dy <;> try exact nomatch (show (none : Option PyData) = some d from e)
  case int.int a b =>
    replace e : (if 0 < b then some (PyData.int (a % b)) else none) = some d := e
    split at e
    · rename_i h
      cases e
      exact ⟨a, b, rfl, rfl, h, rfl⟩
    · cases e
theorem op2_shr : Op2 X I (binaryOp .RShift) (bopD .shr) := op2_int op_shr fun dx dy d e => by
  cases dx <;> cases dy <;> try exact nomatch (show (none : Option PyData) = some d from e)
  case int.int a b =>
    replace e : (if 0 ≤ b then some (PyData.int (a / 2 ^ b.toNat)) else none) = some d := e
    split at e
    · rename_i h
      cases e
      exact ⟨a, b, rfl, rfl, h, rfl⟩
    · cases e
theorem op2_fdiv : Op2 X I (binaryOp .FloorDiv) (bopD .fdiv) := op2_int op_fdivW fun dx dy d e => by
  cases dx <;> cases dy <;> try exact nomatch (show (none : Option PyData) = some d from e)
  case int.int a b =>
    replace e : (if (decide (0 < b) && decide (b.natAbs.log2 < 9000)) = true then some (PyData.int (a / b)) else none) = some d := e
    split at e
    · rename_i h
      cases e
      obtain ⟨h1, h2⟩ := Bool.and_eq_true_iff.mp h
      exact ⟨a, b, rfl, rfl, ⟨of_decide_eq_true h1, of_decide_eq_true h2⟩, rfl⟩
    · cases e
theorem cpow_of {a b : Int} (h : (decide (0 ≤ b) && decide (b ≤ 1000000) && smallI a) = true) : CPow a b := by
  obtain ⟨h1, h2⟩ := Bool.and_eq_true_iff.mp h
  obtain ⟨h3, h4⟩ := Bool.and_eq_true_iff.mp h1
  have h5 : a.natAbs < 18446744073709551616 := of_decide_eq_true h2
  exact ⟨of_decide_eq_true h3, of_decide_eq_true h4, by omega⟩
theorem op2_pow : Op2 X I (binaryOp .Pow) (bopD .pow) := op2_int op_pow fun dx dy d e => by
  cases dx <;> cases dy <;> try exact nomatch (show (none : Option PyData) = some d from e)
  case int.int a b =>
    replace e : (if (decide (0 ≤ b) && decide (b ≤ 1000000) && smallI a) = true then some (PyData.int (a ^ b.toNat)) else none) = some d := e
    split at e
    · rename_i h
      cases e
      exact ⟨a, b, rfl, rfl, cpow_of h, rfl⟩
    · cases e
theorem op2_shl : Op2 X I (binaryOp .LShift) (bopD .shl) := op2_int op_shl fun dx dy d e => by
  cases dx <;> cases dy <;> try exact nomatch (show (none : Option PyData) = some d from e)
  case int.int a b =>
    replace e : (if (decide (0 ≤ b) && decide (b ≤ 1000000) && smallI a) = true then some (PyData.int (a * 2 ^ b.toNat)) else none) = some d := e
    split at e
    · rename_i h
      cases e
      exact ⟨a, b, rfl, rfl, cpow_of h, rfl⟩
    · cases e
/-- tuple * int, the new one known -/
def rRepN (K : PySem.W.Frag) : R2 := fun x y H Q => ∃ l k xs, x = .ref l ∧ y = .int k ∧ SqT K H l xs ∧ (xs ≠ [] ∧ 2 ≤ k ∧ k ≤ 1000 ∧ xs.length ≤ 1000) ∧ ∀ p o, H p = none → o.dict = none → Q (.ref p) (upd H p (.frz o (.tup (List.replicate k.toNat xs).flatten)))
theorem op_repN : OpR X (binaryOp .Mult) (rRepN X.K) := by
  intro pins s σ H x y v u Q i rx ry hq
  obtain ⟨l, k, xs, rfl, rfl, ht, ⟨b0, b1, b2, b3⟩, q⟩ := hq
  cases rx
  obtain ⟨t, rfl⟩ := ry
  obtain ⟨vs, rv, ⟨⟨cl, ob, dt, so⟩, fo, fc, m, fd⟩, _⟩ := i.tuple ht
  dsimp only at fc fd
  subst fc fd
  have ln : vs.length = xs.length := rv.length.symm
  have size : vs.toArray.size = xs.length := List.size_toArray.trans ln
  have full : vs.toArray.isEmpty = false := by
    rw [Array.isEmpty, size]
    exact decide_eq_false fun z => b0 (List.eq_nil_of_length_eq_zero z)
  have few : k.toNat * xs.length ≤ 1000 * 1000 := Nat.mul_le_mul (by omega) b3
  have fewI : ((vs.toArray.size : Nat) : Int) * k ≤ 1000000 := by
    have w := Int.mul_le_mul_of_nonneg_right (c := k) (show ((xs.length : Nat) : Int) ≤ 1000 by omega) (by omega)
    rw [size]
    omega
  have fit : (List.replicate k.toNat vs).flatten.length ≤ sizeLine := by
    rw [sizeLine_eq, PyProof.Rows.lm_len_rep_flat, ln]
    omega
  have t0 : (decide (k < -(2 ^ 63)) || decide (k ≥ 2 ^ 63)) = false := Bool.or_eq_false_iff.mpr ⟨decide_eq_false (by omega), decide_eq_false (by omega)⟩
  have t1 : (vs.toArray.isEmpty || k == 1) = false := Bool.or_eq_false_iff.mpr ⟨full, beq_eq_false_iff_ne.mpr (by omega)⟩
  have t2 : (decide (k ≤ 0) || vs.toArray.isEmpty) = false := Bool.or_eq_false_iff.mpr ⟨decide_eq_false (by omega), full⟩
  have t3 : ¬ ((vs.toArray.size : Nat) : Int) * k > (2 ^ 63 - 1) / 8 := by omega
  have t4 : Builtin.Tuple.tupleTooMany (((vs.toArray.size : Nat) : Int) * k) = false := by
    rw [Builtin.Tuple.tupleTooMany, sizeLine_eq]
    exact decide_eq_false (by omega)
  have fit2 : (List.foldl (fun x1 x2 => x1 ++ x2) #[] (List.replicate k.toNat vs.toArray)).size ≤ sizeLine := by
    rw [size_rep]
    exact Nat.le_trans (Nat.le_of_eq List.size_toArray) fit
  refine wpAny_binaryOp_repeat_ref (T := "tuple") (U := "int") (by decide) ⟨_, fo, rfl⟩ (fun z => typeIs_int z k t) noFill_tuple_mul F.fills_int_mul F.slot_int_rmul repeat_tuple F.slot_int_index.lookup ?_
  refine call_meets F.slot_int_rmul (typeIs_int s k t) F.entry_int_rmul (F.args_int_rmul_2 _ _) (int_rmul_tuple k t l vs.toArray m ob so) ⟨fo, rfl, ⟨_, fo, rfl⟩, ?_⟩
  refine call_meets F.slot_tuple_mul ⟨_, fo, rfl⟩ F.entry_tuple_mul (F.args_tuple_mul_2 _ _) (tuple_mulW l vs.toArray m ob so k t t0 t1 t2 t3 t4 fit2) ⟨fo, ?_⟩
  rw [size_rep]
  exact laidT i (rv.rep k.toNat) (by rw [PyProof.Rows.lm_len_rep_flat, sizeLine_eq]; omega) q
theorem tuple_mul1 (l : Addr) (items : Array Value) (n : Nat) (dd : Option Addr) (sl : Array (Option Value)) (u : Tok) :
    Meets (Builtin.«tuple.__mul__» ⟨[.ref l, .int 1 u], []⟩) (fun _ R s => s.heap.get? l = some { cls := .type "tuple", dict := dd, data := .seq items n, slots := sl } ∧
      R (.ok (.ret (Value.ref l))) s) :=
  .of_wp fun prog w A R s h => by
    obtain ⟨hp, g, d, tk, os⟩ := s
    obtain ⟨hl, h⟩ := h
    have f1 := AutoSeq1.idx_int
    wp_walk using wpAny_loadPart' hl
    exact ⟨_, rfl, h⟩
/-- tuple * 1 is the tuple -/
def rRep1 (K : PySem.W.Frag) : R2 := fun x y H Q => ∃ l xs, x = .ref l ∧ y = .int 1 ∧ SqT K H l xs ∧ Q (.ref l) H
theorem op_rep1 : OpR X (binaryOp .Mult) (rRep1 X.K) := by
  intro pins s σ H x y v u Q i rx ry hq
  obtain ⟨l, xs, rfl, rfl, ht, q⟩ := hq
  cases rx
  obtain ⟨t, rfl⟩ := ry
  obtain ⟨vs, rv, ⟨⟨cl, ob, dt, so⟩, fo, fc, m, fd⟩, _⟩ := i.tuple ht
  dsimp only at fc fd
  subst fc fd
  refine wpAny_binaryOp_repeat_ref (T := "tuple") (U := "int") (by decide) ⟨_, fo, rfl⟩ (fun z => typeIs_int z 1 t) noFill_tuple_mul F.fills_int_mul F.slot_int_rmul repeat_tuple F.slot_int_index.lookup ?_
  refine call_meets F.slot_int_rmul (typeIs_int s 1 t) F.entry_int_rmul (F.args_int_rmul_2 _ _) (int_rmul_tuple 1 t l vs.toArray m ob so) ⟨fo, rfl, ⟨_, fo, rfl⟩, ?_⟩
  exact call_meets F.slot_tuple_mul ⟨_, fo, rfl⟩ F.entry_tuple_mul (F.args_tuple_mul_2 _ _) (tuple_mul1 l vs.toArray m ob so t) ⟨fo, ⟨.ref l, H, i, rfl, q⟩⟩
theorem op2_mul : Op2 X I (binaryOp .Mult) (bopD .mul) := by
  intro pins s σ H x y v u Q M dx dy d i rx ry k p1 p2 e q
  cases dx <;> cases dy <;> try exact nomatch (show (none : Option PyData) = some d from e)
  case int.int a b =>
    replace e : (if mulOk a b = true then some (PyData.int (a * b)) else none) = some d := e
    split at e
    · rename_i h
      cases e
      cases p1.int
      cases p2.int
      rcases Bool.or_eq_true_iff.mp h with h | h
      · rcases Bool.or_eq_true_iff.mp h with h | h
        · exact op_mul pins s σ H _ _ v u Q i rx ry ⟨a, b, rfl, rfl, .inl (small_of h), q _ _ _ (.rfl k) (.int _)⟩
        · exact op_mul pins s σ H _ _ v u Q i rx ry ⟨a, b, rfl, rfl, .inr (small_of h), q _ _ _ (.rfl k) (.int _)⟩
      · exact op_mulW pins s σ H _ _ v u Q i rx ry ⟨a, b, rfl, rfl, (of_decide_eq_true h : a.natAbs.log2 + b.natAbs.log2 < 1000000), q _ _ _ (.rfl k) (.int _)⟩
    · cases e
  case list.int a b =>
    replace e : (if (smallI b && decide (-(2 ^ 63) ≤ b ∧ b < 2 ^ 63) && decide (a.length * b.toNat ≤ sizeLine)) = true then some (PyData.list (List.replicate b.toNat a).flatten) else none) = some d := e
    split at e
    · rename_i h
      cases e
      obtain ⟨h1, h2⟩ := Bool.and_eq_true_iff.mp h
      obtain ⟨h3, h4⟩ := Bool.and_eq_true_iff.mp h1
      obtain ⟨h5, h6⟩ := of_decide_eq_true h4
      obtain ⟨l1, v1, rfl, g1, q1⟩ := p1.lst k
      cases p2.int
      exact op_rep pins s σ H _ _ v u Q i rx ry ⟨l1, b, v1, rfl, rfl, g1, h5, h6, by rw [q1.len]; exact of_decide_eq_true h2, fun p hp => q _ M _ (.own k hp) ⟨p, _, rfl, hp, upd_same, k.free hp, q1.rep _⟩⟩
    · cases e
  case tuple.int a b =>
    replace e : (if b = 1 then some (PyData.tuple a) else if (!a.isEmpty && decide (2 ≤ b) && decide (b ≤ 1000) && decide (a.length ≤ 1000)) = true then some (PyData.tuple (List.replicate b.toNat a).flatten) else none) = some d := e
    split at e
    · rename_i hb1
      cases e
      subst hb1
      obtain ⟨l1, v1, rfl, g1, g1', q1⟩ := p1.tup k
      cases p2.int
      exact op_rep1 pins s σ H _ _ v u Q i rx ry ⟨l1, v1, rfl, rfl, g1'.sq, q _ _ _ (.rfl k) (.tup g1 q1)⟩
    split at e
    · rename_i h
      cases e
      obtain ⟨h, h4⟩ := Bool.and_eq_true_iff.mp h
      obtain ⟨h, h3⟩ := Bool.and_eq_true_iff.mp h
      obtain ⟨h1, h2⟩ := Bool.and_eq_true_iff.mp h
      obtain ⟨l1, v1, rfl, g1, g1', q1⟩ := p1.tup k
      cases p2.int
      refine op_repN pins s σ H _ _ v u Q i rx ry ⟨l1, b, v1, rfl, rfl, g1'.sq, ⟨fun z => ?_, of_decide_eq_true h2, of_decide_eq_true h3, by rw [q1.len]; exact of_decide_eq_true h4⟩, fun p o hp hd => q _ _ _ (.new k hp) (.tup (.new hd) (RpA.mono (same_upd (k.free hp)) (q1.rep _)))⟩
      subst z
      cases q1
      cases h1
    · cases e
def opB : Bop → Operator
  | .add => .Add | .sub => .Sub | .mul => .Mult | .fdiv => .FloorDiv | .mod => .Mod | .pow => .Pow | .shl => .LShift | .shr => .RShift | .band => .BitAnd | .bor => .BitOr | .bxor => .BitXor
theorem op2_bop (o : Bop) : Op2 X I (binaryOp (opB o)) (bopD o) := by
  cases o
  · exact op2_add
  · exact op2_sub
  · exact op2_mul
  · exact op2_fdiv
  · exact op2_mod
  · exact op2_pow
  · exact op2_shl
  · exact op2_shr
  · exact op2_band
  · exact op2_bor
  · exact op2_bxor

/-! ### comparisons -/
theorem fin_b {H M : Hp} {Q : VK} {b : Bool} (k : Same M H) (q : ∀ z M' H', Ext0 M H M' H' → ResF X.K H M' H' (.bool b) z → Q z H') : Q (.bl b) H := q _ _ _ (.rfl k) (.bl _)
theorem op2_ints {f : Value → Value → Sem Value} {g : Int → Int → Bool} {o : Cop} (h : OpR X f (rI0 fun i j => .bl (g i j)))
    (hg : ∀ dx dy b, cmpB o dx dy = some b → ∃ i j, dx = .int i ∧ dy = .int j ∧ b = g i j) : Op2 X I f (cmpD o) := by
  intro pins s σ H x y v u Q M dx dy d i rx ry k p1 p2 e q
  obtain ⟨b, e1, rfl⟩ := Option.map_eq_some_iff.mp e
  obtain ⟨a, c, rfl, rfl, rfl⟩ := hg _ _ _ e1
  cases p1.int
  cases p2.int
  exact h pins s σ H _ _ v u Q i rx ry ⟨a, c, rfl, rfl, fin_b k q⟩
theorem op2_lt : Op2 X I (compareOp .Lt) (cmpD .lt) := op2_ints op_lt fun dx dy b e => by
  cases dx <;> cases dy <;> try exact nomatch (show (none : Option Bool) = some b from e)
  case int.int i j =>
    cases e
    exact ⟨i, j, rfl, rfl, rfl⟩
theorem op2_le : Op2 X I (compareOp .LtE) (cmpD .le) := op2_ints op_le fun dx dy b e => by
  cases dx <;> cases dy <;> try exact nomatch (show (none : Option Bool) = some b from e)
  case int.int i j =>
    cases e
    exact ⟨i, j, rfl, rfl, rfl⟩
theorem op2_gt : Op2 X I (compareOp .Gt) (cmpD .gt) := op2_ints op_gt fun dx dy b e => by
  cases dx <;> cases dy <;> try exact nomatch (show (none : Option Bool) = some b from e)
  case int.int i j =>
    cases e
    exact ⟨i, j, rfl, rfl, rfl⟩
theorem op2_ge : Op2 X I (compareOp .GtE) (cmpD .ge) := op2_ints op_ge fun dx dy b e => by
  cases dx <;> cases dy <;> try exact nomatch (show (none : Option Bool) = some b from e)
  case int.int i j =>
    cases e
    exact ⟨i, j, rfl, rfl, rfl⟩
theorem op2_eq (hu : X.A.units + 64 < cLine) : Op2 X I (compareOp .Eq) (cmpD .eq) := by
  intro pins s σ H x y v u Q M dx dy d i rx ry k p1 p2 e q
  obtain ⟨b, e1, rfl⟩ := Option.map_eq_some_iff.mp e
  replace e1 : (if (SeqAt.shaped dx && SeqAt.shaped dy) = true then some (PyData.eqv dx dy) else none) = some b := e1
  split at e1
  · rename_i h
    cases e1
    obtain ⟨h1, h2⟩ := Bool.and_eq_true_iff.mp h
    exact op_eqD hu pins s σ H _ _ v u Q i rx ry ⟨dx, dy, p1.dp k, p2.dp k, h1, h2, fin_b k q⟩
  · cases e1
theorem op2_ne (hu : X.A.units + 64 < cLine) : Op2 X I (compareOp .NotEq) (cmpD .ne) := by
  intro pins s σ H x y v u Q M dx dy d i rx ry k p1 p2 e q
  obtain ⟨b, e1, rfl⟩ := Option.map_eq_some_iff.mp e
  replace e1 : (if (SeqAt.shaped dx && SeqAt.shaped dy) = true then some (!PyData.eqv dx dy) else none) = some b := e1
  split at e1
  · rename_i h
    cases e1
    obtain ⟨h1, h2⟩ := Bool.and_eq_true_iff.mp h
    exact op_neD hu pins s σ H _ _ v u Q i rx ry ⟨dx, dy, p1.dp k, p2.dp k, h1, h2, fin_b k q⟩
  · cases e1
theorem flat_rel {M H : Hp} {d : PyData} {v : V} (r : RpR X.K I M H d v) (f : flatD d = true) : flatV v = true := by
  cases d <;> try exact nomatch (show false = true from f)
  · rw [r.non]; rfl
  · rw [r.bl]; rfl
  · rw [r.int]; rfl
  · rw [r.str]; rfl
theorem eqv_rel {M : Hp} {d e : PyData} {v u : V} (r : Rp X.K M d v) (q : Rp X.K M e u) (f : flatD d = true) (f2 : flatD e = true) : eqV v u = PyData.eqv d e := by
  cases r <;> try exact nomatch (show false = true from f)
  all_goals cases q <;> try exact nomatch (show false = true from f2)
  all_goals rfl
theorem all_flat {M : Hp} : ∀ {ds : List PyData} {vs : List V}, RpA X.K M ds vs → ds.all flatD = true → vs.all flatV = true
  | _, _, .nil, _ => rfl
  | _, _, .cons h r, e => by
    rw [List.all_cons] at e ⊢
    obtain ⟨e1, e2⟩ := Bool.and_eq_true_iff.mp e
    rw [flat_rel (I := ⟨fun _ => False, 0, fun (_ : Unit) _ => True, fun _ _ _ _ _ => trivial, fun _ _ _ _ z => z.elim⟩) (H := M) (.inl h) e1, all_flat r e2]
    rfl
theorem in_rel {M : Hp} {d : PyData} {v : V} (q : Rp X.K M d v) (f : flatD d = true) : ∀ {ds : List PyData} {vs : List V}, RpA X.K M ds vs → ds.all flatD = true → inV v vs = memD d ds
  | _, _, .nil, _ => rfl
  | _, _, .cons h r, e => by
    rw [List.all_cons] at e
    obtain ⟨e1, e2⟩ := Bool.and_eq_true_iff.mp e
    have ih := in_rel q f r e2
    unfold inV memD at ih ⊢
    rw [List.any_cons, List.any_cons, ih, eqv_rel h q e1 f]
theorem flat_imm {M H : Hp} {d : PyData} {v : V} (r : RpR X.K I M H d v) (f : flatD d = true) : Rp X.K M d v := by
  rcases r with r | ⟨_, _, _, e, _⟩
  · exact r
  · subst e
    cases f
theorem op2_in (hu : X.A.units + 65 < cLine) : Op2 X I (compareOp .In) (cmpD .in_) := by
  intro pins s σ H x y v u Q M dx dy d i rx ry k p1 p2 e q
  obtain ⟨b, e1, rfl⟩ := Option.map_eq_some_iff.mp e
  cases dy with
  | list ds =>
    have e2 : (if (SeqAt.shaped dx && SeqAt.shaped (.list ds)) = true then some (memD dx ds) else none) = some b := by
      rw [← e1]
      cases dx <;> rfl
    split at e2
    · rename_i h
      cases e2
      obtain ⟨h1, h2⟩ := Bool.and_eq_true_iff.mp h
      exact op_inD hu pins s σ H _ _ v u Q i rx ry ⟨dx, ds, p1.dp k, p2.dp k, h1, h2, fin_b k q⟩
    · cases e2
  | tuple ds =>
    have e2 : (if (flatD dx && ds.all flatD) = true then some (memD dx ds) else none) = some b := by
      rw [← e1]
      cases dx <;> rfl
    split at e2
    · rename_i h
      cases e2
      obtain ⟨h1, h2⟩ := Bool.and_eq_true_iff.mp h
      obtain ⟨l2, v2, rfl, g2, g2', q2⟩ := p2.tup k
      refine op_in_seq pins s σ H _ _ v u Q i rx ry ⟨l2, v2, rfl, .inr g2'.sq, flat_rel p1 h1, all_flat q2 h2, ?_⟩
      show Q (.bl (inV x v2)) H
      rw [in_rel (flat_imm p1 h1) h1 q2 h2]
      exact fin_b k q
    · cases e2
  | _ => cases dx <;> exact nomatch (show (none : Option Bool) = some b from e1)
theorem op2_notIn (hu : X.A.units + 65 < cLine) : Op2 X I (compareOp .NotIn) (cmpD .notIn) := by
  intro pins s σ H x y v u Q M dx dy d i rx ry k p1 p2 e q
  obtain ⟨b, e1, rfl⟩ := Option.map_eq_some_iff.mp e
  cases dy with
  | list ds =>
    have e2 : (if (SeqAt.shaped dx && SeqAt.shaped (.list ds)) = true then some (!memD dx ds) else none) = some b := by
      rw [← e1]
      cases dx <;> rfl
    split at e2
    · rename_i h
      cases e2
      obtain ⟨h1, h2⟩ := Bool.and_eq_true_iff.mp h
      exact op_notInD hu pins s σ H _ _ v u Q i rx ry ⟨dx, ds, p1.dp k, p2.dp k, h1, h2, fin_b k q⟩
    · cases e2
  | tuple ds =>
    have e2 : (if (flatD dx && ds.all flatD) = true then some (!memD dx ds) else none) = some b := by
      rw [← e1]
      cases dx <;> rfl
    split at e2
    · rename_i h
      cases e2
      obtain ⟨h1, h2⟩ := Bool.and_eq_true_iff.mp h
      obtain ⟨l2, v2, rfl, g2, g2', q2⟩ := p2.tup k
      refine op_notIn_seq pins s σ H _ _ v u Q i rx ry ⟨l2, v2, rfl, .inr g2'.sq, flat_rel p1 h1, all_flat q2 h2, ?_⟩
      show Q (.bl (!inV x v2)) H
      rw [in_rel (flat_imm p1 h1) h1 q2 h2]
      exact fin_b k q
    · cases e2
  | _ => cases dx <;> exact nomatch (show (none : Option Bool) = some b from e1)
def isNo : PyData → Bool
  | .none => true
  | _ => false
/-- no bool, no list, no tuple -/
def unBl : PyData → Bool
  | .int _ | .str _ | .none => true
  | _ => false
theorem isD_cases {dx dy : PyData} {b : Bool} (e : isD dx dy = some b) : (dy = .none ∧ b = isNo dx) ∨ (∃ p q, dx = .bool p ∧ dy = .bool q ∧ b = (p == q)) ∨ ∃ q, unBl dx = true ∧ dy = .bool q ∧ b = false := by
  cases dy with
  | none => cases dx <;> (cases e; exact .inl ⟨rfl, rfl⟩)
  | bool q =>
    cases dx with
    | bool p => cases e; exact .inr (.inl ⟨p, q, rfl, rfl, rfl⟩)
    | int p => cases e; exact .inr (.inr ⟨q, rfl, rfl, rfl⟩)
    | str p => cases e; exact .inr (.inr ⟨q, rfl, rfl, rfl⟩)
    | none => cases e; exact .inr (.inr ⟨q, rfl, rfl, rfl⟩)
    | _ => exact nomatch (show (none : Option Bool) = some b from e)
  | _ => cases dx <;> exact nomatch (show (none : Option Bool) = some b from e)
theorem op_is_un : OpR X (compareOp .Is) (fun x y H Q => ∃ q, (x = .non ∨ (∃ i, x = .int i) ∨ ∃ i, x = .str i) ∧ y = .bl q ∧ Q (.bl false) H) := by
  intro pins s σ H x y v u Q I rx ry h
  obtain ⟨b, hx, rfl, q⟩ := h
  cases (show u = Value.bool b from ry)
  have key : plainIs v (.bool b) = true ∧ v ≠ .bool b := by
    rcases hx with rfl | ⟨i, rfl⟩ | ⟨i, rfl⟩
    · cases (show v = Value.none from rx)
      exact ⟨rfl, fun z => nomatch z⟩
    · obtain ⟨t, rfl⟩ := rx
      exact ⟨rfl, fun z => nomatch z⟩
    · obtain ⟨t, rfl⟩ := rx
      exact ⟨rfl, fun z => nomatch z⟩
  exact wpAny_is_other key.1 key.2 ⟨.bl false, H, I, rfl, q⟩
theorem op_not_un : OpR X (compareOp .IsNot) (fun x y H Q => ∃ q, (x = .non ∨ (∃ i, x = .int i) ∨ ∃ i, x = .str i) ∧ y = .bl q ∧ Q (.bl true) H) := by
  intro pins s σ H x y v u Q I rx ry h
  obtain ⟨b, hx, rfl, q⟩ := h
  cases (show u = Value.bool b from ry)
  have key : plainIs v (.bool b) = true ∧ v ≠ .bool b := by
    rcases hx with rfl | ⟨i, rfl⟩ | ⟨i, rfl⟩
    · cases (show v = Value.none from rx)
      exact ⟨rfl, fun z => nomatch z⟩
    · obtain ⟨t, rfl⟩ := rx
      exact ⟨rfl, fun z => nomatch z⟩
    · obtain ⟨t, rfl⟩ := rx
      exact ⟨rfl, fun z => nomatch z⟩
  exact wpAny_isNot_other key.1 key.2 ⟨.bl true, H, I, rfl, q⟩
theorem un_rel {M H : Hp} {d : PyData} {v : V} (h : unBl d = true) (r : RpR X.K I M H d v) : v = .non ∨ (∃ i, v = .int i) ∨ ∃ i, v = .str i := by
  cases d <;> try exact nomatch (show false = true from h)
  · exact .inl r.non
  · exact .inr (.inl ⟨_, r.int⟩)
  · exact .inr (.inr ⟨_, r.str⟩)
theorem non_rel {M H : Hp} {d : PyData} {v : V} (r : RpR X.K I M H d v) : decide (v = .non) = isNo d := by
  rcases r with r | ⟨_, _, _, e, e2, _⟩
  · cases r <;> simp [isNo]
  · subst e
    subst e2
    simp [isNo]
theorem op2_is : Op2 X I (compareOp .Is) (cmpD .is_) := by
  intro pins s σ H x y v u Q M dx dy d i rx ry k p1 p2 e q
  obtain ⟨b, e1, rfl⟩ := Option.map_eq_some_iff.mp e
  have e2 : isD dx dy = some b := e1
  rcases isD_cases e2 with ⟨rfl, rfl⟩ | ⟨p, r, rfl, rfl, rfl⟩ | ⟨r, hu, rfl, rfl⟩
  · refine op_isN pins s σ H _ _ v u Q i rx ry ⟨p2.non, ?_⟩
    rw [non_rel p1]
    exact fin_b k q
  · cases p1.bl
    cases p2.bl
    refine L2.op_is_bl pins s σ H _ _ v u Q i rx ry ⟨p, r, rfl, rfl, ?_⟩
    rw [show decide (p = r) = (p == r) by cases p <;> cases r <;> rfl]
    exact fin_b k q
  · cases p2.bl
    exact op_is_un pins s σ H _ _ v u Q i rx ry ⟨r, un_rel hu p1, rfl, fin_b k q⟩
theorem op2_isNot : Op2 X I (compareOp .IsNot) (cmpD .isNot) := by
  intro pins s σ H x y v u Q M dx dy d i rx ry k p1 p2 e q
  obtain ⟨b, e1, rfl⟩ := Option.map_eq_some_iff.mp e
  have e2 : (isD dx dy).map (!·) = some b := e1
  obtain ⟨b', e3, rfl⟩ := Option.map_eq_some_iff.mp e2
  rcases isD_cases e3 with ⟨rfl, rfl⟩ | ⟨p, r, rfl, rfl, rfl⟩ | ⟨r, hu, rfl, rfl⟩
  · refine op_notN pins s σ H _ _ v u Q i rx ry ⟨p2.non, ?_⟩
    rw [non_rel p1]
    exact fin_b k q
  · cases p1.bl
    cases p2.bl
    refine L2.op_isnot_bl pins s σ H _ _ v u Q i rx ry ⟨p, r, rfl, rfl, ?_⟩
    rw [show decide (p = r) = (p == r) by cases p <;> cases r <;> rfl]
    exact fin_b k q
  · cases p2.bl
    exact op_not_un pins s σ H _ _ v u Q i rx ry ⟨r, un_rel hu p1, rfl, fin_b k q⟩
def opC : Cop → CmpOp
  | .eq => .Eq | .ne => .NotEq | .lt => .Lt | .le => .LtE | .gt => .Gt | .ge => .GtE | .is_ => .Is | .isNot => .IsNot | .in_ => .In | .notIn => .NotIn
theorem op2_cop (hu : X.A.units + 65 < cLine) (o : Cop) : Op2 X I (compareOp (opC o)) (cmpD o) := by
  cases o
  · exact op2_eq (by omega)
  · exact op2_ne (by omega)
  · exact op2_lt
  · exact op2_le
  · exact op2_gt
  · exact op2_ge
  · exact op2_is
  · exact op2_isNot
  · exact op2_in hu
  · exact op2_notIn hu
end
end PV
set_option Elab.async false
set_option linter.all false
set_option maxRecDepth 100000
set_option maxHeartbeats 4000000
/-! PV: sorted of tuples of ints, any number of them. -/
namespace PV
theorem ltL_asym : ∀ {x y : List Int}, ltL x y = true → ltL y x = false
  | [], [], h => nomatch h
  | [], _ :: _, _ => rfl
  | _ :: _, [], h => nomatch h
  | x :: xs, y :: ys, h => by
    unfold ltL at h ⊢
    split at h
    · rename_i e
      rw [if_pos e.symm]
      exact ltL_asym h
    · rename_i e
      rw [if_neg fun z => e z.symm]
      have := of_decide_eq_true h
      exact decide_eq_false (by omega)
theorem ltL_tr : ∀ {x y z : List Int}, ltL y x = false → ltL z y = false → ltL z x = false
  | _, _, [], h1, h2 => by
    rename_i x y
    cases y with
    | cons _ _ => exact nomatch h2
    | nil =>
      cases x with
      | cons _ _ => exact nomatch h1
      | nil => rfl
  | [], _, _ :: _, _, _ => rfl
  | x :: xs, [], z :: zs, h1, _ => nomatch h1
  | x :: xs, y :: ys, z :: zs, h1, h2 => by
    unfold ltL at h1 h2 ⊢
    split at h1 <;> rename_i e1
    · split at h2 <;> rename_i e2
      · rw [if_pos (e2.trans e1)]
        exact ltL_tr h1 h2
      · have := of_decide_eq_false h2
        rw [if_neg fun w => e2 (w.trans e1.symm)]
        exact decide_eq_false (by omega)
    · have a1 := of_decide_eq_false h1
      split at h2 <;> rename_i e2
      · rw [if_neg fun w => e1 (e2.symm.trans w)]
        exact decide_eq_false (by omega)
      · have a2 := of_decide_eq_false h2
        rw [if_neg (by omega)]
        exact decide_eq_false (by omega)
theorem ltL_anti : ∀ {x y : List Int}, ltL x y = false → ltL y x = false → x = y
  | [], [], _, _ => rfl
  | [], _ :: _, h, _ => nomatch h
  | _ :: _, [], _, h => nomatch h
  | x :: xs, y :: ys, h1, h2 => by
    unfold ltL at h1 h2
    split at h1 <;> rename_i e1
    · rw [if_pos e1.symm] at h2
      rw [e1, ltL_anti h1 h2]
    · rw [if_neg fun z => e1 z.symm] at h2
      have a1 := of_decide_eq_false h1
      have a2 := of_decide_eq_false h2
      omega
theorem ltL_same {x y : Int} {xs ys : List Int} (h : x = y) : ltL (x :: xs) (y :: ys) = ltL xs ys := by
  show (if x = y then ltL xs ys else decide (x < y)) = _
  rw [if_pos h]
theorem ltL_diff {x y : Int} {xs ys : List Int} (h : ¬ x = y) : ltL (x :: xs) (y :: ys) = decide (x < y) := by
  show (if x = y then ltL xs ys else decide (x < y)) = _
  rw [if_neg h]
end PV
namespace SrtO
open PySem PyProof.Rows Srt
section
variable {prog : Program} {w : World} {A : Around} {E : Value → Shared → Prop} {s : Shared} {Q : Bool → Shared → Prop}
theorem swo_L (k : Value → List Int) : Swo fun v u => PV.ltL (k v) (k u) := ⟨fun _ _ h => PV.ltL_asym h, fun _ _ _ h1 h2 => PV.ltL_tr h1 h2⟩
theorem lexL_ints {b : Bool} {xs ys : List Value} {ns ms : List Int} (i : Nat) (hx : IntsAre xs ns) (hy : IntsAre ys ms) (hl : ns.length = ms.length)
    (h : Q (PV.ltL ns ms) s) : PySem.W.KatLex prog w A b false Q (xs.zip ys) i s := by
  induction hx generalizing ys ms i with
  | nil =>
    cases hy with
    | nil => exact PySem.W.kat_nil h
    | cons q u hy => simp at hl
  | @cons p t xs ns hx ih =>
    cases hy with
    | nil => simp at hl
    | @cons q u ys ms hy =>
      have hl' : ns.length = ms.length := by simpa using hl
      show PySem.W.KatLex prog w A b false Q ((Value.int p t, Value.int q u) :: xs.zip ys) i s
      refine PySem.W.kat_cons (wpAny_eqBool_int ?_)
      by_cases e : p = q
      · rw [show (p == q) = true from beq_iff_eq.mpr e]
        rw [PV.ltL_same e] at h
        refine PySem.W.kat_yes ?_
        first
          | exact ih (i + 1) hy hl' h
          | exact ih _ _ (i + 1) hy hl' h
      · rw [show (p == q) = false from beq_eq_false_iff_ne.mpr e]
        rw [PV.ltL_diff e] at h
        exact PySem.W.kat_no (TS.oneLt_ints _ h)
/-- what is sorted: tuples of d ints each -/
def TupsL (h : Heap) (d : Nat) (k : Value → List Int) (vs : List Value) : Prop := ∀ v ∈ vs, TS.TupInts h v (k v) ∧ (k v).length = d
theorem firstsL {h : Heap} {d : Nat} {k : Value → List Int} (hd : 1 ≤ d) : ∀ vs : List Value, TupsL h d k vs → ∃ fs, PySem.W.KatTups h vs fs ∧ fs.length = vs.length ∧ ∀ f, f ∈ fs → ∃ n t, f = Value.int n t
  | [], _ => ⟨[], PySem.W.KatTups.nil, rfl, fun f hf => by simp at hf⟩
  | v :: vs, x => by
    obtain ⟨fs, hk, hl, hi⟩ := firstsL hd vs fun u hu => x u (List.mem_cons_of_mem _ hu)
    obtain ⟨⟨a, xs, e0, ⟨o, ho, hc, n, hdt⟩, i⟩, hn⟩ := x v List.mem_cons_self
    obtain ⟨y, ys, e⟩ : ∃ y ys, xs.toList = y :: ys := by
      cases q : xs.toList with
      | nil =>
        rw [q] at i
        have l := i.length
        rw [List.length_nil, hn] at l
        omega
      | cons y ys => exact ⟨y, ys, rfl⟩
    obtain ⟨m, t, hy⟩ := i.all y (by rw [e]; exact List.mem_cons_self)
    refine ⟨y :: fs, ?_, by simp [hl], ?_⟩
    · rw [e0]
      refine PySem.W.KatTups.cons ho hc hdt ?_ hk
      have z := congrArg (fun l : List Value => l[0]?) e
      simpa using z
    · intro f hf
      rcases List.mem_cons.mp hf with rfl | hf
      · exact ⟨m, t, hy⟩
      · exact hi f hf
theorem tups_cmp {d : Nat} {k : Value → List Int} {vs : List Value} (hp : TupsL s.heap d k vs) : Cmp prog w A s (tuples' true) (fun p => p.1 ∈ vs) (lt2 fun v u => PV.ltL (k v) (k u)) := by
  intro p q hm hm'
  obtain ⟨t1, l1⟩ := hp _ hm
  obtain ⟨t2, l2⟩ := hp _ hm'
  show wpAny (model prog w) A (keyLt' (tuples' true) p.1 q.1) (fun r s' => s' = s ∧ r = PV.ltL (k p.1) (k q.1)) (fun _ _ => False) s
  generalize k p.1 = ns at t1 l1 ⊢
  generalize k q.1 = ms at t2 l2 ⊢
  obtain ⟨a, xs, e1, ⟨o, ho, hc, n, hdt⟩, i⟩ := t1
  obtain ⟨a', ys, e2, ⟨o', ho', hc', n', hdt'⟩, i'⟩ := t2
  rw [e1, e2]
  refine PySem.W.kat_lt ho hdt ho' hdt' ?_
  have sz : decide (xs.size < ys.size) = false := by
    have l3 := i.length
    have l4 := i'.length
    rw [Array.length_toList] at l3 l4
    exact decide_eq_false (by omega)
  rw [sz]
  exact lexL_ints 0 i i' (by omega) ⟨rfl, rfl⟩
theorem tups_sortableO {d : Nat} {a : Addr} {vs : List Value} {k : Value → List Int} (hd : 1 ≤ d) (h0 : 0 < vs.length) (hp : TupsL s.heap d k vs) (ha : ∀ o, s.heap.get? a = some o → o.cls ≠ .type "tuple") : SortableO prog w A s a vs fun v u => PV.ltL (k v) (k u) := by
  intro h' keep
  have hp' : TupsL h' d k vs := fun v hm => ⟨(hp v hm).1.keeps fun b o e c => keep b o (fun z => by subst z; exact ha o e c) e, (hp v hm).2⟩
  obtain ⟨fs, h1, h2, h3⟩ := firstsL hd vs hp'
  refine ⟨tuples' true, fun Q E hq => ?_, tups_cmp hp'⟩
  refine PySem.W.kat_kind (T := .type "int") h1 (by omega) (fun f hm => ?_) (by rfl) ?_
  · obtain ⟨x, t, rfl⟩ := h3 f hm
    exact PySem.W.Looks.now
  · have e : (Value.type "int" != Value.type "tuple") = true := by first | decide +kernel | rfl | decide
    rw [e]
    exact hq
end
end SrtO
namespace L2
open PySem PySem.Spec PyProof.Rows
/-- x is a tuple of these ints -/
def TupV (K : PySem.W.Frag) (H : Hp) (x : V) (ns : List Int) : Prop := ∃ t, x = .ref t ∧ SqT K H t (ns.map V.int)
/-- sorted(xs), xs a list of tuples of d ints, any number of them -/
def rSortTT (K : PySem.W.Frag) (d : Nat) : List V → Hp → VK → Prop := fun vs H Q => ∃ (a : Addr) (xs : List V), vs = [V.ref a] ∧ SqL K H a xs ∧ (∀ x ∈ xs, ∃ ns, TupV K H x ns ∧ ns.length = d) ∧
  ∀ (ys : List V) (p : Addr), ys.Perm xs → ys.Pairwise (fun x y => ∀ n m, TupV K H x n → TupV K H y m → PV.ltL m n = false) → H p = none → Q (.ref p) (upd H p (.lst ys))
section
variable {X : Cx} {pins : List (Addr × Obj)} {σ : St} {H : Hp} {s : Shared}
theorem tupV_raw (I : Inv X pins σ H s) {t : Addr} {ns : List Int} (h : SqT X.K H t (ns.map V.int)) : TS.TupInts s.heap (.ref t) ns := by
  obtain ⟨its, rv, hT, _⟩ := I.tuple h
  exact ⟨t, its.toArray, rfl, hT, by simpa using rv.ints⟩
theorem backV_ref {u : Value} {t : Addr} (hu : ∃ a, u = Value.ref a) (e : backV u = .ref t) : u = .ref t := by
  obtain ⟨a, rfl⟩ := hu
  have e' : V.ref a = V.ref t := e
  injection e' with e'
  rw [e']
theorem cr_sortedTT {d : Nat} (hd : 1 ≤ d) : CallR X (.builtin "sorted") (rSortTT X.K d) := by
  intro pins s σ H vs us Q I r h
  obtain ⟨a, xs, rfl, hs, hx, q⟩ := h
  obtain ⟨its, rv, hl, hz⟩ := I.list hs
  rw [Vals.ref1 r]
  obtain ⟨e1, e2⟩ := refs_back rv fun x m => by
    obtain ⟨ns, ⟨t, e, _⟩, _⟩ := hx x m
    exact ⟨t, e⟩
  have hp : SrtO.TupsL s.heap d (TS.intsOf s.heap) its := fun v hv => by
    obtain ⟨t, rfl⟩ := e2 v hv
    have hm : V.ref t ∈ xs := by
      rw [e1]
      exact List.mem_map.mpr ⟨_, hv, rfl⟩
    obtain ⟨ns, ⟨t', e, ht⟩, hn⟩ := hx _ hm
    cases e
    have := tupV_raw I ht
    rw [this.ints]
    exact ⟨this, hn⟩
  refine SrtO.sorted_ord (SrtO.swo_L (TS.intsOf s.heap)) hl.isList (by rw [← rv.length]; exact hz) (fun h2 h₁ a' ha kk => ?_) fun out h1 h2 => ?_
  · refine SrtO.tups_sortableO (s := { s with heap := h₁ }) hd (by omega) (fun v hm => ⟨(hp v hm).1.keeps fun b o e _ => (kk b o e).2, (hp v hm).2⟩) fun o e => ?_
    have e' : some o = some (seqObj "list" its.toArray 0) := e.symm.trans ha
    cases e'
    intro c
    exact absurd (Value.type.inj c) (by decide)
  · have h3 : ∀ u ∈ out, ∃ a, u = Value.ref a := fun u hu => e2 u (h2.perm.mem_iff.mp hu)
    obtain ⟨ep, he'⟩ := PyProof.Rows.sortedAll_at s.heap its out.toArray
    have hpm : (out.map backV).Perm xs := by
      rw [e1]
      exact h2.perm.map backV
    have hlen : (out.map backV).length ≤ sizeLine := by
      rw [hpm.length_eq]
      exact hz
    refine ⟨.ref _, upd H (s.heap.objs.size + 1) (.lst (out.map backV)), I.laid (t' := s.toks) (fun _ _ => PyProof.Rows.sortedAll_old) (Nat.le_succ _) ⟨hlen, out, ep, vals_back h3, he'⟩, rfl, q _ _ hpm ?_ (I.hok.fresh (Nat.le_succ _))⟩
    rw [List.pairwise_map]
    refine List.Pairwise.imp_of_mem (fun {u v} hu hv huv n m hn hm => ?_) h1
    obtain ⟨t, et, ht⟩ := hn
    obtain ⟨t', et', ht'⟩ := hm
    have i1 : TS.intsOf s.heap u = n := by
      rw [backV_ref (h3 u hu) et]
      exact (tupV_raw I ht).ints
    have i2 : TS.intsOf s.heap v = m := by
      rw [backV_ref (h3 v hv) et']
      exact (tupV_raw I ht').ints
    rw [← i1, ← i2]
    exact huv
end
end L2
namespace PV
open PySem PySem.Spec PyProof.Rows L2
section
variable {K : PySem.W.Frag} {M H : Hp}
theorem intsD_eq : ∀ {ds : List PyData} {ns : List Int}, intsD ds = some ns → ds = ns.map PyData.int
  | [], ns, e => by cases e; rfl
  | .int i :: r, ns, e => by
    replace e : (intsD r).map (i :: ·) = some ns := e
    obtain ⟨ms, e1, rfl⟩ := Option.map_eq_some_iff.mp e
    rw [intsD_eq e1]
    rfl
  | .none :: _, _, e => nomatch e
  | .bool _ :: _, _, e => nomatch e
  | .str _ :: _, _, e => nomatch e
  | .list _ :: _, _, e => nomatch e
  | .tuple _ :: _, _, e => nomatch e
  | .dict _ :: _, _, e => nomatch e
theorem RpA.ints {M : Hp} : ∀ {ns : List Int} {vs : List V}, RpA K M (ns.map PyData.int) vs → vs = ns.map V.int
  | [], _, .nil => rfl
  | _ :: _, _, .cons h r => by
    cases h
    rw [RpA.ints r]
    rfl
theorem tupsD_eq : ∀ {ds : List PyData} {xss : List (List Int)}, tupsD ds = some xss → ds = xss.map tupI
  | [], _, e => by cases e; rfl
  | .tuple ds :: r, xss, e => by
    replace e : ((intsD ds).bind fun ns => (tupsD r).map (ns :: ·)) = some xss := e
    obtain ⟨ns, e1, e2⟩ := Option.bind_eq_some_iff.mp e
    obtain ⟨q, e3, rfl⟩ := Option.map_eq_some_iff.mp e2
    rw [intsD_eq e1, tupsD_eq e3]
    rfl
  | .none :: _, _, e => nomatch (show (none : Option (List (List Int))) = some _ from e)
  | .bool _ :: _, _, e => nomatch (show (none : Option (List (List Int))) = some _ from e)
  | .int _ :: _, _, e => nomatch (show (none : Option (List (List Int))) = some _ from e)
  | .str _ :: _, _, e => nomatch (show (none : Option (List (List Int))) = some _ from e)
  | .list _ :: _, _, e => nomatch (show (none : Option (List (List Int))) = some _ from e)
  | .dict _ :: _, _, e => nomatch (show (none : Option (List (List Int))) = some _ from e)
theorem lenOk_all {xss : List (List Int)} (h : lenOk xss = true) : ∃ d, 1 ≤ d ∧ ∀ ns ∈ xss, ns.length = d := by
  cases xss with
  | nil => exact nomatch h
  | cons ns r =>
    obtain ⟨h1, h2⟩ := Bool.and_eq_true_iff.mp h
    refine ⟨ns.length, of_decide_eq_true h1, fun ms hm => ?_⟩
    rcases List.mem_cons.mp hm with e | hm
    · rw [e]
    · exact of_decide_eq_true (List.all_eq_true.mp h2 ms hm)
theorem tup1 {ns : List Int} {x : V} (k : Same M H) (h : Rp K M (tupI ns) x) : TupV K H x ns := by
  cases h with
  | tup h r =>
    cases r.ints
    exact ⟨_, rfl, (h.mono k).sq⟩
theorem tup_of (k : Same M H) : ∀ {xss : List (List Int)} {vs : List V}, RpA K M (xss.map tupI) vs → ∀ {x : V}, x ∈ vs → ∃ ns, ns ∈ xss ∧ TupV K H x ns
  | [], _, .nil, x, hx => nomatch hx
  | ns :: r, _, .cons h t, x, hx => by
    rcases List.mem_cons.mp hx with e | hx
    · rw [e]
      exact ⟨ns, List.mem_cons_self, tup1 k h⟩
    · obtain ⟨ms, h1, h2⟩ := tup_of k t hx
      exact ⟨ms, List.mem_cons_of_mem _ h1, h2⟩
theorem perm_of0 {vs ys : List V} (hp : vs.Perm ys) : ∀ {xss : List (List Int)}, RpA K M (xss.map tupI) vs → ∃ zss : List (List Int), zss.Perm xss ∧ RpA K M (zss.map tupI) ys := by
  induction hp with
  | nil =>
    intro xss h
    exact ⟨xss, .refl _, h⟩
  | cons x _ ih =>
    intro xss h
    cases xss with
    | nil => cases h
    | cons ns r =>
      cases h with
      | cons h t =>
        obtain ⟨zs, h1, h2⟩ := ih t
        exact ⟨ns :: zs, h1.cons ns, .cons h h2⟩
  | swap x y l =>
    intro xss h
    cases xss with
    | nil => cases h
    | cons n1 r =>
      cases r with
      | nil => cases h with | cons h t => cases t
      | cons n2 r =>
        cases h with
        | cons h t =>
          cases t with
          | cons h' t => exact ⟨n2 :: n1 :: r, .swap _ _ _, .cons h' (.cons h t)⟩
  | trans _ _ a b =>
    intro xss h
    obtain ⟨zs, h1, h2⟩ := a h
    obtain ⟨ws, h3, h4⟩ := b h2
    exact ⟨ws, h3.trans h1, h4⟩
theorem perm_of {xss : List (List Int)} {vs ys : List V} (r : RpA K M (xss.map tupI) vs) (hp : ys.Perm vs) : ∃ zss : List (List Int), zss.Perm xss ∧ RpA K M (zss.map tupI) ys := perm_of0 hp.symm r
theorem ord_of (k : Same M H) : ∀ {zss : List (List Int)} {ys : List V}, RpA K M (zss.map tupI) ys → ys.Pairwise (fun x y => ∀ n m, TupV K H x n → TupV K H y m → ltL m n = false) → zss.Pairwise fun a b => ltL b a = false
  | [], _, _, _ => List.Pairwise.nil
  | ns :: r, _, .cons h t, hp => by
    obtain ⟨h1, h2⟩ := List.pairwise_cons.mp hp
    refine List.pairwise_cons.mpr ⟨fun b hb => ?_, ord_of k t h2⟩
    have key : ∀ {zss : List (List Int)} {vs : List V}, RpA K M (zss.map tupI) vs → ∀ {b : List Int}, b ∈ zss → ∃ y, y ∈ vs ∧ TupV K H y b := by
      intro zss
      induction zss with
      | nil => intro vs _ b hb; exact nomatch hb
      | cons z zs ih =>
        intro vs hr b hb
        cases hr with
        | cons h' t' =>
          rcases List.mem_cons.mp hb with e | hb
          · rw [e]
            exact ⟨_, List.mem_cons_self, tup1 k h'⟩
          · obtain ⟨y, hy, ty⟩ := ih t' hb
            exact ⟨y, List.mem_cons_of_mem _ hy, ty⟩
    obtain ⟨y, hy, ty⟩ := key t hb
    exact h1 y hy ns b (tup1 k h) ty
theorem sortT_sorted (xs : List (List Int)) : (sortT xs).Pairwise fun a b => ltL b a = false := by
  have := List.pairwise_mergeSort (le := fun a b : List Int => !ltL b a) (fun a b c h1 h2 => by
    have h1 : ltL b a = false := by simpa using h1
    have h2 : ltL c b = false := by simpa using h2
    show (!ltL c a) = true
    rw [ltL_tr h1 h2]
    rfl) (fun a b => by
    show ((!ltL b a) || !ltL a b) = true
    cases e : ltL a b with
    | false => simp
    | true => rw [ltL_asym e]; rfl) xs
  exact this.imp fun h => by simpa using h
theorem sortT_eq {ns ms : List (List Int)} (h : ms.Perm ns) (hs : ms.Pairwise fun a b => ltL b a = false) : ms = sortT ns :=
  List.Perm.eq_of_pairwise (le := fun a b => ltL b a = false) (fun a b _ _ h1 h2 => ltL_anti h2 h1) hs (sortT_sorted ns) (h.trans (List.mergeSort_perm ns _).symm)
theorem sortT_perm {a b : List (List Int)} (h : a.Perm b) : sortT a = sortT b := sortT_eq ((List.mergeSort_perm a _).trans h) (sortT_sorted a)
end
end PV
set_option Elab.async false
set_option linter.all false
set_option maxRecDepth 100000
set_option maxHeartbeats 4000000
/-! PV, fourth part: built-in calls, subscripts, slices, what is walked. -/
namespace PV
open PySem PySem.Spec PyProof.Rows L2
inductive RpRA {S : Type} (K : PySem.W.Frag) (I : HI S) (M H : Hp) : List PyData → List V → Prop
  | nil : RpRA K I M H [] []
  | cons {d : PyData} {v : V} {ds : List PyData} {vs : List V} : RpR K I M H d v → RpRA K I M H ds vs → RpRA K I M H (d :: ds) (v :: vs)
inductive AvA {S : Type} (K : PySem.W.Frag) (I : HI S) (M : Hp) : List AV → List V → Prop
  | nil : AvA K I M [] []
  | d {d : PyData} {v : V} {ds : List AV} {vs : List V} : Rp K M d v → AvA K I M ds vs → AvA K I M (.d d :: ds) (v :: vs)
  | h {ds : List AV} {vs : List V} : AvA K I M ds vs → AvA K I M (.h :: ds) (.ref I.za :: vs)
section
variable {S : Type} {I : HI S} {X : Cx} {K : PySem.W.Frag} {M M' H H' : Hp} {s s' : S}
theorem RpRA.mono (k : Ok I M H s) (x : Ext I M H M' H' s') : ∀ {ds : List PyData} {vs : List V}, RpRA K I M H ds vs → RpRA K I M' H' ds vs
  | _, _, .nil => .nil
  | _, _, .cons h r => .cons (h.mono k x) (RpRA.mono k x r)
theorem AvA.mono (e : Same M M') : ∀ {ds : List AV} {vs : List V}, AvA K I M ds vs → AvA K I M' ds vs
  | _, _, .nil => .nil
  | _, _, .d hr r => .d (hr.mono e) (AvA.mono e r)
  | _, _, .h r => .h (AvA.mono e r)
theorem AvA.len : ∀ {ds : List AV} {vs : List V}, AvA K I M ds vs → vs.length = ds.length
  | _, _, .nil => rfl
  | _, _, .d hr r => congrArg (· + 1) (AvA.len r)
  | _, _, .h r => congrArg (· + 1) (AvA.len r)

/-! ### built-in calls -/
def CallD (X : Cx) (I : HI S) (f : Value) (p : Prim) : Prop :=
  ∀ (pins : List (Addr × Obj)) (s : Shared) (σ : L2.St) (H : Hp) (xs : List V) (us : List Value) (Q : VK) (M : Hp) (ds : List PyData) (d : PyData), Inv X pins σ H s → Vals xs us → Same M H →
    RpRA X.K I M H ds xs → primD p ds = some d → (∀ z M' H', Ext0 M H M' H' → ResF X.K H M' H' d z → Q z H') → wpAny (model X.prog X.w) X.A (call f us) (EP X pins σ Q) X.xe s
def rP (X : Cx) (I : HI S) (p : Prim) : List V → Hp → VK → Prop := fun xs H Q => ∃ M ds d, Same M H ∧ RpRA X.K I M H ds xs ∧ primD p ds = some d ∧ ∀ z M' H', Ext0 M H M' H' → ResF X.K H M' H' d z → Q z H'
theorem CallD.callR {f : Value} {p : Prim} (h : CallD X I f p) : CallR X f (rP X I p) := by
  intro pins s σ H xs us Q i r q
  obtain ⟨M, ds, d, k, a, e, q⟩ := q
  exact h pins s σ H xs us Q M ds d i r k a e q
theorem boolsD_eq : ∀ {ds : List PyData} {ns : List Bool}, boolsD ds = some ns → ds = ns.map PyData.bool
  | [], ns, e => by cases e; rfl
  | .bool i :: r, ns, e => by
    replace e : (boolsD r).map (i :: ·) = some ns := e
    obtain ⟨ms, e1, rfl⟩ := Option.map_eq_some_iff.mp e
    rw [boolsD_eq e1]
    rfl
  | .none :: _, _, e => nomatch e
  | .int _ :: _, _, e => nomatch e
  | .str _ :: _, _, e => nomatch e
  | .list _ :: _, _, e => nomatch e
  | .tuple _ :: _, _, e => nomatch e
  | .dict _ :: _, _, e => nomatch e
theorem RpA.bools {M : Hp} : ∀ {ns : List Bool} {vs : List V}, RpA K M (ns.map PyData.bool) vs → vs = ns.map V.bl
  | [], _, .nil => rfl
  | _ :: _, _, .cons h r => by
    cases h
    rw [RpA.bools r]
    rfl
theorem RpRA.one {d : PyData} {xs : List V} (r : RpRA K I M H [d] xs) : ∃ x, xs = [x] ∧ RpR K I M H d x := by
  cases r with
  | cons h r =>
    cases r
    exact ⟨_, rfl, h⟩
theorem RpRA.two {d e : PyData} {xs : List V} (r : RpRA K I M H [d, e] xs) : ∃ x y, xs = [x, y] ∧ RpR K I M H d x ∧ RpR K I M H e y := by
  cases r with
  | cons h r =>
    cases r with
    | cons h2 r =>
      cases r
      exact ⟨_, _, rfl, h, h2⟩
/-- a one-place built-in: its arguments are one -/
theorem prim_len {ds : List PyData} {d : PyData} (e : primD .len ds = some d) : ∃ x, ds = [x] := by
  match ds, e with
  | [x], _ => exact ⟨x, rfl⟩
  | [], e => exact nomatch (show (none : Option PyData) = some d from e)
  | a :: b :: r, e => cases a <;> exact nomatch (show (none : Option PyData) = some d from e)
theorem ca_len : CallD X I (.builtin "len") .len := by
  intro pins s σ H xs us Q M ds d i r k a e q
  obtain ⟨x, rfl⟩ := prim_len e
  obtain ⟨v, rfl, p⟩ := a.one
  cases x <;> try exact nomatch (show (none : Option PyData) = some d from e)
  case list ds =>
    cases e
    obtain ⟨l, vs, rfl, h, q1⟩ := p.lst k
    refine call_len_seq pins s σ H _ us Q i r ⟨l, vs, rfl, .inl (SqL.of h), ?_⟩
    rw [q1.len]
    exact q _ _ _ (.rfl k) (.int _)
  case tuple ds =>
    cases e
    obtain ⟨l, vs, rfl, h, h', q1⟩ := p.tup k
    refine call_len_seq pins s σ H _ us Q i r ⟨l, vs, rfl, .inr h'.sq, ?_⟩
    rw [q1.len]
    exact q _ _ _ (.rfl k) (.int _)
  case str z =>
    replace e : (if z.length ≤ sizeLine then some (PyData.int z.length) else none) = some d := e
    split at e
    · rename_i hz
      cases e
      cases p.str
      exact call_len_str pins s σ H _ us Q i r ⟨z, rfl, hz, q _ _ _ (.rfl k) (.int _)⟩
    · cases e
theorem prim_one {p : Prim} {ds : List PyData} {d : PyData} (hp : p = .tuple ∨ p = .list ∨ p = .int ∨ p = .abs ∨ p = .sum ∨ p = .all ∨ p = .any ∨ p = .str) (e : primD p ds = some d) : ∃ x, ds = [x] := by
  match ds, e with
  | [x], _ => exact ⟨x, rfl⟩
  | [], e => rcases hp with rfl | rfl | rfl | rfl | rfl | rfl | rfl | rfl <;> exact nomatch (show (none : Option PyData) = some d from e)
  | a :: b :: r, e => rcases hp with rfl | rfl | rfl | rfl | rfl | rfl | rfl | rfl <;> cases a <;> exact nomatch (show (none : Option PyData) = some d from e)
/-- tuple(x), the new one known -/
theorem call_tupleN : CallR X (.type "tuple") (fun xs H Q => ∃ p ys, xs = [.ref p] ∧ ((SqL X.K H p ys ∧ ∀ l o, H l = none → o.dict = none → Q (.ref l) (upd H l (.frz o (.tup ys)))) ∨ (SqT X.K H p ys ∧ Q (.ref p) H))) := by
  intro pins s σ H xs us Q i r h
  obtain ⟨p, ys, rfl, h⟩ := h
  cases Vals.ref1 r
  rcases h with ⟨hq, q⟩ | ⟨hq, q⟩
  · obtain ⟨its, r', pl, hz⟩ := i.list hq
    have hlen := r'.length
    exact call_tuple_list pl.isList (fun h' kp => laidT (i.kept (t' := s.toks) kp) r' hz q) (by rw [List.size_toArray]; omega)
  · obtain ⟨its, r', pl, hz⟩ := i.tuple hq
    exact call_tuple_same pl ⟨.ref p, H, i, rfl, q⟩
theorem ca_tuple : CallD X I (.type "tuple") .tuple := by
  intro pins s σ H xs us Q M ds d i r k a e q
  obtain ⟨x, rfl⟩ := prim_one (by simp) e
  obtain ⟨v, rfl, p⟩ := a.one
  cases x <;> try exact nomatch (show (none : Option PyData) = some d from e)
  case list ds =>
    cases e
    obtain ⟨l, vs, rfl, h, q1⟩ := p.lst k
    exact call_tupleN pins s σ H _ us Q i r ⟨l, vs, rfl, .inl ⟨SqL.of h, fun p o hp hd => q _ _ _ (.new k hp) (.tup (.new hd) (RpA.mono (same_upd (k.free hp)) q1))⟩⟩
  case tuple ds =>
    cases e
    obtain ⟨l, vs, rfl, h, h', q1⟩ := p.tup k
    exact call_tupleN pins s σ H _ us Q i r ⟨l, vs, rfl, .inr ⟨h'.sq, q _ _ _ (.rfl k) (.tup h q1)⟩⟩
theorem ca_list : CallD X I (.type "list") .list := by
  intro pins s σ H xs us Q M ds d i r k a e q
  obtain ⟨x, rfl⟩ := prim_one (by simp) e
  obtain ⟨v, rfl, p⟩ := a.one
  cases x <;> try exact nomatch (show (none : Option PyData) = some d from e)
  case list ds =>
    cases e
    obtain ⟨l, vs, rfl, h, q1⟩ := p.lst k
    exact call_list_of pins s σ H _ us Q i r ⟨l, vs, rfl, .inl (SqL.of h), fun p hp => q _ M _ (.own k hp) ⟨p, _, rfl, hp, upd_same, k.free hp, q1⟩⟩
  case tuple ds =>
    cases e
    obtain ⟨l, vs, rfl, h, h', q1⟩ := p.tup k
    exact call_list_of pins s σ H _ us Q i r ⟨l, vs, rfl, .inr h'.sq, fun p hp => q _ M _ (.own k hp) ⟨p, _, rfl, hp, upd_same, k.free hp, q1⟩⟩
theorem ca_int : CallD X I (.type "int") .int := by
  intro pins s σ H xs us Q M ds d i r k a e q
  obtain ⟨x, rfl⟩ := prim_one (by simp) e
  obtain ⟨v, rfl, p⟩ := a.one
  cases x <;> try exact nomatch (show (none : Option PyData) = some d from e)
  case int n =>
    cases e
    cases p.int
    exact call_int1 pins s σ H _ us Q i r (.inl ⟨n, rfl, q _ _ _ (.rfl k) (.int _)⟩)
  case bool b =>
    cases e
    cases p.bl
    exact call_int1 pins s σ H _ us Q i r (.inr ⟨b, rfl, q _ _ _ (.rfl k) (.int _)⟩)
theorem ca_abs : CallD X I (.builtin "abs") .abs := by
  intro pins s σ H xs us Q M ds d i r k a e q
  obtain ⟨x, rfl⟩ := prim_one (by simp) e
  obtain ⟨v, rfl, p⟩ := a.one
  cases x <;> try exact nomatch (show (none : Option PyData) = some d from e)
  case int n =>
    cases e
    cases p.int
    exact call_abs pins s σ H _ us Q i r ⟨n, rfl, q _ _ _ (.rfl k) (.int _)⟩
theorem ca_str : CallD X I (.type "str") .str := by
  intro pins s σ H xs us Q M ds d i r k a e q
  obtain ⟨x, rfl⟩ := prim_one (by simp) e
  obtain ⟨v, rfl, p⟩ := a.one
  cases x <;> try exact nomatch (show (none : Option PyData) = some d from e)
  case int n =>
    replace e : (if n.natAbs.log2 < 1920 then some (PyData.str (toString n)) else none) = some d := e
    split at e
    · rename_i hz
      cases e
      cases p.int
      exact call_str_int pins s σ H _ us Q i r ⟨n, rfl, hz, q _ _ _ (.rfl k) (.str _)⟩
    · cases e
/-- sum(x) of a tuple -/
theorem call_sumT (hc : X.calm = true) : CallR X (.builtin "sum") (fun xs H Q => ∃ (p : Addr) (ns : List Int), xs = [V.ref p] ∧ SqT X.K H p (ns.map V.int) ∧ Q (.int ns.sum) H) := by
  intro pins s σ H xs us Q i r h
  obtain ⟨p, ns, rfl, ht, q⟩ := h
  cases Vals.ref1 r
  obtain ⟨its, rv, pl, _⟩ := i.tuple ht
  have num := rv.ints
  obtain ⟨zs, ez⟩ := num.allInts.items
  have same : (zs.toList.map (·.1)) = ns := by
    rw [← nums_intItems, ← ez]
    exact num.numsOf
  rw [ez] at pl
  refine PySem.W.ktm_sumG (i.ok.hd hc) pl fun h' tk t' kept => ⟨.int _, H, i.kept kept, ⟨_, rfl⟩, ?_⟩
  rw [preSum_eq, ← Array.length_toList, ← List.length_map (f := (·.1)), List.take_length, same]
  exact q
theorem ca_sum (hc : X.calm = true) : CallD X I (.builtin "sum") .sum := by
  intro pins s σ H xs us Q M ds d i r k a e q
  obtain ⟨x, rfl⟩ := prim_one (by simp) e
  obtain ⟨v, rfl, p⟩ := a.one
  cases x <;> try exact nomatch (show (none : Option PyData) = some d from e)
  case list ds =>
    replace e : ((intsD ds).map fun ns => PyData.int ns.sum) = some d := e
    obtain ⟨ns, e1, rfl⟩ := Option.map_eq_some_iff.mp e
    cases intsD_eq e1
    obtain ⟨l, vs, rfl, h, q1⟩ := p.lst k
    cases q1.ints
    exact cr_sum hc pins s σ H _ us Q i r ⟨l, ns, rfl, SqL.of h, q _ _ _ (.rfl k) (.int _)⟩
  case tuple ds =>
    replace e : ((intsD ds).map fun ns => PyData.int ns.sum) = some d := e
    obtain ⟨ns, e1, rfl⟩ := Option.map_eq_some_iff.mp e
    cases intsD_eq e1
    obtain ⟨l, vs, rfl, h, h', q1⟩ := p.tup k
    cases q1.ints
    exact call_sumT hc pins s σ H _ us Q i r ⟨l, ns, rfl, h'.sq, q _ _ _ (.rfl k) (.int _)⟩
theorem ca_all (hc : X.calm = true) : CallD X I (.builtin "all") .all := by
  intro pins s σ H xs us Q M ds d i r k a e q
  obtain ⟨x, rfl⟩ := prim_one (by simp) e
  obtain ⟨v, rfl, p⟩ := a.one
  cases x <;> try exact nomatch (show (none : Option PyData) = some d from e)
  case list ds =>
    replace e : ((boolsD ds).map fun bs => PyData.bool (bs.all id)) = some d := e
    obtain ⟨ns, e1, rfl⟩ := Option.map_eq_some_iff.mp e
    cases boolsD_eq e1
    obtain ⟨l, vs, rfl, h, q1⟩ := p.lst k
    cases q1.bools
    exact cr_all hc pins s σ H _ us Q i r ⟨l, ns, rfl, SqL.of h, q _ _ _ (.rfl k) (.bl _)⟩
theorem ca_any (hc : X.calm = true) : CallD X I (.builtin "any") .any := by
  intro pins s σ H xs us Q M ds d i r k a e q
  obtain ⟨x, rfl⟩ := prim_one (by simp) e
  obtain ⟨v, rfl, p⟩ := a.one
  cases x <;> try exact nomatch (show (none : Option PyData) = some d from e)
  case list ds =>
    replace e : ((boolsD ds).map fun bs => PyData.bool (bs.any id)) = some d := e
    obtain ⟨ns, e1, rfl⟩ := Option.map_eq_some_iff.mp e
    cases boolsD_eq e1
    obtain ⟨l, vs, rfl, h, q1⟩ := p.lst k
    cases q1.bools
    exact cr_any hc pins s σ H _ us Q i r ⟨l, ns, rfl, SqL.of h, q _ _ _ (.rfl k) (.bl _)⟩
theorem prim_two {p : Prim} {ds : List PyData} {d : PyData} (hp : p = .min2 ∨ p = .max2 ∨ p = .gcd) (e : primD p ds = some d) : ∃ i j : Int, ds = [.int i, .int j] := by
  match ds, e with
  | [], e => rcases hp with rfl | rfl | rfl <;> exact nomatch (show (none : Option PyData) = some d from e)
  | [a], e => rcases hp with rfl | rfl | rfl <;> cases a <;> exact nomatch (show (none : Option PyData) = some d from e)
  | [a, b], e =>
    cases a <;> try (rcases hp with rfl | rfl | rfl <;> exact nomatch (show (none : Option PyData) = some d from e))
    cases b <;> try (rcases hp with rfl | rfl | rfl <;> exact nomatch (show (none : Option PyData) = some d from e))
    exact ⟨_, _, rfl⟩
  | a :: b :: c :: r, e => rcases hp with rfl | rfl | rfl <;> cases a <;> try exact nomatch (show (none : Option PyData) = some d from e)
                           all_goals (cases b <;> exact nomatch (show (none : Option PyData) = some d from e))
theorem ca_min2 (hc : X.calm = true) : CallD X I (.builtin "min") .min2 := by
  intro pins s σ H xs us Q M ds d i r k a e q
  obtain ⟨m, n, rfl⟩ := prim_two (by simp) e
  obtain ⟨v, w, rfl, p1, p2⟩ := a.two
  cases e
  cases p1.int
  cases p2.int
  exact call_min2 hc pins s σ H _ us Q i r ⟨m, n, rfl, q _ _ _ (.rfl k) (.int _)⟩
theorem ca_max2 (hc : X.calm = true) : CallD X I (.builtin "max") .max2 := by
  intro pins s σ H xs us Q M ds d i r k a e q
  obtain ⟨m, n, rfl⟩ := prim_two (by simp) e
  obtain ⟨v, w, rfl, p1, p2⟩ := a.two
  cases e
  cases p1.int
  cases p2.int
  exact call_max2 hc pins s σ H _ us Q i r ⟨m, n, rfl, q _ _ _ (.rfl k) (.int _)⟩
theorem depth_ints : ∀ ns : List Int, PyData.depthAll (ns.map .int) = 0
  | [] => rfl
  | n :: r => by
    rw [List.map_cons]
    unfold PyData.depthAll
    rw [depth_ints r]
    rfl
theorem reads_ints {h : Heap} : ∀ {its : List Value} {ns : List Int}, IntsAre its ns → ReadsAll h its (ns.map .int) []
  | _, _, .nil => .nil
  | _, _, .cons _ _ r => .cons (as := []) (.int _ _) (reads_ints r)
/-- max(x) of a tuple -/
theorem call_maxT (hc : X.calm = true) (hu : X.A.units + 65 < cLine) : CallR X (.builtin "max") (fun xs H Q => ∃ (p : Addr) (n : Int) (ns : List Int), xs = [V.ref p] ∧ SqT X.K H p ((n :: ns).map V.int) ∧ Q (.int (ns.foldl max n)) H) := by
  intro pins s σ H xs us Q i r h
  obtain ⟨p, n, ns, rfl, ht, q⟩ := h
  cases Vals.ref1 r
  obtain ⟨its, rv, pl, _⟩ := i.tuple ht
  have num := rv.ints
  refine PySem.W.max_tuple_data (x := .int n) (xs := ns.map .int) (as := []) (i.ok.hd hc) pl (reads_ints num) ⟨fun x hx y hy => ?_, fun x hx => ?_⟩ (by rw [← List.map_cons, depth_ints]; omega) fun j v h' tk bs hv rd kept => ?_
  · rw [← List.map_cons] at hx hy
    obtain ⟨a, _, rfl⟩ := List.mem_map.mp hx
    obtain ⟨b, _, rfl⟩ := List.mem_map.mp hy
    rfl
  · rw [← List.map_cons] at hx
    obtain ⟨a, _, rfl⟩ := List.mem_map.mp hx
    exact fun z => nomatch z
  · rw [PySem.W.maxD_ints] at rd
    cases rd
    exact ⟨.int _, H, i.kept kept, ⟨_, rfl⟩, q⟩
theorem foldl_max : ∀ (ns : List Int) (n : Int), ns.foldl max n ∈ n :: ns ∧ ∀ y ∈ n :: ns, y ≤ ns.foldl max n
  | [], n => ⟨List.mem_cons_self, fun y hy => by
    rw [List.mem_singleton.mp hy]
    exact Int.le_refl _⟩
  | k :: r, n => by
    obtain ⟨h1, h2⟩ := foldl_max r (max n k)
    rw [List.foldl_cons]
    refine ⟨?_, fun y hy => ?_⟩
    · rcases List.mem_cons.mp h1 with e | e
      · rw [e]
        by_cases w : n ≤ k
        · rw [Int.max_eq_right w]
          exact List.mem_cons_of_mem _ List.mem_cons_self
        · rw [Int.max_eq_left (by omega)]
          exact List.mem_cons_self
      · exact List.mem_cons_of_mem _ (List.mem_cons_of_mem _ e)
    · have h3 := h2 (max n k) List.mem_cons_self
      rcases List.mem_cons.mp hy with e | e
      · rw [e]
        omega
      · rcases List.mem_cons.mp e with e | e
        · rw [e]
          omega
        · exact h2 y (List.mem_cons_of_mem _ e)
theorem ca_max1 (hc : X.calm = true) (hu : X.A.units + 65 < cLine) : CallD X I (.builtin "max") .max1 := by
  intro pins s σ H xs us Q M ds d i r k a e q
  obtain ⟨x, rfl⟩ : ∃ x, ds = [x] := by
    match ds, e with
    | [x], _ => exact ⟨x, rfl⟩
    | [], e => exact nomatch (show (none : Option PyData) = some d from e)
    | a :: b :: r, e => cases a <;> exact nomatch (show (none : Option PyData) = some d from e)
  obtain ⟨v, rfl, p⟩ := a.one
  cases x <;> try exact nomatch (show (none : Option PyData) = some d from e)
  case list ds =>
    replace e : ((intsD ds).bind maxI).map .int = some d := e
    obtain ⟨m, e0, rfl⟩ := Option.map_eq_some_iff.mp e
    obtain ⟨ns, e1, e2⟩ := Option.bind_eq_some_iff.mp e0
    cases intsD_eq e1
    obtain ⟨l, vs, rfl, h, q1⟩ := p.lst k
    cases q1.ints
    cases ns with
    | nil => cases e2
    | cons n ns =>
      cases e2
      obtain ⟨f1, f2⟩ := foldl_max ns n
      refine cr_max hc pins s σ H _ us Q i r ⟨l, n :: ns, rfl, SqL.of h, Nat.succ_pos _, fun m hm hle => ?_⟩
      have : m = ns.foldl max n := Int.le_antisymm (f2 m hm) (hle _ f1)
      rw [this]
      exact q _ _ _ (.rfl k) (.int _)
  case tuple ds =>
    replace e : ((intsD ds).bind maxI).map .int = some d := e
    obtain ⟨m, e0, rfl⟩ := Option.map_eq_some_iff.mp e
    obtain ⟨ns, e1, e2⟩ := Option.bind_eq_some_iff.mp e0
    cases intsD_eq e1
    obtain ⟨l, vs, rfl, h, h', q1⟩ := p.tup k
    cases q1.ints
    cases ns with
    | nil => cases e2
    | cons n ns =>
      cases e2
      exact call_maxT hc hu pins s σ H _ us Q i r ⟨l, n, ns, rfl, h'.sq, q _ _ _ (.rfl k) (.int _)⟩
theorem rpA_intsD {K : PySem.W.Frag} {M : Hp} : ∀ L : List Int, RpA K M (L.map PyData.int) (L.map V.int)
  | [] => .nil
  | x :: r => .cons (.int _) (rpA_intsD r)
theorem sortI_eq {ns ms : List Int} (h : ms.Perm ns) (hs : ms.Pairwise (· ≤ ·)) : ms = sortI ns := by
  have h2 : (sortI ns).Pairwise (· ≤ ·) := by
    have := List.pairwise_mergeSort (le := fun a b : Int => decide (a ≤ b)) (fun a b c h1 h2 => by simp at *; omega) (fun a b => by simp; omega) ns
    exact this.imp fun h => by simpa using h
  exact List.Perm.eq_of_pairwise (le := fun a b : Int => a ≤ b) (fun a b _ _ h1 h2 => Int.le_antisymm h1 h2) hs h2 (h.trans (List.mergeSort_perm ns _).symm)
theorem ca_sorted : CallD X I (.builtin "sorted") .sorted := by
  intro pins s σ H xs us Q M ds d i r k a e q
  obtain ⟨x, rfl⟩ : ∃ x, ds = [x] := by
    match ds, e with
    | [x], _ => exact ⟨x, rfl⟩
    | [], e => exact nomatch (show (none : Option PyData) = some d from e)
    | a :: b :: r, e => cases a <;> exact nomatch (show (none : Option PyData) = some d from e)
  obtain ⟨v, rfl, p⟩ := a.one
  cases x <;> try exact nomatch (show (none : Option PyData) = some d from e)
  case list ds =>
    replace e : (sortD ds).map PyData.list = some d := e
    obtain ⟨es, e1, rfl⟩ := Option.map_eq_some_iff.mp e
    obtain ⟨l, vs, rfl, h, q1⟩ := p.lst k
    unfold sortD at e1
    split at e1
    · rename_i ns e2
      cases e1
      cases intsD_eq e2
      cases q1.ints
      refine cr_sortedI pins s σ H _ us Q i r ⟨l, ns, rfl, SqL.of h, fun ms p hm hs hp => ?_⟩
      cases sortI_eq hm hs
      exact q _ M _ (.own k hp) ⟨p, _, rfl, hp, upd_same, k.free hp, rpA_intsD _⟩
    · obtain ⟨xss, e2, e3⟩ := Option.bind_eq_some_iff.mp e1
      split at e3
      · rename_i hl
        cases e3
        cases tupsD_eq e2
        obtain ⟨m, m1, hm⟩ := lenOk_all hl
        refine cr_sortedTT m1 pins s σ H _ us Q i r ⟨l, vs, rfl, SqL.of h, fun x hx => ?_, fun ys p hp hs hn => ?_⟩
        · obtain ⟨ns, h1, h2⟩ := tup_of k q1 hx
          exact ⟨ns, h2, hm ns h1⟩
        · obtain ⟨zss, hz, rz⟩ := perm_of q1 hp
          have e4 : zss = sortT xss := sortT_eq hz (ord_of k rz hs)
          rw [e4] at rz
          exact q _ M _ (.own k hn) ⟨p, _, rfl, hn, upd_same, k.free hn, rz⟩
      · cases e3
theorem ca_gcd : CallD X I (.builtin "math.gcd") .gcd := by
  intro pins s σ H xs us Q M ds d i r k a e q
  obtain ⟨m, n, rfl⟩ := prim_two (by simp) e
  obtain ⟨v, w, rfl, p1, p2⟩ := a.two
  cases e
  cases p1.int
  cases p2.int
  exact cr_gcd pins s σ H _ us Q i r ⟨m, n, rfl, q _ _ _ (.rfl k) (.int _)⟩

/-! ### the type of data -/
def tyN : PyData → String
  | .none => "NoneType"
  | .bool _ => "bool"
  | .int _ => "int"
  | .str _ => "str"
  | .list _ => "list"
  | .tuple _ => "tuple"
  | .dict _ => "dict"
def tyNm : Ty → String
  | .tuple => "tuple" | .list => "list" | .int => "int" | .bool => "bool" | .str => "str"
theorem ty_of {d : PyData} {v : V} (k : Same M H) (r : RpR K I M H d v) (nd : noDict d = true) : TyX K H v (.type (tyN d)) := by
  cases d with
  | none => cases r.non; exact .base .non
  | bool b => cases r.bl; exact .base (.bl b)
  | int b => cases r.int; exact .base (.int b)
  | str b => cases r.str; exact .base (.str b)
  | list b =>
    obtain ⟨l, vs, rfl, h, _⟩ := r.lst k
    exact .base (.lst h)
  | tuple b =>
    obtain ⟨l, vs, rfl, _, h, _⟩ := r.tup k
    rcases h with ⟨o, h, _⟩ | ⟨o, its, n, h, c, _⟩
    · exact .fTuple h
    · exact .kTuple h c
  | dict b => cases nd
theorem kit_all : ∀ (t : Ty) (n : String), n = "NoneType" ∨ n = "bool" ∨ n = "int" ∨ n = "str" ∨ n = "list" ∨ n = "tuple" →
    kitB n (tyNm t) = some (decide (n = tyNm t) || (decide (n = "bool") && decide (tyNm t = "int"))) := by
  intro t n h
  rcases h with rfl | rfl | rfl | rfl | rfl | rfl <;> cases t <;> decide +kernel
theorem tyD_eq (t : Ty) (d : PyData) (nd : noDict d = true) : tyD t d = (decide (tyN d = tyNm t) || (decide (tyN d = "bool") && decide (tyNm t = "int"))) := by
  cases d <;> cases t <;> first | rfl | (cases nd) | decide

/-! ### subscripts and slices -/
def IxD (X : Cx) (I : HI S) : R2 := fun x y H Q => ∃ M dx dy d, Same M H ∧ RpR X.K I M H dx x ∧ RpR X.K I M H dy y ∧ idxD dx dy = some d ∧ ∀ z, Rp X.K M d z → Q z H
theorem atI_rel {ds : List PyData} {vs : List V} {i : Int} {d : PyData} (r : RpA K M ds vs) (e : atI ds i = some d) : ∃ v, atI vs i = some v ∧ Rp K M d v := by
  unfold atI at e ⊢
  rw [r.len]
  obtain ⟨j, e1, e2⟩ := Option.bind_eq_some_iff.mp e
  obtain ⟨v, e3, q⟩ := r.get e2
  exact ⟨v, by rw [e1]; exact e3, q⟩
theorem ix_data : IxR X (IxD X I) := by
  intro va sl pins s σ H x y v u Q i rx ry q hs
  obtain ⟨M, dx, dy, d, k, p1, p2, e, q⟩ := q
  cases dx <;> try (cases dy <;> exact nomatch (show (none : Option PyData) = some d from e))
  case list ds =>
    cases dy <;> try exact nomatch (show (none : Option PyData) = some d from e)
    rename_i n
    obtain ⟨l, vs, rfl, h, q1⟩ := p1.lst k
    cases p2.int
    obtain ⟨z, e1, r⟩ := atI_rel q1 (show atI ds n = some d from e)
    exact ix_list va sl pins s σ H _ _ v u Q i rx ry ⟨l, vs, n, z, rfl, rfl, SqL.of h, e1, q z r⟩ hs
  case tuple ds =>
    cases dy <;> try exact nomatch (show (none : Option PyData) = some d from e)
    rename_i n
    obtain ⟨l, vs, rfl, h, h', q1⟩ := p1.tup k
    cases p2.int
    obtain ⟨z, e1, r⟩ := atI_rel q1 (show atI ds n = some d from e)
    exact ix_tup va sl pins s σ H _ _ v u Q i rx ry ⟨l, vs, n, z, rfl, rfl, h'.sq, e1, q z r⟩ hs
/-- t[lo:hi], the new one known; the whole of it is t itself -/
def rSlN (K : PySem.W.Frag) : V → Option Int → Option Int → Hp → VK → Prop := fun x lo hi H Q => ∃ a xs, x = .ref a ∧ SqT K H a xs ∧
  (HT.sIx xs.length 0 lo = 0 ∧ HT.sIx xs.length xs.length hi = xs.length → Q (.ref a) H) ∧ (¬ (HT.sIx xs.length 0 lo = 0 ∧ HT.sIx xs.length xs.length hi = xs.length) → ∀ p o, H p = none → o.dict = none → Q (.ref p) (upd H p (.frz o (.tup (cutV xs lo hi)))))
theorem sl_tupN : SlR X (rSlN X.K) := by
  intro pins s σ H x v vl vu lo hi sl Q i rx hs pl pu h
  obtain ⟨a, xs, rfl, hx, q1, q2⟩ := h
  cases rx
  obtain ⟨its, r, ht, hz⟩ := i.tuple hx
  have hlen : its.toArray.size = xs.length := by rw [List.size_toArray, r.length]
  refine ⟨"tuple", _, PyProof.Rows.slot_tuple_getitem.lookup, ht.typeIs, ?_⟩
  by_cases hw : HT.sIx xs.length 0 lo = 0 ∧ HT.sIx xs.length xs.length hi = xs.length
  · exact getItem_tuple_whole ht hs pl pu (by rw [hlen]; exact hw) ⟨.ref a, H, i, rfl, q1 hw⟩
  · refine HT.getItem_tuple_cut ht hs pl pu (by rw [hlen]; exact hw) ?_ (by rw [hlen]; exact hz)
    rw [hlen]
    exact laidT i ((r.drop (HT.sIx xs.length 0 lo)).take (HT.sIx xs.length xs.length hi - HT.sIx xs.length 0 lo)) (Nat.le_trans (cutV_length xs lo hi) hz) (q2 hw)
def SlD (X : Cx) (I : HI S) : V → Option Int → Option Int → Hp → VK → Prop := fun x lo hi H Q => ∃ M dx d, Same M H ∧ RpR X.K I M H dx x ∧ slcD dx lo hi = some d ∧ ∀ z M' H', Ext0 M H M' H' → ResF X.K H M' H' d z → Q z H'
theorem sl_data : SlR X (SlD X I) := by
  intro pins s σ H x v vl vu lo hi sl Q i rx hs pl pu q
  obtain ⟨M, dx, d, k, p1, e, q⟩ := q
  cases dx <;> try exact nomatch (show (none : Option PyData) = some d from e)
  case list ds =>
    cases e
    obtain ⟨l, vs, rfl, h, q1⟩ := p1.lst k
    exact sl_list pins s σ H _ v vl vu lo hi sl Q i rx hs pl pu ⟨l, vs, rfl, SqL.of h, fun p hp => q _ M _ (.own k hp) ⟨p, _, rfl, hp, upd_same, k.free hp, q1.cut lo hi⟩⟩
  case tuple ds =>
    cases e
    obtain ⟨l, vs, rfl, h, h', q1⟩ := p1.tup k
    refine sl_tupN pins s σ H _ v vl vu lo hi sl Q i rx hs pl pu ⟨l, vs, rfl, h'.sq, fun z => ?_, fun z p o hp hd => ?_⟩
    · refine q _ _ _ (.rfl k) (.tup h ?_)
      have z' := z
      rw [q1.len] at z'
      have e1 : cutD ds lo hi = ds := by
        unfold cutD
        rw [z'.1, z'.2]
        simp
      rw [e1]
      exact q1
    · exact q _ _ _ (.new k hp) (.tup (.new hd) (RpA.mono (same_upd (k.free hp)) (q1.cut lo hi)))
theorem truth_rel {d : PyData} {v : V} {b : Bool} (k : Same M H) (r : RpR K I M H d v) (e : truth d = some b) : TruV K v H b := by
  cases d with
  | none => cases r.non; cases e; rfl
  | bool b => cases r.bl; cases e; rfl
  | int b => cases r.int; cases e; rfl
  | str z =>
    cases r.str
    replace e : (if z.length ≤ sizeLine then some ((z.length : Int) != 0) else none) = some b := e
    split at e
    · rename_i h
      cases e
      exact ⟨h, rfl⟩
    · cases e
  | list ds =>
    obtain ⟨l, vs, rfl, h, q⟩ := r.lst k
    cases e
    exact .inl ⟨vs, SqL.of h, by cases q <;> rfl⟩
  | tuple ds =>
    obtain ⟨l, vs, rfl, _, h, q⟩ := r.tup k
    cases e
    exact .inr (.inl ⟨vs, h.sq, by cases q <;> rfl⟩)
  | dict ds => cases e
end
end PV
set_option Elab.async false
set_option linter.all false
set_option maxRecDepth 100000
set_option maxHeartbeats 4000000
/-! PV, fifth part: rules for single forms of expressions, over readings by data. -/
namespace PV
open PySem PySem.Spec PyProof.Rows L2

/-- what is fixed through a whole program -/
structure SE (S : Type) where
  I : HI S
  J : XI
  T : Tbl S
  G : Gls
  gcd : Bool
  k : Nat
/-- a def's promise, by its meaning on data -/
def spF {S : Type} (K : PySem.W.Frag) (I : HI S) (J : XI) (n : Nat) (F : List AV → M S PyData) : Sp := fun vs H Q E =>
  vs.length = n ∧ ∃ M avs s, Ok I M H s ∧ AvA K I M avs vs ∧ After K I J (fun cls dd _ H => E cls dd H) [] M H (F avs s) fun d s' => ∀ v M' H', Ext I M H M' H' s' → Rp K M' d v → Q v H'
def bltNames : List Str := ["len", "tuple", "list", "int", "abs", "sum", "all", "any", "isinstance", "str", "min", "max", "range", "bool", "ValueError", "sorted", "enumerate", "zip", "reversed", "set"]
structure Stc {S : Type} (X : Cx) (C : SE S) (W : WX) : Prop where
  nd : X.N.Nodup
  calm : X.calm = true
  tk : Takes X W
  room : Room C.k X.A
  blt : ∀ x : Str, bltNames.contains x = true → X.mg x = none
  gcd : C.gcd = true → X.mg "gcd" = some (.builtin "math.gcd")
  fns : ∀ f F, C.T f = some F → ∃ (a : Addr) (fd : FuncData) (ps : List Str), X.mg f = some (.ref a) ∧ PySem.W.keepIn X.K (.ref a) = true ∧ Binds X.K fd ps [] ∧ FnOk X.prog X.w X.K X.mg X.base (L2.CX X.prog X.w) C.k a fd ps (spF X.K C.I C.J ps.length F) ∧ ∀ avs s, avs.length ≠ ps.length → F avs s = .bad
  glb : ∀ x d, C.G x = some d → ∃ u v, X.mg x = some u ∧ RelV v u ∧ ∀ M, Rp X.K M d v

/-- what is fixed through a def's body -/
structure Fm (S : Type) where
  I : HI S
  J : XI
  H0 : Hp
  M0 : Hp
  W : WX
abbrev Fm.noW {S : Type} (c : Fm S) : Fm S := { c with W := fun _ _ _ _ => False }
section
variable {S : Type} (K : PySem.W.Frag) (c : Fm S)
/-- evaluated to data that is shared; to what is read; to what is new -/
abbrev TV (m : Env → PV.M S PyData) : TE := TD K c.I c.H0 c.M0 c.J c.W (PV_ K) m
abbrev TR (m : Env → PV.M S PyData) : TE := TD K c.I c.H0 c.M0 c.J c.W (PR_ K c.I) m
abbrev TF (m : Env → PV.M S PyData) : TE := TD K c.I c.H0 c.M0 c.J c.W (PF_ K) m
abbrev TB (m : Env → PV.M S Bool) : TT := TTd K c.I c.H0 c.M0 c.J c.W m
abbrev TVs (m : Env → PV.M S (List PyData)) : TA := TAd K c.I c.H0 c.M0 c.J c.W (fun M' _ ds vs => RpA K M' ds vs) m
abbrev TRs (m : Env → PV.M S (List PyData)) : TA := TAd K c.I c.H0 c.M0 c.J c.W (fun M' H' ds vs => RpRA K c.I M' H' ds vs) m
abbrev TAs (m : Env → PV.M S (List AV)) : TA := TAd K c.I c.H0 c.M0 c.J c.W (fun M' _ ds vs => AvA K c.I M' ds vs) m
end
section
variable {S : Type} {X : Cx} {c : Fm S} {K : PySem.W.Frag}
/-- what is new is shared -/
theorem TV_TF {m : Env → PV.M S PyData} {σ : L2.St} {H : Hp} {Q : VK} (h : TV K c m σ H Q) : TF K c m σ H Q := by
  obtain ⟨M, env, s, g, h⟩ := h
  refine ⟨M, env, s, g, h.imp fun d s' q v M' H' x r => ?_⟩
  cases d with
  | list ds =>
    obtain ⟨p, vs, rfl, hp, hp', mp, r⟩ := r
    have hx : Ext c.I M H (upd M' p (.lst vs)) H' s' := by
      refine ⟨fun a o e => ?_, fun a n => ?_, x.h, fun a hz => ?_, x.hp⟩
      · by_cases q : a = p
        · subst q
          rw [upd_same] at e
          cases e
          exact hp'
        · rw [upd_ne q] at e
          exact x.sub a o e
      · have ne : a ≠ p := fun q => by
          subst q
          exact n hp
        rw [upd_ne ne]
        exact x.m a n
      · have ne : a ≠ p := fun q => by
          subst q
          exact c.I.zt s H a g.ok.hp hz hp
        rw [upd_ne ne]
        exact x.z a hz
    exact q _ _ _ hx (.lst upd_same (RpA.mono (same_upd mp) r))
  | _ => exact q _ _ _ x r
theorem TR_TV {m : Env → PV.M S PyData} {σ : L2.St} {H : Hp} {Q : VK} (h : TR K c m σ H Q) : TV K c m σ H Q := by
  obtain ⟨M, env, s, g, h⟩ := h
  exact ⟨M, env, s, g, h.imp fun d s' q v M' H' x r => q v M' H' x (.inl r)⟩

/-! ### names, constants -/
theorem no_get {α β : Type} {f : α → β} {o : Option α} : True := trivial
theorem pd_var {i : Nat} {x : Str} {pos : Pos} (hN : X.N[i]? = some x) (hv : Vis X.env.scope x) (hd : (x == ("__debug__" : Str)) = false) (hcd : (x == ("__classdict__" : Str)) = false) {T : Tbl S} {G : Gls} :
    PE X (.Name x pos) (TV X.K c (evE T G (.var i))) := by
  refine (pe_var hN hv hd hcd).wk fun pins s σ H Q _ h => ?_
  obtain ⟨M, env, z, g, h⟩ := h
  cases e : env[i]? with
  | none =>
    simp only [evE, e] at h
    exact (show False from h).elim
  | some y =>
    cases y with
    | v d =>
      simp only [evE, e] at h
      obtain ⟨ov, e1, v, rfl, r⟩ := g.sl i _ e
      exact ⟨v, e1, h v M H (.rfl g.ok) r⟩
    | _ =>
      simp only [evE, e] at h
      exact (show False from h).elim
theorem rd_var {i : Nat} {x : Str} {pos : Pos} (hN : X.N[i]? = some x) (hv : Vis X.env.scope x) (hd : (x == ("__debug__" : Str)) = false) (hcd : (x == ("__classdict__" : Str)) = false) {m : Env → PV.M S PyData} :
    PE X (.Name x pos) (TR X.K c fun env => rdE (.var i) env (m env)) := by
  refine (pe_var hN hv hd hcd).wk fun pins s σ H Q _ h => ?_
  obtain ⟨M, env, z, g, h⟩ := h
  cases e : env[i]? with
  | none =>
    simp only [rdE, e] at h
    exact (show False from h).elim
  | some y =>
    cases y with
    | v d =>
      simp only [rdE, e] at h
      obtain ⟨ov, e1, v, rfl, r⟩ := g.sl i _ e
      exact ⟨v, e1, h v M H (.rfl g.ok) (.inl r)⟩
    | own ds =>
      simp only [rdE, e] at h
      obtain ⟨ov, e1, p, vs, rfl, hp, mp, h0, nz, r⟩ := g.sl i _ e
      exact ⟨.ref p, e1, h (.ref p) M H (.rfl g.ok) (.inr ⟨p, vs, ds, rfl, rfl, hp, nz, r⟩)⟩
    | _ =>
      simp only [rdE, e] at h
      exact (show False from h).elim
theorem pd_con {e : PySem.Expr} {v : V} {d : PyData} (h : PE X e (tC v)) (r : ∀ M, Rp X.K M d v) {m : Env → PV.M S PyData} (hm : ∀ env s, m env s = .ok d s) : PE X e (TV X.K c m) := by
  refine h.wk fun pins s σ H Q _ q => ?_
  obtain ⟨M, env, z, g, q⟩ := q
  rw [hm] at q
  exact q v M H (.rfl g.ok) (r M)

/-! ### two operands -/
theorem pd_two {e : PySem.Expr} {ta tb : Env → PV.M S PyData} {g : PyData → PyData → Option PyData}
    (h : PE X e (tOp (r2 X c.I g) (TR X.K c ta) (TR X.K c tb))) : PE X e (TF X.K c fun env => (do let x ← ta env; let y ← tb env; ofO (g x y))) := by
  refine h.wk fun pins s σ H Q _ q => ?_
  obtain ⟨M, env, z, gd, q⟩ := q
  refine ⟨M, env, z, gd, (After.bd (m := ta env) q).imp fun dx s1 q1 x M1 H1 x1 r1 => ?_⟩
  have ok1 := x1.ok
  refine ⟨M1, env, s1, gd.ext x1, ((After.bd (m := tb env) q1).ext gd.ok x1) fun dy s2 q2 y M2 H2 x2 r2 => ?_⟩
  obtain ⟨d, e1, q3⟩ := After.ofO q2
  refine ⟨M2, dx, dy, d, x2.ok.sub, r1.mono ok1 x2, r2, e1, fun v M' H' x3 r3 => ?_⟩
  have xx := Ext.trans gd.ok x1 (Ext.trans ok1 x2 (x3.ext x2.ok))
  refine q3 v M' H' xx ?_
  cases d with
  | list ds =>
    obtain ⟨p, vs, rfl, hp, hp', mp, r⟩ := r3
    refine ⟨p, vs, rfl, ?_, hp', mp, r⟩
    cases e0 : H p with
    | none => rfl
    | some o =>
      exfalso
      by_cases hz : c.I.Z p
      · exact c.I.zt s2 H2 p x2.hp hz hp
      · rw [x2.h p o (x1.h p o e0 hz) hz] at hp
        cases hp
  | _ => exact r3
end
end PV
set_option Elab.async false
set_option linter.all false
set_option maxRecDepth 100000
set_option maxHeartbeats 4000000
/-! PV, sixth part: the other forms of expressions. -/
namespace PV
open PySem PySem.Spec PyProof.Rows L2
section
variable {S : Type} {X : Cx} {c : Fm S} {K : PySem.W.Frag}
theorem fresh_back {M H M' H' : Hp} {s' : S} {I : HI S} {p : Addr} (x : Ext I M H M' H' s') (h : H' p = none) : H p = none := by
  cases e : H p with
  | none => rfl
  | some o =>
    exfalso
    by_cases hz : I.Z p
    · exact I.zt s' H' p x.hp hz h
    · rw [x.h p o e hz] at h
      cases h
theorem ResF.back {M H M' H' M2 H2 : Hp} {s' : S} {I : HI S} {d : PyData} {v : V} (x : Ext I M H M' H' s') (r : ResF K H' M2 H2 d v) : ResF K H M2 H2 d v := by
  cases d with
  | list ds =>
    obtain ⟨p, vs, e, hp, h2, m2, r⟩ := r
    exact ⟨p, vs, e, fresh_back x hp, h2, m2, r⟩
  | _ => exact r
/-- one operand, a value by it -/
theorem pd_neg {a : PySem.Expr} {pos : Pos} {m : Env → PV.M S PyData} (h : PE X a (TR X.K c m)) :
    PE X (.UnaryOp .USub a pos) (TV X.K c fun env => (do let x ← m env; match x with | .int i => pure (.int (-i)) | _ => bad)) := by
  refine (pe_un un_neg h).wk fun pins s σ H Q _ q => ?_
  obtain ⟨M, env, z, gd, q⟩ := q
  refine ⟨M, env, z, gd, (After.bd (m := m env) q).imp fun dx s1 q1 x M1 H1 x1 r1 => ?_⟩
  cases dx <;> try exact (show False from q1).elim
  rename_i i
  cases r1.int
  exact ⟨i, rfl, q1 _ M1 H1 x1 (.int _)⟩
/-- x op y op z -/
def mChain (o1 o2 : Cop) (ma mb md : PV.M S PyData) : PV.M S PyData := do
  let x ← ma
  let y ← mb
  match cmpB o1 x y with
  | some true => do
    let z ← md
    ofO (cmpD o2 y z)
  | some false => pure (.bool false)
  | none => bad
theorem chain_rd {o1 o2 : Cop} {ma mb md : Env → PV.M S PyData} {σ : L2.St} {H : Hp} {Q : VK} (q : TV X.K c (fun env => mChain o1 o2 (ma env) (mb env) (md env)) σ H Q) :
    tChain (r2 X c.I (cmpD o1)) (r2 X c.I (cmpD o2)) (TR X.K c ma) (TR X.K c mb) (TR X.K c md) σ H Q := by
  obtain ⟨M, env, z, gd, q⟩ := q
  refine ⟨M, env, z, gd, (After.bd (m := ma env) q).imp fun dx s1 q1 x M1 H1 x1 r1 => ?_⟩
  have ok1 := x1.ok
  refine ⟨M1, env, s1, gd.ext x1, ((After.bd (m := mb env) q1).ext gd.ok x1) fun dy s2 q2 y M2 H2 x2 r2 => ?_⟩
  have ok2 := x2.ok
  have x12 := Ext.trans gd.ok x1 x2
  cases e : cmpB o1 dx dy with
  | none =>
    simp only [e] at q2
    exact (show False from q2).elim
  | some k =>
    simp only [e] at q2
    refine ⟨M2, dx, dy, .bool k, x2.ok.sub, r1.mono ok1 x2, r2, by unfold cmpD; rw [e]; rfl, fun v M' H' x3 r3 => ?_⟩
    have r3' : Rp X.K M' (.bool k) v := r3
    cases r3'
    refine ⟨k, rfl, ?_⟩
    have x3' := x3.ext ok2
    have ok3 := x3'.ok
    cases k with
    | false =>
      rw [if_neg Bool.false_ne_true]
      exact q2 _ M' H' (Ext.trans gd.ok x12 x3') (.bl false)
    | true =>
      rw [if_pos rfl]
      refine ⟨M', env, s2, (gd.ext x12).ext x3', ((After.bd (m := md env) q2).ext gd.ok (Ext.trans gd.ok x12 x3')) fun dz s3 q3 w M4 H4 x4 r4 => ?_⟩
      obtain ⟨d, e1, q5⟩ := After.ofO q3
      refine ⟨M4, dy, dz, d, x4.ok.sub, (r2.mono ok2 x3').mono ok3 x4, r4, e1, fun v M5 H5 x5 r5 => ?_⟩
      refine q5 v M5 H5 (Ext.trans gd.ok x12 (Ext.trans ok2 x3' (Ext.trans ok3 x4 (x5.ext x4.ok)))) ?_
      obtain ⟨b, _, rfl⟩ := Option.map_eq_some_iff.mp e1
      exact r5
theorem chain_bool {o1 o2 : Cop} {ma mb md : PV.M S PyData} {s s' : S} {d : PyData} (h : mChain o1 o2 ma mb md s = .ok d s') : ∃ b, d = .bool b := by
  unfold mChain at h
  cases e1 : ma s with
  | ok x s1 =>
    have h1 : ((do let y ← mb; match cmpB o1 x y with | some true => (do let z ← md; ofO (cmpD o2 y z)) | some false => pure (.bool false) | none => bad : PV.M S PyData) s1) = .ok d s' := by
      rw [← h]
      show _ = R.bind (ma s) _
      rw [e1]
      rfl
    cases e2 : mb s1 with
    | ok y s2 =>
      have h2 : ((match cmpB o1 x y with | some true => (do let z ← md; ofO (cmpD o2 y z)) | some false => pure (.bool false) | none => bad : PV.M S PyData) s2) = .ok d s' := by
        rw [← h1]
        show _ = R.bind (mb s1) _
        rw [e2]
        rfl
      cases e3 : cmpB o1 x y with
      | none =>
        rw [e3] at h2
        cases h2
      | some k =>
        rw [e3] at h2
        cases k with
        | false =>
          cases h2
          exact ⟨_, rfl⟩
        | true =>
          cases e4 : md s2 with
          | ok z s3 =>
            have h3 : (ofO (cmpD o2 y z) : PV.M S PyData) s3 = .ok d s' := by
              rw [← h2]
              show _ = R.bind (md s2) _
              rw [e4]
              rfl
            cases e5 : cmpD o2 y z with
            | none =>
              rw [e5] at h3
              cases h3
            | some d' =>
              rw [e5] at h3
              cases h3
              obtain ⟨b, _, rfl⟩ := Option.map_eq_some_iff.mp e5
              exact ⟨b, rfl⟩
          | exn c p s3 =>
            have h3 : R.bind (md s2) _ = R.ok d s' := h2
            rw [e4] at h3
            cases h3
          | bad =>
            have h3 : R.bind (md s2) _ = R.ok d s' := h2
            rw [e4] at h3
            cases h3
    | exn c p s2 =>
      have h2 : R.bind (mb s1) _ = R.ok d s' := h1
      rw [e2] at h2
      cases h2
    | bad =>
      have h2 : R.bind (mb s1) _ = R.ok d s' := h1
      rw [e2] at h2
      cases h2
  | exn c p s1 =>
    have h1 : R.bind (ma s) _ = R.ok d s' := h
    rw [e1] at h1
    cases h1
  | bad =>
    have h1 : R.bind (ma s) _ = R.ok d s' := h
    rw [e1] at h1
    cases h1
theorem tv_of_tb {m : Env → PV.M S PyData} {σ : L2.St} {H : Hp} {Q : Bool → Hp → Prop} (hb : ∀ env s d s', m env s = .ok d s' → ∃ b, d = .bool b) (q : TB K c (fun env => (do let x ← m env; ofO (truth x))) σ H Q) :
    TV K c m σ H (fun x H' => ∃ k, x = .bl k ∧ Q k H') := by
  obtain ⟨M, env, z, gd, q⟩ := q
  refine ⟨M, env, z, gd, ?_⟩
  have q0 := After.bd (m := m env) q
  revert q0
  generalize er : m env z = r
  intro q0
  cases r with
  | bad => exact q0
  | exn y p s1 => exact q0
  | ok d s1 =>
    obtain ⟨b, rfl⟩ := hb _ _ _ _ er
    intro v M' H' x r
    cases r
    exact ⟨b, rfl, q0 M' H' x⟩
theorem pd_chain {a b d : PySem.Expr} {o1 o2 : Cop} {pos : Pos} {ma mb md : Env → PV.M S PyData} (hu : X.A.units + 65 < cLine) (ha : PE X a (TR X.K c ma)) (hb : PE X b (TR X.K c mb)) (hd : PE X d (TR X.K c md)) (hm : lastMarks [opC o1, opC o2] [b, d] = false) :
    PE X (.Compare a [opC o1, opC o2] [b, d] pos) (TV X.K c fun env => mChain o1 o2 (ma env) (mb env) (md env)) :=
  (pe_chain (op2_cop (I := c.I) hu o1).opR (op2_cop (I := c.I) hu o2).opR ha hb hd hm).wk fun _ _ _ _ _ _ q => chain_rd q
theorem td_chain {a b d : PySem.Expr} {o1 o2 : Cop} {pos : Pos} {ma mb md : Env → PV.M S PyData} (hu : X.A.units + 65 < cLine) (ha : PE X a (TR X.K c ma)) (hb : PE X b (TR X.K c mb)) (hd : PE X d (TR X.K c md)) (hm : lastMarks [opC o1, opC o2] [b, d] = false) :
    PT X (.Compare a [opC o1, opC o2] [b, d] pos) (TB X.K c fun env => (do let x ← mChain o1 o2 (ma env) (mb env) (md env); ofO (truth x))) :=
  (pt_chain (op2_cop (I := c.I) hu o1).opR (op2_cop (I := c.I) hu o2).opR ha hb hd hm).wk fun _ _ _ _ _ _ q => chain_rd (tv_of_tb (fun _ _ _ _ h => chain_bool h) q)
theorem pd_and {a b : PySem.Expr} {rest : List PySem.Expr} {pos : Pos} {ma mb : Env → PV.M S PyData} (ha : PE X a (TV X.K c ma)) (hb : PE X (.BoolOp .And (b :: rest) pos) (TV X.K c mb)) :
    PE X (.BoolOp .And (a :: b :: rest) pos) (TV X.K c fun env => (do
      let x ← ma env
      match x with
      | .bool true => mb env
      | .bool false => pure (.bool false)
      | _ => bad)) := by
  refine (pe_and ha hb).wk fun pins s σ H Q _ q => ?_
  obtain ⟨M, env, z, gd, q⟩ := q
  refine ⟨M, env, z, gd, (After.bd (m := ma env) q).imp fun dx s1 q1 x M1 H1 x1 r1 => ?_⟩
  cases dx <;> try exact (show False from q1).elim
  rename_i k
  cases r1
  refine ⟨k, rfl, ?_⟩
  cases k with
  | true => exact ⟨M1, env, s1, gd.ext x1, After.ext gd.ok x1 q1 fun d s2 q2 v M2 H2 x2 r2 => q2 v M2 H2 (Ext.trans gd.ok x1 x2) r2⟩
  | false => exact q1 _ M1 H1 x1 (.bl false)
theorem pd_or {a b : PySem.Expr} {rest : List PySem.Expr} {pos : Pos} {ma mb : Env → PV.M S PyData} (ha : PE X a (TV X.K c ma)) (hb : PE X (.BoolOp .Or (b :: rest) pos) (TV X.K c mb)) :
    PE X (.BoolOp .Or (a :: b :: rest) pos) (TV X.K c fun env => (do
      let x ← ma env
      match x with
      | .bool true => pure (.bool true)
      | .bool false => mb env
      | _ => bad)) := by
  refine (pe_or ha hb).wk fun pins s σ H Q _ q => ?_
  obtain ⟨M, env, z, gd, q⟩ := q
  refine ⟨M, env, z, gd, (After.bd (m := ma env) q).imp fun dx s1 q1 x M1 H1 x1 r1 => ?_⟩
  cases dx <;> try exact (show False from q1).elim
  rename_i k
  cases r1
  refine ⟨k, rfl, ?_⟩
  cases k with
  | false => exact ⟨M1, env, s1, gd.ext x1, After.ext gd.ok x1 q1 fun d s2 q2 v M2 H2 x2 r2 => q2 v M2 H2 (Ext.trans gd.ok x1 x2) r2⟩
  | true => exact q1 _ M1 H1 x1 (.bl true)
theorem pd_not {a : PySem.Expr} {pos : Pos} {m : Env → PV.M S PyData} (h : PE X a (TV X.K c m)) :
    PE X (.UnaryOp .Not a pos) (TV X.K c fun env => (do let x ← m env; match x with | .bool b => pure (.bool (!b)) | _ => bad)) := by
  refine (pe_not h).wk fun pins s σ H Q _ q => ?_
  obtain ⟨M, env, z, gd, q⟩ := q
  refine ⟨M, env, z, gd, (After.bd (m := m env) q).imp fun dx s1 q1 x M1 H1 x1 r1 => ?_⟩
  cases dx <;> try exact (show False from q1).elim
  rename_i k
  cases r1
  exact ⟨k, rfl, q1 _ M1 H1 x1 (.bl _)⟩
theorem pd_ite {t a b : PySem.Expr} {pos : Pos} {mt : Env → PV.M S Bool} {ma mb : Env → PV.M S PyData} (ht : PT X t (TB X.K c mt)) (ha : PE X a (TV X.K c ma)) (hb : PE X b (TV X.K c mb)) :
    PE X (.IfExp t a b pos) (TV X.K c fun env => (do
      let t ← mt env
      match t with
      | true => ma env
      | false => mb env)) := by
  refine (pe_ifExp ht ha hb).wk fun pins s σ H Q _ q => ?_
  obtain ⟨M, env, z, gd, q⟩ := q
  refine ⟨M, env, z, gd, (After.bd (m := mt env) q).imp fun k s1 q1 M1 H1 x1 => ?_⟩
  cases k with
  | true => exact ⟨M1, env, s1, gd.ext x1, After.ext gd.ok x1 q1 fun d s2 q2 v M2 H2 x2 r2 => q2 v M2 H2 (Ext.trans gd.ok x1 x2) r2⟩
  | false => exact ⟨M1, env, s1, gd.ext x1, After.ext gd.ok x1 q1 fun d s2 q2 v M2 H2 x2 r2 => q2 v M2 H2 (Ext.trans gd.ok x1 x2) r2⟩
theorem pd_idx {a i : PySem.Expr} {pos : Pos} {ma mi : Env → PV.M S PyData} (ha : PE X a (TR X.K c ma)) (hi : PE X i (TR X.K c mi)) (hp : PlainIx i) :
    PE X (.Subscript a i pos) (TV X.K c fun env => (do let x ← ma env; let y ← mi env; ofO (idxD x y))) := by
  refine (pe_ix (ix_data (I := c.I)) ha hi hp).wk fun pins s σ H Q _ q => ?_
  obtain ⟨M, env, z, gd, q⟩ := q
  refine ⟨M, env, z, gd, (After.bd (m := ma env) q).imp fun dx s1 q1 x M1 H1 x1 r1 => ?_⟩
  have ok1 := x1.ok
  refine ⟨M1, env, s1, gd.ext x1, ((After.bd (m := mi env) q1).ext gd.ok x1) fun dy s2 q2 y M2 H2 x2 r2 => ?_⟩
  obtain ⟨d, e1, q3⟩ := After.ofO q2
  exact ⟨M2, dx, dy, d, x2.ok.sub, r1.mono ok1 x2, r2, e1, fun v r3 => q3 v M2 H2 (Ext.trans gd.ok x1 x2) r3⟩
/-- a part of a slice -/
def TOd (X : Cx) (c : Fm S) (m : Env → PV.M S (Option Int)) : TO := fun σ H Q => ∃ M env s, Gd X.K c.I c.H0 c.M0 M H σ env s ∧ After X.K c.I c.J c.W σ M H (m env s) fun o s' => ∀ M' H', Ext c.I M H M' H' s' → Q o H'
theorem _root_.L2.PO.wk {e : Option PySem.Expr} {t t' : TO} (h : PO X e t) (w : ∀ pins s σ H Q, Inv X pins σ H s → t' σ H Q → t σ H Q) : PO X e t' := ⟨fun pins s σ H Q I q => h.run pins s σ H Q I (w pins s σ H Q I q)⟩
theorem po_no : PO X none (TOd X c fun _ => pure none) := by
  refine po_none.wk fun pins s σ H Q _ q => ?_
  obtain ⟨M, env, z, gd, q⟩ := q
  exact q M H (.rfl gd.ok)
theorem po_so {e : PySem.Expr} {m : Env → PV.M S PyData} (h : PE X e (TR X.K c m)) : PO X (some e) (TOd X c fun env => (do let x ← m env; match x with | .int i => pure (some i) | _ => bad)) := by
  refine (po_some h).wk fun pins s σ H Q _ q => ?_
  obtain ⟨M, env, z, gd, q⟩ := q
  refine ⟨M, env, z, gd, (After.bd (m := m env) q).imp fun dx s1 q1 x M1 H1 x1 r1 => ?_⟩
  cases dx <;> try exact (show False from q1).elim
  rename_i i
  cases r1.int
  exact ⟨i, rfl, q1 M1 H1 x1⟩
theorem pd_slc {a : PySem.Expr} {lo hi : Option PySem.Expr} {p2 pos : Pos} {ma : Env → PV.M S PyData} {ml mh : Env → PV.M S (Option Int)} (ha : PE X a (TR X.K c ma)) (hl : PO X lo (TOd X c ml)) (hh : PO X hi (TOd X c mh)) :
    PE X (.Subscript a (.Slice lo hi none p2) pos) (TF X.K c fun env => (do let x ← ma env; let l ← ml env; let h ← mh env; ofO (slcD x l h))) := by
  refine (pe_slice (sl_data (I := c.I)) ha hl hh).wk fun pins s σ H Q _ q => ?_
  obtain ⟨M, env, z, gd, q⟩ := q
  refine ⟨M, env, z, gd, (After.bd (m := ma env) q).imp fun dx s1 q1 x M1 H1 x1 r1 => ?_⟩
  have ok1 := x1.ok
  refine ⟨M1, env, s1, gd.ext x1, ((After.bd (m := ml env) q1).ext gd.ok x1) fun dl s2 q2 M2 H2 x2 => ?_⟩
  have ok2 := x2.ok
  have x12 := Ext.trans gd.ok x1 x2
  refine ⟨M2, env, s2, gd.ext x12, ((After.bd (m := mh env) q2).ext gd.ok x12) fun dh s3 q3 M3 H3 x3 => ?_⟩
  obtain ⟨d, e1, q4⟩ := After.ofO q3
  have x13 := Ext.trans gd.ok x12 x3
  exact ⟨M3, dx, d, x3.ok.sub, (r1.mono ok1 x2).mono ok2 x3, e1, fun v M' H' x4 r4 => q4 v M' H' (Ext.trans gd.ok x13 (x4.ext x3.ok)) (r4.back x13)⟩

/-! ### argument lists -/
theorem pas_nil {α : Type} {P : Hp → Hp → List α → List V → Prop} (h : ∀ M H, P M H [] []) : PA X [] (TAd X.K c.I c.H0 c.M0 c.J c.W P fun _ => pure []) := by
  refine pa_nil.wk fun pins s σ H Q _ q => ?_
  obtain ⟨M, env, z, gd, q⟩ := q
  exact q [] M H (.rfl gd.ok) (h M H)
theorem pas_cons {α β : Type} {P : Hp → Hp → List α → List V → Prop} {P1 : Hp → Hp → Hp → β → V → Prop} {e : PySem.Expr} {es : List PySem.Expr} {m1 : Env → PV.M S β} {f : β → α} {m2 : Env → PV.M S (List α)}
    (ha : PE X e (TD X.K c.I c.H0 c.M0 c.J c.W P1 m1)) (hs : PA X es (TAd X.K c.I c.H0 c.M0 c.J c.W P m2)) (hst : starEach (e :: es) X.env = (false, eval e X.env) :: starEach es X.env)
    (hp : ∀ H M1 H1 M2 H2 (s1 s2 : S) d v ds vs, P1 H M1 H1 d v → Ext c.I M1 H1 M2 H2 s2 → Ok c.I M1 H1 s1 → P M2 H2 ds vs → P M2 H2 (f d :: ds) (v :: vs)) :
    PA X (e :: es) (TAd X.K c.I c.H0 c.M0 c.J c.W P fun env => (do let x ← m1 env; let xs ← m2 env; pure (f x :: xs))) := by
  refine (pa_cons ha hs hst).wk fun pins s σ H Q _ q => ?_
  obtain ⟨M, env, z, gd, q⟩ := q
  refine ⟨M, env, z, gd, (After.bd (m := m1 env) q).imp fun dx s1 q1 x M1 H1 x1 r1 => ?_⟩
  exact ⟨M1, env, s1, gd.ext x1, ((After.bd (m := m2 env) q1).ext gd.ok x1) fun ds s2 q2 vs M2 H2 x2 r2 => q2 (x :: vs) M2 H2 (Ext.trans gd.ok x1 x2) (hp _ _ _ _ _ _ _ _ _ _ _ r1 x2 x1.ok r2)⟩

/-! ### displays, calls -/
theorem pe_tupN {es : List PySem.Expr} {t : TA} {x1 : Nat} {pos : Pos} (h : PA X es t) : PE X (.Tuple es x1 pos) (fun σ H Q => t σ H fun xs H1 => xs.length ≤ sizeLine ∧ ∀ p o, H1 p = none → o.dict = none → Q (.ref p) (upd H1 p (.frz o (.tup xs)))) := by
  refine ⟨fun pins s σ H Q i hq => ?_⟩
  exact wpAny_Tuple_spliced (thn (h.run pos pins s σ H _ i hq) fun us s1 ⟨xs, H1, I1, r, z, q⟩ => ⟨by rw [← r.length]; exact z, laidT I1 r z q⟩)
theorem lenE_ok {ds : List PyData} {s : S} {σ : L2.St} {M H : Hp} {Φ : PUnit → S → Prop} {I : HI S} {J : XI} {W : WX} (h : After K I J W σ M H ((lenE ds : PV.M S PUnit) s) Φ) : ds.length ≤ sizeLine ∧ Φ ⟨⟩ s := by
  unfold lenE at h
  split at h
  · rename_i e
    exact ⟨e, h⟩
  · exact (show False from h).elim
theorem pd_tup {es : List PySem.Expr} {x1 : Nat} {pos : Pos} {m : Env → PV.M S (List PyData)} (h : PA X es (TVs X.K c m)) : PE X (.Tuple es x1 pos) (TV X.K c fun env => (do let ds ← m env; lenE ds; pure (.tuple ds))) := by
  refine (pe_tupN h).wk fun pins s σ H Q _ q => ?_
  obtain ⟨M, env, z, gd, q⟩ := q
  refine ⟨M, env, z, gd, (After.bd (m := m env) q).imp fun ds s1 q1 vs M1 H1 x1 r1 => ?_⟩
  obtain ⟨hz, q2⟩ := lenE_ok (After.bd (m := lenE ds) q1)
  refine ⟨by rw [r1.len]; exact hz, fun p o hp hd => ?_⟩
  exact q2 _ _ _ (Ext.trans gd.ok x1 ((Ext0.new x1.sub hp).ext x1.ok)) (.tup (.new hd) (RpA.mono (same_upd (x1.sub.free hp)) r1))
theorem pd_lst {es : List PySem.Expr} {pos : Pos} {m : Env → PV.M S (List PyData)} (h : PA X es (TVs X.K c m)) : PE X (.List es pos) (TF X.K c fun env => (do let ds ← m env; lenE ds; pure (.list ds))) := by
  refine (pe_lst h).wk fun pins s σ H Q _ q => ?_
  obtain ⟨M, env, z, gd, q⟩ := q
  refine ⟨M, env, z, gd, (After.bd (m := m env) q).imp fun ds s1 q1 vs M1 H1 x1 r1 => ?_⟩
  obtain ⟨hz, q2⟩ := lenE_ok (After.bd (m := lenE ds) q1)
  refine ⟨by rw [r1.len]; exact hz, fun p hp => ?_⟩
  exact q2 _ _ _ (Ext.trans gd.ok x1 ((Ext0.own x1.sub hp).ext x1.ok)) ⟨p, vs, rfl, fresh_back x1 hp, upd_same, x1.sub.free hp, r1⟩
theorem pd_callB {x : Str} {p pos : Pos} {e : PySem.Expr} {es : List PySem.Expr} {pr : Prim} {m : Env → PV.M S (List PyData)} (h : PE X (.Call (.Name x p) (e :: es) [] pos) (tCB (rP X c.I pr) (TRs X.K c m))) :
    PE X (.Call (.Name x p) (e :: es) [] pos) (TF X.K c fun env => (do let ds ← m env; ofO (primD pr ds))) := by
  refine h.wk fun pins s σ H Q _ q => ?_
  obtain ⟨M, env, z, gd, q⟩ := q
  refine ⟨M, env, z, gd, (After.bd (m := m env) q).imp fun ds s1 q1 vs M1 H1 x1 r1 => ?_⟩
  obtain ⟨d, e1, q2⟩ := After.ofO q1
  exact ⟨M1, ds, d, x1.sub, r1, e1, fun v M' H' x2 r2 => q2 v M' H' (Ext.trans gd.ok x1 (x2.ext x1.ok)) (r2.back x1)⟩
/-- isinstance(e, T) -/
theorem pd_isi {e : PySem.Expr} {t : Ty} {p p2 pos : Pos} {m : Env → PV.M S PyData} (he : PE X e (TR X.K c m)) (hg : Gl X "isinstance") (hm : X.mg "isinstance" = none) {n : Str} (hn : n = Str.ofString (tyNm t)) (hgt : Gl X n) (hmt : X.mg n = none)
    (hst : starEach [e, .Name n p2] X.env = (false, eval e X.env) :: starEach [.Name n p2] X.env) :
    PE X (.Call (.Name "isinstance" p) [e, .Name n p2] [] pos) (TV X.K c fun env => (do let ds ← (do let x ← m env; let xs ← (pure [] : PV.M S (List PyData)); pure (x :: xs)); ofO (primD (.isinst t) ds))) := by
  have hb : PE X (.Name n p2) (tC (.ty (tyNm t))) := by
    subst hn
    cases t
    · exact pe_bltn hgt hmt boot_tuple rfl
    · exact pe_bltn hgt hmt boot_list rfl
    · exact pe_bltn hgt hmt PyProof.Rows.boot_int rfl
    · exact pe_bltn hgt hmt PyProof.Rows.boot_bool rfl
    · exact pe_bltn hgt hmt PyProof.Rows.boot_str rfl
  refine (pe_callB call_isi hg hm PyProof.Rows.boot_isinstance (pa_cons he (pa_cons hb pa_nil) hst) (by decide) (by decide) hst rfl).wk fun pins s σ H Q _ q => ?_
  obtain ⟨M, env, z, gd, q⟩ := q
  have q0 := After.bd (m := (do let x ← m env; let xs ← (pure [] : PV.M S (List PyData)); pure (x :: xs))) q
  refine ⟨M, env, z, gd, (After.bd (m := m env) q0).imp fun d s1 q1 x M1 H1 x1 r1 => ?_⟩
  have q1' : After X.K c.I c.J c.W σ M H ((ofO (if noDict d then some (PyData.bool (tyD t d)) else none) : PV.M S PyData) s1) _ := q1
  obtain ⟨d', e1, q2⟩ := After.ofO q1'
  split at e1
  · rename_i hnd
    cases e1
    refine ⟨x, .ty (tyNm t), .type (tyN d), .type (tyNm t), tyD t d, rfl, .ty _, ty_of x1.sub r1 hnd, kit_ty ?_, q2 _ M1 H1 x1 (.bl _)⟩
    rw [tyD_eq t d hnd]
    refine kit_all t (tyN d) ?_
    cases d <;> simp [tyN] <;> cases hnd
  · cases e1
end
end PV
set_option Elab.async false
set_option linter.all false
set_option maxRecDepth 100000
set_option maxHeartbeats 4000000
/-! PV, seventh part: calls of defs, methods of sequences, what is walked, comprehensions. -/
namespace PV
open PySem PySem.Spec PyProof.Rows L2
section
variable {S : Type} {X : Cx} {c : Fm S} {K : PySem.W.Frag}
theorem After.wish {I : HI S} {J : XI} {W W' : WX} {σ σ' : L2.St} {M H : Hp} {α : Type} {r : R S α} {Φ : α → S → Prop} (h : After K I J W σ M H r Φ) (w : ∀ cls dd H', W cls dd σ H' → W' cls dd σ' H') : After K I J W' σ' M H r Φ := by
  cases r with
  | ok a s => exact h
  | exn x p s => exact fun cls dd M' H' y z => w _ _ _ (h cls dd M' H' y z)
  | bad => exact h
/-- f(e, ..) of a def by its meaning -/
theorem pd_call {x : Str} {p pos : Pos} {e : PySem.Expr} {es : List PySem.Expr} {k : Nat} {f : Addr} {fd : FuncData} {ps : List Str} {F : List AV → PV.M S PyData} {m : Env → PV.M S (List AV)} {n : Nat}
    (G : FnOk X.prog X.w X.K X.mg X.base (L2.CX X.prog X.w) k f fd ps (spF X.K c.I c.J n F)) (hr : Room k X.A) (hg : Gl X x) (hm : X.mg x = some (.ref f)) (hk : PySem.W.keepIn X.K (.ref f) = true) (hb : Binds X.K fd ps [])
    (tk : Takes X c.W) (ha : PA X (e :: es) (TAs X.K c m)) (hn : ∀ avs s, avs.length ≠ n → F avs s = .bad) (hdb : (x == ("__debug__" : Str)) = false) (he : starEach (e :: es) X.env = (false, eval e X.env) :: starEach es X.env) (hpl : (backTo pos (starEach es X.env)).any (·.1) = false) :
    PE X (.Call (.Name x p) (e :: es) [] pos) (TV X.K c fun env => (do let avs ← m env; F avs)) := by
  refine (pe_callS G hr hg hm hk hb (fun σ => passAt tk σ) ha hdb he hpl).wk fun pins s σ H Q _ q => ?_
  obtain ⟨M, env, z, gd, q⟩ := q
  refine ⟨M, env, z, gd, ?_⟩
  have q0 := After.bd (m := m env) q
  revert q0
  generalize er : m env z = r
  intro q0
  cases r with
  | bad => exact q0
  | exn y p s1 => exact q0
  | ok avs s1 =>
    intro vs M1 H1 x1 r1
    have hl : avs.length = n := Classical.byContradiction fun w => by
      have q1 : After X.K c.I c.J c.W σ M H (F avs s1) _ := q0
      rw [hn avs s1 w] at q1
      exact q1
    refine ⟨by rw [r1.len, hl], M1, avs, s1, x1.ok, r1, ?_⟩
    exact (After.wish (After.ext gd.ok x1 q0 fun d s2 q2 v M2 H2 x2 r2 => q2 v M2 H2 (Ext.trans gd.ok x1 x2) r2) fun _ _ _ w => w)
theorem pe_callS0 {x : Str} {p pos : Pos} {CX : CXT} {k : Nat} {f : Addr} {fd : FuncData} {ps : List Str} {sp : Sp} {E : L2.St → XK} (F : FnOk X.prog X.w X.K X.mg X.base CX k f fd ps sp) (hr : Room k X.A) (hg : Gl X x) (hm : X.mg x = some (.ref f)) (hk : PySem.W.keepIn X.K (.ref f) = true) (hb : Binds X.K fd ps [])
    (hx : ∀ σ, PassesAt CX X σ (E σ)) (hdb : (x == ("__debug__" : Str)) = false) : PE X (.Call (.Name x p) [] [] pos) (tCallS sp E tNil) := by
  refine ⟨fun pins s σ H Q I h => ?_⟩
  exact wpAny_Call_Name_kw (ld_glob I hg hm (PySem.W.callWith_K0 I.kIn hk (run_fnS (us := []) F hr hb (hx σ) I .nil h)) hdb)
theorem pd_call0 {x : Str} {p pos : Pos} {k : Nat} {f : Addr} {fd : FuncData} {ps : List Str} {F : List AV → PV.M S PyData}
    (G : FnOk X.prog X.w X.K X.mg X.base (L2.CX X.prog X.w) k f fd ps (spF X.K c.I c.J 0 F)) (hr : Room k X.A) (hg : Gl X x) (hm : X.mg x = some (.ref f)) (hk : PySem.W.keepIn X.K (.ref f) = true) (hb : Binds X.K fd ps [])
    (tk : Takes X c.W) (hdb : (x == ("__debug__" : Str)) = false) : PE X (.Call (.Name x p) [] [] pos) (TV X.K c fun env => (do let avs ← (pure [] : PV.M S (List AV)); F avs)) := by
  refine (pe_callS0 G hr hg hm hk hb (fun σ => passAt tk σ) hdb).wk fun pins s σ H Q _ q => ?_
  obtain ⟨M, env, z, gd, q⟩ := q
  exact ⟨rfl, M, [], z, gd.ok, .nil, After.wish q fun _ _ _ w => w⟩

/-! ### methods of lists and tuples -/
/-- the machine's side of x.name(e, ..), the receiver's type known -/
theorem meth_go {T id : String} {name : Str} {pins : List (Addr × Obj)} {σ : L2.St} {H : Hp} {s : Shared} {Q : VK} {e : PySem.Expr} {es : List PySem.Expr} {t : TA} {r : V → List V → Hp → VK → Prop} {x : V} {v : Value} {cpos : Pos}
    (pa : PlainAttrs T) (sl : Slot T name id) (hty : typeOf (.builtin id) = pure (.type "method_descriptor")) (hm : MtR X id r) (ha : PA X (e :: es) t) (hs : starEach (e :: es) X.env = (false, eval e X.env) :: starEach es X.env) (hpl : (backTo cpos (starEach es X.env)).any (·.1) = false)
    (i : Inv X pins σ H s) (rx : RelV x v) (ht : s.TypeIs v T) (hd : ∀ a, v = .ref a → ∃ ob, s.heap.get? a = some ob ∧ ob.dict = none) (q : t σ H fun xs H2 => r x xs H2 Q) :
    MethodOn X.prog X.w X.A name cpos v (backTo cpos (starEach (e :: es) X.env)) (EP X pins σ Q) X.xe s := by
  refine ⟨T, id, pa, sl, hty, ht, hd, ?_⟩
  have hA := ha.run cpos pins s σ H _ i q
  rw [hs] at hA ⊢
  refine Calls.callWith_builtin (by show (false || (backTo cpos (starEach es X.env)).any (·.1)) = false; rw [hpl] <;> rfl) (Calls.evalArgs_plain ?_)
  exact thn hA fun us s2 ⟨vs, H2, I2, r2, q2⟩ => hm pins s2 σ H2 x vs v us Q I2 rx r2 q2
def rIndexN (K : PySem.W.Frag) : V → List V → Hp → VK → Prop := fun x xs H Q => ∃ (a : Addr) (ys : List V) (y : V) (j : Nat) (z : V), x = V.ref a ∧ xs = [y] ∧ SqT K H a ys ∧ flatV y = true ∧ ys.all flatV = true ∧ ys[j]? = some z ∧ eqV z y = true ∧
  (∀ (m : Nat) (z' : V), m < j → ys[m]? = some z' → eqV z' y = false) ∧ Q (.int (j : Nat)) H
theorem mt_indexN : MtR X "tuple.index" (rIndexN X.K) := by
  intro pins s σ H x xs v us Q i rx rxs h
  obtain ⟨a, ys, y, j, z, rfl, rfl, hs, fy, fys, hz, hzj, hno, q⟩ := h
  cases rx
  obtain ⟨uy, rfl, ry⟩ := Vals.one rxs
  obtain ⟨its, rv, pl, hlen⟩ := i.tuple hs
  obtain ⟨⟨cls, dd, dt, sl⟩, ho, hc, n, hd⟩ := pl
  simp only at hc hd
  subst hc
  subst hd
  obtain ⟨u, hu, ru⟩ := rv.get hz
  obtain ⟨hjl, hje⟩ := List.getElem?_eq_some_iff.mp hu
  have hvl := rv.length
  have hj : j < its.toArray.size := by simpa using hjl
  refine call_meets PySem.F.slot_tuple_index ⟨_, ho, rfl⟩ PySem.F.entry_tuple_index (PySem.F.args_tuple_index_2 _ _) (TI.tuple_indexAt a its.toArray n dd sl uy (eqU y) j hj ?_ ?_)
    ⟨ho, fun u' hu' => mem_eqAt ry fy rv fys u' (by simpa using hu'), ⟨.int (j : Nat), H, i.tok _, ⟨_, rfl⟩, q⟩⟩
  · have e1 : its.toArray[j] = u := by simpa using hje
    rw [e1, eqU_of ru (flat_at fys hz)]
    exact hzj
  · intro m hm hmj
    have hml : m < ys.length := by
      have := hm
      rw [List.size_toArray] at this
      omega
    have hy' : ys[m]? = some ys[m] := List.getElem?_eq_getElem hml
    obtain ⟨u2, hu2, ru2⟩ := rv.get hy'
    obtain ⟨_, hme⟩ := List.getElem?_eq_some_iff.mp hu2
    have e1 : its.toArray[m] = u2 := by simpa using hme
    rw [e1, eqU_of ru2 (flat_at fys hy')]
    exact hno m _ hmj hy'
theorem findD_some {d : PyData} : ∀ {ds : List PyData} {j : Nat}, findD d ds = some j → (∃ z, ds[j]? = some z ∧ PyData.eqv z d = true) ∧ ∀ m z, m < j → ds[m]? = some z → PyData.eqv z d = false
  | [], j, e => nomatch e
  | x :: r, j, e => by
    unfold findD at e
    split at e
    · rename_i h
      cases e
      exact ⟨⟨x, rfl, h⟩, fun m z hm => absurd hm (Nat.not_lt_zero _)⟩
    · rename_i h
      obtain ⟨j', e1, rfl⟩ := Option.map_eq_some_iff.mp e
      obtain ⟨⟨z, h1, h2⟩, h3⟩ := findD_some e1
      refine ⟨⟨z, h1, h2⟩, fun m z hm hz => ?_⟩
      cases m with
      | zero =>
        cases hz
        exact Bool.eq_false_iff.mpr h
      | succ m => exact h3 m z (by omega) hz
theorem index_rel {M : Hp} {d : PyData} {ds : List PyData} {v : V} {vs : List V} {j : Nat} (q : Rp K M d v) (f : flatD d = true) (r : RpA K M ds vs) (fs : ds.all flatD = true) (e : findD d ds = some j) (hX : X.K = K) :
    ∃ z, vs[j]? = some z ∧ eqV z v = true ∧ ∀ m z', m < j → vs[m]? = some z' → eqV z' v = false := by
  subst hX
  obtain ⟨⟨z, h1, h2⟩, h3⟩ := findD_some e
  obtain ⟨zv, g1, g2⟩ := r.get h1
  have fl : ∀ {m : Nat} {z : PyData}, ds[m]? = some z → flatD z = true := fun {m z} h => List.all_eq_true.mp fs z (List.mem_of_getElem? h)
  refine ⟨zv, g1, by rw [eqv_rel g2 q (fl h1) f]; exact h2, fun m z' hm hz => ?_⟩
  obtain ⟨zd, g3, g4⟩ := r.getV hz
  rw [eqv_rel g4 q (fl g3) f]
  exact h3 m zd hm g3
/-- x.index(e) -/
theorem pd_index {o e : PySem.Expr} {apos cpos : Pos} {mo : Env → PV.M S PyData} {me : Env → PV.M S (List PyData)} (ho : PE X o (TR X.K c mo)) (ha : PA X [e] (TRs X.K c me)) (hb : attributeBase o "index" X.env (eval o X.env) = eval o X.env) (hl : (apos.endLine == cpos.line) = true)
    (hs : starEach [e] X.env = (false, eval e X.env) :: starEach [] X.env) : PE X (.Call (.Attribute o "index" apos) [e] [] cpos) (TV X.K c fun env => (do let x ← mo env; match seqD x with | true => (do let ds ← me env; ofO (methD .index x ds)) | false => bad)) := by
  refine ⟨fun pins s σ H Q i h => ?_⟩
  have hfew : ((backTo cpos (starEach [e] X.env)).all (fun x => !x.1) && (backToKw cpos (keywordEach [] X.env)).all (fun x => x.1.isSome) && decide ([e].length + ([] : List Keyword).length + (if ([] : List Keyword).isEmpty then 0 else 1) < 30)) = true := by
    rw [hs]
    rfl
  refine wpAny_Call_method_late hb hfew hl rfl ?_
  obtain ⟨M, env, z, gd, q⟩ := h
  refine thn (ho.run pins s σ H (fun x H1 => ∃ dx M1 s1, Ext c.I M H M1 H1 s1 ∧ RpR X.K c.I M1 H1 dx x ∧ After X.K c.I c.J c.W σ M H ((match seqD dx with | true => (do let ds ← me env; ofO (methD .index dx ds)) | false => bad : PV.M S PyData) s1) fun d s' => ∀ v M' H', Ext c.I M H M' H' s' → PV_ X.K H M' H' d v → Q v H') i
    ⟨M, env, z, gd, (After.bd (m := mo env) q).imp fun dx s1 q1 x M1 H1 x1 r1 => ⟨dx, M1, s1, x1, r1, q1⟩⟩) fun v s1 ⟨x, H1, I1, rx, dx, M1, z1, x1, r1, q1⟩ => ?_
  have ok1 := x1.ok
  by_cases hsq : seqD dx = true
  case neg =>
    rw [Bool.eq_false_iff.mpr hsq] at q1
    exact (show False from q1).elim
  rw [hsq] at q1
  have key : ∀ (ys : List PyData) (vs : List V) (P : V → List V → Hp → VK → Prop), (∀ ds, methD .index dx ds = match ds with | [d] => (if flatD d && ys.all flatD then (findD d ys).map fun j => .int (j : Nat) else none) | _ => none) → RpA X.K M1 ys vs →
      (∀ y j zv H2 M2 s2, Ext c.I M1 H1 M2 H2 s2 → flatV y = true → vs.all flatV = true → vs[j]? = some zv → eqV zv y = true → (∀ (m : Nat) (z' : V), m < j → vs[m]? = some z' → eqV z' y = false) → Q (.int (j : Nat)) H2 → P x [y] H2 Q) →
      TRs X.K c me σ H1 fun xs H2 => P x xs H2 Q := fun ys vs P hmd ra hP => by
    refine ⟨M1, env, z1, gd.ext x1, ((After.bd (m := me env) q1).ext gd.ok x1) fun ds s2 q2 us M2 H2 x2 r2 => ?_⟩
    obtain ⟨d, e1, q3⟩ := After.ofO q2
    rw [hmd] at e1
    match ds, e1, r2 with
    | [d0], e1, r2 =>
      simp only at e1
      split at e1
      · rename_i hf
        obtain ⟨f1, f2⟩ := Bool.and_eq_true_iff.mp hf
        obtain ⟨j, e2, rfl⟩ := Option.map_eq_some_iff.mp e1
        obtain ⟨u, rfl, ru⟩ := r2.one
        obtain ⟨zv, g1, g2, g3⟩ := index_rel (X := X) (flat_imm ru f1) f1 (RpA.mono (x2.mm ok1) ra) f2 e2 rfl
        exact hP u j zv H2 M2 s2 x2 (flat_rel ru f1) (all_flat ra f2) g1 g2 g3 (q3 _ M2 H2 (Ext.trans gd.ok x1 x2) (.int _))
      · cases e1
    | [], e1, _ => cases e1
    | _ :: _ :: _, e1, _ => cases e1
  cases dx with
  | list ys =>
    obtain ⟨a, vs, rfl, ha', ra⟩ := r1.lst x1.sub
    cases rx
    obtain ⟨its, _, pl, _⟩ := I1.list (SqL.of ha')
    refine meth_go PySem.F.plainAttrs_list PySem.F.slot_list_index PySem.F.type_list_index mt_index ha hs rfl I1 (x := .ref a) rfl pl.isList.typeIs (fun b eb => ?_) (key ys vs (rIndex X.K) (fun ds => ?_) ra fun y j zv H2 M2 s2 x2 f1 f2 g1 g2 g3 q => ?_)
    · cases eb
      obtain ⟨o, n, eo, _, hdn, _⟩ := pl
      exact ⟨o, eo, hdn⟩
    · match ds with
      | [] => rfl
      | [_] => rfl
      | _ :: _ :: _ => rfl
    · have hz : ¬ c.I.Z a := fun hz => by
        rcases r1 with r1 | ⟨_, _, _, _, e2, _, n, _⟩
        · cases r1 with
          | lst h _ =>
            rw [ok1.z a hz] at h
            cases h
        · cases e2
          exact n hz
      exact ⟨a, vs, y, j, zv, rfl, rfl, SqL.of (x2.h a _ ha' hz), f1, f2, g1, g2, g3, q⟩
  | tuple ys =>
    obtain ⟨a, vs, rfl, hm', hh', ra⟩ := r1.tup x1.sub
    cases rx
    obtain ⟨its, _, pl, _⟩ := I1.tuple hh'.sq
    refine meth_go PySem.F.plainAttrs_tuple PySem.F.slot_tuple_index PySem.F.type_tuple_index mt_indexN ha hs rfl I1 (x := .ref a) rfl pl.typeIs (fun b eb => ?_) (key ys vs (rIndexN X.K) (fun ds => ?_) ra fun y j zv H2 M2 s2 x2 f1 f2 g1 g2 g3 q => ?_)
    · cases eb
      rcases hh' with ⟨o, h, hd⟩ | ⟨o, its, n, h1, _, hd, _⟩
      · obtain ⟨h, _⟩ := I1.hok a _ h
        exact ⟨o, h, hd⟩
      · exact ⟨o, I1.kIn _ _ h1, hd⟩
    · match ds with
      | [] => rfl
      | [_] => rfl
      | _ :: _ :: _ => rfl
    · exact ⟨a, vs, y, j, zv, rfl, rfl, ((hm'.mono (x2.mm ok1)).mono x2.sub).sq, f1, f2, g1, g2, g3, q⟩
  | _ => cases hsq
/-! count -/
def rCountF (K : PySem.W.Frag) : V → List V → Hp → VK → Prop := fun x xs H Q => ∃ (a : Addr) (ys : List V) (y : V), x = V.ref a ∧ xs = [y] ∧ SqL K H a ys ∧ flatV y = true ∧ ys.all flatV = true ∧ Q (.int (ys.countP (fun z => eqV z y) : Nat)) H
def rCountT (K : PySem.W.Frag) : V → List V → Hp → VK → Prop := fun x xs H Q => ∃ (a : Addr) (ys : List V) (y : V), x = V.ref a ∧ xs = [y] ∧ SqT K H a ys ∧ flatV y = true ∧ ys.all flatV = true ∧ Q (.int (ys.countP (fun z => eqV z y) : Nat)) H
theorem countU {y : V} : ∀ {ys : List V} {us : List Value}, Vals ys us → ys.all flatV = true → us.countP (eqU y) = ys.countP fun z => eqV z y
  | _, _, .nil, _ => rfl
  | z :: ys, u :: us, .cons r t, f => by
    rw [List.all_cons, Bool.and_eq_true] at f
    rw [List.countP_cons, List.countP_cons, countU t f.2, eqU_of r f.1]
theorem mt_countF : MtR X "list.count" (rCountF X.K) := by
  intro pins s σ H x xs v us Q i rx rxs h
  obtain ⟨p, ys, y, rfl, rfl, hs, fy, fys, q⟩ := h
  cases rx
  obtain ⟨uy, rfl, ry⟩ := Vals.one rxs
  obtain ⟨its, rv, ⟨⟨cls, dd, data, sl⟩, n, ho, hc, hdn, hd⟩, hlen⟩ := i.list hs
  simp only at hc hd
  subst hc hd
  refine call_meets PySem.F.slot_list_count ⟨_, ho, rfl⟩ PySem.F.entry_list_count (PySem.F.args_list_count_2 _ _)
    (SeqAt.list_countAt p its.toArray n dd sl uy (eqU y)) ⟨ho, fun u' hu' => mem_eqAt ry fy rv fys u' (by simpa using hu'), ?_⟩
  refine ⟨.int (ys.countP (fun z => eqV z y) : Nat), H, i.tok _, ⟨s.toks, ?_⟩, q⟩
  show Value.int ((its.toArray.toList.countP (eqU y) : Nat) : Int) s.toks = Value.int ((ys.countP (fun z => eqV z y) : Nat) : Int) s.toks
  rw [← countU rv fys]
theorem mt_countT : MtR X "tuple.count" (rCountT X.K) := by
  intro pins s σ H x xs v us Q i rx rxs h
  obtain ⟨p, ys, y, rfl, rfl, hs, fy, fys, q⟩ := h
  cases rx
  obtain ⟨uy, rfl, ry⟩ := Vals.one rxs
  obtain ⟨its, rv, pl, hlen⟩ := i.tuple hs
  obtain ⟨⟨cls, dd, dt, sl⟩, ho, hc, n, hd⟩ := pl
  simp only at hc hd
  subst hc
  subst hd
  refine call_meets PySem.F.slot_tuple_count ⟨_, ho, rfl⟩ PySem.F.entry_tuple_count (PySem.F.args_tuple_count_2 _ _)
    (SeqAt.tuple_countAt p its.toArray n dd sl uy (eqU y)) ⟨ho, fun u' hu' => mem_eqAt ry fy rv fys u' (by simpa using hu'), ?_⟩
  refine ⟨.int (ys.countP (fun z => eqV z y) : Nat), H, i.tok _, ⟨s.toks, ?_⟩, q⟩
  show Value.int ((its.toArray.toList.countP (eqU y) : Nat) : Int) s.toks = Value.int ((ys.countP (fun z => eqV z y) : Nat) : Int) s.toks
  rw [← countU rv fys]
theorem count_rel {M : Hp} {d : PyData} {v : V} (q : Rp X.K M d v) (f : flatD d = true) : ∀ {ds : List PyData} {vs : List V}, RpA X.K M ds vs → ds.all flatD = true → vs.countP (fun z => eqV z v) = ds.countP fun z => PyData.eqv z d
  | _, _, .nil, _ => rfl
  | z :: ds, u :: vs, .cons r t, fs => by
    rw [List.all_cons, Bool.and_eq_true] at fs
    rw [List.countP_cons, List.countP_cons, count_rel q f t fs.2, eqv_rel r q fs.1 f]
/-- x.count(e) -/
theorem pd_count {o e : PySem.Expr} {apos cpos : Pos} {mo : Env → PV.M S PyData} {me : Env → PV.M S (List PyData)} (ho : PE X o (TR X.K c mo)) (ha : PA X [e] (TRs X.K c me)) (hb : attributeBase o "count" X.env (eval o X.env) = eval o X.env) (hl : (apos.endLine == cpos.line) = true)
    (hs : starEach [e] X.env = (false, eval e X.env) :: starEach [] X.env) : PE X (.Call (.Attribute o "count" apos) [e] [] cpos) (TV X.K c fun env => (do let x ← mo env; match seqD x with | true => (do let ds ← me env; ofO (methD .count x ds)) | false => bad)) := by
  refine ⟨fun pins s σ H Q i h => ?_⟩
  have hfew : ((backTo cpos (starEach [e] X.env)).all (fun x => !x.1) && (backToKw cpos (keywordEach [] X.env)).all (fun x => x.1.isSome) && decide ([e].length + ([] : List Keyword).length + (if ([] : List Keyword).isEmpty then 0 else 1) < 30)) = true := by
    rw [hs]
    rfl
  refine wpAny_Call_method_late hb hfew hl rfl ?_
  obtain ⟨M, env, z, gd, q⟩ := h
  refine thn (ho.run pins s σ H (fun x H1 => ∃ dx M1 s1, Ext c.I M H M1 H1 s1 ∧ RpR X.K c.I M1 H1 dx x ∧ After X.K c.I c.J c.W σ M H ((match seqD dx with | true => (do let ds ← me env; ofO (methD .count dx ds)) | false => bad : PV.M S PyData) s1) fun d s' => ∀ v M' H', Ext c.I M H M' H' s' → PV_ X.K H M' H' d v → Q v H') i
    ⟨M, env, z, gd, (After.bd (m := mo env) q).imp fun dx s1 q1 x M1 H1 x1 r1 => ⟨dx, M1, s1, x1, r1, q1⟩⟩) fun v s1 ⟨x, H1, I1, rx, dx, M1, z1, x1, r1, q1⟩ => ?_
  have ok1 := x1.ok
  by_cases hsq : seqD dx = true
  case neg =>
    rw [Bool.eq_false_iff.mpr hsq] at q1
    exact (show False from q1).elim
  rw [hsq] at q1
  have key : ∀ (ys : List PyData) (vs : List V) (P : V → List V → Hp → VK → Prop), (∀ ds, methD .count dx ds = match ds with | [d] => (if flatD d && ys.all flatD then some (.int (ys.countP (fun z => PyData.eqv z d) : Nat)) else none) | _ => none) → RpA X.K M1 ys vs →
      (∀ y H2 M2 s2, Ext c.I M1 H1 M2 H2 s2 → flatV y = true → vs.all flatV = true → Q (.int (vs.countP (fun z => eqV z y) : Nat)) H2 → P x [y] H2 Q) →
      TRs X.K c me σ H1 fun xs H2 => P x xs H2 Q := fun ys vs P hmd ra hP => by
    refine ⟨M1, env, z1, gd.ext x1, ((After.bd (m := me env) q1).ext gd.ok x1) fun ds s2 q2 us M2 H2 x2 r2 => ?_⟩
    obtain ⟨d, e1, q3⟩ := After.ofO q2
    rw [hmd] at e1
    match ds, e1, r2 with
    | [d0], e1, r2 =>
      simp only at e1
      split at e1
      · rename_i hf
        obtain ⟨f1, f2⟩ := Bool.and_eq_true_iff.mp hf
        cases e1
        obtain ⟨u, rfl, ru⟩ := r2.one
        refine hP u H2 M2 s2 x2 (flat_rel ru f1) (all_flat ra f2) ?_
        rw [count_rel (flat_imm ru f1) f1 (RpA.mono (x2.mm ok1) ra) f2]
        exact q3 _ M2 H2 (Ext.trans gd.ok x1 x2) (.int _)
      · cases e1
    | [], e1, _ => cases e1
    | _ :: _ :: _, e1, _ => cases e1
  cases dx with
  | list ys =>
    obtain ⟨a, vs, rfl, ha', ra⟩ := r1.lst x1.sub
    cases rx
    obtain ⟨its, _, pl, _⟩ := I1.list (SqL.of ha')
    refine meth_go PySem.F.plainAttrs_list PySem.F.slot_list_count PySem.F.type_list_count mt_countF ha hs rfl I1 (x := .ref a) rfl pl.isList.typeIs (fun b eb => ?_) (key ys vs (rCountF X.K) (fun ds => ?_) ra fun y H2 M2 s2 x2 f1 f2 q => ?_)
    · cases eb
      obtain ⟨o, n, eo, _, hdn, _⟩ := pl
      exact ⟨o, eo, hdn⟩
    · match ds with
      | [] => rfl
      | [_] => rfl
      | _ :: _ :: _ => rfl
    · have hz : ¬ c.I.Z a := fun hz => by
        rcases r1 with r1 | ⟨_, _, _, _, e2, _, n, _⟩
        · cases r1 with
          | lst h _ =>
            rw [ok1.z a hz] at h
            cases h
        · cases e2
          exact n hz
      exact ⟨a, vs, y, rfl, rfl, SqL.of (x2.h a _ ha' hz), f1, f2, q⟩
  | tuple ys =>
    obtain ⟨a, vs, rfl, hm', hh', ra⟩ := r1.tup x1.sub
    cases rx
    obtain ⟨its, _, pl, _⟩ := I1.tuple hh'.sq
    refine meth_go PySem.F.plainAttrs_tuple PySem.F.slot_tuple_count PySem.F.type_tuple_count mt_countT ha hs rfl I1 (x := .ref a) rfl pl.typeIs (fun b eb => ?_) (key ys vs (rCountT X.K) (fun ds => ?_) ra fun y H2 M2 s2 x2 f1 f2 q => ?_)
    · cases eb
      rcases hh' with ⟨o, h, hd⟩ | ⟨o, its, n, h1, _, hd, _⟩
      · obtain ⟨h, _⟩ := I1.hok a _ h
        exact ⟨o, h, hd⟩
      · exact ⟨o, I1.kIn _ _ h1, hd⟩
    · match ds with
      | [] => rfl
      | [_] => rfl
      | _ :: _ :: _ => rfl
    · exact ⟨a, vs, y, rfl, rfl, ((hm'.mono (x2.mm ok1)).mono x2.sub).sq, f1, f2, q⟩
  | _ => cases hsq
end
end PV
set_option Elab.async false
set_option linter.all false
set_option maxRecDepth 100000
set_option maxHeartbeats 4000000
/-! PV, eighth part: tests; slots that are set; what is walked; comprehensions. -/
namespace PV
open PySem PySem.Spec PyProof.Rows L2
section
variable {S : Type} {X : Cx} {c : Fm S} {K : PySem.W.Frag}
/-! ### tests -/
theorem td_and {a b : PySem.Expr} {rest : List PySem.Expr} {pos : Pos} {ma mb : Env → PV.M S Bool} (ha : PT X a (TB X.K c ma)) (hb : PW X (.BoolOp .And (b :: rest) pos) (TB X.K c mb)) :
    PW X (.BoolOp .And (a :: b :: rest) pos) (TB X.K c fun env => (do
      let x ← ma env
      match x with
      | true => mb env
      | false => pure false)) := by
  refine ⟨fun wh pins s σ H Q I q => (pw_and ha hb).run wh pins s σ H Q I ?_⟩
  obtain ⟨M, env, z, gd, q⟩ := q
  refine ⟨M, env, z, gd, (After.bd (m := ma env) q).imp fun k s1 q1 M1 H1 x1 => ?_⟩
  cases k with
  | true => exact ⟨M1, env, s1, gd.ext x1, After.ext gd.ok x1 q1 fun d s2 q2 M2 H2 x2 => q2 M2 H2 (Ext.trans gd.ok x1 x2)⟩
  | false => exact q1 M1 H1 x1
theorem td_or {a b : PySem.Expr} {rest : List PySem.Expr} {pos : Pos} {ma mb : Env → PV.M S Bool} (ha : PT X a (TB X.K c ma)) (hb : PW X (.BoolOp .Or (b :: rest) pos) (TB X.K c mb)) :
    PW X (.BoolOp .Or (a :: b :: rest) pos) (TB X.K c fun env => (do
      let x ← ma env
      match x with
      | true => pure true
      | false => mb env)) := by
  refine ⟨fun wh pins s σ H Q I q => (pw_or ha hb).run wh pins s σ H Q I ?_⟩
  obtain ⟨M, env, z, gd, q⟩ := q
  refine ⟨M, env, z, gd, (After.bd (m := ma env) q).imp fun k s1 q1 M1 H1 x1 => ?_⟩
  cases k with
  | false => exact ⟨M1, env, s1, gd.ext x1, After.ext gd.ok x1 q1 fun d s2 q2 M2 H2 x2 => q2 M2 H2 (Ext.trans gd.ok x1 x2)⟩
  | true => exact q1 M1 H1 x1
theorem td_not {a : PySem.Expr} {pos : Pos} {m : Env → PV.M S Bool} (h : PT X a (TB X.K c m)) : PT X (.UnaryOp .Not a pos) (TB X.K c fun env => (do let x ← m env; pure (!x))) := by
  refine (pt_not h).wk fun pins s σ H Q _ q => ?_
  obtain ⟨M, env, z, gd, q⟩ := q
  exact ⟨M, env, z, gd, (After.bd (m := m env) q).imp fun k s1 q1 M1 H1 x1 => q1 M1 H1 x1⟩
theorem td_val {a : PySem.Expr} {m : Env → PV.M S PyData} (h : PE X a (TR X.K c m)) (he : ∀ whole, isTrue a X.env whole = (do let v ← whole; standAt a.pos; holding [v] (truthy v))) : PT X a (TB X.K c fun env => (do let x ← m env; ofO (truth x))) := by
  refine (pt_truth h he).wk fun pins s σ H Q _ q => ?_
  obtain ⟨M, env, z, gd, q⟩ := q
  refine ⟨M, env, z, gd, (After.bd (m := m env) q).imp fun d s1 q1 v M1 H1 x1 r1 => ?_⟩
  obtain ⟨b, e, q2⟩ := After.ofO q1
  exact ⟨b, truth_rel x1.sub r1 e, q2 M1 H1 x1⟩
theorem td_cmp {a b : PySem.Expr} {op : CmpOp} {pos : Pos} {o : Cop} {ma mb : Env → PV.M S PyData} (ho : OpR X (compareOp op) (r2 X c.I (cmpD o))) (ha : PE X a (TR X.K c ma)) (hb : PE X b (TR X.K c mb)) (hm : behindInMarks op b = false) :
    PT X (.Compare a [op] [b] pos) (TB X.K c fun env => (do
      let x ← (do let x ← ma env; let y ← mb env; ofO (cmpD o x y))
      ofO (truth x))) := by
  refine (pt_cmpR ho ha hb hm).wk fun pins s σ H Q _ q => ?_
  obtain ⟨M, env, z, gd, q⟩ := q
  have q0 := After.bd (m := (do let x ← ma env; let y ← mb env; ofO (cmpD o x y))) q
  refine ⟨M, env, z, gd, (After.bd (m := ma env) q0).imp fun dx s1 q1 x M1 H1 x1 r1 => ?_⟩
  have ok1 := x1.ok
  refine ⟨M1, env, s1, gd.ext x1, ((After.bd (m := mb env) q1).ext gd.ok x1) fun dy s2 q2 y M2 H2 x2 r2 => ?_⟩
  obtain ⟨d, e1, q3⟩ := After.ofO q2
  refine ⟨M2, dx, dy, d, x2.ok.sub, r1.mono ok1 x2, r2, e1, fun v M' H' x3 r3 => ?_⟩
  obtain ⟨b, _, rfl⟩ := Option.map_eq_some_iff.mp e1
  have r3' : Rp X.K M' (.bool b) v := r3
  cases r3'
  exact ⟨b, rfl, q3 M' H' (Ext.trans gd.ok x1 (Ext.trans ok1 x2 (x3.ext x2.ok)))⟩

/-! ### slots that are set -/
theorem Gd.set {I : HI S} {H0 M0 M H : Hp} {σ : List (Option V)} {env : Env} {s : S} (g : Gd K I H0 M0 M H σ env s) (i : Nat) (y : Sl) (ov : Option V) (hy : SlOk K I H0 M H y ov)
    (hs : ∀ xs, y = .own xs → ∀ (j : Nat) (ys : List PyData) (p : Addr), j ≠ i → env[j]? = some (.own ys) → ov = some (.ref p) → σ[j]? ≠ some (some (.ref p))) : Gd K I H0 M0 M H (σ.set i ov) (env.set i y) s := by
  refine ⟨g.ok, g.m0, g.h0, by rw [List.length_set, List.length_set]; exact g.len, fun j x e => ?_, fun j l xs ys p n e1 e2 e3 e4 => ?_⟩
  · by_cases q : j = i
    · subst q
      by_cases hl : j < env.length
      · rw [List.getElem?_set_self hl] at e
        cases e
        exact ⟨ov, List.getElem?_set_self (by rw [g.len]; exact hl), hy⟩
      · rw [List.getElem?_eq_none (by rw [List.length_set]; omega)] at e
        cases e
    · rw [List.getElem?_set_ne (Ne.symm q)] at e
      obtain ⟨ov', h1, h2⟩ := g.sl j x e
      exact ⟨ov', by rw [List.getElem?_set_ne (Ne.symm q)]; exact h1, h2⟩
  · have inv : ∀ {j : Nat} {zs : List PyData}, (env.set i y)[j]? = some (.own zs) → j = i → y = .own zs ∧ (σ.set i ov)[j]? = some ov := fun {j zs} e q => by
      subst q
      by_cases hl : j < env.length
      · rw [List.getElem?_set_self hl] at e
        exact ⟨Option.some.inj e, List.getElem?_set_self (by rw [g.len]; exact hl)⟩
      · rw [List.getElem?_eq_none (by rw [List.length_set]; omega)] at e
        cases e
    by_cases q1 : j = i
    · by_cases q2 : l = i
      · exact n (q1.trans q2.symm)
      · obtain ⟨a1, a2⟩ := inv e1 q1
        rw [a2] at e3
        rw [List.getElem?_set_ne (Ne.symm q2)] at e2 e4
        exact hs _ a1 l _ p q2 e2 (Option.some.inj e3) e4
    · by_cases q2 : l = i
      · obtain ⟨a1, a2⟩ := inv e2 q2
        rw [a2] at e4
        rw [List.getElem?_set_ne (Ne.symm q1)] at e1 e3
        exact hs _ a1 j _ p q1 e1 (Option.some.inj e4) e3
      · rw [List.getElem?_set_ne (Ne.symm q1)] at e1 e3
        rw [List.getElem?_set_ne (Ne.symm q2)] at e2 e4
        exact g.sep j l xs ys p n e1 e2 e3 e4
theorem Gd.setV {I : HI S} {H0 M0 M H : Hp} {σ : List (Option V)} {env : Env} {s : S} (g : Gd K I H0 M0 M H σ env s) (i : Nat) {d : PyData} {v : V} (r : Rp K M d v) : Gd K I H0 M0 M H (σ.set i (some v)) (env.set i (.v d)) s :=
  g.set i _ _ ⟨v, rfl, r⟩ fun _ e => nomatch e
theorem Gd.wipe {I : HI S} {H0 M0 M H : Hp} {σ : List (Option V)} {env : Env} {s : S} (g : Gd K I H0 M0 M H σ env s) : ∀ vs : List Nat, Gd K I H0 M0 M H (wipe σ vs) (wipeE env vs) s
  | [] => g
  | v :: vs => (Gd.wipe g vs).set v .no none trivial fun _ e => nomatch e
theorem wipe_set {x : Option V} : ∀ (ws : List Nat) {σ : L2.St} {i : Nat}, i ∈ ws → wipe (List.set σ i x) ws = wipe σ ws
  | w :: ws, σ, i, h => by
    show (wipe (List.set σ i x) ws).set w none = (wipe σ ws).set w none
    by_cases q : i ∈ ws
    · rw [wipe_set ws q]
    · rcases List.mem_cons.mp h with rfl | h
      · have e : ∀ (vs : List Nat), i ∉ vs → wipe (List.set σ i x) vs = List.set (wipe σ vs) i x := fun vs => by
          induction vs with
          | nil => intro _; rfl
          | cons v vs ih =>
            intro hv
            show (wipe (List.set σ i x) vs).set v none = List.set ((wipe σ vs).set v none) i x
            rw [ih fun z => hv (List.mem_cons_of_mem _ z), List.set_comm _ _ fun z => hv (by rw [z]; exact List.mem_cons_self)]
        rw [e ws q, List.set_set]
      · exact absurd h q
theorem wipe_mem_none : ∀ (ws : List Nat) {σ : L2.St} {i : Nat}, i ∈ ws → (wipe σ ws).set i none = wipe σ ws
  | w :: ws, σ, i, h => by
    show ((wipe σ ws).set w none).set i none = (wipe σ ws).set w none
    by_cases q : i = w
    · subst q
      rw [List.set_set]
    · rw [List.set_comm _ _ (Ne.symm q), wipe_mem_none ws ((List.mem_cons.mp h).resolve_left q)]
theorem wipe_wipe (ws : List Nat) {σ : L2.St} : ∀ (vs : List Nat), (∀ v ∈ vs, v ∈ ws) → wipe (wipe σ vs) ws = wipe σ ws
  | [], _ => rfl
  | v :: vs, h => by
    show wipe (List.set (wipe σ vs) v none) ws = wipe σ ws
    rw [wipe_set ws (h v List.mem_cons_self)]
    exact wipe_wipe ws vs fun u hu => h u (List.mem_cons_of_mem _ hu)
def tgSlots : Tg → List Nat
  | .nm i => [i]
  | .tup is => is
/-- a target, by data -/
def TGd (K : PySem.W.Frag) (c : Fm S) (t : Tg) : TG := fun v σ H Q => ∃ M env s d env', Gd K c.I c.H0 c.M0 M H σ env s ∧ Rp K M d v ∧ setTg t d env = some env' ∧
  ∀ σ', Gd K c.I c.H0 c.M0 M H σ' env' s → (∀ ws, (∀ i ∈ tgSlots t, i ∈ ws) → wipe σ' ws = wipe σ ws) → Q σ' H
theorem gd_nm {i : Nat} {v : V} {σ : L2.St} {H : Hp} {Q : L2.St → Hp → Prop} (q : TGd K c (.nm i) v σ H Q) : gName i v σ H Q := by
  obtain ⟨M, env, s, d, env', g, r, e, q⟩ := q
  replace e : (if i < env.length then some (env.set i (.v d)) else none) = some env' := e
  split at e
  · cases e
    exact q _ (g.setV i r) fun ws h => wipe_set ws (h i List.mem_cons_self)
  · cases e
/-- the slots of a tuple's items, in order -/
def gSlots : List Nat → TGs
  | [] => gNil
  | i :: is => gCons (gName i) (gSlots is)
theorem gd_slots {M H : Hp} {s : S} {Q : L2.St → Hp → Prop} : ∀ {is : List Nat} {ds : List PyData} {vs : List V} {σ : L2.St} {env env' : Env}, Gd K c.I c.H0 c.M0 M H σ env s → RpA K M ds vs → setSlots is ds env = some env' →
    (∀ σ', Gd K c.I c.H0 c.M0 M H σ' env' s → (∀ ws, (∀ i ∈ is, i ∈ ws) → wipe σ' ws = wipe σ ws) → Q σ' H) → gSlots is vs σ H Q
  | [], [], _, σ, env, env', g, .nil, e, q => by
    cases e
    exact ⟨rfl, q σ g fun _ _ => rfl⟩
  | [], _ :: _, _, _, _, _, _, _, e, _ => nomatch e
  | _ :: _, [], _, _, _, _, _, _, e, _ => nomatch e
  | i :: is, d :: ds, _, σ, env, env', g, .cons h r, e, q => by
    replace e : (if i < env.length then setSlots is ds (env.set i (.v d)) else none) = some env' := e
    split at e
    · refine ⟨_, _, rfl, gd_slots (g.setV i h) r e fun σ' g' w => q σ' g' fun ws hw => ?_⟩
      rw [w ws fun j hj => hw j (List.mem_cons_of_mem _ hj)]
      exact wipe_set ws (hw i List.mem_cons_self)
    · cases e
theorem setSlots_len : ∀ {is : List Nat} {ds : List PyData} {env env' : Env}, setSlots is ds env = some env' → is.length = ds.length
  | [], [], _, _, _ => rfl
  | [], _ :: _, _, _, e => nomatch e
  | _ :: _, [], _, _, e => nomatch e
  | i :: is, d :: ds, env, env', e => by
    replace e : (if i < env.length then setSlots is ds (env.set i (.v d)) else none) = some env' := e
    split at e
    · rw [List.length_cons, List.length_cons, setSlots_len e]
    · cases e
/-- a tuple's or a list's items -/
def gTL (K : PySem.W.Frag) (n : Nat) (t : TGs) : TG := fun v σ H Q => gTup K n t v σ H Q ∨ gLst K n t v σ H Q
theorem pg_tl {es : List PySem.Expr} {k : Nat} {t : TGs} {n : Nat} {pos : Pos} (hc : X.calm = true) (h : PGs X es t) (hn : (assignEach es X.env).length = n) (hst : (assignEach es X.env).findIdx? (·.1) = none) : PG X (.Tuple es k pos) (gTL X.K n t) :=
  ⟨fun pins s σ H v u Q I r q => by
    rcases q with q | q
    · exact (pg_tup hc h hn hst).run pins s σ H v u Q I r q
    · exact (pg_lst hc h hn hst).run pins s σ H v u Q I r q⟩
theorem gd_tup {is : List Nat} {v : V} {σ : L2.St} {H : Hp} {Q : L2.St → Hp → Prop} (q : TGd K c (.tup is) v σ H Q) : gTL K is.length (gSlots is) v σ H Q := by
  obtain ⟨M, env, s, d, env', g, r, e, q⟩ := q
  cases d <;> try exact nomatch (show (none : Option Env) = some env' from e)
  case tuple ds =>
    cases r with
    | tup h r => exact .inl ⟨_, _, rfl, (h.mono g.ok.sub).sq, by rw [r.len, setSlots_len e], gd_slots g r e q⟩
  case list ds =>
    cases r with
    | lst h r => exact .inr ⟨_, _, rfl, SqL.of (g.ok.sub _ _ h), by rw [r.len, setSlots_len e], gd_slots g r e q⟩
end
end PV
set_option Elab.async false
set_option linter.all false
set_option maxRecDepth 100000
set_option maxHeartbeats 4000000
/-! PV, ninth part: what is walked; comprehensions. -/
namespace PV
open PySem PySem.Spec PyProof.Rows L2
/-- what an iterator yields, wherever the heap has come to (as Kp tells) -/
def SrcOk (K : PySem.W.Frag) (J : It) (items : List PyData) (Kp : Hp → Hp → Prop) : Prop := ∀ M2 H2, Same M2 H2 → Kp M2 H2 → ∀ i : Nat,
  (∀ d, items[i]? = some d → J.go i H2 ∧ ∀ x H3, J.yld i H2 x H3 → ∃ M3, Ext0 M2 H2 M3 H3 ∧ Rp K M3 d x) ∧ (items.length ≤ i → J.stop i H2)
section
variable {S : Type} {X : Cx} {c : Fm S} {K : PySem.W.Frag}
/-- all that is tracked stays; what is shared stays -/
def KpR (I : HI S) (M' H' M2 H2 : Hp) : Prop := Same M' M2 ∧ ∀ a o, H' a = some o → ¬ I.Z a → H2 a = some o
def KpV (M' _ M2 _ : Hp) : Prop := Same M' M2
/-- a walked thing, by data -/
def TId (X : Cx) (c : Fm S) (Kp : Hp → Hp → Hp → Hp → Prop) (m : Env → PV.M S (List PyData)) : TI := fun σ H R => ∃ M env s, Gd X.K c.I c.H0 c.M0 M H σ env s ∧
  After X.K c.I c.J c.W σ M H (m env s) fun items s' => ∀ J M' H', Ext c.I M H M' H' s' → SrcOk X.K J items (Kp M' H') → R J H'
theorem _root_.L2.PI.wk {tg e : PySem.Expr} {t t' : TI} (h : PI X tg e t) (w : ∀ pins s σ H R, Inv X pins σ H s → t' σ H R → t σ H R) : PI X tg e t' := ⟨fun pins s σ H Q I q => h.run pins s σ H Q I (w pins s σ H Q I q)⟩
/-- a list or a tuple -/
theorem pi_seq {tg l : PySem.Expr} {tl : TE} (hl : PE X l tl) : PI X tg l (fun σ H R => tl σ H fun x H1 => ∃ a, x = .ref a ∧ (((∃ xs, SqL X.K H1 a xs) ∧ R (Itl X.K a) H1) ∨ ((∃ xs, SqT X.K H1 a xs) ∧ R (Itt X.K a) H1))) := by
  refine ⟨fun pins s σ H R i h => ?_⟩
  refine thn (hl.run pins s σ H _ i h) fun v s1 ⟨x, H1, I1, r1, a, e, q⟩ => ?_
  subst e
  cases r1
  have new : ∀ b ∈ [s1.heap.objs.size], FpOk X pins H1 b := fun b hb => by
    cases (show b = s1.heap.objs.size by simpa using hb)
    exact I1.fpOk (Nat.le_refl _) (I1.hok.fresh (Nat.le_refl _))
  rcases q with ⟨⟨xs, hq⟩, q⟩ | ⟨⟨xs, hq⟩, q⟩
  · obtain ⟨its, rv, p, hz⟩ := I1.list hq
    exact wpAny_pyIter_list p.isList ⟨s1.heap.objs.size, [s1.heap.objs.size], _, _, H1, rfl, I1.kept (t' := s1.toks) fun b o e => Heap.get?_push_of_some _ e, turn_list a _, ⟨_, Heap.get?_push_size _ rfl, rfl, rfl⟩, new, q⟩
  · obtain ⟨its, rv, p, hz⟩ := I1.tuple hq
    exact wpAny_pyIter_tuple (show s1.heap.IsTuple a its.toArray from p) ⟨s1.heap.objs.size, [s1.heap.objs.size], _, _, H1, rfl, I1.kept (t' := s1.toks) fun b o e => Heap.get?_push_of_some _ e, turn_tuple a _, ⟨_, Heap.get?_push_size _ rfl, rfl, rfl⟩, new, q⟩
theorem src_list {a : Addr} {vs : List V} {ds : List PyData} {M' : Hp} {Kp : Hp → Hp → Prop} (r : RpA K M' ds vs) (hs : ∀ M2 H2, Kp M2 H2 → Same M' M2) (hk : ∀ M2 H2, Same M2 H2 → Kp M2 H2 → H2 a = some (.lst vs)) : SrcOk K (Itl K a) ds Kp := by
  intro M2 H2 sub kp i
  have hq : SqL K H2 a vs := SqL.of (hk M2 H2 sub kp)
  refine ⟨fun d hd => ?_, fun h => ⟨vs, hq, by rw [r.len]; exact h⟩⟩
  obtain ⟨v, hv, rv⟩ := r.get hd
  refine ⟨⟨vs, v, hq, hv⟩, fun x H3 y => ?_⟩
  obtain ⟨rfl, y⟩ := y
  cases Option.some.inj ((y vs hq).symm.trans hv)
  exact ⟨M2, .rfl sub, rv.mono (hs _ _ kp)⟩
theorem src_tup {a : Addr} {vs : List V} {ds : List PyData} {M' : Hp} {Kp : Hp → Hp → Prop} (h : TupN K M' a vs) (r : RpA K M' ds vs) (hs : ∀ M2 H2, Kp M2 H2 → Same M' M2) : SrcOk K (Itt K a) ds Kp := by
  intro M2 H2 sub kp i
  have hq : SqT K H2 a vs := ((h.mono (hs _ _ kp)).mono sub).sq
  refine ⟨fun d hd => ?_, fun h => ⟨vs, hq, by rw [r.len]; exact h⟩⟩
  obtain ⟨v, hv, rv⟩ := r.get hd
  refine ⟨⟨vs, v, hq, hv⟩, fun x H3 y => ?_⟩
  obtain ⟨rfl, y⟩ := y
  cases Option.some.inj ((y vs hq).symm.trans hv)
  exact ⟨M2, .rfl sub, rv.mono (hs _ _ kp)⟩
theorem rngD_len (lo : Int) (n : Nat) : (rngD lo n).length = n := by
  unfold rngD
  rw [List.length_map, List.length_range]
theorem src_rng {lo : Int} {n : Nat} {Kp : Hp → Hp → Prop} : SrcOk K (Itr lo n) (rngD lo n) Kp := by
  intro M2 H2 sub kp i
  refine ⟨fun d hd => ?_, fun h => by rw [rngD_len] at h; exact h⟩
  obtain ⟨hi, e⟩ := List.getElem?_eq_some_iff.mp hd
  have hi' : i < n := by rw [rngD_len] at hi; exact hi
  refine ⟨hi', fun x H3 y => ?_⟩
  obtain ⟨rfl, rfl⟩ := y
  refine ⟨M2, .rfl sub, ?_⟩
  have e2 : d = .int (lo + i) := by
    rw [← e]
    simp [rngD]
  rw [e2]
  exact .int _
/-- over a value that is only read (comprehensions) -/
theorem is_seqR {tg e : PySem.Expr} {m : Env → PV.M S PyData} (h : PE X e (TR X.K c m)) : PI X tg e (TId X c (KpR c.I) fun env => (do let ds ← (do let x ← m env; let xs ← (pure [] : PV.M S (List PyData)); pure (x :: xs)); ofO (srcD .seq ds))) := by
  refine (pi_seq h).wk fun pins s σ H R _ q => ?_
  obtain ⟨M, env, z, gd, q⟩ := q
  have q0 := After.bd (m := (do let x ← m env; let xs ← (pure [] : PV.M S (List PyData)); pure (x :: xs))) q
  refine ⟨M, env, z, gd, (After.bd (m := m env) q0).imp fun d s1 q1 v M1 H1 x1 r1 => ?_⟩
  obtain ⟨items, e1, q2⟩ := After.ofO (K := X.K) (I := c.I) (J := c.J) (W := c.W) (σ := σ) (M := M) (H := H) q1
  cases d <;> try exact nomatch (show (none : Option (List PyData)) = some items from e1)
  case list ds =>
    cases e1
    obtain ⟨a, vs, rfl, ha, ra⟩ := r1.lst x1.sub
    have hz : ¬ c.I.Z a := fun hz => by
      rcases r1 with r1 | ⟨_, _, _, _, e2, _, n, _⟩
      · cases r1 with
        | lst h _ =>
          rw [x1.z a hz] at h
          cases h
      · cases e2
        exact n hz
    exact ⟨a, rfl, .inl ⟨⟨vs, SqL.of ha⟩, q2 _ M1 H1 x1 (src_list ra (fun _ _ k => k.1) fun _ _ _ k => k.2 a _ ha hz)⟩⟩
  case tuple ds =>
    cases e1
    obtain ⟨a, vs, rfl, hm, hh, ra⟩ := r1.tup x1.sub
    exact ⟨a, rfl, .inr ⟨⟨vs, hh.sq⟩, q2 _ M1 H1 x1 (src_tup hm ra fun _ _ k => k.1)⟩⟩
/-- over a shared value (loops) -/
theorem is_seqV {tg e : PySem.Expr} {m : Env → PV.M S PyData} (h : PE X e (TV X.K c m)) : PI X tg e (TId X c KpV fun env => (do let ds ← (do let x ← m env; let xs ← (pure [] : PV.M S (List PyData)); pure (x :: xs)); ofO (srcD .seq ds))) := by
  refine (pi_seq h).wk fun pins s σ H R _ q => ?_
  obtain ⟨M, env, z, gd, q⟩ := q
  have q0 := After.bd (m := (do let x ← m env; let xs ← (pure [] : PV.M S (List PyData)); pure (x :: xs))) q
  refine ⟨M, env, z, gd, (After.bd (m := m env) q0).imp fun d s1 q1 v M1 H1 x1 r1 => ?_⟩
  obtain ⟨items, e1, q2⟩ := After.ofO (K := X.K) (I := c.I) (J := c.J) (W := c.W) (σ := σ) (M := M) (H := H) q1
  cases d <;> try exact nomatch (show (none : Option (List PyData)) = some items from e1)
  case list ds =>
    cases e1
    cases r1 with
    | @lst a vs _ ha ra => exact ⟨a, rfl, .inl ⟨⟨vs, SqL.of (x1.sub _ _ ha)⟩, q2 _ M1 H1 x1 (src_list ra (fun _ _ k => k) fun _ _ sub k => sub _ _ (k _ _ ha))⟩⟩
  case tuple ds =>
    cases e1
    cases r1 with
    | @tup a vs _ ha ra => exact ⟨a, rfl, .inr ⟨⟨vs, (ha.mono x1.sub).sq⟩, q2 _ M1 H1 x1 (src_tup ha ra fun _ _ k => k)⟩⟩
/-- over a range object under a name -/
theorem pi_rngO {tg e : PySem.Expr} {t : TE} (h : PE X e t) : PI X tg e (fun σ H R => t σ H fun x H1 => ∃ (a : Addr) (hi : Int), x = .ref a ∧ H1 a = some (.rng 0 hi) ∧ -(2 ^ 62) ≤ hi ∧ hi < 2 ^ 62 ∧ R (Itr 0 hi.toNat) H1) := by
  refine ⟨fun pins s σ H R i q => ?_⟩
  refine thn (h.run pins s σ H _ i q) fun v s1 ⟨x, H1, I1, r1, a, hi, ex, ha, b1, b2, q1⟩ => ?_
  subst ex
  cases r1
  obtain ⟨t0, u0, v0, ho⟩ := I1.hok a _ ha
  refine wpAny_pyIter_range (show IsRange s1.heap a 0 hi 1 t0 u0 v0 from ho) (small_one (by omega) (by omega) b1 b2) ?_
  refine ⟨s1.heap.objs.size, [s1.heap.objs.size], _, _, H1, rfl, I1.kept (t' := s1.toks) fun b o e => Heap.get?_push_of_some _ e, turn_range _ 0 hi.toNat, ?_, fun b hb => ?_, q1⟩
  · have e1 : (0 : Int) + ((0 : Nat) : Int) * 1 = 0 := by simp
    have e2 : ((hi.toNat : Nat) : Int) - ((0 : Nat) : Int) = Builtin.Range.rangeSize 0 hi 1 := by rw [rangeSize_one]; split <;> omega
    show IsRangeIter _ _ ((0 : Int) + ((0 : Nat) : Int) * 1) (((hi.toNat : Nat) : Int) - ((0 : Nat) : Int)) 1
    rw [e1, e2]
    exact Heap.get?_push_size _ rfl
  · cases (show b = s1.heap.objs.size by simpa using hb)
    exact I1.fpOk (Nat.le_refl _) (I1.hok.fresh (Nat.le_refl _))
theorem pi_rngV {tg : PySem.Expr} {i : Nat} {y : Str} {pos : Pos} (hN : X.N[i]? = some y) (hv : Vis X.env.scope y) (hd : (y == ("__debug__" : Str)) = false) (hcd : (y == ("__classdict__" : Str)) = false) {Kp : Hp → Hp → Hp → Hp → Prop} {m : Env → PV.M S (List PyData)} :
    PI X tg (.Name y pos) (TId X c Kp fun env => rvE .rv [.var i] env (m env)) := by
  refine (pi_rngO (pe_var hN hv hd hcd)).wk fun pins s σ H R _ q => ?_
  obtain ⟨M, env, z, gd, q⟩ := q
  cases e : env[i]? with
  | none =>
    simp only [rvE, e] at q
    exact (show False from q).elim
  | some w =>
    cases w with
    | rng n =>
      simp only [rvE, e] at q
      obtain ⟨ov, e1, a, rfl, ha⟩ := gd.sl i _ e
      obtain ⟨items, e2, q2⟩ := After.ofO (K := X.K) (I := c.I) (J := c.J) (W := c.W) (σ := σ) (M := M) (H := H) q
      replace e2 : (if n ≤ 16777216 ∧ -4611686018427387904 ≤ n then some (rngD 0 n.toNat) else none) = some items := e2
      split at e2
      · rename_i hn
        cases e2
        exact ⟨.ref a, e1, a, n, rfl, gd.ok.sub _ _ ha, by omega, by omega, q2 _ M H (.rfl gd.ok) src_rng⟩
      · cases e2
    | _ =>
      simp only [rvE, e] at q
      exact (show False from q).elim
theorem rng1_cases {ds items : List PyData} (e : srcD .rng1 ds = some items) : ∃ n : Int, ds = [.int n] ∧ n ≤ 16777216 ∧ -4611686018427387904 ≤ n ∧ items = rngD 0 n.toNat := by
  match ds, e with
  | [.int n], e =>
    replace e : (if n ≤ 16777216 ∧ -4611686018427387904 ≤ n then some (rngD 0 n.toNat) else none) = some items := e
    split at e
    · rename_i h
      cases e
      exact ⟨n, rfl, h.1, h.2, rfl⟩
    · cases e
  | [], e => exact nomatch (show (none : Option (List PyData)) = some items from e)
  | .none :: _, e => exact nomatch (show (none : Option (List PyData)) = some items from e)
  | .bool _ :: _, e => exact nomatch (show (none : Option (List PyData)) = some items from e)
  | .str _ :: _, e => exact nomatch (show (none : Option (List PyData)) = some items from e)
  | .list _ :: _, e => exact nomatch (show (none : Option (List PyData)) = some items from e)
  | .tuple _ :: _, e => exact nomatch (show (none : Option (List PyData)) = some items from e)
  | .dict _ :: _, e => exact nomatch (show (none : Option (List PyData)) = some items from e)
  | .int _ :: _ :: _, e => exact nomatch (show (none : Option (List PyData)) = some items from e)
theorem rng2_cases {ds items : List PyData} (e : srcD .rng2 ds = some items) : ∃ a b : Int, ds = [.int a, .int b] ∧ ((-4611686018427387904 ≤ a ∧ a < 4611686018427387904) ∧ (-4611686018427387904 ≤ b ∧ b < 4611686018427387904) ∧ b - a ≤ 16777216) ∧ items = rngD a (b - a).toNat := by
  have no : ∀ ds, (∀ a b : Int, ds ≠ [.int a, .int b]) → srcD .rng2 ds = none := fun ds h => by
    unfold srcD
    split <;> first
      | rfl
      | (rename_i q; cases q; done)
      | (rename_i q _; exact absurd rfl (h _ _))
  by_cases h : ∃ a b : Int, ds = [.int a, .int b]
  · obtain ⟨a, b, rfl⟩ := h
    replace e : (if (-4611686018427387904 ≤ a ∧ a < 4611686018427387904) ∧ (-4611686018427387904 ≤ b ∧ b < 4611686018427387904) ∧ b - a ≤ 16777216 then some (rngD a (b - a).toNat) else none) = some items := e
    split at e
    · rename_i h
      cases e
      exact ⟨a, b, rfl, h, rfl⟩
    · cases e
  · rw [no ds fun a b q => h ⟨a, b, q⟩] at e
    cases e
theorem is_rng1 {tg a : PySem.Expr} {p pos : Pos} {m : Env → PV.M S (List PyData)} {Kp : Hp → Hp → Hp → Hp → Prop} {P : Hp → Hp → List PyData → List V → Prop} (hg : Gl X "range") (hm : X.mg "range" = none) (ha : PA X [a] (TAd X.K c.I c.H0 c.M0 c.J c.W P m)) (hs : starEach [a] X.env = [(false, eval a X.env)])
    (hP : ∀ M' H' n vs, P M' H' [.int n] vs → vs = [.int n]) : PI X tg (.Call (.Name "range" p) [a] [] pos) (TId X c Kp fun env => (do let ds ← m env; ofO (srcD .rng1 ds))) := by
  refine (pi_range1 hg hm ha hs).wk fun pins s σ H R _ q => ?_
  obtain ⟨M, env, z, gd, q⟩ := q
  refine ⟨M, env, z, gd, (After.bd (m := m env) q).imp fun ds s1 q1 vs M1 H1 x1 r1 => ?_⟩
  obtain ⟨items, e1, q2⟩ := After.ofO q1
  obtain ⟨n, rfl, h1, h2, rfl⟩ := rng1_cases e1
  exact ⟨n, hP _ _ _ _ r1, by omega, by omega, q2 _ M1 H1 x1 src_rng⟩
theorem is_rng2 {tg a b : PySem.Expr} {p pos : Pos} {m : Env → PV.M S (List PyData)} {Kp : Hp → Hp → Hp → Hp → Prop} {P : Hp → Hp → List PyData → List V → Prop} (hg : Gl X "range") (hm : X.mg "range" = none) (ha : PA X [a, b] (TAd X.K c.I c.H0 c.M0 c.J c.W P m)) (hs : starEach [a, b] X.env = [(false, eval a X.env), (false, eval b X.env)]) (hs2 : starEach [b] X.env = [(false, eval b X.env)])
    (hP : ∀ M' H' n k vs, P M' H' [.int n, .int k] vs → vs = [.int n, .int k]) : PI X tg (.Call (.Name "range" p) [a, b] [] pos) (TId X c Kp fun env => (do let ds ← m env; ofO (srcD .rng2 ds))) := by
  refine (pi_range2 hg hm ha hs hs2).wk fun pins s σ H R _ q => ?_
  obtain ⟨M, env, z, gd, q⟩ := q
  refine ⟨M, env, z, gd, (After.bd (m := m env) q).imp fun ds s1 q1 vs M1 H1 x1 r1 => ?_⟩
  obtain ⟨items, e1, q2⟩ := After.ofO q1
  obtain ⟨n, k, rfl, ⟨⟨h1, h2⟩, ⟨h3, h4⟩, h5⟩, rfl⟩ := rng2_cases e1
  exact ⟨n, k, hP _ _ _ _ _ r1, ⟨by omega, by omega, by omega, by omega⟩, q2 _ M1 H1 x1 src_rng⟩

/-! ### comprehensions -/
theorem noX_ok {α : Type} {m : PV.M S α} {s s' : S} {a : α} (h : noX m s = .ok a s') : m s = .ok a s' := by
  unfold noX at h
  split at h
  · cases h
  · exact h
theorem noX_after {α : Type} {I : HI S} {J : XI} {W : WX} {σ : L2.St} {M H : Hp} {m : PV.M S α} {s : S} {Φ : α → S → Prop} (h : After K I J W σ M H (noX m s) Φ) : ∃ a s', m s = .ok a s' ∧ Φ a s' := by
  unfold noX at h
  cases e : m s with
  | ok a s' =>
    rw [e] at h
    exact ⟨a, s', rfl, h⟩
  | exn x p s' =>
    rw [e] at h
    exact (show False from h).elim
  | bad =>
    rw [e] at h
    exact (show False from h).elim
theorem bind_ok {α β : Type} {r : R S α} {f : α → S → R S β} {b : β} {s : S} (h : r.bind f = .ok b s) : ∃ a s1, r = .ok a s1 ∧ f a s1 = .ok b s := by
  cases r with
  | ok a s1 => exact ⟨a, s1, rfl, h⟩
  | exn x p s1 => cases h
  | bad => cases h
/-- an answer that is known, as what comes behind it -/
theorem After.of_ok {α : Type} {I : HI S} {J : XI} {W : WX} {σ : L2.St} {M H : Hp} {r : R S α} {a : α} {s : S} {Φ : α → S → Prop} (e : r = .ok a s) (h : Φ a s) : After K I J W σ M H r Φ := by
  rw [e]
  exact h
theorem lc_data {tg : Tg} {own : List (Str × Nat)} {ms : Env → PV.M S (List PyData)} {mi : Env → PV.M S Bool} {me : Env → PV.M S PyData} (htg : ∀ i ∈ tgSlots tg, i ∈ own.map (·.2)) {σ : L2.St} {H : Hp} {Q : VK}
    (q : TF X.K c (fun env => (do let items ← ms env; lenE items; let out ← noX (filtM (turnM tg (own.map (·.2)) mi me env) items); pure (.list out))) σ H Q) :
    tLc (TId X c (KpR c.I) ms) (TGd X.K c tg) (TB X.K c.noW mi) (TV X.K c.noW me) (own.map (·.2)) σ H Q := by
  obtain ⟨M, env, z, gd, q⟩ := q
  refine ⟨M, env, z, gd, (After.bd (m := ms env) q).imp fun items s1 q1 J M1 H1 x1 src D hD => ?_⟩
  obtain ⟨hlen, q2⟩ := lenE_ok (After.bd (m := lenE items) q1)
  obtain ⟨total, sE, eT, q3⟩ := noX_after (After.bd (m := noX (filtM (turnM tg (own.map (·.2)) mi me env) items)) q2)
  have gd1 := gd.ext x1
  have hDz : ¬ c.I.Z D := fun hz => c.I.zt s1 H1 D x1.hp hz hD
  have hDH : H D = none := fresh_back x1 hD
  -- how far the walk has come
  refine ⟨fun i m H2 => m = items.length - i ∧ i ≤ items.length ∧ ∃ M2 s2 out acc tail, Ext c.I M1 H1 M2 H2 s2 ∧ H2 D = some (.lst acc) ∧ M2 D = none ∧ RpA X.K M2 out acc ∧ out.length ≤ i ∧
      filtM (turnM tg (own.map (·.2)) mi me env) (items.drop i) s2 = .ok tail sE ∧ total = out ++ tail,
    ⟨items.length, rfl, Nat.zero_le _, M1, s1, [], [], total, (Ext0.own x1.sub hD).ext x1.ok, upd_same, x1.sub.free hD, .nil, Nat.le_refl _, eT, rfl⟩, fun i m H2 hW => ?_⟩
  obtain ⟨rfl, hi, M2, s2, out, acc, tail, x2, hD2, mD2, ra, ho, eF, etot⟩ := hW
  have k2 : KpR c.I M1 H1 M2 H2 := ⟨x2.mm x1.ok, x2.h⟩
  obtain ⟨hgo, hstop⟩ := src M2 H2 x2.sub k2 i
  by_cases hlt : i < items.length
  · have ed : items[i]? = some items[i] := List.getElem?_eq_getElem hlt
    obtain ⟨hg, hy⟩ := hgo _ ed
    rw [List.drop_eq_getElem_cons hlt] at eF
    obtain ⟨oy, s3, e3, eF⟩ := bind_ok (show ((turnM tg (own.map (·.2)) mi me env items[i] s2).bind fun y s' => (do let ys ← filtM (turnM tg (own.map (·.2)) mi me env) (items.drop (i + 1)); pure (pushO y ys) : PV.M S (List PyData)) s') = .ok tail sE from eF)
    obtain ⟨ys, s4, e4, eF⟩ := bind_ok (show ((filtM (turnM tg (own.map (·.2)) mi me env) (items.drop (i + 1)) s3).bind fun ys s' => .ok (pushO oy ys) s') = .ok tail sE from eF)
    cases eF
    obtain ⟨env1, s5, e5, e6⟩ := bind_ok (show ((ofO (setTg tg items[i] (wipeE env (own.map (·.2)))) : PV.M S Env) s2).bind (fun env' s' => (do let b ← mi env'; turnK (me env') b : PV.M S (Option PyData)) s') = .ok oy s3 from e3)
    have e5' : setTg tg items[i] (wipeE env (own.map (·.2))) = some env1 ∧ s5 = s2 := by
      cases es : setTg tg items[i] (wipeE env (own.map (·.2))) with
      | none =>
        rw [es] at e5
        cases e5
      | some w =>
        rw [es] at e5
        cases e5
        exact ⟨rfl, rfl⟩
    obtain ⟨e5a, rfl⟩ := e5'
    obtain ⟨b, s6, e7, e8⟩ := bind_ok (show ((mi env1 s5).bind fun b s' => turnK (me env1) b s') = .ok oy s3 from e6)
    refine .inr ⟨hg, fun H' => ∃ M2 s2 out acc tail, Ext c.I M1 H1 M2 H' s2 ∧ H' D = some (.lst acc) ∧ M2 D = none ∧ RpA X.K M2 out acc ∧ out.length ≤ i + 1 ∧ filtM (turnM tg (own.map (·.2)) mi me env) (items.drop (i + 1)) s2 = .ok tail sE ∧ total = out ++ tail,
      fun H' hN => ⟨_, by omega, rfl, hlt, hN⟩, fun x H' hyl => ?_⟩
    obtain ⟨M3, x3, r3⟩ := hy x H' hyl
    have x3' := x3.ext x2.ok
    have x23 := Ext.trans x1.ok x2 x3'
    have hD3 : H' D = some (.lst acc) := x3.h D _ hD2
    have mD3 : M3 D = none := by
      rw [x3.m D (by rw [hD2]; exact fun z => nomatch z)]
      exact mD2
    refine ⟨M3, wipeE env (own.map (·.2)), s5, items[i], env1, (gd1.ext x23).wipe _, r3, e5a, fun σ' g' hw => ⟨?_, M3, env1, s5, g', ?_⟩⟩
    · rw [hw _ htg]
      exact wipe_wipe _ _ fun _ h => h
    · refine After.of_ok e7 fun M4 H4 x4 => ?_
      have x24 := Ext.trans x1.ok x23 x4
      have hD4 : H4 D = some (.lst acc) := x4.h D _ hD3 hDz
      have mD4 : M4 D = none := by
        rw [x4.m D (by rw [hD3]; exact fun z => nomatch z)]
        exact mD3
      cases b with
      | false =>
        refine iteF ?_
        cases e8
        exact ⟨M4, s3, out, acc, ys, x24, hD4, mD4, RpA.mono ((x3'.mm x2.ok).trans (x4.mm x3'.ok)) ra, Nat.le_succ_of_le ho, e4, etot⟩
      | true =>
        refine iteT ?_
        obtain ⟨y, s7, e9, e10⟩ := bind_ok (show ((me env1 s6).bind fun y s' => .ok (some y) s') = .ok oy s3 from e8)
        cases e10
        refine ⟨M4, env1, s6, g'.ext x4, After.of_ok e9 fun v M5 H5 x5 r5 => ?_⟩
        have x25 := Ext.trans x1.ok x24 x5
        have hD5 : H5 D = some (.lst acc) := x5.h D _ hD4 hDz
        have mD5 : M5 D = none := by
          rw [x5.m D (by rw [hD4]; exact fun z => nomatch z)]
          exact mD4
        have rm : RpA X.K M5 out acc := RpA.mono (((x3'.mm x2.ok).trans (x4.mm x3'.ok)).trans (x5.mm x4.ok)) ra
        refine ⟨acc, hD5, ?_, M5, s3, out ++ [y], acc ++ [v], ys, ⟨fun a o e => ?_, x25.m, fun a o e n => ?_, x25.z, c.I.hpf _ _ _ x25.hp fun a hz => upd_ne fun w => hDz (w ▸ hz)⟩, upd_same, mD5, rm.app (.cons r5 .nil), ?_, e4, ?_⟩
        · rw [rm.len]
          omega
        · rw [upd_ne fun w => by
            rw [w, mD5] at e
            cases e]
          exact x25.sub a o e
        · rw [upd_ne fun w => by
            rw [w, hD] at e
            cases e]
          exact x25.h a o e n
        · rw [List.length_append]
          exact Nat.succ_le_succ ho
        · rw [etot, List.append_assoc]
          rfl
  · have ei : i = items.length := by omega
    subst ei
    rw [List.drop_of_length_le (Nat.le_refl _)] at eF
    cases eF
    refine .inl ⟨hstop (Nat.le_refl _), ?_⟩
    rw [etot, List.append_nil] at q3
    exact q3 _ M2 H2 (Ext.trans gd.ok x1 x2) ⟨D, acc, rfl, hDH, hD2, mD2, ra⟩
/-! ### two for -/
theorem flat_cons {α β : Type} {f : α → PV.M S (List β)} {x : α} {r : List α} {s s' : S} {out : List β} (h : flatM f (x :: r) s = .ok out s') : ∃ ys zs s1, f x s = .ok ys s1 ∧ flatM f r s1 = .ok zs s' ∧ out = ys ++ zs := by
  obtain ⟨ys, s1, e1, h⟩ := bind_ok (show ((f x s).bind fun ys s' => (do let zs ← flatM f r; pure (ys ++ zs) : PV.M S (List β)) s') = .ok out s' from h)
  obtain ⟨zs, s2, e2, h⟩ := bind_ok (show ((flatM f r s1).bind fun zs s' => .ok (ys ++ zs) s') = .ok out s' from h)
  cases h
  exact ⟨ys, zs, s1, e1, e2, rfl⟩
theorem filt_cons {α β : Type} {f : α → PV.M S (Option β)} {x : α} {r : List α} {s s' : S} {out : List β} (h : filtM f (x :: r) s = .ok out s') : ∃ oy ys s1, f x s = .ok oy s1 ∧ filtM f r s1 = .ok ys s' ∧ out = pushO oy ys := by
  obtain ⟨oy, s1, e1, h⟩ := bind_ok (show ((f x s).bind fun y s' => (do let ys ← filtM f r; pure (pushO y ys) : PV.M S (List β)) s') = .ok out s' from h)
  obtain ⟨ys, s2, e2, h⟩ := bind_ok (show ((filtM f r s1).bind fun ys s' => .ok (pushO oy ys) s') = .ok out s' from h)
  cases h
  exact ⟨oy, ys, s1, e1, e2, rfl⟩
theorem ofO_ok {α : Type} {o : Option α} {a : α} {s s' : S} (h : (PV.ofO o : PV.M S α) s = .ok a s') : o = some a ∧ s' = s := by
  cases o with
  | none => cases h
  | some w =>
    cases h
    exact ⟨rfl, rfl⟩
theorem noOwn_get {env : Env} (h : noOwn env = true) {i : Nat} {xs : List PyData} : env[i]? ≠ some (.own xs) := fun e => by
  have := List.all_eq_true.mp h _ (List.mem_of_getElem? e)
  cases this
theorem noOwn_set {env : Env} (h : noOwn env = true) {i : Nat} {y : Sl} (hy : ownB y = false) : noOwn (env.set i y) = true := by
  refine List.all_eq_true.mpr fun x hx => ?_
  rcases List.mem_or_eq_of_mem_set hx with q | q
  · exact List.all_eq_true.mp h _ q
  · rw [q, hy]
    rfl
theorem noOwn_wipe {env : Env} (h : noOwn env = true) : ∀ vs : List Nat, noOwn (wipeE env vs) = true
  | [] => h
  | v :: vs => noOwn_set (noOwn_wipe h vs) rfl
theorem noOwn_slots : ∀ {is : List Nat} {ds : List PyData} {env env' : Env}, noOwn env = true → setSlots is ds env = some env' → noOwn env' = true
  | [], [], _, _, h, e => by
    cases e
    exact h
  | [], _ :: _, _, _, _, e => nomatch e
  | _ :: _, [], _, _, _, e => nomatch e
  | i :: is, d :: ds, env, env', h, e => by
    replace e : (if i < env.length then setSlots is ds (env.set i (.v d)) else none) = some env' := e
    split at e
    · exact noOwn_slots (noOwn_set h rfl) e
    · cases e
theorem noOwn_tg {tg : Tg} {d : PyData} {env env' : Env} (h : noOwn env = true) (e : setTg tg d env = some env') : noOwn env' = true := by
  cases tg with
  | nm i =>
    replace e : (if i < env.length then some (env.set i (.v d)) else none) = some env' := e
    split at e
    · cases e
      exact noOwn_set h rfl
    · cases e
  | tup is =>
    cases d <;> try exact nomatch (show (none : Option Env) = some env' from e)
    · exact noOwn_slots h e
    · exact noOwn_slots h e
theorem Gd.keep {K : PySem.W.Frag} {I : HI S} {H0 M0 M H M' H' : Hp} {σ : List (Option V)} {env : Env} {s s' : S} (g : Gd K I H0 M0 M H σ env s) (hn : noOwn env = true) (ok : Ok I M' H' s') (mm : Same M M') (m0 : ∀ a, H0 a ≠ none → M' a = M0 a) (h0 : ∀ a o, H0 a = some o → ¬ I.Z a → H' a = some o) :
    Gd K I H0 M0 M' H' σ env s' := by
  refine ⟨ok, m0, h0, g.len, fun i y e => ?_, g.sep⟩
  obtain ⟨ov, h1, h2⟩ := g.sl i y e
  refine ⟨ov, h1, ?_⟩
  cases y with
  | no => trivial
  | v d =>
    obtain ⟨v, e1, r⟩ := h2
    exact ⟨v, e1, Rp.mono mm r⟩
  | own ds => exact absurd e (noOwn_get hn)
  | hand => exact h2
  | rng n =>
    obtain ⟨a, e1, e2⟩ := h2
    exact ⟨a, e1, mm _ _ e2⟩
theorem lc2_data {tg tg2 : Tg} {own : List (Str × Nat)} {slots2 : List Nat} {ms ms2 : Env → PV.M S (List PyData)} {mi : Env → PV.M S Bool} {me : Env → PV.M S PyData} (htg : ∀ i ∈ tgSlots tg, i ∈ own.map (·.2)) (htg2 : ∀ i ∈ tgSlots tg2, i ∈ slots2) {σ : L2.St} {H : Hp} {Q : VK}
    (q : TF X.K c (fun env => match noOwn env with | true => (do let items ← ms env; let out ← noX (flatM (turn2 tg (own.map (·.2)) ms2 tg2 slots2 mi me env) items); lenE out; pure (.list out)) | false => bad) σ H Q) :
    tLc2 (TId X c (KpR c.I) ms) (TGd X.K c tg) (TB X.K c.noW (fun _ => pure true)) (TId X c.noW KpV ms2) (TGd X.K c tg2) (TB X.K c.noW mi) (TV X.K c.noW me) (own.map (·.2)) slots2 σ H Q := by
  obtain ⟨M, env, z, gd, q⟩ := q
  dsimp only at q
  cases hno : noOwn env with
  | false =>
    rw [hno] at q
    exact (show False from q).elim
  | true =>
  rw [hno] at q
  refine ⟨M, env, z, gd, (After.bd (m := ms env) q).imp fun items s1 q1 J M1 H1 x1 src D hD => ?_⟩
  obtain ⟨total, sE, eT, q2⟩ := noX_after (After.bd (m := noX (flatM (turn2 tg (own.map (·.2)) ms2 tg2 slots2 mi me env) items)) q1)
  obtain ⟨hlen, q3⟩ := lenE_ok (After.bd (m := lenE total) q2)
  have gd1 := gd.ext x1
  have hDz : ¬ c.I.Z D := fun hz => c.I.zt s1 H1 D x1.hp hz hD
  have hDH : H D = none := fresh_back x1 hD
  refine ⟨fun i m H2 => m = items.length - i ∧ i ≤ items.length ∧ ∃ M2 s2 out acc tail, Ext c.I M1 H1 M2 H2 s2 ∧ H2 D = some (.lst acc) ∧ M2 D = none ∧ RpA X.K M2 out acc ∧
      flatM (turn2 tg (own.map (·.2)) ms2 tg2 slots2 mi me env) (items.drop i) s2 = .ok tail sE ∧ total = out ++ tail,
    ⟨items.length, rfl, Nat.zero_le _, M1, s1, [], [], total, (Ext0.own x1.sub hD).ext x1.ok, upd_same, x1.sub.free hD, .nil, eT, rfl⟩, fun i m H2 hW => ?_⟩
  obtain ⟨rfl, hi, M2, s2, out, acc, tail, x2, hD2, mD2, ra, eF, etot⟩ := hW
  have k2 : KpR c.I M1 H1 M2 H2 := ⟨x2.mm x1.ok, x2.h⟩
  obtain ⟨hgo, hstop⟩ := src M2 H2 x2.sub k2 i
  by_cases hlt : i < items.length
  · have ed : items[i]? = some items[i] := List.getElem?_eq_getElem hlt
    obtain ⟨hg, hy⟩ := hgo _ ed
    rw [List.drop_eq_getElem_cons hlt] at eF
    obtain ⟨ys, zs, s3, e3, e4, rfl⟩ := flat_cons eF
    obtain ⟨env1, s5, e5, e6⟩ := bind_ok (show ((ofO (setTg tg items[i] (wipeE env (own.map (·.2)))) : PV.M S Env) s2).bind (fun env' s' => (do let items2 ← ms2 env'; filtM (turnM tg2 slots2 mi me env') items2 : PV.M S (List PyData)) s') = .ok ys s3 from e3)
    obtain ⟨e5a, rfl⟩ := ofO_ok e5
    have hn1 : noOwn env1 = true := noOwn_tg (noOwn_wipe hno _) e5a
    obtain ⟨items2, s6, e7, e8⟩ := bind_ok (show ((ms2 env1 s5).bind fun items2 s' => filtM (turnM tg2 slots2 mi me env1) items2 s') = .ok ys s3 from e6)
    refine .inr ⟨hg, fun H' => ∃ M2 s2 out acc tail, Ext c.I M1 H1 M2 H' s2 ∧ H' D = some (.lst acc) ∧ M2 D = none ∧ RpA X.K M2 out acc ∧ flatM (turn2 tg (own.map (·.2)) ms2 tg2 slots2 mi me env) (items.drop (i + 1)) s2 = .ok tail sE ∧ total = out ++ tail,
      fun H' hN => ⟨_, by omega, rfl, hlt, hN⟩, fun x H' hyl => ?_⟩
    obtain ⟨M3, x3, r3⟩ := hy x H' hyl
    have x3' := x3.ext x2.ok
    have x23 := Ext.trans x1.ok x2 x3'
    have hD3 : H' D = some (.lst acc) := x3.h D _ hD2
    have mD3 : M3 D = none := by
      rw [x3.m D (by rw [hD2]; exact fun z => nomatch z)]
      exact mD2
    refine ⟨M3, wipeE env (own.map (·.2)), s5, items[i], env1, (gd1.ext x23).wipe _, r3, e5a, fun σ' g' hw => ⟨?_, M3, env1, s5, g', ?_⟩⟩
    · rw [hw _ htg]
      exact wipe_wipe _ _ fun _ h => h
    · refine After.of_ok (a := true) (s := s5) rfl fun M4 H4 x4 => ?_
      have x24 := Ext.trans x1.ok x23 x4
      have hD4 : H4 D = some (.lst acc) := x4.h D _ hD3 hDz
      have mD4 : M4 D = none := by
        rw [x4.m D (by rw [hD3]; exact fun z => nomatch z)]
        exact mD3
      have g4 := g'.ext x4
      refine iteT ⟨M4, env1, s5, g4, After.of_ok e7 fun J1 M5 H5 x5 src2 => ?_⟩
      have x25 := Ext.trans x1.ok x24 x5
      have hD5 : H5 D = some (.lst acc) := x5.h D _ hD4 hDz
      have mD5 : M5 D = none := by
        rw [x5.m D (by rw [hD4]; exact fun z => nomatch z)]
        exact mD4
      have g5 := g4.ext x5
      have rm5 : RpA X.K M5 out acc := RpA.mono (((x3'.mm x2.ok).trans (x4.mm x3'.ok)).trans (x5.mm x4.ok)) ra
      refine ⟨fun j k H6 => k = items2.length - j ∧ j ≤ items2.length ∧ ∃ M6 s7 out2 acc2 tail2, Ext c.I M1 H1 M6 H6 s7 ∧ Same M5 M6 ∧ H6 D = some (.lst acc2) ∧ M6 D = none ∧ RpA X.K M6 out2 acc2 ∧ filtM (turnM tg2 slots2 mi me env1) (items2.drop j) s7 = .ok tail2 s3 ∧ total = out2 ++ (tail2 ++ zs),
        ⟨items2.length, rfl, Nat.zero_le _, M5, s6, out, acc, ys, x25, Same.refl _, hD5, mD5, rm5, e8, etot⟩, fun j k H6 hW1 => ?_⟩
      obtain ⟨rfl, hj, M6, s7, out2, acc2, tail2, x6, k6, hD6, mD6, ra6, eF2, etot2⟩ := hW1
      obtain ⟨hgo2, hstop2⟩ := src2 M6 H6 x6.sub k6 j
      have gq : Gd X.K c.I c.H0 c.M0 M6 H6 _ env1 s7 := g5.keep hn1 x6.ok k6 (gd1.ext x6).m0 (gd1.ext x6).h0
      by_cases hlt2 : j < items2.length
      · obtain ⟨hg2, hy2⟩ := hgo2 _ (List.getElem?_eq_getElem hlt2)
        rw [List.drop_eq_getElem_cons hlt2] at eF2
        obtain ⟨oy, ys2, s8, f3, f4, rfl⟩ := filt_cons eF2
        obtain ⟨env2, s9, f5, f6⟩ := bind_ok (show ((ofO (setTg tg2 items2[j] (wipeE env1 slots2)) : PV.M S Env) s7).bind (fun env' s' => (do let b ← mi env'; turnK (me env') b : PV.M S (Option PyData)) s') = .ok oy s8 from f3)
        obtain ⟨f5a, rfl⟩ := ofO_ok f5
        obtain ⟨b, s10, f7, f8⟩ := bind_ok (show ((mi env2 s9).bind fun b s' => turnK (me env2) b s') = .ok oy s8 from f6)
        refine .inr ⟨hg2, fun H' => ∃ M6 s7 out2 acc2 tail2, Ext c.I M1 H1 M6 H' s7 ∧ Same M5 M6 ∧ H' D = some (.lst acc2) ∧ M6 D = none ∧ RpA X.K M6 out2 acc2 ∧ filtM (turnM tg2 slots2 mi me env1) (items2.drop (j + 1)) s7 = .ok tail2 s3 ∧ total = out2 ++ (tail2 ++ zs),
          fun H' hN => ⟨_, by omega, rfl, hlt2, hN⟩, fun x' H7 hyl2 => ?_⟩
        obtain ⟨M7, x7, r7⟩ := hy2 x' H7 hyl2
        have x7' := x7.ext x6.ok
        have x57 := Ext.trans x1.ok x6 x7'
        have k7 : Same M5 M7 := k6.trans (x7'.mm x6.ok)
        have hD7 : H7 D = some (.lst acc2) := x7.h D _ hD6
        have mD7 : M7 D = none := by
          rw [x7.m D (by rw [hD6]; exact fun z => nomatch z)]
          exact mD6
        refine ⟨M7, wipeE env1 slots2, s9, items2[j], env2, ((gq.ext x7')).wipe _, r7, f5a, fun σ3 g7 hw2 => ⟨?_, M7, env2, s9, g7, ?_⟩⟩
        · rw [hw2 _ htg2]
          exact wipe_wipe _ _ fun _ h => h
        · refine After.of_ok f7 fun M8 H8 x8 => ?_
          have x58 := Ext.trans x1.ok x57 x8
          have k8 : Same M5 M8 := k7.trans (x8.mm x7'.ok)
          have hD8 : H8 D = some (.lst acc2) := x8.h D _ hD7 hDz
          have mD8 : M8 D = none := by
            rw [x8.m D (by rw [hD7]; exact fun z => nomatch z)]
            exact mD7
          cases b with
          | false =>
            refine iteF ?_
            cases f8
            exact ⟨M8, s8, out2, acc2, ys2, x58, k8, hD8, mD8, RpA.mono ((x7'.mm x6.ok).trans (x8.mm x7'.ok)) ra6, f4, etot2⟩
          | true =>
            refine iteT ?_
            obtain ⟨y, s11, f9, f10⟩ := bind_ok (show ((me env2 s10).bind fun y s' => .ok (some y) s') = .ok oy s8 from f8)
            cases f10
            refine ⟨M8, env2, s10, g7.ext x8, After.of_ok f9 fun v M9 H9 x9 r9 => ?_⟩
            have x59 := Ext.trans x1.ok x58 x9
            have hD9 : H9 D = some (.lst acc2) := x9.h D _ hD8 hDz
            have mD9 : M9 D = none := by
              rw [x9.m D (by rw [hD8]; exact fun z => nomatch z)]
              exact mD8
            have rm : RpA X.K M9 out2 acc2 := RpA.mono (((x7'.mm x6.ok).trans (x8.mm x7'.ok)).trans (x9.mm x8.ok)) ra6
            refine ⟨acc2, hD9, ?_, M9, s8, out2 ++ [y], acc2 ++ [v], ys2, ⟨fun a o e => ?_, x59.m, fun a o e n => ?_, x59.z, c.I.hpf _ _ _ x59.hp fun a hz => upd_ne fun w => hDz (w ▸ hz)⟩, k8.trans (x9.mm x8.ok), upd_same, mD9, rm.app (.cons r9 .nil), f4, ?_⟩
            · rw [rm.len]
              have := congrArg List.length etot2
              simp only [pushO, List.length_append, List.length_cons] at this
              omega
            · rw [upd_ne fun w => by
                rw [w, mD9] at e
                cases e]
              exact x59.sub a o e
            · rw [upd_ne fun w => by
                rw [w, hD] at e
                cases e]
              exact x59.h a o e n
            · rw [etot2, List.append_assoc]
              rfl
      · have ej : j = items2.length := by omega
        subst ej
        rw [List.drop_of_length_le (Nat.le_refl _)] at eF2
        cases eF2
        exact .inl ⟨hstop2 (Nat.le_refl _), M6, s3, out2, acc2, zs, x6, hD6, mD6, ra6, e4, etot2⟩
  · have ei : i = items.length := by omega
    subst ei
    rw [List.drop_of_length_le (Nat.le_refl _)] at eF
    cases eF
    refine .inl ⟨hstop (Nat.le_refl _), ?_⟩
    rw [etot, List.append_nil] at q3
    exact q3 _ M2 H2 (Ext.trans gd.ok x1 x2) ⟨D, acc, rfl, hDH, hD2, mD2, ra⟩
end
end PV
set_option Elab.async false
set_option linter.all false
set_option maxRecDepth 100000
set_option maxHeartbeats 4000000
/-! PV: a comprehension with three for (no tests), clause by clause. -/
namespace PV
open PySem PySem.Spec PyProof.Rows L2
section
variable {prog : Program} {w : World} {A : Around}
abbrev Never : Value → Shared → Prop := fun _ _ => False
abbrev cm (b c d : PySem.Expr × PySem.Expr) (elt : PySem.Expr) (scope : Scope) (pos : Pos) : PySem.Expr := .ListComp elt [⟨b.1, b.2, [], 0⟩, ⟨c.1, c.2, [], 0⟩, ⟨d.1, d.2, [], 0⟩] scope pos
/-- what a clause that has another one within does at a turn -/
def TurnM (e : PySem.Expr) (k : Nat) (b c : PySem.Expr × PySem.Expr) : Prop := ∀ (jt list : Value) (ev : PySem.Env), compTurn e k jt list ev = (standAt b.2.pos >>= fun _ => pyNext jt >>= fun r => match r with
  | none => pure (.done .next)
  | some v => letOwnedTupleGo b.1 jt v >>= fun _ => assign b.1 ev v >>= fun _ => eval c.2 ev >>= fun x => standAt c.2.pos >>= fun _ => foldedSetIterable c.2 ev x >>= fun x =>
    holding [x] (pyIter x) >>= fun jt1 => runOwn (.compStart e (k + 1) jt1 list ev) ev >>= fun _ => again (.compLoop e k jt list ev))
theorem turn_0 {b c d : PySem.Expr × PySem.Expr} {elt : PySem.Expr} {scope : Scope} {pos : Pos} : TurnM (cm b c d elt scope pos) 0 b c := fun _ _ _ => rfl
theorem turn_1 {b c d : PySem.Expr × PySem.Expr} {elt : PySem.Expr} {scope : Scope} {pos : Pos} : TurnM (cm b c d elt scope pos) 1 c d := fun _ _ _ => rfl
/-- the way of a clause's loop, Bd what stands behind the store -/
def Way (prog : Program) (w : World) (A : Around) (e : PySem.Expr) (k : Nat) (tg : PySem.Expr) (list : Value) (ev : PySem.Env) (Bd : (Shared → Prop) → Shared → Prop) : Prop :=
  ∀ (R : Result → Shared → Prop) (jt : Value) (Go : Nat → Shared → Prop),
    (∀ n z, Go n z → wpAny (model prog w) A (pyNext jt) (fun r z1 => match r with
      | none => R (.ok .next) z1
      | some v => wpAny (model prog w) A (letOwnedTupleGo tg jt v) (fun _ z2 => wpAny (model prog w) A (assign tg ev v) (fun _ z3 => Bd (fun z4 => ∃ m, m < n ∧ Go m z4) z3) Never z2) Never z1) Never z) →
    ∀ n z, Go n z → codeAny (model prog w) A (.compLoop e k jt list ev) R z
def BdM (prog : Program) (w : World) (A : Around) (e : PySem.Expr) (k : Nat) (src : PySem.Expr) (list : Value) (ev : PySem.Env) (P : Shared → Prop) (z : Shared) : Prop :=
  wpAny (model prog w) A (eval src ev) (fun x z1 => wpAny (model prog w) A (pyIter x) (fun jt z2 => codeAny (model prog w) A (.compStart e (k + 1) jt list ev) (fun r z3 => match r with
    | .ok _ => P z3
    | .error _ => False) z2) Never z1) Never z
def BdE (prog : Program) (w : World) (A : Around) (elt : PySem.Expr) (list : Value) (ev : PySem.Env) (P : Shared → Prop) (z : Shared) : Prop :=
  wpAny (model prog w) A (eval elt ev) (fun x z1 => wpAny (model prog w) A (call (.builtin "list.append") [list, x]) (fun _ z2 => P z2) Never z1) Never z
theorem way_m {b0 c0 d0 : PySem.Expr × PySem.Expr} {elt : PySem.Expr} {scope : Scope} {pos : Pos} {k : Nat} {b c : PySem.Expr × PySem.Expr} {list : Value} {ev : PySem.Env} (ht : TurnM (cm b0 c0 d0 elt scope pos) k b c) (hs : ∀ x, foldedSetIterable c.2 ev x = pure x) : Way prog w A (cm b0 c0 d0 elt scope pos) k b.1 list ev (BdM prog w A (cm b0 c0 d0 elt scope pos) k c.2 list ev) := by
  intro R jt Go turn n z h
  refine codeAny_loop rfl Go (fun n z hI => ?_) n h
  show wpAny _ A ((compTurn (cm b0 c0 d0 elt scope pos) k jt list ev).onRaise (fun x => do noteFrame x ev; theTreesLotGoes x)) _ _ z
  refine wpAny_noted ?_
  rw [ht]
  refine wpAny_bind (wpAny_standAt (wpAny_bind (wpAny_mono (turn n z hI) (fun r z1 h1 => ?_) fun _ _ h' => h'.elim)))
  cases r with
  | none => exact wpAny_pure h1
  | some v =>
    refine wpAny_bind (wpAny_mono h1 (fun _ z2 h2 => wpAny_bind (wpAny_mono h2 (fun _ z3 h3 => ?_) fun _ _ h' => h'.elim)) fun _ _ h' => h'.elim)
    refine wpAny_bind (wpAny_mono h3 (fun x z4 h4 => ?_) fun _ _ h' => h'.elim)
    refine wpAny_bind (wpAny_standAt (wpAny_bind (wpAny_of_eq (hs x) (wpAny_bind (wpAny_holding (wpAny_mono h4 (fun j1 z5 h5 => ?_) fun _ _ h' => h'.elim))))))
    refine wpAny_bind (wpAny_runOwn ?_)
    rw [Around.mark_none]
    refine codeAny_mono h5 fun r z6 hr => ?_
    cases r with
    | ok f => exact wpAny_pure ⟨rfl, hr⟩
    | error x => exact hr.elim
theorem way_e {b c d : PySem.Expr × PySem.Expr} {elt : PySem.Expr} {scope : Scope} {pos : Pos} {list : Value} {ev : PySem.Env} : Way prog w A (cm b c d elt scope pos) 2 d.1 list ev (BdE prog w A elt list ev) := by
  intro R jt Go turn n z h
  refine codeAny_loop rfl Go (fun n z hI => ?_) n h
  show wpAny _ A ((compTurn (cm b c d elt scope pos) 2 jt list ev).onRaise (fun x => do noteFrame x ev; theTreesLotGoes x)) _ _ z
  refine wpAny_noted ?_
  have ht : compTurn (cm b c d elt scope pos) 2 jt list ev = (standAt d.2.pos >>= fun _ => pyNext jt >>= fun r => match r with
      | none => pure (.done .next)
      | some v => letOwnedTupleGo d.1 jt v >>= fun _ => assign d.1 ev v >>= fun _ => (eval elt ev >>= fun x => call (.builtin "list.append") [list, x] >>= fun _ => pure ()) >>= fun _ => again (.compLoop (cm b c d elt scope pos) 2 jt list ev)) := rfl
  rw [ht]
  refine wpAny_bind (wpAny_standAt (wpAny_bind (wpAny_mono (turn n z hI) (fun r z1 h1 => ?_) fun _ _ h' => h'.elim)))
  cases r with
  | none => exact wpAny_pure h1
  | some v =>
    refine wpAny_bind (wpAny_mono h1 (fun _ z2 h2 => wpAny_bind (wpAny_mono h2 (fun _ z3 h3 => ?_) fun _ _ h' => h'.elim)) fun _ _ h' => h'.elim)
    exact wpAny_bind (wpAny_bind (wpAny_mono h3 (fun x z4 h4 => wpAny_bind (wpAny_mono h4 (fun _ z5 h5 => wpAny_pure (wpAny_pure ⟨rfl, h5⟩)) fun _ _ h' => h'.elim)) fun _ _ h' => h'.elim))
/-- a later clause's start -/
def StartM (prog : Program) (w : World) (A : Around) (e : PySem.Expr) (k : Nat) : Prop := ∀ (R : Result → Shared → Prop) (jt list : Value) (ev : PySem.Env) (z : Shared), codeAny (model prog w) A (.compLoop e k jt list ev) R z →
  wpAny (model prog w) A (pyIter jt) (fun j1 z1 => codeAny (model prog w) A (.compLoop e k j1 list ev) R z1) (notedBy (model prog w) A ev fun x z1 => R (.error x) z1) z → codeAny (model prog w) A (.compStart e k jt list ev) R z
theorem start_m {b0 c0 d0 : PySem.Expr × PySem.Expr} {elt : PySem.Expr} {scope : Scope} {pos : Pos} {k : Nat} {src : PySem.Expr} (hk : ∀ (jt list : Value) (ev : PySem.Env), compStart (cm b0 c0 d0 elt scope pos) k jt list ev = (ask >>= fun st => if st.params.followText "comprehension-iter-twice" = true then (again (.compLoop (cm b0 c0 d0 elt scope pos) k jt list ev) >>= fun r => pure r) else rule "comprehension.iter-twice" >>= fun _ => standAt src.pos >>= fun _ => pyIter jt >>= fun j1 => again (.compLoop (cm b0 c0 d0 elt scope pos) k j1 list ev))) : StartM prog w A (cm b0 c0 d0 elt scope pos) k := by
  intro R jt list ev z h0 h1
  refine codeAny_of_tree ?_
  show wpAny _ _ ((compStart (cm b0 c0 d0 elt scope pos) k jt list ev).onRaise (fun x => do noteFrame x ev; standAt theWindowsPlace)) _ _ z
  refine wpAny_notedAt ?_
  rw [hk]
  refine wpAny_bind (wpAny_askSetting (wpAny_ite ?_))
  split
  · exact wpAny_bind (wpAny_pure (wpAny_pure ⟨rfl, h0⟩))
  · exact wpAny_bind (wpAny_rule (wpAny_bind (wpAny_standAt (wpAny_bind (wpAny_mono h1 (fun _ _ h' => wpAny_pure ⟨rfl, h'⟩) fun _ _ x => x)))))
theorem start_1 {b c d : PySem.Expr × PySem.Expr} {elt : PySem.Expr} {scope : Scope} {pos : Pos} : StartM prog w A (cm b c d elt scope pos) 1 := start_m (src := c.2) fun _ _ _ => rfl
theorem start_2 {b c d : PySem.Expr × PySem.Expr} {elt : PySem.Expr} {scope : Scope} {pos : Pos} : StartM prog w A (cm b c d elt scope pos) 2 := start_m (src := d.2) fun _ _ _ => rfl
end

theorem thnX {α : Type} {M : Model} {A : Around} {t : Sem α} {Q Q' : α → Shared → Prop} {F E : Value → Shared → Prop} {z : Shared} (no : ∀ v z, ¬ F v z) (h : wpAny M A t Q F z) (hQ : ∀ a z, Q a z → Q' a z) : wpAny M A t Q' E z := wpAny_mono h hQ fun _ _ h' => (no _ _ h').elim
/-- what a clause does behind its store: the slots but us as they were -/
def Bod (B : Cx) (us : List Nat) (Bd : (Shared → Prop) → Shared → Prop) (Sq : (Hp → Prop) → L2.St → Hp → Prop) : Prop :=
  ∀ (Nx : Hp → Prop) (ps : List (Addr × Obj)) (σ : L2.St) (H : Hp) (z : Shared) (P : Shared → Prop), Inv B ps σ H z → Sq Nx σ H →
    (∀ σ' H' z', Inv B ps σ' H' z' → σ'.length = σ.length → (∀ (j : Nat) v, j ∉ us → σ[j]? = some (some v) → σ'[j]? = some (some v)) → Nx H' → P z') → Bd P z
/-- a clause from its source on -/
def Goes (g : TG) (vs : List Nat) (Sq : (Hp → Prop) → L2.St → Hp → Prop) (Ex : Hp → Prop) (σ : L2.St) (W : Nat → Nat → Hp → Prop) (J : It) : Prop := ∀ i m H, W i m H →
  (J.stop i H ∧ Ex H) ∨ (J.go i H ∧ ∃ Nx : Hp → Prop, (∀ H', Nx H' → ∃ m', m' < m ∧ W (i + 1) m' H') ∧ ∀ x H', J.yld i H x H' → g x (wipe σ vs) H' fun σ2 H2 => wipe σ2 vs = wipe σ vs ∧ Sq Nx σ2 H2)
def clT (wi : TI) (g : TG) (vs : List Nat) (Sq : (Hp → Prop) → L2.St → Hp → Prop) (Ex : Hp → Prop) (σ : L2.St) (H : Hp) : Prop := wi σ H fun J H1 => ∃ W : Nat → Nat → Hp → Prop, (∃ m, W 0 m H1) ∧ Goes g vs Sq Ex σ W J
def apT (D : Addr) (te : TE) (Nx : Hp → Prop) (σ : L2.St) (H : Hp) : Prop := te σ H fun y H1 => ∃ ys, H1 D = some (.lst ys) ∧ ys.length < sizeLine ∧ Nx (upd H1 D (.lst (ys ++ [y])))
theorem walk_ok {B : Cx} (no : ∀ v z, ¬ B.xe v z) (hc : B.calm = true) {e : PySem.Expr} {k : Nat} {tg : PySem.Expr} {list : Value} {Bd : (Shared → Prop) → Shared → Prop} (way : Way B.prog B.w B.A e k tg list B.env Bd)
    {fp : List Addr} {jt : Addr} {tn : Nat → Heap → Prop} {J : It} (T : Turn B.prog B.w B.K tg J fp jt tn) {ps : List (Addr × Obj)} {σ : L2.St} {vs us : List Nat} (hu : ∀ i ∈ us, i ∈ vs) {g : TG} (pg : PG B tg g) {Sq : (Hp → Prop) → L2.St → Hp → Prop} {Ex : Hp → Prop} {W : Nat → Nat → Hp → Prop}
    (hf : ∀ H' z' σ', (∀ b ∈ fp, H' b = none) → Inv B ps σ' H' z' → ∀ b ∈ fp, FpOk B ps H' b) (goes : Goes g vs Sq Ex σ W J) (bod : Bod B us Bd Sq) {R : Result → Shared → Prop}
    (done : ∀ H' z', Inv B ps (wipe σ vs) H' z' → Ex H' → R (.ok .next) z') {m0 : Nat} {H0 : Hp} {z : Shared} (I : Inv B ps (wipe σ vs) H0 z) (st : tn 0 z.heap) (n0 : ∀ b ∈ fp, H0 b = none) (w0 : W 0 m0 H0) :
    codeAny (model B.prog B.w) B.A (.compLoop e k (.ref jt) list B.env) R z := by
  refine way R (.ref jt) (fun n z' => ∃ i H', Inv B ps (wipe σ vs) H' z' ∧ tn i z'.heap ∧ (∀ b ∈ fp, H' b = none) ∧ W i n H') ?_ m0 z ⟨0, H0, I, st, n0, w0⟩
  rintro n z5 ⟨i, H5, I5, st5, n5, w5⟩
  have stat : ∀ {H' z'}, Inv B ps (wipe σ vs) H' z' → (∀ b ∈ fp, H' b = none) → ∀ b ∈ fp, FpOk B ps H' b := fun {H' z'} I' hn => hf H' z' _ hn I'
  rcases goes i n H5 w5 with ⟨stop, qq⟩ | ⟨go, Nx, hNx, step⟩
  · refine thnF (T.done B rfl rfl rfl hc i ps z5 _ H5 Never I5 (stat I5 n5) st5 stop) fun r z6 ⟨hr, I6⟩ => ?_
    subst hr
    exact done _ _ I6 qq
  · refine thnF (T.item B rfl rfl rfl hc i ps z5 _ H5 Never I5 (stat I5 n5) st5 go) fun r z6 ⟨u, hr, h6⟩ => ?_
    subst hr
    refine thnF h6 fun _ z7 ⟨x, H7, I7, r7, y7, st7, n7⟩ => ?_
    have I7' := I7.pinned (stat I7 n7) (T.obj _ _ st7)
    refine thnX no (pg.run _ z7 _ H7 x u _ I7' r7 (step x H7 y7)) fun _ z8 ⟨σ8, H8, I8, hw8, q8⟩ => ?_
    refine bod Nx _ σ8 H8 z8 _ I8 q8 fun σ' H' z' I' hl hk nx => ?_
    obtain ⟨m', hm, w'⟩ := hNx H' nx
    have pin' : ∀ b ∈ fp, ∀ o, z7.heap.get? b = some o → z'.heap.get? b = some o ∧ H' b = none := fun b hb o ho =>
      let y := I'.pin (b, o) (List.mem_append_right _ (List.mem_append_right _ (mem_pinsAt hb ho)))
      ⟨y.1, y.2.1⟩
    refine ⟨m', hm, i + 1, H', I'.unpinned.weak (by rw [hl, ← wipe_length σ8 vs, hw8]) (fun j v ej => ?_), T.keep _ _ _ st7 fun b hb o ho => (pin' b hb o ho).1, fun b hb => ?_, w'⟩
    · rw [← hw8] at ej
      obtain ⟨e1, e2⟩ := wipe_some ej
      exact hk j v (fun hj => e2 (hu j hj)) e1
    · obtain ⟨o, ho, _⟩ := T.obj _ _ st7 b hb
      exact (pin' b hb o ho).2
/-- a clause within another one -/
theorem bod_m {B : Cx} (no : ∀ v z, ¬ B.xe v z) (hc : B.calm = true) {e : PySem.Expr} {k : Nat} {tg src : PySem.Expr} {list : Value} {Bd : (Shared → Prop) → Shared → Prop} (way : Way B.prog B.w B.A e (k + 1) tg list B.env Bd) (sm : StartM B.prog B.w B.A e (k + 1))
    {vs us : List Nat} (hu : ∀ i ∈ us, i ∈ vs) {wi : TI} (pi : PI B tg src wi) {g : TG} (pg : PG B tg g) {Sq : (Hp → Prop) → L2.St → Hp → Prop} (bod : Bod B us Bd Sq) :
    Bod B vs (BdM B.prog B.w B.A e k src list B.env) (clT wi g vs Sq) := by
  intro Nx ps σ H z P I sq out
  refine thnX no (pi.run ps z σ H _ I sq) fun xv z1 hx => thnX no hx fun jv z2 h2 => ?_
  obtain ⟨jt, fp, tn, J, H2, e1, I2, T, st2, f2, W, ⟨m, w0⟩, goes⟩ := h2
  subst e1
  have lp : codeAny (model B.prog B.w) B.A (.compLoop e (k + 1) (.ref jt) list B.env) (fun r z3 => match r with
      | .ok _ => P z3
      | .error _ => False) z2 :=
    walk_ok no hc way T hu pg (fun H' _ _ hn _ b hb => ⟨hn b hb, (f2 b hb).2⟩) goes bod (fun H' z' I' ex => out _ _ _ I' (wipe_length _ _) (fun j v hj ej => by rw [wipe_out hj]; exact ej) ex)
      (I2.weak (wipe_length _ _) fun j v ej => (wipe_some ej).1) st2 (fun b hb => (f2 b hb).1) w0
  exact sm _ _ _ _ _ lp (T.self B.A 0 _ _ _ st2 lp)
theorem bod_e {B : Cx} (no : ∀ v z, ¬ B.xe v z) {elt : PySem.Expr} {D : Addr} {te : TE} (pe : PE B elt te) : Bod B [] (BdE B.prog B.w B.A elt (.ref D) B.env) (apT D te) := by
  intro Nx ps σ H z P I sq out
  refine thnX no (pe.run _ z σ H _ I sq) fun v z1 ⟨y, H1, I1, r1, ys, hD, hz, nx⟩ => ?_
  exact app_ok (X := B) I1 hD hz r1 fun z2 I2 => out _ _ _ I2 rfl (fun _ _ _ ej => ej) nx

section
variable {X : Cx}
/-- three for, one within the other -/
def tLc3 (wi : TI) (g : TG) (wi1 : TI) (g1 : TG) (wi2 : TI) (g2 : TG) (te : TE) (vs vs1 vs2 : List Nat) : TE := fun σ H Q => wi σ H fun J H1 => ∀ D, H1 D = none → ∃ W : Nat → Nat → Hp → Prop, (∃ m, W 0 m (upd H1 D (.lst []))) ∧
  Goes g vs (clT wi1 g1 vs1 (clT wi2 g2 vs2 (apT D te))) (Q (.ref D)) σ W J
/-- in any block of the def's -/
def In (X : Cx) (scope : Scope) (φ : Cx → Prop) : Prop := ∀ (z : Shared) (H : Hp) (C : Addr) (cl : List (Str × Addr)) (fp : List Addr), φ (X.blk z H scope (compEnvC scope cl C X.env) fp)
theorem lc3_core {ps : List (Addr × Obj)} {z : Shared} {σ : L2.St} {H : Hp} {Q : VK} {elt : PySem.Expr} {b c d : PySem.Expr × PySem.Expr} {scope : Scope} {own : List (Str × Nat)} {vs1 vs2 : List Nat} {pos pos' : Pos} {wi wi1 wi2 : TI} {g g1 g2 : TG} {te : TE} {use : Option (Value → Sem Unit)} {Qf : Value → Shared → Prop}
    (hc : X.calm = true) (hN : X.N.Nodup) (I : Inv X ps σ H z) (hi : PI X b.1 b.2 wi) (ok : BlkOk X.N X.env.scope scope own) (hv1 : ∀ i ∈ vs1, i ∈ own.map (·.2)) (hv2 : ∀ i ∈ vs2, i ∈ vs1)
    (hg : In X scope fun B => PG B b.1 g) (hi1 : In X scope fun B => PI B c.1 c.2 wi1) (hg1 : In X scope fun B => PG B c.1 g1) (hi2 : In X scope fun B => PI B d.1 d.2 wi2) (hg2 : In X scope fun B => PG B d.1 g2) (he : In X scope fun B => PE B elt te)
    (hs : ∀ x, foldedSetIterable b.2 X.env x = pure x) (hs1 : ∀ ev x, foldedSetIterable c.2 ev x = pure x) (hs2 : ∀ ev x, foldedSetIterable d.2 ev x = pure x)
    (h : tLc3 wi g wi1 g1 wi2 g2 te (own.map (·.2)) vs1 vs2 σ H Q)
    (hRR : ∀ D C z' m H', Inv X ps σ H' z' → Q (.ref D) H' → z'.heap.Ns C m → FpOk X ps H' C → compPost (model X.prog X.w) X.A X.xe use Qf (.ref D) C (.ok .next) z') :
    wpAny (model X.prog X.w) X.A (comprehension (cm b c d elt scope pos) scope X.env pos' (newList []) false (eval b.2 X.env) use) Qf X.xe z := by
  have hfr : ∀ y ∈ scope.names, y.2 = .free → ∃ q, X.env.cells.lookup y.1 = some q := fun y hy e => (ok.free y hy e).elim (fun k => I.ok.has _ (.inl k)) fun k => I.ok.has _ (.inr k)
  refine wpAny_comprehension_free (use := use) rfl hs (closure_ok hfr) ok.kind (fun y hy e => by rw [ok.uniq y hy, e]) (thn (hi.run ps z σ H _ I h) fun xv z1 hx => thn hx fun jv z2 h2 => ?_)
  obtain ⟨jt, fp, tn, J, H2, e, I2, T, st2, f2, q⟩ := h2
  subst e
  refine wpAny_newObj_type (newEnv_comp ?_) (by show 0 ≤ sizeLine; decide)
  obtain ⟨D, hD⟩ : ∃ D, D = z2.heap.objs.size := ⟨_, rfl⟩
  rw [← hD]
  obtain ⟨W, ⟨m0, w0⟩, goes⟩ := q D (I2.hok.fresh (Nat.le_of_eq hD.symm))
  obtain ⟨z3, hz3⟩ : ∃ z3 : Shared, z3 = { z2 with heap := z2.heap.push { cls := .type "list", data := .seq ([] : List Value).toArray } } := ⟨_, rfl⟩
  have h3 : z3.heap = z2.heap.push { cls := .type "list", data := .seq ([] : List Value).toArray } := by rw [hz3]
  have I3 : Inv X ps σ (upd H2 D (.lst [])) z3 := by
    rw [hz3]
    refine I2.laid (t' := z2.toks) (fun a o ha => Heap.get?_push_of_some _ ha) (Nat.le_of_eq hD.symm) ⟨Nat.zero_le _, [], 0, .nil, ?_⟩
    rw [hD]
    exact Heap.get?_push_size _ rfl
  have f3 : ∀ a ∈ fp, FpOk X ps (upd H2 D (.lst [])) a ∧ a < z3.heap.objs.size := fun a ha => by
    obtain ⟨o, ho, _⟩ := T.obj _ _ st2 a ha
    have hlt := Heap.lt_size ho
    refine ⟨⟨?_, (f2 a ha).2⟩, by rw [h3, Heap.size_push]; exact Nat.lt_succ_of_lt hlt⟩
    rw [upd_ne (by rw [hD]; exact Nat.ne_of_lt hlt)]
    exact (f2 a ha).1
  have st3 : tn 0 z3.heap := T.keep _ _ _ st2 fun a _ o ho => by rw [h3]; exact Heap.get?_push_of_some _ ho
  rw [← hz3]
  obtain ⟨H3, hH3⟩ : ∃ H3, H3 = upd H2 D (.lst []) := ⟨_, rfl⟩
  rw [← hH3] at I3 f3 w0
  have I4 := block_start I3 ok hN f3
  obtain ⟨cls, hcl⟩ : ∃ cls, cls = cellsFrom (z3.heap.objs.size + 1) scope.names (cloFrom X.env.cells scope.names []) := ⟨_, rfl⟩
  rw [← hcl] at I4
  have pg := hg z3 H3 z3.heap.objs.size cls fp
  have pi1 := hi1 z3 H3 z3.heap.objs.size cls fp
  have pg1 := hg1 z3 H3 z3.heap.objs.size cls fp
  have pi2 := hi2 z3 H3 z3.heap.objs.size cls fp
  have pg2 := hg2 z3 H3 z3.heap.objs.size cls fp
  have pe := he z3 H3 z3.heap.objs.size cls fp
  show codeAny _ _ (.compStart (cm b c d elt scope pos) 0 (.ref jt) (.ref D) (compEnvC scope (cellsFrom (z3.heap.objs.size + 1) scope.names (cloFrom X.env.cells scope.names [])) z3.heap.objs.size X.env)) (compPost (model X.prog X.w) X.A X.xe use Qf (.ref D) z3.heap.objs.size) { z3 with heap := pushCells (z3.heap.push { cls := .type "dict", data := .dict #[] }) scope.names }
  rw [← hcl]
  obtain ⟨ce, hce⟩ : ∃ ce, ce = compEnvC scope cls z3.heap.objs.size X.env := ⟨_, rfl⟩
  have cL : ce.locals = z3.heap.objs.size := by rw [hce]; rfl
  rw [← hce] at I4 pg pi1 pg1 pi2 pg2 pe ⊢
  obtain ⟨z4, hz4⟩ : ∃ z4 : Shared, z4 = { z3 with heap := pushCells (z3.heap.push { cls := .type "dict", data := .dict #[] }) scope.names } := ⟨_, rfl⟩
  have st4 : tn 0 z4.heap := T.keep _ _ _ st3 fun a _ o ho => by rw [hz4]; exact pushCells_keeps _ _ _ _ (Heap.get?_push_of_some _ ho)
  rw [← hz4] at I4 ⊢
  have no : ∀ v z, ¬ (X.blk z3 H3 scope ce fp).xe v z := fun _ _ h' => h'
  have b2 := bod_e (B := X.blk z3 H3 scope ce fp) (D := D) no pe
  have b1 := bod_m (B := X.blk z3 H3 scope ce fp) (list := .ref D) (vs := vs2) no hc (way_e (b := b) (c := c) (d := d) (elt := elt) (scope := scope) (pos := pos)) start_2 (us := []) (fun _ h' => absurd h' List.not_mem_nil) pi2 pg2 b2
  have b0 := bod_m (B := X.blk z3 H3 scope ce fp) (list := .ref D) (vs := vs1) no hc (way_m (b0 := b) (c0 := c) (d0 := d) (elt := elt) (scope := scope) (pos := pos) turn_1 (hs2 _)) start_1 hv2 pi1 pg1 b1
  have lp : codeAny (model X.prog X.w) X.A (.compLoop (cm b c d elt scope pos) 0 (.ref jt) (.ref D) ce) (compPost (model X.prog X.w) X.A X.xe use Qf (.ref D) z3.heap.objs.size) z4 := by
    refine walk_ok (B := X.blk z3 H3 scope ce fp) no hc (way_m (b0 := b) (c0 := c) (d0 := d) (elt := elt) (scope := scope) (pos := pos) turn_0 (hs1 _)) T hv1 pg (fun H' z' σ' hn I' a ha => ?_) goes b0 (fun H' z' I' ex => ?_) I4 st4 (fun a ha => (f3 a ha).1.1) w0
    · exact ⟨hn a ha, (I'.ok.exf a ha).1, I'.ok.exfs a ha, .inl ha, fun x q hq => (I'.ok.exf a ha).2 x q hq, fun p hp => absurd (show p ∈ ([] : List (Addr × Obj)) ++ [] from hp) (by simp)⟩
    · have I7 : Inv X ps σ H' z' := I3.call' (ch := fp) I'.os I'.base I'.hok I'.bare fun a ha => ⟨(f3 a ha).1.2.2.2.1, (f3 a ha).1.2.1, (f3 a ha).1.2.2.2.2.1, (f3 a ha).1.2.2.2.2.2⟩
      have nC : H' z3.heap.objs.size = none := by
        rw [← cL]
        exact I'.free
      obtain ⟨m, hn, _⟩ := I'.loc
      have hn : z'.heap.Ns ce.locals m := hn
      rw [cL] at hn
      exact hRR D z3.heap.objs.size z' m H' I7 ex hn (I3.fpOk (Nat.le_refl _) nC)
  exact codeAny_compStart_list lp (T.self X.A 0 _ _ _ st4 lp)
theorem pe_lc3 {elt : PySem.Expr} {b c d : PySem.Expr × PySem.Expr} {scope : Scope} {own : List (Str × Nat)} {vs1 vs2 : List Nat} {pos : Pos} {wi wi1 wi2 : TI} {g g1 g2 : TG} {te : TE}
    (hc : X.calm = true) (hN : X.N.Nodup) (hi : PI X b.1 b.2 wi) (ok : BlkOk X.N X.env.scope scope own) (hv1 : ∀ i ∈ vs1, i ∈ own.map (·.2)) (hv2 : ∀ i ∈ vs2, i ∈ vs1)
    (hg : In X scope fun B => PG B b.1 g) (hi1 : In X scope fun B => PI B c.1 c.2 wi1) (hg1 : In X scope fun B => PG B c.1 g1) (hi2 : In X scope fun B => PI B d.1 d.2 wi2) (hg2 : In X scope fun B => PG B d.1 g2) (he : In X scope fun B => PE B elt te)
    (hs : ∀ x, foldedSetIterable b.2 X.env x = pure x) (hs1 : ∀ ev x, foldedSetIterable c.2 ev x = pure x) (hs2 : ∀ ev x, foldedSetIterable d.2 ev x = pure x) :
    PE X (cm b c d elt scope pos) (tLc3 wi g wi1 g1 wi2 g2 te (own.map (·.2)) vs1 vs2) := by
  refine ⟨fun ps z σ H Q I h => ?_⟩
  rw [eval_ListComp]
  refine lc3_core hc hN I hi ok hv1 hv2 hg hi1 hg1 hi2 hg2 he hs hs1 hs2 h fun D C z' m H' I' q hn f => ⟨m, hn, fun h2 sb => ?_⟩
  obtain ⟨k0, k1, k2, k3, k4, k5⟩ := f
  exact ⟨.ref D, H', I'.turned (t' := z'.toks) (fun a o ha ho => (sb.2 a ha).trans ho) k0 k1 k3 k4 k5, rfl, q⟩
theorem ps_setLc3 {i : Nat} {y : Str} {py : Pos} {elt : PySem.Expr} {b c d : PySem.Expr × PySem.Expr} {scope : Scope} {own : List (Str × Nat)} {vs1 vs2 : List Nat} {pos spos : Pos} {wi wi1 wi2 : TI} {g g1 g2 : TG} {te : TE}
    (hc : X.calm = true) (hN : X.N.Nodup) (hy : X.N[i]? = some y) (hyl : X.env.scope.names.lookup y = some .local) (hsw : swapsWith (cm b c d elt scope pos) (some (.Name y py)) spos.line X.env = pure true)
    (hi : PI X b.1 b.2 wi) (ok : BlkOk X.N X.env.scope scope own) (hv1 : ∀ i ∈ vs1, i ∈ own.map (·.2)) (hv2 : ∀ i ∈ vs2, i ∈ vs1)
    (hg : In X scope fun B => PG B b.1 g) (hi1 : In X scope fun B => PI B c.1 c.2 wi1) (hg1 : In X scope fun B => PG B c.1 g1) (hi2 : In X scope fun B => PI B d.1 d.2 wi2) (hg2 : In X scope fun B => PG B d.1 g2) (he : In X scope fun B => PE B elt te)
    (hs : ∀ x, foldedSetIterable b.2 X.env x = pure x) (hs1 : ∀ ev x, foldedSetIterable c.2 ev x = pure x) (hs2 : ∀ ev x, foldedSetIterable d.2 ev x = pure x) :
    PS X (.Assign [.Name y py] (cm b c d elt scope pos) spos) (tAsg (tLc3 wi g wi1 g1 wi2 g2 te (own.map (·.2)) vs1 vs2) (gName i)) := by
  refine ⟨fun ps z σ H D I h => ?_⟩
  rw [exec_Assign_Name_used _ _ _ _ hsw]
  refine wpAny_bind (wpAny_standAt (wpAny_bind ?_))
  show wpAny _ X.A (do let _ ← comprehension (cm b c d elt scope pos) scope X.env (firstIterPos [⟨b.1, b.2, [], 0⟩, ⟨c.1, c.2, [], 0⟩, ⟨d.1, d.2, [], 0⟩] pos) (newList []) false (eval b.2 X.env) (some (assign (.Name y py) X.env))) _ _ z
  have h : tLc3 wi g wi1 g1 wi2 g2 te (own.map (·.2)) vs1 vs2 σ H (fun x H1 => gName i x σ H1 D.nx) := h
  refine wpAny_bind (thn (lc3_core (Qf := fun _ z' => SP X ps D .next z') hc hN I hi ok hv1 hv2 hg hi1 hg1 hi2 hg2 he hs hs1 hs2 h fun L C z' m H' I' q hn f => ?_) fun _ z' hq => wpAny_pure (wpAny_pure hq))
  show wpAny _ _ (assign (.Name y py) X.env (.ref L)) _ _ _
  refine wpAny_assign_Name (store_ok2 (v := V.ref L) I' hN hy (.inl hyl) rfl (fun z2 I2 ⟨a, sb, ha⟩ => ?_) (.inr hyl))
  obtain ⟨k0, k1, k2, k3, k4, k5⟩ := f
  have haC : C ≠ a := by
    rcases ha with w | w
    · rw [w]; exact k1
    · exact fun w2 => k4 y a w w2.symm
  refine ⟨m, hn.sameBut sb haC, fun h3 sb3 => ?_⟩
  exact ⟨_, H', I2.turned (t' := z2.toks) (fun a o ha ho => (sb3.2 a ha).trans ho) k0 k1 k3 k4 k5, q⟩
end

/-! ### by data -/
section
variable {S : Type} {X : Cx} {c : Fm S}
structure Bs (c : Fm S) (M1 H1 : Hp) (s1 : S) (D : Addr) : Prop where
  ok : Ok c.I M1 H1 s1
  d : H1 D = none
  z : ¬ c.I.Z D
  k : ∀ M H s, Ext c.I M1 H1 M H s → (∀ a, c.H0 a ≠ none → M a = c.M0 a) ∧ ∀ a o, c.H0 a = some o → ¬ c.I.Z a → H a = some o
/-- the new list as it stands -/
def Ac (K : PySem.W.Frag) (c : Fm S) (M1 H1 : Hp) (D : Addr) (Mi : Hp) (out : List PyData) (s : S) (H : Hp) : Prop := ∃ M acc, Ext c.I M1 H1 M H s ∧ Same Mi M ∧ H D = some (.lst acc) ∧ M D = none ∧ RpA K M out acc
theorem dat_in {M1 H1 M H : Hp} {s1 s s6 s3 : S} {D : Addr} (B : Bs c M1 H1 s1 D) {tg : Tg} {slots : List Nat} {ms : Env → PV.M S (List PyData)} {mi : Env → PV.M S Bool} {me : Env → PV.M S PyData} (hmi : ∀ env s, mi env s = .ok true s) (htg : ∀ i ∈ tgSlots tg, i ∈ slots)
    {σ : L2.St} {env : Env} {out ys items : List PyData} {acc : List V} (g4 : Gd X.K c.I c.H0 c.M0 M H σ env s) (hn1 : noOwn env = true) (x4 : Ext c.I M1 H1 M H s) (hD4 : H D = some (.lst acc)) (mD4 : M D = none) (ra : RpA X.K M out acc)
    (e7 : ms env s = .ok items s6) (e8 : filtM (turnM tg slots mi me env) items s6 = .ok ys s3) (hlen : (out ++ ys).length ≤ sizeLine) {Nx : Hp → Prop} (hNx : ∀ H', Ac X.K c M1 H1 D M (out ++ ys) s3 H' → Nx H') :
    clT (TId X c.noW KpV ms) (TGd X.K c tg) slots (apT D (TV X.K c.noW me)) Nx σ H := by
  refine ⟨M, env, s, g4, After.of_ok e7 fun J M5 H5 x5 src => ?_⟩
  have x15 := Ext.trans B.ok x4 x5
  have hD5 : H5 D = some (.lst acc) := x5.h D _ hD4 B.z
  have mD5 : M5 D = none := by
    rw [x5.m D (by rw [hD4]; exact fun z => nomatch z)]
    exact mD4
  have g5 := g4.ext x5
  refine ⟨fun j k H6 => k = items.length - j ∧ j ≤ items.length ∧ ∃ s7 out2 tail, Ac X.K c M1 H1 D M5 out2 s7 H6 ∧ filtM (turnM tg slots mi me env) (items.drop j) s7 = .ok tail s3 ∧ out ++ ys = out2 ++ tail,
    ⟨items.length, rfl, Nat.zero_le _, s6, out, ys, ⟨M5, acc, x15, Same.refl _, hD5, mD5, RpA.mono (x5.mm x4.ok) ra⟩, e8, rfl⟩, fun j k H6 hW => ?_⟩
  obtain ⟨rfl, hj, s7, out2, tail, ⟨M6, acc2, x6, k6, hD6, mD6, ra6⟩, eF, et⟩ := hW
  obtain ⟨hgo, hstop⟩ := src M6 H6 x6.sub k6 j
  have bk := B.k _ _ _ x6
  have gq : Gd X.K c.I c.H0 c.M0 M6 H6 _ env s7 := g5.keep hn1 x6.ok k6 bk.1 bk.2
  by_cases hlt : j < items.length
  · obtain ⟨hg, hy⟩ := hgo _ (List.getElem?_eq_getElem hlt)
    rw [List.drop_eq_getElem_cons hlt] at eF
    obtain ⟨oy, ys2, s8, f3, f4, rfl⟩ := filt_cons eF
    obtain ⟨env2, s9, f5, f6⟩ := bind_ok (show ((ofO (setTg tg items[j] (wipeE env slots)) : PV.M S Env) s7).bind (fun env' s' => (do let b ← mi env'; turnK (me env') b : PV.M S (Option PyData)) s') = .ok oy s8 from f3)
    obtain ⟨f5a, rfl⟩ := ofO_ok f5
    obtain ⟨b, s10, f7, f8⟩ := bind_ok (show ((mi env2 s9).bind fun b s' => turnK (me env2) b s') = .ok oy s8 from f6)
    rw [hmi] at f7
    cases f7
    obtain ⟨y, s11, f9, f10⟩ := bind_ok (show ((me env2 s9).bind fun y s' => .ok (some y) s') = .ok oy s8 from f8)
    cases f10
    refine .inr ⟨hg, fun H' => ∃ s7 out2 tail, Ac X.K c M1 H1 D M5 out2 s7 H' ∧ filtM (turnM tg slots mi me env) (items.drop (j + 1)) s7 = .ok tail s3 ∧ out ++ ys = out2 ++ tail, fun H' hN => ⟨_, by omega, rfl, hlt, hN⟩, fun x' H7 hyl => ?_⟩
    obtain ⟨M7, x7, r7⟩ := hy x' H7 hyl
    have x7' := x7.ext x6.ok
    have x17 := Ext.trans B.ok x6 x7'
    have hD7 : H7 D = some (.lst acc2) := x7.h D _ hD6
    have mD7 : M7 D = none := by
      rw [x7.m D (by rw [hD6]; exact fun z => nomatch z)]
      exact mD6
    refine ⟨M7, wipeE env slots, s9, items[j], env2, (gq.ext x7').wipe _, r7, f5a, fun σ3 g7 hw => ⟨?_, M7, env2, s9, g7, After.of_ok f9 fun v M9 H9 x9 r9 => ?_⟩⟩
    · rw [hw _ htg]
      exact wipe_wipe _ _ fun _ h => h
    · have x19 := Ext.trans B.ok x17 x9
      have hD9 : H9 D = some (.lst acc2) := x9.h D _ hD7 B.z
      have mD9 : M9 D = none := by
        rw [x9.m D (by rw [hD7]; exact fun z => nomatch z)]
        exact mD7
      have rm : RpA X.K M9 out2 acc2 := RpA.mono ((x7'.mm x6.ok).trans (x9.mm x7'.ok)) ra6
      refine ⟨acc2, hD9, ?_, s8, out2 ++ [y], ys2, ⟨M9, acc2 ++ [v], ⟨fun a o ha => ?_, x19.m, fun a o ha nz => ?_, x19.z, c.I.hpf _ _ _ x19.hp fun a hz => upd_ne fun w => B.z (w ▸ hz)⟩, (k6.trans (x7'.mm x6.ok)).trans (x9.mm x7'.ok), upd_same, mD9, rm.app (.cons r9 .nil)⟩, f4, ?_⟩
      · rw [rm.len]
        have := congrArg List.length et
        simp only [pushO, List.length_append, List.length_cons] at this hlen
        omega
      · rw [upd_ne fun w => by
          rw [w, mD9] at ha
          cases ha]
        exact x19.sub a o ha
      · rw [upd_ne fun w => by
          rw [w, B.d] at ha
          cases ha]
        exact x19.h a o ha nz
      · rw [et, List.append_assoc]
        rfl
  · have ej : j = items.length := by omega
    subst ej
    rw [List.drop_of_length_le (Nat.le_refl _)] at eF
    cases eF
    rw [List.append_nil] at et
    refine .inl ⟨hstop (Nat.le_refl _), hNx _ ?_⟩
    rw [et]
    exact ⟨M6, acc2, x6, (x5.mm x4.ok).trans k6, hD6, mD6, ra6⟩
theorem dat_m {M1 H1 M H : Hp} {s1 s s6 s3 : S} {D : Addr} (B : Bs c M1 H1 s1 D) {tg tg2 : Tg} {slots slots2 : List Nat} {ms ms2 : Env → PV.M S (List PyData)} {mi : Env → PV.M S Bool} {me : Env → PV.M S PyData} (hmi : ∀ env s, mi env s = .ok true s) (htg : ∀ i ∈ tgSlots tg, i ∈ slots) (htg2 : ∀ i ∈ tgSlots tg2, i ∈ slots2)
    {σ : L2.St} {env : Env} {out ys items : List PyData} {acc : List V} (g4 : Gd X.K c.I c.H0 c.M0 M H σ env s) (hn1 : noOwn env = true) (x4 : Ext c.I M1 H1 M H s) (hD4 : H D = some (.lst acc)) (mD4 : M D = none) (ra : RpA X.K M out acc)
    (e7 : ms env s = .ok items s6) (e8 : flatM (turn2 tg slots ms2 tg2 slots2 mi me env) items s6 = .ok ys s3) (hlen : (out ++ ys).length ≤ sizeLine) {Nx : Hp → Prop} (hNx : ∀ H', Ac X.K c M1 H1 D M (out ++ ys) s3 H' → Nx H') :
    clT (TId X c.noW KpV ms) (TGd X.K c tg) slots (clT (TId X c.noW KpV ms2) (TGd X.K c tg2) slots2 (apT D (TV X.K c.noW me))) Nx σ H := by
  refine ⟨M, env, s, g4, After.of_ok e7 fun J M5 H5 x5 src => ?_⟩
  have x15 := Ext.trans B.ok x4 x5
  have hD5 : H5 D = some (.lst acc) := x5.h D _ hD4 B.z
  have mD5 : M5 D = none := by
    rw [x5.m D (by rw [hD4]; exact fun z => nomatch z)]
    exact mD4
  have g5 := g4.ext x5
  refine ⟨fun j k H6 => k = items.length - j ∧ j ≤ items.length ∧ ∃ s7 out2 tail, Ac X.K c M1 H1 D M5 out2 s7 H6 ∧ flatM (turn2 tg slots ms2 tg2 slots2 mi me env) (items.drop j) s7 = .ok tail s3 ∧ out ++ ys = out2 ++ tail,
    ⟨items.length, rfl, Nat.zero_le _, s6, out, ys, ⟨M5, acc, x15, Same.refl _, hD5, mD5, RpA.mono (x5.mm x4.ok) ra⟩, e8, rfl⟩, fun j k H6 hW => ?_⟩
  obtain ⟨rfl, hj, s7, out2, tail, ⟨M6, acc2, x6, k6, hD6, mD6, ra6⟩, eF, et⟩ := hW
  obtain ⟨hgo, hstop⟩ := src M6 H6 x6.sub k6 j
  have bk := B.k _ _ _ x6
  have gq : Gd X.K c.I c.H0 c.M0 M6 H6 _ env s7 := g5.keep hn1 x6.ok k6 bk.1 bk.2
  by_cases hlt : j < items.length
  · obtain ⟨hg, hy⟩ := hgo _ (List.getElem?_eq_getElem hlt)
    rw [List.drop_eq_getElem_cons hlt] at eF
    obtain ⟨ya, yb, s8, f3, f4, rfl⟩ := flat_cons eF
    obtain ⟨env2, s9, f5, f6⟩ := bind_ok (show ((ofO (setTg tg items[j] (wipeE env slots)) : PV.M S Env) s7).bind (fun env' s' => (do let l ← ms2 env'; filtM (turnM tg2 slots2 mi me env') l : PV.M S (List PyData)) s') = .ok ya s8 from f3)
    obtain ⟨f5a, rfl⟩ := ofO_ok f5
    obtain ⟨items2, s10, f7, f8⟩ := bind_ok (show ((ms2 env2 s9).bind fun l s' => filtM (turnM tg2 slots2 mi me env2) l s') = .ok ya s8 from f6)
    have hn2 : noOwn env2 = true := noOwn_tg (noOwn_wipe hn1 _) f5a
    refine .inr ⟨hg, fun H' => ∃ s7 out2 tail, Ac X.K c M1 H1 D M5 out2 s7 H' ∧ flatM (turn2 tg slots ms2 tg2 slots2 mi me env) (items.drop (j + 1)) s7 = .ok tail s3 ∧ out ++ ys = out2 ++ tail, fun H' hN => ⟨_, by omega, rfl, hlt, hN⟩, fun x' H7 hyl => ?_⟩
    obtain ⟨M7, x7, r7⟩ := hy x' H7 hyl
    have x7' := x7.ext x6.ok
    have x17 := Ext.trans B.ok x6 x7'
    have hD7 : H7 D = some (.lst acc2) := x7.h D _ hD6
    have mD7 : M7 D = none := by
      rw [x7.m D (by rw [hD6]; exact fun z => nomatch z)]
      exact mD6
    refine ⟨M7, wipeE env slots, s9, items[j], env2, (gq.ext x7').wipe _, r7, f5a, fun σ3 g7 hw => ⟨?_, ?_⟩⟩
    · rw [hw _ htg]
      exact wipe_wipe _ _ fun _ h => h
    · refine dat_in B hmi htg2 g7 hn2 x17 hD7 mD7 (RpA.mono (x7'.mm x6.ok) ra6) f7 f8 ?_ fun H' hA => ?_
      · have := congrArg List.length et
        simp only [List.length_append] at this hlen ⊢
        omega
      · obtain ⟨M8, acc8, x8, k8, hD8, mD8, ra8⟩ := hA
        exact ⟨s8, out2 ++ ya, yb, ⟨M8, acc8, x8, (k6.trans (x7'.mm x6.ok)).trans k8, hD8, mD8, ra8⟩, f4, by rw [et, List.append_assoc]⟩
  · have ej : j = items.length := by omega
    subst ej
    rw [List.drop_of_length_le (Nat.le_refl _)] at eF
    cases eF
    rw [List.append_nil] at et
    refine .inl ⟨hstop (Nat.le_refl _), hNx _ ?_⟩
    rw [et]
    exact ⟨M6, acc2, x6, (x5.mm x4.ok).trans k6, hD6, mD6, ra6⟩
theorem lc3_data {tg tg2 tg3 : Tg} {own : List (Str × Nat)} {slots2 slots3 : List Nat} {ms ms2 ms3 : Env → PV.M S (List PyData)} {me : Env → PV.M S PyData} (htg : ∀ i ∈ tgSlots tg, i ∈ own.map (·.2)) (htg2 : ∀ i ∈ tgSlots tg2, i ∈ slots2) (htg3 : ∀ i ∈ tgSlots tg3, i ∈ slots3) {σ : L2.St} {H : Hp} {Q : VK}
    (q : TF X.K c (fun env => match noOwn env with | true => (do let items ← ms env; let out ← noX (flatM (turn3 tg (own.map (·.2)) ms2 tg2 slots2 ms3 tg3 slots3 me env) items); lenE out; pure (.list out)) | false => bad) σ H Q) :
    tLc3 (TId X c (KpR c.I) ms) (TGd X.K c tg) (TId X c.noW KpV ms2) (TGd X.K c tg2) (TId X c.noW KpV ms3) (TGd X.K c tg3) (TV X.K c.noW me) (own.map (·.2)) slots2 slots3 σ H Q := by
  obtain ⟨M, env, z, gd, q⟩ := q
  dsimp only at q
  cases hno : noOwn env with
  | false =>
    rw [hno] at q
    exact (show False from q).elim
  | true =>
  rw [hno] at q
  refine ⟨M, env, z, gd, (After.bd (m := ms env) q).imp fun items s1 q1 J M1 H1 x1 src D hD => ?_⟩
  obtain ⟨total, sE, eT, q2⟩ := noX_after (After.bd (m := noX (flatM (turn3 tg (own.map (·.2)) ms2 tg2 slots2 ms3 tg3 slots3 me env) items)) q1)
  obtain ⟨hlen, q3⟩ := lenE_ok (After.bd (m := lenE total) q2)
  have gd1 := gd.ext x1
  have hDz : ¬ c.I.Z D := fun hz => c.I.zt s1 H1 D x1.hp hz hD
  have hDH : H D = none := fresh_back x1 hD
  have B : Bs c M1 H1 s1 D := ⟨x1.ok, hD, hDz, fun M' H' s' x => ⟨(gd1.ext x).m0, (gd1.ext x).h0⟩⟩
  refine ⟨fun i m H2 => m = items.length - i ∧ i ≤ items.length ∧ ∃ M2 s2 out acc tail, Ext c.I M1 H1 M2 H2 s2 ∧ H2 D = some (.lst acc) ∧ M2 D = none ∧ RpA X.K M2 out acc ∧
      flatM (turn3 tg (own.map (·.2)) ms2 tg2 slots2 ms3 tg3 slots3 me env) (items.drop i) s2 = .ok tail sE ∧ total = out ++ tail,
    ⟨items.length, rfl, Nat.zero_le _, M1, s1, [], [], total, (Ext0.own x1.sub hD).ext x1.ok, upd_same, x1.sub.free hD, .nil, eT, rfl⟩, fun i m H2 hW => ?_⟩
  obtain ⟨rfl, hi, M2, s2, out, acc, tail, x2, hD2, mD2, ra, eF, etot⟩ := hW
  have k2 : KpR c.I M1 H1 M2 H2 := ⟨x2.mm x1.ok, x2.h⟩
  obtain ⟨hgo, hstop⟩ := src M2 H2 x2.sub k2 i
  by_cases hlt : i < items.length
  · have ed : items[i]? = some items[i] := List.getElem?_eq_getElem hlt
    obtain ⟨hg, hy⟩ := hgo _ ed
    rw [List.drop_eq_getElem_cons hlt] at eF
    obtain ⟨ys, zs, s3, e3, e4, rfl⟩ := flat_cons eF
    obtain ⟨env1, s5, e5, e6⟩ := bind_ok (show ((ofO (setTg tg items[i] (wipeE env (own.map (·.2)))) : PV.M S Env) s2).bind (fun env' s' => (do let l ← ms2 env'; flatM (turn2 tg2 slots2 ms3 tg3 slots3 (fun _ => pure true) me env') l : PV.M S (List PyData)) s') = .ok ys s3 from e3)
    obtain ⟨e5a, rfl⟩ := ofO_ok e5
    have hn1 : noOwn env1 = true := noOwn_tg (noOwn_wipe hno _) e5a
    obtain ⟨items2, s6, e7, e8⟩ := bind_ok (show ((ms2 env1 s5).bind fun l s' => flatM (turn2 tg2 slots2 ms3 tg3 slots3 (fun _ => pure true) me env1) l s') = .ok ys s3 from e6)
    refine .inr ⟨hg, fun H' => ∃ M2 s2 out acc tail, Ext c.I M1 H1 M2 H' s2 ∧ H' D = some (.lst acc) ∧ M2 D = none ∧ RpA X.K M2 out acc ∧ flatM (turn3 tg (own.map (·.2)) ms2 tg2 slots2 ms3 tg3 slots3 me env) (items.drop (i + 1)) s2 = .ok tail sE ∧ total = out ++ tail,
      fun H' hN => ⟨_, by omega, rfl, hlt, hN⟩, fun x H' hyl => ?_⟩
    obtain ⟨M3, x3, r3⟩ := hy x H' hyl
    have x3' := x3.ext x2.ok
    have x23 := Ext.trans x1.ok x2 x3'
    have hD3 : H' D = some (.lst acc) := x3.h D _ hD2
    have mD3 : M3 D = none := by
      rw [x3.m D (by rw [hD2]; exact fun z => nomatch z)]
      exact mD2
    refine ⟨M3, wipeE env (own.map (·.2)), s5, items[i], env1, (gd1.ext x23).wipe _, r3, e5a, fun σ' g' hw => ⟨?_, ?_⟩⟩
    · rw [hw _ htg]
      exact wipe_wipe _ _ fun _ h => h
    · refine dat_m B (fun _ _ => rfl) htg2 htg3 g' hn1 x23 hD3 mD3 (RpA.mono (x3'.mm x2.ok) ra) e7 e8 ?_ fun H'' hA => ?_
      · have := congrArg List.length etot
        simp only [List.length_append] at this hlen ⊢
        omega
      · obtain ⟨M8, acc8, x8, _, hD8, mD8, ra8⟩ := hA
        exact ⟨M8, s3, out ++ ys, acc8, zs, x8, hD8, mD8, ra8, e4, by rw [etot, List.append_assoc]⟩
  · have ei : i = items.length := by omega
    subst ei
    rw [List.drop_of_length_le (Nat.le_refl _)] at eF
    cases eF
    refine .inl ⟨hstop (Nat.le_refl _), ?_⟩
    rw [etot, List.append_nil] at q3
    exact q3 _ M2 H2 (Ext.trans gd.ok x1 x2) ⟨D, acc, rfl, hDH, hD2, mD2, ra⟩
end
end PV
set_option Elab.async false
set_option linter.all false
set_option maxRecDepth 100000
set_option maxHeartbeats 4000000
/-! PV: enumerate of a tuple. -/
namespace PySem
open Sem (wp)
open AutoSeq1 (wpAny_loadPart')
theorem meets_enumerate_newT (l : Addr) (items : Array Value) (n : Nat) (dct : Option Addr) (sl : Array (Option Value)) :
    Meets (Builtin.«enumerate.__new__» ⟨[.type "enumerate", .ref l], []⟩) (fun _ R s => s.heap.get? l = some { cls := .type "tuple", dict := dct, data := .seq items n, slots := sl } ∧
      R (.ok (.ret (.ref (s.heap.push { cls := .type "tuple_iterator", data := .fields #[.ref l, .int 0 0] }).objs.size)))
        { s with heap := (s.heap.push { cls := .type "tuple_iterator", data := .fields #[.ref l, .int 0 0] }).push { cls := .type "enumerate", data := .fields #[.none, .bool false, .ref s.heap.objs.size, rawInt 0, .none, .none] } }) :=
  .of_wp fun prog w A R s h => by
    obtain ⟨hp, g, d, tk, os⟩ := s; obtain ⟨hl, h⟩ := h
    have hsub := sub_enumerate
    have hL : Heap.IsTuple (Shared.heap ⟨hp, g, d, tk, os⟩) l items := ⟨_, hl, rfl, n, rfl⟩
    wp_walk using wpAny_loadPart' hl
    refine wpAny_stack_any fun st => wpAny_pure ?_
    split
    · rename_i c _ _ _ _ _
      cases (c == Value.type "enumerate")
      · wp_walk using wpAny_loadPart' hl, wpAny_pyIter_tuple hL
        exact ⟨_, rfl, h⟩
      · wp_walk using wpAny_loadPart' hl, wpAny_pyIter_tuple hL
        exact ⟨_, rfl, h⟩
    · wp_walk using wpAny_loadPart' hl, wpAny_pyIter_tuple hL
      exact ⟨_, rfl, h⟩
section
variable {prog : Program} {w : World} {A : Around} {E : Value → Shared → Prop} {s : Shared}
theorem call_enumerate_tuple {l : Addr} {items : Array Value} {Q : Value → Shared → Prop} (hL : s.heap.IsTuple l items)
    (h : ∀ h', IsEnum h' (s.heap.objs.size + 1) s.heap.objs.size 0 .none → h'.IsTupleIter s.heap.objs.size l 0 → h'.objs.size = s.heap.objs.size + 2 →
      (∀ b o, s.heap.get? b = some o → h'.get? b = some o) → Q (.ref (s.heap.objs.size + 1)) { s with heap := h' }) :
    wpAny (model prog w) A (call (.type "enumerate") [.ref l]) Q E s := by
  obtain ⟨⟨c, dct, dt, sl⟩, hl, hc, n, hd⟩ := hL
  replace hc : c = .type "tuple" := hc
  replace hd : dt = .seq items n := hd
  subst hc hd
  refine callType_new F.called_enumerate (by decide) (F.typeCall_enumerate_1 _) (F.newCall_enumerate_1 _) (fun obj => F.args_object_init_2 obj _) F.entry_enumerate_new
    (meets_enumerate_newT l items n dct sl) ⟨hl, ?_⟩
  have hz : (s.heap.push { cls := .type "tuple_iterator", data := .fields #[.ref l, .int 0 0] }).objs.size = s.heap.objs.size + 1 := Heap.size_push ..
  show _ ∧ _
  rw [hz]
  have he : IsEnum ((s.heap.push { cls := .type "tuple_iterator", data := .fields #[.ref l, .int 0 0] }).push
      { cls := .type "enumerate", data := .fields #[.none, .bool false, .ref s.heap.objs.size, rawInt 0, .none, .none] }) (s.heap.objs.size + 1) s.heap.objs.size 0 .none := by
    have := Heap.get?_push_size (s.heap.push { cls := .type "tuple_iterator", data := .fields #[.ref l, .int 0 0] })
      (o := { cls := .type "enumerate", data := .fields #[.none, .bool false, .ref s.heap.objs.size, rawInt 0, .none, .none] }) rfl
    rw [hz] at this; exact this
  refine ⟨⟨_, he, rfl⟩, h _ he ⟨_, Heap.get?_push_of_some _ (Heap.get?_push_size _ rfl), rfl, rfl⟩ (by rw [Heap.size_push, hz]) fun b o x => Heap.get?_push_of_some _ (Heap.get?_push_of_some _ x)⟩
end
end PySem
namespace PV
open PySem PySem.Spec PyProof.Rows L2
/-- the tuple at a, each item in a new pair that is known -/
def IteT (K : PySem.W.Frag) (a : Addr) : It :=
  ⟨fun i H => ∃ (xs : List V) (x : V), SqT K H a xs ∧ xs[i]? = some x, fun i H v H' => ∃ T o x, v = .ref T ∧ H T = none ∧ o.dict = none ∧ H' = upd H T (.frz o (.tup [.int (i : Nat), x])) ∧ ∀ xs, SqT K H a xs → xs[i]? = some x, fun i H => ∃ xs : List V, SqT K H a xs ∧ xs.length ≤ i⟩
theorem turn_enumT {P : Program} {w : World} {K : PySem.W.Frag} {elts : List PySem.Expr} {kk : Nat} {tpos : Pos} (a e it : Addr) :
    Turn P w K (.Tuple elts kk tpos) (IteT K a) [e, it] e (fun i h => (∃ old, IsEnum h e it ((i : Nat) : Int) old) ∧ h.IsTupleIter it a i ∧ e ≠ it) where
  mem := by simp
  obj := fun i h st b hb => by
    obtain ⟨⟨old, he⟩, ⟨o, ho, hc, hd⟩, _⟩ := st
    have e' : b = e ∨ b = it := by simpa using hb
    rcases e' with z | z
    · rw [z]; exact ⟨_, he, fun v q => nomatch q⟩
    · rw [z]; exact ⟨o, ho, fun v q => by rw [hd] at q; cases q⟩
  keep := fun i h h' st k => let ⟨⟨old, he⟩, hi, hne⟩ := st; ⟨⟨old, k e (by simp) _ he⟩, hi.at fun o q => k it (by simp) o q, hne⟩
  item := by
    intro X hP hw hK hc i pins s σ H E I hf st hg
    subst hP hw hK
    obtain ⟨⟨old, he⟩, hit, hne⟩ := st
    obtain ⟨xs, x, hq, hx⟩ := hg
    obtain ⟨its, rv, p, hz⟩ := I.tuple hq
    obtain ⟨u, hu, ru⟩ := rv.get hx
    have ht : s.heap.IsTuple a its.toArray := p
    have hel : e < s.heap.objs.size := Heap.lt_size he
    have hil : it < s.heap.objs.size := by obtain ⟨_, q, _⟩ := hit; exact Heap.lt_size q
    have hae : a ≠ e := fun z => by
      obtain ⟨o, ho, hcl, _⟩ := ht
      rw [z] at ho
      have := he.symm.trans ho
      cases this
      exact absurd (Value.type.inj hcl) (by decide)
    have hai : a ≠ it := fun z => by
      obtain ⟨o, ho, hcl, _⟩ := ht
      obtain ⟨o2, ho2, hc2, _⟩ := hit
      rw [z] at ho
      have := ho2.symm.trans ho
      cases this
      rw [hc2] at hcl
      exact absurd (Value.type.inj hcl) (by decide)
    have hsz0 : i < its.toArray.size := by
      obtain ⟨hlt, _⟩ := List.getElem?_eq_some_iff.mp hu
      simpa using hlt
    refine wpAny_pyNext_enum_itemD (Draws.tuple (A := X.A.in1) (I.ok.hd hc) it a hai its.toArray) he ⟨hit, ht⟩ hsz0 hne (by simp; exact ⟨hne, Ne.symm hae⟩) fun y h' tk hy ho hst hT hsz hk => ?_
    have ey : y = u := by
      have h1 : its.toArray[i]? = some y := hy
      have h2 : its.toArray[i]? = some u := by simpa using hu
      rw [h2] at h1
      exact (Option.some.inj h1).symm
    subst ey
    refine ⟨_, rfl, wpAny_letOwnedTupleGo_enum (s := { s with heap := h', toks := tk + 1 }) ho fun h'' he' sb => ?_⟩
    have hT2 : h''.get? s.heap.objs.size = some { cls := .type "tuple", data := .seq #[.int i tk, y] } := (sb.2 _ (Nat.ne_of_gt hel)).trans hT
    have new : ObjOk X.prog X.w (upd H s.heap.objs.size (.frz { cls := .type "tuple", data := .seq #[.int i tk, y] } (.tup [.int (i : Nat), x]))) h'' s.heap.objs.size (.frz { cls := .type "tuple", data := .seq #[.int i tk, y] } (.tup [.int (i : Nat), x])) :=
      ⟨hT2, by show 2 ≤ sizeLine; decide, [.int i tk, y], .cons ⟨_, rfl⟩ (.cons ru .nil), ⟨_, hT2, rfl, _, rfl⟩⟩
    have I1 : Inv X pins σ (upd H s.heap.objs.size (.frz { cls := .type "tuple", data := .seq #[.int i tk, y] } (.tup [.int (i : Nat), x]))) { s with heap := h'', toks := tk + 1 } :=
      I.turnedNew (ch := [e, it]) (fun b ob hb q => (sb.2 b (fun z => hb (by simp [z]))).trans (hk b ob (fun z => hb (by simp [z])) (fun z => hb (by simp [z])) q)) hf (Nat.le_refl _) new
    refine ⟨.ref s.heap.objs.size, _, I1, rfl, ⟨_, _, x, rfl, I.hok.fresh (Nat.le_refl _), rfl, rfl, fun ys hy => by rw [I.tuple_inj hy hq]; exact hx⟩, ⟨⟨y, ?_⟩, hst.1.at fun o q => (sb.2 it (Ne.symm hne)).trans q, hne⟩, fun b hb => ?_⟩
    · have e1 : ((i + 1 : Nat) : Int) = (i : Int) + 1 := by omega
      rw [e1]; exact he'
    · have hb' : b < s.heap.objs.size := by
        have e' : b = e ∨ b = it := by simpa using hb
        rcases e' with z | z
        · rw [z]; exact hel
        · rw [z]; exact hil
      rw [upd_ne (Nat.ne_of_lt hb')]
      exact (hf b hb).1
  done := by
    intro X hP hw hK hc i pins s σ H E I hf st hg
    subst hP hw hK
    obtain ⟨⟨old, he⟩, hit, hne⟩ := st
    obtain ⟨xs, hq, hx⟩ := hg
    obtain ⟨its, rv, p, hz⟩ := I.tuple hq
    obtain ⟨f0, f1, f2, f3, f4, f5⟩ := hf it (by simp)
    have hl := rv.length
    have ht : s.heap.IsTuple a its.toArray := p
    show wpAny (model X.prog X.w) X.A (pyNext (.ref e)) _ E s
    have hT : s.TypeIs (.ref e) "enumerate" := ⟨_, he, rfl⟩
    unfold pyNext
    refine wpAny_bind (wpAny_attempt (wpAny_callSpecial?_slot (name := Str.ofString "__next__") hT F.slot_enumerate_next
      (wpAny_call_entry F.slot_enumerate_next hT F.entry_enumerate_next ?_ (F.args_enumerate_next_1 _))))
    show wpAny _ _ (field (.ref e) 2 >>= _) _ _ _
    refine wpAny_bind (wpAny_field he rfl (x := .ref it) rfl ?_)
    refine wpAny_bind (wpAny_nextOf_tuple_end (I.ok.hd hc) hit ht (by simp; omega) fun h' x he' hx' => ?_)
    obtain ⟨o, ho, hc'⟩ := hx'
    refine wpAny_bind (wpAny_isInstance (T := "StopIteration") (b := true) ⟨o, ho, hc'⟩ isSubtype_stop ?_)
    exact wpAny_pure ⟨rfl, I.turned (t' := s.toks) (fun b o hb q => he' b o hb q) f0 f1 f3 f4 f5⟩
  self := fun A i s Q E st h => let ⟨⟨_, he⟩, _⟩ := st; wpAny_pyIter_enum he h
theorem pi_enumT {X : Cx} {e : PySem.Expr} {ta : TA} {p pos tpos : Pos} {elts : List PySem.Expr} {kk : Nat} (hg : Gl X "enumerate") (hm : X.mg "enumerate" = none) (ha : PA X [e] ta) (hs : starEach [e] X.env = [(false, eval e X.env)]) :
    PI X (.Tuple elts kk tpos) (.Call (.Name "enumerate" p) [e] [] pos) (fun σ H R => ta σ H fun vs H1 => ∃ a xs, vs = [.ref a] ∧ SqT X.K H1 a xs ∧ R (IteT X.K a) H1) := by
  refine ⟨fun pins s σ H R I h => ?_⟩
  refine Call_ (ld_blt I hg hm boot_enumerate (PyProof.Rows.callWith_type1 (thn (ha.run pos pins s σ H _ I h) fun us s1 ⟨vs, H1, I1, r1, q1⟩ => ?_) hs rfl))
  obtain ⟨a, xs, ex, hq, q⟩ := q1
  subst ex
  cases r1 with
  | cons r rr =>
    cases rr
    cases r
    obtain ⟨its, rv, p', hz⟩ := I1.tuple hq
    refine call_enumerate_tuple (show s1.heap.IsTuple a its.toArray from p') fun h' he hit hsz hk => wpAny_pyIter_enum he ?_
    have I2 : Inv X pins σ H1 { s1 with heap := h' } := I1.kept (t' := s1.toks) hk
    refine ⟨s1.heap.objs.size + 1, [s1.heap.objs.size + 1, s1.heap.objs.size], _, _, H1, rfl, I2, turn_enumT a (s1.heap.objs.size + 1) s1.heap.objs.size, ⟨⟨.none, he⟩, hit, Nat.succ_ne_self _⟩, fun b hb => ?_, q⟩
    have e' : b = s1.heap.objs.size + 1 ∨ b = s1.heap.objs.size := by simpa using hb
    have hle : s1.heap.objs.size ≤ b := by
      rcases e' with z | z
      · rw [z]; exact Nat.le_add_right _ _
      · rw [z]; exact Nat.le_refl _
    exact I1.fpOk hle (I1.hok.fresh hle)
theorem enumD_get {xs : List PyData} {i : Nat} {d : PyData} (h : (enumD xs)[i]? = some d) : ∃ x, xs[i]? = some x ∧ d = .tuple [.int (i : Nat), x] := by
  unfold enumD at h
  rw [List.getElem?_map, List.getElem?_zipIdx] at h
  cases e : xs[i]? with
  | none =>
    rw [e] at h
    cases h
  | some x =>
    rw [e] at h
    cases h
    exact ⟨x, rfl, by simp⟩
theorem enumD_len {xs : List PyData} : (enumD xs).length = xs.length := by
  unfold enumD
  rw [List.length_map, List.length_zipIdx]
theorem src_enumT {K : PySem.W.Frag} {a : Addr} {vs : List V} {ds : List PyData} {M' : Hp} {Kp : Hp → Hp → Prop} (h : TupN K M' a vs) (r : RpA K M' ds vs) (hs : ∀ M2 H2, Kp M2 H2 → Same M' M2) : SrcOk K (IteT K a) (enumD ds) Kp := by
  intro M2 H2 sub kp i
  have hq : SqT K H2 a vs := ((h.mono (hs _ _ kp)).mono sub).sq
  refine ⟨fun d hd => ?_, fun hl => ⟨vs, hq, by rw [r.len, ← enumD_len]; exact hl⟩⟩
  obtain ⟨x, hx, rfl⟩ := enumD_get hd
  obtain ⟨v, hv, rv⟩ := r.get hx
  refine ⟨⟨vs, v, hq, hv⟩, fun y H3 hy => ?_⟩
  obtain ⟨T, o, x', rfl, hT, ho, rfl, hx'⟩ := hy
  cases Option.some.inj ((hx' vs hq).symm.trans hv)
  exact ⟨_, .new sub hT, .tup (.new ho) (.cons (.int _) (.cons (Rp.mono (same_upd (sub.free hT)) (rv.mono (hs _ _ kp))) .nil))⟩
section
variable {S : Type} {X : Cx} {c : Fm S}
theorem is_enumR {e : PySem.Expr} {es : List PySem.Expr} {kk : Nat} {p pos tpos : Pos} {m : Env → PV.M S PyData} (hg : Gl X "enumerate") (hm : X.mg "enumerate" = none) (h : PE X e (TR X.K c m)) (hs : starEach [e] X.env = [(false, eval e X.env)]) :
    PI X (.Tuple es kk tpos) (.Call (.Name "enumerate" p) [e] [] pos) (TId X c (KpR c.I) fun env => (do let ds ← (do let x ← m env; let xs ← (pure [] : PV.M S (List PyData)); pure (x :: xs)); ofO (srcD .enum ds))) := by
  refine (pi_enumT hg hm (pa_cons h pa_nil hs) hs).wk fun pins s σ H R _ q => ?_
  obtain ⟨M, env, z, gd, q⟩ := q
  have q0 := After.bd (m := (do let x ← m env; let xs ← (pure [] : PV.M S (List PyData)); pure (x :: xs))) q
  refine ⟨M, env, z, gd, (After.bd (m := m env) q0).imp fun d s1 q1 v M1 H1 x1 r1 => ?_⟩
  obtain ⟨items, e1, q2⟩ := After.ofO (K := X.K) (I := c.I) (J := c.J) (W := c.W) (σ := σ) (M := M) (H := H) q1
  cases d <;> try exact nomatch (show (none : Option (List PyData)) = some items from e1)
  case tuple ds =>
    cases e1
    obtain ⟨a, vs, rfl, hm, hh, ra⟩ := r1.tup x1.sub
    exact ⟨a, vs, rfl, hh.sq, q2 _ M1 H1 x1 (src_enumT hm ra fun _ _ k => k.1)⟩
theorem is_enumV {e : PySem.Expr} {es : List PySem.Expr} {kk : Nat} {p pos tpos : Pos} {m : Env → PV.M S PyData} (hg : Gl X "enumerate") (hm : X.mg "enumerate" = none) (h : PE X e (TV X.K c m)) (hs : starEach [e] X.env = [(false, eval e X.env)]) :
    PI X (.Tuple es kk tpos) (.Call (.Name "enumerate" p) [e] [] pos) (TId X c KpV fun env => (do let ds ← (do let x ← m env; let xs ← (pure [] : PV.M S (List PyData)); pure (x :: xs)); ofO (srcD .enum ds))) := by
  refine (pi_enumT hg hm (pa_cons h pa_nil hs) hs).wk fun pins s σ H R _ q => ?_
  obtain ⟨M, env, z, gd, q⟩ := q
  have q0 := After.bd (m := (do let x ← m env; let xs ← (pure [] : PV.M S (List PyData)); pure (x :: xs))) q
  refine ⟨M, env, z, gd, (After.bd (m := m env) q0).imp fun d s1 q1 v M1 H1 x1 r1 => ?_⟩
  obtain ⟨items, e1, q2⟩ := After.ofO (K := X.K) (I := c.I) (J := c.J) (W := c.W) (σ := σ) (M := M) (H := H) q1
  cases d <;> try exact nomatch (show (none : Option (List PyData)) = some items from e1)
  case tuple ds =>
    cases e1
    cases r1 with
    | @tup a vs _ ha ra => exact ⟨a, vs, rfl, (ha.mono x1.sub).sq, q2 _ M1 H1 x1 (src_enumT ha ra fun _ _ k => k)⟩
end
end PV
set_option Elab.async false
set_option linter.all false
set_option maxRecDepth 100000
set_option maxHeartbeats 4000000
/-! PV: zip of two tuples, each pair new and known. -/
namespace PV
open PySem PySem.Spec PyProof.Rows L2 RZ
/-- two known tuples side by side -/
def IteZ (K : PySem.W.Frag) (p q : Addr) : It where
  go := fun i H => ∃ (us ws : List V) (u w : V), (SqT K H p us ∧ us[i]? = some u) ∧ (SqT K H q ws ∧ ws[i]? = some w)
  yld := fun i H v H' => ∃ T o u w, v = .ref T ∧ H T = none ∧ o.dict = none ∧ H' = upd H T (.frz o (.tup [u, w])) ∧ (∀ us, SqT K H p us → us[i]? = some u) ∧ (∀ ws, SqT K H q ws → ws[i]? = some w)
  stop := fun i H => ∃ us ws : List V, (SqT K H p us ∧ SqT K H q ws) ∧ (us.length ≤ i ∨ ws.length ≤ i)
theorem five {P : Addr → Prop} {a b c d e x : Addr} (h : x ∈ [a, b, c, d, e]) (ha : P a) (hb : P b) (hc : P c) (hd : P d) (he : P e) : P x := by
  simp only [List.mem_cons, List.not_mem_nil, or_false] at h
  rcases h with rfl | rfl | rfl | rfl | rfl <;> assumption
/-- what stands on the heap at turn i -/
structure ZSt (p q zz ti tt n1 n2 : Addr) (i : Nat) (h : Heap) : Prop where
  zp : IsZip h zz ti tt .none
  ins : IsPair h ti (.ref n1) (.ref n2)
  out : ∃ x y, IsPair h tt x y
  fst : h.IsTupleIter n1 p i
  snd : h.IsTupleIter n2 q i
theorem turn_zipF {P : Program} {w : World} {K : PySem.W.Frag} {elts : List PySem.Expr} {kk : Nat} {tpos : Pos} {p q zz ti tt n1 n2 : Addr} (D : ZipApart zz ti tt n1 n2 p q) :
    Turn P w K (.Tuple elts kk tpos) (IteZ K p q) [zz, ti, tt, n1, n2] zz (fun i h => ZSt p q zz ti tt n1 n2 i h) where
  mem := List.mem_cons_self
  obj := fun i h st c hc => by
    obtain ⟨oa, ea, _, da⟩ := st.fst
    obtain ⟨ob, eb, _, db⟩ := st.snd
    obtain ⟨x, y, ho⟩ := st.out
    exact five (P := fun c => ∃ o, h.get? c = some o ∧ ∀ v, o.data ≠ .cell v) hc ⟨_, st.zp, fun v e => nomatch e⟩ ⟨_, st.ins, fun v e => nomatch e⟩ ⟨_, ho, fun v e => nomatch e⟩ ⟨oa, ea, fun v e => by rw [da] at e; cases e⟩ ⟨ob, eb, fun v e => by rw [db] at e; cases e⟩
  keep := fun i h h' st f => by
    obtain ⟨x, y, ho⟩ := st.out
    exact ⟨f zz (by simp) _ st.zp, f ti (by simp) _ st.ins, ⟨x, y, f tt (by simp) _ ho⟩, st.fst.at fun o e => f n1 (by simp) o e, st.snd.at fun o e => f n2 (by simp) o e⟩
  item := by
    intro X hP hw hK hc i pins s σ H E I hf st hg
    subst hP hw hK
    obtain ⟨x0, y0, ho⟩ := st.out
    obtain ⟨us, ws, u, w, ⟨hqu, hu⟩, ⟨hqw, hw⟩⟩ := hg
    obtain ⟨la, ra, pa, _⟩ := I.tuple hqu
    obtain ⟨lb, rb, pb, _⟩ := I.tuple hqw
    obtain ⟨va, ga, sa⟩ := ra.get hu
    obtain ⟨vb, gb, sb⟩ := rb.get hw
    have bz := Heap.lt_size st.zp
    refine pyNext_zipT_item D st.zp st.ins ho st.fst st.snd pa pb (x := va) (y := vb) (by simpa using ga) (by simpa using gb) fun h1 e1 e2 e3 e4 e5 sz kp => ?_
    refine ⟨_, rfl, wpAny_letOwnedTupleGo_zip (s := { s with heap := h1 }) e1 fun h2 e6 same => ?_⟩
    have new0 : h2.get? s.heap.objs.size = some { cls := .type "tuple", data := .seq #[va, vb] } := (same.2 _ (Nat.ne_of_gt bz)).trans e5
    have nok : ObjOk X.prog X.w (upd H s.heap.objs.size (.frz { cls := .type "tuple", data := .seq #[va, vb] } (.tup [u, w]))) h2 s.heap.objs.size (.frz { cls := .type "tuple", data := .seq #[va, vb] } (.tup [u, w])) :=
      ⟨new0, by show 2 ≤ sizeLine; decide, [va, vb], .cons sa (.cons sb .nil), ⟨_, new0, rfl, _, rfl⟩⟩
    have I2 : Inv X pins σ (upd H s.heap.objs.size (.frz { cls := .type "tuple", data := .seq #[va, vb] } (.tup [u, w]))) { s with heap := h2 } := by
      refine I.turnedNew (t' := s.toks) (ch := [zz, ti, tt, n1, n2]) (fun c o hb e => ?_) hf (Nat.le_refl _) nok
      have nz : c ≠ zz := fun z => hb (by rw [z]; exact List.mem_cons_self)
      exact (same.2 c nz).trans (kp c o nz (fun z => hb (by simp [z])) (fun z => hb (by simp [z])) (fun z => hb (by simp [z])) e)
    refine ⟨.ref s.heap.objs.size, _, I2, rfl, ⟨_, _, u, w, rfl, I.hok.fresh (Nat.le_refl _), rfl, rfl, fun l hl => by rw [I.tuple_inj hl hqu]; exact hu, fun l hl => by rw [I.tuple_inj hl hqw]; exact hw⟩, ⟨e6, (same.2 _ D.TIz).trans (kp _ _ D.TIz D.TITO D.TIi1 D.TIi2 st.ins), ⟨va, vb, (same.2 _ D.TOz).trans e2⟩, e3.at fun o e => (same.2 _ D.i1z).trans e, e4.at fun o e => (same.2 _ D.i2z).trans e⟩, fun c hcm => ?_⟩
    obtain ⟨oa, ea, _⟩ := st.fst
    obtain ⟨ob, eb, _⟩ := st.snd
    have below : c < s.heap.objs.size := five (P := fun c => c < s.heap.objs.size) hcm bz (Heap.lt_size st.ins) (Heap.lt_size ho) (Heap.lt_size ea) (Heap.lt_size eb)
    rw [upd_ne (Nat.ne_of_lt below)]
    exact (hf c hcm).1
  done := by
    intro X hP hw hK hc i pins s σ H E I hf st hg
    subst hP hw hK
    obtain ⟨x0, y0, ho⟩ := st.out
    obtain ⟨us, ws, ⟨hqu, hqw⟩, short⟩ := hg
    obtain ⟨la, ra, pa, _⟩ := I.tuple hqu
    obtain ⟨lb, rb, pb, _⟩ := I.tuple hqw
    have sa := ra.length
    have sb := rb.length
    have none' : la.toArray[i]? = none ∨ lb.toArray[i]? = none := short.imp (fun z => by simp; omega) fun z => by simp; omega
    refine pyNext_zipT_end (I.ok.hd hc) D st.zp st.ins ho st.fst st.snd pa pb none' fun h1 kp => ⟨rfl, I.turnedL (t' := s.toks) (ch := [zz, ti, tt, n1, n2]) (fun c o hb e => ?_) hf⟩
    exact kp c o (fun z => hb (by simp [z])) (fun z => hb (by simp [z])) (fun z => hb (by simp [z])) (fun z => hb (by simp [z])) e
  self := fun A i s Q E st h => wpAny_pyIter_zip st.zp h
theorem pi_zipF {X : Cx} {e1 e2 : PySem.Expr} {ta : TA} {p pos tpos : Pos} {elts : List PySem.Expr} {kk : Nat} (hg : Gl X "zip") (hm : X.mg "zip" = none) (ha : PA X [e1, e2] ta) (hs : starEach [e1, e2] X.env = (false, eval e1 X.env) :: starEach [e2] X.env) (hl : (backTo pos (starEach [e2] X.env)).any (·.1) = false) :
    PI X (.Tuple elts kk tpos) (.Call (.Name "zip" p) [e1, e2] [] pos) (fun σ H R => ta σ H fun vs H1 => ∃ a b us ws, vs = [.ref a, .ref b] ∧ (SqT X.K H1 a us ∧ SqT X.K H1 b ws) ∧ R (IteZ X.K a b) H1) := by
  refine ⟨fun pins s σ H R I h => Call_ (ld_blt I hg hm PyProof.Rows.boot_zip (PyProof.Rows.callWith_type1 (thn (ha.run pos pins s σ H _ I h) fun vs s1 ⟨xs, H1, I1, r1, q1⟩ => ?_) hs hl))⟩
  obtain ⟨a, b, us, ws, rfl, ⟨hqu, hqw⟩, q⟩ := q1
  cases r1 with
  | cons rx rr =>
    cases rr with
    | cons ry rr =>
      cases rr
      cases rx
      cases ry
      obtain ⟨la, ra, pa, _⟩ := I1.tuple hqu
      obtain ⟨lb, rb, pb, _⟩ := I1.tuple hqw
      have ba : a < s1.heap.objs.size := by obtain ⟨_, z, _⟩ := id pa; exact Heap.lt_size z
      have bb : b < s1.heap.objs.size := by obtain ⟨_, z, _⟩ := id pb; exact Heap.lt_size z
      refine call_zipT (show s1.heap.IsTuple a la.toArray from pa) (show s1.heap.IsTuple b lb.toArray from pb) fun h1 e1 e2 e3 e4 e5 sz kp => wpAny_pyIter_zip e1 ?_
      have fresh : ∀ c, s1.heap.objs.size ≤ c → FpOk X pins H1 c := fun c z => I1.fpOk z (I1.hok.fresh z)
      exact ⟨s1.heap.objs.size + 4, [s1.heap.objs.size + 4, s1.heap.objs.size + 2, s1.heap.objs.size + 3, s1.heap.objs.size, s1.heap.objs.size + 1], _, _, H1, rfl, I1.kept (t' := s1.toks) kp, turn_zipF (PySem.W.ktu_apart s1.heap.objs.size a b ba bb), ⟨e1, e2, ⟨_, _, e3⟩, e4, e5⟩,
        fun c hcm => five (P := fun c => FpOk X pins H1 c) hcm (fresh _ (by omega)) (fresh _ (by omega)) (fresh _ (by omega)) (fresh _ (by omega)) (fresh _ (by omega)), q⟩
theorem zipD_get {xs ys : List PyData} {i : Nat} {d : PyData} (h : (zipD xs ys)[i]? = some d) : ∃ x y, (xs[i]? = some x ∧ ys[i]? = some y) ∧ d = .tuple [x, y] := by
  unfold zipD at h
  rw [List.getElem?_zipWith] at h
  cases ex : xs[i]? with
  | none => rw [ex] at h; cases h
  | some x =>
    cases ey : ys[i]? with
    | none => rw [ex, ey] at h; cases h
    | some y =>
      rw [ex, ey] at h
      cases h
      exact ⟨x, y, ⟨rfl, rfl⟩, rfl⟩
theorem zipD_len {xs ys : List PyData} : (zipD xs ys).length = min xs.length ys.length := by
  unfold zipD
  rw [List.length_zipWith]
theorem src_zipF {K : PySem.W.Frag} {a b : Addr} {us ws : List V} {xs ys : List PyData} {M' : Hp} {Kp : Hp → Hp → Prop} (h : TupN K M' a us) (h' : TupN K M' b ws) (r : RpA K M' xs us) (r' : RpA K M' ys ws) (hs : ∀ M2 H2, Kp M2 H2 → Same M' M2) : SrcOk K (IteZ K a b) (zipD xs ys) Kp := by
  intro M2 H2 sub kp i
  have hq : SqT K H2 a us := ((h.mono (hs _ _ kp)).mono sub).sq
  have hq' : SqT K H2 b ws := ((h'.mono (hs _ _ kp)).mono sub).sq
  refine ⟨fun d hd => ?_, fun hl => ⟨us, ws, ⟨hq, hq'⟩, ?_⟩⟩
  · obtain ⟨x, y, ⟨hx, hy⟩, rfl⟩ := zipD_get hd
    obtain ⟨v, hv, rv⟩ := r.get hx
    obtain ⟨v', hv', rv'⟩ := r'.get hy
    refine ⟨⟨us, ws, v, v', ⟨hq, hv⟩, ⟨hq', hv'⟩⟩, fun z H3 hz => ?_⟩
    obtain ⟨T, o, u, w, rfl, hT, ho, rfl, fu, fw⟩ := hz
    cases Option.some.inj ((fu us hq).symm.trans hv)
    cases Option.some.inj ((fw ws hq').symm.trans hv')
    have up := same_upd (o := .frz o (.tup [v, v'])) (sub.free hT)
    exact ⟨_, .new sub hT, .tup (.new ho) (.cons (Rp.mono up (rv.mono (hs _ _ kp))) (.cons (Rp.mono up (rv'.mono (hs _ _ kp))) .nil))⟩
  · rw [zipD_len] at hl
    have l1 := r.len
    have l2 := r'.len
    omega
section
variable {S : Type} {X : Cx} {c : Fm S}
theorem zip_cases {ds items : List PyData} (h : srcD .zip ds = some items) : ∃ xs ys, ds = [.tuple xs, .tuple ys] ∧ items = zipD xs ys := by
  match ds, h with
  | [.tuple xs, .tuple ys], h => exact ⟨xs, ys, rfl, (Option.some.inj h).symm⟩
theorem is_zipR {e1 e2 : PySem.Expr} {es : List PySem.Expr} {kk : Nat} {p pos tpos : Pos} {m : Env → PV.M S (List PyData)} (hg : Gl X "zip") (hm : X.mg "zip" = none) (ha : PA X [e1, e2] (TRs X.K c m)) (hs : starEach [e1, e2] X.env = (false, eval e1 X.env) :: starEach [e2] X.env) (hl : (backTo pos (starEach [e2] X.env)).any (·.1) = false) :
    PI X (.Tuple es kk tpos) (.Call (.Name "zip" p) [e1, e2] [] pos) (TId X c (KpR c.I) fun env => (do let ds ← m env; ofO (srcD .zip ds))) := by
  refine (pi_zipF hg hm ha hs hl).wk fun pins s σ H R _ q => ?_
  obtain ⟨M, env, z, gd, q⟩ := q
  refine ⟨M, env, z, gd, (After.bd (m := m env) q).imp fun ds s1 q1 vs M1 H1 x1 r1 => ?_⟩
  obtain ⟨items, e1, q2⟩ := After.ofO q1
  obtain ⟨xs, ys, rfl, rfl⟩ := zip_cases e1
  obtain ⟨v1, v2, rfl, ra, rb⟩ := r1.two
  obtain ⟨a, us, rfl, ma, _, pa⟩ := ra.tup x1.sub
  obtain ⟨b, ws, rfl, mb, _, pb⟩ := rb.tup x1.sub
  exact ⟨a, b, us, ws, rfl, ⟨(ma.mono x1.sub).sq, (mb.mono x1.sub).sq⟩, q2 _ M1 H1 x1 (src_zipF ma mb pa pb fun _ _ k => k.1)⟩
theorem is_zipV {e1 e2 : PySem.Expr} {es : List PySem.Expr} {kk : Nat} {p pos tpos : Pos} {m : Env → PV.M S (List PyData)} (hg : Gl X "zip") (hm : X.mg "zip" = none) (ha : PA X [e1, e2] (TVs X.K c m)) (hs : starEach [e1, e2] X.env = (false, eval e1 X.env) :: starEach [e2] X.env) (hl : (backTo pos (starEach [e2] X.env)).any (·.1) = false) :
    PI X (.Tuple es kk tpos) (.Call (.Name "zip" p) [e1, e2] [] pos) (TId X c KpV fun env => (do let ds ← m env; ofO (srcD .zip ds))) := by
  refine (pi_zipF hg hm ha hs hl).wk fun pins s σ H R _ q => ?_
  obtain ⟨M, env, z, gd, q⟩ := q
  refine ⟨M, env, z, gd, (After.bd (m := m env) q).imp fun ds s1 q1 vs M1 H1 x1 r1 => ?_⟩
  obtain ⟨items, e1, q2⟩ := After.ofO q1
  obtain ⟨xs, ys, rfl, rfl⟩ := zip_cases e1
  cases r1 with
  | cons ra rr =>
    cases rr with
    | cons rb rr =>
      cases rr
      cases ra with
      | @tup a us _ ha pa =>
        cases rb with
        | @tup b ws _ hb pb => exact ⟨a, b, us, ws, rfl, ⟨(ha.mono x1.sub).sq, (hb.mono x1.sub).sq⟩, q2 _ M1 H1 x1 (src_zipF ha hb pa pb fun _ _ k => k)⟩
end
end PV
set_option Elab.async false
set_option linter.all false
set_option maxRecDepth 100000
set_option maxHeartbeats 8000000
/-! PV, tenth part: the look that a small term is the text's, and: then its evaluation is the machine's. -/
namespace PV
open PySem PySem.Spec PyProof.Rows L2

/-! ### the look -/
def notStar : PySem.Expr → Bool
  | .Starred .. => false
  | _ => true
def notSlice : PySem.Expr → Bool
  | .Slice .. => false
  | _ => true
def notSet : PySem.Expr → Bool
  | .Set .. => false
  | _ => true
def notCall : PySem.Expr → Bool
  | .Call _ [] _ _ => false
  | _ => true
def plainT : PySem.Expr → Bool
  | .BoolOp .. | .UnaryOp .Not _ _ | .IfExp .. | .Compare .. => false
  | _ => true
def all2 {α β : Type} (f : α → β → Bool) : List α → List β → Bool
  | [], [] => true
  | a :: r, b :: q => f a b && all2 f r q
  | _, _ => false
def okName (x : Str) : Bool := !(x == ("__debug__" : Str)) && !(x == ("__classdict__" : Str))
def visB (sc : Scope) (x : Str) : Bool := decide (sc.names.lookup x = some .local) || decide (sc.names.lookup x = some .cell) || decide (sc.names.lookup x = some .free)
def glbB (sc : Scope) (x : Str) : Bool := decide (sc.names.lookup x = some .globalImplicit) && okName x
def nameB (N : List Str) (sc : Scope) (x : Str) (i : Nat) : Bool := decide (N[i]? = some x) && visB sc x && okName x
def tgB (N : List Str) (sc : Scope) (fb : Str → Bool) (x : Str) (i : Nat) : Bool := decide (N[i]? = some x) && (decide (sc.names.lookup x = some .local) || (decide (sc.names.lookup x = some .cell) && fb x))
def ckTgs (N : List Str) (sc : Scope) (fb : Str → Bool) : List PySem.Expr → List Nat → Bool
  | [], [] => true
  | .Name x _ :: r, i :: is => tgB N sc fb x i && ckTgs N sc fb r is
  | _, _ => false
def ckTg (N : List Str) (sc : Scope) (fb : Str → Bool) : PySem.Expr → Tg → Bool
  | .Name x _, .nm i => tgB N sc fb x i
  | .Tuple es _ _, .tup is => ckTgs N sc fb es is
  | _, _ => false
def conB : Const → Sc → Bool
  | .none, .non => true
  | .bool a, .bl b => a == b
  | .int a, .int b => decide (a = b)
  | .str a, .str b => decide (a = b)
  | _, _ => false
def primN : Prim → Str
  | .len => "len" | .tuple => "tuple" | .list => "list" | .int => "int" | .abs => "abs" | .sum => "sum" | .all => "all" | .any => "any" | .isinst _ => "isinstance" | .str => "str" | .min2 => "min" | .max2 => "max" | .gcd => "gcd" | .max1 => "max" | .sorted => "sorted"
def notIsi : Prim → Bool
  | .isinst _ => false
  | _ => true
def ckOpt (f : PySem.Expr → Ex → Bool) : Option PySem.Expr → Option Ex → Bool
  | none, none => true
  | some e, some x => f e x
  | _, _ => false
/-- enumerate's pairs go to names at once -/
def tgOk (k : SrcK) (tg : PySem.Expr) : Bool := match k with
  | .enum => (match tg with | .Tuple .. => true | _ => false)
  | .zip => (match tg with | .Tuple .. => true | _ => false)
  | _ => true
def notSetK (k : SrcK) (tg it : PySem.Expr) : Bool := notSet it && tgOk k tg
/-- what a for walks -/
def ckSrc (f : PySem.Expr → Ex → Bool) (sc : Scope) (it : PySem.Expr) (k : SrcK) (src : List Ex) : Bool := match k, src with
  | .seq, [x] => notSet it && f it x
  | .rng1, [x] => (match it with
    | .Call (.Name g _) [a] [] _ => decide (g = "range") && glbB sc g && notStar a && f a x
    | _ => false)
  | .rng2, [x, y] => (match it with
    | .Call (.Name g _) [a, b] [] _ => decide (g = "range") && glbB sc g && notStar a && notStar b && f a x && f b y
    | _ => false)
  | .enum, [x] => (match it with
    | .Call (.Name g _) [a] [] _ => decide (g = "enumerate") && glbB sc g && notStar a && f a x
    | _ => false)
  | .zip, [x, y] => (match it with
    | .Call (.Name g _) [a, b] [] _ => decide (g = "zip") && glbB sc g && notStar a && notStar b && f a x && f b y
    | _ => false)
  | _, _ => false
/-- what a comprehension walks: a range object under a name, too -/
def ckSrcR (f : PySem.Expr → Ex → Bool) (sc : Scope) (it : PySem.Expr) (k : SrcK) (src : List Ex) : Bool := match k with
  | .rv => (match src with
    | [x] => (match it with
      | .Name _ _ => f it x
      | _ => false)
    | _ => false)
  | _ => ckSrc f sc it k src
variable (N : List Str) (gcd : Bool)
mutual
def ckE : Nat → Scope → PySem.Expr → Ex → Bool
  | 0, _, _, _ => false
  | n + 1, sc, e, x => match e with
    | .BoolOp op [a] _ => ckE n sc a x
    | e => match x with
      | .var i => (match e with | .Name y _ => nameB N sc y i | _ => false)
      | .con c => (match e with | .Constant k _ _ => conB k c | _ => false)
      | .glob z => (match e with | .Name y _ => decide (y = z) && glbB sc y | _ => false)
      | .bop o x y => (match e with | .BinOp a op b _ => decide (op = opB o) && ckE n sc a x && ckE n sc b y | _ => false)
      | .neg x => (match e with | .UnaryOp .USub a _ => ckE n sc a x | _ => false)
      | .cmp o x y => (match e with | .Compare a [op] [b] _ => decide (op = opC o) && !behindInMarks op b && ckE n sc a x && ckE n sc b y | _ => false)
      | .chain o1 o2 x y z => (match e with | .Compare a [p, q] [b, d] _ => decide (p = opC o1) && decide (q = opC o2) && !lastMarks [p, q] [b, d] && ckE n sc a x && ckE n sc b y && ckE n sc d z | _ => false)
      | .and x y => (match e with | .BoolOp .And (a :: b :: r) pos => ckE n sc a x && ckE n sc (.BoolOp .And (b :: r) pos) y | _ => false)
      | .or x y => (match e with | .BoolOp .Or (a :: b :: r) pos => ckE n sc a x && ckE n sc (.BoolOp .Or (b :: r) pos) y | _ => false)
      | .not x => (match e with | .UnaryOp .Not a _ => ckE n sc a x | _ => false)
      | .ite t x y => (match e with | .IfExp u a b _ => ckT n sc u t && ckE n sc a x && ckE n sc b y | _ => false)
      | .idx x y => (match e with | .Subscript a i _ => notSlice i && ckE n sc a x && ckE n sc i y | _ => false)
      | .slc x l h => (match e with | .Subscript a (.Slice lo hi none _) _ => ckE n sc a x && ckOpt (ckE n sc) lo l && ckOpt (ckE n sc) hi h | _ => false)
      | .tup xs => (match e with | .Tuple es _ _ => es.all notStar && all2 (ckE n sc) es xs | _ => false)
      | .lst xs => (match e with | .List es _ => es.all notStar && all2 (ckE n sc) es xs | _ => false)
      | .call g xs => (match e with | .Call (.Name f _) es [] _ => decide (f = g) && glbB sc f && es.all notStar && all2 (ckE n sc) es xs | _ => false)
      | .prim p xs => (match e with
        | .Call (.Name f _) (a :: es) [] _ => decide (f = primN p) && glbB sc f && (match p, es, xs with
          | .isinst t, [.Name m _], [x] => decide (m = Str.ofString (tyNm t)) && glbB sc m && notStar a && ckE n sc a x
          | p, es, xs => notIsi p && (a :: es).all notStar && all2 (ckE n sc) (a :: es) xs && (gcd || !decide (p = .gcd)))
        | _ => false)
      | .meth m x xs => (match m, e, xs with
        | .index, .Call (.Attribute o f ap) [a] [] cp, [y] => decide (f = "index") && (ap.endLine == cp.line) && notCall o && notStar a && ckE n sc o x && ckE n sc a y
        | .count, .Call (.Attribute o f ap) [a] [] cp, [y] => decide (f = "count") && (ap.endLine == cp.line) && notCall o && notStar a && ckE n sc o x && ckE n sc a y
        | _, _, _ => false)
      | .trng x => (match e with
        | .Call (.Name f _) [.Call (.Name g _) [a] [] _] [] _ => decide (f = "tuple") && glbB sc f && decide (g = "range") && glbB sc g && notStar a && ckE n sc a x
        | _ => false)
      | .stp x l k => (match e with
        | .Subscript a (.Slice b none (some (.Constant (.int i) _ _)) _) _ => decide (i = (k : Int)) && ckE n sc a x && ckOpt (ckE n sc) b l
        | _ => false)
      | .fus k x => (match k, e with
        | .rev, .Subscript a (.Slice none none (some (.UnaryOp .USub (.Constant (.int 1) _ _) _)) _) _ => ckE n sc a x
        | .sset, .Call (.Name f _) [.Call (.Name g _) [a] [] _] [] _ => decide (f = "sorted") && glbB sc f && decide (g = "set") && glbB sc g && notStar a && ckE n sc a x
        | .lset, .Call (.Name f _) [.Call (.Name g _) [a] [] _] [] _ => decide (f = "len") && glbB sc f && decide (g = "set") && glbB sc g && notStar a && ckE n sc a x
        | .lrng, .Call (.Name f _) [.Call (.Name g _) [a] [] _] [] _ => decide (f = "list") && glbB sc f && decide (g = "range") && glbB sc g && notStar a && ckE n sc a x
        | _, _ => false)
      | .comp ex t k src fs slots => (match e with
        | .ListComp elt [⟨tg, it, ifs, 0⟩] scope _ => blkC N sc scope (slots.map fun i => (N.getD i "", i)) && ckSrcR (ckE n sc) sc it k src && notSetK k tg it && ckTg N (relS scope sc) (fun y => scope.names.lookup y == some .cell) tg t &&
            (tgSlots t).all (fun i => slots.contains i) && (match ifs, fs with | [], [] => true | [c], [u] => ckT n (relS scope sc) c u | _, _ => false) && ckE n (relS scope sc) elt ex
        | _ => false)
      | .comp2 ex t k src t2 k2 src2 fs slots slots2 => (match e with
        | .ListComp elt [⟨tg, it, [], 0⟩, ⟨tg2, it2, ifs, 0⟩] scope _ => blkC N sc scope (slots.map fun i => (N.getD i "", i)) && ckSrcR (ckE n sc) sc it k src && notSetK k tg it && ckTg N (relS scope sc) (fun y => scope.names.lookup y == some .cell) tg t &&
            (tgSlots t).all (fun i => slots.contains i) && ckSrc (ckE n (relS scope sc)) (relS scope sc) it2 k2 src2 && notSetK k2 tg2 it2 && ckTg N (relS scope sc) (fun y => scope.names.lookup y == some .cell) tg2 t2 &&
            (tgSlots t2).all (fun i => slots2.contains i) && slots2.all (fun i => slots.contains i) && (match ifs, fs with | [], [] => true | [c], [u] => ckT n (relS scope sc) c u | _, _ => false) && ckE n (relS scope sc) elt ex
        | _ => false)
      | .comp3 ex t k src t2 k2 src2 t3 k3 src3 slots slots2 slots3 => (match e with
        | .ListComp elt [⟨tg, it, [], 0⟩, ⟨tg2, it2, [], 0⟩, ⟨tg3, it3, [], 0⟩] scope _ => blkC N sc scope (slots.map fun i => (N.getD i "", i)) && (ckSrcR (ckE n sc) sc it k src && notSetK k tg it && ckTg N (relS scope sc) (fun y => scope.names.lookup y == some .cell) tg t &&
            (tgSlots t).all (fun i => slots.contains i)) && (ckSrc (ckE n (relS scope sc)) (relS scope sc) it2 k2 src2 && notSetK k2 tg2 it2 && ckTg N (relS scope sc) (fun y => scope.names.lookup y == some .cell) tg2 t2 &&
            (tgSlots t2).all (fun i => slots2.contains i) && slots2.all (fun i => slots.contains i)) && (ckSrc (ckE n (relS scope sc)) (relS scope sc) it3 k3 src3 && notSetK k3 tg3 it3 && ckTg N (relS scope sc) (fun y => scope.names.lookup y == some .cell) tg3 t3 &&
            (tgSlots t3).all (fun i => slots3.contains i) && slots3.all (fun i => slots2.contains i)) && ckE n (relS scope sc) elt ex
        | _ => false)
def ckT : Nat → Scope → PySem.Expr → Tx → Bool
  | 0, _, _, _ => false
  | n + 1, sc, e, t => match e with
    | .BoolOp op [a] _ => ckT n sc a t
    | e => match t with
      | .and x y => (match e with | .BoolOp .And (a :: b :: r) pos => ckT n sc a x && ckT n sc (.BoolOp .And (b :: r) pos) y | _ => false)
      | .or x y => (match e with | .BoolOp .Or (a :: b :: r) pos => ckT n sc a x && ckT n sc (.BoolOp .Or (b :: r) pos) y | _ => false)
      | .not x => (match e with | .UnaryOp .Not a _ => ckT n sc a x | _ => false)
      | .e x => (match e, x with
        | .Compare a [op] [b] _, .cmp o y z => decide (op = opC o) && !behindInMarks op b && ckE n sc a y && ckE n sc b z
        | .Compare a [p, q] [b, d] _, .chain o1 o2 u v w => decide (p = opC o1) && decide (q = opC o2) && !lastMarks [p, q] [b, d] && ckE n sc a u && ckE n sc b v && ckE n sc d w
        | e, x => plainT e && ckE n sc e x)
end
end PV
set_option Elab.async false
set_option linter.all false
set_option maxRecDepth 100000
set_option maxHeartbeats 8000000
/-! PV, eleventh part: an expression that passes the look is evaluated as the small term is. -/
namespace PV
open PySem PySem.Spec PyProof.Rows L2
abbrev fm {S : Type} (C : SE S) (H0 M0 : Hp) (W : WX) : Fm S := ⟨C.I, C.J, H0, M0, W⟩
def isF : Ex → Bool
  | .bop .. | .slc .. | .lst _ | .comp .. | .comp2 .. | .comp3 .. | .fus .. | .stp .. => true
  | .prim p _ => notIsi p
  | _ => false
section
variable {S : Type} {X : Cx} {c : Fm S} {K : PySem.W.Frag}
theorem star_cons {e : PySem.Expr} {es : List PySem.Expr} {env : PySem.Env} (h : notStar e = true) : starEach (e :: es) env = (false, eval e env) :: starEach es env := by
  cases e <;> first | rfl | cases h
theorem star_any {pos : Pos} {env : PySem.Env} : ∀ {es : List PySem.Expr}, es.all notStar = true → (backTo pos (starEach es env)).any (·.1) = false
  | [], _ => rfl
  | e :: es, h => by
    rw [List.all_cons] at h
    obtain ⟨h1, h2⟩ := Bool.and_eq_true_iff.mp h
    rw [star_cons h1]
    show (false || (backTo pos (starEach es env)).any (·.1)) = false
    rw [star_any h2]
    rfl
theorem glb_of {x : Str} (h : glbB X.env.scope x = true) : Gl X x ∧ (x == ("__debug__" : Str)) = false := by
  obtain ⟨h1, h2⟩ := Bool.and_eq_true_iff.mp h
  obtain ⟨h3, _⟩ := Bool.and_eq_true_iff.mp h2
  exact ⟨(of_decide_eq_true h1 : X.env.scope.names.lookup x = some .globalImplicit), by simpa using h3⟩
theorem name_of {x : Str} {i : Nat} (h : nameB X.N X.env.scope x i = true) : X.N[i]? = some x ∧ Vis X.env.scope x ∧ (x == ("__debug__" : Str)) = false ∧ (x == ("__classdict__" : Str)) = false := by
  obtain ⟨h1, h2⟩ := Bool.and_eq_true_iff.mp h
  obtain ⟨h3, h4⟩ := Bool.and_eq_true_iff.mp h1
  obtain ⟨h5, h6⟩ := Bool.and_eq_true_iff.mp h2
  refine ⟨of_decide_eq_true h3, ?_, by simpa using h5, by simpa using h6⟩
  rcases Bool.or_eq_true_iff.mp h4 with h | h
  · rcases Bool.or_eq_true_iff.mp h with h | h
    · exact .inl (of_decide_eq_true h)
    · exact .inr (.inl (of_decide_eq_true h))
  · exact .inr (.inr (of_decide_eq_true h))
theorem tg_of {x : Str} {i : Nat} {fb : Str → Bool} (hfb : ∀ x, fb x = true → X.fn x = true) (h : tgB X.N X.env.scope fb x i = true) : X.N[i]? = some x ∧ Loc X.env.scope x ∧ (X.fn x = true ∨ X.env.scope.names.lookup x = some .local) := by
  obtain ⟨h1, h2⟩ := Bool.and_eq_true_iff.mp h
  refine ⟨of_decide_eq_true h1, ?_⟩
  rcases Bool.or_eq_true_iff.mp h2 with h | h
  · exact ⟨.inl (of_decide_eq_true h), .inr (of_decide_eq_true h)⟩
  · obtain ⟨h3, h4⟩ := Bool.and_eq_true_iff.mp h
    exact ⟨.inr (of_decide_eq_true h3), .inl (hfb _ h4)⟩
theorem pgs_of {fb : Str → Bool} (nd : X.N.Nodup) (hfb : ∀ x, fb x = true → X.fn x = true) : ∀ {es : List PySem.Expr} {is : List Nat}, ckTgs X.N X.env.scope fb es is = true →
    PGs X es (gSlots is) ∧ (assignEach es X.env).length = is.length ∧ (assignEach es X.env).findIdx? (·.1) = none
  | [], [], _ => ⟨pgs_nil, rfl, rfl⟩
  | [], _ :: _, h => by simp [ckTgs] at h
  | e :: es, is, h => by
    cases e <;> try (simp [ckTgs] at h; done)
    rename_i x p
    cases is with
    | nil => simp [ckTgs] at h
    | cons i is =>
      obtain ⟨h1, h2⟩ := Bool.and_eq_true_iff.mp h
      obtain ⟨a, b, d⟩ := tg_of hfb h1
      obtain ⟨g1, g2, g3⟩ := pgs_of nd hfb h2
      refine ⟨pgs_cons (pg_name nd a b d) g1, congrArg (· + 1) g2, ?_⟩
      show List.findIdx? _ ((false, _) :: assignEach es X.env) = none
      rw [List.findIdx?_cons, g3]
      rfl
theorem pg_of {fb : Str → Bool} (nd : X.N.Nodup) (hc : X.calm = true) (hfb : ∀ x, fb x = true → X.fn x = true) {e : PySem.Expr} {t : Tg} (h : ckTg X.N X.env.scope fb e t = true) : PG X e (TGd X.K c t) := by
  cases e <;> try (simp [ckTg] at h; done)
  · rename_i x p
    cases t with
    | nm i =>
      obtain ⟨a, b, d⟩ := tg_of hfb h
      exact ⟨fun pins s σ H v u Q I r q => (pg_name nd a b d).run pins s σ H v u Q I r (gd_nm q)⟩
    | tup is => simp [ckTg] at h
  · rename_i es k p
    cases t with
    | nm i => simp [ckTg] at h
    | tup is =>
      obtain ⟨g1, g2, g3⟩ := pgs_of nd hfb h
      exact ⟨fun pins s σ H v u Q I r q => (pg_tl hc g1 g2 g3).run pins s σ H v u Q I r (gd_tup q)⟩
theorem fold_set {e : PySem.Expr} {env : PySem.Env} (h : notSet e = true) : ∀ x, foldedSetIterable e env x = pure x := by
  intro x
  cases e <;> first | rfl | cases h
theorem plain_ix {e : PySem.Expr} (h : notSlice e = true) : PlainIx e := by
  intro o i
  cases e <;> first | rfl | cases h
theorem attr_base {e : PySem.Expr} {n : Str} {env : PySem.Env} (h : notCall e = true) : attributeBase e n env (eval e env) = eval e env := by
  cases e <;> try rfl
  rename_i f as ks pos
  cases as with
  | nil => cases h
  | cons a as => cases f <;> rfl
theorem plain_t {e : PySem.Expr} {env : PySem.Env} (h : plainT e = true) : ∀ whole, isTrue e env whole = (do let v ← whole; standAt e.pos; holding [v] (truthy v)) := by
  intro w
  cases e <;> first | rfl | (cases h; done) | skip
  rename_i op a p
  cases op <;> first | rfl | cases h
theorem rp_int1 {M' H' : Hp} {n : Int} {vs : List V} (h : RpRA K c.I M' H' [.int n] vs) : vs = [.int n] := by
  obtain ⟨x, rfl, r⟩ := h.one
  rw [r.int]
theorem rp_int2 {M' H' : Hp} {n k : Int} {vs : List V} (h : RpRA K c.I M' H' [.int n, .int k] vs) : vs = [.int n, .int k] := by
  obtain ⟨x, y, rfl, r, q⟩ := h.two
  rw [r.int, q.int]
theorem rv_int1 {M' : Hp} {n : Int} {vs : List V} (h : RpA K M' [.int n] vs) : vs = [.int n] := by
  cases h with
  | cons h r =>
    cases r
    cases h
    rfl
theorem rv_int2 {M' : Hp} {n k : Int} {vs : List V} (h : RpA K M' [.int n, .int k] vs) : vs = [.int n, .int k] := by
  cases h with
  | cons h r =>
    cases r with
    | cons h2 r =>
      cases r
      cases h
      cases h2
      rfl
theorem Stc.blk {C : SE S} {W : WX} (st : Stc X C W) (s : Shared) (H : Hp) (scope : Scope) (e : PySem.Env) (fp : List Addr) : Stc (X.blk s H scope e fp) C (fun _ _ _ _ => False) :=
  ⟨st.nd, st.calm, takes_none5, st.room, st.blt, st.gcd, st.fns, st.glb⟩
/-- built-in calls -/
theorem pe_prim {C : SE S} {W : WX} {H0 M0 : Hp} (st : Stc X C W) {p : Prim} (hp : notIsi p = true) (hgc : p = .gcd → C.gcd = true) {p0 pos : Pos} {e : PySem.Expr} {es : List PySem.Expr} {m : Env → PV.M S (List PyData)} (hg : Gl X (primN p)) (hs : (e :: es).all notStar = true)
    (ha : PA X (e :: es) (TRs X.K (fm C H0 M0 W) m)) : PE X (.Call (.Name (primN p) p0) (e :: es) [] pos) (TF X.K (fm C H0 M0 W) fun env => (do let ds ← m env; ofO (primD p ds))) := by
  rw [List.all_cons] at hs
  obtain ⟨h1, h2⟩ := Bool.and_eq_true_iff.mp hs
  have he : starEach (e :: es) X.env = (false, eval e X.env) :: starEach es X.env := star_cons h1
  have hpl : (backTo pos (starEach es X.env)).any (·.1) = false := star_any h2
  refine pd_callB ?_
  cases p with
  | len => exact pe_callB ca_len.callR hg (st.blt _ (by decide +kernel)) boot_len ha (by decide) (by decide) he hpl
  | tuple => exact pe_callTy ca_tuple.callR hg (st.blt _ (by decide +kernel)) PyProof.Rows.boot_tuple ha (by decide) (by decide) he hpl
  | list => exact pe_callTy ca_list.callR hg (st.blt _ (by decide +kernel)) PyProof.Rows.boot_list ha (by decide) (by decide) he hpl
  | int => exact pe_callTy ca_int.callR hg (st.blt _ (by decide +kernel)) PyProof.Rows.boot_int ha (by decide) (by decide) he hpl
  | abs => exact pe_callB ca_abs.callR hg (st.blt _ (by decide +kernel)) PyProof.Rows.boot_abs ha (by decide) (by decide) he hpl
  | sum => exact pe_callB (ca_sum st.calm).callR hg (st.blt _ (by decide +kernel)) PyProof.Rows.boot_sum ha (by decide) (by decide) he hpl
  | all => exact pe_callB (ca_all st.calm).callR hg (st.blt _ (by decide +kernel)) PyProof.Rows.boot_all ha (by decide) (by decide) he hpl
  | any => exact pe_callB (ca_any st.calm).callR hg (st.blt _ (by decide +kernel)) PyProof.Rows.boot_any ha (by decide) (by decide) he hpl
  | isinst t => cases hp
  | str => exact pe_callTy ca_str.callR hg (st.blt _ (by decide +kernel)) PyProof.Rows.boot_str ha (by decide) (by decide) he hpl
  | min2 => exact pe_callB (ca_min2 st.calm).callR hg (st.blt _ (by decide +kernel)) PyProof.Rows.boot_min ha (by decide) (by decide) he hpl
  | max2 => exact pe_callB (ca_max2 st.calm).callR hg (st.blt _ (by decide +kernel)) PyProof.Rows.boot_max ha (by decide) (by decide) he hpl
  | max1 => exact pe_callB (ca_max1 st.calm (by have := st.room.un; omega)).callR hg (st.blt _ (by decide +kernel)) PyProof.Rows.boot_max ha (by decide) (by decide) he hpl
  | sorted => exact pe_callB ca_sorted.callR hg (st.blt _ (by decide +kernel)) (by decide +kernel) ha (by decide) (by decide) he hpl
  | gcd => exact pe_callBfun ca_gcd.callR hg (st.gcd (hgc rfl)) ha (by decide) he hpl

/-- what is known of all terms of a depth -/
def SndE (S : Type) (n : Nat) : Prop := ∀ (X : Cx) (C : SE S) (H0 M0 : Hp) (W : WX), Stc X C W → ∀ e x, ckE X.N C.gcd n X.env.scope e x = true → PE X e (TV X.K (fm C H0 M0 W) (evE C.T C.G x)) ∧ (isF x = true → PE X e (TF X.K (fm C H0 M0 W) (evE C.T C.G x)))
def SndT (S : Type) (n : Nat) : Prop := ∀ (X : Cx) (C : SE S) (H0 M0 : Hp) (W : WX), Stc X C W → ∀ e t, ckT X.N C.gcd n X.env.scope e t = true → PT X e (TB X.K (fm C H0 M0 W) (evT C.T C.G t)) ∧ ∀ op es pos, e = .BoolOp op es pos → PW X e (TB X.K (fm C H0 M0 W) (evT C.T C.G t))
variable {n : Nat} {C : SE S} {H0 M0 : Hp} {W : WX}
theorem rd_var_ck (nd : True) {i : Nat} {m : Env → PV.M S PyData} : ∀ {n : Nat} {e : PySem.Expr}, ckE X.N C.gcd n X.env.scope e (.var i) = true → PE X e (TR X.K (fm C H0 M0 W) fun env => rdE (.var i) env (m env)) := by
  intro n
  induction n with
  | zero => intro e h; exact nomatch h
  | succ n ih =>
    intro e h
    unfold ckE at h
    split at h
    · exact pe_one (ih h)
    · dsimp only at h
      split at h
      · obtain ⟨h1, h2, h3, h4⟩ := name_of h
        exact rd_var h1 h2 h3 h4
      · cases h
/-- .. read -/
theorem rd_of (st : Stc X C W) {x : Ex} {e : PySem.Expr} (sn : SndE S n) (h : ckE X.N C.gcd n X.env.scope e x = true) : PE X e (TR X.K (fm C H0 M0 W) fun env => rdE x env (evE C.T C.G x env)) := by
  cases x with
  | var i => exact rd_var_ck trivial h
  | _ => exact (sn X C H0 M0 W st e _ h).1.wk fun _ _ _ _ _ _ q => TR_TV q
/-- an argument: data, or the hand -/
def PA_ (K : PySem.W.Frag) (I : HI S) (_ M' _ : Hp) (a : AV) (v : V) : Prop := match a with
  | .d d => Rp K M' d v
  | .h => v = .ref I.za
theorem arg_var_ck {i : Nat} {m : Env → PV.M S PyData} : ∀ {n : Nat} {e : PySem.Expr}, ckE X.N C.gcd n X.env.scope e (.var i) = true → PE X e (TD X.K C.I H0 M0 C.J W (PA_ X.K C.I) fun env => argE (.var i) env (m env)) := by
  intro n
  induction n with
  | zero => intro e h; exact nomatch h
  | succ n ih =>
    intro e h
    unfold ckE at h
    split at h
    · exact pe_one (ih h)
    · dsimp only at h
      split at h
      · obtain ⟨h1, h2, h3, h4⟩ := name_of h
        refine (pe_var h1 h2 h3 h4).wk fun pins s σ H Q _ q => ?_
        obtain ⟨M, env, z, g, q⟩ := q
        cases e : env[i]? with
        | none =>
          simp only [argE, e] at q
          exact (show False from q).elim
        | some y =>
          cases y with
          | v d =>
            simp only [argE, e] at q
            obtain ⟨ov, e1, v, rfl, r⟩ := g.sl i _ e
            exact ⟨v, e1, q v M H (.rfl g.ok) r⟩
          | hand =>
            simp only [argE, e] at q
            obtain ⟨ov, e1, rfl⟩ := g.sl i _ e
            exact ⟨.ref C.I.za, e1, q (.ref C.I.za) M H (.rfl g.ok) rfl⟩
          | _ =>
            simp only [argE, e] at q
            exact (show False from q).elim
      · cases h
theorem arg_of (st : Stc X C W) {x : Ex} {e : PySem.Expr} (sn : SndE S n) (h : ckE X.N C.gcd n X.env.scope e x = true) : PE X e (TD X.K C.I H0 M0 C.J W (PA_ X.K C.I) fun env => argE x env (evE C.T C.G x env)) := by
  have go : ∀ m : Env → PV.M S PyData, PE X e (TV X.K (fm C H0 M0 W) m) → PE X e (TD X.K C.I H0 M0 C.J W (PA_ X.K C.I) fun env => (do let d ← m env; pure (.d d))) := fun m hm => by
    refine hm.wk fun pins s σ H Q _ q => ?_
    obtain ⟨M, env, z, g, q⟩ := q
    exact ⟨M, env, z, g, (After.bd (m := m env) q).imp fun d s1 q1 v M1 H1 x1 r1 => q1 v M1 H1 x1 r1⟩
  cases x with
  | var i => exact arg_var_ck h
  | _ => exact go _ (sn X C H0 M0 W st e _ h).1
theorem vs_of (st : Stc X C W) (sn : SndE S n) : ∀ {es : List PySem.Expr} {xs : List Ex}, es.all notStar = true → all2 (ckE X.N C.gcd n X.env.scope) es xs = true → PA X es (TVs X.K (fm C H0 M0 W) (evEs C.T C.G xs))
  | [], [], _, _ => pas_nil fun _ _ => .nil
  | [], _ :: _, _, h => nomatch h
  | _ :: _, [], _, h => nomatch h
  | e :: es, x :: xs, hs, h => by
    rw [List.all_cons] at hs
    obtain ⟨s1, s2⟩ := Bool.and_eq_true_iff.mp hs
    obtain ⟨h1, h2⟩ := Bool.and_eq_true_iff.mp h
    exact pas_cons (f := id) (sn X C H0 M0 W st e x h1).1 (vs_of st sn s2 h2) (star_cons s1) fun H M1 H1 M2 H2 s1 s2 d v ds vs r x k q => .cons (Rp.mono (x.mm k) r) q
theorem rs_of (st : Stc X C W) (sn : SndE S n) : ∀ {es : List PySem.Expr} {xs : List Ex}, es.all notStar = true → all2 (ckE X.N C.gcd n X.env.scope) es xs = true → PA X es (TRs X.K (fm C H0 M0 W) (evRs C.T C.G xs))
  | [], [], _, _ => pas_nil fun _ _ => .nil
  | [], _ :: _, _, h => nomatch h
  | _ :: _, [], _, h => nomatch h
  | e :: es, x :: xs, hs, h => by
    rw [List.all_cons] at hs
    obtain ⟨s1, s2⟩ := Bool.and_eq_true_iff.mp hs
    obtain ⟨h1, h2⟩ := Bool.and_eq_true_iff.mp h
    exact pas_cons (f := id) (rd_of st sn h1) (rs_of st sn s2 h2) (star_cons s1) fun H M1 H1 M2 H2 s1 s2 d v ds vs r x k q => .cons (r.mono k x) q
theorem as_of (st : Stc X C W) (sn : SndE S n) : ∀ {es : List PySem.Expr} {xs : List Ex}, es.all notStar = true → all2 (ckE X.N C.gcd n X.env.scope) es xs = true → PA X es (TAs X.K (fm C H0 M0 W) (evAs C.T C.G xs))
  | [], [], _, _ => pas_nil fun _ _ => .nil
  | [], _ :: _, _, h => nomatch h
  | _ :: _, [], _, h => nomatch h
  | e :: es, x :: xs, hs, h => by
    rw [List.all_cons] at hs
    obtain ⟨s1, s2⟩ := Bool.and_eq_true_iff.mp hs
    obtain ⟨h1, h2⟩ := Bool.and_eq_true_iff.mp h
    refine pas_cons (f := id) (arg_of st sn h1) (as_of st sn s2 h2) (star_cons s1) fun H M1 H1 M2 H2 s1 s2 a v ds vs r x k q => ?_
    cases a with
    | d d => exact .d (Rp.mono (x.mm k) r) q
    | h =>
      cases (show v = .ref C.I.za from r)
      exact .h q
end
end PV
set_option Elab.async false
set_option linter.all false
set_option maxRecDepth 100000
set_option maxHeartbeats 8000000
/-! PV: x[::-1], sorted(set(x)), len(set(x)), list(range(x)). -/
namespace PVfu
open PySem PySem.Spec PyProof.Rows L2 HT
section
variable {prog : Program} {w : World} {A : Around} {E : Value → Shared → Prop} {s : Shared}
theorem fm_congr {α β : Type} {f g : α → Option β} : ∀ {l : List α}, (∀ x ∈ l, f x = g x) → l.filterMap f = l.filterMap g
  | [], _ => rfl
  | x :: r, h => by
    rw [List.filterMap_cons, List.filterMap_cons, h x List.mem_cons_self, fm_congr fun y hy => h y (List.mem_cons_of_mem _ hy)]
theorem places_rev (n : Nat) : Builtin.Slice.slicePlaces ((n : Int) - 1) (-1) (-1) = n := by
  unfold Builtin.Slice.slicePlaces
  rw [if_neg (by decide)]
  split
  · show (((n : Int) - 1 - -1 - 1) / 1 + 1).toNat = n
    rw [Int.ediv_one]
    omega
  · rename_i h
    have : n = 0 := by omega
    subst this
    rfl
theorem adjust_rev (n : Nat) : Builtin.Slice.sliceAdjust none none (-1) (n : Int) = ((n : Int) - 1, -1) := by
  unfold Builtin.Slice.sliceAdjust
  rfl
theorem sliceApplied_rev {sl : Addr} {vl vu vs : Value} {n : Nat} {Q : Int × Int × Nat → Shared → Prop} (hs : s.heap.IsSliceOf sl vl vu vs) (pl : IsPart vl none) (pu : IsPart vu none) (ps : IsPart vs (some (-1)))
    (h : Q ((n : Int) - 1, -1, n) s) : wpAny (model prog w) A (Builtin.Slice.sliceApplied (.ref sl) (pure (n : Int))) Q E s := by
  obtain ⟨os, hos, hcs, hds⟩ := id hs
  unfold Builtin.Slice.sliceApplied Builtin.Slice.sliceFields
  refine wpAny_bind (wpAny_bind (wpAny_field hos hds (x := vl) rfl (wpAny_bind (wpAny_field hos hds (x := vu) rfl (wpAny_bind (wpAny_field hos hds (x := vs) rfl (wpAny_pure ?_)))))))
  refine wpAny_bind (slicePart_ ps ?_)
  show wpAny _ _ (if ((-1 : Int) == 0) = true then _ else _) _ _ s
  rw [if_neg (by decide)]
  refine wpAny_bind (slicePart_ pl (wpAny_bind (slicePart_ pu (wpAny_bind (wpAny_pure ?_)))))
  show wpAny _ _ (match Builtin.Slice.sliceAdjust none none (-1) (n : Int) with | (lo, hi) => pure (lo, (-1 : Int), Builtin.Slice.slicePlaces lo hi (-1))) _ _ s
  rw [adjust_rev n]
  show wpAny _ _ (pure ((n : Int) - 1, (-1 : Int), Builtin.Slice.slicePlaces ((n : Int) - 1) (-1) (-1))) _ _ s
  rw [places_rev]
  exact wpAny_pure h
theorem pick_rev (xs : Array Value) : ((List.range xs.size).filterMap fun (m : Nat) => xs[(((xs.size : Int) - 1) + (m : Int) * (-1)).toNat]?).toArray = xs.toList.reverse.toArray := by
  congr 1
  have e : ∀ l : List Value, ((List.range l.length).filterMap fun (m : Nat) => l[(((l.length : Int) - 1) + (m : Int) * (-1)).toNat]?) = l.reverse := by
    intro l
    have e1 : ((List.range l.length).filterMap fun (m : Nat) => l[(((l.length : Int) - 1) + (m : Int) * (-1)).toNat]?) = ((List.range l.length).filterMap fun (m : Nat) => l.reverse[m]?) := by
      refine fm_congr fun m hm => ?_
      have hm := List.mem_range.mp hm
      rw [List.getElem?_reverse hm]
      congr 1
      omega
    rw [e1]
    have e2 : ∀ q : List Value, ((List.range q.length).filterMap fun (m : Nat) => q[m]?) = q := by
      intro q
      refine List.ext_getElem? fun i => ?_
      have e3 : ((List.range q.length).filterMap fun (m : Nat) => q[m]?) = (List.range q.length).map fun m => q.getD m Value.none := by
        rw [← List.filterMap_eq_map]
        refine fm_congr fun m hm => ?_
        have hm := List.mem_range.mp hm
        show q[m]? = some (q.getD m Value.none)
        rw [List.getD_eq_getElem?_getD, List.getElem?_eq_getElem hm]
        rfl
      rw [e3, List.getElem?_map]
      by_cases hi : i < q.length
      · rw [List.getElem?_range hi]
        show some (q.getD i Value.none) = q[i]?
        rw [List.getD_eq_getElem?_getD, List.getElem?_eq_getElem hi]
        rfl
      · rw [List.getElem?_eq_none (by rw [List.length_range]; omega), List.getElem?_eq_none (by omega)]
        rfl
    have e4 := e2 l.reverse
    rw [List.length_reverse] at e4
    exact e4
  have := e xs.toList
  rw [Array.length_toList] at this
  rw [← this]
  refine fm_congr fun m _ => ?_
  rw [Array.getElem?_toList]
theorem getItem_tuple_rev {t sl : Addr} {items : Array Value} {vl vu vs : Value} {Q : Value → Shared → Prop} (ht : IsTup s.heap t items) (hs : s.heap.IsSliceOf sl vl vu vs) (pl : IsPart vl none) (pu : IsPart vu none) (ps : IsPart vs (some (-1)))
    (h : Q (.ref s.heap.objs.size) { s with heap := s.heap.push { cls := .type "tuple", data := .seq items.toList.reverse.toArray } })
    (hsz : items.size ≤ sizeLine) : wpAny (model prog w) A (getItem (.ref t) (.ref sl)) Q E s := by
  have htake : sizeOk (.seq items.toList.reverse.toArray) := by
    show items.toList.reverse.toArray.size ≤ sizeLine
    rw [List.size_toArray, List.length_reverse, Array.length_toList]
    omega
  obtain ⟨os, hos, hcs, hds⟩ := id hs
  have hTs : s.TypeIs (.ref sl) "slice" := ⟨os, hos, hcs⟩
  unfold getItem
  try with_reducible refine wpAny_holding ?_
  first | refine wpAny_bind (wpAny_pure ?_) | skip
  refine wpAny_bind (wpAny_sequenceKey ht.typeIs (by decide) ?_)
  refine wpAny_bind (wpAny_callSpecial?_slot (name := Str.ofString "__getitem__") ht.typeIs PyProof.Rows.slot_tuple_getitem
    (wpAny_call_entry PyProof.Rows.slot_tuple_getitem ht.typeIs entry_tuple_getitem ?_ (args_tuple_getitem _ _)))
  show wpAny _ _ (Builtin.Tuple.tupleItemsOf (.ref t) >>= _) _ _ s
  refine wpAny_bind (tupleItemsOf_ ht ?_)
  refine wpAny_bind (wpAny_typeOf hTs ?_)
  rw [if_pos (by decide)]
  refine wpAny_bind (sliceApplied_rev hs pl pu ps ?_)
  have hno : ¬ ((((items.size : Int) - 1) == 0 && (-1 : Int) == 1 && items.size == items.size) = true) := by
    intro q
    rw [Bool.and_eq_true, Bool.and_eq_true] at q
    exact absurd q.1.2 (by decide)
  show wpAny _ _ (if (((items.size : Int) - 1) == 0 && (-1 : Int) == 1 && items.size == items.size) = true then _ else _) _ _ s
  rw [if_neg hno, pick_rev]
  first
    | exact wpAny_bind (m := Builtin.Tuple.tupleExact _) (wpAny_newObj_type (wpAny_pure ⟨_, rfl, wpAny_pure h⟩) htake)
    | exact wpAny_bind (m := Builtin.Tuple.tupleExact _) (wpAny_newObj_type (wpAny_bind (wpAny_pure (wpAny_pure ⟨_, rfl, wpAny_pure h⟩))) htake)
    | exact wpAny_bind (wpAny_bind (m := Builtin.Tuple.tupleExact _) (wpAny_newObj_type (wpAny_pure (wpAny_pure ⟨_, rfl, wpAny_pure h⟩)) htake))
    | exact wpAny_bind (wpAny_bind (m := Builtin.Tuple.tupleExact _) (wpAny_newObj_type (wpAny_pure ⟨_, rfl, wpAny_pure h⟩) htake))
end
end PVfu
namespace PV
open PySem PySem.Spec PyProof.Rows L2
section
variable {S : Type} {X : Cx} {c : Fm S} {K : PySem.W.Frag}
theorem RpA.rev {M : Hp} {ds : List PyData} {vs : List V} (r : RpA K M ds vs) : RpA K M ds.reverse vs.reverse := by
  have app : ∀ {ds : List PyData} {vs : List V}, RpA K M ds vs → ∀ {d : PyData} {v : V}, Rp K M d v → RpA K M (ds ++ [d]) (vs ++ [v]) := by
    intro ds vs r
    induction r using RpA.rec (motive_1 := fun _ _ _ => True) with
    | nil => exact fun h => .cons h .nil
    | cons h r _ ih => exact fun h2 => .cons h (ih h2)
    | _ => trivial
  induction r using RpA.rec (motive_1 := fun _ _ _ => True) with
  | nil => exact .nil
  | cons h r _ ih =>
    rw [List.reverse_cons, List.reverse_cons]
    exact app ih h
  | _ => trivial
/-- x[::-1] -/
theorem pd_rev {e : PySem.Expr} {k : Nat} {p1 p2 p3 pos : Pos} {m : Env → PV.M S PyData} (he : PE X e (TR X.K c m)) :
    PE X (.Subscript e (.Slice none none (some (.UnaryOp .USub (.Constant (.int 1) k p1) p2)) p3) pos) (TF X.K c fun env => (do let x ← m env; ofO (fusD .rev x))) := by
  refine ⟨fun pins s σ H Q I q => ?_⟩
  obtain ⟨M, env, z, gd, q⟩ := q
  refine Subscript_ (thn (he.run pins s σ H (fun x H1 => ∃ dx s1 M1, Ext c.I M H M1 H1 s1 ∧ RpR X.K c.I M1 H1 dx x ∧ After X.K c.I c.J c.W σ M H ((ofO (fusD .rev dx) : PV.M S PyData) s1) fun d s' => ∀ v M' H', Ext c.I M H M' H' s' → ResF X.K H M' H' d v → Q v H') I
    ⟨M, env, z, gd, (After.bd (m := m env) q).imp fun d s1 q1 v M1 H1 x1 r1 => ⟨d, s1, M1, x1, r1, q1⟩⟩) fun v s1 ⟨x, H1, I1, r1, dx, s2, M1, x1, rx, q1⟩ => ?_)
  obtain ⟨d, e1, q2⟩ := After.ofO q1
  have hst : PO X (some (.UnaryOp .USub (.Constant (.int 1) k p1) p2)) (tPart (tUn (rU fun i => .int (-i)) (tC (.int 1)))) := po_some (pe_un un_neg pe_int)
  refine wpAny_Slice (thn (po_none.run pins s1 σ H1 (fun o H2 => o = none ∧ H2 = H1) I1 ⟨rfl, rfl⟩) fun vl s2 ⟨l, H2, I2, pl, el, e2⟩ => ?_)
  subst el e2
  refine thn (po_none.run pins s2 σ H2 (fun o H3 => o = none ∧ H3 = H2) I2 ⟨rfl, rfl⟩) fun vu s3 ⟨u, H3, I3, pu, eu, e3⟩ => ?_
  subst eu e3
  refine thn (hst.run pins s3 σ H3 (fun o H4 => o = some (-1) ∧ H4 = H3) I3 ⟨1, rfl, -1, rfl, rfl, rfl⟩) fun vs s4 ⟨o, H4, I4, ps, eo, e4⟩ => ?_
  subst eo e4
  have I5 : Inv X pins σ H4 { s4 with heap := s4.heap.push { cls := .type "slice", data := .fields #[vl, vu, vs] } } := I4.kept (t' := s4.toks) fun b ob q => Heap.get?_push_of_some _ q
  cases dx <;> try exact nomatch (show (none : Option PyData) = some d from e1)
  case list ds =>
    cases e1
    obtain ⟨a, xs, rfl, hx, ra⟩ := rx.lst x1.sub
    cases r1
    obtain ⟨its, r, ht, hz⟩ := I5.list (SqL.of hx)
    have hlen := r.length
    show wpAny (model X.prog X.w) X.A (subscriptTail e (.Slice none none (some (.UnaryOp .USub (.Constant (.int 1) k p1) p2)) p3) (.ref a) (.ref s4.heap.objs.size)) (EP X pins σ Q) X.xe { s4 with heap := s4.heap.push { cls := .type "slice", data := .fields #[vl, vu, vs] } }
    refine tail_any (ops := [.ref a, .ref s4.heap.objs.size]) ht.isList.typeIs (PySem.slot_list_getitem.lookup) ?_ (by with_unfolding_all rfl)
    refine wpAny_getItem_list_slice ht.isList (Heap.IsSliceOf.new _ vl vu vs) pl pu ps (by decide) ?_ (by rw [List.size_toArray]; omega)
    rw [PySem.W.krv_pick]
    have hn := I5.hok.fresh (Nat.le_refl _)
    refine ⟨.ref _, _, I5.laid (t' := s4.toks) (o := .lst xs.reverse) (fun b ob q => Heap.get?_push_of_some _ q) (Nat.le_refl _) ?_, rfl, q2 _ M1 _ (Ext.trans gd.ok x1 ((Ext0.own x1.sub hn).ext x1.ok)) ?_⟩
    · exact ⟨by rw [List.length_reverse]; exact hz, _, 0, r.reverse, Heap.get?_push_size _ rfl⟩
    · exact ResF.back x1 ⟨_, _, rfl, hn, upd_same, x1.sub.free hn, ra.rev⟩
  case tuple ds =>
    cases e1
    obtain ⟨a, xs, rfl, hm, hh, ra⟩ := rx.tup x1.sub
    cases r1
    obtain ⟨its, r, ht, hz⟩ := I5.tuple hh.sq
    have hlen : its.toArray.size = xs.length := by rw [List.size_toArray]; exact r.length.symm
    show wpAny (model X.prog X.w) X.A (subscriptTail e (.Slice none none (some (.UnaryOp .USub (.Constant (.int 1) k p1) p2)) p3) (.ref a) (.ref s4.heap.objs.size)) (EP X pins σ Q) X.xe { s4 with heap := s4.heap.push { cls := .type "slice", data := .fields #[vl, vu, vs] } }
    refine tail_any (ops := [.ref a, .ref s4.heap.objs.size]) ht.typeIs (PyProof.Rows.slot_tuple_getitem.lookup) ?_ (by with_unfolding_all rfl)
    refine PVfu.getItem_tuple_rev ht (Heap.IsSliceOf.new _ vl vu vs) pl pu ps ?_ (by rw [hlen]; exact hz)
    have lay := laidT (Q := Q) I5 r.reverse (by rw [List.length_reverse]; exact hz) fun p o hp hd => q2 _ _ _ (Ext.trans gd.ok x1 ((Ext0.new x1.sub hp).ext x1.ok)) (.tup (.new hd) (RpA.mono (same_upd (x1.sub.free hp)) ra.rev))
    rw [show its.reverse.toArray = its.toArray.toList.reverse.toArray by simp] at lay
    exact lay
theorem rpA_intsN {K : PySem.W.Frag} {M : Hp} {f : Nat → Int} : ∀ L : List Nat, RpA K M (L.map fun i => .int (f i)) (L.map fun i => V.int (f i))
  | [] => .nil
  | x :: r => .cons (.int _) (rpA_intsN r)
theorem intsD_self : ∀ ns : List Int, intsD (ns.map .int) = some ns
  | [] => rfl
  | x :: r => by
    show (intsD (r.map .int)).map (x :: ·) = _
    rw [intsD_self r]
    rfl
theorem mem_dedI {k : Int} : ∀ {ns : List Int}, k ∈ dedI ns ↔ k ∈ ns
  | [] => Iff.rfl
  | x :: r => by
    unfold dedI
    split
    · rename_i h
      rw [mem_dedI, List.mem_cons]
      refine ⟨.inr, fun q => ?_⟩
      rcases q with rfl | q
      · exact List.contains_iff_mem.mp h
      · exact q
    · rw [List.mem_cons, List.mem_cons, mem_dedI]
theorem nodup_dedI : ∀ {ns : List Int}, (dedI ns).Nodup
  | [] => List.nodup_nil
  | x :: r => by
    unfold dedI
    split
    · exact nodup_dedI
    · rename_i h
      refine List.nodup_cons.mpr ⟨fun q => h (List.contains_iff_mem.mpr (mem_dedI.mp q)), nodup_dedI⟩
theorem sortI_le (ns : List Int) : (sortI ns).Pairwise (· ≤ ·) := by
  have := List.pairwise_mergeSort (le := fun a b : Int => decide (a ≤ b)) (fun a b c h1 h2 => by simp at *; omega) (fun a b => by simp; omega) ns
  exact this.imp fun h => by simpa using h
theorem sset_eq {ns ms : List Int} (h1 : ms.Pairwise (· < ·)) (h2 : ∀ k, k ∈ ms ↔ k ∈ ns) : ms = sortI (dedI ns) := by
  refine sortI_eq ?_ (h1.imp fun h => Int.le_of_lt h)
  refine (List.perm_ext_iff_of_nodup (h1.imp fun h => Int.ne_of_lt h) nodup_dedI).mpr fun k => ?_
  rw [h2, mem_dedI]
theorem card_eq {ns ms : List Int} (h1 : ms.Nodup) (h2 : ∀ k, k ∈ ms ↔ k ∈ ns) : ms.length = (dedI ns).length :=
  ((List.perm_ext_iff_of_nodup h1 nodup_dedI).mpr fun k => by rw [h2, mem_dedI]).length_eq
end
end PV
namespace PVfu
open PySem PySem.Spec PyProof.Rows L2
section
variable {P : Program} {w : World} {A : Around} {E : Value → Shared → Prop} {s : Shared} {a : Addr}
/-- sorted(set), any number of members -/
theorem sorted_setO {S : Int → Bool} {n : Nat} {Q : Value → Shared → Prop} (R : SetR w s.heap a S n) (hh : A.handled = none) (hz0 : n ≤ sizeLine)
    (hQ : ∀ s' p (out : Array Value) (c : Nat) (ns : List Int), (∀ b o, s.heap.get? b = some o → s'.heap.get? b = some o) → s'.gens = s.gens → s'.os = s.os → s.heap.objs.size ≤ p →
      s'.heap.get? p = some (seqObj "list" out c) → IntsAre out.toList ns → ns.Pairwise (· < ·) → (∀ k, k ∈ ns ↔ S k = true) → ns.length = n → Q (.ref p) s') :
    wpAny (model P w) A (call (.builtin "sorted") [.ref a]) Q E s := by
  obtain ⟨o, es, ep, t, ho, hex, hd, g, nd, hm, hb, hf, hn, hr, hl⟩ := R
  refine Calls.call_function_entry kind_sorted plain_sorted entry_sorted (args_sorted1 _) ?_
  unfold Builtin.«sorted»
  refine wpAny_bind (m := checkCount "sorted" 1 1 _) (wpAny_pure ?_)
  refine wpAny_bind (collect_set (A := A.in1) hh ⟨o, ho, hex.1, hd⟩ hf hb hr hl fun s1 vs k1 hz g1 o1 pm => ?_)
  have hvl : vs.length = n := by rw [pm.length_eq, List.length_map, Array.length_toList]; exact hn
  have hI : IntsAre vs (vs.map Builtin.Re.reRawOf) := ints_of vs fun v hv => by
    obtain ⟨e, he, q⟩ := List.mem_map.mp (pm.mem_iff.mp hv)
    obtain ⟨k, tk, h1, _⟩ := g e he
    exact ⟨k, tk, by rw [← q]; exact h1⟩
  have pk : (vs.map Builtin.Re.reRawOf).Perm (es.toList.map keyOf) := by
    have q := pm.map Builtin.Re.reRawOf
    rw [List.map_map] at q
    exact q
  refine wpAny_bind (wpAny_newList ?_ (by rw [hvl]; exact hz0))
  have hoL : (s1.heap.push (seqObj "list" vs.toArray 0)).get? s1.heap.objs.size = some (seqObj "list" vs.toArray 0) := Heap.get?_push_size _ rfl
  refine wpAny_bind (wpAny_holding (wpAny_call_entry slot_list_sort ⟨_, hoL, rfl⟩ entry_list_sort (SrtO.list_sort_ord SrtO.swo_int hoL (by rw [hvl]; exact hz0) (fun h2 => SrtO.ints_sortable hI h2) fun out a1 a2 => ⟨_, rfl, ?_⟩) (args_list_sort _)))
  obtain ⟨c, hc⟩ := sortedHeap_at (vs := vs) (out := out.toArray) hoL
  obtain ⟨hO, k2, a3⟩ := SrtO.ints_out hI a1 a2
  have pn : (out.map SrtO.iv).Perm (es.toList.map keyOf) := k2.trans pk
  refine wpAny_pure ⟨_, rfl, hQ _ s1.heap.objs.size out.toArray c (out.map SrtO.iv) (fun b u e => ?_) g1 o1 hz hc (by simpa using hO) (lt_of_le_nodup _ a3 (pn.nodup_iff.mpr nd)) (fun k => by rw [pn.mem_iff, ← hm k]) ?_⟩
  · have q := k1 b u e
    have hlt := Heap.lt_size q
    show (sortedHeap (s1.heap.push (seqObj "list" vs.toArray 0)) s1.heap.objs.size vs out.toArray).get? b = some u
    rw [sortedHeap_old (Nat.ne_of_lt hlt) (by rw [size_push']; exact Nat.lt_succ_of_lt hlt)]
    exact Heap.get?_push_of_some _ q
  · rw [pn.length_eq, List.length_map, Array.length_toList]; exact hn
end
end PVfu
namespace PV
open PySem PySem.Spec PyProof.Rows L2
section
variable {S : Type} {X : Cx} {c : Fm S} {K : PySem.W.Frag}
theorem vals_fm {xs : List V} {us : List Value} (r : Vals xs us) : ∀ L : List Nat, Vals (L.filterMap (xs[·]?)) (L.filterMap (us[·]?))
  | [] => .nil
  | i :: L => by
    have ih := vals_fm r L
    rw [List.filterMap_cons, List.filterMap_cons]
    cases h : xs[i]? with
    | none =>
      have : us[i]? = none := by
        rw [List.getElem?_eq_none_iff] at h ⊢
        rw [← r.length]
        exact h
      rw [this]
      exact ih
    | some x =>
      obtain ⟨u, h2, h3⟩ := r.get h
      rw [h2]
      exact .cons h3 ih
theorem RpA.fm {M : Hp} {ds : List PyData} {vs : List V} (r : RpA K M ds vs) : ∀ L : List Nat, RpA K M (L.filterMap (ds[·]?)) (L.filterMap (vs[·]?))
  | [] => .nil
  | i :: L => by
    have ih := RpA.fm r L
    rw [List.filterMap_cons, List.filterMap_cons]
    cases h : ds[i]? with
    | none =>
      have : vs[i]? = none := by
        rw [List.getElem?_eq_none_iff] at h ⊢
        rw [r.len]
        exact h
      rw [this]
      exact ih
    | some x =>
      obtain ⟨u, h2, h3⟩ := r.get h
      rw [h2]
      exact .cons h3 ih
/-- xs[lo::k] -/
theorem pd_stp {e : PySem.Expr} {b : Option PySem.Expr} {k t1 : Nat} {p1 p3 pos : Pos} {m : Env → PV.M S PyData} {ml : Env → PV.M S (Option Int)} (he : PE X e (TR X.K c m)) (hl : PO X b (TOd X c ml)) :
    PE X (.Subscript e (.Slice b none (some (.Constant (.int (k : Int)) t1 p1)) p3) pos) (TF X.K c fun env => (do let x ← m env; let l ← ml env; ofO (stpD x l k))) := by
  refine ⟨fun pins s σ H Q I q => ?_⟩
  obtain ⟨M, env, z, gd, q⟩ := q
  refine Subscript_ (thn (he.run pins s σ H (fun x H1 => ∃ dx s1 M1, Ext c.I M H M1 H1 s1 ∧ RpR X.K c.I M1 H1 dx x ∧ After X.K c.I c.J c.W σ M H ((do let l ← ml env; ofO (stpD dx l k) : PV.M S PyData) s1) fun d s' => ∀ v M' H', Ext c.I M H M' H' s' → ResF X.K H M' H' d v → Q v H') I
    ⟨M, env, z, gd, (After.bd (m := m env) q).imp fun d s1 q1 v M1 H1 x1 r1 => ⟨d, s1, M1, x1, r1, q1⟩⟩) fun v s1 ⟨x, H1, I1, r1, dx, s2, M1, x1, rx, q1⟩ => ?_)
  have ok1 := x1.ok
  refine wpAny_Slice (thn (hl.run pins s1 σ H1 (fun o H2 => ∃ s3 M2, Ext c.I M1 H1 M2 H2 s3 ∧ ∃ d, stpD dx o k = some d ∧ ∀ v M' H', Ext c.I M H M' H' s3 → ResF X.K H M' H' d v → Q v H') I1
    ⟨M1, env, s2, gd.ext x1, ((After.bd (m := ml env) q1).ext gd.ok x1) fun o s3 q3 M2 H2 x2 => ⟨s3, M2, x2, After.ofO q3⟩⟩) fun vl s2' ⟨l, H2, I2, pl, s3, M2, x2, d, e1, q2⟩ => ?_)
  refine thn (po_none.run pins s2' σ H2 (fun o H3 => o = none ∧ H3 = H2) I2 ⟨rfl, rfl⟩) fun vu s4 ⟨u, H3, I3, pu, eu, e3⟩ => ?_
  subst eu e3
  have hst : PO X (some (.Constant (.int (k : Int)) t1 p1)) (tPart (tC (.int (k : Int)))) := po_some pe_int
  refine thn (hst.run pins s4 σ H3 (fun o H4 => o = some (k : Int) ∧ H4 = H3) I3 ⟨(k : Int), rfl, rfl, rfl⟩) fun vs s5 ⟨o, H4, I4, ps, eo, e4⟩ => ?_
  subst eo e4
  have I5 : Inv X pins σ H4 { s5 with heap := s5.heap.push { cls := .type "slice", data := .fields #[vl, vu, vs] } } := I4.kept (t' := s5.toks) fun b ob q => Heap.get?_push_of_some _ q
  have rx2 := rx.mono ok1 x2
  have x12 := Ext.trans gd.ok x1 x2
  cases dx <;> try (cases l <;> exact nomatch (show (none : Option PyData) = some d from e1))
  case list ds hq0 =>
    cases l with
    | none => exact nomatch (show (none : Option PyData) = some d from e1)
    | some lo =>
      replace e1 : (if 1 ≤ k then some (PyData.list ((stepIx lo k ds.length).filterMap (ds[·]?))) else none) = some d := e1
      split at e1
      · rename_i hk
        cases e1
        obtain ⟨a, xs, rfl, hx, ra⟩ := rx2.lst x2.sub
        cases r1
        obtain ⟨its, r, ht, hz⟩ := I5.list (SqL.of hx)
        have hlen := r.length
        show wpAny (model X.prog X.w) X.A (subscriptTail e (.Slice b none (some (.Constant (.int (k : Int)) t1 p1)) p3) (.ref a) (.ref s5.heap.objs.size)) (EP X pins σ Q) X.xe { s5 with heap := s5.heap.push { cls := .type "slice", data := .fields #[vl, vu, vs] } }
        refine tail_any (ops := [.ref a, .ref s5.heap.objs.size]) ht.isList.typeIs (PySem.slot_list_getitem.lookup) ?_ (by with_unfolding_all rfl)
        refine wpAny_getItem_list_slice ht.isList (Heap.IsSliceOf.new _ vl vu vs) pl pu ps (fun z => by have := Option.some.inj z; omega) ?_ (by rw [List.size_toArray]; omega)
        have e9 : slicePick its.toArray (some lo) none (some (k : Int)) = ((stepIx lo k ds.length).filterMap (its[·]?)).toArray := by
          unfold slicePick stepIx
          rw [List.size_toArray, ← hlen, ra.len]
          exact congrArg List.toArray (PVfu.fm_congr fun i _ => by simp)
        rw [e9]
        have hn := I5.hok.fresh (Nat.le_refl _)
        have hsz : ((stepIx lo k ds.length).filterMap (xs[·]?)).length ≤ sizeLine := by
          have h1 := slicePick_size_le its.toArray (some lo) none (some (k : Int))
          rw [e9, List.size_toArray, List.size_toArray, ← (vals_fm r _).length, ← hlen] at h1
          omega
        refine ⟨.ref _, _, I5.laid (t' := s5.toks) (o := .lst ((stepIx lo k ds.length).filterMap (xs[·]?))) (fun b ob q => Heap.get?_push_of_some _ q) (Nat.le_refl _) ?_, rfl, q2 _ M2 _ (Ext.trans gd.ok x12 ((Ext0.own x2.sub hn).ext x2.ok)) ?_⟩
        · exact ⟨hsz, _, 0, vals_fm r _, Heap.get?_push_size _ rfl⟩
        · exact ResF.back x12 ⟨_, _, rfl, hn, upd_same, x2.sub.free hn, ra.fm _⟩
      · cases e1
/-- sorted(set(a)), len(set(a)) -/
theorem set_arg {a : PySem.Expr} {p2 q : Pos} {k : Fu} {m : Env → PV.M S PyData} {pins : List (Addr × Obj)} {σ : L2.St} {H : Hp} {Q : VK} {s : Shared} (hk : k = .sset ∨ k = .lset) (hc : X.calm = true) (hg2 : Gl X "set") (hm2 : X.mg "set" = none) (ha : PE X a (TR X.K c m))
    (na : starEach [a] X.env = (false, eval a X.env) :: starEach [] X.env) (I : Inv X pins σ H s) (h : TF X.K c (fun env => (do let x ← m env; ofO (fusD k x))) σ H Q) {R : Value → Shared → Prop}
    (hR : ∀ (ns : List Int) (M1 H1 : Hp) (s1 : Shared) (s2 : S) (h' : Heap) (tk n : Nat), ns.length ≤ 4000 → Inv X pins σ H1 s1 → Same M1 H1 → SetR X.w h' s1.heap.objs.size (fun j => decide (j ∈ ns)) n → n ≤ ns.length → (∀ b o, s1.heap.get? b = some o → h'.get? b = some o) →
      (∀ d M' H' v, fusD k (.tuple (ns.map .int)) = some d → Ext0 M1 H1 M' H' → ResF X.K H1 M' H' d v → Q v H') → R (.ref s1.heap.objs.size) { s1 with heap := h', toks := tk }) :
    wpAny (model X.prog X.w) X.A (eval (.Call (.Name "set" p2) [a] [] q) X.env) R X.xe s := by
  obtain ⟨M, env, z, gd, h⟩ := h
  refine Call_ (ld_blt I hg2 hm2 PyProof.Rows.boot_set ?_)
  refine PyProof.Rows.callWith_type1 (PyProof.Rows.args_cons (thn (ha.run pins s σ H (fun x H1 => ∃ dx s1 M1, Ext c.I M H M1 H1 s1 ∧ RpR X.K c.I M1 H1 dx x ∧ After X.K c.I c.J c.W σ M H ((ofO (fusD k dx) : PV.M S PyData) s1) fun d s' => ∀ v M' H', Ext c.I M H M' H' s' → ResF X.K H M' H' d v → Q v H') I
    ⟨M, env, z, gd, (After.bd (m := m env) h).imp fun d s1 q1 v M1 H1 x1 r1 => ⟨d, s1, M1, x1, r1, q1⟩⟩) fun v s1 ⟨x, H1, I1, r1, dx, s2, M1, x1, rx, q1⟩ => PyProof.Rows.args_nil ?_) na) na rfl
  obtain ⟨d, e1, q2⟩ := After.ofO q1
  have dt : ∃ ds, dx = .tuple ds := by
    rcases hk with rfl | rfl <;> cases dx <;> first | exact ⟨_, rfl⟩ | exact nomatch (show (none : Option PyData) = some d from e1)
  obtain ⟨ds, rfl⟩ := dt
  have e2 : ∃ ns, intsD ds = some ns ∧ ns.length ≤ 4000 := by
    rcases hk with rfl | rfl <;>
    · obtain ⟨ns, e2, e3⟩ := Option.bind_eq_some_iff.mp (show (intsD ds).bind _ = some d from e1)
      split at e3
      · rename_i h
        exact ⟨ns, e2, h⟩
      · cases e3
  obtain ⟨ns, e2, hz⟩ := e2
  cases intsD_eq e2
  obtain ⟨l, vs, rfl, hm, hh, ra⟩ := rx.tup x1.sub
  cases ra.ints
  cases r1
  obtain ⟨its, rv, pt, _⟩ := I1.tuple hh.sq
  have hi : IntsAre its.toArray.toList ns := ints_of_vals rv
  refine call_set_tupI ns (I1.ok.hd hc) (show s1.heap.IsTuple l its.toArray from pt) hi (by unfold scanBound; omega) fun h' tk n R1 hn kk => ?_
  refine hR ns M1 H1 s1 s2 h' tk n hz I1 x1.sub R1 hn kk fun d' M' H' v e3 x2 r2 => ?_
  have : d' = d := Option.some.inj (e3.symm.trans e1)
  subst this
  exact q2 v M' H' (Ext.trans gd.ok x1 (x2.ext x1.ok)) (r2.back x1)
theorem pd_sset {a : PySem.Expr} {p p2 q pos : Pos} {m : Env → PV.M S PyData} (hc : X.calm = true) (hg : Gl X "sorted") (hm : X.mg "sorted" = none) (hg2 : Gl X "set") (hm2 : X.mg "set" = none) (ha : PE X a (TR X.K c m))
    (na : starEach [a] X.env = (false, eval a X.env) :: starEach [] X.env) : PE X (.Call (.Name "sorted" p) [.Call (.Name "set" p2) [a] [] q] [] pos) (TF X.K c fun env => (do let x ← m env; ofO (fusD .sset x))) := by
  refine ⟨fun pins s σ H Q I h => ?_⟩
  refine Call_ (ld_blt I hg hm PyProof.Rows.boot_sorted ?_)
  refine PyProof.Rows.callWith_builtin1 (PyProof.Rows.args_cons ?_ rfl) rfl rfl
  refine set_arg (.inl rfl) hc hg2 hm2 ha na I h fun ns M1 H1 s1 s2 h' tk n hz I1 k R1 hn kk hq => PyProof.Rows.args_nil ?_
  have I2 : Inv X pins σ H1 { s1 with heap := h', toks := tk } := I1.kept fun b o e => kk b o e
  refine PVfu.sorted_setO (s := { s1 with heap := h', toks := tk }) R1 (I2.ok.hd hc) (by rw [sizeLine_eq]; omega) fun s' p out c ms k3 g o hp hg hi hs hmm hl => ?_
  have hmem : ∀ j, j ∈ ms ↔ j ∈ ns := fun j => by rw [hmm j, decide_eq_true_eq]
  have hlen : (ms.map V.int).length ≤ sizeLine := by rw [List.length_map, hl, sizeLine_eq]; omega
  have hnp : H1 p = none := I2.hok.fresh hp
  have J : Inv X pins σ (upd H1 p (.lst (ms.map V.int))) { { s1 with heap := h', toks := tk } with heap := s'.heap, gens := s'.gens, drawn := s'.drawn, toks := s'.toks } :=
    I2.call (ch := []) (Un.laid k3 hp hnp) (I2.hok.laid k3 hp ⟨hlen, out.toList, c, vals_of_ints hi, hg⟩) (by rw [g]; exact I2.bare) (fun _ z => nomatch z)
  have e : s' = { { s1 with heap := h', toks := tk } with heap := s'.heap, gens := s'.gens, drawn := s'.drawn, toks := s'.toks } := by
    cases s'
    cases s1
    cases o
    rfl
  rw [e]
  refine ⟨.ref p, _, J, rfl, hq (.list (ms.map .int)) _ _ _ ?_ (Ext0.own k hnp) ⟨p, _, rfl, hnp, upd_same, k.free hnp, rpA_intsD _⟩⟩
  show (intsD (ns.map .int)).bind _ = _
  rw [intsD_self]
  show (if ns.length ≤ 4000 then some (PyData.list ((sortI (dedI ns)).map .int)) else none) = _
  rw [if_pos hz, sset_eq hs hmem]
theorem pd_lset {a : PySem.Expr} {p p2 q pos : Pos} {m : Env → PV.M S PyData} (hc : X.calm = true) (hg : Gl X "len") (hm : X.mg "len" = none) (hg2 : Gl X "set") (hm2 : X.mg "set" = none) (ha : PE X a (TR X.K c m))
    (na : starEach [a] X.env = (false, eval a X.env) :: starEach [] X.env) : PE X (.Call (.Name "len" p) [.Call (.Name "set" p2) [a] [] q] [] pos) (TF X.K c fun env => (do let x ← m env; ofO (fusD .lset x))) := by
  refine ⟨fun pins s σ H Q I h => ?_⟩
  refine Call_ (ld_blt I hg hm boot_len ?_)
  refine PyProof.Rows.callWith_builtin1 (PyProof.Rows.args_cons ?_ rfl) rfl rfl
  refine set_arg (.inr rfl) hc hg2 hm2 ha na I h fun ns M1 H1 s1 s2 h' tk n hz I1 k R1 hn kk hq => PyProof.Rows.args_nil ?_
  obtain ⟨o, es, ep, t, ho, hex, hd, g, nd, hmm, hb, hf, hnn, _⟩ := R1
  have I2 : Inv X pins σ H1 { s1 with heap := h', toks := tk } := I1.kept fun b o e => kk b o e
  refine call_len_set ho hex hd hf (by omega) ⟨.int n, H1, I2.tok _, ⟨_, by rw [hnn]⟩, hq (.int n) _ _ _ ?_ (.rfl k) (.int _)⟩
  show (intsD (ns.map .int)).bind _ = _
  rw [intsD_self]
  show (if ns.length ≤ 4000 then some (PyData.int ((dedI ns).length : Nat)) else none) = _
  rw [if_pos hz]
  have : (es.toList.map keyOf).length = (dedI ns).length := card_eq nd fun j => by rw [← hmm j, decide_eq_true_eq]
  rw [List.length_map, Array.length_toList, hnn] at this
  rw [this]
/-- list(range(a)) -/
theorem pd_lrng {p p2 pos pos2 : Pos} {a : PySem.Expr} {m : Env → PV.M S PyData} (hc : X.calm = true) (hgt : Gl X "list") (hmt : X.mg "list" = none) (hg : Gl X "range") (hm : X.mg "range" = none) (ha : PE X a (TR X.K c m)) (na : starEach [a] X.env = (false, eval a X.env) :: starEach [] X.env) :
    PE X (.Call (.Name "list" p) [.Call (.Name "range" p2) [a] [] pos2] [] pos) (TF X.K c fun env => (do let x ← m env; ofO (fusD .lrng x))) := by
  refine ⟨fun pins s σ H Q I q => ?_⟩
  obtain ⟨M, env, z, gd, q⟩ := q
  have nr : starEach [.Call (.Name "range" p2) [a] [] pos2] X.env = (false, eval (.Call (.Name "range" p2) [a] [] pos2) X.env) :: starEach [] X.env := rfl
  refine Call_ (ld_blt I hgt hmt boot_list (PyProof.Rows.callWith_type1 (args_cons (thn (prg_1 (pos := pos2) hg hm ha na pins s σ H (fun lo hi H1 => ∃ (n : Int) (s1 : S) (M1 : Hp), lo = 0 ∧ hi = n ∧ Ext c.I M H M1 H1 s1 ∧ After X.K c.I c.J c.W σ M H ((ofO (fusD .lrng (.int n)) : PV.M S PyData) s1) fun d s' => ∀ v M' H', Ext c.I M H M' H' s' → ResF X.K H M' H' d v → Q v H') I ⟨M, env, z, gd, (After.bd (m := m env) q).imp fun d s1 q1 v M1 H1 x1 r1 => ?_⟩) fun x s1 ⟨r, a', b, t, u, v, H1, ex, hr, I1, n, s2, M1, e1, e2, x1, q2⟩ => args_nil ?_) nr) nr))
  · cases d <;> try (exact ((After.ofO q1).elim fun _ q => nomatch (show (none : Option PyData) = some _ from q.1)))
    rename_i n
    cases r1.int
    exact ⟨n, rfl, n, s1, M1, rfl, rfl, x1, q1⟩
  · subst ex e1 e2
    obtain ⟨d, e, q3⟩ := After.ofO q2
    replace e : (if b ≤ 16777216 ∧ -4611686018427387904 ≤ b then some (PyData.list (rngD 0 b.toNat)) else none) = some d := e
    split at e
    · rename_i hb
      cases e
      obtain ⟨h1, h2⟩ := hb
      have ok : RgOk 0 b := ⟨by decide, by decide, by omega, by omega, by omega⟩
      obtain ⟨b1, b2, b3, b4, b5⟩ := ok
      refine call_list_range (n := (b - 0).toNat) (I1.ok.hd hc) hr (small_one b1 b2 b3 b4) (rangeSize_nat 0 b) b5 fun h' tk acc c' hk e' hi => ?_
      have hnp := I1.hok.fresh (Nat.le_refl s1.heap.objs.size)
      refine ⟨.ref s1.heap.objs.size, upd H1 s1.heap.objs.size (.lst (rgV 0 b)), I1.laid hk (Nat.le_refl _) (show ObjOk X.prog X.w _ _ _ (.lst (rgV 0 b)) from ⟨?_, acc.toList, c', vals_rg hi, ?_⟩), rfl, q3 _ _ _ (Ext.trans gd.ok x1 ((Ext0.own x1.sub hnp).ext x1.ok)) (ResF.back x1 ⟨_, _, rfl, hnp, upd_same, x1.sub.free hnp, ?_⟩)⟩
      · rw [rgV_length, sizeLine_eq]; omega
      · rw [Array.toArray_toList]; exact e'
      · unfold rngD rgV
        rw [show (b - 0).toNat = b.toNat by omega]
        exact rpA_intsN _
    · cases e
end
end PV
set_option Elab.async false
set_option linter.all false
set_option maxRecDepth 100000
set_option maxHeartbeats 16000000
/-! PV, twelfth part: all expressions. -/
namespace PV
open PySem PySem.Spec PyProof.Rows L2
section
variable {S : Type} {n : Nat} {X : Cx} {C : SE S} {H0 M0 : Hp} {W : WX}
theorem and2 {a b : Bool} (h : (a && b) = true) : a = true ∧ b = true := Bool.and_eq_true_iff.mp h
theorem not_false' {a : Bool} (h : (!a) = true) : a = false := by
  cases a
  · rfl
  · cases h
/-- the pieces of a comprehension -/
structure CompOk (X : Cx) (C : SE S) (H0 M0 : Hp) (W : WX) (tg it elt : PySem.Expr) (ifs : List PySem.Expr) (scope : Scope) (ex : Ex) (t : Tg) (k : SrcK) (src : List Ex) (fs : List Tx) (slots : List Nat) : Prop where
  ex : ∃ own : List (Str × Nat), own.map (·.2) = slots ∧ BlkOk X.N X.env.scope scope own ∧ PI X tg it (TId X (fm C H0 M0 W) (KpR C.I) fun env => rvE k src env (do let ds ← evRs C.T C.G src env; ofO (srcD k ds))) ∧
    (∀ (s : Shared) (H : Hp) (D : Addr) (cl : List (Str × Addr)) (fp : List Addr), PG (X.blk s H scope (compEnvC scope cl D X.env) fp) tg (TGd X.K (fm C H0 M0 W) t)) ∧
    (∀ (s : Shared) (H : Hp) (D : Addr) (cl : List (Str × Addr)) (fp : List Addr), PTs (X.blk s H scope (compEnvC scope cl D X.env) fp) ifs (TB X.K (fm C H0 M0 W).noW (evTs C.T C.G fs))) ∧
    (∀ (s : Shared) (H : Hp) (D : Addr) (cl : List (Str × Addr)) (fp : List Addr), PE (X.blk s H scope (compEnvC scope cl D X.env) fp) elt (TV X.K (fm C H0 M0 W).noW (evE C.T C.G ex))) ∧
    (∀ x, foldedSetIterable it X.env x = pure x) ∧ ∀ i ∈ tgSlots t, i ∈ slots
theorem src_of0 (st : Stc X C W) (sn : SndE S n) {tg it : PySem.Expr} {k : SrcK} {src : List Ex} (ht : tgOk k tg = true) (h : ckSrc (ckE X.N C.gcd n X.env.scope) X.env.scope it k src = true) :
    PI X tg it (TId X (fm C H0 M0 W) (KpR C.I) fun env => (do let ds ← evRs C.T C.G src env; ofO (srcD k ds))) := by
  unfold ckSrc at h
  split at h
  · rename_i x
    obtain ⟨h1, h2⟩ := and2 h
    exact is_seqR (rd_of st sn h2)
  · rename_i x
    split at h
    · rename_i g p a pos
      obtain ⟨h1, h2⟩ := and2 h
      obtain ⟨h1, h3⟩ := and2 h1
      obtain ⟨h1, h4⟩ := and2 h1
      cases of_decide_eq_true h1
      exact is_rng1 (glb_of h4).1 (st.blt _ (by decide +kernel)) (rs_of st sn (es := [a]) (xs := [x]) (by rw [List.all_cons, h3]; rfl) (by unfold all2; rw [h2]; rfl)) (star_cons h3) fun _ _ _ _ r => rp_int1 (c := fm C H0 M0 W) r
    · cases h
  · rename_i x y
    split at h
    · rename_i g p a b pos
      obtain ⟨h1, h2⟩ := and2 h
      obtain ⟨h1, h3⟩ := and2 h1
      obtain ⟨h1, h4⟩ := and2 h1
      obtain ⟨h1, h5⟩ := and2 h1
      obtain ⟨h1, h6⟩ := and2 h1
      cases of_decide_eq_true h1
      exact is_rng2 (glb_of h6).1 (st.blt _ (by decide +kernel)) (rs_of st sn (es := [a, b]) (xs := [x, y]) (by rw [List.all_cons, List.all_cons, h5, h4]; rfl) (by unfold all2 all2; rw [h3, h2]; rfl)) (by rw [star_cons h5, star_cons h4]; rfl) (by rw [star_cons h4]; rfl) fun _ _ _ _ _ r => rp_int2 (c := fm C H0 M0 W) r
    · cases h
  · rename_i x
    split at h
    · rename_i g p a pos
      obtain ⟨h1, h2⟩ := and2 h
      obtain ⟨h1, h3⟩ := and2 h1
      obtain ⟨h1, h4⟩ := and2 h1
      cases of_decide_eq_true h1
      cases tg <;> first
        | exact is_enumR (glb_of h4).1 (st.blt _ (by decide +kernel)) (rd_of st sn h2) (star_cons h3)
        | (cases ht; done)
    · cases h
  · rename_i x y
    split at h
    · rename_i g p a b pos
      obtain ⟨h1, h2⟩ := and2 h
      obtain ⟨h1, h3⟩ := and2 h1
      obtain ⟨h1, h4⟩ := and2 h1
      obtain ⟨h1, h5⟩ := and2 h1
      obtain ⟨h1, h6⟩ := and2 h1
      cases of_decide_eq_true h1
      cases tg <;> first
        | exact is_zipR (glb_of h6).1 (st.blt _ (by decide +kernel)) (rs_of st sn (es := [a, b]) (xs := [x, y]) (by rw [List.all_cons, List.all_cons, h5, h4]; rfl) (by unfold all2 all2; rw [h3, h2]; rfl)) (by rw [star_cons h5, star_cons h4]) (by rw [star_cons h4]; rfl)
        | (cases ht; done)
    · cases h
  · cases h
theorem src_of (st : Stc X C W) (sn : SndE S n) {tg it : PySem.Expr} {k : SrcK} {src : List Ex} (ht : tgOk k tg = true) (h : ckSrcR (ckE X.N C.gcd n X.env.scope) X.env.scope it k src = true) :
    PI X tg it (TId X (fm C H0 M0 W) (KpR C.I) fun env => rvE k src env (do let ds ← evRs C.T C.G src env; ofO (srcD k ds))) := by
  cases k with
  | rv =>
    unfold ckSrcR at h
    dsimp only at h
    split at h
    · rename_i x
      split at h
      · rename_i y pos
        cases n with
        | zero => cases h
        | succ n =>
          unfold ckE at h
          dsimp only at h
          cases x with
          | var i =>
            dsimp only at h
            obtain ⟨h1, h2, h3, h4⟩ := name_of h
            exact pi_rngV h1 h2 h3 h4
          | _ =>
            refine ⟨fun pins s σ H R _ q => ?_⟩
            obtain ⟨M, env, z, gd, q⟩ := q
            exact (show False from q).elim
      · cases h
    · cases h
  | seq => exact src_of0 st sn ht h
  | rng1 => exact src_of0 st sn ht h
  | rng2 => exact src_of0 st sn ht h
  | enum => exact src_of0 st sn ht h
  | zip => exact src_of0 st sn ht h
theorem srcV_of (st : Stc X C W) (sn : SndE S n) {tg it : PySem.Expr} {k : SrcK} {src : List Ex} (ht : tgOk k tg = true) (h : ckSrc (ckE X.N C.gcd n X.env.scope) X.env.scope it k src = true) :
    PI X tg it (TId X (fm C H0 M0 W) KpV fun env => (do let ds ← evEs C.T C.G src env; ofO (srcD k ds))) := by
  unfold ckSrc at h
  split at h
  · rename_i x
    obtain ⟨h1, h2⟩ := and2 h
    exact is_seqV (sn X C H0 M0 W st _ _ h2).1
  · rename_i x
    split at h
    · rename_i g p a pos
      obtain ⟨h1, h2⟩ := and2 h
      obtain ⟨h1, h3⟩ := and2 h1
      obtain ⟨h1, h4⟩ := and2 h1
      cases of_decide_eq_true h1
      exact is_rng1 (glb_of h4).1 (st.blt _ (by decide +kernel)) (vs_of st sn (es := [a]) (xs := [x]) (by rw [List.all_cons, h3]; rfl) (by unfold all2; rw [h2]; rfl)) (star_cons h3) fun _ _ _ _ r => rv_int1 r
    · cases h
  · rename_i x y
    split at h
    · rename_i g p a b pos
      obtain ⟨h1, h2⟩ := and2 h
      obtain ⟨h1, h3⟩ := and2 h1
      obtain ⟨h1, h4⟩ := and2 h1
      obtain ⟨h1, h5⟩ := and2 h1
      obtain ⟨h1, h6⟩ := and2 h1
      cases of_decide_eq_true h1
      exact is_rng2 (glb_of h6).1 (st.blt _ (by decide +kernel)) (vs_of st sn (es := [a, b]) (xs := [x, y]) (by rw [List.all_cons, List.all_cons, h5, h4]; rfl) (by unfold all2 all2; rw [h3, h2]; rfl)) (by rw [star_cons h5, star_cons h4]; rfl) (by rw [star_cons h4]; rfl) fun _ _ _ _ _ r => rv_int2 r
    · cases h
  · rename_i x
    split at h
    · rename_i g p a pos
      obtain ⟨h1, h2⟩ := and2 h
      obtain ⟨h1, h3⟩ := and2 h1
      obtain ⟨h1, h4⟩ := and2 h1
      cases of_decide_eq_true h1
      cases tg <;> first
        | exact is_enumV (glb_of h4).1 (st.blt _ (by decide +kernel)) ((sn X C H0 M0 W st _ _ h2).1) (star_cons h3)
        | (cases ht; done)
    · cases h
  · rename_i x y
    split at h
    · rename_i g p a b pos
      obtain ⟨h1, h2⟩ := and2 h
      obtain ⟨h1, h3⟩ := and2 h1
      obtain ⟨h1, h4⟩ := and2 h1
      obtain ⟨h1, h5⟩ := and2 h1
      obtain ⟨h1, h6⟩ := and2 h1
      cases of_decide_eq_true h1
      cases tg <;> first
        | exact is_zipV (glb_of h6).1 (st.blt _ (by decide +kernel)) (vs_of st sn (es := [a, b]) (xs := [x, y]) (by rw [List.all_cons, List.all_cons, h5, h4]; rfl) (by unfold all2 all2; rw [h3, h2]; rfl)) (by rw [star_cons h5, star_cons h4]) (by rw [star_cons h4]; rfl)
        | (cases ht; done)
    · cases h
  · cases h
theorem rpA_ints {K : PySem.W.Frag} {M : Hp} {f : Nat → Int} : ∀ L : List Nat, RpA K M (L.map fun i => .int (f i)) (L.map fun i => V.int (f i))
  | [] => .nil
  | x :: r => .cons (.int _) (rpA_ints r)
/-- tuple(range(n)), the new tuple known -/
theorem pd_trng {c : Fm S} {p p2 pos pos2 : Pos} {a : PySem.Expr} {m : Env → PV.M S PyData} (hc : X.calm = true) (hgt : Gl X "tuple") (hmt : X.mg "tuple" = none) (hg : Gl X "range") (hm : X.mg "range" = none) (ha : PE X a (TR X.K c m)) (na : starEach [a] X.env = (false, eval a X.env) :: starEach [] X.env) :
    PE X (.Call (.Name "tuple" p) [.Call (.Name "range" p2) [a] [] pos2] [] pos) (TV X.K c fun env => (do let x ← m env; let ds ← ofO (srcD .rng1 [x]); pure (.tuple ds))) := by
  refine ⟨fun pins s σ H Q I q => ?_⟩
  obtain ⟨M, env, z, gd, q⟩ := q
  have nr : starEach [.Call (.Name "range" p2) [a] [] pos2] X.env = (false, eval (.Call (.Name "range" p2) [a] [] pos2) X.env) :: starEach [] X.env := rfl
  refine Call_ (ld_blt I hgt hmt boot_tuple (PyProof.Rows.callWith_type1 (args_cons (thn (prg_1 (pos := pos2) hg hm ha na pins s σ H (fun lo hi H1 => ∃ (n : Int) (s1 : S) (M1 : Hp), lo = 0 ∧ hi = n ∧ Ext c.I M H M1 H1 s1 ∧ After X.K c.I c.J c.W σ M H ((do let ds ← ofO (srcD .rng1 [PyData.int n]); pure (.tuple ds) : PV.M S PyData) s1) fun d s' => ∀ v M' H', Ext c.I M H M' H' s' → Rp X.K M' d v → Q v H') I ⟨M, env, z, gd, (After.bd (m := m env) q).imp fun d s1 q1 v M1 H1 x1 r1 => ?_⟩) fun x s1 ⟨r, a', b, t, u, v, H1, ex, hr, I1, n, s2, M1, e1, e2, x1, q2⟩ => args_nil ?_) nr) nr))
  · cases d <;> try (exact ((After.bd (m := ofO (srcD .rng1 [_])) q1 : False)).elim)
    rename_i n
    cases r1.int
    exact ⟨n, rfl, n, s1, M1, rfl, rfl, x1, q1⟩
  · subst ex e1 e2
    obtain ⟨items, e, q3⟩ := After.ofO (After.bd (m := ofO (srcD .rng1 [PyData.int b])) q2)
    obtain ⟨n', e4, h1, h2, e3⟩ := rng1_cases e
    cases e4
    have ok : RgOk 0 b := ⟨by decide, by decide, by omega, by omega, by omega⟩
    obtain ⟨b1, b2, b3, b4, b5⟩ := ok
    refine call_tuple_range (n := (b - 0).toNat) (I1.ok.hd hc) hr (small_one b1 b2 b3 b4) (rangeSize_nat 0 b) b5 fun h' tk acc hk hi => ?_
    have I2 : Inv X pins σ H1 { s1 with heap := h', toks := tk } := I1.kept hk
    have lay := laidT (Q := Q) I2 (vals_rg hi) (by rw [rgV_length, sizeLine_eq]; omega) fun p o hp hd => by
      refine q3 _ _ _ (Ext.trans gd.ok x1 ((Ext0.new x1.sub hp).ext x1.ok)) (.tup (.new hd) ?_)
      rw [e3]
      unfold rngD rgV
      rw [show (b - 0).toNat = b.toNat by omega]
      exact rpA_ints _
    rw [show acc.toList.toArray = acc by simp] at lay
    exact lay
theorem comp_of (st : Stc X C W) (sn : SndE S n) (tn : SndT S n) {tg it elt : PySem.Expr} {ifs : List PySem.Expr} {scope : Scope} {ex : Ex} {t : Tg} {k : SrcK} {src : List Ex} {fs : List Tx} {slots : List Nat}
    (h : (blkC X.N X.env.scope scope (slots.map fun i => (X.N.getD i "", i)) && ckSrcR (ckE X.N C.gcd n X.env.scope) X.env.scope it k src && notSetK k tg it && ckTg X.N (relS scope X.env.scope) (fun y => scope.names.lookup y == some .cell) tg t &&
      (tgSlots t).all (fun i => slots.contains i) && (match ifs, fs with | [], [] => true | [c], [u] => ckT X.N C.gcd n (relS scope X.env.scope) c u | _, _ => false) && ckE X.N C.gcd n (relS scope X.env.scope) elt ex) = true) :
    CompOk X C H0 M0 W tg it elt ifs scope ex t k src fs slots := by
  obtain ⟨h, h7⟩ := and2 h
  obtain ⟨h, h6⟩ := and2 h
  obtain ⟨h, h5⟩ := and2 h
  obtain ⟨h, h4⟩ := and2 h
  obtain ⟨h, h3⟩ := and2 h
  obtain ⟨h1, h2⟩ := and2 h
  refine ⟨slots.map fun i => (X.N.getD i "", i), by rw [List.map_map]; exact List.map_id _, blkOk_by h1, src_of st sn (and2 h3).2 h2, fun s H D cl fp => ?_, fun s H D cl fp => ?_, fun s H D cl fp => ?_, fold_set (and2 h3).1, fun i hi => ?_⟩
  · exact pg_of (X := X.blk s H scope (compEnvC scope cl D X.env) fp) (c := fm C H0 M0 W) st.nd st.calm (fun _ z => z) h4
  · split at h6
    · refine ⟨fun pins s σ H Q I q => pts_nil.run pins s σ H Q I ?_⟩
      obtain ⟨M, env, z, g, q⟩ := q
      exact q M H (.rfl g.ok)
    · rename_i c u _
      have hp := (tn (X.blk s H scope (compEnvC scope cl D X.env) fp) C H0 M0 (fun _ _ _ _ => False) (st.blk s H scope _ fp) c u h6).1
      refine ⟨fun pins s σ H Q I q => (pts_one hp).run pins s σ H Q I ?_⟩
      obtain ⟨M, env, z, g, q⟩ := q
      refine ⟨M, env, z, g, (After.bd (m := evT C.T C.G u env) q).imp fun b s1 q1 M1 H1 x1 => ?_⟩
      cases b with
      | true => exact q1 M1 H1 x1
      | false => exact q1 M1 H1 x1
    · cases h6
  · exact (sn (X.blk s H scope (compEnvC scope cl D X.env) fp) C H0 M0 (fun _ _ _ _ => False) (st.blk s H scope _ fp) elt ex h7).1
  · have := List.all_eq_true.mp h5 i hi
    simpa using this
theorem comp_pe (st : Stc X C W) {tg it elt : PySem.Expr} {ifs : List PySem.Expr} {scope : Scope} {ex : Ex} {t : Tg} {k : SrcK} {src : List Ex} {fs : List Tx} {slots : List Nat} {pos : Pos} (h : CompOk X C H0 M0 W tg it elt ifs scope ex t k src fs slots) :
    PE X (.ListComp elt [⟨tg, it, ifs, 0⟩] scope pos) (TF X.K (fm C H0 M0 W) (evE C.T C.G (.comp ex t k src fs slots))) := by
  obtain ⟨own, rfl, hb, hi, hg, ht, he, hs, htg⟩ := h.ex
  exact (pe_lc st.calm st.nd hi hb hg ht he hs).wk fun _ _ _ _ _ _ q => lc_data htg q
/-- the pieces of a comprehension with two for -/
structure Comp2Ok (X : Cx) (C : SE S) (H0 M0 : Hp) (W : WX) (tg it tg2 it2 elt : PySem.Expr) (ifs : List PySem.Expr) (scope : Scope) (ex : Ex) (t : Tg) (k : SrcK) (src : List Ex) (t2 : Tg) (k2 : SrcK) (src2 : List Ex) (fs : List Tx) (slots slots2 : List Nat) : Prop where
  ex : ∃ own : List (Str × Nat), own.map (·.2) = slots ∧ BlkOk X.N X.env.scope scope own ∧ PI X tg it (TId X (fm C H0 M0 W) (KpR C.I) fun env => rvE k src env (do let ds ← evRs C.T C.G src env; ofO (srcD k ds))) ∧
    (∀ (s : Shared) (H : Hp) (D : Addr) (cl : List (Str × Addr)) (fp : List Addr), PG (X.blk s H scope (compEnvC scope cl D X.env) fp) tg (TGd X.K (fm C H0 M0 W) t)) ∧
    (∀ (s : Shared) (H : Hp) (D : Addr) (cl : List (Str × Addr)) (fp : List Addr), PTs (X.blk s H scope (compEnvC scope cl D X.env) fp) [] (TB X.K (fm C H0 M0 W).noW fun _ => pure true)) ∧
    (∀ (s : Shared) (H : Hp) (D : Addr) (cl : List (Str × Addr)) (fp : List Addr), PI (X.blk s H scope (compEnvC scope cl D X.env) fp) tg2 it2 (TId X (fm C H0 M0 W).noW KpV fun env => (do let ds ← evEs C.T C.G src2 env; ofO (srcD k2 ds)))) ∧
    (∀ (s : Shared) (H : Hp) (D : Addr) (cl : List (Str × Addr)) (fp : List Addr), PG (X.blk s H scope (compEnvC scope cl D X.env) fp) tg2 (TGd X.K (fm C H0 M0 W) t2)) ∧
    (∀ (s : Shared) (H : Hp) (D : Addr) (cl : List (Str × Addr)) (fp : List Addr), PTs (X.blk s H scope (compEnvC scope cl D X.env) fp) ifs (TB X.K (fm C H0 M0 W).noW (evTs C.T C.G fs))) ∧
    (∀ (s : Shared) (H : Hp) (D : Addr) (cl : List (Str × Addr)) (fp : List Addr), PE (X.blk s H scope (compEnvC scope cl D X.env) fp) elt (TV X.K (fm C H0 M0 W).noW (evE C.T C.G ex))) ∧
    (∀ x, foldedSetIterable it X.env x = pure x) ∧ (∀ env x, foldedSetIterable it2 env x = pure x) ∧ (∀ i ∈ tgSlots t, i ∈ slots) ∧ (∀ i ∈ tgSlots t2, i ∈ slots2) ∧ ∀ i ∈ slots2, i ∈ slots
theorem ts_of (st : Stc X C W) (tn : SndT S n) {scope : Scope} {ifs : List PySem.Expr} {fs : List Tx} (h6 : (match ifs, fs with | [], [] => true | [c], [u] => ckT X.N C.gcd n (relS scope X.env.scope) c u | _, _ => false) = true)
    (s : Shared) (H : Hp) (D : Addr) (cl : List (Str × Addr)) (fp : List Addr) : PTs (X.blk s H scope (compEnvC scope cl D X.env) fp) ifs (TB X.K (fm C H0 M0 W).noW (evTs C.T C.G fs)) := by
  split at h6
  · refine ⟨fun pins s σ H Q I q => pts_nil.run pins s σ H Q I ?_⟩
    obtain ⟨M, env, z, g, q⟩ := q
    exact q M H (.rfl g.ok)
  · rename_i c u
    have hp := (tn (X.blk s H scope (compEnvC scope cl D X.env) fp) C H0 M0 (fun _ _ _ _ => False) (st.blk s H scope _ fp) c u h6).1
    refine ⟨fun pins s σ H Q I q => (pts_one hp).run pins s σ H Q I ?_⟩
    obtain ⟨M, env, z, g, q⟩ := q
    refine ⟨M, env, z, g, (After.bd (m := evT C.T C.G u env) q).imp fun b s1 q1 M1 H1 x1 => ?_⟩
    cases b with
    | true => exact q1 M1 H1 x1
    | false => exact q1 M1 H1 x1
  · exact nomatch h6
theorem all_con {xs ys : List Nat} (h : xs.all (fun i => ys.contains i) = true) : ∀ i ∈ xs, i ∈ ys := fun i hi => by
  have := List.all_eq_true.mp h i hi
  simpa using this
theorem comp2_of (st : Stc X C W) (sn : SndE S n) (tn : SndT S n) {tg it tg2 it2 elt : PySem.Expr} {ifs : List PySem.Expr} {scope : Scope} {ex : Ex} {t t2 : Tg} {k k2 : SrcK} {src src2 : List Ex} {fs : List Tx} {slots slots2 : List Nat}
    (h : (blkC X.N X.env.scope scope (slots.map fun i => (X.N.getD i "", i)) && ckSrcR (ckE X.N C.gcd n X.env.scope) X.env.scope it k src && notSetK k tg it && ckTg X.N (relS scope X.env.scope) (fun y => scope.names.lookup y == some .cell) tg t &&
      (tgSlots t).all (fun i => slots.contains i) && ckSrc (ckE X.N C.gcd n (relS scope X.env.scope)) (relS scope X.env.scope) it2 k2 src2 && notSetK k2 tg2 it2 && ckTg X.N (relS scope X.env.scope) (fun y => scope.names.lookup y == some .cell) tg2 t2 &&
      (tgSlots t2).all (fun i => slots2.contains i) && slots2.all (fun i => slots.contains i) && (match ifs, fs with | [], [] => true | [c], [u] => ckT X.N C.gcd n (relS scope X.env.scope) c u | _, _ => false) && ckE X.N C.gcd n (relS scope X.env.scope) elt ex) = true) :
    Comp2Ok X C H0 M0 W tg it tg2 it2 elt ifs scope ex t k src t2 k2 src2 fs slots slots2 := by
  obtain ⟨h, h12⟩ := and2 h
  obtain ⟨h, h11⟩ := and2 h
  obtain ⟨h, h10⟩ := and2 h
  obtain ⟨h, h9⟩ := and2 h
  obtain ⟨h, h8⟩ := and2 h
  obtain ⟨h, h7⟩ := and2 h
  obtain ⟨h, h6⟩ := and2 h
  obtain ⟨h, h5⟩ := and2 h
  obtain ⟨h, h4⟩ := and2 h
  obtain ⟨h, h3⟩ := and2 h
  obtain ⟨h1, h2⟩ := and2 h
  refine ⟨slots.map fun i => (X.N.getD i "", i), by rw [List.map_map]; exact List.map_id _, blkOk_by h1, src_of st sn (and2 h3).2 h2, fun s H D cl fp => ?_, fun s H D cl fp => ?_, fun s H D cl fp => ?_, fun s H D cl fp => ?_, fun s H D cl fp => ?_, fun s H D cl fp => ?_, fold_set (and2 h3).1, fun env => fold_set (and2 h7).1, all_con h5, all_con h9, all_con h10⟩
  · exact pg_of (X := X.blk s H scope (compEnvC scope cl D X.env) fp) (c := fm C H0 M0 W) st.nd st.calm (fun _ z => z) h4
  · exact ts_of st tn (ifs := []) (fs := []) rfl s H D cl fp
  · exact srcV_of (X := X.blk s H scope (compEnvC scope cl D X.env) fp) (st.blk s H scope _ fp) sn (and2 h7).2 h6
  · exact pg_of (X := X.blk s H scope (compEnvC scope cl D X.env) fp) (c := fm C H0 M0 W) st.nd st.calm (fun _ z => z) h8
  · exact ts_of st tn h11 s H D cl fp
  · exact (sn (X.blk s H scope (compEnvC scope cl D X.env) fp) C H0 M0 (fun _ _ _ _ => False) (st.blk s H scope _ fp) elt ex h12).1
theorem comp2_pe (st : Stc X C W) {tg it tg2 it2 elt : PySem.Expr} {ifs : List PySem.Expr} {scope : Scope} {ex : Ex} {t t2 : Tg} {k k2 : SrcK} {src src2 : List Ex} {fs : List Tx} {slots slots2 : List Nat} {pos : Pos} (h : Comp2Ok X C H0 M0 W tg it tg2 it2 elt ifs scope ex t k src t2 k2 src2 fs slots slots2) :
    PE X (.ListComp elt [⟨tg, it, [], 0⟩, ⟨tg2, it2, ifs, 0⟩] scope pos) (TF X.K (fm C H0 M0 W) (evE C.T C.G (.comp2 ex t k src t2 k2 src2 fs slots slots2))) := by
  obtain ⟨own, rfl, hb, hi, hg, h0, hi2, hg2, ht, he, hs, hs2, htg, htg2, hsl⟩ := h.ex
  exact (pe_lc2 st.calm st.nd hi hb hsl hg h0 hi2 hg2 ht he hs hs2).wk fun _ _ _ _ _ _ q => lc2_data htg htg2 q
/-- the pieces of a comprehension with three for -/
structure Comp3Ok (X : Cx) (C : SE S) (H0 M0 : Hp) (W : WX) (b c d : PySem.Expr × PySem.Expr) (elt : PySem.Expr) (scope : Scope) (ex : Ex) (t : Tg) (k : SrcK) (src : List Ex) (t2 : Tg) (k2 : SrcK) (src2 : List Ex) (t3 : Tg) (k3 : SrcK) (src3 : List Ex) (slots slots2 slots3 : List Nat) : Prop where
  ow : ∃ own : List (Str × Nat), own.map (·.2) = slots ∧ BlkOk X.N X.env.scope scope own ∧ PI X b.1 b.2 (TId X (fm C H0 M0 W) (KpR C.I) fun env => rvE k src env (do let ds ← evRs C.T C.G src env; ofO (srcD k ds)))
  g : In X scope fun B => PG B b.1 (TGd X.K (fm C H0 M0 W) t)
  i2 : In X scope fun B => PI B c.1 c.2 (TId X (fm C H0 M0 W).noW KpV fun env => (do let ds ← evEs C.T C.G src2 env; ofO (srcD k2 ds)))
  g2 : In X scope fun B => PG B c.1 (TGd X.K (fm C H0 M0 W) t2)
  i3 : In X scope fun B => PI B d.1 d.2 (TId X (fm C H0 M0 W).noW KpV fun env => (do let ds ← evEs C.T C.G src3 env; ofO (srcD k3 ds)))
  g3 : In X scope fun B => PG B d.1 (TGd X.K (fm C H0 M0 W) t3)
  e : In X scope fun B => PE B elt (TV X.K (fm C H0 M0 W).noW (evE C.T C.G ex))
  f1 : ∀ x, foldedSetIterable b.2 X.env x = pure x
  f2 : ∀ env x, foldedSetIterable c.2 env x = pure x
  f3 : ∀ env x, foldedSetIterable d.2 env x = pure x
  s1 : ∀ i ∈ tgSlots t, i ∈ slots
  s2 : ∀ i ∈ tgSlots t2, i ∈ slots2
  s3 : ∀ i ∈ tgSlots t3, i ∈ slots3
  s4 : ∀ i ∈ slots2, i ∈ slots
  s5 : ∀ i ∈ slots3, i ∈ slots2
theorem comp3_of (st : Stc X C W) (sn : SndE S n) {b c d : PySem.Expr × PySem.Expr} {elt : PySem.Expr} {scope : Scope} {ex : Ex} {t t2 t3 : Tg} {k k2 k3 : SrcK} {src src2 src3 : List Ex} {slots slots2 slots3 : List Nat}
    (h : (blkC X.N X.env.scope scope (slots.map fun i => (X.N.getD i "", i)) && (ckSrcR (ckE X.N C.gcd n X.env.scope) X.env.scope b.2 k src && notSetK k b.1 b.2 && ckTg X.N (relS scope X.env.scope) (fun y => scope.names.lookup y == some .cell) b.1 t &&
            (tgSlots t).all (fun i => slots.contains i)) && (ckSrc (ckE X.N C.gcd n (relS scope X.env.scope)) (relS scope X.env.scope) c.2 k2 src2 && notSetK k2 c.1 c.2 && ckTg X.N (relS scope X.env.scope) (fun y => scope.names.lookup y == some .cell) c.1 t2 &&
            (tgSlots t2).all (fun i => slots2.contains i) && slots2.all (fun i => slots.contains i)) && (ckSrc (ckE X.N C.gcd n (relS scope X.env.scope)) (relS scope X.env.scope) d.2 k3 src3 && notSetK k3 d.1 d.2 && ckTg X.N (relS scope X.env.scope) (fun y => scope.names.lookup y == some .cell) d.1 t3 &&
            (tgSlots t3).all (fun i => slots3.contains i) && slots3.all (fun i => slots2.contains i)) && ckE X.N C.gcd n (relS scope X.env.scope) elt ex) = true) :
    Comp3Ok X C H0 M0 W b c d elt scope ex t k src t2 k2 src2 t3 k3 src3 slots slots2 slots3 := by
  obtain ⟨h, he⟩ := and2 h
  obtain ⟨h, h3⟩ := and2 h
  obtain ⟨h, h2⟩ := and2 h
  obtain ⟨h0, h1⟩ := and2 h
  obtain ⟨h1, a4⟩ := and2 h1
  obtain ⟨h1, a3⟩ := and2 h1
  obtain ⟨a1, a2⟩ := and2 h1
  obtain ⟨h2, b5⟩ := and2 h2
  obtain ⟨h2, b4⟩ := and2 h2
  obtain ⟨h2, b3⟩ := and2 h2
  obtain ⟨b1, b2⟩ := and2 h2
  obtain ⟨h3, d5⟩ := and2 h3
  obtain ⟨h3, d4⟩ := and2 h3
  obtain ⟨h3, d3⟩ := and2 h3
  obtain ⟨d1, d2⟩ := and2 h3
  refine ⟨⟨slots.map fun i => (X.N.getD i "", i), by rw [List.map_map]; exact List.map_id _, blkOk_by h0, src_of st sn (and2 a2).2 a1⟩, fun s H D cl fp => ?_, fun s H D cl fp => ?_, fun s H D cl fp => ?_, fun s H D cl fp => ?_, fun s H D cl fp => ?_, fun s H D cl fp => ?_,
    fold_set (and2 a2).1, fun env => fold_set (and2 b2).1, fun env => fold_set (and2 d2).1, all_con a4, all_con b4, all_con d4, all_con b5, all_con d5⟩
  · exact pg_of (X := X.blk s H scope (compEnvC scope cl D X.env) fp) (c := fm C H0 M0 W) st.nd st.calm (fun _ z => z) a3
  · exact srcV_of (X := X.blk s H scope (compEnvC scope cl D X.env) fp) (st.blk s H scope _ fp) sn (and2 b2).2 b1
  · exact pg_of (X := X.blk s H scope (compEnvC scope cl D X.env) fp) (c := fm C H0 M0 W) st.nd st.calm (fun _ z => z) b3
  · exact srcV_of (X := X.blk s H scope (compEnvC scope cl D X.env) fp) (st.blk s H scope _ fp) sn (and2 d2).2 d1
  · exact pg_of (X := X.blk s H scope (compEnvC scope cl D X.env) fp) (c := fm C H0 M0 W) st.nd st.calm (fun _ z => z) d3
  · exact (sn (X.blk s H scope (compEnvC scope cl D X.env) fp) C H0 M0 (fun _ _ _ _ => False) (st.blk s H scope _ fp) elt ex he).1
theorem comp3_pe (st : Stc X C W) {b c d : PySem.Expr × PySem.Expr} {elt : PySem.Expr} {scope : Scope} {ex : Ex} {t t2 t3 : Tg} {k k2 k3 : SrcK} {src src2 src3 : List Ex} {slots slots2 slots3 : List Nat} {pos : Pos} (h : Comp3Ok X C H0 M0 W b c d elt scope ex t k src t2 k2 src2 t3 k3 src3 slots slots2 slots3) :
    PE X (cm b c d elt scope pos) (TF X.K (fm C H0 M0 W) (evE C.T C.G (.comp3 ex t k src t2 k2 src2 t3 k3 src3 slots slots2 slots3))) := by
  obtain ⟨own, rfl, hb, hi⟩ := h.ow
  exact (pe_lc3 st.calm st.nd hi hb h.s4 h.s5 h.g h.i2 h.g2 h.i3 h.g3 h.e h.f1 h.f2 h.f3).wk fun _ _ _ _ _ _ q => lc3_data h.s1 h.s2 h.s3 q
theorem snd_all : ∀ n, SndE S n ∧ SndT S n := by
  intro n
  induction n with
  | zero => exact ⟨fun X C H0 M0 W st e x h => (nomatch h), fun X C H0 M0 W st e x h => (nomatch h)⟩
  | succ n ih =>
    obtain ⟨sn, tn⟩ := ih
    have hE : SndE S (n + 1) := fun X C H0 M0 W st e x h => by
      have hu : X.A.units + 65 < cLine := by have := st.room.un; omega
      unfold ckE at h
      split at h
      · rename_i op a pos
        obtain ⟨h1, h2⟩ := sn X C H0 M0 W st a x h
        exact ⟨pe_one h1, fun f => pe_one (h2 f)⟩
      · cases x with
        | var i =>
          dsimp only at h
          split at h
          · obtain ⟨h1, h2, h3, h4⟩ := name_of h
            exact ⟨pd_var h1 h2 h3 h4, fun f => nomatch f⟩
          · cases h
        | con k =>
          dsimp only at h
          split at h
          · rename_i y j p _
            refine ⟨?_, fun f => nomatch f⟩
            cases k with
            | non =>
              cases y <;> try (simp [conB] at h; done)
              exact pd_con pe_non (fun _ => .non) fun _ _ => rfl
            | bl b =>
              cases y <;> try (simp [conB] at h; done)
              cases eq_of_beq h
              exact pd_con pe_bl (fun _ => .bl _) fun _ _ => rfl
            | int b =>
              cases y <;> try (simp [conB] at h; done)
              cases of_decide_eq_true h
              exact pd_con pe_int (fun _ => .int _) fun _ _ => rfl
            | str b =>
              cases y <;> try (simp [conB] at h; done)
              cases of_decide_eq_true h
              exact pd_con pe_str (fun _ => .str _) fun _ _ => rfl
          · cases h
        | glob z =>
          dsimp only at h
          split at h
          · rename_i y p _
            refine ⟨?_, fun f => nomatch f⟩
            obtain ⟨h1, h2⟩ := and2 h
            have e1 := of_decide_eq_true h1
            subst e1
            obtain ⟨g1, g2⟩ := glb_of h2
            cases e : C.G y with
            | none =>
              refine ⟨fun pins s σ H Q I q => ?_⟩
              obtain ⟨M, env, z, g, q⟩ := q
              have q' : After X.K C.I C.J W σ M H ((ofO (C.G y) : PV.M S PyData) z) _ := q
              rw [e] at q'
              exact (show False from q').elim
            | some d =>
              obtain ⟨u, v, m1, m2, m3⟩ := st.glb y d e
              exact pd_con (pe_glob g1 m1 m2 g2) m3 fun _ s => by
                show (ofO (C.G y) : PV.M S PyData) s = _
                rw [e]
                rfl
          · cases h
        | bop o x y =>
          dsimp only at h
          split at h
          · rename_i a op b p _
            obtain ⟨h, h3⟩ := and2 h
            obtain ⟨h1, h2⟩ := and2 h
            cases of_decide_eq_true h1
            have f := pd_two (c := fm C H0 M0 W) (pe_op (pos := p) (op2_bop (I := C.I) o).opR (rd_of st sn h2) (rd_of st sn h3))
            exact ⟨f.wk fun _ _ _ _ _ _ q => TV_TF q, fun _ => f⟩
          · cases h
        | neg x =>
          dsimp only at h
          split at h
          · exact ⟨pd_neg (rd_of st sn h), fun f => nomatch f⟩
          · cases h
        | cmp o x y =>
          dsimp only at h
          split at h
          · rename_i a op b p _
            obtain ⟨h, h3⟩ := and2 h
            obtain ⟨h, h2⟩ := and2 h
            obtain ⟨h1, h4⟩ := and2 h
            cases of_decide_eq_true h1
            have f := pd_two (c := fm C H0 M0 W) (pe_cmpR (pos := p) (op2_cop (I := C.I) hu o).opR (rd_of st sn h2) (rd_of st sn h3) (not_false' h4))
            exact ⟨f.wk fun _ _ _ _ _ _ q => TV_TF q, fun f => nomatch f⟩
          · cases h
        | chain o1 o2 x y z =>
          dsimp only at h
          split at h
          · rename_i a p q b d pos _
            obtain ⟨h, h5⟩ := and2 h
            obtain ⟨h, h4⟩ := and2 h
            obtain ⟨h, h3⟩ := and2 h
            obtain ⟨h, h2⟩ := and2 h
            obtain ⟨h1, h6⟩ := and2 h
            cases of_decide_eq_true h1
            cases of_decide_eq_true h6
            exact ⟨pd_chain hu (rd_of st sn h3) (rd_of st sn h4) (rd_of st sn h5) (not_false' h2), fun f => nomatch f⟩
          · cases h
        | and x y =>
          dsimp only at h
          split at h
          · obtain ⟨h1, h2⟩ := and2 h
            exact ⟨pd_and (sn X C H0 M0 W st _ _ h1).1 (sn X C H0 M0 W st _ _ h2).1, fun f => nomatch f⟩
          · cases h
        | or x y =>
          dsimp only at h
          split at h
          · obtain ⟨h1, h2⟩ := and2 h
            exact ⟨pd_or (sn X C H0 M0 W st _ _ h1).1 (sn X C H0 M0 W st _ _ h2).1, fun f => nomatch f⟩
          · cases h
        | not x =>
          dsimp only at h
          split at h
          · exact ⟨pd_not (sn X C H0 M0 W st _ _ h).1, fun f => nomatch f⟩
          · cases h
        | ite t x y =>
          dsimp only at h
          split at h
          · obtain ⟨h, h3⟩ := and2 h
            obtain ⟨h1, h2⟩ := and2 h
            exact ⟨pd_ite (tn X C H0 M0 W st _ _ h1).1 (sn X C H0 M0 W st _ _ h2).1 (sn X C H0 M0 W st _ _ h3).1, fun f => nomatch f⟩
          · cases h
        | idx x y =>
          dsimp only at h
          split at h
          · obtain ⟨h, h3⟩ := and2 h
            obtain ⟨h1, h2⟩ := and2 h
            exact ⟨pd_idx (rd_of st sn h2) (rd_of st sn h3) (plain_ix h1), fun f => nomatch f⟩
          · cases h
        | slc x l u =>
          dsimp only at h
          split at h
          · rename_i a lo hi p2 pos _
            obtain ⟨h, h3⟩ := and2 h
            obtain ⟨h1, h2⟩ := and2 h
            have po : ∀ {o : Option PySem.Expr} {x : Option Ex}, ckOpt (ckE X.N C.gcd n X.env.scope) o x = true → PO X o (TOd X (fm C H0 M0 W) (evO C.T C.G x)) := fun {o x} ho => by
              cases o with
              | none =>
                cases x with
                | none => exact po_no
                | some x => exact nomatch ho
              | some e =>
                cases x with
                | none => exact nomatch ho
                | some x => exact po_so (rd_of st sn ho)
            have f := pd_slc (c := fm C H0 M0 W) (p2 := p2) (pos := pos) (rd_of st sn h1) (po h2) (po h3)
            exact ⟨f.wk fun _ _ _ _ _ _ q => TV_TF q, fun _ => f⟩
          · cases h
        | tup xs =>
          dsimp only at h
          split at h
          · obtain ⟨h1, h2⟩ := and2 h
            exact ⟨pd_tup (vs_of st sn h1 h2), fun f => nomatch f⟩
          · cases h
        | lst xs =>
          dsimp only at h
          split at h
          · rename_i es pos _
            obtain ⟨h1, h2⟩ := and2 h
            have f := pd_lst (c := fm C H0 M0 W) (pos := pos) (vs_of st sn h1 h2)
            exact ⟨f.wk fun _ _ _ _ _ _ q => TV_TF q, fun _ => f⟩
          · cases h
        | call g xs =>
          dsimp only at h
          split at h
          · rename_i f p es pos _
            refine ⟨?_, fun f => nomatch f⟩
            obtain ⟨h, h4⟩ := and2 h
            obtain ⟨h, h3⟩ := and2 h
            obtain ⟨h1, h2⟩ := and2 h
            have e1 := of_decide_eq_true h1
            subst e1
            obtain ⟨g1, g2⟩ := glb_of h2
            cases e : C.T f with
            | none =>
              refine ⟨fun pins s σ H Q I q => ?_⟩
              obtain ⟨M, env, z, g, q⟩ := q
              have q' : After X.K C.I C.J W σ M H ((match C.T f with | some F => (do let avs ← evAs C.T C.G xs env; F avs) | none => bad : PV.M S PyData) z) _ := q
              rw [e] at q'
              exact (show False from q').elim
            | some F =>
              obtain ⟨a, fd, ps, m1, m2, m3, m4, m5⟩ := st.fns f F e
              have ha := as_of (H0 := H0) (M0 := M0) st sn h3 h4
              have eT : ∀ env, evE C.T C.G (.call f xs) env = (do let avs ← evAs C.T C.G xs env; F avs) := fun env => by
                show (match C.T f with | some F => (do let avs ← evAs C.T C.G xs env; F avs) | none => bad : PV.M S PyData) = _
                rw [e]
              rw [funext eT]
              cases es with
              | nil =>
                cases xs with
                | nil =>
                  cases ps with
                  | nil => exact pd_call0 m4 st.room g1 m1 m2 m3 st.tk g2
                  | cons y ys =>
                    refine ⟨fun pins s σ H Q I q => ?_⟩
                    obtain ⟨M, env, z, gd, q⟩ := q
                    have q' : After X.K C.I C.J W σ M H (F [] z) _ := q
                    rw [m5 [] z (by simp)] at q'
                    exact (show False from q').elim
                | cons _ _ => exact nomatch h4
              | cons a0 es =>
                rw [List.all_cons] at h3
                obtain ⟨s1, s2⟩ := and2 h3
                exact pd_call m4 st.room g1 m1 m2 m3 st.tk ha m5 g2 (star_cons s1) (star_any s2)
          · cases h
        | prim p xs =>
          dsimp only at h
          split at h
          · rename_i f p0 a es pos _
            obtain ⟨h, h3⟩ := and2 h
            obtain ⟨h1, h2⟩ := and2 h
            cases of_decide_eq_true h1
            obtain ⟨g1, g2⟩ := glb_of h2
            split at h3
            · rename_i t m pm x _ _
              refine ⟨?_, fun f => nomatch f⟩
              obtain ⟨h3, h7⟩ := and2 h3
              obtain ⟨h3, h6⟩ := and2 h3
              obtain ⟨h4, h5⟩ := and2 h3
              obtain ⟨k1, k2⟩ := glb_of h5
              have hm := of_decide_eq_true h4
              refine pd_isi (rd_of st sn h7) g1 (st.blt _ (by decide +kernel)) hm k1 (st.blt _ ?_) (star_cons h6)
              rw [hm]
              cases t <;> decide +kernel
            · obtain ⟨h3, h7⟩ := and2 h3
              obtain ⟨h3, h6⟩ := and2 h3
              obtain ⟨h4, h5⟩ := and2 h3
              have f := pe_prim (H0 := H0) (M0 := M0) (pos := pos) (p0 := p0) st h4 (fun e => by
                rw [e] at h7
                simpa using h7) g1 h5 (rs_of st sn h5 h6)
              exact ⟨f.wk fun _ _ _ _ _ _ q => TV_TF q, fun _ => f⟩
          · cases h
        | meth m x xs =>
          dsimp only at h
          split at h
          · rename_i o f ap a cp y _
            refine ⟨?_, fun f => nomatch f⟩
            obtain ⟨h, h6⟩ := and2 h
            obtain ⟨h, h5⟩ := and2 h
            obtain ⟨h, h4⟩ := and2 h
            obtain ⟨h, h3⟩ := and2 h
            obtain ⟨h1, h2⟩ := and2 h
            cases of_decide_eq_true h1
            exact pd_index (rd_of st sn h5) (rs_of st sn (es := [a]) (xs := [y]) (by rw [List.all_cons, h4]; rfl) (by unfold all2; rw [h6]; rfl)) (attr_base h3) h2 (star_cons h4)
          · rename_i o f ap a cp y _
            refine ⟨?_, fun f => nomatch f⟩
            obtain ⟨h, h6⟩ := and2 h
            obtain ⟨h, h5⟩ := and2 h
            obtain ⟨h, h4⟩ := and2 h
            obtain ⟨h, h3⟩ := and2 h
            obtain ⟨h1, h2⟩ := and2 h
            cases of_decide_eq_true h1
            exact pd_count (rd_of st sn h5) (rs_of st sn (es := [a]) (xs := [y]) (by rw [List.all_cons, h4]; rfl) (by unfold all2; rw [h6]; rfl)) (attr_base h3) h2 (star_cons h4)
          · cases h
        | trng x =>
          dsimp only at h
          split at h
          · rename_i f p1 g p2 a p3 p4 _
            refine ⟨?_, fun f => nomatch f⟩
            obtain ⟨h, h6⟩ := and2 h
            obtain ⟨h, h5⟩ := and2 h
            obtain ⟨h, h4⟩ := and2 h
            obtain ⟨h, h3⟩ := and2 h
            obtain ⟨h1, h2⟩ := and2 h
            cases of_decide_eq_true h1
            cases of_decide_eq_true h3
            exact pd_trng st.calm (glb_of h2).1 (st.blt _ (by decide +kernel)) (glb_of h4).1 (st.blt _ (by decide +kernel)) (rd_of st sn h6) (star_cons h5)
          · cases h
        | stp x l k =>
          dsimp only at h
          split at h
          · rename_i a b i t1 p1 p3 pos _
            obtain ⟨h, h3⟩ := and2 h
            obtain ⟨h1, h2⟩ := and2 h
            cases of_decide_eq_true h1
            have po : ∀ {o : Option PySem.Expr} {x : Option Ex}, ckOpt (ckE X.N C.gcd n X.env.scope) o x = true → PO X o (TOd X (fm C H0 M0 W) (evO C.T C.G x)) := fun {o x} ho => by
              cases o with
              | none =>
                cases x with
                | none => exact po_no
                | some x => exact nomatch ho
              | some e =>
                cases x with
                | none => exact nomatch ho
                | some x => exact po_so (rd_of st sn ho)
            have f := pd_stp (c := fm C H0 M0 W) (k := k) (t1 := t1) (p1 := p1) (p3 := p3) (pos := pos) (rd_of st sn h2) (po h3)
            exact ⟨f.wk fun _ _ _ _ _ _ q => TV_TF q, fun _ => f⟩
          · cases h
        | fus k x =>
          dsimp only at h
          split at h
          · rename_i a k p1 p2 p3 p4 _
            have f := pd_rev (k := k) (p1 := p1) (p2 := p2) (p3 := p3) (pos := p4) (rd_of (H0 := H0) (M0 := M0) st sn h)
            exact ⟨f.wk fun _ _ _ _ _ _ q => TV_TF q, fun _ => f⟩
          · rename_i f p1 g p2 a p3 p4 _
            obtain ⟨h, h6⟩ := and2 h
            obtain ⟨h, h5⟩ := and2 h
            obtain ⟨h, h4⟩ := and2 h
            obtain ⟨h, h3⟩ := and2 h
            obtain ⟨h1, h2⟩ := and2 h
            cases of_decide_eq_true h1
            cases of_decide_eq_true h3
            have f := pd_sset (p := p1) (p2 := p2) (q := p3) (pos := p4) st.calm (glb_of h2).1 (st.blt _ (by decide +kernel)) (glb_of h4).1 (st.blt _ (by decide +kernel)) (rd_of (H0 := H0) (M0 := M0) st sn h6) (star_cons h5)
            exact ⟨f.wk fun _ _ _ _ _ _ q => TV_TF q, fun _ => f⟩
          · rename_i f p1 g p2 a p3 p4 _
            obtain ⟨h, h6⟩ := and2 h
            obtain ⟨h, h5⟩ := and2 h
            obtain ⟨h, h4⟩ := and2 h
            obtain ⟨h, h3⟩ := and2 h
            obtain ⟨h1, h2⟩ := and2 h
            cases of_decide_eq_true h1
            cases of_decide_eq_true h3
            have f := pd_lset (p := p1) (p2 := p2) (q := p3) (pos := p4) st.calm (glb_of h2).1 (st.blt _ (by decide +kernel)) (glb_of h4).1 (st.blt _ (by decide +kernel)) (rd_of (H0 := H0) (M0 := M0) st sn h6) (star_cons h5)
            exact ⟨f.wk fun _ _ _ _ _ _ q => TV_TF q, fun _ => f⟩
          · rename_i f p1 g p2 a p3 p4 _
            obtain ⟨h, h6⟩ := and2 h
            obtain ⟨h, h5⟩ := and2 h
            obtain ⟨h, h4⟩ := and2 h
            obtain ⟨h, h3⟩ := and2 h
            obtain ⟨h1, h2⟩ := and2 h
            cases of_decide_eq_true h1
            cases of_decide_eq_true h3
            have f := pd_lrng (p := p1) (p2 := p2) (pos2 := p3) (pos := p4) st.calm (glb_of h2).1 (st.blt _ (by decide +kernel)) (glb_of h4).1 (st.blt _ (by decide +kernel)) (rd_of (H0 := H0) (M0 := M0) st sn h6) (star_cons h5)
            exact ⟨f.wk fun _ _ _ _ _ _ q => TV_TF q, fun _ => f⟩
          · cases h
        | comp ex t k src fs slots =>
          dsimp only at h
          split at h
          · rename_i elt tg it ifs scope pos _
            have f := comp_pe (H0 := H0) (M0 := M0) (pos := pos) st (comp_of st sn tn h)
            exact ⟨f.wk fun _ _ _ _ _ _ q => TV_TF q, fun _ => f⟩
          · cases h
        | comp2 ex t k src t2 k2 src2 fs slots slots2 =>
          dsimp only at h
          split at h
          · rename_i elt tg it tg2 it2 ifs scope pos _
            have f := comp2_pe (H0 := H0) (M0 := M0) (pos := pos) st (comp2_of st sn tn h)
            exact ⟨f.wk fun _ _ _ _ _ _ q => TV_TF q, fun _ => f⟩
          · cases h
        | comp3 ex t k src t2 k2 src2 t3 k3 src3 slots slots2 slots3 =>
          dsimp only at h
          split at h
          · rename_i elt tg it tg2 it2 tg3 it3 scope pos _
            have f := comp3_pe (H0 := H0) (M0 := M0) (b := (tg, it)) (c := (tg2, it2)) (d := (tg3, it3)) (pos := pos) st (comp3_of st sn h)
            exact ⟨f.wk fun _ _ _ _ _ _ q => TV_TF q, fun _ => f⟩
          · cases h
    refine ⟨hE, fun X C H0 M0 W st e t h => ?_⟩
    have hu : X.A.units + 65 < cLine := by have := st.room.un; omega
    unfold ckT at h
    split at h
    · rename_i op a pos
      have h1 := (tn X C H0 M0 W st a t h).1
      have w : PW X (.BoolOp op [a] pos) (TB X.K (fm C H0 M0 W) (evT C.T C.G t)) := by
        cases op
        · exact pw_and1 h1
        · exact pw_or1 h1
      exact ⟨w.pt, fun _ _ _ z => z ▸ w⟩
    · cases t with
      | and x y =>
        dsimp only at h
        split at h
        · rename_i a b r pos _
          obtain ⟨h1, h2⟩ := and2 h
          have w := td_and (pos := pos) (tn X C H0 M0 W st a x h1).1 ((tn X C H0 M0 W st _ y h2).2 _ _ _ rfl)
          exact ⟨w.pt, fun _ _ _ z => z ▸ w⟩
        · cases h
      | or x y =>
        dsimp only at h
        split at h
        · rename_i a b r pos _
          obtain ⟨h1, h2⟩ := and2 h
          have w := td_or (pos := pos) (tn X C H0 M0 W st a x h1).1 ((tn X C H0 M0 W st _ y h2).2 _ _ _ rfl)
          exact ⟨w.pt, fun _ _ _ z => z ▸ w⟩
        · cases h
      | not x =>
        dsimp only at h
        split at h
        · exact ⟨td_not (tn X C H0 M0 W st _ x h).1, fun _ _ _ z => nomatch z⟩
        · cases h
      | e x =>
        dsimp only at h
        split at h
        · rename_i a op b p o y z _
          obtain ⟨h, h3⟩ := and2 h
          obtain ⟨h, h2⟩ := and2 h
          obtain ⟨h1, h4⟩ := and2 h
          cases of_decide_eq_true h1
          exact ⟨td_cmp (c := fm C H0 M0 W) (pos := p) (op2_cop (I := C.I) hu o).opR (rd_of st sn h2) (rd_of st sn h3) (not_false' h4), fun _ _ _ z => nomatch z⟩
        · rename_i a p q b d pos o1 o2 u v w _
          obtain ⟨h, h5⟩ := and2 h
          obtain ⟨h, h4⟩ := and2 h
          obtain ⟨h, h3⟩ := and2 h
          obtain ⟨h, h2⟩ := and2 h
          obtain ⟨h1, h6⟩ := and2 h
          cases of_decide_eq_true h1
          cases of_decide_eq_true h6
          exact ⟨td_chain hu (rd_of st sn h3) (rd_of st sn h4) (rd_of st sn h5) (not_false' h2), fun _ _ _ z => nomatch z⟩
        · obtain ⟨h1, h2⟩ := and2 h
          refine ⟨td_val (rd_of st sn h2) (plain_t h1), fun op es pos z => ?_⟩
          subst z
          cases h1
end
end PV
set_option Elab.async false
set_option linter.all false
set_option maxRecDepth 100000
set_option maxHeartbeats 8000000
/-! PV, thirteenth part: single statements. -/
namespace PV
open PySem PySem.Spec PyProof.Rows L2
section
variable {S : Type} {X : Cx} {c : Fm S} {K : PySem.W.Frag}
/-- what holds of the heap through a def -/
structure Fr0 (I : HI S) (H0 M0 M H : Hp) (s : S) : Prop where
  ok : Ok I M H s
  m0 : ∀ a, H0 a ≠ none → M a = M0 a
  h0 : ∀ a o, H0 a = some o → ¬ I.Z a → H a = some o
theorem Gd.fr {I : HI S} {H0 M0 M H : Hp} {σ : List (Option V)} {env : Env} {s : S} (g : Gd K I H0 M0 M H σ env s) : Fr0 I H0 M0 M H s := ⟨g.ok, g.m0, g.h0⟩
/-- what a block's answer means at its ends; M: what was shared ahead of it -/
def AfterS (K : PySem.W.Frag) (c : Fm S) (M : Hp) (r : RS S) (D : Ends) : Prop := match r with
  | .ok (.nx env') s' => ∀ σ' M' H', Gd K c.I c.H0 c.M0 M' H' σ' env' s' → Same M M' → D.nx σ' H'
  | .ok (.ret d) s' => ∀ v M' H', Fr0 c.I c.H0 c.M0 M' H' s' → Same M M' → Rp K M' d v → D.rt v H'
  | .ok (.bk env') s' => ∀ σ' M' H', Gd K c.I c.H0 c.M0 M' H' σ' env' s' → Same M M' → D.bk σ' H'
  | .ok (.ct env') s' => ∀ σ' M' H', Gd K c.I c.H0 c.M0 M' H' σ' env' s' → Same M M' → D.ct σ' H'
  | .exn x p env' s' => ∀ cls dd σ' M' H', Gd K c.I c.H0 c.M0 M' H' σ' env' s' → Same M M' → Xr K c.J x p cls dd M' H' → c.W cls dd σ' H'
  | .bad => False
def TSd (K : PySem.W.Frag) (c : Fm S) (m : Env → S → RS S) : TS := fun D σ H => ∃ M env s, Gd K c.I c.H0 c.M0 M H σ env s ∧ AfterS K c M (m env s) D
variable {M M1 H H1 : Hp} {σ : List (Option V)} {env : Env} {s s1 : S} {D : Ends}
theorem AfterS.mono {r : RS S} (e : Same M M1) (h : AfterS K c M r D) : AfterS K c M1 r D := by
  cases r with
  | ok f s =>
    cases f with
    | nx env => exact fun σ' M' H' g k => h σ' M' H' g (e.trans k)
    | ret d => exact fun v M' H' g k => h v M' H' g (e.trans k)
    | bk env => exact fun σ' M' H' g k => h σ' M' H' g (e.trans k)
    | ct env => exact fun σ' M' H' g k => h σ' M' H' g (e.trans k)
  | exn x p env s => exact fun cls dd σ' M' H' g k => h cls dd σ' M' H' g (e.trans k)
  | bad => exact h
theorem onE_after {α : Type} {r : R S α} {k : α → S → RS S} (g : Gd K c.I c.H0 c.M0 M H σ env s) (h : AfterS K c M (onE r env k) D) : After K c.I c.J c.W σ M H r fun a s' => AfterS K c M (k a s') D := by
  cases r with
  | ok a s' => exact h
  | exn x p s' => exact fun cls dd M' H' y z => h cls dd σ M' H' (g.ext y) (y.mm g.ok) z
  | bad => exact h
theorem onO_after {α : Type} {o : Option α} {k : α → RS S} (h : AfterS K c M (onO o k) D) : ∃ a, o = some a ∧ AfterS K c M (k a) D := by
  cases o with
  | none => exact (show False from h).elim
  | some a => exact ⟨a, rfl, h⟩
/-- target = value, the value's reading any that gives data -/
theorem sd_asg {st : PySem.Stmt} {te : TE} {m : Env → PV.M S PyData} {t : Tg} {g : TG} (h : PS X st (tAsg te g)) (he : ∀ σ H Q, TV X.K c m σ H Q → te σ H Q) (hg : ∀ v σ H Q, TGd X.K c t v σ H Q → g v σ H Q) :
    PS X st (TSd X.K c fun env s => onE (m env s) env fun d s => onO (setTg t d env) fun env' => .ok (.nx env') s) := by
  refine h.wk fun pins s σ H D _ q => ?_
  obtain ⟨M, env, z, gd, q⟩ := q
  refine he _ _ _ ⟨M, env, z, gd, (onE_after gd q).imp fun d s1 q1 v M1 H1 x1 r1 => hg _ _ _ _ ?_⟩
  obtain ⟨env', e, q2⟩ := onO_after q1
  exact ⟨M1, env, s1, d, env', gd.ext x1, r1, e, fun σ' g' _ => q2 σ' M1 H1 g' (x1.mm gd.ok)⟩
theorem sd_own {st : PySem.Stmt} {te : TE} {m : Env → PV.M S PyData} {i : Nat} (h : PS X st (tAsg te (gName i))) (he : ∀ σ H Q, TF X.K c m σ H Q → te σ H Q) :
    PS X st (TSd X.K c fun env s => onE (m env s) env fun d s => match d with
      | .list ds => if i < env.length then .ok (.nx (env.set i (.own ds))) s else .bad
      | _ => .bad) := by
  refine h.wk fun pins s σ H D _ q => ?_
  obtain ⟨M, env, z, gd, q⟩ := q
  refine he _ _ _ ⟨M, env, z, gd, (onE_after gd q).imp fun d s1 q1 v M1 H1 x1 r1 => ?_⟩
  cases d <;> try exact (show False from q1).elim
  rename_i ds
  obtain ⟨p, vs, rfl, hp, hp', mp, r⟩ := r1
  dsimp only at q1
  split at q1
  · have g1 := gd.ext x1
    have h0 : c.H0 p = none := by
      cases e : c.H0 p with
      | none => rfl
      | some o =>
        exfalso
        by_cases hz : c.I.Z p
        · exact c.I.zt z H p gd.ok.hp hz hp
        · rw [gd.h0 p o e hz] at hp
          cases hp
    have nz : ¬ c.I.Z p := fun hz => c.I.zt z H p gd.ok.hp hz hp
    refine q1 _ M1 H1 (g1.set i (.own ds) (some (.ref p)) ⟨p, vs, rfl, hp', mp, h0, nz, r⟩ fun xs _ j ys p' nj ej e1 e2 => ?_) (x1.mm gd.ok)
    cases e1
    obtain ⟨ov, e3, p2, vs2, rfl, h2, _⟩ := gd.sl j _ ej
    rw [e2] at e3
    cases e3
    rw [hp] at h2
    cases h2
  · exact (show False from q1).elim
/-- x = range(n) -/
theorem cr_range1 : CallR X (.type "range") (fun vs H Q => ∃ j : Int, vs = [V.int j] ∧ ∀ p, H p = none → Q (.ref p) (upd H p (.rng 0 j))) := by
  intro pins s σ H vs us Q i r h
  obtain ⟨j, rfl, q⟩ := h
  cases r with
  | cons r1 r2 =>
    cases r2
    obtain ⟨t, rfl⟩ := r1
    refine call_range_1 ⟨.ref s.heap.objs.size, upd H s.heap.objs.size (.rng 0 j), i.laid (t' := _) (fun b o e => Heap.get?_push_of_some _ e) (Nat.le_refl _) ?_, rfl, q _ (i.hok.fresh (Nat.le_refl _))⟩
    exact ⟨_, _, _, Heap.get?_push_size _ rfl⟩
theorem sd_asgR {st : PySem.Stmt} {te : TE} {m : Env → PV.M S PyData} {i : Nat} (h : PS X st (tAsg te (gName i))) (he : ∀ σ H Q, TR X.K c m σ H (fun x H1 => ∃ j : Int, x = .int j ∧ ∀ p, H1 p = none → Q (.ref p) (upd H1 p (.rng 0 j))) → te σ H Q) :
    PS X st (TSd X.K c fun env s => onE (m env s) env fun d s => match d with
      | .int n => if i < env.length ∧ n ≤ 16777216 ∧ -4611686018427387904 ≤ n then .ok (.nx (env.set i (.rng n))) s else .bad
      | _ => .bad) := by
  refine h.wk fun pins s σ H D _ q => ?_
  obtain ⟨M, env, z, gd, q⟩ := q
  refine he _ _ _ ⟨M, env, z, gd, (onE_after gd q).imp fun d s1 q1 v M1 H1 x1 r1 => ?_⟩
  cases d <;> try exact (show False from q1).elim
  rename_i n
  cases r1.int
  dsimp only at q1
  split at q1
  · refine ⟨n, rfl, fun p hp => ?_⟩
    have x2 : Ext0 M1 H1 (upd M1 p (.rng 0 n)) (upd H1 p (.rng 0 n)) := .new x1.sub hp
    have g2 := (gd.ext x1).ext (x2.ext x1.ok)
    exact q1 _ _ _ (g2.set i (.rng n) (some (.ref p)) ⟨p, rfl, upd_same⟩ fun _ e => nomatch e) ((x1.mm gd.ok).trans ((x2.ext x1.ok).mm x1.ok))
  · exact (show False from q1).elim
theorem sd_par {i j : Nat} {x y : Str} {a b : PySem.Expr} {px py pt pos : Pos} {kt k2 : Nat} {pt2 : Pos} {ma mb : Env → PV.M S PyData} (hc : X.calm = true) (hN : X.N.Nodup) (hi : X.N[i]? = some x) (hj : X.N[j]? = some y) (hij : i ≠ j)
    (hx : X.env.scope.names.lookup x = some .local) (hy : X.env.scope.names.lookup y = some .local) (ha : PE X a (TV X.K c ma)) (hb : PE X b (TV X.K c mb)) (sa : starEach [a, b] X.env = (false, eval a X.env) :: starEach [b] X.env) (sb : starEach [b] X.env = (false, eval b X.env) :: starEach [] X.env)
    (hw : swappedStores [.Tuple [.Name x px, .Name y py] kt pt] (.Tuple [a, b] k2 pt2) X.env = pure (some [x, y])) :
    PS X (.Assign [.Tuple [.Name x px, .Name y py] kt pt] (.Tuple [a, b] k2 pt2) pos) (TSd X.K c fun env s => onE (ma env s) env fun x s => onE (mb env s) env fun y s =>
      if i < env.length ∧ j < env.length ∧ i ≠ j then .ok (.nx ((env.set i (.v x)).set j (.v y))) s else .bad) := by
  refine (ps_par (i := i) (j := j) hc hN hi hj hij hx hy (pa_cons ha (pa_cons hb pa_nil sb) sa) hw).wk fun pins s σ H D _ q => ?_
  obtain ⟨M, env, z, gd, q⟩ := q
  refine ⟨M, env, z, gd, (onE_after gd q).imp fun dx s1 q1 v M1 H1 x1 r1 => ?_⟩
  have g1 := gd.ext x1
  refine ⟨M1, env, s1, g1, (onE_after g1 (AfterS.mono (x1.mm gd.ok) q1)).imp fun dy s2 q2 w M2 H2 x2 r2 => ?_⟩
  split at q2
  · exact ⟨v, w, rfl, q2 _ M2 H2 (((g1.ext x2).setV i (Rp.mono (x2.mm x1.ok) r1)).setV j r2) (x2.mm x1.ok)⟩
  · exact (show False from q2).elim
theorem sd_parO {i j : Nat} {x y : Str} {a b : PySem.Expr} {px py pt pos : Pos} {kt k2 : Nat} {pt2 : Pos} {ma mb : Env → PV.M S PyData} (hc : X.calm = true) (hN : X.N.Nodup) (hi : X.N[i]? = some x) (hj : X.N[j]? = some y) (hij : i ≠ j)
    (hx : X.env.scope.names.lookup x = some .local) (hy : X.env.scope.names.lookup y = some .local) (ha : PE X a (TF X.K c ma)) (hb : PE X b (TV X.K c mb)) (sa : starEach [a, b] X.env = (false, eval a X.env) :: starEach [b] X.env) (sb : starEach [b] X.env = (false, eval b X.env) :: starEach [] X.env)
    (hw : swappedStores [.Tuple [.Name x px, .Name y py] kt pt] (.Tuple [a, b] k2 pt2) X.env = pure (some [x, y])) :
    PS X (.Assign [.Tuple [.Name x px, .Name y py] kt pt] (.Tuple [a, b] k2 pt2) pos) (TSd X.K c fun env s => onE (ma env s) env fun x s => onE (mb env s) env fun y s => match x with
      | .list ds => if i < env.length ∧ j < env.length ∧ i ≠ j then .ok (.nx ((env.set i (.own ds)).set j (.v y))) s else .bad
      | _ => .bad) := by
  refine (ps_par (i := i) (j := j) hc hN hi hj hij hx hy (pa_cons ha (pa_cons hb pa_nil sb) sa) hw).wk fun pins s σ H D _ q => ?_
  obtain ⟨M, env, z, gd, q⟩ := q
  refine ⟨M, env, z, gd, (onE_after gd q).imp fun dx s1 q1 v M1 H1 x1 r1 => ?_⟩
  have g1 := gd.ext x1
  refine ⟨M1, env, s1, g1, (onE_after g1 (AfterS.mono (x1.mm gd.ok) q1)).imp fun dy s2 q2 w M2 H2 x2 r2 => ?_⟩
  cases dx <;> try exact (show False from q2).elim
  rename_i ds
  obtain ⟨p, vs, rfl, hp, hp', mp, r⟩ := r1
  dsimp only at q2
  split at q2
  · have g2 := g1.ext x2
    have h0 : c.H0 p = none := by
      cases e : c.H0 p with
      | none => rfl
      | some o =>
        exfalso
        by_cases hz : c.I.Z p
        · exact c.I.zt z H p gd.ok.hp hz hp
        · rw [gd.h0 p o e hz] at hp
          cases hp
    have nz : ¬ c.I.Z p := fun hz => c.I.zt z H p gd.ok.hp hz hp
    have sep : ∀ (xs : List PyData) (j' : Nat) (ys : List PyData) (p' : Addr), env[j']? = some (.own ys) → σ[j']? = some (some (.ref p')) → p' ≠ p := fun xs j' ys p' ej e2 e1 => by
      subst e1
      obtain ⟨ov, e3, p2, vs2, rfl, h2, _⟩ := gd.sl j' _ ej
      rw [e2] at e3
      cases e3
      rw [hp] at h2
      cases h2
    refine ⟨.ref p, w, rfl, q2 _ M2 H2 ((g2.set i (.own ds) (some (.ref p)) ⟨p, vs, rfl, x2.h p _ hp' nz, (x2.m p (by rw [hp']; exact fun z => nomatch z)).trans mp, h0, nz, RpA.mono (x2.mm x1.ok) r⟩ fun xs _ j' ys p' nj ej e1 e2 => ?_).setV j r2) (x2.mm x1.ok)⟩
    cases e1
    exact sep xs j' ys _ ej e2 rfl
  · exact (show False from q2).elim
theorem sd_parP {i j : Nat} {x y : Str} {a b : PySem.Expr} {px py pt pos : Pos} {kt k2 : Nat} {pt2 : Pos} {ma mb : Env → PV.M S PyData} (hc : X.calm = true) (hN : X.N.Nodup) (hi : X.N[i]? = some x) (hj : X.N[j]? = some y) (hij : i ≠ j)
    (hx : X.env.scope.names.lookup x = some .local) (hy : X.env.scope.names.lookup y = some .local) (ha : PE X a (TV X.K c ma)) (hb : PE X b (TF X.K c mb)) (sa : starEach [a, b] X.env = (false, eval a X.env) :: starEach [b] X.env) (sb : starEach [b] X.env = (false, eval b X.env) :: starEach [] X.env)
    (hw : swappedStores [.Tuple [.Name x px, .Name y py] kt pt] (.Tuple [a, b] k2 pt2) X.env = pure (some [x, y])) :
    PS X (.Assign [.Tuple [.Name x px, .Name y py] kt pt] (.Tuple [a, b] k2 pt2) pos) (TSd X.K c fun env s => onE (ma env s) env fun x s => onE (mb env s) env fun y s => match y with
      | .list ds => if i < env.length ∧ j < env.length ∧ i ≠ j then .ok (.nx ((env.set i (.v x)).set j (.own ds))) s else .bad
      | _ => .bad) := by
  refine (ps_par (i := i) (j := j) hc hN hi hj hij hx hy (pa_cons ha (pa_cons hb pa_nil sb) sa) hw).wk fun pins s σ H D _ q => ?_
  obtain ⟨M, env, z, gd, q⟩ := q
  refine ⟨M, env, z, gd, (onE_after gd q).imp fun dx s1 q1 v M1 H1 x1 r1 => ?_⟩
  have g1 := gd.ext x1
  refine ⟨M1, env, s1, g1, (onE_after g1 (AfterS.mono (x1.mm gd.ok) q1)).imp fun dy s2 q2 w M2 H2 x2 r2 => ?_⟩
  cases dy <;> try exact (show False from q2).elim
  rename_i ds
  obtain ⟨p, vs, rfl, hp, hp', mp, r⟩ := r2
  dsimp only at q2
  split at q2
  · rename_i hlen
    have g2 := g1.ext x2
    have h0 : c.H0 p = none := by
      cases e : c.H0 p with
      | none => rfl
      | some o =>
        exfalso
        by_cases hz : c.I.Z p
        · exact c.I.zt s1 H1 p g1.ok.hp hz hp
        · rw [g1.h0 p o e hz] at hp
          cases hp
    have nz : ¬ c.I.Z p := fun hz => c.I.zt s1 H1 p g1.ok.hp hz hp
    have sep : ∀ (xs : List PyData) (j' : Nat) (ys : List PyData) (p' : Addr), env[j']? = some (.own ys) → σ[j']? = some (some (.ref p')) → p' ≠ p := fun xs j' ys p' ej e2 e1 => by
      subst e1
      obtain ⟨ov, e3, p2, vs2, rfl, h2, _⟩ := g1.sl j' _ ej
      rw [e2] at e3
      cases e3
      rw [hp] at h2
      cases h2
    refine ⟨v, .ref p, rfl, q2 _ M2 H2 ((g2.setV i (Rp.mono (x2.mm x1.ok) r1)).set j (.own ds) (some (.ref p)) ⟨p, vs, rfl, hp', mp, h0, nz, r⟩ fun xs _ j' ys p' nj ej e1 e2 => ?_) (x2.mm x1.ok)⟩
    cases e1
    by_cases e5 : i = j'
    · subst e5
      rw [List.getElem?_set_self hlen.1] at ej
      cases ej
    · rw [List.getElem?_set_ne e5] at ej e2
      exact sep xs j' ys _ ej e2 rfl
  · exact (show False from q2).elim
theorem sd_par3 {i j k : Nat} {x y z : Str} {a b e : PySem.Expr} {px py pz pt pos : Pos} {kt k2 : Nat} {pt2 : Pos} {ma mb me : Env → PV.M S PyData} (hc : X.calm = true) (hN : X.N.Nodup) (hi : X.N[i]? = some x) (hj : X.N[j]? = some y) (hk : X.N[k]? = some z) (hij : i ≠ j) (hik : i ≠ k) (hjk : j ≠ k)
    (hx : X.env.scope.names.lookup x = some .local) (hy : X.env.scope.names.lookup y = some .local) (hz : X.env.scope.names.lookup z = some .local) (ha : PE X a (TV X.K c ma)) (hb : PE X b (TV X.K c mb)) (he : PE X e (TV X.K c me))
    (sa : starEach [a, b, e] X.env = (false, eval a X.env) :: starEach [b, e] X.env) (sb : starEach [b, e] X.env = (false, eval b X.env) :: starEach [e] X.env) (se : starEach [e] X.env = (false, eval e X.env) :: starEach [] X.env)
    (hw : swappedStores [.Tuple [.Name x px, .Name y py, .Name z pz] kt pt] (.Tuple [a, b, e] k2 pt2) X.env = pure (some [x, y, z])) :
    PS X (.Assign [.Tuple [.Name x px, .Name y py, .Name z pz] kt pt] (.Tuple [a, b, e] k2 pt2) pos) (TSd X.K c fun env s => onE (ma env s) env fun x s => onE (mb env s) env fun y s => onE (me env s) env fun z s =>
      if i < env.length ∧ j < env.length ∧ k < env.length ∧ i ≠ j ∧ i ≠ k ∧ j ≠ k then .ok (.nx (((env.set i (.v x)).set j (.v y)).set k (.v z))) s else .bad) := by
  refine (ps_par3 (i := i) (j := j) (l := k) hc hN hi hj hk hij hik hjk hx hy hz (pa_cons ha (pa_cons hb (pa_cons he pa_nil se) sb) sa) hw).wk fun pins s σ H D _ q => ?_
  obtain ⟨M, env, z, gd, q⟩ := q
  refine ⟨M, env, z, gd, (onE_after gd q).imp fun dx s1 q1 v M1 H1 x1 r1 => ?_⟩
  have g1 := gd.ext x1
  refine ⟨M1, env, s1, g1, (onE_after g1 (AfterS.mono (x1.mm gd.ok) q1)).imp fun dy s2 q2 w M2 H2 x2 r2 => ?_⟩
  have g2 := g1.ext x2
  refine ⟨M2, env, s2, g2, (onE_after g2 (AfterS.mono (x2.mm x1.ok) q2)).imp fun dz s3 q3 u M3 H3 x3 r3 => ?_⟩
  split at q3
  · exact ⟨v, w, u, rfl, q3 _ M3 H3 ((((g2.ext x3).setV i (Rp.mono (x3.mm x2.ok) (Rp.mono (x2.mm x1.ok) r1))).setV j (Rp.mono (x3.mm x2.ok) r2)).setV k r3) (x3.mm x2.ok)⟩
  · exact (show False from q3).elim
theorem sd_aug {i : Nat} {x : Str} {e : PySem.Expr} {o : Bop} {pos pos' : Pos} {m : Env → PV.M S PyData} (hN : X.N.Nodup) (hi : X.N[i]? = some x) (hx : Loc X.env.scope x) (hf : X.fn x = true ∨ X.env.scope.names.lookup x = some .local) (he : PE X e (TR X.K c m)) (ho : o = .add ∨ o = .sub) :
    PS X (.AugAssign (.Name x pos') (opB o) e pos) (TSd X.K c fun env s => match env[i]? with
      | some (.v x) => onE (m env s) env fun y s => match x, y with
        | .int a, .int b => onO (augD o a b) fun r => .ok (.nx (env.set i (.v (.int r)))) s
        | _, _ => .bad
      | _ => .bad) := by
  obtain ⟨f, hp, hf'⟩ : ∃ f, PIp X (opB o) (ipI f) ∧ ∀ a b, augD o a b = some (f a b) := by
    rcases ho with rfl | rfl
    · exact ⟨_, ip_add, fun _ _ => rfl⟩
    · exact ⟨_, ip_sub, fun _ _ => rfl⟩
  refine (ps_aug (pos := pos) (pos' := pos') hN hi hx he hp hf).wk fun pins s σ H D _ q => ?_
  obtain ⟨M, env, z, gd, q⟩ := q
  dsimp only at q
  split at q
  · rename_i dx e1
    obtain ⟨ov, e2, v, rfl, rv⟩ := gd.sl i _ e1
    refine ⟨v, e2, M, env, z, gd, (onE_after gd q).imp fun dy s1 q1 w M1 H1 x1 r1 => ?_⟩
    split at q1
    · rename_i a b
      obtain ⟨r, er, q2⟩ := onO_after q1
      rw [hf'] at er
      cases er
      cases rv
      cases r1.int
      exact ⟨a, b, rfl, rfl, q2 _ M1 H1 ((gd.ext x1).setV i (.int _)) (x1.mm gd.ok)⟩
    · exact (show False from q1).elim
  · exact (show False from q).elim
/-- an owned list is changed -/
theorem Gd.turn {I : HI S} {H0 M0 : Hp} (g : Gd K I H0 M0 M H σ env s) {i : Nat} {ds es : List PyData} {p : Addr} {vs ws : List V} (hi : env[i]? = some (.own ds)) (hp : σ[i]? = some (some (.ref p))) (hv : H p = some (.lst vs)) (mp : M p = none) (h0 : H0 p = none) (nz : ¬ I.Z p) (r : RpA K M es ws) :
    Gd K I H0 M0 M (upd H p (.lst ws)) σ (env.set i (.own es)) s := by
  have ne : ∀ {a : Addr} {o : HO}, M a = some o → a ≠ p := fun e q => by
    rw [q, mp] at e
    cases e
  have nz' : ∀ {a : Addr}, I.Z a → a ≠ p := fun e q => nz (q ▸ e)
  refine ⟨⟨fun a o e => by rw [upd_ne (ne e)]; exact g.ok.sub a o e, g.ok.z, I.hpf s H _ g.ok.hp fun a e => upd_ne (nz' e)⟩, g.m0, fun a o e n => ?_, by rw [List.length_set]; exact g.len, fun j x e => ?_, fun j l xs ys q n e1 e2 e3 e4 => ?_⟩
  · have : a ≠ p := fun q => by
      rw [q, h0] at e
      cases e
    rw [upd_ne this]
    exact g.h0 a o e n
  · by_cases q : j = i
    · subst q
      have hl : j < env.length := (List.getElem?_eq_some_iff.mp hi).1
      rw [List.getElem?_set_self hl] at e
      cases e
      exact ⟨_, hp, p, ws, rfl, upd_same, mp, h0, nz, r⟩
    · rw [List.getElem?_set_ne (Ne.symm q)] at e
      obtain ⟨ov, e1, e2⟩ := g.sl j x e
      refine ⟨ov, e1, ?_⟩
      cases x with
      | own xs =>
        obtain ⟨p2, vs2, rfl, h2, m2, h02, n2, r2⟩ := e2
        have : p2 ≠ p := fun w => g.sep i j ds xs p (Ne.symm q) hi e hp (by rw [← w]; exact e1)
        exact ⟨p2, vs2, rfl, by rw [upd_ne this]; exact h2, m2, h02, n2, r2⟩
      | _ => exact e2
  · have inv : ∀ {j : Nat} {zs : List PyData}, (env.set i (.own es))[j]? = some (.own zs) → ∃ zs', env[j]? = some (.own zs') := fun {j zs} e => by
      by_cases q : j = i
      · subst q
        exact ⟨ds, hi⟩
      · rw [List.getElem?_set_ne (Ne.symm q)] at e
        exact ⟨zs, e⟩
    obtain ⟨xs', a1⟩ := inv e1
    obtain ⟨ys', a2⟩ := inv e2
    exact g.sep j l xs' ys' q n a1 a2 e3 e4
theorem sd_app {i : Nat} {x : Str} {e : PySem.Expr} {px apos cpos pos : Pos} {m : Env → PV.M S PyData} (hi : X.N[i]? = some x) (hv : Vis X.env.scope x) (hd : (x == ("__debug__" : Str)) = false) (hcd : (x == ("__classdict__" : Str)) = false) (he : PE X e (TV X.K c m)) (hst : notStar e = true) (hl : (apos.endLine == cpos.line) = true) :
    PS X (.Expr (.Call (.Attribute (.Name x px) "append" apos) [e] [] cpos) pos) (TSd X.K c fun env s => match env[i]? with
      | some (.own ds) => onE (m env s) env fun d s => if ds.length < sizeLine then .ok (.nx (env.set i (.own (ds ++ [d])))) s else .bad
      | _ => .bad) := by
  have sc : starEach [e] X.env = (false, eval e X.env) :: starEach [] X.env := star_cons hst
  refine (ps_expr (pe_bm (id := "list.append") (name := "append") PySem.F.plainAttrs_list PySem.F.slot_list_append PySem.F.type_list_append mt_append (pe_var hi hv hd hcd) (pa_cons he pa_nil sc) rfl (by rw [sc]; rfl) hl sc rfl)).wk fun pins s σ H D _ q => ?_
  obtain ⟨M, env, z, gd, q⟩ := q
  dsimp only at q
  split at q
  · rename_i ds e1
    obtain ⟨ov, e2, p, vs, rfl, hp, mp, h0, nz, r⟩ := gd.sl i _ e1
    refine ⟨.ref p, e2, .inl ⟨rfl, vs, SqL.of hp⟩, M, env, z, gd, (onE_after gd q).imp fun d s1 q1 v M1 H1 x1 r1 => ?_⟩
    split at q1
    · rename_i hz
      have g1 := gd.ext x1
      have hp1 := x1.h p _ hp nz
      have mp1 : M1 p = none := by
        rw [x1.m p (by rw [hp]; exact fun z => nomatch z)]
        exact mp
      have r' := RpA.mono (x1.mm gd.ok) r
      refine ⟨p, vs, v, rfl, rfl, hp1, by rw [r.len]; exact hz, ?_⟩
      exact q1 σ M1 _ (g1.turn e1 e2 hp1 mp1 h0 nz (r'.app (.cons r1 .nil))) (x1.mm gd.ok)
    · exact (show False from q1).elim
  · exact (show False from q).elim
theorem RpA.eraseIdx {M : Hp} : ∀ {ds : List PyData} {vs : List V} (i : Nat), RpA K M ds vs → RpA K M (ds.eraseIdx i) (vs.eraseIdx i)
  | _, _, _, .nil => .nil
  | _, _, 0, .cons _ r => r
  | _, _, i + 1, .cons h r => .cons h (RpA.eraseIdx i r)
/-- xs.append(ys.pop(e)) -/
theorem sd_appPop {i j : Nat} {x y : Str} {e : PySem.Expr} {px py apos bpos cpos dpos pos : Pos} {m : Env → PV.M S PyData} (hi : X.N[i]? = some x) (hv : Vis X.env.scope x) (hd : (x == ("__debug__" : Str)) = false) (hcd : (x == ("__classdict__" : Str)) = false)
    (hj : X.N[j]? = some y) (hvj : Vis X.env.scope y) (hdj : (y == ("__debug__" : Str)) = false) (hcdj : (y == ("__classdict__" : Str)) = false) (he : PE X e (TV X.K c m)) (hst : notStar e = true) (hl : (apos.endLine == dpos.line) = true) (hlj : (bpos.endLine == cpos.line) = true) :
    PS X (.Expr (.Call (.Attribute (.Name x px) "append" apos) [.Call (.Attribute (.Name y py) "pop" bpos) [e] [] cpos] [] dpos) pos) (TSd X.K c fun env s => match env[i]?, env[j]? with
      | some (.own ds), some (.own es) => onE (m env s) env fun d s => (match d with
        | .int k => (match es[k.toNat]? with
          | some y => if (0 ≤ k ∧ k < 4611686018427387904) ∧ ds.length < sizeLine ∧ i ≠ j then .ok (.nx ((env.set j (.own (es.eraseIdx k.toNat))).set i (.own (ds ++ [y])))) s else .bad
          | none => .bad)
        | _ => .bad)
      | _, _ => .bad) := by
  have sc : starEach [e] X.env = (false, eval e X.env) :: starEach [] X.env := star_cons hst
  have hpop := pe_bm (apos := bpos) (cpos := cpos) (id := "list.pop") (name := "pop") PySem.F.plainAttrs_list PySem.F.slot_list_pop PySem.F.type_list_pop mt_popAt (pe_var (pos := py) hj hvj hdj hcdj) (pa_cons he pa_nil sc) rfl (by rw [sc]; rfl) hlj sc rfl
  have sc2 : starEach [.Call (.Attribute (.Name y py) "pop" bpos) [e] [] cpos] X.env = (false, eval (.Call (.Attribute (.Name y py) "pop" bpos) [e] [] cpos) X.env) :: starEach [] X.env := rfl
  refine (ps_expr (pe_bm (id := "list.append") (name := "append") PySem.F.plainAttrs_list PySem.F.slot_list_append PySem.F.type_list_append mt_append (pe_var hi hv hd hcd) (pa_cons hpop pa_nil sc2) rfl (by rw [sc2]; rfl) hl sc2 rfl)).wk fun pins s σ H D _ q => ?_
  obtain ⟨M, env, z, gd, q⟩ := q
  dsimp only at q
  split at q
  · rename_i ds es e1 e3
    obtain ⟨ov, e2, p, vs, rfl, hp, mp, h0, nz, r⟩ := gd.sl i _ e1
    obtain ⟨ov, e4, p', ws, rfl, hp', mp', h0', nz', r'⟩ := gd.sl j _ e3
    refine ⟨.ref p, e2, .inl ⟨rfl, vs, SqL.of hp⟩, .ref p', e4, .inl ⟨rfl, ws, SqL.of hp'⟩, M, env, z, gd, (onE_after gd q).imp fun d s1 q1 v M1 H1 x1 r1 => ?_⟩
    cases d <;> try exact (show False from q1).elim
    rename_i k
    cases r1
    dsimp only at q1
    split at q1
    · rename_i y0 ey
      split at q1
      · rename_i hz
        obtain ⟨⟨k0, k1⟩, hz, hne⟩ := hz
        have g1 := gd.ext x1
        have hp1 := x1.h p _ hp nz
        have hp1' := x1.h p' _ hp' nz'
        have mp1 : M1 p = none := by
          rw [x1.m p (by rw [hp]; exact fun z => nomatch z)]
          exact mp
        have mp1' : M1 p' = none := by
          rw [x1.m p' (by rw [hp']; exact fun z => nomatch z)]
          exact mp'
        have ra := RpA.mono (x1.mm gd.ok) r
        have ra' := RpA.mono (x1.mm gd.ok) r'
        have npp : p ≠ p' := fun z => gd.sep i j ds es p hne e1 e3 e2 (by rw [z]; exact e4)
        obtain ⟨w, ew, rw'⟩ := ra'.get ey
        have hlt : k.toNat < ws.length := (List.getElem?_eq_some_iff.mp ew).1
        have g2 := g1.turn e3 e4 hp1' mp1' h0' nz' (ra'.eraseIdx k.toNat)
        have e1' : (env.set j (.own (es.eraseIdx k.toNat)))[i]? = some (.own ds) := by rw [List.getElem?_set_ne fun z => hne z.symm]; exact e1
        have hp2 : (upd H1 p' (.lst (ws.eraseIdx k.toNat))) p = some (.lst vs) := by rw [upd_ne npp]; exact hp1
        refine ⟨p', ws, k, k.toNat, w, rfl, rfl, hp1', by omega, by omega, ?_, ew, p, vs, w, rfl, rfl, hp2, by rw [ra.len]; exact hz, ?_⟩
        · unfold seqIndex?
          dsimp only
          rw [if_neg (show ¬ k < 0 by omega), if_pos (by simp; omega)]
        · exact q1 σ M1 _ (g2.turn e1' e2 hp2 mp1 h0 nz (ra.app (.cons rw' .nil))) (x1.mm gd.ok)
      · exact (show False from q1).elim
    · exact (show False from q1).elim
  · exact (show False from q).elim
theorem sw_sub {e o i : PySem.Expr} {p : Pos} {l : Nat} {env : PySem.Env} : swapsWithSole [.Subscript o i p] e l env = pure false := by
  cases e <;> rfl
theorem sd_setIx {i : Nat} {x : Str} {e ix : PySem.Expr} {px spos pos : Pos} {me mi : Env → PV.M S PyData} (hi : X.N[i]? = some x) (hv : Vis X.env.scope x) (hd : (x == ("__debug__" : Str)) = false) (hcd : (x == ("__classdict__" : Str)) = false) (he : PE X e (TV X.K c me)) (hix : PE X ix (TR X.K c mi)) (hs : notSlice ix = true) :
    PS X (.Assign [.Subscript (.Name x px) ix spos] e pos) (TSd X.K c fun env s => onE (me env s) env fun d s => match env[i]? with
      | some (.own ds) => onE (mi env s) env fun k s => (match k with
        | .int k => onO (ixN ds.length k) fun j => .ok (.nx (env.set i (.own (ds.set j d)))) s
        | _ => .bad)
      | _ => .bad) := by
  refine (ps_asg he (pg_sub (pe_var hi hv hd hcd) hix set_list (by intro v; cases ix <;> first | rfl | cases hs)) sw_sub rfl rfl).wk fun pins s σ H D _ q => ?_
  obtain ⟨M, env, z, gd, q⟩ := q
  refine ⟨M, env, z, gd, (onE_after gd q).imp fun d s1 q1 v M1 H1 x1 r1 => ?_⟩
  have g1 := gd.ext x1
  split at q1
  · rename_i ds e1
    obtain ⟨ov, e2, p, vs, rfl, hp, mp, h0, nz, r⟩ := g1.sl i _ e1
    refine ⟨.ref p, e2, M1, env, s1, g1, (onE_after g1 (AfterS.mono (x1.mm gd.ok) q1)).imp fun k s2 q2 w M2 H2 x2 r2 => ?_⟩
    cases k <;> try exact (show False from q2).elim
    rename_i k
    obtain ⟨j, ej, q3⟩ := onO_after q2
    cases r2.int
    have g2 := g1.ext x2
    have hp2 := x2.h p _ hp nz
    have mp2 : M2 p = none := by
      rw [x2.m p (by rw [hp]; exact fun z => nomatch z)]
      exact mp
    refine ⟨p, vs, k, j, rfl, rfl, hp2, by rw [r.len]; exact ej, ?_⟩
    exact q3 σ M2 _ (g2.turn e1 e2 hp2 mp2 h0 nz ((RpA.mono (x2.mm x1.ok) r).set j (Rp.mono (x2.mm x1.ok) r1))) (x2.mm x1.ok)
  · exact (show False from q1).elim
theorem get_listP : PGet X (fun o i H Q => ∃ p xs k v, o = .ref p ∧ i = .int k ∧ 0 ≤ k ∧ SqL X.K H p xs ∧ xs[k.toNat]? = some v ∧ Q v H) := by
  intro pins s σ H o i ov iv Q I ro ri h
  obtain ⟨p, xs, k, v, rfl, rfl, h0, hq, hv, q⟩ := h
  cases ro
  obtain ⟨t, rfl⟩ := ri
  obtain ⟨its, r, pl, hz⟩ := I.list hq
  obtain ⟨u, hu, ru⟩ := r.get hv
  have hlt : k.toNat < its.length := (List.getElem?_eq_some_iff.mp hu).1
  have hn := line63
  have hl := r.length
  exact wpAny_getItem_list pl.isList h0 (by omega) (by simpa using hu) ⟨v, H, I, ru, q⟩
/-- xs[k] += e -/
theorem sd_augIx {i : Nat} {x : Str} {e ix : PySem.Expr} {o : Bop} {px spos pos : Pos} {me mi : Env → PV.M S PyData} (hi : X.N[i]? = some x) (hv : Vis X.env.scope x) (hd : (x == ("__debug__" : Str)) = false) (hcd : (x == ("__classdict__" : Str)) = false) (he : PE X e (TR X.K c me)) (hix : PE X ix (TR X.K c mi)) (hs : notSlice ix = true) (ho : o = .add ∨ o = .sub) :
    PS X (.AugAssign (.Subscript (.Name x px) ix spos) (opB o) e pos) (TSd X.K c fun env s => match env[i]? with
      | some (.own ds) => onE (mi env s) env fun k s => (match k with
        | .int k => (match (if 0 ≤ k then ds[k.toNat]? else none) with
          | some (.int a) => onE (me env s) env fun y s => (match y with
            | .int b => onO (augD o a b) fun r => .ok (.nx (env.set i (.own (ds.set k.toNat (.int r))))) s
            | _ => .bad)
          | _ => .bad)
        | _ => .bad)
      | _ => .bad) := by
  obtain ⟨f, hp, hf'⟩ : ∃ f, PIp X (opB o) (ipI f) ∧ ∀ a b, augD o a b = some (f a b) := by
    rcases ho with rfl | rfl
    · exact ⟨_, ip_add, fun _ _ => rfl⟩
    · exact ⟨_, ip_sub, fun _ _ => rfl⟩
  refine (ps_augS (pe_var hi hv hd hcd) hix get_listP he hp set_list (by intro ov iv new; cases ix <;> first | rfl | cases hs)).wk fun pins s σ H D _ q => ?_
  obtain ⟨M, env, z, gd, q⟩ := q
  dsimp only at q
  split at q
  · rename_i ds e1
    obtain ⟨ov, e2, p, vs, rfl, hpp, mp, h0, nz, r⟩ := gd.sl i _ e1
    refine ⟨.ref p, e2, M, env, z, gd, (onE_after gd q).imp fun k s1 q1 w M1 H1 x1 r1 => ?_⟩
    cases k <;> try exact (show False from q1).elim
    rename_i k
    cases r1.int
    dsimp only at q1
    split at q1
    · rename_i a ea
      have h00 : 0 ≤ k := by
        by_cases hh : 0 ≤ k
        · exact hh
        · rw [if_neg hh] at ea
          cases ea
      rw [if_pos h00] at ea
      have g1 := gd.ext x1
      have hp1 := x1.h p _ hpp nz
      have mp1 : M1 p = none := by
        rw [x1.m p (by rw [hpp]; exact fun z => nomatch z)]
        exact mp
      have ra := RpA.mono (x1.mm gd.ok) r
      obtain ⟨w, ew, rw'⟩ := ra.get ea
      cases rw'
      have hlt : k.toNat < vs.length := (List.getElem?_eq_some_iff.mp ew).1
      refine ⟨p, vs, k, _, rfl, rfl, h00, SqL.of hp1, ew, M1, env, s1, g1, (onE_after g1 (AfterS.mono (x1.mm gd.ok) q1)).imp fun y s2 q2 u M2 H2 x2 r2 => ?_⟩
      cases y <;> try exact (show False from q2).elim
      rename_i b
      cases r2.int
      obtain ⟨r3, er, q3⟩ := onO_after q2
      rw [hf'] at er
      cases er
      have g2 := g1.ext x2
      have hp2 := x2.h p _ hp1 nz
      have mp2 : M2 p = none := by
        rw [x2.m p (by rw [hp1]; exact fun z => nomatch z)]
        exact mp1
      refine ⟨a, b, rfl, rfl, p, vs, k, k.toNat, rfl, rfl, hp2, ?_, ?_⟩
      · unfold ixN
        rw [if_pos h00, if_pos (by omega)]
      · exact q3 σ M2 _ (g2.turn e1 e2 hp2 mp2 h0 nz ((RpA.mono (x2.mm x1.ok) ra).set k.toNat (.int _))) (x2.mm x1.ok)
    · exact (show False from q1).elim
  · exact (show False from q).elim
/-- xs.extend(ys) -/
theorem sd_ext {i j : Nat} {x y : Str} {px py apos cpos pos : Pos} (hi : X.N[i]? = some x) (hv : Vis X.env.scope x) (hd : (x == ("__debug__" : Str)) = false) (hcd : (x == ("__classdict__" : Str)) = false) (hj : X.N[j]? = some y) (hvj : Vis X.env.scope y) (hdj : (y == ("__debug__" : Str)) = false) (hcdj : (y == ("__classdict__" : Str)) = false) (hl : (apos.endLine == cpos.line) = true) :
    PS X (.Expr (.Call (.Attribute (.Name x px) "extend" apos) [.Name y py] [] cpos) pos) (TSd X.K c fun env s => match env[i]?, env[j]? with
      | some (.own ds), some (.own es) => if i ≠ j ∧ ds.length + es.length ≤ sizeLine then .ok (.nx (env.set i (.own (ds ++ es)))) s else .bad
      | _, _ => .bad) := by
  have sc : starEach [PySem.Expr.Name y py] X.env = (false, eval (.Name y py) X.env) :: starEach [] X.env := star_cons rfl
  refine (ps_expr (pe_bm (id := "list.extend") (name := "extend") PySem.F.plainAttrs_list PySem.F.slot_list_extend PySem.F.type_list_extend mt_extend (pe_var hi hv hd hcd) (pa_cons (pe_var hj hvj hdj hcdj) pa_nil sc) rfl (by rw [sc]; rfl) hl sc rfl)).wk fun pins s σ H D _ q => ?_
  obtain ⟨M, env, z, gd, q⟩ := q
  dsimp only at q
  split at q
  · rename_i ds es e1 e3
    obtain ⟨ov, e2, p, vs, rfl, hp, mp, h0, nz, r⟩ := gd.sl i _ e1
    obtain ⟨ov', e4, p', ws, rfl, hp', mp', h0', nz', r'⟩ := gd.sl j _ e3
    split at q
    · rename_i hz
      exact ⟨.ref p, e2, .inl ⟨rfl, vs, SqL.of hp⟩, .ref p', e4, p, p', vs, ws, rfl, rfl, hp, hp', by rw [r.len, r'.len]; exact hz.2, q σ M _ (gd.turn e1 e2 hp mp h0 nz (r.app r')) (Same.refl M)⟩
    · exact (show False from q).elim
  · exact (show False from q).elim
theorem sd_expr {e : PySem.Expr} {pos : Pos} {m : Env → PV.M S PyData} (he : PE X e (TV X.K c m)) (hs : swapsWith e none pos.line X.env = pure false) : PS X (.Expr e pos) (TSd X.K c fun env s => onE (m env s) env fun _ s => .ok (.nx env) s) := by
  refine (ps_expr he hs).wk fun pins s σ H D _ q => ?_
  obtain ⟨M, env, z, gd, q⟩ := q
  exact ⟨M, env, z, gd, (onE_after gd q).imp fun d s1 q1 v M1 H1 x1 r1 => q1 σ M1 H1 (gd.ext x1) (x1.mm gd.ok)⟩
theorem sd_ret {e : PySem.Expr} {pos : Pos} {m : Env → PV.M S PyData} (he : PE X e (TV X.K c m)) : PS X (.Return (some e) pos) (TSd X.K c fun env s => onE (m env s) env fun d s => .ok (.ret d) s) := by
  refine (ps_ret he).wk fun pins s σ H D _ q => ?_
  obtain ⟨M, env, z, gd, q⟩ := q
  exact ⟨M, env, z, gd, (onE_after gd q).imp fun d s1 q1 v M1 H1 x1 r1 => q1 v M1 H1 (gd.ext x1).fr (x1.mm gd.ok) r1⟩
theorem sd_retN {pos : Pos} : PS X (.Return none pos) (TSd X.K c fun _ s => .ok (.ret .none) s) := by
  refine ps_retN.wk fun pins s σ H D _ q => ?_
  obtain ⟨M, env, z, gd, q⟩ := q
  exact q .non M H gd.fr (Same.refl M) .non
theorem sd_if {t : PySem.Expr} {a b : List PySem.Stmt} {pos : Pos} {mt : Env → PV.M S Bool} {ma mb : Env → S → RS S} (ht : PT X t (TB X.K c mt)) (ha : PSs X a (TSd X.K c ma)) (hb : PSs X b (TSd X.K c mb)) :
    PS X (.If t a b pos) (TSd X.K c fun env s => onE (mt env s) env fun t s => match t with | true => ma env s | false => mb env s) := by
  refine (ps_if ht ha hb).wk fun pins s σ H D _ q => ?_
  obtain ⟨M, env, z, gd, q⟩ := q
  refine ⟨M, env, z, gd, (onE_after gd q).imp fun b s1 q1 M1 H1 x1 => ?_⟩
  have q2 := AfterS.mono (x1.mm gd.ok) q1
  cases b with
  | true => exact ⟨M1, env, s1, gd.ext x1, q2⟩
  | false => exact ⟨M1, env, s1, gd.ext x1, q2⟩
theorem sd_nil : PSs X [] (TSd X.K c fun env s => .ok (.nx env) s) := by
  refine pss_nil.wk fun pins s σ H D _ q => ?_
  obtain ⟨M, env, z, gd, q⟩ := q
  exact q σ M H gd (Same.refl M)
def thenR (r : RS S) (k : Env → S → RS S) : RS S := match r with
  | .ok (.nx env') s' => k env' s'
  | x => x
theorem thenR_after {r : RS S} {k : Env → S → RS S} (h : AfterS K c M (thenR r k) D) : AfterS K c M r { D with nx := fun σ' H' => TSd K c k D σ' H' } := by
  cases r with
  | ok f s =>
    cases f with
    | nx env => exact fun σ' M' H' g k => ⟨M', env, s, g, AfterS.mono k h⟩
    | ret d => exact h
    | bk env => exact h
    | ct env => exact h
  | exn x p env s => exact h
  | bad => exact h
theorem sd_cons {st : PySem.Stmt} {rest : List PySem.Stmt} {m1 m2 : Env → S → RS S} (h1 : PS X st (TSd X.K c m1)) (h2 : PSs X rest (TSd X.K c m2)) : PSs X (st :: rest) (TSd X.K c fun env s => thenR (m1 env s) m2) := by
  refine (pss_cons h1 h2).wk fun pins s σ H D _ q => ?_
  obtain ⟨M, env, z, gd, q⟩ := q
  exact ⟨M, env, z, gd, thenR_after q⟩
/-- a list of one's own is shared: nothing runs -/
theorem sd_share {i : Nat} {rest : List PySem.Stmt} {m : Env → S → RS S} (h : PSs X rest (TSd X.K c m)) : PSs X rest (TSd X.K c fun env s => thenR (match env[i]? with
      | some (.own ds) => .ok (.nx (env.set i (.v (.list ds)))) s
      | some (.v _) => .ok (.nx env) s
      | _ => .bad) m) := by
  refine h.wk fun pins s σ H D _ q => ?_
  obtain ⟨M, env, z, gd, q⟩ := q
  dsimp only at q
  split at q
  · rename_i ds e1
    obtain ⟨ov, e2, p, vs, rfl, hp, mp, h0, nz, r⟩ := gd.sl i _ e1
    have hi : i < env.length := (List.getElem?_eq_some_iff.mp e1).1
    have hσ : σ.set i (some (.ref p)) = σ := by
      refine List.ext_getElem? fun j => ?_
      by_cases q : j = i
      · subst q
        rw [List.getElem?_set_self (by rw [gd.len]; exact hi), e2]
      · rw [List.getElem?_set_ne (Ne.symm q)]
    have k2 : Same M (upd M p (.lst vs)) := same_upd mp
    -- the same heap, more of it shared
    have g2 : Gd X.K c.I c.H0 c.M0 (upd M p (.lst vs)) H σ (env.set i .no) z := by
      refine ⟨⟨fun a o e => ?_, fun a hz => ?_, gd.ok.hp⟩, fun a n => ?_, gd.h0, by rw [List.length_set]; exact gd.len, fun j x e => ?_, fun j l xs ys q n a1 a2 => ?_⟩
      · by_cases q : a = p
        · subst q
          rw [upd_same] at e
          cases e
          exact hp
        · rw [upd_ne q] at e
          exact gd.ok.sub a o e
      · have ne : a ≠ p := fun q => by
          subst q
          exact nz hz
        rw [upd_ne ne]
        exact gd.ok.z a hz
      · have ne : a ≠ p := fun q => by
          subst q
          exact n h0
        rw [upd_ne ne]
        exact gd.m0 a n
      · by_cases q : j = i
        · subst q
          rw [List.getElem?_set_self hi] at e
          cases e
          exact ⟨_, e2, trivial⟩
        · rw [List.getElem?_set_ne (Ne.symm q)] at e
          obtain ⟨ov, b1, b2⟩ := gd.sl j x e
          refine ⟨ov, b1, ?_⟩
          cases x with
          | no => trivial
          | v d =>
            obtain ⟨v, rfl, r⟩ := b2
            exact ⟨v, rfl, r.mono k2⟩
          | own xs =>
            obtain ⟨p2, vs2, rfl, h2, m2, h02, n2, r2⟩ := b2
            have : p2 ≠ p := fun w => gd.sep i j ds xs p (Ne.symm q) e1 e e2 (by rw [← w]; exact b1)
            exact ⟨p2, vs2, rfl, h2, by rw [upd_ne this]; exact m2, h02, n2, r2.mono k2⟩
          | hand => exact b2
          | rng n =>
            obtain ⟨a, b3, b4⟩ := b2
            exact ⟨a, b3, k2 _ _ b4⟩
      · have inv : ∀ {j : Nat} {zs : List PyData}, (env.set i .no)[j]? = some (.own zs) → env[j]? = some (.own zs) := fun {j zs} e => by
          by_cases q : j = i
          · subst q
            rw [List.getElem?_set_self hi] at e
            cases e
          · rw [List.getElem?_set_ne (Ne.symm q)] at e
            exact e
        exact gd.sep j l xs ys q n (inv a1) (inv a2)
    have g3 := g2.setV i (d := .list ds) (v := .ref p) (.lst upd_same (r.mono k2))
    rw [hσ, List.set_set] at g3
    exact ⟨_, _, z, g3, AfterS.mono k2 q⟩
  · exact ⟨M, env, z, gd, q⟩
  · exact (show False from q).elim
theorem sd_brk {pos : Pos} : PS X (.Break pos) (TSd X.K c fun env s => .ok (.bk env) s) := by
  refine ps_break.wk fun pins s σ H D _ q => ?_
  obtain ⟨M, env, z, gd, q⟩ := q
  exact q σ M H gd (Same.refl M)
theorem sd_cont {pos : Pos} : PS X (.Continue pos) (TSd X.K c fun env s => .ok (.ct env) s) := by
  refine ps_continue.wk fun pins s σ H D _ q => ?_
  obtain ⟨M, env, z, gd, q⟩ := q
  exact q σ M H gd (Same.refl M)
theorem sd_pass {pos : Pos} : PS X (.Pass pos) (TSd X.K c fun env s => .ok (.nx env) s) := by
  refine ps_pass.wk fun pins s σ H D _ q => ?_
  obtain ⟨M, env, z, gd, q⟩ := q
  exact q σ M H gd (Same.refl M)
theorem sd_never {st : PySem.Stmt} : PS X st (TSd X.K c fun _ _ => .bad) := by
  refine ps_never.wk fun pins s σ H D _ q => ?_
  obtain ⟨M, env, z, gd, q⟩ := q
  exact (show False from q).elim
end
end PV
set_option Elab.async false
set_option linter.all false
set_option maxRecDepth 100000
set_option maxHeartbeats 4000000
/-! PV: errors. First the class BadTable (the worked proof of an own error, turned to it), then: what is raised, what an except suite says of it. -/
namespace PySem
namespace LowX
open PySem.W PySem.Calls PyProof.Rows PySem.HandSPX
/-! ### the text of __init__ -/
def iA (p1 p2 : Pos) : Arguments := { posonlyargs := [], args := [{ arg := "self", annotation := none, pos := p1 }, { arg := "value", annotation := none, pos := p2 }], vararg := none, kwonlyargs := [], kw_defaults := [], kwarg := none, defaults := [] }
def iB (q1 q2 q3 q4 : Pos) : List Stmt := [.Assign [.Attribute (.Name "self" q1) "value" q2] (.Name "value" q3) q4]
def iS : Scope := { kind := .function, names := [(PySem.Str.ofString "self", .local), (PySem.Str.ofString "value", .local)], isGenerator := false, isCoroutine := false, more := [] }
/-- what the written part says of Low, at C, and of its __init__, at fI -/
structure LowTxt (K : Frag) (mg : Str → Option Value) (C fI : Addr) : Prop where
  gC : mg "BadTable" = some (.ref C)
  cls : ∃ nm q N bs bm sn sub ab col dd k0 k1 k2 k3 k5, K.lookup C = some (excClassObj nm q C N bs bm true sn sub ab col dd k0 k1 k2 k3 k5 "ValueError.__new__") ∧ refsVE bm = true
  sa : findIn K (.ref C) "__setattr__" = some (some (.builtin "object.__setattr__"))
  ga : findIn K (.ref C) "__getattribute__" = some (some (.builtin "BaseException.__getattribute__"))
  gg : findIn K (.ref C) "__getattr__" = some none
  noN : findIn K (.ref C) "value" = some none
  iC : findIn K (.ref C) "__init__" = some (some (.ref fI))
  tC : typeIn K (.ref fI) = some (.type "function")
  kC : keepIn K (.ref C) = true
  exC : subIn K (.ref C) (.type "BaseException") = some true
  tyC : typeIn K (.ref C) = some (.type "type")
  hdC : hasDictIn K C = true
  te : exmOne K (.ref C) (.ref C) = some true
  fn : ∃ (oc : Value) (od : Option Addr) (doc pm : Value) (an : Option Addr) (cdv ct : Value) (osl : Array (Option Value)) (p1 p2 q1 q2 q3 q4 : Pos),
    K.lookup fI = some ⟨oc, od, .func (fnOf "__init__" "BadTable.__init__" (iA p1 p2) (iB q1 q2 q3 q4) iS .none .none doc pm an cdv ct), osl⟩ ∧ codeIn K cdv "BadTable.__init__" = true
theorem one_size (v : Value) : [v].length ≤ sizeLine := by
  rw [sizeLine_eq]
  exact (by decide : 1 ≤ 16777216)
theorem kept_but {K : Frag} {h h' : Heap} {x : Addr} (X : K.In h) (hx : K.lookup x = none) (k : ∀ b o, b ≠ x → h.get? b = some o → h'.get? b = some o) : K.In h' := fun a o e =>
  k a o (fun z => by rw [z, hx] at e; cases e) (X a o e)
theorem ldC {M : Model} {s : Shared} {name : Str} {scope : Scope} {L a : Addr} {cd : Value} {m : Str → Option Value} {x : Str} {pos : Pos} {v : Value} {Q : Value → Shared → Prop} {A : Around} {E : Value → Shared → Prop} (hn : s.heap.Ns L m) (hv : m x = some v) (h : Q v s)
    (hk : scope.kind = .function := by rfl) (hl : (envOfC name scope L a cd).kindOf x = some .local := by rfl) (hd : (x == ("__debug__" : Str)) = false := by decide) :
    wpAny M A (eval (.Name x pos) (envOfC name scope L a cd)) Q E s := wpAny_Name (wpAny_loadName_local hk hl hn hv h) hd
/-- what __init__ leaves of a fresh exception at x -/
structure InitEnd (h h' : Heap) (x C dx t1 : Addr) (v : Value) : Prop where
  keep : ∀ b o, b ≠ x → h.get? b = some o → h'.get? b = some o
  obj : h'.get? x = some { cls := .ref C, dict := some dx, data := .fields #[.ref t1, .none, .none, .none, .bool false, .none] }
  dbig : h.objs.size ≤ dx
  dne : dx ≠ x
  ns : h'.Ns1 dx (fun y => if y = "value" then some v else none)
/-- a made Low -/
structure OwnMade (h h' : Heap) (e C d : Addr) (v : Value) : Prop where
  keep : ∀ b o, h.get? b = some o → h'.get? b = some o
  new : h.objs.size ≤ e
  obj : ∃ oe vs, h'.get? e = some oe ∧ oe.cls = .ref C ∧ oe.dict = some d ∧ oe.data = .fields vs ∧ vs[1]? = some .none
  dbig : h.objs.size ≤ d
  dne : d ≠ e
  ns : h'.Ns1 d (fun y => if y = "value" then some v else none)
section
variable {prog : Program} {w : World} {A : Around} {E : Value → Shared → Prop} {R : Result → Shared → Prop} {s : Shared} {K : Frag} {mg : Str → Option Value} {C fI : Addr}
theorem low_init (T : LowTxt K mg C fI) {x t0 : Addr} {v : Value} (X : K.In s.heap) (hlim : s.heap.NoLimit) (hx : s.heap.get? x = some (excO C t0)) (hnx : K.lookup x = none) (hroom : A.depth < recursionLimit)
    (hq : ∀ h' tk dx, InitEnd s.heap h' x C dx t0 v → R (.ok (.ret .none)) { s with heap := h', toks := tk }) :
    codeAny (model prog w) A (.call (.ref fI) ⟨[.ref x, v], []⟩) R s := by
  obtain ⟨oc, od, doc, pm, an, cdv, ct, osl, p1, p2, q1, q2, q3, q4, ho, hcd⟩ := T.fn
  obtain ⟨nm, q, N, bs, bm, sn, sub, ab, col, dd, k0, k1, k2, k3, k5, hC, hbm⟩ := T.cls
  have hcl : clsIn K C = some { name := nm, bases := bs, mro := .ref C :: bm, ns := N, qualname := q, hasDict := true, slotNames := sn, subclasses := sub, abstract := ab, collection := col, hasDel := false } := by unfold clsIn; rw [hC] <;> rfl
  refine Att.call_fn (binds := [("self", .ref x), ("value", v)]) X hlim ho hcd hroom (BindsTo.of_eq (by first | rfl | with_unfolding_all rfl)) (by first | rfl | decide | with_unfolding_all rfl) (fun s₁ IC => ?_) rfl rfl rfl
  obtain ⟨h₁, tk₁, rfl⟩ := IC.toInCall.same
  have k : ∀ b o, s.heap.get? b = some o → h₁.get? b = some o := IC.toInCall.keep
  have hn := IC.toInCall.ns
  have hxL : s.heap.objs.size ≠ x := Nat.ne_of_gt (Heap.lt_size hx)
  have X₁ : K.In h₁ := X.keeps k
  have hx₁ := k _ _ hx
  -- self.by = by
  show wpAny _ _ (execs _ _) _ _ _
  refine wpAny_execs_cons (plainObj_wpAny_Assign_Attribute ?_)
  refine ldC (v := v) hn (by first | rfl | with_unfolding_all rfl | kernel_rfl) (ldC (v := .ref x) hn (by first | rfl | with_unfolding_all rfl | kernel_rfl) ?_)
  refine set_plain X₁ (ox := excO C t0) (od := none) ⟨hx₁, rfl, rfl, trivial⟩ T.sa ?_
  refine exc_osa X₁ hx₁ hcl (show refsVE (.ref C :: bm) = true from hbm) rfl T.noN (fun h₃ tk₃ dx k₃ dn dne hx₃ hn₃ => ?_)
  show wpAny _ _ (execs _ _) _ _ _
  have z : s.heap.objs.size < h₁.objs.size := hn.lt
  exact wpAny_execs_nil (hq h₃ tk₃ dx ⟨fun b o hb e => k₃ b o hb (k b o e), hx₃, Nat.le_of_lt (Nat.lt_of_lt_of_le z dn), dne, hn₃⟩)
theorem low_made (T : LowTxt K mg C fI) {v : Value} (X : K.In s.heap) (hlim : s.heap.NoLimit) (hroom : A.depth + 1 < recursionLimit)
    (hq : ∀ h' tk e d, OwnMade s.heap h' e C d v → R (.ok (.ret (.ref e))) { s with heap := h', toks := tk }) :
    codeAny (model prog w) A (.call (.ref C) ⟨[v], []⟩) R s := by
  obtain ⟨nm, q, N, bs, bm, sn, sub, ab, col, dd, k0, k1, k2, k3, k5, hC, hbm⟩ := T.cls
  obtain ⟨hp, g, dr, tk, os⟩ := s
  have k : ∀ b o, hp.get? b = some o → ((hp.push (kdv_tup [v])).push (excO C hp.objs.size)).get? b = some o := fun b o e => Heap.get?_push_of_some _ (Heap.get?_push_of_some _ e)
  have hget : ((hp.push (kdv_tup [v])).push (excO C hp.objs.size)).get? (hp.objs.size + 1) = some (excO C hp.objs.size) := by heap_get
  have hnx : K.lookup (hp.objs.size + 1) = none := by
    cases e : K.lookup (hp.objs.size + 1) with
    | none => rfl
    | some o =>
      have z : hp.get? (hp.objs.size + 1) = some o := X _ _ e
      exact absurd (Nat.lt_of_succ_lt (Heap.lt_size z)) (Nat.lt_irrefl _)
  refine call_own F.excBase_ValueError (fun X => refsVE_contains X bm hbm) (X _ _ hC) (looks_findIn X T.iC) (fun self => bind_fn X self T.tC) (one_size v) ?_
  refine low_init (s := ⟨(hp.push (kdv_tup [v])).push (excO C hp.objs.size), g, dr, tk, os⟩) T (X.keeps k) (hlim.keeps k) hget hnx ?_ fun h' tk' dx ⟨k', hx, dn, dne, hns⟩ => ?_
  · show A.depth + 1 < recursionLimit
    exact hroom
  · have old : ∀ b o, hp.get? b = some o → h'.get? b = some o := fun b o e => k' b o (Nat.ne_of_lt (Nat.lt_succ_of_lt (Heap.lt_size e))) (k b o e)
    have z : hp.objs.size + 1 + 1 ≤ dx := by
      first
        | (simpa only [Heap.size_push] using dn)
        | exact dn
        | (have q := dn; rw [Heap.size_push, Heap.size_push] at q; exact q)
    exact ⟨rfl, hq h' tk' (hp.objs.size + 1) dx ⟨old, Nat.le_succ _, ⟨_, _, hx, rfl, rfl, rfl, rfl⟩, Nat.le_trans (Nat.le_trans (Nat.le_succ _) (Nat.le_succ _)) z, dne, hns⟩⟩
end
end LowX
end PySem
namespace L2
open PySem PySem.Spec PyProof.Rows
theorem relO_low {v : V} {v' : Value} (r : RelV v v') (f : Str) : RelO (List.lookup f [(("value" : Str), v)]) (if f = "value" then some v' else none) := by
  by_cases hw : f = "value"
  · subst hw
    rw [if_pos rfl]
    have q : List.lookup ("value" : Str) [(("value" : Str), v)] = some v := by simp [List.lookup]
    rw [q]
    exact r
  · rw [if_neg hw]
    have qw : (f == ("value" : Str)) = false := by simpa using hw
    have q2 : List.lookup f [(("value" : Str), v)] = none := by simp [List.lookup, qw]
    rw [q2]
    trivial
section
variable {X : Cx} {C fI : Addr}
/-- Low(e) -/
def tMkLow (C : Addr) (ta : TA) : St → Hp → XK → Prop := fun σ H Q => ta σ H fun vs H1 => ∃ v, vs = [v] ∧ ∀ d, H1 d = none → Q (.ref C) (some d) (upd H1 d (.xd [(("value" : Str), v)]))
theorem pmk_low {a : Expr} {ta : TA} {p pos : Pos} {k : Nat} (T : PySem.LowX.LowTxt X.K X.mg C fI) (hr : Room k X.A) (ha : PA X [a] ta) (hg : Gl X "BadTable" := by rfl)
    (he : starEach (a :: []) X.env = (false, eval a X.env) :: starEach [] X.env := by rfl) (hpl : (backTo pos (starEach [] X.env)).any (·.1) = false := by rfl) :
    PMk X (.Call (.Name "BadTable" p) [a] [] pos) (tMkLow C ta) := by
  intro pins s σ H Q I h
  refine wpAny_Call_Name_kw (ld_glob I hg T.gC ?_)
  refine PySem.W.callWith_K (h₀ := X.base) I.ok.mod.kin T.kC (thn (ha.run pos pins s σ H _ I h) fun us s1 hh => ?_) he hpl
  obtain ⟨vs, H1, I1, r1, v, ev, q1⟩ := hh
  subst ev
  refine ⟨I1.kIn, ?_⟩
  cases r1 with
  | cons rv rn =>
    rename_i v' us'
    cases rn
    show wpAny _ _ (call (.ref C) [v']) _ _ _
    have hlim := I1.nolimit
    obtain ⟨hp, g, dr, tk, os⟩ := s1
    refine wpAny_call (PySem.LowX.low_made T I1.kIn hlim (by have := hr.dp; omega) fun h' tk' e d M => ?_)
    show MkP X pins σ Q (.ref e) ⟨h', g, dr, tk', os⟩
    obtain ⟨oe, fv, hoe, hc, hd, hdat, h1⟩ := M.obj
    have hns := M.ns
    obtain ⟨G', g1, g2⟩ := restrict h' fun b => decide (b ≠ e)
    have gk : ∀ b, b ≠ e → G'.get? b = h'.get? b := fun b hb => g1 b (decide_eq_true hb)
    have ge : G'.get? e = none := g2 e (by simp)
    have old : ∀ b o, hp.get? b = some o → G'.get? b = some o := fun b o q => (gk b (Nat.ne_of_lt (Nat.lt_of_lt_of_le (Heap.lt_size q) M.new))).trans (M.keep b o q)
    have ob : ObjOk X.prog X.w (upd H1 d (.xd [(("value" : Str), v)])) G' d (.xd [(("value" : Str), v)]) :=
      ⟨_, hns.at (fun o q => (gk d M.dne).trans q), fun f => relO_low rv f⟩
    have J : Inv X pins σ (upd H1 d (.xd [(("value" : Str), v)])) ⟨G', g, dr, tk', os⟩ := I1.laid (t' := tk') old M.dbig ob
    refine ⟨e, oe, fv, ⟨G', g, dr, tk', os⟩, _, .ref C, some d, rfl, J, fun b o q => ?_, ge, hoe, ⟨hc, hd⟩, hdat, h1, ?_, rfl, I1.bare, raises_own T.exC T.tyC, q1 d (I1.hok.fresh M.dbig)⟩
    · by_cases hb : b = e
      · have q' : G'.get? b = some o := q
        rw [hb, ge] at q'; cases q'
      · exact (gk b hb).symm.trans q
    · rw [upd_ne (Ne.symm M.dne)]
      exact I1.hok.fresh M.new
/-- raise Low(e) -/
def tRaiseLow (C : Addr) (W : WX) (ta : TA) : TS := fun _ σ H => tMkLow C ta σ H fun cls d H' => W cls d σ H'
theorem ps_raiseLow {a : Expr} {ta : TA} {W : WX} {p pos pos2 : Pos} {k : Nat} (hc : X.calm = true) (T : PySem.LowX.LowTxt X.K X.mg C fI) (hr : Room k X.A) (tk : Takes X W) (ha : PA X [a] ta) (hg : Gl X "BadTable" := by rfl)
    (he : starEach (a :: []) X.env = (false, eval a X.env) :: starEach [] X.env := by rfl) (hpl : (backTo pos (starEach [] X.env)).any (·.1) = false := by rfl) :
    PS X (.Raise (some (.Call (.Name "BadTable" p) [a] [] pos)) none pos2) (tRaiseLow C W ta) := ps_raise hc tk (pmk_low T hr ha hg he hpl)
/-- low.by, low the exception that the suite holds (at a; its class cls, its dict d) -/
def tByLow (C : Addr) (a : Addr) (cls : Value) (d : Option Addr) (te : TE) : TE := fun σ H Q => te σ H fun x H1 => x = .ref a ∧ cls = .ref C ∧ ∃ (dd : Addr) (v : V), d = some dd ∧ H1 dd = some (.xd [(("value" : Str), v)]) ∧ Q v H1
theorem pe_byLow {a : Addr} {oe : Obj} {cls : Value} {d : Option Addr} {pn : List (Addr × Obj)} {e : Expr} {te : TE} {pos : Pos} (T : PySem.LowX.LowTxt X.K X.mg C fI) (hz : Zc cls d oe) (hf : ∃ vs, oe.data = .fields vs) (he : PE (X.suite a ((a, oe) :: pn)) e te)
    (hb : attributeBase e "value" X.env (eval e X.env) = eval e X.env := by rfl) :
    PE (X.suite a ((a, oe) :: pn)) (.Attribute e "value" pos) (tByLow C a cls d te) := by
  refine ⟨fun pins s σ H Q I h => ?_⟩
  refine attr_of hb (thn (he.run pins s σ H _ I h) fun u s1 hh => ?_)
  obtain ⟨x, H1, I1, rx, ex, ec, dd, v, ed, ea, q⟩ := hh
  subst ex
  obtain rfl : u = Value.ref a := rx
  subst ec
  subst ed
  obtain ⟨ha, _⟩ := I1.pin (a, oe) (List.mem_append_left _ List.mem_cons_self)
  obtain ⟨vs, hd⟩ := hf
  have hx : ObjOk X.prog X.w H1 s1.heap dd (.xd [(("value" : Str), v)]) := I1.hok dd _ ea
  obtain ⟨mA, hns, hr⟩ := hx
  obtain ⟨od, ho, hl⟩ := lookIn_ns hns
  have l : List.lookup ("value" : Str) [(("value" : Str), v)] = some v := by simp [List.lookup]
  obtain ⟨u, hu, ru⟩ := RelO.some_of (v := v) (o := mA "value") (by rw [← l]; exact hr "value")
  have J : PySem.W.InstAt s1.heap a oe C (some od) := ⟨ha, hz.1, by unfold PySem.W.notCls; rw [hd] <;> rfl, by rw [hz.2]; exact ho⟩
  exact HandSPX.exc_get I1.kIn J T.ga T.gg T.exC (PySem.W.findObj_own T.hdC T.noN rfl (by rw [hl, hu])) (handed_of ru) ⟨v, H1, I1.tok _, ru, q⟩
end
end L2
set_option Elab.async false
set_option linter.all false
set_option maxRecDepth 100000
set_option maxHeartbeats 8000000
/-! PV: errors, second part: the readings of raise, of an except suite, of try .. except X as n. -/
namespace PV
open PySem PySem.Spec PyProof.Rows L2
/-- the chain of ValueError -/
abbrev veB : List Value := [.type "ValueError", .type "Exception", .type "BaseException", .type "object"]
/-- what the written part says of the classes of errors -/
structure XF (K : PySem.W.Frag) (mg : Str → Option Value) (J : XI) (sub : Str → Str → Bool) : Prop where
  tot : ∀ c, sub c c = true → ∃ C, J.cls c = some C
  cl : ∀ c C, J.cls c = some C → J.fld = "value" ∧ mg c = some (.ref C) ∧ ExcC K C ∧ PySem.W.keepIn K (.ref C) = true ∧ PySem.W.typeIn K (.ref C) = some (.type "type") ∧
    (lowB c = false → PySem.W.excIn K C veB "ValueError.__new__" = true) ∧ (lowB c = true → ∃ fI, PySem.LowX.LowTxt K mg C fI)
  nm : ∀ y, okN sub y = true → (∃ c C, J.cls c = some C) → ∃ (v : V) (u : Value), ClsV v u ∧ (mg y = some u ∨ (mg y = none ∧ bootBuiltins y = some u ∧ y ≠ "__name__")) ∧
    ∀ c C, J.cls c = some C → PySem.W.kitOne K (.ref C) u = some (sub c y) ∧ PySem.W.exmOne K (.ref C) u = some (sub c y)
/-! ### isinstance of an error that a suite holds -/
section
variable {K : PySem.W.Frag} {x D : Addr} {ox : Obj} {od : Option Obj}
theorem kitx_exO (C : ExcC K D) : PySem.W.KitX K (.ref x) (.ref D) (fun h => PySem.W.InstAt h x ox D od) where
  ty := fun _ _ _ I => I.type
  it := fun _ _ X _ => by
    obtain ⟨cdD, hcD, _⟩ := PySem.W.any_some C.hd
    unfold PySem.W.clsIn at hcD
    split at hcD
    · rename_i c' d' cd' sl' ho
      intro A' Q' E' s' k q
      unfold isType loadHead
      exact wpAny_bind (wpAny_loadPart (k _ _ (X _ _ ho)) (wpAny_pure q))
    · cases hcD
  ne := fun h tp dd its n sl X htp => by
    obtain ⟨cdD, hcD, _⟩ := PySem.W.any_some C.hd
    refine Bool.eq_false_iff.mpr fun q => ?_
    have e : D = tp := Value.ref.inj (beq_iff_eq.mp q)
    subst e
    unfold PySem.W.clsIn at hcD
    split at hcD
    · rename_i c' d' cd' sl' ho
      have z := (X _ _ ho).symm.trans htp
      cases z
    · cases hcD
  ca := fun X I k => PySem.W.kx_classE X I C.hg C.hk C.hs (PySem.W.findObj_dataE (by obtain ⟨cd, hc, _⟩ := PySem.W.any_some C.hd; rw [hc]; rfl) C.ha C.hn C.ht) C.hm k
end
/-- an error's own dict, if it has one -/
def DctOk (d : Option Addr) (H : Hp) : Prop := match d with
  | none => True
  | some x => ∃ fs, H x = some (.xd fs)
def rIsX (K : PySem.W.Frag) (D a : Addr) (d : Option Addr) : List V → Hp → VK → Prop := fun xs H Q => ∃ (c : V) (cv : Value) (b : Bool), xs = [.ref a, c] ∧ ClsV c cv ∧ PySem.W.kitOne K (.ref D) cv = some b ∧ DctOk d H ∧ Q (.bl b) H
def rIsXT (K : PySem.W.Frag) (D a : Addr) (d : Option Addr) : List V → Hp → VK → Prop := fun xs H Q => ∃ (tp : Addr) (cs : List V) (us : List Value) (b : Bool), xs = [.ref a, .ref tp] ∧ H tp = some (.tup cs) ∧ Paired ClsV cs us ∧ PySem.W.kitAny K (.ref D) us = some b ∧ DctOk d H ∧ Q (.bl b) H
section
variable {X : Cx} {a D : Addr} {oe : Obj} {d : Option Addr} {pn : List (Addr × Obj)}
theorem inst_of {pins : List (Addr × Obj)} {σ : L2.St} {H : Hp} {s : Shared} (I : Inv (X.suite a ((a, oe) :: pn)) pins σ H s) (hz : Zc (.ref D) d oe) (hf : ∃ vs, oe.data = .fields vs) (hd : DctOk d H) : ∃ od, PySem.W.InstAt s.heap a oe D od := by
  obtain ⟨hget, _⟩ := I.pin (a, oe) (List.mem_append.mpr (.inl List.mem_cons_self))
  obtain ⟨vs, hv⟩ := hf
  have hn : PySem.W.notCls oe = true := by unfold PySem.W.notCls; rw [hv] <;> rfl
  cases d with
  | none =>
    refine ⟨none, hget, hz.1, hn, ?_⟩
    rw [hz.2]
    trivial
  | some dx =>
    obtain ⟨fs, hx⟩ := hd
    obtain ⟨mA, hns, hr⟩ := (show ObjOk X.prog X.w H s.heap dx (.xd fs) from I.hok dx _ hx)
    obtain ⟨od, ho, hl⟩ := lookIn_ns hns
    refine ⟨some od, hget, hz.1, hn, ?_⟩
    rw [hz.2]
    exact ho
theorem call_isX (C : ExcC X.K D) (hz : Zc (.ref D) d oe) (hf : ∃ vs, oe.data = .fields vs) : CallR (X.suite a ((a, oe) :: pn)) (.builtin "isinstance") (rIsX X.K D a d) := by
  intro pins s σ H xs us Q I r h
  obtain ⟨c, cv, b, rfl, hcv, e, hd, q⟩ := h
  obtain ⟨u1, u2, rfl, r1, r2⟩ := vals2 r
  cases (show u1 = Value.ref a from r1)
  have e2 := hcv.eq r2
  subst e2
  obtain ⟨od, J⟩ := inst_of I hz hf hd
  exact PySem.W.kia_one (kitx_exO C) I.kIn J e (fun z => nomatch z) fun tk => ⟨.bl b, H, I.tok tk, rfl, q⟩
theorem call_isXT (C : ExcC X.K D) (hz : Zc (.ref D) d oe) (hf : ∃ vs, oe.data = .fields vs) : CallR (X.suite a ((a, oe) :: pn)) (.builtin "isinstance") (rIsXT X.K D a d) := by
  intro pins s σ H xs us Q I r h
  obtain ⟨tp, cs, ws, b, rfl, hT, k, e, hd, q⟩ := h
  obtain ⟨u1, u2, rfl, r1, r2⟩ := vals2 r
  cases (show u1 = Value.ref a from r1)
  cases (show u2 = Value.ref tp from r2)
  obtain ⟨od, J⟩ := inst_of I hz hf hd
  obtain ⟨_, its, rv, o, h1, h2, n, h3⟩ := (show ObjOk X.prog X.w H s.heap tp (.tup cs) from I.hok tp _ hT)
  have e3 := ClsV.all k rv
  subst e3
  obtain ⟨oc, od', dt, sl⟩ := o
  simp only at h2 h3
  subst h2 h3
  exact PySem.W.kia_tup (kitx_exO C) I.kIn J h1 e (fun z => nomatch z) fun tk => ⟨.bl b, H, I.tok tk, rfl, q⟩
end
/-! ### what a suite says -/
section
variable {S : Type} {X : Cx} {c : Fm S} {K : PySem.W.Frag} {sub : Str → Str → Bool}
def XP (K : PySem.W.Frag) (J : XI) (p : Option PyData) (dd : Option Addr) (M H : Hp) : Prop := match p with
  | none => dd = none
  | some d => ∃ a v, dd = some a ∧ H a = some (.xd [(J.fld, v)]) ∧ Rp K M d v
theorem XP.dct {J : XI} {p : Option PyData} {dd : Option Addr} {M H : Hp} (h : XP K J p dd M H) : DctOk dd H := by
  cases p with
  | none =>
    rw [show dd = none from h]
    trivial
  | some d =>
    obtain ⟨a, v, rfl, h1, _⟩ := h
    exact ⟨_, h1⟩
/-- a reading of an expression of a suite: n's slot i holds the error at a -/
def TSu (K : PySem.W.Frag) (c : Fm S) (i : Nat) (a : Addr) (p : Option PyData) (dd : Option Addr) (f : Env → Option PyData) : TE := fun σ H Q =>
  ∃ M env s, Gd K c.I c.H0 c.M0 M H σ env s ∧ σ[i]? = some (some (.ref a)) ∧ XP K c.J p dd M H ∧ ∃ d, f env = some d ∧ ∀ v M' H', Ext0 M H M' H' → Rp K M' d v → Q v H'
variable {i : Nat} {a C : Addr} {x : Str} {p : Option PyData} {dd : Option Addr} {oe : Obj} {pn : List (Addr × Obj)}
theorem Ext0.sm {M H M' H' : Hp} (k : Same M H) (x : Ext0 M H M' H') : Same M M' := fun b o e => by
  rw [x.m b (by rw [k b o e]; exact fun z => nomatch z)]
  exact e
theorem Ext0.tr {M H M1 H1 M2 H2 : Hp} (x : Ext0 M H M1 H1) (y : Ext0 M1 H1 M2 H2) : Ext0 M H M2 H2 :=
  ⟨y.sub, fun b n => by
    have n1 : H1 b ≠ none := fun z => by
      cases q : H b with
      | none => exact n q
      | some o =>
        rw [x.h b o q] at z
        cases z
    rw [y.m b n1, x.m b n], fun b o e => y.h b o (x.h b o e)⟩
theorem XP.ext {J : XI} {M H M' H' : Hp} (k : Same M H) (x : Ext0 M H M' H') (h : XP K J p dd M H) : XP K J p dd M' H' := by
  cases p with
  | none => exact h
  | some d =>
    obtain ⟨a, v, e, h1, h2⟩ := h
    exact ⟨a, v, e, x.h _ _ h1, Rp.mono (x.sm k) h2⟩
theorem su_no {e : PySem.Expr} {f : Env → Option PyData} (h : ∀ env, f env = none) : PE X e (TSu K c i a p dd f) := by
  refine ⟨fun pins s σ H Q I q => ?_⟩
  obtain ⟨M, env, z, g, _, _, d, e, _⟩ := q
  rw [h] at e
  cases e
theorem su_con {e : PySem.Expr} {v : V} {d : PyData} (h : PE X e (tC v)) (r : ∀ M, Rp K M d v) : PE X e (TSu K c i a p dd fun _ => some d) := by
  refine h.wk fun pins s σ H Q _ q => ?_
  obtain ⟨M, env, z, g, _, _, d, e, q⟩ := q
  cases e
  exact q v M H (.rfl g.ok.sub) (r M)
theorem su_var {j : Nat} {y : Str} {pos : Pos} (hN : X.N[j]? = some y) (hv : Vis X.env.scope y) (hd : (y == ("__debug__" : Str)) = false) (hcd : (y == ("__classdict__" : Str)) = false) :
    PE X (.Name y pos) (TSu K c i a p dd fun env => match env[j]? with | some (.v d) => some d | _ => none) := by
  refine (pe_var hN hv hd hcd).wk fun pins s σ H Q _ h => ?_
  obtain ⟨M, env, z, g, _, _, d, e, q⟩ := h
  dsimp only at e
  split at e
  · rename_i d' e2
    cases e
    obtain ⟨ov, e1, v, rfl, r⟩ := g.sl j _ e2
    exact ⟨v, e1, q v M H (.rfl g.ok.sub) r⟩
  · cases e
theorem su_val {f : Addr} {e : PySem.Expr} {pos : Pos} (T : PySem.LowX.LowTxt X.K X.mg C f) (hJ : c.J.fld = "value") (hz : Zc (.ref C) dd oe) (hf : ∃ vs, oe.data = .fields vs) (he : PE (X.suite a ((a, oe) :: pn)) e (tVar i))
    (hb : attributeBase e "value" X.env (eval e X.env) = eval e X.env) : PE (X.suite a ((a, oe) :: pn)) (.Attribute e "value" pos) (TSu K c i a p dd fun _ => p) := by
  refine (pe_byLow T hz hf he hb).wk fun pins s σ H Q _ h => ?_
  obtain ⟨M, env, z, g, hi, hp, d, e, q⟩ := h
  subst e
  obtain ⟨ad, v, rfl, h1, h2⟩ := hp
  rw [hJ] at h1
  exact ⟨.ref a, hi, rfl, rfl, ad, v, rfl, h1, q v M H (.rfl g.ok.sub) h2⟩
theorem pe_nm {y : Str} {v : V} {u : Value} {pos : Pos} (k : ClsV v u) (hg : Gl X y) (hd : (y == ("__debug__" : Str)) = false) (h : X.mg y = some u ∨ (X.mg y = none ∧ bootBuiltins y = some u ∧ y ≠ "__name__")) : PE X (.Name y pos) (tC v) := by
  have r : RelV v u := by
    cases k with
    | ty n => exact rfl
    | own C => exact rfl
  rcases h with h | ⟨h1, h2, h3⟩
  · exact pe_glob hg h r hd
  · exact pe_bltn hg h1 h2 r h3 hd
theorem su_isa {n y : Str} {v : V} {u : Value} {b : Bool} {p0 p1 p2 pos : Pos} (E : ExcC X.K C) (hz : Zc (.ref C) dd oe) (hf : ∃ vs, oe.data = .fields vs) (hg : Gl X "isinstance") (hm : X.mg "isinstance" = none)
    (he : PE (X.suite a ((a, oe) :: pn)) (.Name n p1) (tVar i)) (hy : PE (X.suite a ((a, oe) :: pn)) (.Name y p2) (tC v)) (k : ClsV v u) (hk : PySem.W.kitOne X.K (.ref C) u = some b) :
    PE (X.suite a ((a, oe) :: pn)) (.Call (.Name "isinstance" p0) [.Name n p1, .Name y p2] [] pos) (TSu K c i a p dd fun _ => some (.bool b)) := by
  refine (pe_callB (X := X.suite a ((a, oe) :: pn)) (call_isX E hz hf) hg hm PyProof.Rows.boot_isinstance (pa_cons he (pa_cons hy pa_nil)) (by decide) (by decide) rfl rfl).wk fun pins s σ H Q _ h => ?_
  obtain ⟨M, env, z, g, hi, hp, d, e, q⟩ := h
  cases e
  exact ⟨.ref a, hi, v, u, b, rfl, k, hk, hp.dct, q _ M H (.rfl g.ok.sub) (.bl b)⟩
theorem su_isaT {n y y2 : Str} {v v2 : V} {u u2 : Value} {b b2 : Bool} {kk : Nat} {p0 p1 p2 p3 p4 pos : Pos} (E : ExcC X.K C) (hz : Zc (.ref C) dd oe) (hf : ∃ vs, oe.data = .fields vs) (hg : Gl X "isinstance") (hm : X.mg "isinstance" = none)
    (he : PE (X.suite a ((a, oe) :: pn)) (.Name n p1) (tVar i)) (hy : PE (X.suite a ((a, oe) :: pn)) (.Name y p2) (tC v)) (k : ClsV v u) (hk : PySem.W.kitOne X.K (.ref C) u = some b)
    (hy2 : PE (X.suite a ((a, oe) :: pn)) (.Name y2 p3) (tC v2)) (k2 : ClsV v2 u2) (hk2 : PySem.W.kitOne X.K (.ref C) u2 = some b2) :
    PE (X.suite a ((a, oe) :: pn)) (.Call (.Name "isinstance" p0) [.Name n p1, .Tuple [.Name y p2, .Name y2 p3] kk p4] [] pos) (TSu K c i a p dd fun _ => some (.bool (b || b2))) := by
  refine (pe_callB (X := X.suite a ((a, oe) :: pn)) (call_isXT E hz hf) hg hm PyProof.Rows.boot_isinstance (pa_cons he (pa_cons (pe_tup (pa_cons hy (pa_cons hy2 pa_nil))) pa_nil)) (by decide) (by decide) rfl rfl).wk fun pins s σ H Q _ h => ?_
  obtain ⟨M, env, z, g, hi, hp, d, e, q⟩ := h
  cases e
  refine ⟨.ref a, hi, (by show 2 ≤ sizeLine; rw [sizeLine_eq]; omega), fun tp htp => ?_⟩
  have x0 : Ext0 M H M (upd H tp (.tup [v, v2])) := .own g.ok.sub htp
  refine ⟨tp, [v, v2], [u, u2], b || b2, rfl, upd_same, .cons k (.cons k2 .nil), kitAny_cons hk (fun e => ?_) (fun e => by rw [e]; rfl), (hp.ext g.ok.sub x0).dct, q _ M _ x0 (.bl _)⟩
  refine kitAny_cons hk2 (fun e2 => ?_) (fun e2 => by rw [e2, Bool.or_true])
  rw [e, e2]
  rfl
theorem su_not {e : PySem.Expr} {pos : Pos} {f : Env → Option PyData} (he : PE X e (TSu K c i a p dd f)) : PE X (.UnaryOp .Not e pos) (TSu K c i a p dd fun env => match f env with | some (.bool b) => some (.bool (!b)) | _ => none) := by
  refine (pe_not he).wk fun pins s σ H Q _ h => ?_
  obtain ⟨M, env, z, g, hi, hp, d, e, q⟩ := h
  dsimp only at e
  split at e
  · rename_i b e2
    cases e
    refine ⟨M, env, z, g, hi, hp, _, e2, fun v M' H' x r => ?_⟩
    cases r
    exact ⟨b, rfl, q _ M' H' x (.bl _)⟩
  · cases e
theorem su_and {e e2 : PySem.Expr} {r : List PySem.Expr} {pos : Pos} {f f2 : Env → Option PyData} (he : PE X e (TSu K c i a p dd f)) (h2 : PE X (.BoolOp .And (e2 :: r) pos) (TSu K c i a p dd f2)) :
    PE X (.BoolOp .And (e :: e2 :: r) pos) (TSu K c i a p dd fun env => match f env with | some (.bool true) => f2 env | some (.bool false) => some (.bool false) | _ => none) := by
  refine (pe_and he h2).wk fun pins s σ H Q _ h => ?_
  obtain ⟨M, env, z, g, hi, hp, d, e, q⟩ := h
  dsimp only at e
  split at e
  · rename_i e3
    refine ⟨M, env, z, g, hi, hp, _, e3, fun v M' H' x r => ?_⟩
    cases r
    refine ⟨true, rfl, ?_⟩
    rw [if_pos rfl]
    exact ⟨M', env, z, g.ext (x.ext g.ok), hi, hp.ext g.ok.sub x, d, e, fun v M2 H2 y r => q v M2 H2 (x.tr y) r⟩
  · rename_i e3
    cases e
    refine ⟨M, env, z, g, hi, hp, _, e3, fun v M' H' x r => ?_⟩
    cases r
    refine ⟨false, rfl, ?_⟩
    rw [if_neg (by decide)]
    exact q _ M' H' x (.bl _)
  · cases e
theorem su_or {e e2 : PySem.Expr} {r : List PySem.Expr} {pos : Pos} {f f2 : Env → Option PyData} (he : PE X e (TSu K c i a p dd f)) (h2 : PE X (.BoolOp .Or (e2 :: r) pos) (TSu K c i a p dd f2)) :
    PE X (.BoolOp .Or (e :: e2 :: r) pos) (TSu K c i a p dd fun env => match f env with | some (.bool true) => some (.bool true) | some (.bool false) => f2 env | _ => none) := by
  refine (pe_or he h2).wk fun pins s σ H Q _ h => ?_
  obtain ⟨M, env, z, g, hi, hp, d, e, q⟩ := h
  dsimp only at e
  split at e
  · rename_i e3
    cases e
    refine ⟨M, env, z, g, hi, hp, _, e3, fun v M' H' x r => ?_⟩
    cases r
    refine ⟨true, rfl, ?_⟩
    rw [if_pos rfl]
    exact q _ M' H' x (.bl _)
  · rename_i e3
    refine ⟨M, env, z, g, hi, hp, _, e3, fun v M' H' x r => ?_⟩
    cases r
    refine ⟨false, rfl, ?_⟩
    rw [if_neg (by decide)]
    exact ⟨M', env, z, g.ext (x.ext g.ok), hi, hp.ext g.ok.sub x, d, e, fun v M2 H2 y r => q v M2 H2 (x.tr y) r⟩
  · cases e
theorem su_eqv {e1 e2 : PySem.Expr} {pos : Pos} {f f2 : Env → Option PyData} (hu : X.A.units + 65 < cLine) (h1 : PE X e1 (TSu X.K c i a p dd f)) (h2 : PE X e2 (TSu X.K c i a p dd f2)) (hm : behindInMarks .Eq e2 = false) :
    PE X (.Compare e1 [.Eq] [e2] pos) (TSu X.K c i a p dd fun env => match f env, f2 env with | some d, some x => cmpD .eq d x | _, _ => none) := by
  refine (pe_cmpR (op2_cop (I := c.I) hu .eq).opR h1 h2 hm).wk fun pins s σ H Q _ h => ?_
  obtain ⟨M, env, z, g, hi, hp, d, e, q⟩ := h
  dsimp only at e
  split at e
  · rename_i d1 d2 k1 k2
    refine ⟨M, env, z, g, hi, hp, _, k1, fun v1 M1 H1 x1 r1 => ?_⟩
    refine ⟨M1, env, z, g.ext (x1.ext g.ok), hi, hp.ext g.ok.sub x1, _, k2, fun v2 M2 H2 x2 r2 => ?_⟩
    refine ⟨M2, d1, d2, d, x2.sub, .inl (Rp.mono (x2.sm x1.sub) r1), .inl r2, e, fun v M' H' x3 r3 => ?_⟩
    obtain ⟨b, _, rfl⟩ := Option.map_eq_some_iff.mp e
    exact q v M' H' ((x1.tr x2).tr x3) r3
  · cases e
/-! ### rows, suites -/
def TSus (K : PySem.W.Frag) (c : Fm S) (i : Nat) (a : Addr) (p : Option PyData) (dd : Option Addr) (f : Env → Option (List PyData)) : TA := fun σ H Q =>
  ∃ M env s, Gd K c.I c.H0 c.M0 M H σ env s ∧ σ[i]? = some (some (.ref a)) ∧ XP K c.J p dd M H ∧ ∃ ds, f env = some ds ∧ ∀ vs M' H', Ext0 M H M' H' → RpA K M' ds vs → Q vs H'
theorem sus_nil : PA X [] (TSus K c i a p dd fun _ => some []) := by
  refine ⟨fun pos pins s σ H Q I h => pa_nil.run pos pins s σ H Q I ?_⟩
  obtain ⟨M, env, z, g, _, _, d, e, q⟩ := h
  cases e
  exact q [] M H (.rfl g.ok.sub) .nil
theorem sus_cons {e : PySem.Expr} {es : List PySem.Expr} {f : Env → Option PyData} {f2 : Env → Option (List PyData)} (he : PE X e (TSu K c i a p dd f)) (hr : PA X es (TSus K c i a p dd f2)) (hs : starEach (e :: es) X.env = (false, eval e X.env) :: starEach es X.env) :
    PA X (e :: es) (TSus K c i a p dd fun env => match f env with | some d => (f2 env).map (d :: ·) | none => none) := by
  refine ⟨fun pos pins s σ H Q I h => (pa_cons he hr hs).run pos pins s σ H Q I ?_⟩
  obtain ⟨M, env, z, g, hi, hp, d, e, q⟩ := h
  dsimp only at e
  split at e
  · rename_i d1 e1
    obtain ⟨ds, e2, e3⟩ := Option.map_eq_some_iff.mp e
    subst e3
    refine ⟨M, env, z, g, hi, hp, _, e1, fun v M' H' x r => ⟨M', env, z, g.ext (x.ext g.ok), hi, hp.ext g.ok.sub x, _, e2, fun vs M2 H2 x2 r2 => q (v :: vs) M2 H2 (x.tr x2) (.cons (Rp.mono (x2.sm x.sub) r) r2)⟩⟩
  · cases e
theorem su_tup {es : List PySem.Expr} {x1 : Nat} {pos : Pos} {f : Env → Option (List PyData)} (h : PA X es (TSus K c i a p dd f)) : PE X (.Tuple es x1 pos) (TSu K c i a p dd fun env => match f env with | some ds => if ds.length ≤ sizeLine then some (.tuple ds) else none | none => none) := by
  refine (pe_tupN h).wk fun pins s σ H Q _ q => ?_
  obtain ⟨M, env, z, g, hi, hp, d, e, q⟩ := q
  dsimp only at e
  split at e
  · rename_i ds e1
    split at e
    · rename_i hl
      cases e
      refine ⟨M, env, z, g, hi, hp, _, e1, fun vs M' H' x r => ⟨by rw [r.len]; exact hl, fun p o hp hd => ?_⟩⟩
      exact q _ _ _ (x.tr (.new x.sub hp)) (.tup (.new hd) (RpA.mono (same_upd (x.sub.free hp)) r))
    · cases e
  · cases e
/-- a reading of a suite that returns -/
def TSr (K : PySem.W.Frag) (c : Fm S) (i : Nat) (a : Addr) (p : Option PyData) (dd : Option Addr) (f : Env → Option PyData) : TS := fun D σ H =>
  ∃ M env s, Gd K c.I c.H0 c.M0 M H σ env s ∧ σ[i]? = some (some (.ref a)) ∧ XP K c.J p dd M H ∧ ∃ d, f env = some d ∧ ∀ v M' H', Fr0 c.I c.H0 c.M0 M' H' s → Same M M' → Rp K M' d v → D.rt v H'
theorem sr_ret {e : PySem.Expr} {pos : Pos} {f : Env → Option PyData} (he : PE X e (TSu K c i a p dd f)) : PSs X [.Return (some e) pos] (TSr K c i a p dd f) := by
  refine (pss_one (ps_ret he)).wk fun pins s σ H D _ q => ?_
  obtain ⟨M, env, z, g, hi, hp, d, e, q⟩ := q
  exact ⟨M, env, z, g, hi, hp, d, e, fun v M' H' x r => q v M' H' (g.ext (x.ext g.ok)).fr (x.sm g.ok.sub) r⟩
theorem sr_set {j : Nat} {y : Str} {e : PySem.Expr} {ss : List PySem.Stmt} {pos pos' : Pos} {f f2 : Env → Option PyData} (hN : X.N.Nodup) (hj : X.N[j]? = some y) (hl : Loc X.env.scope y) (hij : j ≠ i) (he : PE X e (TSu K c i a p dd f)) (hs : swapsWith e (some (.Name y pos')) pos.line X.env = pure false)
    (hf : X.fn y = true ∨ X.env.scope.names.lookup y = some .local) (hr : PSs X ss (TSr K c i a p dd f2)) :
    PSs X (.Assign [.Name y pos'] e pos :: ss) (TSr K c i a p dd fun env => match f env with | some d => if j < env.length then f2 (env.set j (.v d)) else none | none => none) := by
  refine (pss_cons (ps_set hN hj hl he hs hf) hr).wk fun pins s σ H D _ q => ?_
  obtain ⟨M, env, z, g, hi, hp, d, e, q⟩ := q
  dsimp only at e
  split at e
  · rename_i d1 e1
    split at e
    · rename_i hlt
      refine ⟨M, env, z, g, hi, hp, _, e1, fun v M' H' x r => ?_⟩
      refine ⟨M', _, z, (g.ext (x.ext g.ok)).setV j r, ?_, hp.ext g.ok.sub x, d, e, fun v M2 H2 fr sm r => q v M2 H2 fr ((x.sm g.ok.sub).trans sm) r⟩
      rw [List.getElem?_set_ne hij]
      exact hi
    · cases e
  · cases e
/-! ### raise -/
theorem sd_raise0 {x m : Str} {j : Nat} {q0 q2 q3 pos : Pos} {C : Addr} (hx : XF X.K X.mg c.J sub) (hJ : c.J.cls x = some C) (hc : X.calm = true) (tk : Takes X c.W) (hg : Gl X x) (hdb : (x == ("__debug__" : Str)) = false) (hl : lowB x = false) :
    PS X (.Raise (some (.Call (.Name x q0) [.Constant (.str m) j q2] [] q3)) none pos) (TSd X.K c fun env s => .exn x none env s) := by
  obtain ⟨h1, h2, h3, h4, h5, h6, _⟩ := hx.cl x C hJ
  refine (ps_raise hc tk (pmk_own PySem.F.excBase_ValueError (h6 hl) h2 h4 (raises_own h3.hs h5) hg hdb)).wk fun pins s σ H D _ q => ?_
  obtain ⟨M, env, z, gd, q⟩ := q
  exact q (.ref C) none σ M H gd (Same.refl _) ⟨C, hJ, rfl, rfl⟩
theorem sd_raise1 {e : PySem.Expr} {q0 q3 pos : Pos} {C : Addr} {k : Nat} {m : Env → PV.M S PyData} (hx : XF X.K X.mg c.J sub) (hJ : c.J.cls "BadTable" = some C) (hc : X.calm = true) (hr : Room k X.A) (tk : Takes X c.W) (hg : Gl X "BadTable") (he : PE X e (TV X.K c m))
    (hs : starEach [e] X.env = (false, eval e X.env) :: starEach [] X.env) :
    PS X (.Raise (some (.Call (.Name "BadTable" q0) [e] [] q3)) none pos) (TSd X.K c fun env s => onE (m env s) env fun d s => .exn "BadTable" (some d) env s) := by
  obtain ⟨h1, h2, h3, h4, h5, _, h7⟩ := hx.cl _ C hJ
  obtain ⟨f, T⟩ := h7 rfl
  refine (ps_raiseLow hc T hr tk (pa_cons he pa_nil hs) hg hs).wk fun pins s σ H D _ q => ?_
  obtain ⟨M, env, z, gd, q⟩ := q
  refine ⟨M, env, z, gd, (onE_after gd q).imp fun d s1 q1 v M1 H1 x1 r1 => ⟨v, rfl, fun ad hd => ?_⟩⟩
  have g1 := gd.ext x1
  have x2 : Ext0 M1 H1 M1 (upd H1 ad (.xd [("value", v)])) := .own x1.sub hd
  refine q1 (.ref C) (some ad) σ M1 _ (g1.ext (x2.ext g1.ok)) (x1.mm gd.ok) ⟨C, hJ, rfl, ad, v, rfl, ?_, r1⟩
  rw [h1]
  exact upd_same
/-! ### try .. except X as n -/
theorem sd_tryA {body : List PySem.Stmt} {b0 : PySem.Stmt} {suite : List PySem.Stmt} {y n : Str} {i : Nat} {np pos pos' : Pos} {mb : Env → S → RS S} {fr : Str → Option PyData → Env → Option PyData}
    (hx : XF X.K X.mg c.J sub) (hs : X.stack = X.env :: X.outer) (hf : X.env.frame = some X.env.locals) (nd : X.N.Nodup) (hi : X.N[i]? = some n) (hln : X.env.scope.names.lookup n = some .local) (hg : Gl X y) (hdb : (y == ("__debug__" : Str)) = false) (tk : Takes X c.W)
    (hb : ∀ (W : WX) (pn : List (Addr × Obj)) (xe : Value → Shared → Prop), Takes (X.tr pn xe) W → PassesOwn (model X.prog X.w) X.A X.env xe → PSs (X.tr pn xe) body (TSd X.K { c with W := W } mb))
    (hsu : ∀ (a : Addr) (oe : Obj) (x : Str) (p : Option PyData) (C : Addr) (dd : Option Addr) (pn : List (Addr × Obj)), c.J.cls x = some C → Zc (.ref C) dd oe → (∃ vs, oe.data = .fields vs) → PSs (X.suite a ((a, oe) :: pn)) (b0 :: suite) (TSr X.K c i a p dd (fr x p))) :
    PS X (.Try body [.ExceptHandler (some (.Name y np)) (some n) (b0 :: suite) pos'] [] [] pos) (TSd X.K c fun env s => match mb env s with
      | .exn x p env' s' => (match okN sub y with
        | true => (match sub x y with
          | true => (match (hdE (some i) env').bind (fr x p) with
            | some d => .ok (.ret d) s'
            | none => .bad)
          | false => .exn x p env' s')
        | false => .bad)
      | x => x) := by
  -- the class that is named, if any class is raised at all
  have key : ∀ (cv : Value), (X.mg y = some cv ∨ (X.mg y = none ∧ bootBuiltins y = some cv ∧ y ≠ "__name__")) → (∀ x C, c.J.cls x = some C → PySem.W.exmOne X.K (.ref C) cv = some (sub x y)) → PS X (.Try body [.ExceptHandler (some (.Name y np)) (some n) (b0 :: suite) pos'] [] [] pos) (TSd X.K c fun env s => match mb env s with
      | .exn x p env' s' => (match okN sub y with
        | true => (match sub x y with
          | true => (match (hdE (some i) env').bind (fr x p) with
            | some d => .ok (.ret d) s'
            | none => .bad)
          | false => .exn x p env' s')
        | false => .bad)
      | x => x) := fun cv hcv hex => by
    refine (ps_try_as (i := i) (c := cv) (tb := fun W => TSd X.K { c with W := W } mb) (ts := fun a cls dd D σ H => ∃ x p C, cls = .ref C ∧ c.J.cls x = some C ∧ TSr X.K c i a p dd (fr x p) D σ H) (Wout := c.W) hs hf nd hi hln ⟨hg, hdb, hcv⟩ tk hb (fun a oe cls dd pn hz hfl => ?_)).wk fun pins s σ H D _ q => ?_
    · refine ⟨fun pins s σ H D I h => ?_⟩
      obtain ⟨x, p, C, rfl, hJ, h⟩ := h
      exact (hsu a oe x p C dd pn hJ hz hfl).run pins s σ H D I h
    · obtain ⟨M, env, z, gd, q⟩ := q
      refine ⟨M, env, z, gd, ?_⟩
      dsimp only at q
      generalize mb env z = r at q ⊢
      cases r with
      | ok f s =>
        cases f with
        | nx env => exact q
        | ret d => exact q
        | bk env => exact q
        | ct env => exact q
      | bad => exact q
      | exn x p env' s' =>
        intro cls dd σ' M' H' g k hx2
        obtain ⟨C, hC, rfl, hp⟩ := hx2
        have e := hex x C hC
        dsimp only at q
        split at q
        · split at q
          · rename_i h1 h2
            rw [h2] at e
            split at q
            · rename_i d h3
              refine ⟨true, e, fun _ a ha => ?_, fun z => nomatch z⟩
              have hlt : i < env'.length := by
                by_cases w : i < env'.length
                · exact w
                · rw [show hdE (some i) env' = none from if_neg w] at h3
                  cases h3
              rw [show hdE (some i) env' = some (env'.set i .no) from if_pos hlt] at h3
              refine ⟨x, p, C, rfl, hC, M', env'.set i .no, s', g.set i .no (some (.ref a)) trivial (fun _ z => nomatch z), ?_, hp, d, h3, fun v M2 H2 fr sm r => q v M2 H2 fr (k.trans sm) r⟩
              exact List.getElem?_set_self (by rw [g.len]; exact hlt)
            · exact (show False from q).elim
          · rename_i h1 h2
            rw [h2] at e
            exact ⟨false, e, (fun z => (nomatch z)), fun _ => q (.ref C) dd σ' M' H' g k ⟨C, hC, rfl, hp⟩⟩
        · exact (show False from q).elim
  by_cases hk : okN sub y = true ∧ ∃ c0 C0, c.J.cls c0 = some C0
  · obtain ⟨v, u, _, h1, h2⟩ := hx.nm y hk.1 hk.2
    exact key u h1 fun x C hC => (h2 x C hC).2
  · -- no error comes
    have hb0 : PSs X.nox body (TSd X.K c.noW mb) := hb (fun _ _ _ _ => False) X.pn (fun _ _ => False) takes_none5 PassesOwn.never
    refine (ps_try_thru0 hb0).wk fun pins s σ H D _ q => ?_
    obtain ⟨M, env, z, gd, q⟩ := q
    refine ⟨M, env, z, gd, ?_⟩
    dsimp only at q
    generalize mb env z = r at q ⊢
    cases r with
    | ok f s =>
      cases f with
      | nx env => exact q
      | ret d => exact q
      | bk env => exact q
      | ct env => exact q
    | bad => exact q
    | exn x p env' s' =>
      intro cls dd σ' M' H' g k hx2
      obtain ⟨C, hC, _, _⟩ := hx2
      dsimp only at q
      have ho : okN sub y = false := by
        cases w : okN sub y with
        | false => rfl
        | true => exact absurd ⟨w, x, C, hC⟩ hk
      rw [ho] at q
      exact (show False from q).elim
end
end PV
set_option Elab.async false
set_option linter.all false
set_option maxRecDepth 100000
set_option maxHeartbeats 8000000
/-! PV: try with several clauses, each except X as n. -/
namespace L2
open PySem PySem.Spec PyProof.Rows
/-- what the clauses wish of an exception of the body, one after the other; each holds it under a name -/
def wManyAs (K : PySem.W.Frag) (Wout : WX) (D : Ends) : List (Value × Nat × (Addr → Value → Option Addr → TS)) → WX
  | [] => Wout
  | (c, i, ts) :: r => fun cls d σ H => ∃ b, PySem.W.exmOne K cls c = some b ∧
      (b = true → ∀ a, H a = none → ts a cls d { nx := fun σ' H' => D.nx (σ'.set i none) H', rt := D.rt, bk := fun σ' H' => D.bk (σ'.set i none) H', ct := fun σ' H' => D.ct (σ'.set i none) H' } (σ.set i (some (.ref a))) H) ∧
      (b = false → wManyAs K Wout D r cls d σ H)
inductive HdsAs (X : Cx) : List ExceptHandler → List (Value × Nat × (Addr → Value → Option Addr → TS)) → Prop
  | nil : HdsAs X [] []
  | cons {x n : Str} {c : Value} {i : Nat} {ts : Addr → Value → Option Addr → TS} {b₀ : Stmt} {suite : List Stmt} {np pos' : Pos} {hds : List ExceptHandler} {l : List (Value × Nat × (Addr → Value → Option Addr → TS))} (hi : X.N[i]? = some n) (hln : X.env.kindOf n = some .local) (hc : Names X x c)
      (hsu : ∀ (a : Addr) (oe : Obj) (cls : Value) (d : Option Addr) (pn : List (Addr × Obj)), Zc cls d oe → (∃ vs, oe.data = .fields vs) → PSs (X.suite a ((a, oe) :: pn)) (b₀ :: suite) (ts a cls d)) (r : HdsAs X hds l) :
      HdsAs X (.ExceptHandler (some (.Name x np)) (some n) (b₀ :: suite) pos' :: hds) ((c, i, ts) :: l)
section
variable {X : Cx} {body : List Stmt} {h₀ : ExceptHandler} {hds : List ExceptHandler} {l : List (Value × Nat × (Addr → Value → Option Addr → TS))} {pos : Pos} {tb : WX → TS} {Wout : WX}
theorem ps_try_manyAs (hs : X.stack = X.env :: X.outer) (hf : X.env.frame = some X.env.locals) (hN : X.N.Nodup) (tk : Takes X Wout)
    (hb : ∀ (W : WX) (pn : List (Addr × Obj)) (xe : Value → Shared → Prop), Takes (X.tr pn xe) W → PassesOwn (model X.prog X.w) X.A X.env xe → PSs (X.tr pn xe) body (tb W))
    (hh : HdsAs X (h₀ :: hds) l) : PS X (.Try body (h₀ :: hds) [] [] pos) (fun D σ H => tb (wManyAs X.K Wout D l) D σ H) := by
  refine ⟨fun pins s σ H D I h => ?_⟩
  have ok := I.ok
  have hfr : X.A.frames = some (X.env :: X.outer) := by rw [ok.frames, hs]
  refine wpAny_Try_except ?_
  refine wpAny_mono ((hb (wManyAs X.K Wout D l) (X.pn ++ pins) (fun e s₁ => wpAny (model X.prog X.w) X.A (noteFrame e X.env) (fun _ s₂ => wpAny (model X.prog X.w) X.A (setFlight e none) (fun _ s₃ =>
    wpAny (model X.prog X.w) X.A (handleBy e X.env (h₀ :: hds)) (SP X pins D) X.xe s₃) X.xe s₂) X.xe s₁) (fun u s' xx => ?_) PassesOwn.looking).run [] s σ H D (I.toTry _) h) (fun f s1 hsp => ?_) (fun e s1 he => he)
  · -- the catch
    obtain ⟨a, B, sI, pins', σ', H', cls, d, rfl, J', nb, up, sky, na, os, ag, w⟩ := xx
    have J : Inv X pins σ' H' sI := J'.ofTry ok
    have sky' : Sky B (X.env :: X.outer) a (Zc cls d) X.env.locals s'.heap := by rw [← hs]; exact sky
    show wpAny (model X.prog X.w) X.A (noteFrame (.ref a) X.env) _ _ _
    refine Sky.land Zc.steady hfr hf sky' fun h3 fl3 up3 => ?_
    have J3 : Inv X pins σ' H' { s' with heap := h3 } := J.landed nb fl3.1 (up.trans up3) os ag
    obtain ⟨oe3, vs3, he3, hz3, hd3⟩ := fl3.there
    have notFr : ∀ {h : Heap} {o : Obj} {vs : Array Value}, h.FunFrames B (X.env :: X.outer) → h.get? a = some o → o.data = .fields vs → a ∉ frs (X.env :: X.outer) := fun {h o vs} ff e dd hm => by
      obtain ⟨_, o', e', hnf⟩ := ff.mem hm
      rw [e] at e'; cases e'
      exact hnf _ dd
    have nfr := notFr fl3.2.2.1 he3 hd3
    have nL : a ≠ X.env.locals := fun z => nfr (List.mem_filterMap.mpr ⟨X.env, List.mem_cons_self, by rw [hf, z]⟩)
    have nF : a ∉ X.fs := fun hm => by
      obtain ⟨e, he, q⟩ := List.mem_filterMap.mp hm
      exact nfr (List.mem_filterMap.mpr ⟨e, List.mem_cons_of_mem _ he, q⟩)
    have S3 := J3.suite he3 hd3 na nL nF
    have go : ∀ {hds' : List ExceptHandler} {l' : List (Value × Nat × (Addr → Value → Option Addr → TS))}, HdsAs X hds' l' → wManyAs X.K Wout D l' cls d σ' H' →
        wpAny (model X.prog X.w) X.A (handleBy (.ref a) X.env hds') (SP X pins D) X.xe { s' with heap := h3 } := by
      intro hds' l' hk
      induction hk with
      | nil =>
        intro w
        refine wpAny_handleBy_nil ?_
        obtain ⟨k1, k2, k3, oe, vs, T, oT, ts', he, hz, hd, h1, hr⟩ := id fl3
        unfold PySem.passOn
        refine wpAny_bind (wpAny_field he hd h1 ?_)
        rw [if_neg (show ¬ ((Value.ref T == Value.none) = true) from by simp)]
        have fin : wpAny (model X.prog X.w) X.A (setFlight (.ref a) X.env.frame) (fun _ s4 => wpAny (model X.prog X.w) X.A (throw (.ref a) : Sem Flow) (SP X pins D) X.xe s4) X.xe { s' with heap := h3 } := by
          rw [hf]
          refine HandSPX.setFlight_upZ fl3 fun h4 hh4 up4 => wpAny_throw (tk _ _ ?_)
          exact ⟨a, B, sI, pins, σ', H', cls, d, rfl, J, nb, (up.trans up3).trans up4, .inr (.inr (by rw [hs]; exact hh4)), na, os, ag, w⟩
        first
          | exact wpAny_bind (wpAny_pure (wpAny_bind fin))
          | exact wpAny_bind fin
      | @cons x n c i ts b₀ suite np pos' hds2 l2 hi hln hc hsu r ih =>
        intro w
        have hloc : Loc X.env.scope n := .inl hln
        obtain ⟨b, hb1, hyes, hno⟩ := w
        refine wpAny_handleBy_cons (codeAny_handlers_test ?_) (by intro q; cases q)
        have LT : PySem.W.Looks (model X.prog X.w) h3 (typeOf (.ref a)) cls := fun A Q E s k q => wpAny_typeOf_ref (k _ _ he3) (by rw [hz3.1]; exact q)
        have LM := PySem.W.exm_one (M := model X.prog X.w) (J3.kIn) LT hb1
        have test : ∀ {Q : Value → Shared → Prop} {E : Value → Shared → Prop}, Q c { s' with heap := h3 } → wpAny (model X.prog X.w) (X.A.mark (some (.ref a))) (eval (.Name x np) X.env) Q E { s' with heap := h3 } := fun {Q E} q => by
          obtain ⟨hg, hdbg, hm | ⟨hm, hv, hnn⟩⟩ := hc
          · exact ld_glob (X := X.suite a ((a, oe3) :: (X.pn ++ pins))) S3 hg hm q hdbg
          · exact ld_blt (X := X.suite a ((a, oe3) :: (X.pn ++ pins))) S3 hg hm hv q hnn hdbg
        refine test (LM.here ?_)
        cases b with
        | true =>
          refine codeAny_handlers_suite_as ?_
          refine HandSPX.lands_againZ fl3 fun h4 fl4 up4 => ?_
          have J4 : Inv X pins σ' H' { s' with heap := h4 } := J.landed nb fl4.1 ((up.trans up3).trans up4) os ag
          obtain ⟨oe4, vs4, he4, hz4, hd4⟩ := fl4.there
          have S4 := J4.suite he4 hd4 na nL nF
          refine store_ok (X := X.suite a ((a, oe4) :: (X.pn ++ pins))) (v := .ref a) S4 hN hi hloc rfl (fun s5 S5 => ?_) (.inr hln)
          refine wpAny_mono ((hsu a oe4 cls d (X.pn ++ pins) hz4 ⟨_, hd4⟩).run [] s5 _ H' _ S5 (hyes rfl a na)) (fun f s6 hsp => ?_) (fun _ _ z => False.elim z)
          have end_ : ∀ {σ6 : St} {H6 : Hp} {Q : Shared → Prop}, Inv (X.suite a ((a, oe4) :: (X.pn ++ pins))) [] σ6 H6 s6 → (∀ s7, Inv X pins (σ6.set i none) H6 s7 → Q s7) →
              wpAny (model X.prog X.w) X.A (do bindName X.env n .none; unbindBehindTheSuite X.env n pos') (fun _ s7 => Q s7) X.xe s6 := fun {σ6 H6 Q} S6 hq => gone_ok (S6.unsuite ok) hN hi hln hq
          cases f with
          | next =>
            obtain ⟨σ6, H6, S6, q6⟩ := hsp
            exact end_ S6 fun s7 J7 => ⟨_, _, J7, q6⟩
          | brk =>
            obtain ⟨σ6, H6, S6, q6⟩ := hsp
            exact end_ S6 fun s7 J7 => ⟨_, _, J7, q6⟩
          | cont =>
            obtain ⟨σ6, H6, S6, q6⟩ := hsp
            exact end_ S6 fun s7 J7 => ⟨_, _, J7, q6⟩
          | ret u =>
            obtain ⟨v6, σ6, H6, S6, r6, q6⟩ := hsp
            exact end_ S6 fun s7 J7 => ⟨_, _, _, J7, r6, q6⟩
        | false =>
          show wpAny _ X.A (handleBy (.ref a) X.env hds2) _ _ _
          exact ih (hno rfl)
    exact go hh w
  · cases f with
    | next =>
      obtain ⟨σ', H', J', q⟩ := hsp
      exact wpAny_execs_nil ⟨σ', H', J'.ofTry ok, q⟩
    | brk =>
      obtain ⟨σ', H', J', q⟩ := hsp
      exact ⟨σ', H', J'.ofTry ok, q⟩
    | cont =>
      obtain ⟨σ', H', J', q⟩ := hsp
      exact ⟨σ', H', J'.ofTry ok, q⟩
    | ret u =>
      obtain ⟨v, σ', H', J', r, q⟩ := hsp
      exact ⟨v, σ', H', J'.ofTry ok, r, q⟩
end
end L2
namespace PV
open PySem PySem.Spec PyProof.Rows L2
section
variable {S : Type} {X : Cx} {c : Fm S} {sub : Str → Str → Bool}
/-- the clauses, as they stand and as they are read -/
inductive HdRel (X : Cx) (c : Fm S) (sub : Str → Str → Bool) : List ExceptHandler → List Hd → Prop
  | nil : HdRel X c sub [] []
  | cons {n : Str} {b₀ : PySem.Stmt} {suite : List PySem.Stmt} {np pos' : Pos} {hds : List ExceptHandler} {h : Hd} {hs : List Hd} (hi : X.N[h.i]? = some n) (hln : X.env.scope.names.lookup n = some .local) (hg : Gl X h.c) (hdb : (h.c == ("__debug__" : Str)) = false)
      (hsu : ∀ (a : Addr) (oe : Obj) (x : Str) (p : Option PyData) (C : Addr) (dd : Option Addr) (pn : List (Addr × Obj)), c.J.cls x = some C → Zc (.ref C) dd oe → (∃ vs, oe.data = .fields vs) → PSs (X.suite a ((a, oe) :: pn)) (b₀ :: suite) (TSr X.K c h.i a p dd fun env => suRun sub h.sets h.tp h.r env x p))
      (r : HdRel X c sub hds hs) : HdRel X c sub (.ExceptHandler (some (.Name h.c np)) (some n) (b₀ :: suite) pos' :: hds) (h :: hs)
def tsOf (X : Cx) (c : Fm S) (sub : Str → Str → Bool) (h : Hd) : Addr → Value → Option Addr → TS := fun a cls dd D σ H =>
  ∃ x p C, cls = .ref C ∧ c.J.cls x = some C ∧ TSr X.K c h.i a p dd (fun env => suRun sub h.sets h.tp h.r env x p) D σ H
/-- the values of the named classes -/
inductive LRel (X : Cx) (c : Fm S) (sub : Str → Str → Bool) : List Hd → List (Value × Nat × (Addr → Value → Option Addr → TS)) → Prop
  | nil : LRel X c sub [] []
  | cons {h : Hd} {hs : List Hd} {cv : Value} {l : List (Value × Nat × (Addr → Value → Option Addr → TS))} (e : ∀ x C, c.J.cls x = some C → PySem.W.exmOne X.K (.ref C) cv = some (sub x h.c)) (r : LRel X c sub hs l) : LRel X c sub (h :: hs) ((cv, h.i, tsOf X c sub h) :: l)
theorem rel_all (hx : XF X.K X.mg c.J sub) (h0 : ∃ x C, c.J.cls x = some C) : ∀ {hds : List ExceptHandler} {hs : List Hd}, HdRel X c sub hds hs → hs.all (fun h => okN sub h.c) = true → ∃ l, HdsAs X hds l ∧ LRel X c sub hs l := by
  intro hds hs hr
  induction hr with
  | nil => exact fun _ => ⟨[], .nil, .nil⟩
  | @cons n b₀ suite np pos' hds h hs hi hln hg hdb hsu r ih =>
    intro ho
    obtain ⟨o1, o2⟩ := Bool.and_eq_true_iff.mp (show (okN sub h.c && hs.all fun h => okN sub h.c) = true from ho)
    obtain ⟨l, a1, a2⟩ := ih o2
    obtain ⟨v, u, _, h1, h2⟩ := hx.nm h.c o1 h0
    refine ⟨(u, h.i, tsOf X c sub h) :: l, .cons hi hln ⟨hg, hdb, h1⟩ (fun a oe cls d pn hz hf => ?_) a1, .cons (fun x C hC => (h2 x C hC).2) a2⟩
    refine ⟨fun pins s σ H D I q => ?_⟩
    obtain ⟨x, p, C, rfl, hJ, q⟩ := q
    exact (hsu a oe x p C d pn hJ hz hf).run pins s σ H D I q
theorem many_of {x : Str} {p : Option PyData} {env' : Env} {s' : S} {D : Ends} {M M' H' : Hp} {σ' : L2.St} {C : Addr} {dd : Option Addr} (g : Gd X.K c.I c.H0 c.M0 M' H' σ' env' s') (k : Same M M') (hC : c.J.cls x = some C) (hp : Xr X.K c.J x p (.ref C) dd M' H') (hp2 : XP X.K c.J p dd M' H') :
    ∀ {hs : List Hd} {l : List (Value × Nat × (Addr → Value → Option Addr → TS))}, LRel X c sub hs l → AfterS X.K c M (runHs sub hs x p env' s') D → wManyAs X.K c.W D l (.ref C) dd σ' H' := by
  intro hs l hr
  induction hr with
  | nil => exact fun q => q (.ref C) dd σ' M' H' g k hp
  | @cons h hs cv l e r ih =>
    intro q
    unfold runHs at q
    have e1 := e x C hC
    split at q
    · rename_i h2
      rw [h2] at e1
      split at q
      · rename_i d h3
        refine ⟨true, e1, fun _ a ha => ?_, fun z => nomatch z⟩
        have hlt : h.i < env'.length := by
          by_cases w : h.i < env'.length
          · exact w
          · rw [show hdE (some h.i) env' = none from if_neg w] at h3
            cases h3
        rw [show hdE (some h.i) env' = some (env'.set h.i .no) from if_pos hlt] at h3
        refine ⟨x, p, C, rfl, hC, M', env'.set h.i .no, s', g.set h.i .no (some (.ref a)) trivial (fun _ z => nomatch z), ?_, hp2, d, h3, fun v M2 H2 fr sm r => q v M2 H2 fr (k.trans sm) r⟩
        exact List.getElem?_set_self (by rw [g.len]; exact hlt)
      · exact (show False from q).elim
    · rename_i h2
      rw [h2] at e1
      exact ⟨false, e1, (fun z => nomatch z), fun _ => ih q⟩
theorem sd_tryM {body : List PySem.Stmt} {h₀ : ExceptHandler} {hds : List ExceptHandler} {hs : List Hd} {pos : Pos} {mb : Env → S → RS S}
    (hx : XF X.K X.mg c.J sub) (hsk : X.stack = X.env :: X.outer) (hf : X.env.frame = some X.env.locals) (nd : X.N.Nodup) (tk : Takes X c.W)
    (hb : ∀ (W : WX) (pn : List (Addr × Obj)) (xe : Value → Shared → Prop), Takes (X.tr pn xe) W → PassesOwn (model X.prog X.w) X.A X.env xe → PSs (X.tr pn xe) body (TSd X.K { c with W := W } mb))
    (hr : HdRel X c sub (h₀ :: hds) hs) :
    PS X (.Try body (h₀ :: hds) [] [] pos) (TSd X.K c fun env s => match hs.all (fun h => okN sub h.c) with
      | true => (match mb env s with
        | .exn x p env' s' => runHs sub hs x p env' s'
        | x => x)
      | false => .bad) := by
  by_cases hk : hs.all (fun h => okN sub h.c) = true ∧ ∃ c0 C0, c.J.cls c0 = some C0
  · obtain ⟨l, a1, a2⟩ := rel_all hx hk.2 hr hk.1
    refine (ps_try_manyAs (tb := fun W => TSd X.K { c with W := W } mb) (Wout := c.W) hsk hf nd tk hb a1).wk fun pins s σ H D _ q => ?_
    obtain ⟨M, env, z, gd, q⟩ := q
    refine ⟨M, env, z, gd, ?_⟩
    rw [hk.1] at q
    dsimp only at q
    generalize mb env z = r at q ⊢
    cases r with
    | ok f s =>
      cases f with
      | nx env => exact q
      | ret d => exact q
      | bk env => exact q
      | ct env => exact q
    | bad => exact q
    | exn x p env' s' =>
      intro cls dd σ' M' H' g k hx2
      obtain ⟨C, hC, rfl, hp⟩ := id hx2
      exact many_of (c := c) g k hC hx2 hp a2 q
  · have hb0 : PSs X.nox body (TSd X.K c.noW mb) := hb (fun _ _ _ _ => False) X.pn (fun _ _ => False) takes_none5 PassesOwn.never
    refine (ps_try_thru0 hb0).wk fun pins s σ H D _ q => ?_
    obtain ⟨M, env, z, gd, q⟩ := q
    refine ⟨M, env, z, gd, ?_⟩
    cases w : hs.all (fun h => okN sub h.c) with
    | false =>
      rw [w] at q
      exact (show False from q).elim
    | true =>
      rw [w] at q
      dsimp only at q
      generalize mb env z = r at q ⊢
      cases r with
      | ok f s =>
        cases f with
        | nx env => exact q
        | ret d => exact q
        | bk env => exact q
        | ct env => exact q
      | bad => exact q
      | exn x p env' s' =>
        intro cls dd σ' M' H' g k hx2
        obtain ⟨C, hC, _, _⟩ := hx2
        exact absurd ⟨w, x, C, hC⟩ hk
end
end PV
set_option Elab.async false
set_option linter.all false
set_option maxRecDepth 100000
set_option maxHeartbeats 8000000
/-! PV: a suite that returns False or falls through. -/
namespace PV
open PySem PySem.Spec PyProof.Rows L2
section
variable {S : Type} {X : Cx} {c : Fm S} {K : PySem.W.Frag} {sub : Str → Str → Bool}
variable {i : Nat} {a C : Addr} {x : Str} {p : Option PyData} {dd : Option Addr} {oe : Obj} {pn : List (Addr × Obj)}
/-- a test of a suite -/
def TSb (K : PySem.W.Frag) (c : Fm S) (i : Nat) (a : Addr) (p : Option PyData) (dd : Option Addr) (f : Env → Option Bool) : TT := fun σ H Q =>
  ∃ M env s, Gd K c.I c.H0 c.M0 M H σ env s ∧ σ[i]? = some (some (.ref a)) ∧ XP K c.J p dd M H ∧ ∃ b, f env = some b ∧ ∀ M' H', Ext0 M H M' H' → Q b H'
def boolO : Option PyData → Option Bool
  | some (.bool b) => some b
  | _ => none
theorem boolO_some {o : Option PyData} {b : Bool} (h : boolO o = some b) : o = some (.bool b) := by
  unfold boolO at h
  split at h
  · cases h
    rfl
  · cases h
theorem bt_val {e : PySem.Expr} {f : Env → Option PyData} (he : PE X e (TSu K c i a p dd f)) (hi : ∀ whole, isTrue e X.env whole = (do let v ← whole; standAt e.pos; holding [v] (truthy v))) : PT X e (TSb K c i a p dd fun env => boolO (f env)) := by
  refine (pt_truth he hi).wk fun pins s σ H Q _ h => ?_
  obtain ⟨M, env, z, g, hi, hp, b, e, q⟩ := h
  refine ⟨M, env, z, g, hi, hp, _, boolO_some e, fun v M' H' x r => ?_⟩
  cases r
  exact ⟨b, rfl, q M' H' x⟩
theorem bt_ne {e1 e2 : PySem.Expr} {pos : Pos} {f f2 : Env → Option PyData} (hu : X.A.units + 65 < cLine) (h1 : PE X e1 (TSu X.K c i a p dd f)) (h2 : PE X e2 (TSu X.K c i a p dd f2)) (hm : behindInMarks .NotEq e2 = false) :
    PT X (.Compare e1 [.NotEq] [e2] pos) (TSb X.K c i a p dd fun env => match f env, f2 env with | some d, some x => boolO (cmpD .ne d x) | _, _ => none) := by
  refine (pt_cmpR (op2_cop (I := c.I) hu .ne).opR h1 h2 hm).wk fun pins s σ H Q _ h => ?_
  obtain ⟨M, env, z, g, hi, hp, b, e, q⟩ := h
  dsimp only at e
  split at e
  · rename_i d1 d2 k1 k2
    have e := boolO_some e
    refine ⟨M, env, z, g, hi, hp, _, k1, fun v1 M1 H1 x1 r1 => ?_⟩
    refine ⟨M1, env, z, g.ext (x1.ext g.ok), hi, hp.ext g.ok.sub x1, _, k2, fun v2 M2 H2 x2 r2 => ?_⟩
    refine ⟨M2, d1, d2, .bool b, x2.sub, .inl (Rp.mono (x2.sm x1.sub) r1), .inl r2, e, fun v M' H' x3 r3 => ?_⟩
    cases r3
    exact ⟨b, rfl, q M' H' ((x1.tr x2).tr x3)⟩
  · cases e
theorem bt_or {e e2 : PySem.Expr} {r : List PySem.Expr} {pos : Pos} {f f2 : Env → Option Bool} (he : PT X e (TSb K c i a p dd f)) (h2 : PW X (.BoolOp .Or (e2 :: r) pos) (TSb K c i a p dd f2)) :
    PW X (.BoolOp .Or (e :: e2 :: r) pos) (TSb K c i a p dd fun env => match f env with | some true => some true | some false => f2 env | none => none) := by
  refine ⟨fun wh pins s σ H Q I q => (pw_or he h2).run wh pins s σ H Q I ?_⟩
  obtain ⟨M, env, z, g, hi, hp, b, e, q⟩ := q
  dsimp only at e
  split at e
  · rename_i e3
    cases e
    exact ⟨M, env, z, g, hi, hp, true, e3, fun M' H' x => q M' H' x⟩
  · rename_i e3
    refine ⟨M, env, z, g, hi, hp, false, e3, fun M' H' x => ?_⟩
    exact ⟨M', env, z, g.ext (x.ext g.ok), hi, hp.ext g.ok.sub x, b, e, fun M2 H2 y => q M2 H2 (x.tr y)⟩
  · cases e
/-- a reading of a suite that may fall through -/
def TSx (K : PySem.W.Frag) (c : Fm S) (i : Nat) (a : Addr) (p : Option PyData) (dd : Option Addr) (f : Env → Option (Option PyData)) : TS := fun D σ H =>
  ∃ M env s, Gd K c.I c.H0 c.M0 M H σ env s ∧ σ[i]? = some (some (.ref a)) ∧ XP K c.J p dd M H ∧ ∃ o, f env = some o ∧ (match o with
    | some d => ∀ v M' H', Fr0 c.I c.H0 c.M0 M' H' s → Same M M' → Rp K M' d v → D.rt v H'
    | none => ∀ M' H', Gd K c.I c.H0 c.M0 M' H' σ env s → Same M M' → D.nx σ H')
theorem sx_if {t : PySem.Expr} {j : Nat} {p1 p2 pos : Pos} {f : Env → Option Bool} (ht : PT X t (TSb K c i a p dd f)) :
    PSs X [.If t [.Return (some (.Constant (.bool false) j p1)) p2] [] pos] (TSx K c i a p dd fun env => match f env with | some true => some (some (.bool false)) | some false => some none | none => none) := by
  refine (pss_one (ps_if ht (pss_one (ps_ret pe_bl)) pss_nil)).wk fun pins s σ H D _ q => ?_
  obtain ⟨M, env, z, g, hi, hp, o, e, q⟩ := q
  dsimp only at e
  split at e
  · rename_i e3
    cases e
    exact ⟨M, env, z, g, hi, hp, true, e3, fun M' H' x => q (.bl false) M' H' (g.ext (x.ext g.ok)).fr (x.sm g.ok.sub) (.bl false)⟩
  · rename_i e3
    cases e
    exact ⟨M, env, z, g, hi, hp, false, e3, fun M' H' x => q M' H' (g.ext (x.ext g.ok)) (x.sm g.ok.sub)⟩
  · cases e
/-! ### try .. except X as n: if .. : return False -/
theorem sd_tryI {body : List PySem.Stmt} {b0 : PySem.Stmt} {suite : List PySem.Stmt} {y n : Str} {i : Nat} {np pos pos' : Pos} {mb : Env → S → RS S} {fr : Str → Option PyData → Env → Option (Option PyData)}
    (hx : XF X.K X.mg c.J sub) (hs : X.stack = X.env :: X.outer) (hf : X.env.frame = some X.env.locals) (nd : X.N.Nodup) (hi : X.N[i]? = some n) (hln : X.env.scope.names.lookup n = some .local) (hg : Gl X y) (hdb : (y == ("__debug__" : Str)) = false) (tk : Takes X c.W)
    (hb : ∀ (W : WX) (pn : List (Addr × Obj)) (xe : Value → Shared → Prop), Takes (X.tr pn xe) W → PassesOwn (model X.prog X.w) X.A X.env xe → PSs (X.tr pn xe) body (TSd X.K { c with W := W } mb))
    (hsu : ∀ (a : Addr) (oe : Obj) (x : Str) (p : Option PyData) (C : Addr) (dd : Option Addr) (pn : List (Addr × Obj)), c.J.cls x = some C → Zc (.ref C) dd oe → (∃ vs, oe.data = .fields vs) → PSs (X.suite a ((a, oe) :: pn)) (b0 :: suite) (TSx X.K c i a p dd (fr x p))) :
    PS X (.Try body [.ExceptHandler (some (.Name y np)) (some n) (b0 :: suite) pos'] [] [] pos) (TSd X.K c fun env s => match mb env s with
      | .exn x p env' s' => (match okN sub y with
        | true => (match sub x y with
          | true => (match (hdE (some i) env').bind (fr x p) with
            | some (some d) => .ok (.ret d) s'
            | some none => .ok (.nx (env'.set i .no)) s'
            | none => .bad)
          | false => .exn x p env' s')
        | false => .bad)
      | x => x) := by
  -- the class that is named, if any class is raised at all
  have key : ∀ (cv : Value), (X.mg y = some cv ∨ (X.mg y = none ∧ bootBuiltins y = some cv ∧ y ≠ "__name__")) → (∀ x C, c.J.cls x = some C → PySem.W.exmOne X.K (.ref C) cv = some (sub x y)) → PS X (.Try body [.ExceptHandler (some (.Name y np)) (some n) (b0 :: suite) pos'] [] [] pos) (TSd X.K c fun env s => match mb env s with
      | .exn x p env' s' => (match okN sub y with
        | true => (match sub x y with
          | true => (match (hdE (some i) env').bind (fr x p) with
            | some (some d) => .ok (.ret d) s'
            | some none => .ok (.nx (env'.set i .no)) s'
            | none => .bad)
          | false => .exn x p env' s')
        | false => .bad)
      | x => x) := fun cv hcv hex => by
    refine (ps_try_as (i := i) (c := cv) (tb := fun W => TSd X.K { c with W := W } mb) (ts := fun a cls dd D σ H => ∃ x p C, cls = .ref C ∧ c.J.cls x = some C ∧ TSx X.K c i a p dd (fr x p) D σ H) (Wout := c.W) hs hf nd hi hln ⟨hg, hdb, hcv⟩ tk hb (fun a oe cls dd pn hz hfl => ?_)).wk fun pins s σ H D _ q => ?_
    · refine ⟨fun pins s σ H D I h => ?_⟩
      obtain ⟨x, p, C, rfl, hJ, h⟩ := h
      exact (hsu a oe x p C dd pn hJ hz hfl).run pins s σ H D I h
    · obtain ⟨M, env, z, gd, q⟩ := q
      refine ⟨M, env, z, gd, ?_⟩
      dsimp only at q
      generalize mb env z = r at q ⊢
      cases r with
      | ok f s =>
        cases f with
        | nx env => exact q
        | ret d => exact q
        | bk env => exact q
        | ct env => exact q
      | bad => exact q
      | exn x p env' s' =>
        intro cls dd σ' M' H' g k hx2
        obtain ⟨C, hC, rfl, hp⟩ := hx2
        have e := hex x C hC
        dsimp only at q
        split at q
        · split at q
          · rename_i h1 h2
            rw [h2] at e
            have hlt : i < env'.length := by
              by_cases w : i < env'.length
              · exact w
              · rw [show hdE (some i) env' = none from if_neg w] at q
                exact (show False from q).elim
            rw [show hdE (some i) env' = some (env'.set i .no) from if_pos hlt] at q
            replace q : AfterS X.K c M (match fr x p (env'.set i .no) with
              | some (some d) => .ok (.ret d) s'
              | some none => .ok (.nx (env'.set i .no)) s'
              | none => .bad) D := q
            split at q
            · rename_i d h3
              refine ⟨true, e, fun _ a ha => ?_, fun z => nomatch z⟩
              refine ⟨x, p, C, rfl, hC, M', env'.set i .no, s', g.set i .no (some (.ref a)) trivial (fun _ z => nomatch z), ?_, hp, some d, h3, fun v M2 H2 fr sm r => q v M2 H2 fr (k.trans sm) r⟩
              exact List.getElem?_set_self (by rw [g.len]; exact hlt)
            · rename_i h3
              refine ⟨true, e, fun _ a ha => ?_, fun z => nomatch z⟩
              refine ⟨x, p, C, rfl, hC, M', env'.set i .no, s', g.set i .no (some (.ref a)) trivial (fun _ z => nomatch z), ?_, hp, none, h3, fun M2 H2 g2 sm => ?_⟩
              · exact List.getElem?_set_self (by rw [g.len]; exact hlt)
              · have g3 := g2.set i .no none trivial (fun _ z => nomatch z)
                have e5 : (List.set env' i Sl.no).set i Sl.no = List.set env' i Sl.no := List.set_set ..
                rw [e5] at g3
                exact q _ M2 H2 g3 (k.trans sm)
            · exact (show False from q).elim
          · rename_i h1 h2
            rw [h2] at e
            exact ⟨false, e, (fun z => (nomatch z)), fun _ => q (.ref C) dd σ' M' H' g k ⟨C, hC, rfl, hp⟩⟩
        · exact (show False from q).elim
  by_cases hk : okN sub y = true ∧ ∃ c0 C0, c.J.cls c0 = some C0
  · obtain ⟨v, u, _, h1, h2⟩ := hx.nm y hk.1 hk.2
    exact key u h1 fun x C hC => (h2 x C hC).2
  · -- no error comes
    have hb0 : PSs X.nox body (TSd X.K c.noW mb) := hb (fun _ _ _ _ => False) X.pn (fun _ _ => False) takes_none5 PassesOwn.never
    refine (ps_try_thru0 hb0).wk fun pins s σ H D _ q => ?_
    obtain ⟨M, env, z, gd, q⟩ := q
    refine ⟨M, env, z, gd, ?_⟩
    dsimp only at q
    generalize mb env z = r at q ⊢
    cases r with
    | ok f s =>
      cases f with
      | nx env => exact q
      | ret d => exact q
      | bk env => exact q
      | ct env => exact q
    | bad => exact q
    | exn x p env' s' =>
      intro cls dd σ' M' H' g k hx2
      obtain ⟨C, hC, _, _⟩ := hx2
      dsimp only at q
      have ho : okN sub y = false := by
        cases w : okN sub y with
        | false => rfl
        | true => exact absurd ⟨w, x, C, hC⟩ hk
      rw [ho] at q
      exact (show False from q).elim
end
end PV
set_option Elab.async false
set_option linter.all false
set_option maxRecDepth 100000
set_option maxHeartbeats 8000000
/-! PV, fourteenth part: loops, the look over statements, blocks. -/
namespace PV
open PySem PySem.Spec PyProof.Rows L2
section
variable {S : Type} {X : Cx} {c : Fm S} {K : PySem.W.Frag} {M M1 H H1 : Hp} {σ : List (Option V)} {env : Env} {s s1 : S} {D : Ends}
theorem againS_after {r : RS S} {k : Env → S → RS S} {N : L2.St → Hp → Prop} (h : AfterS K c M (againS r k) D) (hN : ∀ env s σ' M' H', Gd K c.I c.H0 c.M0 M' H' σ' env s → Same M M' → AfterS K c M (k env s) D → N σ' H') :
    AfterS K c M r { D with nx := N, ct := N, bk := D.nx } := by
  cases r with
  | ok f s =>
    cases f with
    | nx env => exact fun σ' M' H' g k => hN env s σ' M' H' g k h
    | ct env => exact fun σ' M' H' g k => hN env s σ' M' H' g k h
    | ret d => exact h
    | bk env => exact h
  | exn x p env s => exact h
  | bad => exact h
theorem sd_for {tg it : PySem.Expr} {body : List PySem.Stmt} {pos : Pos} {t : Tg} {ms : Env → PV.M S (List PyData)} {mb : Env → S → RS S} (hp : PassesOwn (model X.prog X.w) X.A X.env X.xe) (hc : X.calm = true) (hi : PI X tg it (TId X c KpV ms)) (hg : PG X tg (TGd X.K c t))
    (hb : PSs X body (TSd X.K c mb)) (hs : ∀ x, foldedSetIterable it X.env x = pure x) : PS X (.For tg it body [] pos) (TSd X.K c fun env s => onE (ms env s) env fun items s => loopS t mb items env s) := by
  refine (ps_for hp hc hi hg hb hs).wk fun pins s σ H D _ q => ?_
  obtain ⟨M, env, z, gd, q⟩ := q
  refine ⟨M, env, z, gd, (onE_after gd q).imp fun items s1 q1 J M1 H1 x1 src => ?_⟩
  refine ⟨fun i m σ2 H2 => m = items.length - i ∧ i ≤ items.length ∧ ∃ M2 env2 s2, Gd X.K c.I c.H0 c.M0 M2 H2 σ2 env2 s2 ∧ Same M1 M2 ∧ AfterS X.K c M2 (loopS t mb (items.drop i) env2 s2) D,
    ⟨items.length, rfl, Nat.zero_le _, M1, env, s1, gd.ext x1, Same.refl _, AfterS.mono (x1.mm gd.ok) q1⟩, fun i m σ2 H2 hW => ?_⟩
  obtain ⟨rfl, hi, M2, env2, s2, g2, k2, q2⟩ := hW
  obtain ⟨hgo, hstop⟩ := src M2 H2 g2.ok.sub k2 i
  by_cases hlt : i < items.length
  · obtain ⟨hg, hy⟩ := hgo _ (List.getElem?_eq_getElem hlt)
    rw [List.drop_eq_getElem_cons hlt] at q2
    obtain ⟨env1, e1, q3⟩ := onO_after q2
    refine .inr ⟨hg, fun σ3 H3 => ∃ M2 env2 s2, Gd X.K c.I c.H0 c.M0 M2 H3 σ3 env2 s2 ∧ Same M1 M2 ∧ AfterS X.K c M2 (loopS t mb (items.drop (i + 1)) env2 s2) D, fun σ3 H3 hN => ⟨_, by omega, rfl, hlt, hN⟩, fun x H3 hyl => ?_⟩
    obtain ⟨M3, x3, r3⟩ := hy x H3 hyl
    have x3' := x3.ext g2.ok
    have k3 := x3'.mm g2.ok
    refine ⟨M3, env2, s2, items[i], env1, g2.ext x3', r3, e1, fun σ' g' _ => ⟨M3, env1, s2, g', againS_after (AfterS.mono k3 q3) fun env4 s4 σ4 M4 H4 g4 k4 q4 => ?_⟩⟩
    exact ⟨M4, env4, s4, g4, (k2.trans k3).trans k4, AfterS.mono k4 q4⟩
  · have ei : i = items.length := by omega
    subst ei
    rw [List.drop_of_length_le (Nat.le_refl _)] at q2
    exact .inl ⟨hstop (Nat.le_refl _), q2 σ2 M2 H2 g2 (Same.refl _)⟩
theorem sd_while {t : PySem.Expr} {body : List PySem.Stmt} {pos : Pos} {mt : Env → PV.M S Bool} {mb : Env → S → RS S} {F : Nat} (hp : PassesOwn (model X.prog X.w) X.A X.env X.xe) (ht : PT X t (TB X.K c mt)) (hb : PSs X body (TSd X.K c mb)) :
    PS X (.While t body [] pos) (TSd X.K c fun env s => whileS mt mb F env s) := by
  refine (ps_while hp ht hb).wk fun pins s σ H D _ q => ?_
  obtain ⟨M, env, z, gd, q⟩ := q
  refine ⟨fun n σ2 H2 => ∃ M2 env2 s2, Gd X.K c.I c.H0 c.M0 M2 H2 σ2 env2 s2 ∧ AfterS X.K c M2 (whileS mt mb n env2 s2) D, ⟨F, M, env, z, gd, q⟩, fun n σ2 H2 hW => ?_⟩
  obtain ⟨M2, env2, s2, g2, q2⟩ := hW
  cases n with
  | zero => exact (show False from q2).elim
  | succ n =>
    refine ⟨M2, env2, s2, g2, (onE_after g2 q2).imp fun b s3 q3 M3 H3 x3 => ?_⟩
    have g3 := g2.ext x3
    have q4 := AfterS.mono (x3.mm g2.ok) q3
    cases b with
    | false => exact iteF (q4 σ2 M3 H3 g3 (Same.refl _))
    | true =>
      refine iteT ⟨fun σ4 H4 => ∃ M4 env4 s4, Gd X.K c.I c.H0 c.M0 M4 H4 σ4 env4 s4 ∧ AfterS X.K c M4 (whileS mt mb n env4 s4) D, fun σ4 H4 hN => ⟨n, Nat.lt_succ_self n, hN⟩, M3, env2, s3, g3, againS_after q4 fun env5 s5 σ5 M5 H5 g5 k5 q5 => ?_⟩
      exact ⟨M5, env5, s5, g5, AfterS.mono k5 q5⟩
theorem sd_tryN {body : List PySem.Stmt} {h₀ : ExceptHandler} {hs : List ExceptHandler} {pos : Pos} {mb : Env → S → RS S} (hb : PSs X.nox body (TSd X.K c.noW mb)) : PS X (.Try body (h₀ :: hs) [] [] pos) (TSd X.K c fun env s => calmS (mb env s)) := by
  refine (ps_try_thru0 hb).wk fun pins s σ H D _ q => ?_
  obtain ⟨M, env, z, gd, q⟩ := q
  refine ⟨M, env, z, gd, ?_⟩
  replace q : AfterS X.K c M (calmS (mb env z)) D := q
  revert q
  generalize mb env z = r
  intro q
  cases r with
  | ok f s =>
    cases f with
    | nx env => exact q
    | ret d => exact q
    | bk env => exact q
    | ct env => exact q
  | exn x p env s => exact (show False from q).elim
  | bad => exact q
end

/-! ### the look over statements -/
def notTup : PySem.Expr → Bool
  | .Tuple .. => false
  | _ => true
def allLoc (sc : Scope) : List PySem.Expr → Bool
  | [] => true
  | .Name x _ :: r => decide (sc.names.lookup x = some .local) && allLoc sc r
  | _ => false
/-- one of them is no local name of its own -/
def cellIn (sc : Scope) (ts : List PySem.Expr) : Bool := ts.any fun t => match t with
  | .Name x _ => !decide (sc.names.lookup x = some .local)
  | _ => true
def noSwapB (sc : Scope) (ts : List PySem.Expr) (v : PySem.Expr) : Bool := match v with
  | .Tuple vs _ _ => decide (4 ≤ ts.length) || (cellIn sc ts || (vs.all notStar && vs.all (foldedForSure 8)))
  | _ => true
variable (N : List Str) (gcd : Bool) (m : Nat)
def ckSs (f : PySem.Stmt → St' → Bool) : List PySem.Stmt → List St' → Bool
  | ss, .share _ :: r => ckSs f ss r
  | [], [] => true
  | a :: ss, b :: r => f a b && ckSs f ss r
  | _, _ => false
/-- an expression of an except suite; slot i holds the error -/
def ckU (sc : Scope) (i : Nat) : Nat → PySem.Expr → SuE → Bool
  | 0, _, _ => false
  | n + 1, e, u => match e with
    | .BoolOp op [a] _ => ckU sc i n a u
    | e => match u with
      | .con k => (match e with | .Constant c _ _ => conB c k | _ => false)
      | .var j => (match e with | .Name y _ => nameB N sc y j | _ => false)
      | .val => (match e with | .Attribute (.Name y _) f _ => decide (f = "value") && nameB N sc y i | _ => false)
      | .isa z => (match e with | .Call (.Name g _) [.Name y _, .Name w _] [] _ => decide (g = "isinstance") && glbB sc g && nameB N sc y i && decide (w = z) && glbB sc w | _ => false)
      | .isaT z z2 => (match e with | .Call (.Name g _) [.Name y _, .Tuple [.Name w _, .Name w2 _] _ _] [] _ => decide (g = "isinstance") && glbB sc g && nameB N sc y i && decide (w = z) && glbB sc w && decide (w2 = z2) && glbB sc w2 | _ => false)
      | .not u => (match e with | .UnaryOp .Not a _ => ckU sc i n a u | _ => false)
      | .and u v => (match e with | .BoolOp .And (a :: b :: r) pos => ckU sc i n a u && ckU sc i n (.BoolOp .And (b :: r) pos) v | _ => false)
      | .or u v => (match e with | .BoolOp .Or (a :: b :: r) pos => ckU sc i n a u && ckU sc i n (.BoolOp .Or (b :: r) pos) v | _ => false)
      | .eqv j => (match e with | .Compare a [.Eq] [b] _ => !behindInMarks .Eq b && ckU sc i n a .val && ckU sc i n b (.var j) | _ => false)
def isCall : PySem.Expr → Bool
  | .Call .. => true
  | _ => false
def ckSu (sc : Scope) (i : Nat) : List PySem.Stmt → List (Nat × SuE) → Bool → List SuE → Bool
  | .Assign [.Name y _] v _ :: ss, (j, u) :: l, tp, r => tgB N sc (fun _ => true) y j && decide (j ≠ i) && ckU N sc i m v u && ckSu sc i ss l tp r
  | [.Return (some (.Tuple es _ _)) _], [], true, us => es.all notStar && all2 (ckU N sc i m) es us
  | [.Return (some e) _], [], false, [u] => ckU N sc i m e u
  | _, _, _, _ => false
def ckHd (sc : Scope) (a : ExceptHandler) (h : Hd) : Bool := match a with
  | .ExceptHandler (some (.Name y _)) (some nm) (b0 :: suite) _ => decide (y = h.c) && glbB sc y && decide (N[h.i]? = some nm) && decide (sc.names.lookup nm = some .local) && ckSu N m sc h.i (b0 :: suite) h.sets h.tp h.r
  | _ => false
def ckHs (sc : Scope) : List ExceptHandler → List Hd → Bool
  | [], [] => true
  | a :: hds, h :: hs => ckHd N m sc a h && ckHs sc hds hs
  | _, _ => false
def ckS (sc : Scope) : Nat → PySem.Stmt → St' → Bool
  | 0, _, _ => false
  | n + 1, st, x => match x with
    | .asg (.nm i) e => (match st with | .Assign [.Name y _] v _ => tgB N sc (fun _ => true) y i && ckE N gcd m sc v e | _ => false)
    | .asg (.tup is) e => (match st with | .Assign [.Tuple ts _ _] v _ => ckTgs N sc (fun _ => true) ts is && noSwapB sc ts v && ckE N gcd m sc v e | _ => false)
    | .asgR i e => (match st with | .Assign [.Name y _] (.Call (.Name f _) [a] [] _) _ => tgB N sc (fun _ => true) y i && decide (f = "range") && glbB sc f && notStar a && ckE N gcd m sc a e | _ => false)
    | .own i e => (match st with | .Assign [.Name y _] v _ => tgB N sc (fun _ => true) y i && ckE N gcd m sc v e && isF e | _ => false)
    | .par i j a b => (match st with
      | .Assign [.Tuple [.Name y py, .Name z pz] _ _] (.Tuple [u, v] _ _) _ => decide (N[i]? = some y) && decide (N[j]? = some z) && decide (sc.names.lookup y = some .local) && decide (sc.names.lookup z = some .local) && decide (i ≠ j) && decide (pz.line = py.line) && notStar u && notStar v &&
          !(foldedForSure 8 u && foldedForSure 8 v) && !(constantsAlone 8 u && constantsAlone 8 v) && ckE N gcd m sc u a && ckE N gcd m sc v b
      | _ => false)
    | .parO i j a b => (match st with
      | .Assign [.Tuple [.Name y py, .Name z pz] _ _] (.Tuple [u, v] _ _) _ => decide (N[i]? = some y) && decide (N[j]? = some z) && decide (sc.names.lookup y = some .local) && decide (sc.names.lookup z = some .local) && decide (i ≠ j) && decide (pz.line = py.line) && notStar u && notStar v &&
          !(foldedForSure 8 u && foldedForSure 8 v) && !(constantsAlone 8 u && constantsAlone 8 v) && ckE N gcd m sc u a && isF a && ckE N gcd m sc v b
      | _ => false)
    | .parP i j a b => (match st with
      | .Assign [.Tuple [.Name y py, .Name z pz] _ _] (.Tuple [u, v] _ _) _ => decide (N[i]? = some y) && decide (N[j]? = some z) && decide (sc.names.lookup y = some .local) && decide (sc.names.lookup z = some .local) && decide (i ≠ j) && decide (pz.line = py.line) && notStar u && notStar v &&
          !(foldedForSure 8 u && foldedForSure 8 v) && !(constantsAlone 8 u && constantsAlone 8 v) && ckE N gcd m sc u a && ckE N gcd m sc v b && isF b
      | _ => false)
    | .par3 i j k a b c => (match st with
      | .Assign [.Tuple [.Name y py, .Name z pz, .Name w pw] _ _] (.Tuple [u, v, t] _ _) _ => decide (N[i]? = some y) && decide (N[j]? = some z) && decide (N[k]? = some w) && decide (sc.names.lookup y = some .local) && decide (sc.names.lookup z = some .local) && decide (sc.names.lookup w = some .local) &&
          decide (i ≠ j) && decide (i ≠ k) && decide (j ≠ k) && decide (pz.line = py.line) && decide (pw.line = py.line) && notStar u && notStar v && notStar t &&
          !(foldedForSure 8 u && (foldedForSure 8 v && foldedForSure 8 t)) && !(constantsAlone 8 u && (constantsAlone 8 v && constantsAlone 8 t)) && ckE N gcd m sc u a && ckE N gcd m sc v b && ckE N gcd m sc t c
      | _ => false)
    | .share _ => false
    | .aug i o e => (match st with | .AugAssign (.Name y _) op v _ => tgB N sc (fun _ => true) y i && decide (op = opB o) && (decide (o = .add) || decide (o = .sub)) && ckE N gcd m sc v e | _ => false)
    | .appPop i j e => (match st with
      | .Expr (.Call (.Attribute (.Name y _) f ap) [.Call (.Attribute (.Name z _) g bp) [v] [] cp] [] dp) _ => nameB N sc y i && nameB N sc z j && decide (f = "append") && decide (g = "pop") && notStar v && (ap.endLine == dp.line) && (bp.endLine == cp.line) && ckE N gcd m sc v e
      | _ => false)
    | .app i e => (match st with | .Expr (.Call (.Attribute (.Name y _) f ap) [v] [] cp) _ => nameB N sc y i && decide (f = "append") && notStar v && (ap.endLine == cp.line) && ckE N gcd m sc v e | _ => false)
    | .augIx i o ix e => (match st with | .AugAssign (.Subscript (.Name y _) k _) op v _ => nameB N sc y i && notSlice k && decide (op = opB o) && (decide (o = .add) || decide (o = .sub)) && ckE N gcd m sc k ix && ckE N gcd m sc v e | _ => false)
    | .ext i j => (match st with | .Expr (.Call (.Attribute (.Name y _) f ap) [.Name z _] [] cp) _ => nameB N sc y i && nameB N sc z j && decide (f = "extend") && (ap.endLine == cp.line) | _ => false)
    | .setIx i ix e => (match st with | .Assign [.Subscript (.Name y _) k _] v _ => nameB N sc y i && notSlice k && ckE N gcd m sc k ix && ckE N gcd m sc v e | _ => false)
    | .expr e => (match st with | .Expr (.Call f as ks cp) _ => ckE N gcd m sc (.Call f as ks cp) e | _ => false)
    | .ret e => (match st with | .Return (some v) _ => ckE N gcd m sc v e | _ => false)
    | .retN => (match st with | .Return none _ => true | _ => false)
    | .ifs t a b => (match st with | .If u p q _ => ckT N gcd m sc u t && ckSs (ckS sc n) p a && ckSs (ckS sc n) q b | _ => false)
    | .loop t k src body => (match st with | .For tg it b [] _ => ckTg N sc (fun _ => true) tg t && notSetK k tg it && ckSrc (ckE N gcd m sc) sc it k src && ckSs (ckS sc n) b body | _ => false)
    | .while t body => (match st with | .While u b [] _ => ckT N gcd m sc u t && ckSs (ckS sc n) b body | _ => false)
    | .raise c none => (match st with | .Raise (some (.Call (.Name x _) [.Constant (.str _) _ _] [] _)) none _ => decide (x = c) && glbB sc x | _ => false)
    | .raise c (some e) => (match st with | .Raise (some (.Call (.Name x _) [a] [] _)) none _ => decide (x = c) && decide (c = "BadTable") && glbB sc x && notStar a && ckE N gcd m sc a e | _ => false)
    | .tryN body => (match st with | .Try b (_ :: _) [] [] _ => ckSs (ckS sc n) b body | _ => false)
    | .tryy _ _ => false
    | .tryA body c (some i) sets tp r => (match st with
      | .Try b [.ExceptHandler (some (.Name y _)) (some nm) (b0 :: suite) _] [] [] _ => decide (y = c) && glbB sc y && decide (N[i]? = some nm) && decide (sc.names.lookup nm = some .local) && ckSs (ckS sc n) b body && ckSu N m sc i (b0 :: suite) sets tp r
      | _ => false)
    | .tryA _ _ none _ _ _ => false
    | .tryI body c i j z => (match st with
      | .Try b [.ExceptHandler (some (.Name y _)) (some nm) [.If (.BoolOp .Or [.Compare a [.NotEq] [d] _, e2] _) [.Return (some (.Constant (.bool false) _ _)) _] [] _] _] [] [] _ => decide (y = c) && glbB sc y && decide (N[i]? = some nm) && decide (sc.names.lookup nm = some .local) && ckSs (ckS sc n) b body &&
          !behindInMarks .NotEq d && ckU N sc i m a .val && ckU N sc i m d (.var j) && ckU N sc i m e2 (.isa z) && isCall e2
      | _ => false)
    | .tryM body hs => (match st with
      | .Try b (h0 :: r) [] [] _ => ckSs (ckS sc n) b body && ckHs N m sc (h0 :: r) hs
      | _ => false)
    | .brk => (match st with | .Break _ => true | _ => false)
    | .cont => (match st with | .Continue _ => true | _ => false)
    | .pass => (match st with | .Pass _ => true | _ => false)
    | .never => true
end PV
set_option Elab.async false
set_option linter.all false
set_option maxRecDepth 100000
set_option maxHeartbeats 8000000
/-! PV, fifteenth part: blocks that pass the look; a def's promise. -/
namespace PV
open PySem PySem.Spec PyProof.Rows L2
/-- as Stc, and what statements ask -/
structure Stb {S : Type} (X : Cx) (C : SE S) (W : WX) (sub : Str → Str → Bool) : Prop where
  st : Stc X C W
  po : PassesOwn (model X.prog X.w) X.A X.env X.xe
  fn : ∀ x, X.fn x = true
  kind : X.env.scope.kind = .function
  xf : XF X.K X.mg C.J sub
  stk : X.stack = X.env :: X.outer
  frm : X.env.frame = some X.env.locals
section
variable {S : Type} {X : Cx} {C : SE S} {H0 M0 : Hp} {W : WX} {m n F : Nat} {sub : Str → Str → Bool}
theorem Stb.nox (b : Stb X C W sub) : Stb X.nox C (fun _ _ _ _ => False) sub :=
  ⟨⟨b.st.nd, b.st.calm, takes_none5, b.st.room, b.st.blt, b.st.gcd, b.st.fns, b.st.glb⟩, PassesOwn.never, b.fn, b.kind, b.xf, b.stk, b.frm⟩
theorem Stb.tr {pn : List (Addr × Obj)} {xe : Value → Shared → Prop} {W' : WX} (b : Stb X C W sub) (tk : Takes (X.tr pn xe) W') (po : PassesOwn (model X.prog X.w) X.A X.env xe) : Stb (X.tr pn xe) C W' sub :=
  ⟨⟨b.st.nd, b.st.calm, tk, b.st.room, b.st.blt, b.st.gcd, b.st.fns, b.st.glb⟩, po, b.fn, b.kind, b.xf, b.stk, b.frm⟩
def isSD : PySem.Expr → Bool
  | .SetComp .. | .DictComp .. => true
  | _ => false
theorem sw_cases {e : PySem.Expr} {y : Str} {py : Pos} {l : Nat} (hk : X.env.scope.kind = .function) :
    swapsWith e (some (.Name y py)) l X.env = pure false ∨ (∃ elt gs scope pos, e = .ListComp elt gs scope pos ∧ swapsWith (.ListComp elt gs scope pos) (some (.Name y py)) l X.env = pure true ∧ X.env.scope.names.lookup y = some .local) ∨ isSD e = true := by
  cases e <;> first
    | exact .inl rfl
    | exact .inr (.inr rfl)
    | skip
  rename_i elt gs scope pos
  by_cases h : (X.env.blockKind == .function && X.env.kindOf y == some .local && py.line == pos.line && !(scope.names.any fun (n, k) => n == y && (k == .local || k == .cell))) = true
  · refine .inr (.inl ⟨elt, gs, scope, pos, rfl, ?_, ?_⟩)
    · show (pure (X.env.blockKind == .function && X.env.kindOf y == some .local && py.line == pos.line && !(scope.names.any fun (n, k) => n == y && (k == .local || k == .cell))) : Sem Bool) = pure true
      rw [h]
    · obtain ⟨h, _⟩ := and2 h
      obtain ⟨h, _⟩ := and2 h
      obtain ⟨_, h⟩ := and2 h
      exact eq_of_beq h
  · left
    show (pure (X.env.blockKind == .function && X.env.kindOf y == some .local && py.line == pos.line && !(scope.names.any fun (n, k) => n == y && (k == .local || k == .cell))) : Sem Bool) = pure false
    rw [Bool.eq_false_iff.mpr h]
theorem no_sd : ∀ {m : Nat} {N : List Str} {g : Bool} {sc : Scope} {v : PySem.Expr} {e : Ex}, isSD v = true → ckE N g m sc v e = true → False := by
  intro m N g sc v e h1 h2
  cases m with
  | zero => cases h2
  | succ m =>
    cases v <;> first
      | (simp [isSD] at h1; done)
      | (unfold ckE at h2
         cases e <;> first
           | (simp at h2; done)
           | (rename_i a b c; cases a <;> simp at h2)
           | skip)
theorem comp_set (st : Stc X C W) {i : Nat} {y : Str} {py pos spos : Pos} {elt : PySem.Expr} {gs : List Comprehension} {scope : Scope} {e : Ex} (hi : X.N[i]? = some y) (hl : X.env.scope.names.lookup y = some .local) (hs : swapsWith (.ListComp elt gs scope pos) (some (.Name y py)) spos.line X.env = pure true)
    (h : ckE X.N C.gcd m X.env.scope (.ListComp elt gs scope pos) e = true) : ∃ te, PS X (.Assign [.Name y py] (.ListComp elt gs scope pos) spos) (tAsg te (gName i)) ∧ ∀ σ H Q, TF X.K (fm C H0 M0 W) (evE C.T C.G e) σ H Q → te σ H Q := by
  cases m with
  | zero => cases h
  | succ m =>
    obtain ⟨sn, tn⟩ := snd_all (S := S) m
    unfold ckE at h
    cases e <;> first
      | (simp at h; done)
      | (rename_i a b c; cases a <;> simp at h; done)
      | skip
    · rename_i ex t k src fs slots
      dsimp only at h
      split at h
      · rename_i q8
        cases q8
        obtain ⟨own, rfl, hb, hpi, hg, ht, he, hf, htg⟩ := (comp_of (H0 := H0) (M0 := M0) st sn tn h).ex
        exact ⟨_, ps_setLc st.calm st.nd hi hl hs hpi hb hg ht he hf, fun σ H Q q => lc_data htg q⟩
      · cases h
    · rename_i ex t k src t2 k2 src2 fs slots slots2
      dsimp only at h
      split at h
      · rename_i q8
        cases q8
        obtain ⟨own, rfl, hb, hpi, hg, h0, hi2, hg2, ht, he, hf, hf2, htg, htg2, hsl⟩ := (comp2_of (H0 := H0) (M0 := M0) st sn tn h).ex
        exact ⟨_, ps_setLc2 st.calm st.nd hi hl hs hpi hb hsl hg h0 hi2 hg2 ht he hf hf2, fun σ H Q q => lc2_data htg htg2 q⟩
      · cases h
    · rename_i ex t k src t2 k2 src2 t3 k3 src3 slots slots2 slots3
      dsimp only at h
      split at h
      · rename_i elt tg it tg2 it2 tg3 it3 _ _ q8
        cases q8
        have f := comp3_of (H0 := H0) (M0 := M0) (b := (tg, it)) (c := (tg2, it2)) (d := (tg3, it3)) st sn h
        obtain ⟨own, rfl, hb, hpi⟩ := f.ow
        exact ⟨_, ps_setLc3 (b := (tg, it)) (c := (tg2, it2)) (d := (tg3, it3)) st.calm st.nd hi hl hs hpi hb f.s4 f.s5 f.g f.i2 f.g2 f.i3 f.g3 f.e f.f1 f.f2 f.f3, fun σ H Q q => lc3_data f.s1 f.s2 f.s3 q⟩
      · cases h
theorem fm_lt {α β : Type} {f : α → Option β} : ∀ {ts : List α}, (∃ t ∈ ts, f t = none) → (ts.filterMap f).length < ts.length
  | [], ⟨_, h, _⟩ => nomatch h
  | x :: r, ⟨t, h, e⟩ => by
    rcases List.mem_cons.mp h with z | h
    · rw [← z, List.filterMap_cons_none e]
      exact Nat.lt_succ_of_le (List.length_filterMap_le _ _)
    · have := fm_lt ⟨t, h, e⟩
      cases q : f x with
      | none =>
        rw [List.filterMap_cons_none q]
        exact Nat.lt_succ_of_lt this
      | some y =>
        rw [List.filterMap_cons_some q]
        exact Nat.succ_lt_succ this
theorem no_swap {ts : List PySem.Expr} {kt : Nat} {pt : Pos} {v : PySem.Expr} (h : noSwapB X.env.scope ts v = true) : swappedStores [.Tuple ts kt pt] v X.env = pure none := by
  cases v <;> try rfl
  rename_i vs k p
  by_cases h4 : 4 ≤ ts.length
  · unfold swappedStores
    dsimp only
    have e1 : (ts.length == 2 || ts.length == 3) = false := by
      rw [beq_eq_false_iff_ne.mpr (show ts.length ≠ 2 by omega), beq_eq_false_iff_ne.mpr (show ts.length ≠ 3 by omega)]
      rfl
    rw [e1]
    rfl
  have h := (show (decide (4 ≤ ts.length) || (cellIn X.env.scope ts || (vs.all notStar && vs.all (foldedForSure 8)))) = true from h)
  rw [decide_eq_false h4, Bool.false_or] at h
  by_cases hc : cellIn X.env.scope ts = true
  · obtain ⟨t, ht, hb⟩ := List.any_eq_true.mp hc
    unfold swappedStores
    dsimp only
    split
    · rfl
    · split
      · rfl
      · refine if_pos ?_
        refine Bool.or_eq_true_iff.mpr (.inl ?_)
        refine bne_iff_ne.mpr (Nat.ne_of_lt (fm_lt ⟨t, ht, ?_⟩))
        cases t <;> try rfl
        rename_i x px
        have hk : X.env.kindOf x ≠ some .local := fun z => by
          have hb : (!decide (X.env.scope.names.lookup x = some .local)) = true := hb
          rw [decide_eq_true (show X.env.scope.names.lookup x = some .local from z)] at hb
          exact nomatch hb
        dsimp only
        rw [beq_eq_false_iff_ne.mpr hk]
        rfl
  rw [show cellIn X.env.scope ts = false by cases q : cellIn X.env.scope ts; rfl; exact absurd q hc, Bool.false_or] at h
  obtain ⟨h1, h2⟩ := and2 h
  unfold swappedStores
  dsimp only
  split
  · rfl
  · split
    · rfl
    · split
      · rfl
      · first
          | rfl
          | (rw [if_pos h2]; rfl)
theorem any_star {f : PySem.Expr → Bool} {a b : PySem.Expr} (hf : ∀ e, notStar e = true → f e = false) (sa : notStar a = true) (sb : notStar b = true) : [a, b].any f = false := by
  rw [List.any_cons, List.any_cons, hf a sa, hf b sb]
  rfl
theorem swap2 {x y : Str} {px py pt pt2 : Pos} {kt k2 : Nat} {a b : PySem.Expr} (hk : X.env.scope.kind = .function) (hx : X.env.scope.names.lookup x = some .local) (hy : X.env.scope.names.lookup y = some .local) (hl : py.line = px.line) (hxy : x ≠ y) (sa : notStar a = true) (sb : notStar b = true)
    (h1 : (foldedForSure 8 a && foldedForSure 8 b) = false) (h2 : (constantsAlone 8 a && constantsAlone 8 b) = false) : swappedStores [.Tuple [.Name x px, .Name y py] kt pt] (.Tuple [a, b] k2 pt2) X.env = pure (some [x, y]) := by
  have kx : X.env.kindOf x = some .local := hx
  have ky : X.env.kindOf y = some .local := hy
  have hb : X.env.blockKind = .function := by unfold Env.blockKind; rw [hk]; rfl
  have e1 : ([a, b].all (foldedForSure 8)) = false := by
    rw [List.all_cons, List.all_cons, List.all_nil, Bool.and_true]
    exact h1
  have e2 : ([a, b].all (constantsAlone 8)) = false := by
    rw [List.all_cons, List.all_cons, List.all_nil, Bool.and_true]
    exact h2
  unfold swappedStores
  dsimp only
  rw [any_star (fun e he => by cases e <;> first | rfl | (simp [notStar] at he)) sa sb, e1, e2, hb]
  simp [kx, ky, hl, Expr.pos, hxy, List.eraseDups_cons]
  intro h
  exact absurd (by simp [List.filter_cons, Ne.symm hxy, List.eraseDups_cons]) h

theorem any_star3 {f : PySem.Expr → Bool} {a b c : PySem.Expr} (hf : ∀ e, notStar e = true → f e = false) (sa : notStar a = true) (sb : notStar b = true) (sc : notStar c = true) : [a, b, c].any f = false := by
  rw [List.any_cons, List.any_cons, List.any_cons, hf a sa, hf b sb, hf c sc]
  rfl
theorem swap3 {x y z : Str} {px py pz pt pt2 : Pos} {kt k2 : Nat} {a b c : PySem.Expr} (hk : X.env.scope.kind = .function) (hx : X.env.scope.names.lookup x = some .local) (hy : X.env.scope.names.lookup y = some .local) (hz : X.env.scope.names.lookup z = some .local) (hl : py.line = px.line) (hl2 : pz.line = px.line) (hxy : x ≠ y) (hxz : x ≠ z) (hyz : y ≠ z)
    (sa : notStar a = true) (sb : notStar b = true) (sc : notStar c = true)
    (h1 : (foldedForSure 8 a && (foldedForSure 8 b && foldedForSure 8 c)) = false) (h2 : (constantsAlone 8 a && (constantsAlone 8 b && constantsAlone 8 c)) = false) : swappedStores [.Tuple [.Name x px, .Name y py, .Name z pz] kt pt] (.Tuple [a, b, c] k2 pt2) X.env = pure (some [x, y, z]) := by
  have kx : X.env.kindOf x = some .local := hx
  have ky : X.env.kindOf y = some .local := hy
  have kz : X.env.kindOf z = some .local := hz
  have hb : X.env.blockKind = .function := by unfold Env.blockKind; rw [hk]; rfl
  have e1 : ([a, b, c].all (foldedForSure 8)) = false := by
    rw [List.all_cons, List.all_cons, List.all_cons, List.all_nil, Bool.and_true]
    exact h1
  have e2 : ([a, b, c].all (constantsAlone 8)) = false := by
    rw [List.all_cons, List.all_cons, List.all_cons, List.all_nil, Bool.and_true]
    exact h2
  have e3 : ([x, y, z] : List Str).eraseDups = [x, y, z] := by
    have n1 : (y == x) = false := beq_eq_false_iff_ne.mpr (Ne.symm hxy)
    have n2 : (z == x) = false := beq_eq_false_iff_ne.mpr (Ne.symm hxz)
    have n3 : (z == y) = false := beq_eq_false_iff_ne.mpr (Ne.symm hyz)
    simp [List.eraseDups_cons, List.filter_cons, n1, n2, n3]
  unfold swappedStores
  dsimp only
  rw [any_star3 (fun e he => by cases e <;> first | rfl | (simp [notStar] at he)) sa sb sc, e1, e2, hb]
  simp [kx, ky, kz, hl, hl2, Expr.pos, e3]

/-! ### blocks -/
def SndS (S : Type) (m n : Nat) : Prop := ∀ (X : Cx) (C : SE S) (H0 M0 : Hp) (W : WX) (F : Nat) (sub : Str → Str → Bool), Stb X C W sub → ∀ st x, ckS X.N C.gcd m X.env.scope n st x = true → PS X st (TSd X.K (fm C H0 M0 W) (evS C.T C.G sub F x))
theorem blk_of (sn : SndS S m n) (b : Stb X C W sub) : ∀ {xs : List St'} {ss : List PySem.Stmt}, ckSs (ckS X.N C.gcd m X.env.scope n) ss xs = true → PSs X ss (TSd X.K (fm C H0 M0 W) (evSs C.T C.G sub F xs)) := by
  intro xs
  induction xs with
  | nil =>
    intro ss h
    cases ss with
    | nil => exact sd_nil
    | cons _ _ => simp [ckSs] at h
  | cons x xs ih =>
    intro ss h
    have key : ∀ (a : PySem.Stmt) (r : List PySem.Stmt), ckS X.N C.gcd m X.env.scope n a x = true → ckSs (ckS X.N C.gcd m X.env.scope n) r xs = true → PSs X (a :: r) (TSd X.K (fm C H0 M0 W) (evSs C.T C.G sub F (x :: xs))) := fun a r h1 h2 =>
      sd_cons (sn X C H0 M0 W F sub b a x h1) (ih h2)
    by_cases hx : ∃ i, x = .share i
    · obtain ⟨i, rfl⟩ := hx
      have h' : ckSs (ckS X.N C.gcd m X.env.scope n) ss xs = true := by
        cases ss <;> (unfold ckSs at h; exact h)
      exact sd_share (ih h')
    · cases ss with
      | nil =>
        cases x <;> first
          | exact absurd ⟨_, rfl⟩ hx
          | (simp [ckSs] at h; done)
      | cons a r =>
        have h' : (ckS X.N C.gcd m X.env.scope n a x && ckSs (ckS X.N C.gcd m X.env.scope n) r xs) = true := by
          rw [← h]
          cases x <;> first
            | rfl
            | exact absurd ⟨_, rfl⟩ hx
        exact key a r (and2 h').1 (and2 h').2
/-! ### except suites -/
theorem lowB_eq {x : Str} (h : lowB x = true) : x = "BadTable" := eq_of_beq h
theorem su_of (b : Stb X C W sub) {i : Nat} {a A : Addr} {x : Str} {p : Option PyData} {dd : Option Addr} {oe : Obj} {pn : List (Addr × Obj)} (hJ : C.J.cls x = some A) (hz : Zc (.ref A) dd oe) (hf : ∃ vs, oe.data = .fields vs) :
    ∀ (n : Nat) (e : PySem.Expr) (u : SuE), ckU X.N X.env.scope i n e u = true → PE (X.suite a ((a, oe) :: pn)) e (TSu X.K (fm C H0 M0 W) i a p dd fun env => suE sub u env x p) := by
  obtain ⟨hfl, hmg, hE, _, _, _, hlow⟩ := b.xf.cl x A hJ
  have hisn : X.mg "isinstance" = none := b.st.blt _ (by decide +kernel)
  have hu : X.A.units + 65 < cLine := by have := b.st.room.un; omega
  intro n
  induction n with
  | zero => exact fun e u h => nomatch h
  | succ n ih =>
    intro e u h
    unfold ckU at h
    split at h
    · rename_i op a' pos
      exact pe_one (ih _ _ h)
    · cases u with
      | con k =>
        dsimp only at h
        split at h
        · rename_i y j pq _
          cases k with
          | non =>
            cases y <;> try (simp [conB] at h; done)
            exact su_con pe_non fun _ => .non
          | bl b =>
            cases y <;> try (simp [conB] at h; done)
            cases eq_of_beq h
            exact su_con pe_bl fun _ => .bl _
          | int b =>
            cases y <;> try (simp [conB] at h; done)
            cases of_decide_eq_true h
            exact su_con pe_int fun _ => .int _
          | str b =>
            cases y <;> try (simp [conB] at h; done)
            cases of_decide_eq_true h
            exact su_con pe_str fun _ => .str _
        · cases h
      | var j =>
        dsimp only at h
        split at h
        · obtain ⟨h1, h2, h3, h4⟩ := name_of h
          exact su_var (X := X.suite a ((a, oe) :: pn)) h1 h2 h3 h4
        · cases h
      | val =>
        dsimp only at h
        split at h
        · rename_i y py f pos _
          obtain ⟨h0, h⟩ := and2 h
          obtain ⟨h1, h2, h3, h4⟩ := name_of h
          cases of_decide_eq_true h0
          cases hl : lowB x with
          | true =>
            obtain ⟨fI, T⟩ := hlow hl
            have e0 : (fun env => suE sub .val env x p) = fun _ : PV.Env => p := by
              funext env
              unfold suE
              rw [hl]
            rw [e0]
            exact su_val T hfl hz hf (pe_var (X := X.suite a ((a, oe) :: pn)) h1 h2 h3 h4) rfl
          | false =>
            refine su_no fun env => ?_
            unfold suE
            rw [hl]
        · cases h
      | isa z =>
        dsimp only at h
        split at h
        · rename_i g pg y py w pw pos _
          obtain ⟨h, h5⟩ := and2 h
          obtain ⟨h, h4⟩ := and2 h
          obtain ⟨h, h3⟩ := and2 h
          obtain ⟨h1, h2⟩ := and2 h
          cases of_decide_eq_true h1
          cases of_decide_eq_true h4
          obtain ⟨n1, n2, n3, n4⟩ := name_of h3
          obtain ⟨w1, w2⟩ := glb_of h5
          cases hk : okN sub z with
          | false =>
            refine su_no fun env => ?_
            unfold suE
            rw [hk]
          | true =>
            obtain ⟨v, uv, k1, k2, k3⟩ := b.xf.nm z hk ⟨x, A, hJ⟩
            have e0 : (fun env => suE sub (.isa z) env x p) = fun _ : PV.Env => some (.bool (sub x z)) := by
              funext env
              unfold suE
              rw [hk]
            rw [e0]
            exact su_isa hE hz hf (glb_of h2).1 hisn (pe_var (X := X.suite a ((a, oe) :: pn)) n1 n2 n3 n4) (pe_nm (X := X.suite a ((a, oe) :: pn)) k1 w1 w2 k2) k1 (k3 x A hJ).1
        · cases h
      | isaT z z2 =>
        dsimp only at h
        split at h
        · rename_i g pg y py w pw w2 pw2 kk pt pos _
          obtain ⟨h, h7⟩ := and2 h
          obtain ⟨h, h6⟩ := and2 h
          obtain ⟨h, h5⟩ := and2 h
          obtain ⟨h, h4⟩ := and2 h
          obtain ⟨h, h3⟩ := and2 h
          obtain ⟨h1, h2⟩ := and2 h
          cases of_decide_eq_true h1
          cases of_decide_eq_true h4
          cases of_decide_eq_true h6
          obtain ⟨n1, n2, n3, n4⟩ := name_of h3
          obtain ⟨a1, a2⟩ := glb_of h5
          obtain ⟨a3, a4⟩ := glb_of h7
          cases hk : (okN sub z && okN sub z2) with
          | false =>
            refine su_no fun env => ?_
            unfold suE
            rw [hk]
          | true =>
            obtain ⟨q1, q2⟩ := and2 hk
            obtain ⟨v, uv, k1, k2, k3⟩ := b.xf.nm z q1 ⟨x, A, hJ⟩
            obtain ⟨v', uv', k1', k2', k3'⟩ := b.xf.nm z2 q2 ⟨x, A, hJ⟩
            have e0 : (fun env => suE sub (.isaT z z2) env x p) = fun _ : PV.Env => some (.bool (sub x z || sub x z2)) := by
              funext env
              unfold suE
              rw [hk]
            rw [e0]
            exact su_isaT hE hz hf (glb_of h2).1 hisn (pe_var (X := X.suite a ((a, oe) :: pn)) n1 n2 n3 n4) (pe_nm (X := X.suite a ((a, oe) :: pn)) k1 a1 a2 k2) k1 (k3 x A hJ).1 (pe_nm (X := X.suite a ((a, oe) :: pn)) k1' a3 a4 k2') k1' (k3' x A hJ).1
        · cases h
      | not u =>
        dsimp only at h
        split at h
        · exact su_not (ih _ _ h)
        · cases h
      | and u v =>
        dsimp only at h
        split at h
        · obtain ⟨h1, h2⟩ := and2 h
          exact su_and (ih _ _ h1) (ih _ _ h2)
        · cases h
      | or u v =>
        dsimp only at h
        split at h
        · obtain ⟨h1, h2⟩ := and2 h
          exact su_or (ih _ _ h1) (ih _ _ h2)
        · cases h
      | eqv j =>
        dsimp only at h
        split at h
        · rename_i e1 e2 pos _
          obtain ⟨h, h3⟩ := and2 h
          obtain ⟨h1, h2⟩ := and2 h
          have key := su_eqv (X := X.suite a ((a, oe) :: pn)) (c := fm C H0 M0 W) (pos := pos) hu (ih _ _ h2) (ih _ _ h3) (not_false' h1)
          have e0 : (fun env => suE sub (.eqv j) env x p) = fun env => match suE sub .val env x p, suE sub (.var j) env x p with | some d, some y => cmpD .eq d y | _, _ => none := by
            funext env
            unfold suE
            cases lowB x with
            | false => rfl
            | true =>
              cases p with
              | none => rfl
              | some d =>
                cases hv : env[j]? with
                | none => rfl
                | some y => cases y <;> rfl
          rw [e0]
          exact key
        · cases h
theorem sus_of (b : Stb X C W sub) {i : Nat} {a A : Addr} {x : Str} {p : Option PyData} {dd : Option Addr} {oe : Obj} {pn : List (Addr × Obj)} (hJ : C.J.cls x = some A) (hz : Zc (.ref A) dd oe) (hf : ∃ vs, oe.data = .fields vs) :
    ∀ {es : List PySem.Expr} {us : List SuE}, es.all notStar = true → all2 (ckU X.N X.env.scope i n) es us = true → PA (X.suite a ((a, oe) :: pn)) es (TSus X.K (fm C H0 M0 W) i a p dd fun env => suEs sub us env x p)
  | [], [], _, _ => sus_nil
  | [], _ :: _, _, h => nomatch h
  | _ :: _, [], _, h => nomatch h
  | e :: es, u :: us, h1, h2 => by
    rw [List.all_cons] at h1
    obtain ⟨s1, s2⟩ := and2 h1
    unfold all2 at h2
    obtain ⟨q1, q2⟩ := and2 h2
    exact sus_cons (X := X.suite a ((a, oe) :: pn)) (su_of b hJ hz hf n e u q1) (sus_of b hJ hz hf s2 q2) (star_cons s1)
theorem su_suite (b : Stb X C W sub) {i : Nat} {a A : Addr} {x : Str} {p : Option PyData} {dd : Option Addr} {oe : Obj} {pn : List (Addr × Obj)} (hJ : C.J.cls x = some A) (hz : Zc (.ref A) dd oe) (hf : ∃ vs, oe.data = .fields vs) (tp : Bool) (r : List SuE) :
    ∀ (l : List (Nat × SuE)) (ss : List PySem.Stmt), ckSu X.N m X.env.scope i ss l tp r = true → PSs (X.suite a ((a, oe) :: pn)) ss (TSr X.K (fm C H0 M0 W) i a p dd fun env => suRun sub l tp r env x p) := by
  intro l
  induction l with
  | nil =>
    intro ss h
    unfold ckSu at h
    split at h
    · rename_i heq
      cases heq
    · rename_i es kk pt pos _
      obtain ⟨h1, h2⟩ := and2 h
      have k := sr_ret (X := X.suite a ((a, oe) :: pn)) (pos := pos) (su_tup (x1 := kk) (pos := pt) (sus_of (H0 := H0) (M0 := M0) (p := p) (pn := pn) (a := a) b hJ hz hf h1 h2))
      have e0 : ∀ us : List SuE, (fun env => suRun sub [] true us env x p) = fun env => match suEs sub us env x p with | some ds => if ds.length ≤ sizeLine then some (PyData.tuple ds) else none | none => none := by
        intro us
        funext env
        unfold suRun
        rfl
      rw [e0]
      exact k
    · rename_i e pos u _
      have k := sr_ret (X := X.suite a ((a, oe) :: pn)) (pos := pos) (su_of (H0 := H0) (M0 := M0) (p := p) (pn := pn) (a := a) b hJ hz hf m e u h)
      have e0 : (fun env => suRun sub [] false [u] env x p) = fun env => suE sub u env x p := by
        funext env
        unfold suRun
        rfl
      rw [e0]
      exact k
    · cases h
  | cons q l ih =>
    intro ss h
    unfold ckSu at h
    split at h
    · rename_i y py v pos ss' j u l' heq
      cases heq
      obtain ⟨h, h4⟩ := and2 h
      obtain ⟨h, h3⟩ := and2 h
      obtain ⟨h1, h2⟩ := and2 h
      obtain ⟨g1, g2, g3⟩ := tg_of (fun x _ => b.fn x) h1
      have hv := su_of (H0 := H0) (M0 := M0) (p := p) (pn := pn) (a := a) b hJ hz hf m v u h3
      have hs : swapsWith v (some (.Name y py)) pos.line X.env = pure false := by
        rcases sw_cases (e := v) (y := y) (py := py) (l := pos.line) b.kind with hs | ⟨elt, gs, scope, cp, rfl, hs, hl⟩ | hs
        · exact hs
        · exfalso
          cases m with
          | zero => cases h3
          | succ m => cases u <;> (unfold ckU at h3; simp at h3)
        · exfalso
          cases m with
          | zero => cases h3
          | succ m => cases v <;> simp [isSD] at hs <;> (cases u <;> (unfold ckU at h3; simp at h3))
      have k := sr_set (X := X.suite a ((a, oe) :: pn)) (pos := pos) b.st.nd g1 g2 (of_decide_eq_true h2) hv hs g3 (ih _ h4)
      have e0 : ∀ (tp : Bool) (r : List SuE), (fun env => suRun sub ((j, u) :: l) tp r env x p) = fun env => match suE sub u env x p with | some d => if j < env.length then suRun sub l tp r (env.set j (.v d)) x p else none | none => none := by
        intro tp r
        funext env
        cases h9 : suE sub u env x p with
        | none => simp only [suRun, h9]
        | some d => simp only [suRun, h9]
      rw [e0]
      exact k
    · rename_i heq
      cases heq
    · rename_i heq
      cases heq
    · cases h
theorem hds_of (b : Stb X C W sub) : ∀ (hds : List ExceptHandler) (hs : List Hd), ckHs X.N m X.env.scope hds hs = true → HdRel X (fm C H0 M0 W) sub hds hs
  | [], [], _ => .nil
  | [], _ :: _, h => nomatch h
  | _ :: _, [], h => nomatch h
  | a :: hds, hd :: hs, h => by
    obtain ⟨h, h6⟩ := and2 (show (ckHd X.N m X.env.scope a hd && ckHs X.N m X.env.scope hds hs) = true from h)
    have ih := hds_of b hds hs h6
    unfold ckHd at h
    split at h
    · rename_i y py nm b0 suite ph
      obtain ⟨h, h5⟩ := and2 h
      obtain ⟨h, h4⟩ := and2 h
      obtain ⟨h, h3⟩ := and2 h
      obtain ⟨h1, h2⟩ := and2 h
      cases of_decide_eq_true h1
      exact .cons (of_decide_eq_true h3) (of_decide_eq_true h4) (glb_of h2).1 (glb_of h2).2 (fun a oe x p A dd pn hJ hz hf => su_suite b hJ hz hf hd.tp hd.r hd.sets _ h5) ih
    · cases h
theorem snd_stmt : ∀ n, SndS S m n := by
  intro n
  obtain ⟨sn, tn⟩ := snd_all (S := S) m
  induction n with
  | zero => exact fun X C H0 M0 W F sub b st x h => nomatch h
  | succ n ih =>
    intro X C H0 M0 W F sub b st x h
    have st1 := b.st
    have fb : ∀ x, (fun _ : Str => true) x = true → X.fn x = true := fun x _ => b.fn x
    unfold ckS at h
    cases x with
    | asg t e =>
      cases t with
      | nm i =>
        dsimp only at h
        split at h
        · rename_i y p v pos
          obtain ⟨h1, h2⟩ := and2 h
          obtain ⟨g1, g2, g3⟩ := tg_of fb h1
          rcases sw_cases (e := v) (y := y) (py := p) (l := pos.line) b.kind with hs | ⟨elt, gs, scope, cp, rfl, hs, hl⟩ | hs
          · exact sd_asg (ps_set st1.nd g1 g2 (sn X C H0 M0 W st1 v e h2).1 hs g3) (fun _ _ _ q => q) (fun _ _ _ _ q => gd_nm q)
          · obtain ⟨te, k1, k2⟩ := comp_set (H0 := H0) (M0 := M0) st1 g1 hl hs h2
            exact sd_asg k1 (fun σ H Q q => k2 σ H Q (TV_TF q)) (fun _ _ _ _ q => gd_nm q)
          · exact (no_sd hs h2).elim
        · cases h
      | tup is =>
        dsimp only at h
        split at h
        · rename_i ts k p v pos
          obtain ⟨h, h3⟩ := and2 h
          obtain ⟨h1, h2⟩ := and2 h
          obtain ⟨g1, g2, g3⟩ := pgs_of st1.nd fb h1
          exact sd_asg (ps_asg (sn X C H0 M0 W st1 v e h3).1 (pg_tl st1.calm g1 g2 g3) (by cases v <;> rfl) (no_swap h2) rfl) (fun _ _ _ q => q) (fun _ _ _ _ q => gd_tup q)
        · cases h
    | asgR i e =>
      dsimp only at h
      split at h
      · rename_i y p f p1 a p2 pos
        obtain ⟨h, h5⟩ := and2 h
        obtain ⟨h, h4⟩ := and2 h
        obtain ⟨h, h3⟩ := and2 h
        obtain ⟨h1, h2⟩ := and2 h
        obtain ⟨g1, g2, g3⟩ := tg_of fb h1
        cases of_decide_eq_true h2
        exact sd_asgR (ps_set st1.nd g1 g2 (pe_callTy cr_range1 (glb_of h3).1 (st1.blt _ (by decide +kernel)) boot_range (pa_cons (rd_of st1 sn h5) pa_nil (star_cons h4)) (by decide) (by decide) (star_cons h4) rfl) rfl g3) (fun σ H Q q => by
          obtain ⟨M, env, z, gd, q⟩ := q
          exact ⟨M, env, z, gd, q.imp fun d s1 q1 v M1 H1 x1 r1 => by
            obtain ⟨j, rfl, q2⟩ := q1 v M1 H1 x1 r1
            exact ⟨j, rfl, q2⟩⟩)
      · cases h
    | own i e =>
      dsimp only at h
      split at h
      · rename_i y p v pos
        obtain ⟨h, h3⟩ := and2 h
        obtain ⟨h1, h2⟩ := and2 h
        obtain ⟨g1, g2, g3⟩ := tg_of fb h1
        rcases sw_cases (e := v) (y := y) (py := p) (l := pos.line) b.kind with hs | ⟨elt, gs, scope, cp, rfl, hs, hl⟩ | hs
        · exact sd_own (ps_set st1.nd g1 g2 ((sn X C H0 M0 W st1 v e h2).2 h3) hs g3) (fun _ _ _ q => q)
        · obtain ⟨te, k1, k2⟩ := comp_set (H0 := H0) (M0 := M0) st1 g1 hl hs h2
          exact sd_own k1 k2
        · exact (no_sd hs h2).elim
      · cases h
    | par i j u v =>
      dsimp only at h
      split at h
      · rename_i y py z pz k1 p1 a1 a2 k2 p2 pos
        obtain ⟨h, q12⟩ := and2 h
        obtain ⟨h, q11⟩ := and2 h
        obtain ⟨h, q10⟩ := and2 h
        obtain ⟨h, q9⟩ := and2 h
        obtain ⟨h, q8⟩ := and2 h
        obtain ⟨h, q7⟩ := and2 h
        obtain ⟨h, q6⟩ := and2 h
        obtain ⟨h, q5⟩ := and2 h
        obtain ⟨h, q4⟩ := and2 h
        obtain ⟨h, q3⟩ := and2 h
        obtain ⟨q1, q2⟩ := and2 h
        have nij := of_decide_eq_true q5
        have hyz : y ≠ z := fun e => nij (nodup_ix st1.nd (of_decide_eq_true q1) (e ▸ of_decide_eq_true q2))
        exact sd_par st1.calm st1.nd (of_decide_eq_true q1) (of_decide_eq_true q2) nij (of_decide_eq_true q3) (of_decide_eq_true q4) (sn X C H0 M0 W st1 _ _ q11).1 (sn X C H0 M0 W st1 _ _ q12).1 (star_cons q7) (star_cons q8)
          (swap2 b.kind (of_decide_eq_true q3) (of_decide_eq_true q4) (of_decide_eq_true q6) hyz q7 q8 (not_false' q9) (not_false' q10))
      · cases h
    | parO i j u v =>
      dsimp only at h
      split at h
      · rename_i y py z pz k1 p1 a1 a2 k2 p2 pos
        obtain ⟨h, q12⟩ := and2 h
        obtain ⟨h, q13⟩ := and2 h
        obtain ⟨h, q11⟩ := and2 h
        obtain ⟨h, q10⟩ := and2 h
        obtain ⟨h, q9⟩ := and2 h
        obtain ⟨h, q8⟩ := and2 h
        obtain ⟨h, q7⟩ := and2 h
        obtain ⟨h, q6⟩ := and2 h
        obtain ⟨h, q5⟩ := and2 h
        obtain ⟨h, q4⟩ := and2 h
        obtain ⟨h, q3⟩ := and2 h
        obtain ⟨q1, q2⟩ := and2 h
        have nij := of_decide_eq_true q5
        have hyz : y ≠ z := fun e => nij (nodup_ix st1.nd (of_decide_eq_true q1) (e ▸ of_decide_eq_true q2))
        exact sd_parO st1.calm st1.nd (of_decide_eq_true q1) (of_decide_eq_true q2) nij (of_decide_eq_true q3) (of_decide_eq_true q4) ((sn X C H0 M0 W st1 _ _ q11).2 q13) (sn X C H0 M0 W st1 _ _ q12).1 (star_cons q7) (star_cons q8)
          (swap2 b.kind (of_decide_eq_true q3) (of_decide_eq_true q4) (of_decide_eq_true q6) hyz q7 q8 (not_false' q9) (not_false' q10))
      · cases h
    | parP i j u v =>
      dsimp only at h
      split at h
      · rename_i y py z pz k1 p1 a1 a2 k2 p2 pos
        obtain ⟨h, q13⟩ := and2 h
        obtain ⟨h, q12⟩ := and2 h
        obtain ⟨h, q11⟩ := and2 h
        obtain ⟨h, q10⟩ := and2 h
        obtain ⟨h, q9⟩ := and2 h
        obtain ⟨h, q8⟩ := and2 h
        obtain ⟨h, q7⟩ := and2 h
        obtain ⟨h, q6⟩ := and2 h
        obtain ⟨h, q5⟩ := and2 h
        obtain ⟨h, q4⟩ := and2 h
        obtain ⟨h, q3⟩ := and2 h
        obtain ⟨q1, q2⟩ := and2 h
        have nij := of_decide_eq_true q5
        have hyz : y ≠ z := fun e => nij (nodup_ix st1.nd (of_decide_eq_true q1) (e ▸ of_decide_eq_true q2))
        exact sd_parP st1.calm st1.nd (of_decide_eq_true q1) (of_decide_eq_true q2) nij (of_decide_eq_true q3) (of_decide_eq_true q4) (sn X C H0 M0 W st1 _ _ q11).1 ((sn X C H0 M0 W st1 _ _ q12).2 q13) (star_cons q7) (star_cons q8)
          (swap2 b.kind (of_decide_eq_true q3) (of_decide_eq_true q4) (of_decide_eq_true q6) hyz q7 q8 (not_false' q9) (not_false' q10))
      · cases h
    | par3 i j k u v t =>
      dsimp only at h
      split at h
      · rename_i y py z pz w pw k1 p1 a1 a2 a3 k2 p2 pos
        obtain ⟨h, q19⟩ := and2 h
        obtain ⟨h, q18⟩ := and2 h
        obtain ⟨h, q17⟩ := and2 h
        obtain ⟨h, q16⟩ := and2 h
        obtain ⟨h, q15⟩ := and2 h
        obtain ⟨h, q14⟩ := and2 h
        obtain ⟨h, q13⟩ := and2 h
        obtain ⟨h, q12⟩ := and2 h
        obtain ⟨h, q11⟩ := and2 h
        obtain ⟨h, q10⟩ := and2 h
        obtain ⟨h, q9⟩ := and2 h
        obtain ⟨h, q8⟩ := and2 h
        obtain ⟨h, q7⟩ := and2 h
        obtain ⟨h, q6⟩ := and2 h
        obtain ⟨h, q5⟩ := and2 h
        obtain ⟨h, q4⟩ := and2 h
        obtain ⟨h, q3⟩ := and2 h
        obtain ⟨q1, q2⟩ := and2 h
        have nij := of_decide_eq_true q7
        have nik := of_decide_eq_true q8
        have njk := of_decide_eq_true q9
        have hyz : y ≠ z := fun e => nij (nodup_ix st1.nd (of_decide_eq_true q1) (e ▸ of_decide_eq_true q2))
        have hyw : y ≠ w := fun e => nik (nodup_ix st1.nd (of_decide_eq_true q1) (e ▸ of_decide_eq_true q3))
        have hzw : z ≠ w := fun e => njk (nodup_ix st1.nd (of_decide_eq_true q2) (e ▸ of_decide_eq_true q3))
        exact sd_par3 st1.calm st1.nd (of_decide_eq_true q1) (of_decide_eq_true q2) (of_decide_eq_true q3) nij nik njk (of_decide_eq_true q4) (of_decide_eq_true q5) (of_decide_eq_true q6) (sn X C H0 M0 W st1 _ _ q17).1 (sn X C H0 M0 W st1 _ _ q18).1 (sn X C H0 M0 W st1 _ _ q19).1 (star_cons q12) (star_cons q13) (star_cons q14)
          (swap3 b.kind (of_decide_eq_true q4) (of_decide_eq_true q5) (of_decide_eq_true q6) (of_decide_eq_true q10) (of_decide_eq_true q11) hyz hyw hzw q12 q13 q14 (not_false' q15) (not_false' q16))
      · cases h
    | share i => cases h
    | aug i o e =>
      dsimp only at h
      split at h
      · rename_i y p op v pos
        obtain ⟨h, h4⟩ := and2 h
        obtain ⟨h, h3⟩ := and2 h
        obtain ⟨h1, h2⟩ := and2 h
        obtain ⟨g1, g2, g3⟩ := tg_of fb h1
        cases of_decide_eq_true h2
        exact sd_aug st1.nd g1 g2 g3 (rd_of st1 sn h4) (by
          rcases Bool.or_eq_true_iff.mp h3 with w | w
          · exact .inl (of_decide_eq_true w)
          · exact .inr (of_decide_eq_true w))
      · cases h
    | appPop i j e =>
      dsimp only at h
      split at h
      · rename_i y py f ap z pz g bp v cp dp pos
        obtain ⟨h, h8⟩ := and2 h
        obtain ⟨h, h7⟩ := and2 h
        obtain ⟨h, h6⟩ := and2 h
        obtain ⟨h, h5⟩ := and2 h
        obtain ⟨h, h4⟩ := and2 h
        obtain ⟨h, h3⟩ := and2 h
        obtain ⟨h1, h2⟩ := and2 h
        obtain ⟨g1, g2, g3, g4⟩ := name_of h1
        obtain ⟨k1, k2, k3, k4⟩ := name_of h2
        cases of_decide_eq_true h3
        cases of_decide_eq_true h4
        exact sd_appPop g1 g2 g3 g4 k1 k2 k3 k4 (sn X C H0 M0 W st1 v e h8).1 h5 h6 h7
      · cases h
    | app i e =>
      dsimp only at h
      split at h
      · rename_i y p f ap v cp pos
        obtain ⟨h, h5⟩ := and2 h
        obtain ⟨h, h4⟩ := and2 h
        obtain ⟨h, h3⟩ := and2 h
        obtain ⟨h1, h2⟩ := and2 h
        obtain ⟨g1, g2, g3, g4⟩ := name_of h1
        cases of_decide_eq_true h2
        exact sd_app g1 g2 g3 g4 (sn X C H0 M0 W st1 v e h5).1 h3 h4
      · cases h
    | augIx i o ix e =>
      dsimp only at h
      split at h
      · rename_i y p k sp op v pos
        obtain ⟨h, h6⟩ := and2 h
        obtain ⟨h, h5⟩ := and2 h
        obtain ⟨h, h4⟩ := and2 h
        obtain ⟨h, h3⟩ := and2 h
        obtain ⟨h1, h2⟩ := and2 h
        obtain ⟨g1, g2, g3, g4⟩ := name_of h1
        cases of_decide_eq_true h3
        have ho : o = .add ∨ o = .sub := (Bool.or_eq_true_iff.mp h4).imp of_decide_eq_true of_decide_eq_true
        exact sd_augIx g1 g2 g3 g4 (rd_of st1 sn h6) (rd_of st1 sn h5) h2 ho
      · cases h
    | ext i j =>
      dsimp only at h
      split at h
      · rename_i y p f ap z pz cp pos
        obtain ⟨h, h4⟩ := and2 h
        obtain ⟨h, h3⟩ := and2 h
        obtain ⟨h1, h2⟩ := and2 h
        obtain ⟨g1, g2, g3, g4⟩ := name_of h1
        obtain ⟨k1, k2, k3, k4⟩ := name_of h2
        cases of_decide_eq_true h3
        exact sd_ext g1 g2 g3 g4 k1 k2 k3 k4 h4
      · cases h
    | setIx i ix e =>
      dsimp only at h
      split at h
      · rename_i y p k sp v pos
        obtain ⟨h, h4⟩ := and2 h
        obtain ⟨h, h3⟩ := and2 h
        obtain ⟨h1, h2⟩ := and2 h
        obtain ⟨g1, g2, g3, g4⟩ := name_of h1
        exact sd_setIx g1 g2 g3 g4 (sn X C H0 M0 W st1 v e h4).1 (rd_of st1 sn h3) h2
      · cases h
    | expr e =>
      dsimp only at h
      split at h
      · exact sd_expr (sn X C H0 M0 W st1 _ e h).1 rfl
      · cases h
    | ret e =>
      dsimp only at h
      split at h
      · exact sd_ret (sn X C H0 M0 W st1 _ e h).1
      · cases h
    | retN =>
      dsimp only at h
      split at h
      · exact sd_retN
      · cases h
    | ifs t p q =>
      dsimp only at h
      split at h
      · obtain ⟨h, h3⟩ := and2 h
        obtain ⟨h1, h2⟩ := and2 h
        exact sd_if (tn X C H0 M0 W st1 _ _ h1).1 (blk_of ih b h2) (blk_of ih b h3)
      · cases h
    | loop t k src body =>
      dsimp only at h
      split at h
      · obtain ⟨h, h4⟩ := and2 h
        obtain ⟨h, h3⟩ := and2 h
        obtain ⟨h1, h2⟩ := and2 h
        exact sd_for b.po st1.calm (srcV_of st1 sn (and2 h2).2 h3) (pg_of (c := fm C H0 M0 W) st1.nd st1.calm fb h1) (blk_of ih b h4) (fold_set (and2 h2).1)
      · cases h
    | «while» t body =>
      dsimp only at h
      split at h
      · obtain ⟨h1, h2⟩ := and2 h
        exact sd_while b.po (tn X C H0 M0 W st1 _ _ h1).1 (blk_of ih b h2)
      · cases h
    | raise cn ar =>
      cases ar with
      | none =>
        dsimp only at h
        split at h
        · rename_i x q0 ms j q2 q3 pos
          obtain ⟨h1, h2⟩ := and2 h
          cases of_decide_eq_true h1
          have e0 : evS C.T C.G sub F (.raise cn none) = fun env s => match sub cn cn && !lowB cn with | true => .exn cn none env s | false => .bad := by
            funext env s
            unfold evS
            rfl
          rw [e0]
          cases hb : (sub cn cn && !lowB cn) with
          | true =>
            obtain ⟨k1, k2⟩ := and2 hb
            obtain ⟨A, hA⟩ := b.xf.tot cn k1
            exact sd_raise0 (c := fm C H0 M0 W) b.xf hA st1.calm st1.tk (glb_of h2).1 (glb_of h2).2 (not_false' k2)
          | false => exact sd_never
        · cases h
      | some e =>
        dsimp only at h
        split at h
        · rename_i x q0 a q3 pos
          obtain ⟨h, h5⟩ := and2 h
          obtain ⟨h, h4⟩ := and2 h
          obtain ⟨h, h3⟩ := and2 h
          obtain ⟨h1, h2⟩ := and2 h
          cases of_decide_eq_true h1
          cases of_decide_eq_true h2
          have e0 : evS C.T C.G sub F (.raise "BadTable" (some e)) = fun env s => match sub "BadTable" "BadTable" && lowB "BadTable" with | true => onE (evE C.T C.G e env s) env fun d s => .exn "BadTable" (some d) env s | false => .bad := by
            funext env s
            unfold evS
            rfl
          rw [e0]
          cases hb : (sub "BadTable" "BadTable" && lowB "BadTable") with
          | true =>
            obtain ⟨k1, k2⟩ := and2 hb
            obtain ⟨A, hA⟩ := b.xf.tot _ k1
            exact sd_raise1 (c := fm C H0 M0 W) b.xf hA st1.calm st1.room st1.tk (glb_of h3).1 (sn X C H0 M0 W st1 a e h5).1 (star_cons h4)
          | false => exact sd_never
        · cases h
    | tryN body =>
      dsimp only at h
      split at h
      · exact sd_tryN (blk_of (X := X.nox) (W := fun _ _ _ _ => False) ih b.nox h)
      · cases h
    | tryy _ _ => cases h
    | tryA body cn oi sets tp r =>
      cases oi with
      | none => cases h
      | some i =>
        dsimp only at h
        split at h
        · rename_i bd y py nm b0 suite ph pos
          obtain ⟨h, h6⟩ := and2 h
          obtain ⟨h, h5⟩ := and2 h
          obtain ⟨h, h4⟩ := and2 h
          obtain ⟨h, h3⟩ := and2 h
          obtain ⟨h1, h2⟩ := and2 h
          cases of_decide_eq_true h1
          have e0 : evS C.T C.G sub F (.tryA body cn (some i) sets tp r) = fun env s => match evSs C.T C.G sub F body env s with
              | .exn x p env' s' => (match okN sub cn with
                | true => (match sub x cn with
                  | true => (match (hdE (some i) env').bind (fun e => suRun sub sets tp r e x p) with
                    | some d => .ok (.ret d) s'
                    | none => .bad)
                  | false => .exn x p env' s')
                | false => .bad)
              | x => x := by
            funext env s
            conv => lhs; unfold evS
            all_goals rfl
          rw [e0]
          exact sd_tryA (c := fm C H0 M0 W) (fr := fun x p e => suRun sub sets tp r e x p) b.xf b.stk b.frm st1.nd (of_decide_eq_true h3) (of_decide_eq_true h4) (glb_of h2).1 (glb_of h2).2 st1.tk
            (fun W' pn xe tk po => blk_of (X := X.tr pn xe) (W := W') ih (b.tr tk po) h5)
            (fun a oe x p A dd pn hJ hz hf => su_suite b hJ hz hf tp r sets _ h6)
        · cases h
    | tryI body cn i j z =>
      dsimp only at h
      split at h
      · rename_i bd y py nm va vd cpos e2 bpos fj fp rp ip ph pos
        obtain ⟨h, h10⟩ := and2 h
        obtain ⟨h, h9⟩ := and2 h
        obtain ⟨h, h8⟩ := and2 h
        obtain ⟨h, h7⟩ := and2 h
        obtain ⟨h, h6⟩ := and2 h
        obtain ⟨h, h5⟩ := and2 h
        obtain ⟨h, h4⟩ := and2 h
        obtain ⟨h, h3⟩ := and2 h
        obtain ⟨h1, h2⟩ := and2 h
        cases of_decide_eq_true h1
        have e0 : evS C.T C.G sub F (.tryI body cn i j z) = fun env s => match evSs C.T C.G sub F body env s with
            | .exn x p env' s' => (match okN sub cn with
              | true => (match sub x cn with
                | true => (match (hdE (some i) env').bind (fun e => ifRun sub j z e x p) with
                  | some (some d) => .ok (.ret d) s'
                  | some none => .ok (.nx (env'.set i .no)) s'
                  | none => .bad)
                | false => .exn x p env' s')
              | false => .bad)
            | x => x := by
          funext env s
          conv => lhs; unfold evS
          all_goals rfl
        rw [e0]
        refine sd_tryI (c := fm C H0 M0 W) (fr := fun x p e => ifRun sub j z e x p) b.xf b.stk b.frm st1.nd (of_decide_eq_true h3) (of_decide_eq_true h4) (glb_of h2).1 (glb_of h2).2 st1.tk
          (fun W' pn xe tk po => blk_of (X := X.tr pn xe) (W := W') ih (b.tr tk po) h5)
          (fun a oe x p A dd pn hJ hz hf => ?_)
        have k1 := su_of (H0 := H0) (M0 := M0) (p := p) (pn := pn) (a := a) b hJ hz hf m va .val h7
        have k2 := su_of (H0 := H0) (M0 := M0) (p := p) (pn := pn) (a := a) b hJ hz hf m vd (.var j) h8
        have k3 := su_of (H0 := H0) (M0 := M0) (p := p) (pn := pn) (a := a) b hJ hz hf m e2 (.isa z) h9
        have hu : X.A.units + 65 < cLine := by have := b.st.room.un; omega
        have w1 := bt_ne (X := X.suite a ((a, oe) :: pn)) (pos := cpos) hu k1 k2 (not_false' h6)
        have w2 := bt_val (X := X.suite a ((a, oe) :: pn)) k3 (by
          cases e2 <;> first | (intro _; rfl) | cases h10)
        have w := (bt_or (pos := bpos) w1 (pw_or1 w2)).pt
        have k := sx_if (X := X.suite a ((a, oe) :: pn)) (j := fj) (p1 := fp) (p2 := rp) (pos := ip) w
        have e1 : (fun env => ifRun sub j z env x p) = fun env => match (match (match suE sub .val env x p, suE sub (.var j) env x p with | some d, some x => boolO (cmpD .ne d x) | _, _ => none) with | some true => some true | some false => boolO (suE sub (.isa z) env x p) | none => none) with | some true => some (some (.bool false)) | some false => some none | none => none := by
          funext env
          unfold ifRun
          generalize suE sub .val env x p = q1
          generalize suE sub (.var j) env x p = q2
          generalize suE sub (.isa z) env x p = q3
          cases q1 with
          | none => rfl
          | some d =>
            cases q2 with
            | none => rfl
            | some y =>
              dsimp only
              generalize cmpD .ne d y = q4
              cases q4 with
              | none => rfl
              | some v =>
                cases v with
                | bool t =>
                  cases t with
                  | true => rfl
                  | false =>
                    cases q3 with
                    | none => rfl
                    | some u =>
                      cases u with
                      | bool t2 => cases t2 <;> rfl
                      | _ => rfl
                | _ => rfl
        exact e1 ▸ k
      · cases h
    | tryM body hs =>
      dsimp only at h
      split at h
      · rename_i bd h0 r pos
        obtain ⟨h1, h2⟩ := and2 h
        have e0 : evS C.T C.G sub F (.tryM body hs) = fun env s => match hs.all (fun h => okN sub h.c) with
            | true => (match evSs C.T C.G sub F body env s with
              | .exn x p env' s' => runHs sub hs x p env' s'
              | x => x)
            | false => .bad := by
          funext env s
          conv => lhs; unfold evS
          all_goals rfl
        rw [e0]
        exact sd_tryM (c := fm C H0 M0 W) b.xf b.stk b.frm st1.nd st1.tk (fun W' pn xe tk po => blk_of (X := X.tr pn xe) (W := W') ih (b.tr tk po) h1) (hds_of b _ _ h2)
      · cases h
    | brk =>
      dsimp only at h
      split at h
      · exact sd_brk
      · cases h
    | cont =>
      dsimp only at h
      split at h
      · exact sd_cont
      · cases h
    | pass =>
      dsimp only at h
      split at h
      · exact sd_pass
      · cases h
    | never => exact sd_never
end
end PV
set_option Elab.async false
set_option linter.all false
set_option maxRecDepth 100000
set_option maxHeartbeats 8000000
/-! PV, sixteenth part: a def that passes the look keeps its promise; a whole program. -/
namespace PV
open PySem PySem.Spec PyProof.Rows L2
section
variable {S : Type}
/-- what a module tells every def (Stc without the frame) -/
structure StM (P : Program) (w : World) (K : PySem.W.Frag) (mg : Str → Option Value) (base : Heap) (C : SE S) (sub : Str → Str → Bool) : Prop where
  blt : ∀ x : Str, bltNames.contains x = true → mg x = none
  gcd : C.gcd = true → mg "gcd" = some (.builtin "math.gcd")
  fns : ∀ f F, C.T f = some F → ∃ (a : Addr) (fd : FuncData) (ps : List Str), mg f = some (.ref a) ∧ PySem.W.keepIn K (.ref a) = true ∧ Binds K fd ps [] ∧ FnOk P w K mg base (L2.CX P w) C.k a fd ps (spF K C.I C.J ps.length F) ∧ ∀ avs s, avs.length ≠ ps.length → F avs s = .bad
  glb : ∀ x d, C.G x = some d → ∃ u v, mg x = some u ∧ RelV v u ∧ ∀ M, Rp K M d v
  xf : XF K mg C.J sub
variable {P : Program} {w : World} {K : PySem.W.Frag} {mg : Str → Option Value} {base : Heap} {C : SE S} {sub : Str → Str → Bool} {F : Nat}
theorem startE_get {I : HI S} {M : Hp} {avs : List AV} {vs : List V} (r : AvA K I M avs vs) (H0 H : Hp) : ∀ (i : Nat) (x : Sl), (avs.map slot)[i]? = some x → ∃ v, vs[i]? = some v ∧ SlOk K I H0 M H x (some v) ∧ ∀ xs, x ≠ .own xs := by
  induction r with
  | nil => intro i x e; simp at e
  | d h r ih =>
    intro i x e
    cases i with
    | zero =>
      cases e
      exact ⟨_, rfl, ⟨_, rfl, h⟩, fun _ z => nomatch z⟩
    | succ i => exact ih i x (by simpa using e)
  | h r ih =>
    intro i x e
    cases i with
    | zero =>
      cases e
      exact ⟨_, rfl, rfl, fun _ z => nomatch z⟩
    | succ i => exact ih i x (by simpa using e)
theorem gd_start {I : HI S} {M H : Hp} {s : S} {N : List Str} {avs : List AV} {vs : List V} (ok : Ok I M H s) (r : AvA K I M avs vs) (hl : vs.length ≤ N.length) : Gd K I H M M H (L2.start N vs) (startE N.length avs) s := by
  have hlen := r.len
  have inv : ∀ (i : Nat) (x : Sl), (startE N.length avs)[i]? = some x → ∃ ov, (L2.start N vs)[i]? = some ov ∧ SlOk K I H M H x ov ∧ ∀ xs, x ≠ .own xs := fun i x e => by
    unfold startE at e
    unfold L2.start
    by_cases hi : i < avs.length
    · rw [List.getElem?_append_left (by rw [List.length_map]; exact hi)] at e
      obtain ⟨v, e1, e2, e3⟩ := startE_get r H H i x e
      refine ⟨some v, ?_, e2, e3⟩
      rw [List.getElem?_append_left (by rw [List.length_map, hlen]; exact hi), List.getElem?_map, e1]
      rfl
    · rw [List.getElem?_append_right (by rw [List.length_map]; omega), List.getElem?_replicate] at e
      split at e
      · rename_i h2
        cases e
        refine ⟨none, ?_, trivial, fun _ z => nomatch z⟩
        rw [List.getElem?_append_right (by rw [List.length_map]; omega), List.getElem?_replicate, if_pos (by rw [List.length_map] at h2 ⊢; omega)]
      · cases e
  refine ⟨ok, fun _ _ => rfl, fun _ _ e _ => e, ?_, fun i x e => ?_, fun i j xs ys p _ e => ?_⟩
  · unfold L2.start startE
    simp only [List.length_append, List.length_map, List.length_replicate]
    omega
  · obtain ⟨ov, h1, h2, _⟩ := inv i x e
    exact ⟨ov, h1, h2⟩
  · obtain ⟨_, _, _, h3⟩ := inv i _ e
    exact absurd rfl (h3 xs)
theorem Fr0.ext {I : HI S} {M H M' H' : Hp} {s s' : S} (k : Ok I M H s) (f : Fr0 I H M M' H' s') : Ext I M H M' H' s' := ⟨f.ok.sub, f.m0, f.h0, f.ok.z, f.ok.hp⟩
/-- the look over a def -/
def ckF (gcd : Bool) (m n : Nat) (st : PySem.Stmt) (fn : Fn) : Bool := ckSs (ckS fn.names gcd m (defScope st) n) (defBody st) fn.body
theorem def_ok (hm : StM P w K mg base C sub) {x qual : Str} {st : PySem.Stmt} {f : Addr} {fd : FuncData} {fn : Fn} {m n : Nat} (hf : Fun K x qual st f fd) (hs : FnScope fn.names fn.params (defScope st)) (hc : ckF C.gcd m n st fn = true) :
    FnOk P w K mg base (L2.CX P w) (C.k + 1) f fd fn.params (spF K C.I C.J fn.params.length (runF C.T C.G sub F fn)) := by
  refine hf.okX hs (fun vs H Q E h => h.1) fun cdv A outer s H vs Q E hr h => ?_
  obtain ⟨hl, M, avs, z, ok, r, q⟩ := h
  have st1 : Stb (cxOf (L2.CX P w) P w K mg base fn.names qual (defScope st) f cdv A outer s H E) C (fun cls d _ H => E cls d H) sub :=
    ⟨⟨hs.nd, rfl, takes_of rfl rfl rfl rfl, hr, hm.blt, hm.gcd, hm.fns, hm.glb⟩, passes_of rfl, fun _ => rfl, hs.kind, hm.xf, rfl, rfl⟩
  refine ⟨_, blk_of (H0 := H) (M0 := M) (F := F) (sub := sub) (snd_stmt n) st1 hc, M, startE fn.names.length avs, z, ?_, ?_⟩
  · refine gd_start ok r ?_
    have := congrArg List.length hs.pre
    rw [List.length_take] at this
    omega
  · have la : avs.length = fn.params.length := by rw [← r.len, hl]
    have lp : fn.params.length ≤ fn.names.length := by
      have := congrArg List.length hs.pre
      rw [List.length_take] at this
      omega
    unfold runF at q
    rw [if_pos ⟨la, lp⟩] at q
    revert q
    generalize evSs C.T C.G sub F fn.body (startE fn.names.length avs) z = rs
    intro q
    cases rs with
    | ok fl s' =>
      cases fl with
      | nx env => exact fun σ' M' H' g k => q .non M' H' (g.fr.ext ok) .non
      | ret d => exact fun v M' H' g k r => q v M' H' (g.ext ok) r
      | bk env => exact (show False from q).elim
      | ct env => exact (show False from q).elim
    | exn c p env s' => exact fun cls dd σ' M' H' g k z => q cls dd M' H' (g.fr.ext ok) z
    | bad => exact q
/-- what the program's text says of a def -/
structure FOk (K : PySem.W.Frag) (mg : Str → Option Value) (gcd : Bool) (f : Str) (fn : Fn) : Prop where
  ex : ∃ (st : PySem.Stmt) (qual : Str) (a : Addr) (fd : FuncData) (m n : Nat), Fun K f qual st a fd ∧ mg f = some (.ref a) ∧ Binds K fd fn.params [] ∧ FnScope fn.names fn.params (defScope st) ∧ ckF gcd m n st fn = true
/-- all defs of a program, to any depth of calls -/
theorem den_ok {I : HI S} {J : XI} {G : Gls} {gcd : Bool} {D : Str → Option Fn} {b : Tbl S} {k0 : Nat} (hblt : ∀ x : Str, bltNames.contains x = true → mg x = none) (hgcd : gcd = true → mg "gcd" = some (.builtin "math.gcd"))
    (hglb : ∀ x d, G x = some d → ∃ u v, mg x = some u ∧ RelV v u ∧ ∀ M, Rp K M d v) (hD : ∀ f fn, b f = none → D f = some fn → FOk K mg gcd f fn)
    (hx : XF K mg J sub) (hb : ∀ f F, b f = some F → ∃ (a : Addr) (fd : FuncData) (ps : List Str), mg f = some (.ref a) ∧ PySem.W.keepIn K (.ref a) = true ∧ Binds K fd ps [] ∧ FnOk P w K mg base (L2.CX P w) k0 a fd ps (spF K I J ps.length F) ∧ ∀ avs s, avs.length ≠ ps.length → F avs s = .bad) :
    ∀ n, StM P w K mg base ⟨I, J, den D b G sub F n, G, gcd, n + k0⟩ sub := by
  intro n
  induction n with
  | zero => exact ⟨hblt, hgcd, fun f F h => (nomatch h), hglb, hx⟩
  | succ n ih =>
    refine ⟨hblt, hgcd, fun f Fd h => ?_, hglb, hx⟩
    cases e : b f with
    | some Fb =>
      have h' : some Fb = some Fd := by
        rw [← h]
        show _ = (match b f with | some b => some b | none => match D f with | some fn => some (runF (den D b G sub F n) G sub F fn) | none => none)
        rw [e]
      have e3 := Option.some.inj h'
      subst e3
      obtain ⟨a, fd, ps, h1, h2, h3, h4, h5⟩ := hb f Fb e
      exact ⟨a, fd, ps, h1, h2, h3, h4.mono (show k0 ≤ n + 1 + k0 by omega), h5⟩
    | none =>
      cases e2 : D f with
      | none =>
        have h' : none = some Fd := by
          rw [← h]
          show _ = (match b f with | some b => some b | none => match D f with | some fn => some (runF (den D b G sub F n) G sub F fn) | none => none)
          rw [e, e2]
        cases h'
      | some fn =>
        have h' : some (runF (den D b G sub F n) G sub F fn) = some Fd := by
          rw [← h]
          show _ = (match b f with | some b => some b | none => match D f with | some fn => some (runF (den D b G sub F n) G sub F fn) | none => none)
          rw [e, e2]
        cases h'
        obtain ⟨st, qual, a, fd, m, n', h1, h2, h3, h4, h5⟩ := (hD f fn e e2).ex
        refine ⟨a, fd, fn.params, h2, h1.kp, h3, (def_ok (sub := sub) (F := F) ih h1 h4 h5).mono (show n + k0 + 1 ≤ n + 1 + k0 by omega), fun avs s hne => ?_⟩
        unfold runF
        rw [if_neg fun z => hne z.1]
end
end PV
set_option Elab.async false
set_option linter.all false
set_option maxRecDepth 100000
set_option maxHeartbeats 4000000
/-! PV: what the top says of the classes of errors. -/
namespace PV
open PySem PySem.Spec PyProof.Rows L2
/-- of which class an error is: its own, the package's, ValueError -/
def subL (names : List Str) (c x : Str) : Bool := names.contains c && (c == x || x == "BreakError" || x == "ValueError")
/-- a class of errors of the top -/
structure Ecl (K : PySem.W.Frag) (x : Str) (C : Addr) : Prop where
  g : PySem.W.nsIn K mainGlobals x = some (some (.ref C))
  kp : PySem.W.keepIn K (.ref C) = true
  ty : PySem.W.typeIn K (.ref C) = some (.type "type")
  ic : PySem.W.isClsIn K C = true
  hg : PySem.W.findIn K (.ref C) "__getattribute__" = some (some (.builtin "BaseException.__getattribute__"))
  hk : PySem.W.findIn K (.ref C) "__getattr__" = some none
  hs : PySem.W.subIn K (.ref C) (.type "BaseException") = some true
  hd : PySem.W.hasDictIn K C = true
  ha : PySem.W.findIn K (.ref C) "__class__" = some (some (.builtin "object.__class__"))
  hn : PySem.W.specialIn K (.builtin "object.__class__") "__get__" = some (some (.builtin "getset_descriptor.__get__"))
  ht : PySem.W.takesIn K (.builtin "object.__class__") = some true
  hm : PySem.W.mroIn K C (.type "object") = some true
variable {K : PySem.W.Frag}
theorem kit_ref {C D : Addr} {b : Bool} (h0 : PySem.W.isClsIn K D = true) (h1 : PySem.W.typeIn K (.ref D) = some (.type "type")) (h2 : PySem.W.subIn K (.ref C) (.ref D) = some b) (h3 : C = D → b = true) : PySem.W.kitOne K (.ref C) (.ref D) = some b := by
  unfold PySem.W.kitOne
  split
  · rename_i e
    rw [h3 (Value.ref.inj (beq_iff_eq.mp e))]
  · have h0' : (PySem.W.clsIn K D).isSome = true := h0
    show (if ((PySem.W.clsIn K D).isSome && PySem.W.typeIn K (.ref D) == some (.type "type")) = true then PySem.W.subIn K (.ref C) (.ref D) else none) = some b
    rw [h0', h1, if_pos (by rfl), h2]
theorem exm_refD {C D : Addr} {b : Bool} (h0 : PySem.W.isClsIn K D = true) (h1 : PySem.W.typeIn K (.ref D) = some (.type "type")) (hs : PySem.W.subIn K (.ref D) (.type "BaseException") = some true) (h2 : PySem.W.subIn K (.ref C) (.ref D) = some b) : PySem.W.exmOne K (.ref C) (.ref D) = some b := by
  have e1 : (PySem.W.subIn K (.ref D) (.type "BaseException") == some true) = true := by rw [hs] <;> rfl
  have h0' : (PySem.W.clsIn K D).isSome = true := h0
  show (if (PySem.W.subIn K (.ref D) (.type "BaseException") == some true) = true then (if ((PySem.W.clsIn K D).isSome && PySem.W.typeIn K (.ref D) == some (.type "type")) = true then PySem.W.subIn K (.ref C) (.ref D) else none) else none) = some b
  rw [if_pos e1, h0', h1, if_pos (by rfl), h2]
theorem ve_meta : PySem.W.kitMeta "ValueError" = true := by decide +kernel
theorem ve_base : PySem.W.subIn K (.type "ValueError") (.type "BaseException") = some true := by
  show (PySem.fastBuiltinMro "ValueError").map (·.contains (.type "BaseException")) = some true
  decide +kernel
theorem ve_boot : bootBuiltins "ValueError" = some (.type "ValueError") := by decide +kernel
theorem lookup_cls {c : Str} {C : Addr} : ∀ {cs : List (Str × Addr)}, cs.lookup c = some C → (c, C) ∈ cs := by
  intro cs
  induction cs with
  | nil => intro h; cases h
  | cons p r ih =>
    intro h
    rw [List.lookup_cons] at h
    split at h
    · rename_i e
      cases h
      rw [beq_iff_eq.mp e]
      exact List.mem_cons_self
    · exact List.mem_cons_of_mem _ (ih h)
theorem lookup_some {c : Str} : ∀ {cs : List (Str × Addr)}, c ∈ cs.map (·.1) → ∃ C, cs.lookup c = some C := by
  intro cs
  induction cs with
  | nil => intro h; cases h
  | cons p r ih =>
    intro h
    rw [List.lookup_cons]
    by_cases e : c == p.1
    · rw [e]
      exact ⟨_, rfl⟩
    · rw [Bool.eq_false_iff.mpr e]
      rw [List.map_cons] at h
      rcases List.mem_cons.mp h with h | h
      · exact absurd (beq_iff_eq.mpr h) e
      · exact ih h
theorem XF_none {mg : Str → Option Value} {J : XI} {sub : Str → Str → Bool} (hs : ∀ c, sub c c = false) (hJ : ∀ c, J.cls c = none) : XF K mg J sub :=
  ⟨fun c h => (by rw [hs c] at h; cases h), fun c C h => (by rw [hJ c] at h; cases h), fun y _ h => (by obtain ⟨c, C, h⟩ := h; rw [hJ c] at h; cases h)⟩
theorem XF_mk {cs : List (Str × Addr)} {CB : Addr} {names : List Str} {h : Heap} {mg : Str → Option Value} (X : K.In h) (G : h.Ns mainGlobals mg) (hB : Ecl K "BreakError" CB) (hc : ∀ p ∈ cs, Ecl K p.1 p.2) (hx : ∀ p ∈ cs, lowB p.1 = false → PySem.W.excIn K p.2 veB "ValueError.__new__" = true)
    (hl : ∀ p ∈ cs, lowB p.1 = true → ∃ fI, PySem.LowX.LowTxt K mg p.2 fI) (hp : ∀ p ∈ cs, ∀ q ∈ cs, PySem.W.subIn K (.ref p.2) (.ref q.2) = some (p.1 == q.1)) (hpB : ∀ p ∈ cs, PySem.W.subIn K (.ref p.2) (.ref CB) = some true) (hpV : ∀ p ∈ cs, PySem.W.subIn K (.ref p.2) (.type "ValueError") = some true)
    (hve : mg "ValueError" = none) (hn : names = cs.map (·.1)) (hnb : ∀ p ∈ cs, p.1 ≠ "BreakError" ∧ p.1 ≠ "ValueError") : XF K mg ⟨fun c => cs.lookup c, "value"⟩ (subL names) := by
  subst hn
  have hnm : ∀ p ∈ cs, (cs.map (·.1)).contains p.1 = true := fun p hp => List.contains_iff_mem.mpr (List.mem_map.mpr ⟨p, hp, rfl⟩)
  refine ⟨fun c hcc => ?_, fun c C hC => ?_, fun y hy _ => ?_⟩
  · obtain ⟨h1, _⟩ := Bool.and_eq_true_iff.mp hcc
    exact lookup_some (List.contains_iff_mem.mp h1)
  · have hm := lookup_cls hC
    have e := hc _ hm
    exact ⟨rfl, PySem.W.mg_of X G e.g, ⟨e.hg, e.hk, e.hs, e.hd, e.ha, e.hn, e.ht, e.hm⟩, e.kp, e.ty, hx _ hm, hl _ hm⟩
  · by_cases hyB : y = "BreakError"
    · subst hyB
      refine ⟨.ref CB, .ref CB, .own CB, .inl (PySem.W.mg_of X G hB.g), fun c C hC => ?_⟩
      have hm := lookup_cls hC
      have e : subL (cs.map (·.1)) c "BreakError" = true := by
        unfold subL
        rw [hnm _ hm]
        simp
      rw [e]
      exact ⟨kit_ref hB.ic hB.ty (hpB _ hm) fun _ => rfl, exm_refD hB.ic hB.ty hB.hs (hpB _ hm)⟩
    · by_cases hyV : y = "ValueError"
      · subst hyV
        refine ⟨.ty "ValueError", .type "ValueError", .ty _, .inr ⟨hve, ve_boot, by decide⟩, fun c C hC => ?_⟩
        have hm := lookup_cls hC
        have e : subL (cs.map (·.1)) c "ValueError" = true := by
          unfold subL
          rw [hnm _ hm]
          simp
        rw [e]
        refine ⟨?_, ?_⟩
        · show (if (Value.ref C == Value.type "ValueError") = true then some true else (if PySem.W.kitMeta "ValueError" = true then PySem.W.subIn K (.ref C) (.type "ValueError") else none)) = some true
          rw [ve_meta, if_pos rfl, hpV _ hm]
          split <;> rfl
        · show (if (PySem.W.subIn K (.type "ValueError") (.type "BaseException") == some true) = true then (if PySem.W.kitMeta "ValueError" = true then PySem.W.subIn K (.ref C) (.type "ValueError") else none) else none) = some true
          rw [ve_base, if_pos (by rfl), ve_meta, if_pos rfl, hpV _ hm]
      · have hy2 : (cs.map (·.1)).contains y = true := by
          unfold okN subL at hy
          rw [beq_eq_false_iff_ne.mpr hyB, beq_eq_false_iff_ne.mpr hyV] at hy
          simp only [Bool.or_false] at hy
          exact (Bool.and_eq_true_iff.mp hy).1
        obtain ⟨Cy, hCy⟩ := lookup_some (List.contains_iff_mem.mp hy2)
        have hmy := lookup_cls hCy
        have ey := hc _ hmy
        refine ⟨.ref Cy, .ref Cy, .own Cy, .inl (PySem.W.mg_of X G ey.g), fun c C hC => ?_⟩
        have hm := lookup_cls hC
        have e : subL (cs.map (·.1)) c y = (c == y) := by
          unfold subL
          rw [hnm _ hm, beq_eq_false_iff_ne.mpr hyB, beq_eq_false_iff_ne.mpr hyV]
          simp
        rw [e]
        have hs := hp _ hm _ hmy
        refine ⟨kit_ref ey.ic ey.ty hs fun z => ?_, exm_refD ey.ic ey.ty ey.hs hs⟩
        subst z
        have := hp _ hm _ hm
        rw [this] at hs
        have h9 := Option.some.inj hs
        rw [← h9]
        exact beq_self_eq_true _
end PV
namespace PySem
namespace LowX
open PySem.W PySem.Calls PyProof.Rows PySem.HandSPX
/-- what the top says of BadTable, at C, and of its __init__, at fI, beside what it says of every class of errors -/
structure LowI (K : Frag) (C fI : Addr) : Prop where
  cls : ∃ nm q N bs bm sn sub ab col dd k0 k1 k2 k3 k5, K.lookup C = some (excClassObj nm q C N bs bm true sn sub ab col dd k0 k1 k2 k3 k5 "ValueError.__new__") ∧ refsVE bm = true
  sa : findIn K (.ref C) "__setattr__" = some (some (.builtin "object.__setattr__"))
  noN : findIn K (.ref C) "value" = some none
  iC : findIn K (.ref C) "__init__" = some (some (.ref fI))
  tC : typeIn K (.ref fI) = some (.type "function")
  fn : ∃ (oc : Value) (od : Option Addr) (doc pm : Value) (an : Option Addr) (cdv ct : Value) (osl : Array (Option Value)) (p1 p2 q1 q2 q3 q4 : Pos),
    K.lookup fI = some ⟨oc, od, .func (fnOf "__init__" "BadTable.__init__" (iA p1 p2) (iB q1 q2 q3 q4) iS .none .none doc pm an cdv ct), osl⟩ ∧ codeIn K cdv "BadTable.__init__" = true
theorem LowI.txt {K : Frag} {C fI : Addr} {mg : Str → Option Value} (T : LowI K C fI) (gC : mg "BadTable" = some (.ref C)) (hs : subIn K (.ref C) (.type "BaseException") = some true) (ty : typeIn K (.ref C) = some (.type "type")) (hd : hasDictIn K C = true)
    (kp : keepIn K (.ref C) = true) (ic : isClsIn K C = true) (hp : subIn K (.ref C) (.ref C) = some true) (hg : findIn K (.ref C) "__getattribute__" = some (some (.builtin "BaseException.__getattribute__"))) (hk : findIn K (.ref C) "__getattr__" = some none) : LowTxt K mg C fI :=
  ⟨gC, T.cls, T.sa, hg, hk, T.noN, T.iC, T.tC, kp, hs, ty, hd, PV.exm_refD ic ty hs hp, T.fn⟩
end LowX
end PySem
set_option Elab.async false
set_option linter.all false
set_option maxRecDepth 100000
set_option maxHeartbeats 2000000
/-! PV, seventeenth part: reckoning with the evaluator. -/
namespace PV
open PySem PySem.Spec PyProof.Rows L2
section
variable {S α β : Type} {s : S}
@[simp] theorem bind_ap (m : M S α) (f : α → M S β) (s : S) : (m >>= f) s = (m s).bind fun a s' => f a s' := rfl
@[simp] theorem pure_ap (a : α) (s : S) : (pure a : M S α) s = .ok a s := rfl
@[simp] theorem bad_ap (s : S) : (bad : M S α) s = .bad := rfl
@[simp] theorem bind_ok1 (a : α) (f : α → S → R S β) : (R.ok a s).bind f = f a s := rfl
@[simp] theorem bind_bad1 (f : α → S → R S β) : (R.bad : R S α).bind f = .bad := rfl
@[simp] theorem ofO_some (a : α) (s : S) : (ofO (some a) : M S α) s = .ok a s := rfl
@[simp] theorem onE_ok (a : α) (env : PV.Env) (k : α → S → RS S) : onE (.ok a s) env k = k a s := rfl
@[simp] theorem onO_some (a : α) (k : α → RS S) : onO (some a) k = k a := rfl
@[simp] theorem noX_ok1 {m : M S α} {a : α} {s s' : S} (h : m s = .ok a s') : noX m s = .ok a s' := by
  unfold noX
  rw [h]
variable {T : Tbl S} {G : Gls} {sub : Str → Str → Bool} {F : Nat}
/-- a comprehension whose turns only look -/
theorem filtM_map {f : α → M S (Option β)} {g : α → Option β} : ∀ {items : List α} {s : S}, (∀ x ∈ items, f x s = .ok (g x) s) → filtM f items s = .ok (items.filterMap g) s := by
  intro items
  induction items with
  | nil => exact fun _ => rfl
  | cons x r ih =>
    intro s h
    show (f x s).bind (fun y s' => (filtM f r s').bind fun ys s'' => .ok (pushO y ys) s'') = _
    rw [h x List.mem_cons_self, bind_ok1, ih fun y hy => h y (List.mem_cons_of_mem _ hy), bind_ok1, List.filterMap_cons]
    cases g x <;> rfl
theorem filtM_mapm {γ : Type} {f : α → M S (Option β)} {u : γ → α} {g : γ → β} {items : List γ} {s : S} (h : ∀ x ∈ items, f (u x) s = .ok (some (g x)) s) : filtM f (items.map u) s = .ok (items.map g) s := by
  induction items with
  | nil => rfl
  | cons x r ih =>
    show (f (u x) s).bind (fun y s' => (filtM f (r.map u) s').bind fun ys s'' => .ok (pushO y ys) s'') = _
    rw [h x List.mem_cons_self, bind_ok1, ih fun y hy => h y (List.mem_cons_of_mem _ hy)]
    rfl
theorem flatM_mapm {γ : Type} {f : α → M S (List β)} {u : γ → α} {g : γ → List β} {items : List γ} {s : S} (h : ∀ x ∈ items, f (u x) s = .ok (g x) s) : flatM f (items.map u) s = .ok (items.flatMap g) s := by
  induction items with
  | nil => rfl
  | cons x r ih =>
    show (f (u x) s).bind (fun ys s' => (flatM f (r.map u) s').bind fun zs s'' => .ok (ys ++ zs) s'') = _
    rw [h x List.mem_cons_self]
    show (flatM f (r.map u) s).bind (fun zs s'' => .ok (g x ++ zs) s'') = _
    rw [ih fun y hy => h y (List.mem_cons_of_mem _ hy)]
    rfl
theorem filtM_filter {f : PyData → M S (Option PyData)} {p : Int → Bool} {L : List Int} {s : S} (h : ∀ x ∈ L, f (.int x) s = .ok (if p x then some (.int x) else none) s) : filtM f (L.map .int) s = .ok ((L.filter p).map .int) s := by
  induction L with
  | nil => rfl
  | cons x r ih =>
    show (f (.int x) s).bind (fun y s' => (filtM f (r.map .int) s').bind fun ys s'' => .ok (pushO y ys) s'') = _
    rw [h x List.mem_cons_self, bind_ok1, ih fun y hy => h y (List.mem_cons_of_mem _ hy), bind_ok1, List.filter_cons]
    cases p x <;> rfl
theorem lenE_ap {ds : List PyData} (h : ds.length ≤ 16777216) : (lenE ds : M S PUnit) s = .ok ⟨⟩ s := by
  unfold lenE
  rw [if_pos (show ds.length ≤ sizeLine from h)]
  rfl
/-- a loop, turn by turn -/
theorem loop_cons {tg : Tg} {body : PV.Env → S → RS S} {d : PyData} {r : List PyData} {env env1 : PV.Env} (h : setTg tg d env = some env1) : loopS tg body (d :: r) env s = againS (body env1 s) (loopS tg body r) := by
  show onO (setTg tg d env) _ = _
  rw [h]
  rfl
end
end PV
namespace PV
open PySem PySem.Spec PyProof.Rows L2
theorem boolsD_map {α : Type} (f : α → Bool) : ∀ xs : List α, boolsD (xs.map fun x => .bool (f x)) = some (xs.map f)
  | [] => rfl
  | x :: r => by
    show (boolsD (r.map fun x => .bool (f x))).map (f x :: ·) = _
    rw [boolsD_map f r]
    rfl
theorem intsD_map {α : Type} (f : α → Int) : ∀ xs : List α, intsD (xs.map fun x => .int (f x)) = some (xs.map f)
  | [] => rfl
  | x :: r => by
    show (intsD (r.map fun x => .int (f x))).map (f x :: ·) = _
    rw [intsD_map f r]
    rfl
theorem srcD_rng1 (n : Nat) (h : n ≤ 16777216) : srcD .rng1 [.int (n : Int)] = some (rngD 0 n) := by
  show (if ((n : Int) ≤ 16777216 ∧ -4611686018427387904 ≤ (n : Int)) then some (rngD 0 (n : Int).toNat) else none) = _
  rw [if_pos ⟨by omega, by omega⟩]
  rfl
theorem srcD_rng2 (a n : Int) (ha : 0 ≤ a) (h : a ≤ 16777216) (hn : n ≤ 16777216) (hn0 : 0 ≤ n) : srcD .rng2 [.int a, .int n] = some (rngD a (n - a).toNat) := by
  show (if (-4611686018427387904 ≤ a ∧ a < 4611686018427387904) ∧ (-4611686018427387904 ≤ n ∧ n < 4611686018427387904) ∧ n - a ≤ 16777216 then some (rngD a (n - a).toNat) else none) = _
  rw [if_pos ⟨by omega, by omega, by omega⟩]
@[simp] theorem shaped_int (i : Int) : SeqAt.shaped (.int i) = true := rfl
@[simp] theorem shaped_bl (i : Bool) : SeqAt.shaped (.bool i) = true := rfl
@[simp] theorem shaped_non : SeqAt.shaped .none = true := rfl
@[simp] theorem eqv_int (i j : Int) : PyData.eqv (.int i) (.int j) = (i == j) := rfl
theorem smallI_of {i : Int} (h : -1000000000000000000 < i ∧ i < 1000000000000000000) : smallI i = true := by
  unfold smallI
  exact decide_eq_true (by omega)
theorem mulOk_r {i j : Int} (h : -1000000000000000000 < j ∧ j < 1000000000000000000) : mulOk i j = true := by
  unfold mulOk
  rw [smallI_of h, Bool.or_true, Bool.true_or]
theorem mulOk_l {i j : Int} (h : -1000000000000000000 < i ∧ i < 1000000000000000000) : mulOk i j = true := by
  unfold mulOk
  rw [smallI_of h, Bool.true_or, Bool.true_or]
end PV
set_option Elab.async false
set_option linter.all false
set_option maxRecDepth 100000
set_option maxHeartbeats 2000000
/-! PV, eighteenth part: the evaluator's equations, one a construct. -/
namespace PV
open PySem PySem.Spec PyProof.Rows L2
section
variable {S : Type} {s : S} {T : Tbl S} {G : Gls} {sub : Str → Str → Bool} {F : Nat} {env : PV.Env} {a b c : Ex}
def ofR {α : Type} (o : Option α) (s : S) : R S α := match o with
  | some a => .ok a s
  | none => .bad
@[simp] theorem ofR_some {α : Type} {x : α} : ofR (some x) s = .ok x s := (rfl)
theorem ofO_ofR {α : Type} {o : Option α} : (ofO o : M S α) s = ofR o s := by cases o <;> rfl
/-- a slot's data -/
def slV (x : Option Sl) (s : S) : R S PyData := match x with
  | some (.v d) => .ok d s
  | _ => .bad
def slR (x : Option Sl) (s : S) : R S PyData := match x with
  | some (.v d) => .ok d s
  | some (.own ds) => .ok (.list ds) s
  | _ => .bad
def slA (x : Option Sl) (s : S) : R S AV := match x with
  | some (.v d) => .ok (.d d) s
  | some .hand => .ok .h s
  | _ => .bad
@[simp] theorem slV_v {d : PyData} : slV (some (.v d)) s = .ok d s := (rfl)
@[simp] theorem slR_v {d : PyData} : slR (some (.v d)) s = .ok d s := (rfl)
@[simp] theorem slR_own {d : List PyData} : slR (some (.own d)) s = .ok (.list d) s := (rfl)
@[simp] theorem slA_v {d : PyData} : slA (some (.v d)) s = .ok (.d d) s := (rfl)
@[simp] theorem slA_h : slA (some .hand) s = .ok .h s := (rfl)
/-- a value that is only read, at a state -/
def rdS (T : Tbl S) (G : Gls) (a : Ex) (env : PV.Env) (s : S) : R S PyData := rdE a env (evE T G a env) s
def arS (T : Tbl S) (G : Gls) (a : Ex) (env : PV.Env) (s : S) : R S AV := argE a env (evE T G a env) s
@[simp] theorem rdS_var {i : Nat} : rdS T G (.var i) env s = slR env[i]? s := by
  unfold rdS rdE slR
  dsimp only
  split <;> simp_all
@[simp] theorem arS_var {i : Nat} : arS T G (.var i) env s = slA env[i]? s := by
  unfold arS argE slA
  dsimp only
  split <;> simp_all
def notVar : Ex → Bool
  | .var _ => false
  | _ => true
theorem rdS_of (h : notVar a = true) : rdS T G a env s = evE T G a env s := by
  cases a <;> first
    | rfl
    | (simp [notVar] at h)
theorem arS_of (h : notVar a = true) : arS T G a env s = (evE T G a env s).bind fun d s' => .ok (.d d) s' := by
  cases a <;> first
    | rfl
    | (simp [notVar] at h)
@[simp] theorem rdS_con {x : Sc} : rdS T G (.con x) env s = evE T G (.con x) env s := rdS_of rfl
@[simp] theorem arS_con {x : Sc} : arS T G (.con x) env s = (evE T G (.con x) env s).bind fun d s1 => .ok (.d d) s1 := arS_of rfl
@[simp] theorem rdS_glob {x : Str} : rdS T G (.glob x) env s = evE T G (.glob x) env s := rdS_of rfl
@[simp] theorem arS_glob {x : Str} : arS T G (.glob x) env s = (evE T G (.glob x) env s).bind fun d s1 => .ok (.d d) s1 := arS_of rfl
@[simp] theorem rdS_bop {o : Bop} {u v : Ex} : rdS T G (.bop o u v) env s = evE T G (.bop o u v) env s := rdS_of rfl
@[simp] theorem arS_bop {o : Bop} {u v : Ex} : arS T G (.bop o u v) env s = (evE T G (.bop o u v) env s).bind fun d s1 => .ok (.d d) s1 := arS_of rfl
@[simp] theorem rdS_neg {u : Ex} : rdS T G (.neg u) env s = evE T G (.neg u) env s := rdS_of rfl
@[simp] theorem arS_neg {u : Ex} : arS T G (.neg u) env s = (evE T G (.neg u) env s).bind fun d s1 => .ok (.d d) s1 := arS_of rfl
@[simp] theorem rdS_cmp {o : Cop} {u v : Ex} : rdS T G (.cmp o u v) env s = evE T G (.cmp o u v) env s := rdS_of rfl
@[simp] theorem arS_cmp {o : Cop} {u v : Ex} : arS T G (.cmp o u v) env s = (evE T G (.cmp o u v) env s).bind fun d s1 => .ok (.d d) s1 := arS_of rfl
@[simp] theorem rdS_chain {o p : Cop} {u v w : Ex} : rdS T G (.chain o p u v w) env s = evE T G (.chain o p u v w) env s := rdS_of rfl
@[simp] theorem arS_chain {o p : Cop} {u v w : Ex} : arS T G (.chain o p u v w) env s = (evE T G (.chain o p u v w) env s).bind fun d s1 => .ok (.d d) s1 := arS_of rfl
@[simp] theorem rdS_and {u v : Ex} : rdS T G (.and u v) env s = evE T G (.and u v) env s := rdS_of rfl
@[simp] theorem arS_and {u v : Ex} : arS T G (.and u v) env s = (evE T G (.and u v) env s).bind fun d s1 => .ok (.d d) s1 := arS_of rfl
@[simp] theorem rdS_or {u v : Ex} : rdS T G (.or u v) env s = evE T G (.or u v) env s := rdS_of rfl
@[simp] theorem arS_or {u v : Ex} : arS T G (.or u v) env s = (evE T G (.or u v) env s).bind fun d s1 => .ok (.d d) s1 := arS_of rfl
@[simp] theorem rdS_not {u : Ex} : rdS T G (.not u) env s = evE T G (.not u) env s := rdS_of rfl
@[simp] theorem arS_not {u : Ex} : arS T G (.not u) env s = (evE T G (.not u) env s).bind fun d s1 => .ok (.d d) s1 := arS_of rfl
@[simp] theorem rdS_ite {t : Tx} {u v : Ex} : rdS T G (.ite t u v) env s = evE T G (.ite t u v) env s := rdS_of rfl
@[simp] theorem arS_ite {t : Tx} {u v : Ex} : arS T G (.ite t u v) env s = (evE T G (.ite t u v) env s).bind fun d s1 => .ok (.d d) s1 := arS_of rfl
@[simp] theorem rdS_idx {u v : Ex} : rdS T G (.idx u v) env s = evE T G (.idx u v) env s := rdS_of rfl
@[simp] theorem arS_idx {u v : Ex} : arS T G (.idx u v) env s = (evE T G (.idx u v) env s).bind fun d s1 => .ok (.d d) s1 := arS_of rfl
@[simp] theorem rdS_slc {u : Ex} {v w : Option Ex} : rdS T G (.slc u v w) env s = evE T G (.slc u v w) env s := rdS_of rfl
@[simp] theorem arS_slc {u : Ex} {v w : Option Ex} : arS T G (.slc u v w) env s = (evE T G (.slc u v w) env s).bind fun d s1 => .ok (.d d) s1 := arS_of rfl
@[simp] theorem rdS_tup {us : List Ex} : rdS T G (.tup us) env s = evE T G (.tup us) env s := rdS_of rfl
@[simp] theorem arS_tup {us : List Ex} : arS T G (.tup us) env s = (evE T G (.tup us) env s).bind fun d s1 => .ok (.d d) s1 := arS_of rfl
@[simp] theorem rdS_lst {us : List Ex} : rdS T G (.lst us) env s = evE T G (.lst us) env s := rdS_of rfl
@[simp] theorem arS_lst {us : List Ex} : arS T G (.lst us) env s = (evE T G (.lst us) env s).bind fun d s1 => .ok (.d d) s1 := arS_of rfl
@[simp] theorem rdS_call {f : Str} {us : List Ex} : rdS T G (.call f us) env s = evE T G (.call f us) env s := rdS_of rfl
@[simp] theorem arS_call {f : Str} {us : List Ex} : arS T G (.call f us) env s = (evE T G (.call f us) env s).bind fun d s1 => .ok (.d d) s1 := arS_of rfl
@[simp] theorem rdS_prim {p : Prim} {us : List Ex} : rdS T G (.prim p us) env s = evE T G (.prim p us) env s := rdS_of rfl
@[simp] theorem arS_prim {p : Prim} {us : List Ex} : arS T G (.prim p us) env s = (evE T G (.prim p us) env s).bind fun d s1 => .ok (.d d) s1 := arS_of rfl
@[simp] theorem rdS_meth {m : Mth} {u : Ex} {us : List Ex} : rdS T G (.meth m u us) env s = evE T G (.meth m u us) env s := rdS_of rfl
@[simp] theorem arS_meth {m : Mth} {u : Ex} {us : List Ex} : arS T G (.meth m u us) env s = (evE T G (.meth m u us) env s).bind fun d s1 => .ok (.d d) s1 := arS_of rfl
@[simp] theorem rdS_trng {u : Ex} : rdS T G (.trng u) env s = evE T G (.trng u) env s := rdS_of rfl
@[simp] theorem rdS_stp {u : Ex} {v : Option Ex} {k : Nat} : rdS T G (.stp u v k) env s = evE T G (.stp u v k) env s := rdS_of rfl
@[simp] theorem arS_stp {u : Ex} {v : Option Ex} {k : Nat} : arS T G (.stp u v k) env s = (evE T G (.stp u v k) env s).bind fun d s1 => .ok (.d d) s1 := arS_of rfl
@[simp] theorem rdS_fus {k : Fu} {u : Ex} : rdS T G (.fus k u) env s = evE T G (.fus k u) env s := rdS_of rfl
@[simp] theorem arS_fus {k : Fu} {u : Ex} : arS T G (.fus k u) env s = (evE T G (.fus k u) env s).bind fun d s1 => .ok (.d d) s1 := arS_of rfl
@[simp] theorem arS_trng {u : Ex} : arS T G (.trng u) env s = (evE T G (.trng u) env s).bind fun d s1 => .ok (.d d) s1 := arS_of rfl
@[simp] theorem rdS_comp {e : Ex} {tg : Tg} {k : SrcK} {us : List Ex} {ts : List Tx} {is : List Nat} : rdS T G (.comp e tg k us ts is) env s = evE T G (.comp e tg k us ts is) env s := rdS_of rfl
@[simp] theorem arS_comp {e : Ex} {tg : Tg} {k : SrcK} {us : List Ex} {ts : List Tx} {is : List Nat} : arS T G (.comp e tg k us ts is) env s = (evE T G (.comp e tg k us ts is) env s).bind fun d s1 => .ok (.d d) s1 := arS_of rfl
@[simp] theorem rdS_comp2 {e : Ex} {tg tg2 : Tg} {k k2 : SrcK} {us us2 : List Ex} {ts : List Tx} {is is2 : List Nat} : rdS T G (.comp2 e tg k us tg2 k2 us2 ts is is2) env s = evE T G (.comp2 e tg k us tg2 k2 us2 ts is is2) env s := rdS_of rfl
@[simp] theorem arS_comp2 {e : Ex} {tg tg2 : Tg} {k k2 : SrcK} {us us2 : List Ex} {ts : List Tx} {is is2 : List Nat} : arS T G (.comp2 e tg k us tg2 k2 us2 ts is is2) env s = (evE T G (.comp2 e tg k us tg2 k2 us2 ts is is2) env s).bind fun d s1 => .ok (.d d) s1 := arS_of rfl
@[simp] theorem rdS_comp3 {e : Ex} {tg tg2 tg3 : Tg} {k k2 k3 : SrcK} {us us2 us3 : List Ex} {is is2 is3 : List Nat} : rdS T G (.comp3 e tg k us tg2 k2 us2 tg3 k3 us3 is is2 is3) env s = evE T G (.comp3 e tg k us tg2 k2 us2 tg3 k3 us3 is is2 is3) env s := rdS_of rfl
@[simp] theorem arS_comp3 {e : Ex} {tg tg2 tg3 : Tg} {k k2 k3 : SrcK} {us us2 us3 : List Ex} {is is2 is3 : List Nat} : arS T G (.comp3 e tg k us tg2 k2 us2 tg3 k3 us3 is is2 is3) env s = (evE T G (.comp3 e tg k us tg2 k2 us2 tg3 k3 us3 is is2 is3) env s).bind fun d s1 => .ok (.d d) s1 := arS_of rfl
@[simp] theorem evE_var {i : Nat} : evE T G (.var i) env s = slV env[i]? s := by
  unfold evE slV
  generalize env[i]? = x
  cases x with
  | none => rfl
  | some x => cases x <;> rfl
@[simp] theorem evE_con {x : Sc} : evE T G (.con x) env s = .ok x.d s := by
  unfold evE
  rfl
@[simp] theorem evE_glob {x : Str} : evE T G (.glob x) env s = ofR (G x) s := by
  unfold evE
  exact ofO_ofR
@[simp] theorem evE_bop {o : Bop} : evE T G (.bop o a b) env s = (rdS T G a env s).bind fun x s1 => (rdS T G b env s1).bind fun y s2 => ofR (bopD o x y) s2 := by
  unfold evE
  simp only [bind_ap, ofO_ofR]
  rfl
def negR (x : PyData) (s : S) : R S PyData := match x with
  | .int i => .ok (.int (-i)) s
  | _ => .bad
@[simp] theorem negR_int {i : Int} : negR (.int i) s = .ok (.int (-i)) s := (rfl)
@[simp] theorem evE_neg : evE T G (.neg a) env s = (rdS T G a env s).bind fun x s1 => negR x s1 := by
  unfold evE
  simp only [bind_ap]
  unfold rdS
  congr 1
  funext x s1
  cases x <;> rfl
@[simp] theorem evE_cmp {o : Cop} : evE T G (.cmp o a b) env s = (rdS T G a env s).bind fun x s1 => (rdS T G b env s1).bind fun y s2 => ofR (cmpD o x y) s2 := by
  unfold evE
  simp only [bind_ap, ofO_ofR]
  rfl
def chR (o : Option Bool) (k : S → R S PyData) (s : S) : R S PyData := match o with
  | some true => k s
  | some false => .ok (.bool false) s
  | none => .bad
@[simp] theorem chR_t {k : S → R S PyData} : chR (some true) k s = k s := (rfl)
@[simp] theorem chR_f {k : S → R S PyData} : chR (some false) k s = .ok (.bool false) s := (rfl)
@[simp] theorem evE_chain {o p : Cop} : evE T G (.chain o p a b c) env s = (rdS T G a env s).bind fun x s1 => (rdS T G b env s1).bind fun y s2 => chR (cmpB o x y) (fun s2 => (rdS T G c env s2).bind fun z s3 => ofR (cmpD p y z) s3) s2 := by
  unfold evE
  simp only [bind_ap]
  unfold rdS
  congr 1
  funext x s1
  congr 1
  funext y s2
  cases cmpB o x y with
  | none => rfl
  | some q =>
    cases q
    · rfl
    · simp only [bind_ap, ofO_ofR]
      rfl
/-- and, or, not, a test: by a bool -/
def blR {α : Type} (x : PyData) (t f : S → R S α) (s : S) : R S α := match x with
  | .bool true => t s
  | .bool false => f s
  | _ => .bad
@[simp] theorem blR_t {α : Type} {t f : S → R S α} : blR (.bool true) t f s = t s := (rfl)
@[simp] theorem blR_f {α : Type} {t f : S → R S α} : blR (.bool false) t f s = f s := (rfl)
@[simp] theorem evE_and : evE T G (.and a b) env s = (evE T G a env s).bind fun x s1 => blR x (fun s1 => evE T G b env s1) (fun s1 => .ok (.bool false) s1) s1 := by
  conv => lhs; unfold evE
  simp only [bind_ap]
  congr 1
  funext x s1
  cases x <;> try rfl
  rename_i q
  cases q <;> rfl
@[simp] theorem evE_or : evE T G (.or a b) env s = (evE T G a env s).bind fun x s1 => blR x (fun s1 => .ok (.bool true) s1) (fun s1 => evE T G b env s1) s1 := by
  conv => lhs; unfold evE
  simp only [bind_ap]
  congr 1
  funext x s1
  cases x <;> try rfl
  rename_i q
  cases q <;> rfl
@[simp] theorem evE_not : evE T G (.not a) env s = (evE T G a env s).bind fun x s1 => blR x (fun s1 => .ok (.bool false) s1) (fun s1 => .ok (.bool true) s1) s1 := by
  conv => lhs; unfold evE
  simp only [bind_ap]
  congr 1
  funext x s1
  cases x <;> try rfl
  rename_i q
  cases q <;> rfl
def ifR {α : Type} (x : Bool) (t f : S → R S α) (s : S) : R S α := match x with
  | true => t s
  | false => f s
@[simp] theorem ifR_t {α : Type} {t f : S → R S α} : ifR true t f s = t s := (rfl)
@[simp] theorem ifR_f {α : Type} {t f : S → R S α} : ifR false t f s = f s := (rfl)
@[simp] theorem evE_ite {t : Tx} : evE T G (.ite t a b) env s = (evT T G t env s).bind fun x s1 => ifR x (fun s1 => evE T G a env s1) (fun s1 => evE T G b env s1) s1 := by
  conv => lhs; unfold evE
  simp only [bind_ap]
  congr 1
  funext x s1
  cases x <;> rfl
@[simp] theorem evE_idx : evE T G (.idx a b) env s = (rdS T G a env s).bind fun x s1 => (rdS T G b env s1).bind fun y s2 => ofR (idxD x y) s2 := by
  unfold evE
  simp only [bind_ap, ofO_ofR]
  rfl
@[simp] theorem evE_slc {lo hi : Option Ex} : evE T G (.slc a lo hi) env s = (rdS T G a env s).bind fun x s1 => (evO T G lo env s1).bind fun l s2 => (evO T G hi env s2).bind fun h s3 => ofR (slcD x l h) s3 := by
  unfold evE
  simp only [bind_ap, ofO_ofR]
  rfl
def lenR (ds : List PyData) (d : PyData) (s : S) : R S PyData := if ds.length ≤ 16777216 then .ok d s else .bad
theorem lenR_ok {ds : List PyData} {d : PyData} (h : ds.length ≤ 16777216) : lenR ds d s = .ok d s := if_pos h
@[simp] theorem lenR_0 {d : PyData} : lenR [] d s = .ok d s := lenR_ok (by simp)
@[simp] theorem lenR_1 {x d : PyData} : lenR [x] d s = .ok d s := lenR_ok (by simp)
@[simp] theorem lenR_2 {x y d : PyData} : lenR [x, y] d s = .ok d s := lenR_ok (by simp)
@[simp] theorem lenR_3 {x y z d : PyData} : lenR [x, y, z] d s = .ok d s := lenR_ok (by simp)
@[simp] theorem lenR_4 {x y z w d : PyData} : lenR [x, y, z, w] d s = .ok d s := lenR_ok (by simp)
theorem lenE_ofR {ds : List PyData} {d : PyData} : ((lenE ds : M S PUnit) s).bind (fun _ s1 => .ok d s1) = lenR ds d s := by
  unfold lenE lenR
  by_cases h : ds.length ≤ sizeLine
  · rw [if_pos h, if_pos (show ds.length ≤ 16777216 from h)]
    rfl
  · rw [if_neg h, if_neg (show ¬ ds.length ≤ 16777216 from h)]
    rfl
@[simp] theorem evE_tup {es : List Ex} : evE T G (.tup es) env s = (evEs T G es env s).bind fun ds s1 => lenR ds (.tuple ds) s1 := by
  unfold evE
  simp only [bind_ap, pure_ap, lenE_ofR]
@[simp] theorem evE_lst {es : List Ex} : evE T G (.lst es) env s = (evEs T G es env s).bind fun ds s1 => lenR ds (.list ds) s1 := by
  unfold evE
  simp only [bind_ap, pure_ap, lenE_ofR]
def caR (F : Option (List AV → M S PyData)) (m : S → R S (List AV)) (s : S) : R S PyData := match F with
  | some F => (m s).bind fun avs s1 => F avs s1
  | none => .bad
@[simp] theorem caR_some {F : List AV → M S PyData} {m : S → R S (List AV)} : caR (some F) m s = (m s).bind fun avs s1 => F avs s1 := (rfl)
@[simp] theorem evE_call {f : Str} {es : List Ex} : evE T G (.call f es) env s = caR (T f) (fun s => evAs T G es env s) s := by
  unfold evE caR
  cases T f <;> rfl
@[simp] theorem evE_prim {p : Prim} {es : List Ex} : evE T G (.prim p es) env s = (evRs T G es env s).bind fun ds s1 => ofR (primD p ds) s1 := by
  unfold evE
  simp only [bind_ap, ofO_ofR]
@[simp] theorem evE_meth {m : Mth} {es : List Ex} : evE T G (.meth m a es) env s = (rdS T G a env s).bind fun x s1 => ifR (seqD x) (fun s1 => (evRs T G es env s1).bind fun ds s2 => ofR (methD m x ds) s2) (fun _ => .bad) s1 := by
  unfold evE
  simp only [bind_ap]
  unfold rdS
  congr 1
  funext x s1
  cases seqD x
  · rfl
  · simp only [bind_ap, ofO_ofR]
    rfl
@[simp] theorem evE_trng {u : Ex} : evE T G (.trng u) env s = (rdS T G u env s).bind fun x s1 => (ofR (srcD .rng1 [x]) s1).bind fun ds s2 => .ok (.tuple ds) s2 := by
  unfold evE
  simp only [bind_ap, ofO_ofR]
  rfl
@[simp] theorem evE_stp {u : Ex} {v : Option Ex} {k : Nat} : evE T G (.stp u v k) env s = (rdS T G u env s).bind fun x s1 => (evO T G v env s1).bind fun l s2 => ofR (stpD x l k) s2 := by
  unfold evE
  simp only [bind_ap, ofO_ofR]
  rfl
@[simp] theorem evE_fus {k : Fu} {u : Ex} : evE T G (.fus k u) env s = (rdS T G u env s).bind fun x s1 => ofR (fusD k x) s1 := by
  unfold evE
  simp only [bind_ap, ofO_ofR]
  rfl
theorem ev_comp {e : Ex} {tg : Tg} {k : SrcK} {us : List Ex} {ts : List Tx} {is : List Nat} {ds items out : List PyData} {s1 s2 : S} (h1 : evRs T G us env s = .ok ds s1) (h2 : srcD k ds = some items) (hl : items.length ≤ 16777216)
    (h3 : filtM (turnM tg is (evTs T G ts) (evE T G e) env) items s1 = .ok out s2) : evE T G (.comp e tg k us ts is) env s = .ok (.list out) s2 := by
  have hk : ∀ m : M S (List PyData), rvE k us env m = m := fun m => by
    cases k <;> first
      | rfl
      | cases h2
  unfold evE
  simp only [hk, bind_ap, h1, bind_ok1, h2, ofO_some, lenE_ap hl, noX_ok1 h3, pure_ap]
/-- over a range object under a name -/
theorem ev_compR {e : Ex} {tg : Tg} {i : Nat} {n : Int} {ts : List Tx} {is : List Nat} {items out : List PyData} {s2 : S} (he : env[i]? = some (.rng n)) (h2 : srcD .rng1 [.int n] = some items) (hl : items.length ≤ 16777216)
    (h3 : filtM (turnM tg is (evTs T G ts) (evE T G e) env) items s = .ok out s2) : evE T G (.comp e tg .rv [.var i] ts is) env s = .ok (.list out) s2 := by
  unfold evE
  simp only [rvE, he, bind_ap, h2, ofO_some, pure_ap, bind_ok1, lenE_ap hl, noX_ok1 h3]
theorem ev_comp2 {e : Ex} {tg tg2 : Tg} {k k2 : SrcK} {us us2 : List Ex} {ts : List Tx} {is is2 : List Nat} {ds items out : List PyData} {s1 s2 : S} (hn : noOwn env = true) (h1 : evRs T G us env s = .ok ds s1) (h2 : srcD k ds = some items)
    (h3 : flatM (turn2 tg is (fun env1 => do let ds ← evEs T G us2 env1; ofO (srcD k2 ds)) tg2 is2 (evTs T G ts) (evE T G e) env) items s1 = .ok out s2) (hl : out.length ≤ 16777216) : evE T G (.comp2 e tg k us tg2 k2 us2 ts is is2) env s = .ok (.list out) s2 := by
  have hk : ∀ m : M S (List PyData), rvE k us env m = m := fun m => by
    cases k <;> first
      | rfl
      | cases h2
  unfold evE
  rw [hn]
  simp only [hk, bind_ap, h1, bind_ok1, h2, ofO_some, noX_ok1 h3, lenE_ap hl, pure_ap]
theorem turn2_ok {e : Ex} {tg tg2 : Tg} {k2 : SrcK} {us2 : List Ex} {ts : List Tx} {is is2 : List Nat} {item : PyData} {env1 : Env} {ds items out : List PyData} {s1 s2 : S} (h1 : setTg' tg is env item = some env1) (h2 : evEs T G us2 env1 s = .ok ds s1) (h3 : srcD k2 ds = some items)
    (h4 : filtM (turnM tg2 is2 (evTs T G ts) (evE T G e) env1) items s1 = .ok out s2) : turn2 tg is (fun env1 => do let ds ← evEs T G us2 env1; ofO (srcD k2 ds)) tg2 is2 (evTs T G ts) (evE T G e) env item s = .ok out s2 := by
  unfold turn2
  simp only [bind_ap, h1, ofO_some, pure_ap, bind_ok1, h2, h3, h4]
theorem ev_comp3 {e : Ex} {tg tg2 tg3 : Tg} {k k2 k3 : SrcK} {us us2 us3 : List Ex} {is is2 is3 : List Nat} {ds items out : List PyData} {s1 s2 : S} (hn : noOwn env = true) (h1 : evRs T G us env s = .ok ds s1) (h2 : srcD k ds = some items)
    (h3 : flatM (turn3 tg is (fun env1 => do let ds ← evEs T G us2 env1; ofO (srcD k2 ds)) tg2 is2 (fun env2 => do let ds ← evEs T G us3 env2; ofO (srcD k3 ds)) tg3 is3 (evE T G e) env) items s1 = .ok out s2) (hl : out.length ≤ 16777216) :
    evE T G (.comp3 e tg k us tg2 k2 us2 tg3 k3 us3 is is2 is3) env s = .ok (.list out) s2 := by
  have hk : ∀ m : M S (List PyData), rvE k us env m = m := fun m => by
    cases k <;> first
      | rfl
      | cases h2
  unfold evE
  rw [hn]
  simp only [hk, bind_ap, h1, bind_ok1, h2, ofO_some, noX_ok1 h3, lenE_ap hl, pure_ap]
theorem turn3_ok {e : Ex} {tg tg2 tg3 : Tg} {k2 : SrcK} {us2 : List Ex} {ms3 : Env → M S (List PyData)} {is is2 is3 : List Nat} {item : PyData} {env1 : Env} {ds items out : List PyData} {s1 s2 : S} (h1 : setTg' tg is env item = some env1) (h2 : evEs T G us2 env1 s = .ok ds s1) (h3 : srcD k2 ds = some items)
    (h4 : flatM (turn2 tg2 is2 ms3 tg3 is3 (fun _ => pure true) (evE T G e) env1) items s1 = .ok out s2) : turn3 tg is (fun env1 => do let ds ← evEs T G us2 env1; ofO (srcD k2 ds)) tg2 is2 ms3 tg3 is3 (evE T G e) env item s = .ok out s2 := by
  unfold turn3
  simp only [bind_ap, h1, ofO_some, pure_ap, bind_ok1, h2, h3, h4]
@[simp] theorem evT_and {t u : Tx} : evT T G (.and t u) env s = (evT T G t env s).bind fun x s1 => ifR x (fun s1 => evT T G u env s1) (fun s1 => .ok false s1) s1 := by
  conv => lhs; unfold evT
  simp only [bind_ap]
  congr 1
  funext x s1
  cases x <;> rfl
@[simp] theorem evT_or {t u : Tx} : evT T G (.or t u) env s = (evT T G t env s).bind fun x s1 => ifR x (fun s1 => .ok true s1) (fun s1 => evT T G u env s1) s1 := by
  conv => lhs; unfold evT
  simp only [bind_ap]
  congr 1
  funext x s1
  cases x <;> rfl
@[simp] theorem evT_not {t : Tx} : evT T G (.not t) env s = (evT T G t env s).bind fun x s1 => .ok (!x) s1 := by
  conv => lhs; unfold evT
  simp only [bind_ap]
  rfl
@[simp] theorem evT_e : evT T G (.e a) env s = (rdS T G a env s).bind fun x s1 => ofR (truth x) s1 := by
  unfold evT
  simp only [bind_ap, ofO_ofR]
  rfl
@[simp] theorem evO_none : evO T G none env s = .ok none s := by
  unfold evO
  rfl
def intR (x : PyData) (s : S) : R S (Option Int) := match x with
  | .int i => .ok (some i) s
  | _ => .bad
@[simp] theorem intR_int {i : Int} : intR (.int i) s = .ok (some i) s := (rfl)
@[simp] theorem evO_some : evO T G (some a) env s = (rdS T G a env s).bind fun x s1 => intR x s1 := by
  unfold evO
  simp only [bind_ap]
  unfold rdS
  congr 1
  funext x s1
  cases x <;> rfl
@[simp] theorem evEs_nil : evEs T G [] env s = .ok [] s := by
  unfold evEs
  rfl
@[simp] theorem evEs_cons {r : List Ex} : evEs T G (a :: r) env s = (evE T G a env s).bind fun x s1 => (evEs T G r env s1).bind fun xs s2 => .ok (x :: xs) s2 := by
  conv => lhs; unfold evEs
  simp only [bind_ap, pure_ap]
@[simp] theorem evRs_nil : evRs T G [] env s = .ok [] s := by
  unfold evRs
  rfl
@[simp] theorem evRs_cons {r : List Ex} : evRs T G (a :: r) env s = (rdS T G a env s).bind fun x s1 => (evRs T G r env s1).bind fun xs s2 => .ok (x :: xs) s2 := by
  conv => lhs; unfold evRs
  simp only [bind_ap, pure_ap]
  rfl
@[simp] theorem evAs_nil : evAs T G [] env s = .ok [] s := by
  unfold evAs
  rfl
@[simp] theorem evAs_cons {r : List Ex} : evAs T G (a :: r) env s = (arS T G a env s).bind fun x s1 => (evAs T G r env s1).bind fun xs s2 => .ok (x :: xs) s2 := by
  conv => lhs; unfold evAs
  simp only [bind_ap, pure_ap]
  rfl
@[simp] theorem evTs_nil : evTs T G [] env s = .ok true s := by
  unfold evTs
  rfl
@[simp] theorem evTs_cons {t : Tx} {r : List Tx} : evTs T G (t :: r) env s = (evT T G t env s).bind fun x s1 => ifR x (fun s1 => evTs T G r env s1) (fun s1 => .ok false s1) s1 := by
  conv => lhs; unfold evTs
  simp only [bind_ap]
  congr 1
  funext x s1
  cases x <;> rfl
/-! ### statements -/
@[simp] theorem thenS_nx {e : PV.Env} {k : PV.Env → S → RS S} : thenS (.ok (.nx e) s) k = k e s := (rfl)
@[simp] theorem thenS_ret {d : PyData} {k : PV.Env → S → RS S} : thenS (.ok (.ret d) s) k = .ok (.ret d) s := (rfl)
@[simp] theorem thenS_bk {e : PV.Env} {k : PV.Env → S → RS S} : thenS (.ok (.bk e) s) k = .ok (.bk e) s := (rfl)
@[simp] theorem thenS_ct {e : PV.Env} {k : PV.Env → S → RS S} : thenS (.ok (.ct e) s) k = .ok (.ct e) s := (rfl)
@[simp] theorem againS_nx {e : PV.Env} {k : PV.Env → S → RS S} : againS (.ok (.nx e) s) k = k e s := (rfl)
@[simp] theorem againS_ct {e : PV.Env} {k : PV.Env → S → RS S} : againS (.ok (.ct e) s) k = k e s := (rfl)
@[simp] theorem againS_bk {e : PV.Env} {k : PV.Env → S → RS S} : againS (.ok (.bk e) s) k = .ok (.nx e) s := (rfl)
@[simp] theorem againS_ret {d : PyData} {k : PV.Env → S → RS S} : againS (.ok (.ret d) s) k = .ok (.ret d) s := (rfl)
@[simp] theorem evSs_nil : evSs T G sub F [] env s = .ok (.nx env) s := by
  unfold evSs
  rfl
@[simp] theorem evSs_cons {x : St'} {r : List St'} : evSs T G sub F (x :: r) env s = thenS (evS T G sub F x env s) (fun e s => evSs T G sub F r e s) := by
  conv => lhs; unfold evSs
  unfold thenS
  generalize evS T G sub F x env s = q
  cases q with
  | ok f s1 => cases f <;> rfl
  | exn _ _ _ _ => rfl
  | bad => rfl
@[simp] theorem evS_asg {t : Tg} : evS T G sub F (.asg t a) env s = onE (evE T G a env s) env fun d s => onO (setTg t d env) fun e => .ok (.nx e) s := by
  unfold evS
  rfl
def ownS (i : Nat) (d : PyData) (env : PV.Env) (s : S) : RS S := match d with
  | .list ds => if i < env.length then .ok (.nx (env.set i (.own ds))) s else .bad
  | _ => .bad
@[simp] theorem ownS_l {i : Nat} {ds : List PyData} : ownS i (.list ds) env s = if i < env.length then .ok (.nx (env.set i (.own ds))) s else .bad := (rfl)
@[simp] theorem evS_own {i : Nat} : evS T G sub F (.own i a) env s = onE (evE T G a env s) env fun d s => ownS i d env s := by
  unfold evS
  congr 1
@[simp] theorem evS_par {i j : Nat} : evS T G sub F (.par i j a b) env s = onE (evE T G a env s) env fun x s => onE (evE T G b env s) env fun y s => if i < env.length ∧ j < env.length ∧ i ≠ j then .ok (.nx ((env.set i (.v x)).set j (.v y))) s else .bad := by
  unfold evS
  rfl
def prO (i j : Nat) (x y : PyData) (env : PV.Env) (s : S) : RS S := match x with
  | .list ds => if i < env.length ∧ j < env.length ∧ i ≠ j then .ok (.nx ((env.set i (.own ds)).set j (.v y))) s else .bad
  | _ => .bad
def prP (i j : Nat) (x y : PyData) (env : PV.Env) (s : S) : RS S := match y with
  | .list ds => if i < env.length ∧ j < env.length ∧ i ≠ j then .ok (.nx ((env.set i (.v x)).set j (.own ds))) s else .bad
  | _ => .bad
@[simp] theorem prO_l {i j : Nat} {ds : List PyData} {y : PyData} : prO i j (.list ds) y env s = if i < env.length ∧ j < env.length ∧ i ≠ j then .ok (.nx ((env.set i (.own ds)).set j (.v y))) s else .bad := (rfl)
@[simp] theorem prP_l {i j : Nat} {ds : List PyData} {x : PyData} : prP i j x (.list ds) env s = if i < env.length ∧ j < env.length ∧ i ≠ j then .ok (.nx ((env.set i (.v x)).set j (.own ds))) s else .bad := (rfl)
@[simp] theorem evS_parO {i j : Nat} : evS T G sub F (.parO i j a b) env s = onE (evE T G a env s) env fun x s => onE (evE T G b env s) env fun y s => prO i j x y env s := by
  unfold evS
  rfl
@[simp] theorem evS_parP {i j : Nat} : evS T G sub F (.parP i j a b) env s = onE (evE T G a env s) env fun x s => onE (evE T G b env s) env fun y s => prP i j x y env s := by
  unfold evS
  rfl
@[simp] theorem evS_par3 {i j k : Nat} : evS T G sub F (.par3 i j k a b c) env s = onE (evE T G a env s) env fun x s => onE (evE T G b env s) env fun y s => onE (evE T G c env s) env fun z s =>
    if i < env.length ∧ j < env.length ∧ k < env.length ∧ i ≠ j ∧ i ≠ k ∧ j ≠ k then .ok (.nx (((env.set i (.v x)).set j (.v y)).set k (.v z))) s else .bad := by
  unfold evS
  rfl
def shS (i : Nat) (x : Option Sl) (env : PV.Env) (s : S) : RS S := match x with
  | some (.own ds) => .ok (.nx (env.set i (.v (.list ds)))) s
  | some (.v _) => .ok (.nx env) s
  | _ => .bad
@[simp] theorem shS_own {i : Nat} {ds : List PyData} : shS i (some (.own ds)) env s = .ok (.nx (env.set i (.v (.list ds)))) s := (rfl)
@[simp] theorem shS_v {i : Nat} {d : PyData} : shS i (some (.v d)) env s = .ok (.nx env) s := (rfl)
@[simp] theorem evS_share {i : Nat} : evS T G sub F (.share i) env s = shS i env[i]? env s := by
  unfold evS shS
  generalize env[i]? = x
  cases x with
  | none => rfl
  | some x => cases x <;> rfl
def augS (i : Nat) (o : Bop) (x y : PyData) (env : PV.Env) (s : S) : RS S := match x, y with
  | .int a, .int b => onO (augD o a b) fun r => .ok (.nx (env.set i (.v (.int r)))) s
  | _, _ => .bad
@[simp] theorem augS_i {i : Nat} {o : Bop} {x y : Int} : augS i o (.int x) (.int y) env s = onO (augD o x y) fun r => .ok (.nx (env.set i (.v (.int r)))) s := (rfl)
def avS (x : Option Sl) (k : PyData → RS S) : RS S := match x with
  | some (.v d) => k d
  | _ => .bad
@[simp] theorem avS_v {d : PyData} {k : PyData → RS S} : avS (some (.v d)) k = k d := (rfl)
def aoS (x : Option Sl) (k : List PyData → RS S) : RS S := match x with
  | some (.own d) => k d
  | _ => .bad
@[simp] theorem aoS_v {d : List PyData} {k : List PyData → RS S} : aoS (some (.own d)) k = k d := (rfl)
def rgS (i : Nat) (d : PyData) (env : Env) (s : S) : RS S := match d with
  | .int n => if i < env.length ∧ n ≤ 16777216 ∧ -4611686018427387904 ≤ n then .ok (.nx (env.set i (.rng n))) s else .bad
  | _ => .bad
@[simp] theorem evS_asgR {i : Nat} : evS T G sub F (.asgR i a) env s = onE (rdS T G a env s) env fun d s => rgS i d env s := by
  unfold evS rgS rdS
  rfl
@[simp] theorem rgS_int {i : Nat} {n : Int} : rgS i (.int n) env s = if i < env.length ∧ n ≤ 16777216 ∧ -4611686018427387904 ≤ n then .ok (.nx (env.set i (.rng n))) s else .bad := rfl
@[simp] theorem evS_aug {i : Nat} {o : Bop} : evS T G sub F (.aug i o a) env s = avS env[i]? fun x => onE (rdS T G a env s) env fun y s => augS i o x y env s := by
  unfold evS avS
  generalize env[i]? = x
  cases x with
  | none => rfl
  | some x =>
    cases x <;> try rfl
@[simp] theorem evS_app {i : Nat} : evS T G sub F (.app i a) env s = aoS env[i]? fun ds => onE (evE T G a env s) env fun d s => if ds.length < 16777216 then .ok (.nx (env.set i (.own (ds ++ [d])))) s else .bad := by
  unfold evS aoS
  generalize env[i]? = x
  cases x with
  | none => rfl
  | some x => cases x <;> rfl
def popS (i j : Nat) (ds es : List PyData) (d : PyData) (env : PV.Env) (s : S) : RS S := match d with
  | .int k => (match es[k.toNat]? with
    | some y => if (0 ≤ k ∧ k < 4611686018427387904) ∧ ds.length < 16777216 ∧ i ≠ j then .ok (.nx ((env.set j (.own (es.eraseIdx k.toNat))).set i (.own (ds ++ [y])))) s else .bad
    | none => .bad)
  | _ => .bad
theorem popS_i {i j : Nat} {ds es : List PyData} {y : PyData} {k : Int} (h : es[k.toNat]? = some y) (h0 : 0 ≤ k ∧ k < 4611686018427387904) (h1 : ds.length < 16777216) (h2 : i ≠ j) : popS i j ds es (.int k) env s = .ok (.nx ((env.set j (.own (es.eraseIdx k.toNat))).set i (.own (ds ++ [y])))) s := by
  unfold popS
  dsimp only
  rw [h]
  dsimp only
  rw [if_pos ⟨h0, h1, h2⟩]
theorem evS_appPop {i j : Nat} {ds es : List PyData} (hi : env[i]? = some (.own ds)) (hj : env[j]? = some (.own es)) : evS T G sub F (.appPop i j a) env s = onE (evE T G a env s) env fun d s => popS i j ds es d env s := by
  unfold evS
  rw [hi, hj]
  rfl
def axS (o : Bop) (i : Nat) (ds : List PyData) (k : Nat) (a : Int) (y : PyData) (env : PV.Env) (s : S) : RS S := match y with
  | .int b => onO (augD o a b) fun r => .ok (.nx (env.set i (.own (ds.set k (.int r))))) s
  | _ => .bad
theorem evS_augIx {i : Nat} {o : Bop} {ds : List PyData} {k v : Int} {s1 : S} (hi : env[i]? = some (.own ds)) (hk : rdS T G b env s = .ok (.int k) s1) (h0 : 0 ≤ k) (hv : ds[k.toNat]? = some (.int v)) : evS T G sub F (.augIx i o b a) env s = onE (rdS T G a env s1) env fun y s => axS o i ds k.toNat v y env s := by
  unfold evS
  rw [hi]
  show onE (rdS T G b env s) env _ = _
  rw [hk]
  show (match (if 0 ≤ k then ds[k.toNat]? else none) with | some (.int a) => _ | _ => _) = _
  rw [if_pos h0, hv]
  rfl
theorem axS_add {i k : Nat} {ds : List PyData} {v w : Int} : axS .add i ds k v (.int w) env s = .ok (.nx (env.set i (.own (ds.set k (.int (v + w)))))) s := (rfl)
theorem evS_ext {i j : Nat} {ds es : List PyData} (hi : env[i]? = some (.own ds)) (hj : env[j]? = some (.own es)) (hn : i ≠ j) (hl : ds.length + es.length ≤ 16777216) : evS T G sub F (.ext i j) env s = .ok (.nx (env.set i (.own (ds ++ es)))) s := by
  unfold evS
  rw [hi, hj]
  exact if_pos ⟨hn, hl⟩
def sixS (i : Nat) (ds : List PyData) (d k : PyData) (env : PV.Env) (s : S) : RS S := match k with
  | .int k => onO (ixN ds.length k) fun j => .ok (.nx (env.set i (.own (ds.set j d)))) s
  | _ => .bad
@[simp] theorem sixS_i {i : Nat} {ds : List PyData} {d : PyData} {k : Int} : sixS i ds d (.int k) env s = onO (ixN ds.length k) fun j => .ok (.nx (env.set i (.own (ds.set j d)))) s := (rfl)
@[simp] theorem evS_setIx {i : Nat} : evS T G sub F (.setIx i b a) env s = onE (evE T G a env s) env fun d s => aoS env[i]? fun ds => onE (rdS T G b env s) env fun k s => sixS i ds d k env s := by
  unfold evS aoS
  congr 1
@[simp] theorem evS_expr : evS T G sub F (.expr a) env s = onE (evE T G a env s) env fun _ s => .ok (.nx env) s := by
  unfold evS
  rfl
@[simp] theorem evS_ret : evS T G sub F (.ret a) env s = onE (evE T G a env s) env fun d s => .ok (.ret d) s := by
  unfold evS
  rfl
@[simp] theorem evS_retN : evS T G sub F .retN env s = .ok (.ret .none) s := by
  unfold evS
  rfl
def ifS (x : Bool) (t f : S → RS S) (s : S) : RS S := match x with
  | true => t s
  | false => f s
@[simp] theorem ifS_t {t f : S → RS S} : ifS true t f s = t s := (rfl)
@[simp] theorem ifS_f {t f : S → RS S} : ifS false t f s = f s := (rfl)
@[simp] theorem evS_ifs {t : Tx} {p q : List St'} : evS T G sub F (.ifs t p q) env s = onE (evT T G t env s) env fun x s => ifS x (fun s => evSs T G sub F p env s) (fun s => evSs T G sub F q env s) s := by
  conv => lhs; unfold evS
  congr 1
theorem evS_loop {tg : Tg} {k : SrcK} {src : List Ex} {body : List St'} : evS T G sub F (.loop tg k src body) env s = onE ((evEs T G src env s).bind fun ds s => ofR (srcD k ds) s) env fun items s => loopS tg (evSs T G sub F body) items env s := by
  conv => lhs; unfold evS
  simp only [bind_ap, ofO_ofR]
theorem evS_while {t : Tx} {body : List St'} : evS T G sub F (.while t body) env s = whileS (evT T G t) (evSs T G sub F body) F env s := by
  conv => lhs; unfold evS
@[simp] theorem evS_brk : evS T G sub F .brk env s = .ok (.bk env) s := by
  unfold evS
  rfl
@[simp] theorem evS_cont : evS T G sub F .cont env s = .ok (.ct env) s := by
  unfold evS
  rfl
@[simp] theorem evS_pass : evS T G sub F .pass env s = .ok (.nx env) s := by
  unfold evS
  rfl
theorem while_stop {t : PV.Env → M S Bool} {body : PV.Env → S → RS S} {n : Nat} (h : t env s = .ok false s) : whileS t body (n + 1) env s = .ok (.nx env) s := by
  unfold whileS
  rw [h]
  rfl
theorem while_go {t : PV.Env → M S Bool} {body : PV.Env → S → RS S} {n : Nat} {e : PV.Env} {s1 : S} (h : t env s = .ok true s) (h2 : body env s = .ok (.nx e) s1) : whileS t body (n + 1) env s = whileS t body n e s1 := by
  conv => lhs; unfold whileS
  rw [h]
  show againS (body env s) _ = _
  rw [h2]
  rfl
/-- what a def's call tells -/
def retR (r : RS S) : R S PyData := match r with
  | .ok (.ret d) s => .ok d s
  | .ok (.nx _) s => .ok .none s
  | .ok _ _ => .bad
  | .exn c p _ s => .exn c p s
  | .bad => .bad
@[simp] theorem retR_ret {d : PyData} : retR (.ok (.ret d) s) = .ok d s := (rfl)
@[simp] theorem retR_nx : retR (.ok (.nx env) s) = .ok .none s := (rfl)
@[simp] theorem retR_exn {c : Str} {p : Option PyData} : retR (.exn c p env s) = .exn c p s := (rfl)
@[simp] theorem bind_exn1 {α β : Type} {c : Str} {p : Option PyData} (f : α → S → R S β) : (R.exn c p s).bind f = .exn c p s := (rfl)
@[simp] theorem onE_exn {α : Type} {c : Str} {p : Option PyData} {k : α → S → RS S} : onE (.exn c p s) env k = .exn c p env s := (rfl)
@[simp] theorem thenS_exn {c : Str} {p : Option PyData} {k : PV.Env → S → RS S} : thenS (.exn c p env s) k = .exn c p env s := (rfl)
@[simp] theorem againS_exn {c : Str} {p : Option PyData} {k : PV.Env → S → RS S} : againS (.exn c p env s) k = .exn c p env s := (rfl)
theorem evS_raise0 {c : Str} (h : (sub c c && !lowB c) = true) : evS T G sub F (.raise c none) env s = .exn c none env s := by
  unfold evS
  rw [h]
theorem evS_raise1 {c : Str} {e : Ex} (h : (sub c c && lowB c) = true) : evS T G sub F (.raise c (some e)) env s = onE (evE T G e env s) env fun d s => .exn c (some d) env s := by
  conv => lhs; unfold evS
  rw [h]
/-- a try whose body raises what the clause names -/
theorem evS_try_exn {body : List St'} {c x : Str} {p : Option PyData} {i : Option Nat} {sets : List (Nat × SuE)} {tp : Bool} {r : List SuE} {env' : PV.Env} {s' : S} {d : PyData} (h : evSs T G sub F body env s = .exn x p env' s') (h1 : okN sub c = true) (h2 : sub x c = true)
    (h3 : ((hdE i env').bind fun e => suRun sub sets tp r e x p) = some d) : evS T G sub F (.tryA body c i sets tp r) env s = .ok (.ret d) s' := by
  unfold evS
  rw [h]
  dsimp only
  rw [h1, h2]
  dsimp only
  rw [h3]
theorem evS_tryI_nx {body : List St'} {c : Str} {i j : Nat} {z : Str} {x : Str} {p : Option PyData} {env' : PV.Env} {s' : S} (h : evSs T G sub F body env s = .exn x p env' s') (h1 : okN sub c = true) (h2 : sub x c = true)
    (h3 : ((hdE (some i) env').bind fun e => ifRun sub j z e x p) = some none) : evS T G sub F (.tryI body c i j z) env s = .ok (.nx (env'.set i .no)) s' := by
  unfold evS
  rw [h]
  dsimp only
  rw [h1, h2]
  dsimp only
  rw [h3]
theorem evS_try_ok {body : List St'} {c : Str} {i : Option Nat} {sets : List (Nat × SuE)} {tp : Bool} {r : List SuE} {f : Fl} {s' : S} (h : evSs T G sub F body env s = .ok f s') : evS T G sub F (.tryA body c i sets tp r) env s = .ok f s' := by
  unfold evS
  rw [h]
theorem evS_tryM_exn {body : List St'} {x : Str} {p : Option PyData} {hs : List Hd} {env' : PV.Env} {s' : S} (h : evSs T G sub F body env s = .exn x p env' s') (h1 : hs.all (fun h => okN sub h.c) = true) :
    evS T G sub F (.tryM body hs) env s = runHs sub hs x p env' s' := by
  unfold evS
  rw [h, h1]
theorem evS_tryM_ok {body : List St'} {hs : List Hd} {f : Fl} {s' : S} (h : evSs T G sub F body env s = .ok f s') (h1 : hs.all (fun h => okN sub h.c) = true) : evS T G sub F (.tryM body hs) env s = .ok f s' := by
  unfold evS
  rw [h, h1]
theorem runHs_hit {h : Hd} {hs : List Hd} {x : Str} {p : Option PyData} {d : PyData} (h1 : sub x h.c = true) (h2 : ((hdE (some h.i) env).bind fun e => suRun sub h.sets h.tp h.r e x p) = some d) : runHs sub (h :: hs) x p env s = .ok (.ret d) s := by
  unfold runHs
  rw [h1]
  dsimp only
  rw [h2]
theorem runHs_miss {h : Hd} {hs : List Hd} {x : Str} {p : Option PyData} (h1 : sub x h.c = false) : runHs sub (h :: hs) x p env s = runHs sub hs x p env s := by
  show (match sub x h.c with | true => _ | false => _) = _
  rw [h1]
theorem run_eq {f : Fn} {avs : List AV} {N P : List Str} {body : List St'} (e : f = ⟨N, P, body⟩) (h : avs.length = P.length ∧ P.length ≤ N.length) : runF T G sub F f avs s = retR (evSs T G sub F body (startE N.length avs) s) := by
  subst e
  unfold runF
  rw [if_pos h]
  unfold retR
  generalize evSs T G sub F body (startE N.length avs) s = q
  cases q with
  | ok f s1 => cases f <;> rfl
  | exn _ _ _ _ => rfl
  | bad => rfl
end
end PV
set_option Elab.async false
set_option linter.all false
set_option maxRecDepth 100000
set_option maxHeartbeats 2000000
/-! PV, nineteenth part: the operations' equations. -/
namespace PV
open PySem PySem.Spec PyProof.Rows L2
section
variable {i j : Int} {b : Bool} {x y z u v : PyData} {xs ys : List PyData} {st : Str}
@[simp] theorem Sc_int : (Sc.int i).d = .int i := rfl
@[simp] theorem Sc_str : (Sc.str st).d = .str st := rfl
@[simp] theorem Sc_bl : (Sc.bl b).d = .bool b := rfl
@[simp] theorem Sc_non : Sc.non.d = .none := rfl
@[simp] theorem truth_bl : truth (.bool b) = some b := rfl
@[simp] theorem truth_int : truth (.int i) = some (i != 0) := rfl
@[simp] theorem truth_lst : truth (.list xs) = some (!xs.isEmpty) := rfl
@[simp] theorem truth_tup : truth (.tuple xs) = some (!xs.isEmpty) := rfl
@[simp] theorem truth_non : truth .none = some false := rfl
@[simp] theorem cmpD_eq : cmpD .eq (.int i) (.int j) = some (.bool (i == j)) := rfl
@[simp] theorem cmpD_ne : cmpD .ne (.int i) (.int j) = some (.bool (!(i == j))) := rfl
@[simp] theorem cmpD_lt : cmpD .lt (.int i) (.int j) = some (.bool (decide (i < j))) := rfl
@[simp] theorem cmpD_le : cmpD .le (.int i) (.int j) = some (.bool (decide (i ≤ j))) := rfl
@[simp] theorem cmpD_gt : cmpD .gt (.int i) (.int j) = some (.bool (decide (j < i))) := rfl
@[simp] theorem cmpD_ge : cmpD .ge (.int i) (.int j) = some (.bool (decide (j ≤ i))) := rfl
@[simp] theorem cmpB_lt : cmpB .lt (.int i) (.int j) = some (decide (i < j)) := rfl
@[simp] theorem cmpB_le : cmpB .le (.int i) (.int j) = some (decide (i ≤ j)) := rfl
@[simp] theorem bopD_add : bopD .add (.int i) (.int j) = some (.int (i + j)) := rfl
@[simp] theorem bopD_sub : bopD .sub (.int i) (.int j) = some (.int (i - j)) := rfl
theorem bopD_mul (h : mulOk i j = true) : bopD .mul (.int i) (.int j) = some (.int (i * j)) := if_pos h
theorem bopD_mod (h : 0 < j) : bopD .mod (.int i) (.int j) = some (.int (i % j)) := if_pos h
theorem bopD_fdiv (h : 0 < j) (h2 : j.natAbs.log2 < 9000) : bopD .fdiv (.int i) (.int j) = some (.int (i / j)) := by
  show (if decide (0 < j) && decide (j.natAbs.log2 < 9000) then some (PyData.int (i / j)) else none) = _
  rw [decide_eq_true h, decide_eq_true h2]
  rfl
theorem log2_of {n : Nat} (h : n < 2 ^ 8999) : n.log2 < 9000 := by
  by_cases e : n = 0
  · subst e
    decide
  · exact (Nat.log2_lt e).mpr (Nat.lt_trans h (Nat.pow_lt_pow_right (by decide) (by decide)))
theorem log2_small (h : 0 < j) (h2 : j < 1000000000000000000) : j.natAbs.log2 < 9000 := log2_of (Nat.lt_of_lt_of_le (show j.natAbs < 2 ^ 60 by omega) (Nat.pow_le_pow_right (by decide) (by decide)))
theorem bopD_fdivS (h : 0 < j) (h2 : j < 1000000000000000000) : bopD .fdiv (.int i) (.int j) = some (.int (i / j)) := bopD_fdiv h (log2_small h h2)
theorem bopD_addL (h : xs.length + ys.length ≤ 16777216) : bopD .add (.list xs) (.list ys) = some (.list (xs ++ ys)) := if_pos h
theorem bopD_addT (h : xs.length + ys.length ≤ 16777216) : bopD .add (.tuple xs) (.tuple ys) = some (.tuple (xs ++ ys)) := if_pos h
theorem atI_of {α : Type} {xs : List α} {k : Nat} {y : α} (h : xs[k]? = some y) : atI xs (k : Int) = some y := atI_nat h
@[simp] theorem idxD_t0 : idxD (.tuple (x :: xs)) (.int 0) = some x := atI_of (k := 0) rfl
@[simp] theorem idxD_l0 : idxD (.list (x :: xs)) (.int 0) = some x := atI_of (k := 0) rfl
@[simp] theorem idxD_t1 : idxD (.tuple (x :: y :: xs)) (.int 1) = some y := atI_of (k := 1) rfl
@[simp] theorem idxD_t2 : idxD (.tuple (x :: y :: z :: xs)) (.int 2) = some z := atI_of (k := 2) rfl
@[simp] theorem idxD_t3 : idxD (.tuple (x :: y :: z :: u :: xs)) (.int 3) = some u := atI_of (k := 3) rfl
@[simp] theorem idxD_l1 : idxD (.list (x :: y :: xs)) (.int 1) = some y := atI_of (k := 1) rfl
@[simp] theorem idxD_l2 : idxD (.list (x :: y :: z :: xs)) (.int 2) = some z := atI_of (k := 2) rfl
@[simp] theorem idxD_l3 : idxD (.list (x :: y :: z :: u :: xs)) (.int 3) = some u := atI_of (k := 3) rfl
theorem idxD_lk (h : 0 ≤ i) (h2 : xs[i.toNat]? = some x) : idxD (.list xs) (.int i) = some x := by
  obtain ⟨k, rfl⟩ := Int.eq_ofNat_of_zero_le h
  exact atI_of h2
theorem idxD_tk (h : 0 ≤ i) (h2 : xs[i.toNat]? = some x) : idxD (.tuple xs) (.int i) = some x := by
  obtain ⟨k, rfl⟩ := Int.eq_ofNat_of_zero_le h
  exact atI_of h2
theorem atI_last1 {α : Type} {xs : List α} {x : α} : atI (xs ++ [x]) (-1) = some x := atI_last _ _
@[simp] theorem idxD_last : idxD (.list (xs ++ [x])) (.int (-1)) = some x := atI_last1
@[simp] theorem primD_lenL : primD .len [.list xs] = some (.int xs.length) := rfl
@[simp] theorem primD_lenT : primD .len [.tuple xs] = some (.int xs.length) := rfl
@[simp] theorem primD_tupL : primD .tuple [.list xs] = some (.tuple xs) := rfl
@[simp] theorem primD_tupT : primD .tuple [.tuple xs] = some (.tuple xs) := rfl
@[simp] theorem primD_lstL : primD .list [.list xs] = some (.list xs) := rfl
@[simp] theorem primD_lstT : primD .list [.tuple xs] = some (.list xs) := rfl
@[simp] theorem primD_int : primD .int [.int i] = some (.int i) := rfl
@[simp] theorem primD_intB : primD .int [.bool b] = some (.int (if b then 1 else 0)) := rfl
@[simp] theorem primD_abs : primD .abs [.int i] = some (.int (if i < 0 then -i else i)) := rfl
@[simp] theorem primD_sum : primD .sum [.list xs] = (intsD xs).map fun ns => .int ns.sum := rfl
@[simp] theorem primD_all : primD .all [.list xs] = (boolsD xs).map fun bs => .bool (bs.all id) := rfl
@[simp] theorem primD_any : primD .any [.list xs] = (boolsD xs).map fun bs => .bool (bs.any id) := rfl
@[simp] theorem primD_min : primD .min2 [.int i, .int j] = some (.int (if j < i then j else i)) := rfl
@[simp] theorem primD_max : primD .max2 [.int i, .int j] = some (.int (if j > i then j else i)) := rfl
@[simp] theorem primD_max1L : primD .max1 [.list xs] = ((intsD xs).bind maxI).map .int := rfl
@[simp] theorem primD_max1T : primD .max1 [.tuple xs] = ((intsD xs).bind maxI).map .int := rfl
@[simp] theorem primD_sorted : primD .sorted [.list xs] = (sortD xs).map .list := rfl
theorem sortD_ints {ns : List Int} (h : intsD xs = some ns) : sortD xs = some ((sortI ns).map .int) := by
  unfold sortD
  rw [h]
@[simp] theorem primD_gcd : primD .gcd [.int i, .int j] = some (.int ((Nat.gcd i.natAbs j.natAbs : Nat) : Int)) := rfl
@[simp] theorem isi_tuple_none : primD (.isinst .tuple) [.none] = some (.bool false) := rfl
@[simp] theorem isi_tuple_bool : primD (.isinst .tuple) [(.bool b)] = some (.bool false) := rfl
@[simp] theorem isi_tuple_int : primD (.isinst .tuple) [(.int i)] = some (.bool false) := rfl
@[simp] theorem isi_tuple_str : primD (.isinst .tuple) [(.str st)] = some (.bool false) := rfl
@[simp] theorem isi_tuple_list : primD (.isinst .tuple) [(.list xs)] = some (.bool false) := rfl
@[simp] theorem isi_tuple_tuple : primD (.isinst .tuple) [(.tuple xs)] = some (.bool true) := rfl
@[simp] theorem isi_list_none : primD (.isinst .list) [.none] = some (.bool false) := rfl
@[simp] theorem isi_list_bool : primD (.isinst .list) [(.bool b)] = some (.bool false) := rfl
@[simp] theorem isi_list_int : primD (.isinst .list) [(.int i)] = some (.bool false) := rfl
@[simp] theorem isi_list_str : primD (.isinst .list) [(.str st)] = some (.bool false) := rfl
@[simp] theorem isi_list_list : primD (.isinst .list) [(.list xs)] = some (.bool true) := rfl
@[simp] theorem isi_list_tuple : primD (.isinst .list) [(.tuple xs)] = some (.bool false) := rfl
@[simp] theorem isi_int_none : primD (.isinst .int) [.none] = some (.bool false) := rfl
@[simp] theorem isi_int_bool : primD (.isinst .int) [(.bool b)] = some (.bool true) := rfl
@[simp] theorem isi_int_int : primD (.isinst .int) [(.int i)] = some (.bool true) := rfl
@[simp] theorem isi_int_str : primD (.isinst .int) [(.str st)] = some (.bool false) := rfl
@[simp] theorem isi_int_list : primD (.isinst .int) [(.list xs)] = some (.bool false) := rfl
@[simp] theorem isi_int_tuple : primD (.isinst .int) [(.tuple xs)] = some (.bool false) := rfl
@[simp] theorem isi_bool_none : primD (.isinst .bool) [.none] = some (.bool false) := rfl
@[simp] theorem isi_bool_bool : primD (.isinst .bool) [(.bool b)] = some (.bool true) := rfl
@[simp] theorem isi_bool_int : primD (.isinst .bool) [(.int i)] = some (.bool false) := rfl
@[simp] theorem isi_bool_str : primD (.isinst .bool) [(.str st)] = some (.bool false) := rfl
@[simp] theorem isi_bool_list : primD (.isinst .bool) [(.list xs)] = some (.bool false) := rfl
@[simp] theorem isi_bool_tuple : primD (.isinst .bool) [(.tuple xs)] = some (.bool false) := rfl
@[simp] theorem isi_str_none : primD (.isinst .str) [.none] = some (.bool false) := rfl
@[simp] theorem isi_str_bool : primD (.isinst .str) [(.bool b)] = some (.bool false) := rfl
@[simp] theorem isi_str_int : primD (.isinst .str) [(.int i)] = some (.bool false) := rfl
@[simp] theorem isi_str_str : primD (.isinst .str) [(.str st)] = some (.bool true) := rfl
@[simp] theorem isi_str_list : primD (.isinst .str) [(.list xs)] = some (.bool false) := rfl
@[simp] theorem isi_str_tuple : primD (.isinst .str) [(.tuple xs)] = some (.bool false) := rfl
@[simp] theorem is_nn : cmpD .is_ .none .none = some (.bool true) := rfl
@[simp] theorem is_bn : cmpD .is_ (.bool b) .none = some (.bool false) := rfl
@[simp] theorem is_in : cmpD .is_ (.int i) .none = some (.bool false) := rfl
@[simp] theorem is_ib {b : Bool} : cmpD .is_ (.int i) (.bool b) = some (.bool false) := rfl
@[simp] theorem is_sb {b : Bool} : cmpD .is_ (.str st) (.bool b) = some (.bool false) := rfl
@[simp] theorem is_nb {b : Bool} : cmpD .is_ .none (.bool b) = some (.bool false) := rfl
@[simp] theorem is_bb {a b : Bool} : cmpD .is_ (.bool a) (.bool b) = some (.bool (a == b)) := rfl
@[simp] theorem is_sn : cmpD .is_ (.str st) .none = some (.bool false) := rfl
@[simp] theorem is_ln : cmpD .is_ (.list xs) .none = some (.bool false) := rfl
@[simp] theorem is_tn : cmpD .is_ (.tuple xs) .none = some (.bool false) := rfl
@[simp] theorem isn_nn : cmpD .isNot .none .none = some (.bool false) := rfl
@[simp] theorem isn_bn : cmpD .isNot (.bool b) .none = some (.bool true) := rfl
@[simp] theorem isn_in : cmpD .isNot (.int i) .none = some (.bool true) := rfl
@[simp] theorem isn_sn : cmpD .isNot (.str st) .none = some (.bool true) := rfl
@[simp] theorem isn_ln : cmpD .isNot (.list xs) .none = some (.bool true) := rfl
@[simp] theorem isn_tn : cmpD .isNot (.tuple xs) .none = some (.bool true) := rfl
@[simp] theorem setTg_nm {k : Nat} {env : PV.Env} : setTg (.nm k) x env = if k < env.length then some (env.set k (.v x)) else none := rfl
@[simp] theorem setTg_t2 {k l : Nat} {env : PV.Env} : setTg (.tup [k, l]) (.tuple [x, y]) env = if k < env.length then (if l < (env.set k (.v x)).length then some ((env.set k (.v x)).set l (.v y)) else none) else none := rfl
@[simp] theorem setTg_t3 {k l m : Nat} {env : PV.Env} : setTg (.tup [k, l, m]) (.tuple [x, y, z]) env = if k < env.length then (if l < (env.set k (.v x)).length then (if m < ((env.set k (.v x)).set l (.v y)).length then some (((env.set k (.v x)).set l (.v y)).set m (.v z)) else none) else none) else none := rfl
@[simp] theorem setTg_l2 {k l : Nat} {env : PV.Env} : setTg (.tup [k, l]) (.list [x, y]) env = if k < env.length then (if l < (env.set k (.v x)).length then some ((env.set k (.v x)).set l (.v y)) else none) else none := rfl
@[simp] theorem setTg_l3 {k l m : Nat} {env : PV.Env} : setTg (.tup [k, l, m]) (.list [x, y, z]) env = if k < env.length then (if l < (env.set k (.v x)).length then (if m < ((env.set k (.v x)).set l (.v y)).length then some (((env.set k (.v x)).set l (.v y)).set m (.v z)) else none) else none) else none := rfl
@[simp] theorem slot_d : slot (.d x) = .v x := rfl
@[simp] theorem slot_h : slot .h = .hand := rfl
theorem startE_eq {n : Nat} {avs : List AV} : startE n avs = avs.map slot ++ List.replicate (n - avs.length) .no := rfl
theorem cutD_to {k : Int} (h : 0 ≤ k) : cutD xs none (some k) = xs.take k.toNat := by
  show (xs.drop 0).take ((if k < 0 then (k + (xs.length : Int)).toNat else min k.toNat xs.length) - 0) = _
  rw [if_neg (by omega), List.drop_zero, Nat.sub_zero]
  by_cases h2 : k.toNat ≤ xs.length
  · rw [Nat.min_eq_left h2]
  · rw [Nat.min_eq_right (by omega), List.take_of_length_le (by omega), List.take_of_length_le (by omega)]
/-! ### loops -/
variable {S : Type} {tg : Tg} {body : PV.Env → S → RS S}
theorem loop_inv {Inv : List PyData → PV.Env → S → Prop} {Post : PV.Env → S → Prop}
    (step : ∀ d r env s, Inv (d :: r) env s → ∃ env1 env2 s2, setTg tg d env = some env1 ∧ ((body env1 s = .ok (.nx env2) s2 ∧ Inv r env2 s2) ∨ (body env1 s = .ok (.bk env2) s2 ∧ Post env2 s2)))
    (fin : ∀ env s, Inv [] env s → Post env s) : ∀ (items : List PyData) (env : PV.Env) (s : S), Inv items env s → ∃ env' s', loopS tg body items env s = .ok (.nx env') s' ∧ Post env' s' := by
  intro items
  induction items with
  | nil => exact fun env s h => ⟨env, s, rfl, fin env s h⟩
  | cons d r ih =>
    intro env s h
    obtain ⟨env1, env2, s2, e, h⟩ := step d r env s h
    rcases h with ⟨e2, h⟩ | ⟨e2, h⟩
    · obtain ⟨env', s', e3, h⟩ := ih env2 s2 h
      refine ⟨env', s', ?_, h⟩
      rw [loop_cons e, e2, againS_nx, e3]
    · refine ⟨env2, s2, ?_, h⟩
      rw [loop_cons e, e2, againS_bk]
theorem rngD_cons {a : Int} {n : Nat} : rngD a (n + 1) = .int a :: rngD (a + 1) n := by
  unfold rngD
  rw [List.range_succ_eq_map, List.map_cons, List.map_map]
  congr 1
  · simp
  · apply List.map_congr_left
    intro i _
    show PyData.int (a + ((i + 1 : Nat) : Int)) = .int (a + 1 + (i : Int))
    congr 1
    omega
/-- a loop over a range: what holds before turn i -/
theorem loop_rng {Inv : Nat → PV.Env → S → Prop} {Post : PV.Env → S → Prop} {n : Nat}
    (step : ∀ i env s, i < n → Inv i env s → ∃ env1 env2 s2, setTg tg (.int (i : Int)) env = some env1 ∧ ((body env1 s = .ok (.nx env2) s2 ∧ Inv (i + 1) env2 s2) ∨ (body env1 s = .ok (.bk env2) s2 ∧ Post env2 s2)))
    (fin : ∀ env s, Inv n env s → Post env s) {env : PV.Env} {s : S} (h : Inv 0 env s) : ∃ env' s', loopS tg body (rngD 0 n) env s = .ok (.nx env') s' ∧ Post env' s' := by
  refine loop_inv (Inv := fun items env s => ∃ i, i ≤ n ∧ items = rngD (i : Int) (n - i) ∧ Inv i env s) (fun d r env s hh => ?_) (fun env s hh => ?_) _ _ _ ⟨0, Nat.zero_le _, by simp, h⟩
  · obtain ⟨i, hi, e, hv⟩ := hh
    have hlt : i < n := by
      by_cases w : i < n
      · exact w
      · rw [show n - i = 0 by omega] at e
        cases e
    rw [show n - i = (n - (i + 1)) + 1 by omega, rngD_cons] at e
    cases e
    obtain ⟨env1, env2, s2, e1, h2⟩ := step i env s hlt hv
    refine ⟨env1, env2, s2, e1, ?_⟩
    rcases h2 with ⟨e2, h2⟩ | h2
    · exact .inl ⟨e2, i + 1, hlt, by rw [show ((i + 1 : Nat) : Int) = (i : Int) + 1 by omega], h2⟩
    · exact .inr h2
  · obtain ⟨i, hi, e, hv⟩ := hh
    have : i = n := by
      have := congrArg List.length e
      rw [rngD_len] at this
      simp at this
      omega
    subst this
    exact fin env s hv
/-- a loop over a range, told by what comes out of it -/
theorem loop_out {Inv : Nat → PV.Env → S → Prop} {R : RS S → Prop} {n : Nat} {a : Int}
    (step : ∀ i env s, i < n → Inv i env s → ∃ env1, setTg tg (.int (a + (i : Int))) env = some env1 ∧
      ((∃ env2 s2, body env1 s = .ok (.nx env2) s2 ∧ Inv (i + 1) env2 s2) ∨ (∃ env2 s2, body env1 s = .ok (.bk env2) s2 ∧ R (.ok (.nx env2) s2)) ∨ (∃ d s2, body env1 s = .ok (.ret d) s2 ∧ R (.ok (.ret d) s2))))
    (fin : ∀ env s, Inv n env s → R (.ok (.nx env) s)) {env : PV.Env} {s : S} (h : Inv 0 env s) : R (loopS tg body (rngD a n) env s) := by
  have key : ∀ (k i : Nat) (env : PV.Env) (s : S), i + k = n → Inv i env s → R (loopS tg body (rngD (a + (i : Int)) k) env s) := by
    intro k
    induction k with
    | zero =>
      intro i env s e h
      have : i = n := by omega
      subst this
      exact fin env s h
    | succ k ih =>
      intro i env s e h
      obtain ⟨env1, e1, h2⟩ := step i env s (by omega) h
      rw [rngD_cons, loop_cons e1]
      rcases h2 with ⟨env2, s2, e2, h2⟩ | ⟨env2, s2, e2, h2⟩ | ⟨d, s2, e2, h2⟩
      · rw [e2, againS_nx]
        have := ih (i + 1) env2 s2 (by omega) h2
        rw [show a + ((i + 1 : Nat) : Int) = a + (i : Int) + 1 by omega] at this
        exact this
      · rw [e2, againS_bk]
        exact h2
      · rw [e2, againS_ret]
        exact h2
  have := key n 0 env s (by omega) h
  rw [show a + ((0 : Nat) : Int) = a by omega] at this
  exact this
theorem eqv_ints (i : Int) (L : List Int) : memD (.int i) (L.map .int) = L.contains i := by
  unfold memD
  rw [List.any_map]
  induction L with
  | nil => rfl
  | cons x r ih =>
    rw [List.any_cons, List.contains_cons, ih]
    congr 1
    show (x == i) = (i == x)
    rw [Bool.eq_iff_iff, beq_iff_eq, beq_iff_eq]
    exact eq_comm
end
end PV
set_option Elab.async false
set_option linter.all false
set_option maxRecDepth 100000
set_option maxHeartbeats 2000000
/-! PV, twentieth part: data that may be compared; sameness. -/
namespace PV
open PySem PySem.Spec PyProof.Rows L2
theorem canLay_all : ∀ {xs : List PyData}, (∀ x ∈ xs, PyData.canLay0 x = true) → PyData.canLayAll0 xs = true
  | [], _ => rfl
  | x :: r, h => by
    unfold PyData.canLayAll0
    rw [h x List.mem_cons_self, canLay_all fun y hy => h y (List.mem_cons_of_mem _ hy)]
    rfl
theorem depth_all {k : Nat} : ∀ {xs : List PyData}, (∀ x ∈ xs, PyData.depth x ≤ k) → PyData.depthAll xs ≤ k
  | [], _ => by
    unfold PyData.depthAll
    exact Nat.zero_le _
  | x :: r, h => by
    unfold PyData.depthAll
    have h1 := h x List.mem_cons_self
    have h2 := depth_all fun y hy => h y (List.mem_cons_of_mem x hy)
    omega
/-- may be laid, and how deep -/
def Shp (k : Nat) (d : PyData) : Prop := PyData.canLay0 d = true ∧ PyData.depth d ≤ k
theorem Shp.shaped {k : Nat} {d : PyData} (h : Shp k d) (hk : k ≤ 64) : SeqAt.shaped d = true := by
  unfold SeqAt.shaped
  rw [h.1, decide_eq_true (Nat.le_trans h.2 hk)]
  rfl
theorem Shp.list {k : Nat} {xs : List PyData} (h : ∀ x ∈ xs, Shp k x) : Shp (k + 1) (.list xs) := by
  refine ⟨?_, ?_⟩
  · unfold PyData.canLay0
    exact canLay_all fun x hx => (h x hx).1
  · unfold PyData.depth
    have := depth_all (k := k) fun x hx => (h x hx).2
    omega
theorem Shp.tuple {k : Nat} {xs : List PyData} (h : ∀ x ∈ xs, Shp k x) : Shp (k + 1) (.tuple xs) := by
  refine ⟨?_, ?_⟩
  · unfold PyData.canLay0
    exact canLay_all fun x hx => (h x hx).1
  · unfold PyData.depth
    have := depth_all (k := k) fun x hx => (h x hx).2
    omega
theorem Shp.int {i : Int} {k : Nat} : Shp k (.int i) := ⟨rfl, Nat.zero_le _⟩
theorem Shp.bl {i : Bool} {k : Nat} : Shp k (.bool i) := ⟨rfl, Nat.zero_le _⟩
theorem Shp.non {k : Nat} : Shp k .none := ⟨rfl, Nat.zero_le _⟩
theorem Shp.ints {L : List Int} : Shp 1 (.list (L.map .int)) := Shp.list (k := 0) fun x hx => by
  obtain ⟨i, _, rfl⟩ := List.mem_map.mp hx
  exact .int
theorem Shp.intsT {L : List Int} : Shp 1 (.tuple (L.map .int)) := Shp.tuple (k := 0) fun x hx => by
  obtain ⟨i, _, rfl⟩ := List.mem_map.mp hx
  exact .int
theorem cmpD_eqS {a b : PyData} (ha : SeqAt.shaped a = true) (hb : SeqAt.shaped b = true) : cmpD .eq a b = some (.bool (PyData.eqv a b)) := by
  show (if SeqAt.shaped a && SeqAt.shaped b then some (PyData.eqv a b) else none).map PyData.bool = _
  rw [ha, hb]
  rfl
theorem cmpD_neS {a b : PyData} (ha : SeqAt.shaped a = true) (hb : SeqAt.shaped b = true) : cmpD .ne a b = some (.bool (!PyData.eqv a b)) := by
  show (if SeqAt.shaped a && SeqAt.shaped b then some (!PyData.eqv a b) else none).map PyData.bool = _
  rw [ha, hb]
  rfl
theorem cmpD_inS {a : PyData} {ds : List PyData} (ha : SeqAt.shaped a = true) (hb : SeqAt.shaped (.list ds) = true) : cmpD .in_ a (.list ds) = some (.bool (memD a ds)) := by
  show (if SeqAt.shaped a && SeqAt.shaped (.list ds) then some (memD a ds) else none).map PyData.bool = _
  rw [ha, hb]
  rfl
theorem in_ints {i : Int} {L : List Int} : cmpD .in_ (.int i) (.list (L.map .int)) = some (.bool (L.contains i)) := by
  rw [cmpD_inS (shaped_int i) (Shp.ints.shaped (by decide)), eqv_ints]
end PV
set_option Elab.async false
set_option linter.all false
set_option maxRecDepth 100000
set_option maxHeartbeats 2000000
/-! PV, twenty-first part: ranges, sums, pairs; comprehensions and loops over them. -/
namespace PV
open PySem PySem.Spec PyProof.Rows L2
/-- 0, 1, .. below r -/
def rgI (r : Nat) : List Int := (List.range r).map fun i => ((i : Nat) : Int)
theorem rng_rgI {r : Nat} : rngD 0 r = (rgI r).map .int := by
  unfold rngD rgI
  rw [List.map_map]
  refine List.map_congr_left fun i _ => ?_
  show PyData.int (0 + (i : Int)) = .int (i : Int)
  rw [Int.zero_add]
theorem rgI_mem {r : Nat} {x : Int} : x ∈ rgI r ↔ 0 ≤ x ∧ x < r := by
  unfold rgI
  rw [List.mem_map]
  constructor
  · rintro ⟨i, hi, rfl⟩
    have := List.mem_range.mp hi
    omega
  · rintro ⟨h0, h1⟩
    exact ⟨x.toNat, List.mem_range.mpr (by omega), by omega⟩
theorem rgI_len {r : Nat} : (rgI r).length = r := by
  unfold rgI
  rw [List.length_map, List.length_range]
theorem rgI_succ {r : Nat} : rgI (r + 1) = rgI r ++ [(r : Int)] := by
  unfold rgI
  rw [List.range_succ, List.map_append]
  rfl
theorem rgI_get {r i : Nat} (h : i < r) : (rgI r)[i]? = some (i : Int) := by
  unfold rgI
  rw [List.getElem?_map, List.getElem?_range h]
  rfl
theorem rgI_nodup {r : Nat} : (rgI r).Nodup := by
  induction r with
  | zero => exact List.nodup_nil
  | succ r ih =>
    rw [rgI_succ]
    refine List.nodup_append.mpr ⟨ih, by simp, fun a ha b hb e => ?_⟩
    have h1 := rgI_mem.mp ha
    have h2 := List.mem_singleton.mp hb
    omega
theorem idxT {r : Nat} {F : Int → PyData} {I : Int} (h0 : 0 ≤ I) (h1 : I < r) : idxD (.tuple ((rgI r).map F)) (.int I) = some (F I) := by
  refine idxD_tk h0 ?_
  rw [List.getElem?_map, rgI_get (show I.toNat < r by omega), show ((I.toNat : Nat) : Int) = I by omega]
  rfl
theorem idxL {r : Nat} {F : Int → PyData} {I : Int} (h0 : 0 ≤ I) (h1 : I < r) : idxD (.list ((rgI r).map F)) (.int I) = some (F I) := by
  refine idxD_lk h0 ?_
  rw [List.getElem?_map, rgI_get (show I.toNat < r by omega), show ((I.toNat : Nat) : Int) = I by omega]
  rfl
theorem rgI_map_len {α : Type} {r : Nat} {F : Int → α} : ((rgI r).map F).length = r := by
  rw [List.length_map, rgI_len]
/-! ### sums -/
def sumI (r : Nat) (f : Int → Int) : Int := ((rgI r).map f).sum
theorem sumI_zero {f : Int → Int} : sumI 0 f = 0 := rfl
theorem sumI_succ {r : Nat} {f : Int → Int} : sumI (r + 1) f = sumI r f + f r := by
  unfold sumI
  rw [rgI_succ, List.map_append, List.sum_append]
  simp
theorem sumI_congr {r : Nat} {f g : Int → Int} (h : ∀ i : Int, 0 ≤ i → i < r → f i = g i) : sumI r f = sumI r g := by
  unfold sumI
  congr 1
  refine List.map_congr_left fun i hi => ?_
  have := rgI_mem.mp hi
  exact h i this.1 this.2
theorem sumI_const {r : Nat} {c : Int} : sumI r (fun _ => c) = r * c := by
  induction r with
  | zero => simp [sumI_zero]
  | succ r ih =>
    rw [sumI_succ, ih, show ((r + 1 : Nat) : Int) = (r : Int) + 1 by omega, Int.add_mul, Int.one_mul]
theorem sumI_mul {r : Nat} {k : Int} {f : Int → Int} : sumI r (fun i => k * f i) = k * sumI r f := by
  induction r with
  | zero => simp [sumI_zero]
  | succ r ih => rw [sumI_succ, sumI_succ, ih, Int.mul_add]
theorem sumI_add {r : Nat} {f g : Int → Int} : sumI r (fun i => f i + g i) = sumI r f + sumI r g := by
  induction r with
  | zero => simp [sumI_zero]
  | succ r ih => rw [sumI_succ, sumI_succ, sumI_succ, ih]; omega
theorem sumI_sub {r : Nat} {f g : Int → Int} : sumI r (fun i => f i - g i) = sumI r f - sumI r g := by
  induction r with
  | zero => simp [sumI_zero]
  | succ r ih => rw [sumI_succ, sumI_succ, sumI_succ, ih]; omega
theorem sumI_bound {r : Nat} {B : Int} {f : Int → Int} (h : ∀ i : Int, 0 ≤ i → i < r → 0 ≤ f i ∧ f i ≤ B) : 0 ≤ sumI r f ∧ sumI r f ≤ r * B := by
  induction r with
  | zero => simp [sumI_zero]
  | succ r ih =>
    have h1 := ih fun i h0 h1 => h i h0 (by omega)
    have h2 := h r (by omega) (by omega)
    rw [sumI_succ, show ((r + 1 : Nat) : Int) = (r : Int) + 1 by omega, Int.add_mul, Int.one_mul]
    omega
theorem sumI_swap {m r : Nat} {f : Int → Int → Int} : sumI r (fun i => sumI m fun j => f i j) = sumI m fun j => sumI r fun i => f i j := by
  induction r with
  | zero =>
    simp only [sumI_zero]
    rw [sumI_const, Int.mul_zero]
  | succ r ih =>
    rw [sumI_succ, ih, ← sumI_add]
    exact sumI_congr fun j _ _ => (sumI_succ (f := fun i => f i j)).symm
theorem sumI_snoc {f : Int → Int} {L : List Int} {x : Int} : ((L ++ [x]).map f).sum = (L.map f).sum + f x := by
  rw [List.map_append, List.sum_append]
  simp
theorem sum_list {r : Nat} {f : Int → Int} : primD .sum [.list ((rgI r).map fun i => .int (f i))] = some (.int (sumI r f)) := by
  show (intsD ((rgI r).map fun i => .int (f i))).map _ = _
  rw [intsD_map]
  rfl
theorem sum_tuple {r : Nat} {f : Int → Int} : primD .sum [.tuple ((rgI r).map fun i => .int (f i))] = some (.int (sumI r f)) := by
  show (intsD ((rgI r).map fun i => .int (f i))).map _ = _
  rw [intsD_map]
  rfl
@[simp] theorem all_true {α : Type} {L : List α} : (boolsD (L.map fun _ => .bool true)).map (fun bs => PyData.bool (bs.all id)) = some (.bool true) := by
  rw [boolsD_map]
  show some (PyData.bool ((L.map fun _ => true).all id)) = _
  have h : (L.map fun _ => true).all id = true := by
    rw [List.all_map]
    exact List.all_eq_true.mpr fun _ _ => rfl
  rw [h]
/-! ### pairs -/
def prI (r : Nat) : List (Int × Int) := (rgI r).flatMap fun a => (rgI r).map fun b => (a, b)
def pD (p : Int × Int) : PyData := .tuple [.int p.1, .int p.2]
theorem prI_mem {r : Nat} {p : Int × Int} : p ∈ prI r ↔ (0 ≤ p.1 ∧ p.1 < r) ∧ (0 ≤ p.2 ∧ p.2 < r) := by
  unfold prI
  rw [List.mem_flatMap]
  constructor
  · rintro ⟨a, ha, h⟩
    obtain ⟨b, hb, rfl⟩ := List.mem_map.mp h
    exact ⟨rgI_mem.mp ha, rgI_mem.mp hb⟩
  · rintro ⟨h1, h2⟩
    exact ⟨p.1, rgI_mem.mpr h1, List.mem_map.mpr ⟨p.2, rgI_mem.mpr h2, rfl⟩⟩
theorem prI_len {r : Nat} : (prI r).length = r * r := by
  unfold prI
  rw [List.length_flatMap]
  have : ∀ L : List Int, (L.map fun a => ((rgI r).map fun b => (a, b)).length).sum = L.length * r := by
    intro L
    induction L with
    | nil => simp
    | cons x q ih => rw [List.map_cons, List.sum_cons, ih, List.length_map, rgI_len, List.length_cons, Nat.succ_mul]; omega
  rw [this, rgI_len]
theorem prI_sum {r : Nat} {f : Int → Int → Int} : ((prI r).map fun p => f p.1 p.2).sum = sumI r fun a => sumI r fun b => f a b := by
  unfold prI
  have : ∀ L : List Int, ((L.flatMap fun a => (rgI r).map fun b => (a, b)).map fun p => f p.1 p.2).sum = (L.map fun a => sumI r fun b => f a b).sum := by
    intro L
    induction L with
    | nil => rfl
    | cons x q ih =>
      rw [List.flatMap_cons, List.map_append, List.sum_append, ih, List.map_map, List.map_cons, List.sum_cons]
      rfl
  exact this _
theorem prD_eq {r : Nat} : (prI r).map pD = (rgI r).flatMap fun a => (rgI r).map fun b => .tuple [.int a, .int b] := by
  unfold prI
  rw [List.map_flatMap]
  congr 1
  funext a
  rw [List.map_map]
  rfl
theorem prI_sumD {r : Nat} {f : Int → Int → Int} : primD .sum [.list ((prI r).map fun p => .int (f p.1 p.2))] = some (.int (sumI r fun a => sumI r fun b => f a b)) := by
  show (intsD ((prI r).map fun p => .int (f p.1 p.2))).map _ = _
  rw [intsD_map, ← prI_sum]
  rfl
/-! ### comprehensions -/
section
variable {S : Type} {T : Tbl S} {G : Gls} {env : PV.Env} {s : S}
theorem turn_nm {k : Nat} {ts : List Tx} {e : Ex} {x : PyData} (hk : k < env.length) : turnM (.nm k) [k] (evTs T G ts) (evE T G e) env x s = (evTs T G ts (env.set k (.v x)) s).bind fun b s1 => turnK (evE T G e (env.set k (.v x))) b s1 := by
  have h : setTg' (.nm k) [k] env x = some (env.set k (.v x)) := by
    show (if k < (env.set k .no).length then some ((env.set k .no).set k (.v x)) else none) = _
    rw [List.length_set, if_pos hk, List.set_set]
  show (ofO (setTg' (.nm k) [k] env x) s).bind _ = _
  rw [h]
  rfl
theorem turn_t2 {k l : Nat} {ts : List Tx} {e : Ex} {x y : PyData} (hk : k < env.length) (hl : l < env.length) (hn : k ≠ l) :
    turnM (.tup [k, l]) [k, l] (evTs T G ts) (evE T G e) env (.tuple [x, y]) s = (evTs T G ts ((env.set k (.v x)).set l (.v y)) s).bind fun b s1 => turnK (evE T G e ((env.set k (.v x)).set l (.v y))) b s1 := by
  have h : setTg' (.tup [k, l]) [k, l] env (.tuple [x, y]) = some ((env.set k (.v x)).set l (.v y)) := by
    show (if k < ((env.set l .no).set k .no).length then (if l < (((env.set l .no).set k .no).set k (.v x)).length then some ((((env.set l .no).set k .no).set k (.v x)).set l (.v y)) else none) else none) = _
    rw [if_pos (by rw [List.length_set, List.length_set]; exact hk), if_pos (by rw [List.length_set, List.length_set, List.length_set]; exact hl), List.set_set, List.set_comm _ _ (Ne.symm hn), List.set_set]
  show (ofO (setTg' (.tup [k, l]) [k, l] env (.tuple [x, y])) s).bind _ = _
  rw [h]
  rfl
theorem srcD_rngR {r : Nat} {R : Int} (eR : R = r) (hr : r ≤ 1000000) : srcD .rng1 [.int R] = some ((rgI r).map .int) := by
  rw [eR, srcD_rng1 _ (by omega), rng_rgI]
/-- over a list whose items are known, none left out -/
theorem comp_seq {γ : Type} {u g : γ → PyData} {L : List γ} {e : Ex} {tg : Tg} {k : SrcK} {src : List Ex} {is : List Nat} {ds : List PyData} (h1 : evRs T G src env s = .ok ds s) (h2 : srcD k ds = some (L.map u)) (hl : L.length ≤ 1000000)
    (h : ∀ x ∈ L, turnM tg is (evTs T G []) (evE T G e) env (u x) s = .ok (some (g x)) s) : evE T G (.comp e tg k src [] is) env s = .ok (.list (L.map g)) s :=
  ev_comp h1 h2 (by rw [List.length_map]; omega) (filtM_mapm h)
theorem comp_rng {r k : Nat} {R : Int} {src : List Ex} {e : Ex} {g : Int → PyData} (h1 : evRs T G src env s = .ok [.int R] s) (eR : R = r) (hr : r ≤ 1000000) (hk : k < env.length)
    (h : ∀ i : Int, 0 ≤ i → i < r → evE T G e (env.set k (.v (.int i))) s = .ok (g i) s) : evE T G (.comp e (.nm k) .rng1 src [] [k]) env s = .ok (.list ((rgI r).map g)) s := by
  refine comp_seq h1 (srcD_rngR eR hr) (by rw [rgI_len]; exact hr) fun x hx => ?_
  have hx := rgI_mem.mp hx
  rw [turn_nm hk]
  show (evE T G e (env.set k (.v (.int x))) s).bind _ = _
  rw [h x hx.1 hx.2]
  rfl
/-- with a test -/
theorem comp_rngF {r k : Nat} {R : Int} {src : List Ex} {e : Ex} {t : Tx} {g : Int → PyData} {p : Int → Bool} (h1 : evRs T G src env s = .ok [.int R] s) (eR : R = r) (hr : r ≤ 1000000) (hk : k < env.length)
    (ht : ∀ i : Int, 0 ≤ i → i < r → evT T G t (env.set k (.v (.int i))) s = .ok (p i) s) (h : ∀ i : Int, 0 ≤ i → i < r → p i = true → evE T G e (env.set k (.v (.int i))) s = .ok (g i) s) :
    evE T G (.comp e (.nm k) .rng1 src [t] [k]) env s = .ok (.list (((rgI r).filter p).map g)) s := by
  refine ev_comp h1 (srcD_rngR eR hr) (by rw [List.length_map, rgI_len]; omega) ?_
  have key : ∀ L : List Int, (∀ x ∈ L, 0 ≤ x ∧ x < r) → filtM (turnM (.nm k) [k] (evTs T G [t]) (evE T G e) env) (L.map .int) s = .ok ((L.filter p).map g) s := by
    intro L
    induction L with
    | nil => exact fun _ => rfl
    | cons x q ih =>
      intro hL
      have hx := hL x List.mem_cons_self
      show (turnM (.nm k) [k] (evTs T G [t]) (evE T G e) env (.int x) s).bind (fun y s' => (filtM (turnM (.nm k) [k] (evTs T G [t]) (evE T G e) env) (q.map .int) s').bind fun ys s'' => .ok (pushO y ys) s'') = _
      have e1 : turnM (.nm k) [k] (evTs T G [t]) (evE T G e) env (.int x) s = .ok (if p x then some (g x) else none) s := by
        rw [turn_nm hk]
        show ((evT T G t (env.set k (.v (.int x))) s).bind fun b s1 => (match b with | true => (evTs T G [] (env.set k (.v (.int x))) : PV.M S Bool) | false => pure false) s1).bind _ = _
        rw [ht x hx.1 hx.2]
        cases hp : p x with
        | true =>
          show (evE T G e (env.set k (.v (.int x))) s).bind _ = _
          rw [h x hx.1 hx.2 hp]
          rfl
        | false => rfl
      rw [e1, bind_ok1, ih fun y hy => hL y (List.mem_cons_of_mem _ hy), bind_ok1, List.filter_cons]
      cases p x <;> rfl
  exact key _ fun x hx => rgI_mem.mp hx
/-- over pairs -/
theorem comp_pairs {r k l : Nat} {src : List Ex} {e : Ex} {g : Int → Int → PyData} (h1 : evRs T G src env s = .ok [.list ((prI r).map pD)] s) (hr : r ≤ 1000) (hk : k < env.length) (hl : l < env.length) (hn : k ≠ l)
    (h : ∀ a b : Int, 0 ≤ a → a < r → 0 ≤ b → b < r → evE T G e ((env.set k (.v (.int a))).set l (.v (.int b))) s = .ok (g a b) s) : evE T G (.comp e (.tup [k, l]) .seq src [] [k, l]) env s = .ok (.list ((prI r).map fun p => g p.1 p.2)) s := by
  refine comp_seq h1 rfl (by rw [prI_len]; exact Nat.le_trans (Nat.mul_le_mul hr hr) (by decide)) fun p hp => ?_
  have hx := prI_mem.mp hp
  show turnM (.tup [k, l]) [k, l] (evTs T G []) (evE T G e) env (.tuple [.int p.1, .int p.2]) s = _
  rw [turn_t2 hk hl hn]
  show (evE T G e ((env.set k (.v (.int p.1))).set l (.v (.int p.2))) s).bind _ = _
  rw [h p.1 p.2 hx.1.1 hx.1.2 hx.2.1 hx.2.2]
  rfl
/-- turns that draw -/
theorem comp_draw {P : S → Prop} {Y : Type} [Inhabited Y] {F : Y → PyData} {C : Int → Y → Prop} {r k : Nat} {R : Int} {src : List Ex} {e : Ex} (h1 : evRs T G src env s = .ok [.int R] s) (eR : R = r) (hr : r ≤ 1000000) (hk : k < env.length) (ok : P s)
    (h : ∀ (i : Int) (s : S), 0 ≤ i → i < r → P s → ∃ y s', evE T G e (env.set k (.v (.int i))) s = .ok (F y) s' ∧ C i y ∧ P s') :
    ∃ (t : Int → Y) (s' : S), evE T G (.comp e (.nm k) .rng1 src [] [k]) env s = .ok (.list ((rgI r).map fun i => F (t i))) s' ∧ (∀ i : Int, 0 ≤ i → i < r → C i (t i)) ∧ P s' := by
  have key : ∀ (L : List Int) (s : S), L.Nodup → (∀ x ∈ L, 0 ≤ x ∧ x < r) → P s → ∃ (t : Int → Y) (s' : S), filtM (turnM (.nm k) [k] (evTs T G []) (evE T G e) env) (L.map .int) s = .ok (L.map fun i => F (t i)) s' ∧ (∀ i ∈ L, C i (t i)) ∧ P s' := by
    intro L
    induction L with
    | nil => exact fun s _ _ hp => ⟨fun _ => default, s, rfl, (fun _ hx => nomatch hx), hp⟩
    | cons x q ih =>
      intro s hd hL hp
      obtain ⟨y, s1, e1, c1, p1⟩ := h x s (hL x List.mem_cons_self).1 (hL x List.mem_cons_self).2 hp
      obtain ⟨n1, n2⟩ := List.nodup_cons.mp hd
      obtain ⟨t, s2, e2, c2, p2⟩ := ih s1 n2 (fun z hz => hL z (List.mem_cons_of_mem _ hz)) p1
      refine ⟨fun j => if j = x then y else t j, s2, ?_, fun i hi => ?_, p2⟩
      · show (turnM (.nm k) [k] (evTs T G []) (evE T G e) env (.int x) s).bind (fun y s' => (filtM (turnM (.nm k) [k] (evTs T G []) (evE T G e) env) (q.map .int) s').bind fun ys s'' => .ok (pushO y ys) s'') = _
        have e3 : turnM (.nm k) [k] (evTs T G []) (evE T G e) env (.int x) s = .ok (some (F y)) s1 := by
          rw [turn_nm hk]
          show (evE T G e (env.set k (.v (.int x))) s).bind _ = _
          rw [e1]
          rfl
        rw [e3, bind_ok1, e2, bind_ok1]
        show PV.R.ok (F y :: q.map fun i => F (t i)) s2 = .ok (F (if x = x then y else t x) :: q.map fun j => F (if j = x then y else t j)) s2
        rw [if_pos rfl]
        congr 2
        refine List.map_congr_left fun j hj => ?_
        rw [if_neg fun z : j = x => n1 (z ▸ hj)]
      · rcases List.mem_cons.mp hi with z | z
        · dsimp only
          rw [z, if_pos rfl]
          exact c1
        · dsimp only
          rw [if_neg fun w : i = x => n1 (w ▸ z)]
          exact c2 i z
  obtain ⟨t, s', e1, c1, p1⟩ := key (rgI r) s rgI_nodup (fun x hx => rgI_mem.mp hx) ok
  exact ⟨t, s', ev_comp h1 (srcD_rngR eR hr) (by rw [List.length_map, rgI_len]; omega) e1, fun i h0 h1 => c1 i (rgI_mem.mpr ⟨h0, h1⟩), p1⟩
/-! ### loops -/
/-- a loop over a list whose items are known; what holds, by what is done -/
theorem loop_list {γ : Type} {u : γ → PyData} {tg : Tg} {body : PV.Env → S → RS S} {Inv : List γ → PV.Env → S → Prop} (L : List γ)
    (step : ∀ (done : List γ) (x : γ) (env : PV.Env) (s : S), x ∈ L → Inv done env s → ∃ env1 env2 s2, setTg tg (u x) env = some env1 ∧ body env1 s = .ok (.nx env2) s2 ∧ Inv (done ++ [x]) env2 s2) {env : PV.Env} {s : S} (h : Inv [] env s) :
    ∃ env' s', loopS tg body (L.map u) env s = .ok (.nx env') s' ∧ Inv L env' s' := by
  have key : ∀ (rest done : List γ) (env : PV.Env) (s : S), L = done ++ rest → Inv done env s → ∃ env' s', loopS tg body (rest.map u) env s = .ok (.nx env') s' ∧ Inv L env' s' := by
    intro rest
    induction rest with
    | nil =>
      intro done env s e h
      rw [List.append_nil] at e
      exact ⟨env, s, rfl, e ▸ h⟩
    | cons x q ih =>
      intro done env s e h
      obtain ⟨env1, env2, s2, e1, e2, h2⟩ := step done x env s (by rw [e]; exact List.mem_append_right _ List.mem_cons_self) h
      obtain ⟨env', s', e3, h3⟩ := ih (done ++ [x]) env2 s2 (by rw [e, List.append_assoc]; rfl) h2
      refine ⟨env', s', ?_, h3⟩
      rw [List.map_cons, loop_cons e1, e2, againS_nx, e3]
  exact key L [] env s rfl h
end
end PV
set_option Elab.async false
set_option linter.all false
set_option maxRecDepth 100000
set_option maxHeartbeats 2000000
/-! PV, twenty-second part: sums over shifted places; loops that append. -/
namespace PV
open PySem PySem.Spec PyProof.Rows L2
@[simp] theorem augD_add {a b : Int} : augD .add a b = some (a + b) := rfl
@[simp] theorem augD_sub {a b : Int} : augD .sub a b = some (a - b) := rfl
theorem sumI_first {k : Nat} {f : Int → Int} : sumI (k + 1) f = f 0 + sumI k fun i => f (i + 1) := by
  induction k with
  | zero =>
    rw [sumI_succ, sumI_zero, sumI_zero]
    simp
  | succ k ih =>
    rw [sumI_succ, ih, sumI_succ (r := k)]
    rw [show ((k + 1 : Nat) : Int) = (k : Int) + 1 by omega]
    omega
theorem sumI_rot {r : Nat} {f : Int → Int} (h : 0 < r) : sumI r (fun i => f ((i + 1) % (r : Int))) = sumI r f := by
  obtain ⟨k, rfl⟩ : ∃ k, r = k + 1 := ⟨r - 1, by omega⟩
  rw [sumI_succ, sumI_first (f := f), Int.add_comm]
  congr 1
  · rw [show ((k : Int) + 1) % ((k + 1 : Nat) : Int) = 0 by
      rw [show ((k + 1 : Nat) : Int) = (k : Int) + 1 by omega]
      exact Int.emod_self]
  · exact sumI_congr fun i h0 h1 => by
      rw [Int.emod_eq_of_lt (by omega) (by omega)]
theorem sumI_shiftN {r : Nat} {f : Int → Int} (h : 0 < r) : ∀ k : Nat, sumI r (fun i => f ((i + (k : Int)) % (r : Int))) = sumI r f
  | 0 => sumI_congr fun i h0 h1 => by
    rw [show i + ((0 : Nat) : Int) = i by omega, Int.emod_eq_of_lt h0 h1]
  | k + 1 => by
    have e := sumI_rot (f := fun i => f ((i + (k : Int)) % (r : Int))) h
    rw [sumI_shiftN h k] at e
    rw [← e]
    refine sumI_congr fun i _ _ => ?_
    show f _ = f _
    congr 1
    rw [Int.emod_add_emod]
    congr 1
    omega
theorem sumI_shift {r : Nat} {f : Int → Int} (h : 0 < r) (x : Int) : sumI r (fun i => f ((x + i) % (r : Int))) = sumI r f := by
  have h0 := Int.emod_nonneg x (show (r : Int) ≠ 0 by omega)
  rw [← sumI_shiftN (f := f) h (x % (r : Int)).toNat]
  refine sumI_congr fun i _ _ => ?_
  rw [show (((x % (r : Int)).toNat : Nat) : Int) = x % (r : Int) by omega, Int.add_emod_emod, Int.add_comm]
/-- all places, turned round -/
theorem sumI_back {r : Nat} {F : Int → Int} : sumI r (fun i => F ((r : Int) - 1 - i)) = sumI r F := by
  have key : ∀ k : Nat, k ≤ r → sumI k (fun i => F ((r : Int) - 1 - i)) = sumI r F - sumI (r - k) F := by
    intro k
    induction k with
    | zero =>
      intro _
      rw [sumI_zero, Nat.sub_zero]
      omega
    | succ k ih =>
      intro hk
      rw [sumI_succ, ih (by omega), show r - k = (r - (k + 1)) + 1 by omega, sumI_succ, show ((r - (k + 1) : Nat) : Int) = (r : Int) - 1 - k by omega]
      omega
  have := key r (Nat.le_refl _)
  rw [Nat.sub_self, sumI_zero, Int.sub_zero] at this
  exact this
theorem sumI_neg {r : Nat} {f : Int → Int} (h : 0 < r) (x : Int) : sumI r (fun i => f ((x - i) % (r : Int))) = sumI r f := by
  rw [← sumI_shift (f := f) h (x + 1), ← sumI_back (F := fun i => f ((x + 1 + i) % (r : Int)))]
  refine sumI_congr fun i _ _ => ?_
  show f _ = f _
  congr 1
  rw [show x + 1 + ((r : Int) - 1 - i) = (x - i) + (r : Int) by omega, Int.add_emod_right]
/-- a loop over a range that appends something at each turn -/
theorem loop_app {S Y Z : Type} [Inhabited Y] {F : Y → PyData} {C : Int → Y → Prop} {P : S → Prop} {k : Nat} {body : PV.Env → S → RS S} {E : List PyData → Z → PV.Env} {r : Nat}
    (step : ∀ (i : Int) (L : List PyData) (z : Z) (s : S), 0 ≤ i → i < r → L.length ≤ r → P s → ∃ env1 y z' s', setTg (.nm k) (.int i) (E L z) = some env1 ∧ body env1 s = .ok (.nx (E (L ++ [F y]) z')) s' ∧ C i y ∧ P s') {z : Z} {s : S} (h : P s) :
    ∃ (t : Int → Y) (z' : Z) (s' : S), loopS (.nm k) body ((rgI r).map .int) (E [] z) s = .ok (.nx (E ((rgI r).map fun i => F (t i)) z')) s' ∧ (∀ i : Int, 0 ≤ i → i < r → C i (t i)) ∧ P s' := by
  obtain ⟨env', s', e, t, z', rfl, hc, hp⟩ := loop_rng (tg := .nm k) (body := body) (n := r) (Inv := fun i env s' => ∃ (t : Int → Y) (z : Z), env = E ((rgI i).map fun j => F (t j)) z ∧ (∀ j : Int, 0 ≤ j → j < i → C j (t j)) ∧ P s')
    (Post := fun env s' => ∃ (t : Int → Y) (z : Z), env = E ((rgI r).map fun j => F (t j)) z ∧ (∀ j : Int, 0 ≤ j → j < r → C j (t j)) ∧ P s') (fun i env s hi hv => by
      obtain ⟨t, z, rfl, hc, hp⟩ := hv
      obtain ⟨env1, y, z', s', e1, e2, c, p⟩ := step (i : Int) ((rgI i).map fun j => F (t j)) z s (by omega) (by omega) (by rw [rgI_map_len]; omega) hp
      refine ⟨env1, _, s', e1, .inl ⟨e2, fun j => if j = (i : Int) then y else t j, z', ?_, fun j h0 h1 => ?_, p⟩⟩
      · rw [rgI_succ, List.map_append]
        congr 2
        · exact List.map_congr_left fun j hj => by
            have := rgI_mem.mp hj
            dsimp only
            rw [if_neg (by omega)]
        · show [F y] = [F (if (i : Int) = (i : Int) then y else t i)]
          rw [if_pos rfl]
      · dsimp only
        by_cases w : j = (i : Int)
        · rw [if_pos w, w]
          exact c
        · rw [if_neg w]
          exact hc j h0 (by omega)) (fun env s h => h) (env := E [] z) (s := s) ⟨fun _ => default, z, rfl, fun j h0 h1 => by omega, h⟩
  rw [rng_rgI] at e
  exact ⟨t, z', s', e, hc, hp⟩
theorem rep_flat {r : Nat} {x : PyData} : (List.replicate r [x]).flatten = (rgI r).map fun _ => x := by
  induction r with
  | zero => rfl
  | succ r ih =>
    rw [List.replicate_succ', List.flatten_append, ih, rgI_succ, List.map_append]
    rfl
theorem bopD_repT {r : Nat} {R : Int} {x : PyData} (er : R = r) (h0 : 2 ≤ r) (h1 : r ≤ 1000) : bopD .mul (.tuple [x]) (.int R) = some (.tuple ((rgI r).map fun _ => x)) := by
  show (if R = 1 then some (PyData.tuple [x]) else if (![x].isEmpty && decide (2 ≤ R) && decide (R ≤ 1000) && decide ([x].length ≤ 1000)) = true then some (PyData.tuple (List.replicate R.toNat [x]).flatten) else none) = _
  rw [if_neg (show ¬ R = 1 by omega), decide_eq_true (show 2 ≤ R by omega), decide_eq_true (show R ≤ 1000 by omega), show R.toNat = r by omega, rep_flat]
  rfl
theorem bopD_repT1 {r : Nat} {R : Int} {x : PyData} (er : R = r) (h0 : 1 ≤ r) (h1 : r ≤ 1000) : bopD .mul (.tuple [x]) (.int R) = some (.tuple ((rgI r).map fun _ => x)) := by
  by_cases e : r = 1
  · subst e
    subst er
    rfl
  · exact bopD_repT er (by omega) h1
theorem bopD_shl1 {c : Int} (h0 : 0 ≤ c) (h1 : c ≤ 1000000) : bopD .shl (.int 1) (.int c) = some (.int (2 ^ c.toNat)) := by
  show (if (decide (0 ≤ c) && decide (c ≤ 1000000) && smallI 1) = true then some (PyData.int (1 * 2 ^ c.toNat)) else none) = _
  rw [decide_eq_true h0, decide_eq_true h1, Int.one_mul]
  rfl
theorem enumD_rgI {r : Nat} {F : Int → PyData} : enumD ((rgI r).map F) = (rgI r).map fun j => .tuple [.int j, F j] := by
  refine List.ext_getElem? fun i => ?_
  unfold enumD
  rw [List.getElem?_map, List.getElem?_zipIdx, List.getElem?_map, List.getElem?_map]
  by_cases h : i < r
  · rw [rgI_get h]
    simp
  · rw [List.getElem?_eq_none (by rw [rgI_len]; omega)]
    rfl
theorem sortI_perm {a b : List Int} (h : a.Perm b) : sortI a = sortI b := by
  have h1 : (sortI a).Pairwise (· ≤ ·) := by
    have := List.pairwise_mergeSort (le := fun a b : Int => decide (a ≤ b)) (fun a b c h1 h2 => by simp at *; omega) (fun a b => by simp; omega) a
    exact this.imp fun h => by simpa using h
  exact sortI_eq ((List.mergeSort_perm a _).trans h) h1
end PV
set_option Elab.async false
set_option linter.all false
set_option maxRecDepth 100000
/-! the small terms of the law's defs, and the looks -/
namespace K64
open PySem PySem.Spec PyProof.Rows L2 PV
def topS (i : Nat) : PySem.Stmt := PySem.Challenge.pw_carriedbreaks_k64_whole_marks_forged.main.body.getD i (.Pass ⟨0, 0, 0, 0⟩)
abbrev useGcd : Bool := true
def b_is_number : List St' :=
  [.ret (.and (.prim (.isinst .int) [.var 0]) (.and (.not (.prim (.isinst .bool) [.var 0])) (.chain .le .le (.var 1) (.var 0) (.var 2))))]
def f_is_number : Fn := ⟨["value", "least", "most"], ["value", "least", "most"], b_is_number⟩
def b_fraction : List St' :=
  [.asg (.nm 2) (.prim .gcd [.var 0, .var 1]),
   .ifs (.e (.cmp .lt (.var 1) (.con (.int 0))))
     [.asg (.nm 2) (.neg (.var 2))]
     [],
   .ret (.tup [.bop .fdiv (.var 0) (.var 2), .bop .fdiv (.var 1) (.var 2)])]
def f_fraction : Fn := ⟨["numerator", "denominator", "divisor"], ["numerator", "denominator"], b_fraction⟩
def b_check_many : List St' :=
  [.ifs (.not (.e (.call "is_number" [.var 0, .con (.int 2), .glob "MOST_VALUES"])))
     [.raise "BadChoice" none]
     []]
def f_check_many : Fn := ⟨["m"], ["m"], b_check_many⟩
def b_check_prime : List St' :=
  [.ifs (.or (.not (.e (.call "is_number" [.var 0, .con (.int 2), .con (.int 7)]))) (.e (.cmp .in_ (.var 0) (.tup [.con (.int 4), .con (.int 6)]))))
     [.raise "BadChoice" none]
     []]
def f_check_prime : Fn := ⟨["p"], ["p"], b_check_prime⟩
def b_is_table : List St' :=
  [.ret (.and (.prim (.isinst .tuple) [.var 0]) (.and (.cmp .eq (.prim .len [.var 0]) (.var 1)) (.prim .all [.comp (.call "is_number" [.var 3, .con (.int 0), .bop .sub (.var 2) (.con (.int 1))]) (.nm 3) .seq [.var 0] [] [3]])))]
def f_is_table : Fn := ⟨["table", "inputs", "m", "one"], ["table", "inputs", "m"], b_is_table⟩
def b_is_family : List St' :=
  [.expr (.call "check_many" [.var 1]),
   .ifs (.or (.not (.e (.prim (.isinst .tuple) [.var 0]))) (.or (.not (.e (.chain .le .le (.con (.int 1)) (.prim .len [.var 0]) (.glob "MOST_KEYS")))) (.not (.e (.prim (.isinst .tuple) [.idx (.var 0) (.con (.int 0))])))))
     [.ret (.con (.bl false))]
     [],
   .asg (.nm 2) (.prim .len [.idx (.var 0) (.con (.int 0))]),
   .ret (.and (.chain .le .le (.con (.int 2)) (.var 2) (.glob "MOST_VALUES")) (.prim .all [.comp (.call "is_table" [.var 3, .var 2, .var 1]) (.nm 3) .seq [.var 0] [] [3]]))]
def f_is_family : Fn := ⟨["family", "m", "inputs", "table"], ["family", "m"], b_is_family⟩
def b_check_family : List St' :=
  [.ifs (.not (.e (.call "is_family" [.var 0, .var 1])))
     [.raise "BadTable" (some (.var 0))]
     []]
def f_check_family : Fn := ⟨["family", "m"], ["family", "m"], b_check_family⟩
def b_check_input : List St' :=
  [.ifs (.not (.e (.call "is_number" [.var 1, .con (.int 0), .bop .sub (.prim .len [.idx (.var 0) (.con (.int 0))]) (.con (.int 1))])))
     [.raise "BadChoice" none]
     []]
def f_check_input : Fn := ⟨["family", "number"], ["family", "number"], b_check_input⟩
def b_pairs_below : List St' :=
  [.ret (.comp2 (.tup [.var 1, .var 2]) (.nm 1) .rng1 [.var 0] (.nm 2) .rng2 [.bop .add (.var 1) (.con (.int 1)), .var 0] [] [1, 2] [2])]
def f_pairs_below : Fn := ⟨["many", "one", "other"], ["many"], b_pairs_below⟩
def b_is_pairwise : List St' :=
  [.expr (.call "check_family" [.var 0, .var 1]),
   .asg (.nm 2) (.bop .fdiv (.prim .len [.var 0]) (.bop .mul (.var 1) (.var 1))),
   .asg (.nm 3) (.comp3 (.tup [.var 6, .var 7]) (.nm 6) .rng1 [.var 1] (.nm 7) .rng1 [.var 1] (.nm 8) .rng1 [.var 2] [6, 7, 8] [7, 8] [8]),
   .loop (.tup [4, 5]) .seq [.call "pairs_below" [.prim .len [.idx (.var 0) (.con (.int 0))]]]
     [.ifs (.e (.cmp .ne (.prim .sorted [.comp (.tup [.idx (.var 9) (.var 4), .idx (.var 9) (.var 5)]) (.nm 9) .seq [.var 0] [] [9]]) (.var 3)))
       [.ret (.con (.bl false))]
       []],
   .ret (.con (.bl true))]
def f_is_pairwise : Fn := ⟨["family", "m", "often", "even", "one", "other", "first", "second", "_", "table"], ["family", "m"], b_is_pairwise⟩
def b_line_tables : List St' :=
  [.asg (.nm 3) (.comp2 (.tup [.var 4, .var 5]) (.nm 4) .rng2 [.var 2, .var 0] (.nm 5) .rng1 [.var 0] [] [4, 5] [5]),
   .ret (.prim .tuple [.comp (.prim .tuple [.comp (.bop .mod (.bop .mod (.bop .add (.bop .mul (.var 4) (.var 6)) (.var 5)) (.var 0)) (.var 1)) (.nm 6) .rng1 [.var 0] [] [6]]) (.tup [4, 5]) .seq [.var 3] [] [4, 5]])]
def f_line_tables : Fn := ⟨["p", "m", "least", "keys", "a", "b", "x"], ["p", "m", "least"], b_line_tables⟩
def b_line_family : List St' :=
  [.expr (.call "check_prime" [.var 0]),
   .ifs (.not (.e (.call "is_number" [.var 1, .con (.int 2), .var 0])))
     [.raise "BadChoice" none]
     [],
   .ret (.call "line_tables" [.var 0, .var 1, .con (.int 1)])]
def f_line_family : Fn := ⟨["p", "m"], ["p", "m"], b_line_family⟩
def b_full_family : List St' :=
  [.expr (.call "check_prime" [.var 0]),
   .ret (.call "line_tables" [.var 0, .var 0, .con (.int 0)])]
def f_full_family : Fn := ⟨["p"], ["p"], b_full_family⟩
def b_put_behind : List St' :=
  [.expr (.call "check_many" [.var 1]),
   .expr (.call "check_many" [.var 3]),
   .expr (.call "check_family" [.var 0, .var 1]),
   .expr (.call "check_family" [.var 2, .var 3]),
   .ifs (.e (.cmp .ne (.prim .len [.idx (.var 2) (.con (.int 0))]) (.var 1)))
     [.raise "BadTable" (some (.var 2))]
     [],
   .ifs (.e (.cmp .gt (.bop .mul (.prim .len [.var 0]) (.prim .len [.var 2])) (.glob "MOST_KEYS")))
     [.raise "TooMany" none]
     [],
   .ret (.prim .tuple [.comp2 (.prim .tuple [.comp (.idx (.var 5) (.var 6)) (.nm 6) .seq [.var 4] [] [6]]) (.nm 4) .seq [.var 0] (.nm 5) .seq [.var 2] [] [4, 5] [5]])]
def f_put_behind : Fn := ⟨["family", "m", "other", "k", "first", "second", "worth"], ["family", "m", "other", "k"], b_put_behind⟩
def b_all_pairs : List St' :=
  [.ret (.comp2 (.tup [.var 2, .var 3]) (.nm 2) .rng1 [.prim .len [.idx (.var 0) (.con (.int 0))]] (.nm 3) .rng1 [.var 1] [] [2, 3] [3])]
def f_all_pairs : Fn := ⟨["family", "m", "number", "mark"], ["family", "m"], b_all_pairs⟩
def b_pairs_beside : List St' :=
  [.ret (.comp (.var 3) (.nm 3) .seq [.call "all_pairs" [.var 0, .var 1]] [.e (.cmp .ne (.idx (.var 3) (.con (.int 0))) (.var 2))] [3])]
def f_pairs_beside : Fn := ⟨["family", "m", "seen", "pair"], ["family", "m", "seen"], b_pairs_beside⟩
def b_best_pair : List St' :=
  [.asg (.nm 2) (.tup [.neg (.con (.int 1)), .con .non]),
   .loop (.tup [3, 4]) .seq [.var 1]
     [.asg (.nm 5) (.prim .len [.comp (.var 6) (.nm 6) .seq [.var 0] [.e (.cmp .eq (.idx (.var 6) (.var 3)) (.var 4))] [6]]),
     .ifs (.e (.cmp .gt (.var 5) (.idx (.var 2) (.con (.int 0)))))
       [.asg (.nm 2) (.tup [.var 5, .tup [.var 3, .var 4]])]
       []],
   .ret (.var 2)]
def f_best_pair : Fn := ⟨["tables", "pairs", "best", "number", "mark", "many", "table"], ["tables", "pairs"], b_best_pair⟩
def b_best_beside : List St' :=
  [.asg (.nm 3) (.call "pairs_beside" [.var 0, .var 1, .var 2]),
   .ret (.comp (.call "best_pair" [.comp (.var 5) (.nm 5) .seq [.var 0] [.e (.cmp .eq (.idx (.var 5) (.var 2)) (.var 4))] [5], .var 3]) (.nm 4) .rng1 [.var 1] [] [4])]
def f_best_beside : Fn := ⟨["family", "m", "seen", "pairs", "mark", "table"], ["family", "m", "seen"], b_best_beside⟩
def b_blind_share : List St' :=
  [.expr (.call "check_family" [.var 0, .var 1]),
   .ret (.call "fraction" [.idx (.call "best_pair" [.var 0, .call "all_pairs" [.var 0, .var 1]]) (.con (.int 0)), .prim .len [.var 0]])]
def f_blind_share : Fn := ⟨["family", "m"], ["family", "m"], b_blind_share⟩
def b_blind_pair : List St' :=
  [.expr (.call "check_family" [.var 0, .var 1]),
   .ret (.idx (.call "best_pair" [.var 0, .call "all_pairs" [.var 0, .var 1]]) (.con (.int 1)))]
def f_blind_pair : Fn := ⟨["family", "m"], ["family", "m"], b_blind_pair⟩
def b_forged_share : List St' :=
  [.expr (.call "check_family" [.var 0, .var 1]),
   .expr (.call "check_input" [.var 0, .var 2]),
   .ret (.call "fraction" [.prim .sum [.comp (.var 3) (.tup [3, 4]) .seq [.call "best_beside" [.var 0, .var 1, .var 2]] [] [3, 4]], .prim .len [.var 0]])]
def f_forged_share : Fn := ⟨["family", "m", "seen", "many", "_"], ["family", "m", "seen"], b_forged_share⟩
def b_forger : List St' :=
  [.expr (.call "check_family" [.var 0, .var 1]),
   .expr (.call "check_input" [.var 0, .var 2]),
   .ret (.prim .tuple [.comp (.var 4) (.tup [3, 4]) .seq [.call "best_beside" [.var 0, .var 1, .var 2]] [] [3, 4]])]
def f_forger : Fn := ⟨["family", "m", "seen", "_", "pair"], ["family", "m", "seen"], b_forger⟩
def b_is_forger : List St' :=
  [.ifs (.or (.not (.e (.prim (.isinst .tuple) [.var 3]))) (.e (.cmp .ne (.prim .len [.var 3]) (.var 1))))
     [.ret (.con (.bl false))]
     [],
   .ifs (.not (.e (.prim .all [.comp (.and (.prim (.isinst .tuple) [.var 5]) (.cmp .eq (.prim .len [.var 5]) (.con (.int 2)))) (.nm 5) .seq [.var 3] [] [5]])))
     [.ret (.con (.bl false))]
     [],
   .asg (.nm 4) (.bop .sub (.prim .len [.idx (.var 0) (.con (.int 0))]) (.con (.int 1))),
   .ret (.prim .all [.comp (.and (.call "is_number" [.var 6, .con (.int 0), .var 4]) (.and (.cmp .ne (.var 6) (.var 2)) (.call "is_number" [.var 7, .con (.int 0), .bop .sub (.var 1) (.con (.int 1))]))) (.tup [6, 7]) .seq [.var 3] [] [6, 7]])]
def f_is_forger : Fn := ⟨["family", "m", "seen", "named", "last", "pair", "one", "mark"], ["family", "m", "seen", "named"], b_is_forger⟩
def b_forger_share : List St' :=
  [.expr (.call "check_family" [.var 0, .var 1]),
   .expr (.call "check_input" [.var 0, .var 2]),
   .ifs (.not (.e (.call "is_forger" [.var 0, .var 1, .var 2, .var 3])))
     [.raise "BadTable" (some (.var 3))]
     [],
   .asg (.nm 4) (.comp (.tup [.var 5, .idx (.var 3) (.idx (.var 5) (.var 2))]) (.nm 5) .seq [.var 0] [] [5]),
   .ret (.call "fraction" [.prim .len [.comp (.con (.int 1)) (.tup [5, 6]) .seq [.var 4] [.e (.cmp .eq (.idx (.var 5) (.idx (.var 6) (.con (.int 0)))) (.idx (.var 6) (.con (.int 1))))] [5, 6]], .prim .len [.var 0]])]
def f_forger_share : Fn := ⟨["family", "m", "seen", "forger", "named", "table", "pair"], ["family", "m", "seen", "forger"], b_forger_share⟩
def b_worst_seen : List St' :=
  [.expr (.call "check_family" [.var 0, .var 1]),
   .asg (.nm 2) (.tup [.neg (.con (.int 1)), .con (.int 0)]),
   .loop (.nm 3) .rng1 [.prim .len [.idx (.var 0) (.con (.int 0))]]
     [.asg (.nm 4) (.prim .sum [.comp (.var 5) (.tup [5, 6]) .seq [.call "best_beside" [.var 0, .var 1, .var 3]] [] [5, 6]]),
     .ifs (.e (.cmp .gt (.var 4) (.idx (.var 2) (.con (.int 0)))))
       [.asg (.nm 2) (.tup [.var 4, .var 3])]
       []],
   .ret (.idx (.var 2) (.con (.int 1)))]
def f_worst_seen : Fn := ⟨["family", "m", "worst", "seen", "many", "found", "_"], ["family", "m"], b_worst_seen⟩
def b_keys_behind : List St' :=
  [.expr (.call "check_many" [.var 1]),
   .ifs (.not (.e (.call "is_number" [.var 3, .con (.int 0), .bop .sub (.var 1) (.con (.int 1))])))
     [.raise "BadChoice" none]
     [],
   .expr (.call "check_family" [.var 0, .var 1]),
   .expr (.call "check_input" [.var 0, .var 2]),
   .ret (.prim .tuple [.comp (.var 4) (.nm 4) .rng1 [.prim .len [.var 0]] [.e (.cmp .eq (.idx (.idx (.var 0) (.var 4)) (.var 2)) (.var 3))] [4]])]
def f_keys_behind : Fn := ⟨["family", "m", "seen", "mark", "key"], ["family", "m", "seen", "mark"], b_keys_behind⟩
def b_law_cut : List St' :=
  [.par 2 3 (.prim .abs [.var 0]) (.var 1),
   .while (.e (.cmp .gt (.var 3) (.con (.int 0))))
     [.par 2 3 (.var 3) (.bop .sub (.var 2) (.bop .mul (.bop .fdiv (.var 2) (.var 3)) (.var 3)))],
   .ret (.tup [.bop .fdiv (.var 0) (.var 2), .bop .fdiv (.var 1) (.var 2)])]
def f_law_cut : Fn := ⟨["num", "den", "one", "two"], ["num", "den"], b_law_cut⟩
def b_law_same : List St' :=
  [.ifs (.e (.prim (.isinst .tuple) [.var 1]))
     [.ifs (.or (.not (.e (.prim (.isinst .tuple) [.var 0]))) (.e (.cmp .ne (.prim .len [.var 0]) (.prim .len [.var 1]))))
       [.ret (.con (.bl false))]
       [],
     .ret (.prim .all [.comp (.call "_law_same" [.idx (.var 0) (.var 2), .idx (.var 1) (.var 2)]) (.nm 2) .rng1 [.prim .len [.var 1]] [] [2]])]
     [],
   .ifs (.e (.cmp .is_ (.var 1) (.con .non)))
     [.ret (.cmp .is_ (.var 0) (.con .non))]
     [],
   .ifs (.e (.cmp .is_ (.var 1) (.con (.bl true))))
     [.ret (.cmp .is_ (.var 0) (.con (.bl true)))]
     [],
   .ifs (.e (.cmp .is_ (.var 1) (.con (.bl false))))
     [.ret (.cmp .is_ (.var 0) (.con (.bl false)))]
     [],
   .ifs (.e (.prim (.isinst .str) [.var 1]))
     [.ret (.and (.prim (.isinst .str) [.var 0]) (.cmp .eq (.var 0) (.var 1)))]
     [],
   .ret (.and (.prim (.isinst .int) [.var 0]) (.and (.not (.prim (.isinst .bool) [.var 0])) (.cmp .eq (.var 0) (.var 1))))]
def f_law_same : Fn := ⟨["told", "due", "k"], ["told", "due"], b_law_same⟩
def b_law_drawn : List St' :=
  [.asg (.nm 4) (.call "_law_take" [.var 0, .con (.int 3)]),
   .own 5 (.lst []),
   .loop (.nm 6) .rng1 [.var 1]
     [.own 7 (.comp (.call "_law_take" [.var 0, .var 3]) (.nm 8) .rng1 [.var 2] [] [8]),
     .ifs (.e (.cmp .eq (.var 4) (.con (.int 1))))
       [.own 7 (.comp (.bop .mod (.prim .int [.var 10]) (.con (.int 2))) (.nm 10) .seq [.var 7] [] [10])]
       [.ifs (.and (.e (.cmp .eq (.var 4) (.con (.int 2)))) (.e (.cmp .gt (.var 6) (.con (.int 0)))))
         [.asg (.nm 9) (.idx (.var 7) (.con (.int 0))),
         .own 7 (.prim .list [.idx (.var 5) (.call "_law_take" [.var 0, .var 6])]),
         .setIx 7 (.call "_law_take" [.var 0, .var 2]) (.var 9)]
         []],
     .app 5 (.prim .tuple [.var 7])],
   .ret (.prim .tuple [.var 5])]
def f_law_drawn : Fn := ⟨["hand", "keys", "inputs", "m", "few", "rows", "key", "row", "x", "fresh", "cell"], ["hand", "keys", "inputs", "m"], b_law_drawn⟩
def b_law_lines : List St' :=
  [.own 3 (.lst []),
   .loop (.nm 4) .rng2 [.var 2, .var 0]
     [.loop (.nm 5) .rng1 [.var 0]
       [.app 3 (.prim .tuple [.comp (.bop .mod (.bop .mod (.prim .int [.bop .add (.bop .mul (.var 4) (.var 6)) (.var 5)]) (.var 0)) (.var 1)) (.nm 6) .rng1 [.var 0] [] [6]])]],
   .ret (.prim .tuple [.var 3])]
def f_law_lines : Fn := ⟨["p", "m", "least", "rows", "a", "b", "x"], ["p", "m", "least"], b_law_lines⟩
def b_law_family : List St' :=
  [.asg (.nm 1) (.call "_law_take" [.var 0, .con (.int 6)]),
   .asg (.nm 2) (.idx (.lst [.con (.int 2), .con (.int 3), .con (.int 3), .con (.int 2), .con (.int 3), .con (.int 5)]) (.call "_law_take" [.var 0, .con (.int 6)])),
   .ifs (.and (.e (.cmp .eq (.var 2) (.con (.int 5)))) (.e (.cmp .eq (.call "_law_take" [.var 0, .con (.int 6)]) (.con (.int 0)))))
     [.asg (.nm 2) (.con (.int 7))]
     [],
   .ifs (.e (.cmp .eq (.var 1) (.con (.int 0))))
     [.asg (.nm 3) (.bop .add (.con (.int 2)) (.call "_law_take" [.var 0, .bop .sub (.var 2) (.con (.int 1))])),
     .asg (.nm 4) (.call "line_family" [.var 2, .var 3]),
     .ifs (.not (.e (.call "_law_same" [.var 4, .call "_law_lines" [.var 2, .var 3, .con (.int 1)]])))
       [.ret (.con .non)]
       [],
     .ret (.tup [.var 4, .var 3, .bop .mul (.var 2) (.prim .int [.cmp .eq (.var 3) (.var 2)])])]
     [],
   .ifs (.e (.cmp .eq (.var 1) (.con (.int 1))))
     [.asg (.nm 4) (.call "full_family" [.var 2]),
     .ifs (.not (.e (.call "_law_same" [.var 4, .call "_law_lines" [.var 2, .var 2, .con (.int 0)]])))
       [.ret (.con .non)]
       [],
     .ret (.tup [.var 4, .var 2, .con (.int 0)])]
     [],
   .ifs (.e (.cmp .eq (.var 1) (.con (.int 2))))
     [.asg (.nm 5) (.call "_law_lines" [.con (.int 3), .con (.int 3), .con (.int 1)]),
     .asg (.nm 6) (.bop .add (.con (.int 2)) (.call "_law_take" [.var 0, .con (.int 3)])),
     .asg (.nm 7) (.call "_law_drawn" [.var 0, .bop .add (.con (.int 1)) (.call "_law_take" [.var 0, .con (.int 3)]), .con (.int 3), .var 6]),
     .own 8 (.lst []),
     .loop (.nm 9) .seq [.var 5]
       [.loop (.nm 10) .seq [.var 7]
         [.app 8 (.prim .tuple [.comp (.idx (.var 10) (.var 11)) (.nm 11) .seq [.var 9] [] [11]])]],
     .asg (.nm 4) (.call "put_behind" [.var 5, .con (.int 3), .var 7, .var 6]),
     .ifs (.not (.e (.call "_law_same" [.var 4, .prim .tuple [.var 8]])))
       [.ret (.con .non)]
       [],
     .ret (.tup [.var 4, .var 6, .con (.int 0)])]
     [],
   .ifs (.e (.cmp .eq (.call "_law_take" [.var 0, .con (.int 8)]) (.con (.int 0))))
     [.asg (.nm 3) (.bop .add (.con (.int 5)) (.call "_law_take" [.var 0, .con (.int 2)])),
     .ret (.tup [.call "_law_drawn" [.var 0, .bop .add (.con (.int 9)) (.call "_law_take" [.var 0, .con (.int 8)]), .bop .add (.con (.int 4)) (.call "_law_take" [.var 0, .con (.int 2)]), .var 3], .var 3, .con (.int 0)])]
     [],
   .asg (.nm 3) (.bop .add (.con (.int 2)) (.call "_law_take" [.var 0, .con (.int 3)])),
   .ret (.tup [.call "_law_drawn" [.var 0, .bop .add (.con (.int 1)) (.call "_law_take" [.var 0, .con (.int 7)]), .bop .add (.con (.int 2)) (.call "_law_take" [.var 0, .con (.int 3)]), .var 3], .var 3, .con (.int 0)])]
def f_law_family : Fn := ⟨["hand", "kind", "p", "m", "family", "first", "k", "second", "due", "one", "two", "value"], ["hand"], b_law_family⟩
def b_law_best : List St' :=
  [.asg (.nm 3) (.tup [.neg (.con (.int 1)), .con .non]),
   .loop (.nm 4) .rng1 [.prim .len [.idx (.var 0) (.con (.int 0))]]
     [.ifs (.e (.cmp .eq (.var 4) (.var 2)))
       [.cont]
       [],
     .asg (.nm 5) (.comp (.idx (.var 8) (.var 4)) (.nm 8) .seq [.slc (.var 0) (some (.con (.int 1))) none] [] [8]),
     .loop (.nm 6) .rng1 [.var 1]
       [.asg (.nm 7) (.meth .count (.var 5) [.var 6]),
       .ifs (.e (.cmp .gt (.var 7) (.idx (.var 3) (.con (.int 0)))))
         [.asg (.nm 3) (.tup [.var 7, .tup [.var 4, .var 6]])]
         []]],
   .ret (.var 3)]
def f_law_best : Fn := ⟨["rows", "m", "seen", "best", "x", "column", "v", "many", "row"], ["rows", "m", "seen"], b_law_best⟩
def b_law_forger : List St' :=
  [.parP 4 5 (.con (.int 0)) (.lst []),
   .loop (.nm 3) .rng1 [.var 1]
     [.asg (.nm 6) (.call "_law_best" [.bop .add (.lst [.idx (.var 0) (.con (.int 0))]) (.comp (.var 7) (.nm 7) .seq [.var 0] [.e (.cmp .eq (.idx (.var 7) (.var 2)) (.var 3))] [7]), .var 1, .var 2]),
     .asg (.nm 4) (.bop .add (.var 4) (.idx (.var 6) (.con (.int 0)))),
     .app 5 (.idx (.var 6) (.con (.int 1)))],
   .ret (.tup [.var 4, .prim .tuple [.var 5]])]
def f_law_forger : Fn := ⟨["family", "m", "seen", "mark", "many", "named", "best", "table"], ["family", "m", "seen"], b_law_forger⟩
def b_law_told : List St' :=
  [.tryM
     [.ifs (.e (.cmp .eq (.var 0) (.con (.str "blind"))))
       [.ret (.tup [.con (.str "told"), .call "blind_share" [.var 1, .var 2], .con (.bl true)])]
       [],
     .ifs (.e (.cmp .eq (.var 0) (.con (.str "pair"))))
       [.ret (.tup [.con (.str "told"), .call "blind_pair" [.var 1, .var 2], .con (.bl true)])]
       [],
     .ifs (.e (.cmp .eq (.var 0) (.con (.str "worst"))))
       [.ret (.tup [.con (.str "told"), .call "worst_seen" [.var 1, .var 2], .con (.bl true)])]
       [],
     .ifs (.e (.cmp .eq (.var 0) (.con (.str "behind"))))
       [.ret (.tup [.con (.str "told"), .call "keys_behind" [.var 1, .var 2, .var 3, .con (.int 0)], .con (.bl true)])]
       [],
     .ifs (.e (.cmp .eq (.var 0) (.con (.str "forged"))))
       [.ret (.tup [.con (.str "told"), .call "forged_share" [.var 1, .var 2, .var 3], .con (.bl true)])]
       [],
     .ifs (.e (.cmp .eq (.var 0) (.con (.str "forger"))))
       [.ret (.tup [.con (.str "told"), .call "forger" [.var 1, .var 2, .var 3], .con (.bl true)])]
       [],
     .ret (.tup [.con (.str "told"), .call "forger_share" [.var 1, .var 2, .var 3, .var 4], .con (.bl true)])] [⟨"BadTable", 5, [(6, .and (.isa "BreakError") (.isa "ValueError"))], true, [.con (.str "table"), .val, .and (.var 6) (.not (.isa "BadChoice"))]⟩, ⟨"BadChoice", 5, [], true, [.con (.str "choice"), .con .non, .and (.isa "BreakError") (.isa "ValueError")]⟩]]
def f_law_told : Fn := ⟨["name", "family", "m", "seen", "names", "e", "alone"], ["name", "family", "m", "seen", "names"], b_law_told⟩
def b_law_refusals : List St' :=
  [.asg (.nm 5) (.prim .len [.idx (.var 1) (.con (.int 0))]),
   .asg (.nm 6) (.idx (.lst [.prim .list [.var 1], .tup [], .bop .add (.var 1) (.tup [.bop .add (.idx (.var 1) (.con (.int 0))) (.tup [.con (.int 0)])]), .bop .add (.slc (.var 1) none (some (.neg (.con (.int 1))))) (.tup [.bop .mul (.tup [.var 2]) (.var 5)]), .con .non]) (.call "_law_take" [.var 0, .con (.int 5)])),
   .asg (.nm 7) (.idx (.lst [.neg (.con (.int 1)), .var 5, .bop .add (.var 5) (.con (.int 1))]) (.call "_law_take" [.var 0, .con (.int 3)])),
   .asg (.nm 8) (.idx (.lst [.con (.int 1), .con (.int 33), .con (.int 0), .neg (.con (.int 1))]) (.call "_law_take" [.var 0, .con (.int 4)])),
   .loop (.nm 9) .seq [.lst [.con (.str "blind"), .con (.str "pair"), .con (.str "worst"), .con (.str "behind"), .con (.str "forged"), .con (.str "forger"), .con (.str "share")]]
     [.ifs (.e (.cmp .ne (.call "_law_told" [.var 9, .var 6, .var 2, .var 3, .var 4]) (.tup [.con (.str "table"), .var 6, .con (.bl true)])))
       [.ret (.con (.bl false))]
       [],
     .ifs (.e (.cmp .ne (.call "_law_told" [.var 9, .var 6, .var 8, .var 3, .var 4]) (.tup [.con (.str "choice"), .con .non, .con (.bl true)])))
       [.ret (.con (.bl false))]
       [],
     .ifs (.e (.cmp .in_ (.var 9) (.lst [.con (.str "behind"), .con (.str "forged"), .con (.str "forger"), .con (.str "share")])))
       [.ifs (.e (.cmp .ne (.call "_law_told" [.var 9, .var 1, .var 2, .var 7, .var 4]) (.tup [.con (.str "choice"), .con .non, .con (.bl true)])))
         [.ret (.con (.bl false))]
         [],
       .ifs (.e (.cmp .ne (.call "_law_told" [.var 9, .var 6, .var 2, .var 7, .var 4]) (.tup [.con (.str "table"), .var 6, .con (.bl true)])))
         [.ret (.con (.bl false))]
         []]
       []],
   .asg (.nm 10) (.call "_law_take" [.var 0, .var 2]),
   .asg (.nm 11) (.bop .add (.bop .add (.slc (.var 4) none (some (.var 10))) (.tup [.tup [.var 3, .call "_law_take" [.var 0, .var 2]]])) (.slc (.var 4) (some (.bop .add (.var 10) (.con (.int 1)))) none)),
   .loop (.nm 12) .seq [.lst [.var 11, .slc (.var 4) (some (.con (.int 1))) none, .bop .add (.var 4) (.slc (.var 4) none (some (.con (.int 1)))), .prim .list [.var 4], .bop .add (.bop .add (.slc (.var 4) none (some (.var 10))) (.tup [.con .non])) (.slc (.var 4) (some (.bop .add (.var 10) (.con (.int 1)))) none), .con .non]]
     [.ifs (.e (.cmp .ne (.call "_law_told" [.con (.str "share"), .var 1, .var 2, .var 3, .var 12]) (.tup [.con (.str "table"), .var 12, .con (.bl true)])))
       [.ret (.con (.bl false))]
       []],
   .ret (.cmp .eq (.call "_law_told" [.con (.str "share"), .var 1, .var 2, .var 7, .var 11]) (.tup [.con (.str "choice"), .con .non, .con (.bl true)]))]
def f_law_refusals : Fn := ⟨["hand", "family", "m", "seen", "names", "inputs", "odd", "out", "bad", "name", "at", "other", "wrong"], ["hand", "family", "m", "seen", "names"], b_law_refusals⟩
def b_law_blind : List St' :=
  [.asg (.nm 3) (.call "_law_best" [.bop .add (.lst [.idx (.var 0) (.con (.int 0))]) (.prim .list [.var 0]), .var 1, .neg (.con (.int 1))]),
   .ifs (.or (.e (.cmp .lt (.bop .mul (.idx (.var 3) (.con (.int 0))) (.var 1)) (.prim .len [.var 0]))) (.and (.e (.var 2)) (.e (.cmp .ne (.bop .mul (.idx (.var 3) (.con (.int 0))) (.var 1)) (.prim .len [.var 0])))))
     [.ret (.con (.bl false))]
     [],
   .ret (.call "_law_same" [.tup [.call "blind_share" [.var 0, .var 1], .call "blind_pair" [.var 0, .var 1]], .tup [.call "_law_cut" [.idx (.var 3) (.con (.int 0)), .prim .len [.var 0]], .idx (.var 3) (.con (.int 1))]])]
def f_law_blind : Fn := ⟨["family", "m", "evenly", "best"], ["family", "m", "evenly"], b_law_blind⟩
def b_law_seen : List St' :=
  [.asg (.nm 5) (.prim .len [.idx (.var 1) (.con (.int 0))]),
   .asg (.nm 6) (.comp (.comp (.var 13) (.nm 13) .rng1 [.prim .len [.var 1]] [.e (.cmp .eq (.idx (.idx (.var 1) (.var 13)) (.var 3)) (.var 9))] [13]) (.nm 9) .rng1 [.var 2] [] [9]),
   .ifs (.not (.e (.call "_law_same" [.prim .tuple [.comp (.call "keys_behind" [.var 1, .var 2, .var 3, .var 9]) (.nm 9) .rng1 [.var 2] [] [9]], .prim .tuple [.comp (.prim .tuple [.var 14]) (.nm 14) .seq [.var 6] [] [14]]])))
     [.ret (.con (.bl false))]
     [],
   .asg (.nm 7) (.call "_law_cut" [.idx (.var 4) (.con (.int 0)), .prim .len [.var 1]]),
   .ifs (.or (.not (.e (.call "_law_same" [.call "forged_share" [.var 1, .var 2, .var 3], .var 7]))) (.not (.e (.call "_law_same" [.call "forger" [.var 1, .var 2, .var 3], .idx (.var 4) (.con (.int 1))]))))
     [.ret (.con (.bl false))]
     [],
   .ifs (.or (.not (.e (.call "_law_same" [.call "forger_share" [.var 1, .var 2, .var 3, .idx (.var 4) (.con (.int 1))], .var 7]))) (.e (.cmp .lt (.bop .mul (.idx (.var 7) (.con (.int 0))) (.var 2)) (.idx (.var 7) (.con (.int 1))))))
     [.ret (.con (.bl false))]
     [],
   .own 8 (.lst []),
   .loop (.nm 9) .rng1 [.var 2]
     [.app 8 (.tup [.bop .mod (.prim .int [.bop .add (.bop .add (.var 3) (.con (.int 1))) (.call "_law_take" [.var 0, .bop .sub (.var 5) (.con (.int 1))])]) (.var 5), .call "_law_take" [.var 0, .var 2]])],
   .asg (.nm 10) (.con (.int 0)),
   .loop (.nm 11) .seq [.var 1]
     [.asg (.nm 12) (.idx (.var 8) (.idx (.var 11) (.var 3))),
     .asg (.nm 10) (.bop .add (.var 10) (.prim .int [.cmp .eq (.idx (.var 11) (.idx (.var 12) (.con (.int 0)))) (.idx (.var 12) (.con (.int 1)))]))],
   .ret (.call "_law_same" [.call "forger_share" [.var 1, .var 2, .var 3, .prim .tuple [.var 8]], .call "_law_cut" [.var 10, .prim .len [.var 1]]])]
def f_law_seen : Fn := ⟨["hand", "family", "m", "seen", "due", "inputs", "left", "share", "names", "mark", "many", "table", "name", "key", "row"], ["hand", "family", "m", "seen", "due"], b_law_seen⟩
def b_law_pairwise : List St' :=
  [.loop (.nm 2) .rng1 [.prim .len [.idx (.var 0) (.con (.int 0))]]
     [.loop (.nm 3) .rng1 [.var 2]
       [.asg (.nm 4) (.comp (.bop .add (.bop .mul (.idx (.var 5) (.var 2)) (.var 1)) (.idx (.var 5) (.var 3))) (.nm 5) .seq [.var 0] [] [5]),
       .ifs (.not (.e (.prim .all [.comp (.cmp .eq (.bop .mul (.bop .mul (.meth .count (.var 4) [.var 6]) (.var 1)) (.var 1)) (.prim .len [.var 0])) (.nm 6) .rng1 [.bop .mul (.var 1) (.var 1)] [] [6]])))
         [.ret (.con (.bl false))]
         []]],
   .ret (.con (.bl true))]
def f_law_pairwise : Fn := ⟨["family", "m", "one", "other", "pairs", "table", "pair"], ["family", "m"], b_law_pairwise⟩
def b_law : List St' :=
  [
   .asg (.nm 2) (.call "_law_family" [.var 1]),
   .ifs (.e (.cmp .is_ (.var 2) (.con .non)))
     [.ret (.con (.bl false))]
     [],
   .asg (.tup [9, 10, 11]) (.var 2),
   .asg (.nm 3) (.prim .len [.idx (.var 9) (.con (.int 0))]),
   .asg (.nm 4) (.comp (.call "_law_forger" [.var 9, .var 10, .var 8]) (.nm 8) .rng1 [.var 3] [] [8]),
   .asg (.nm 5) (.prim .max1 [.comp (.idx (.var 12) (.con (.int 0))) (.nm 12) .seq [.var 4] [] [12]]),
   .asg (.nm 6) (.call "_law_pairwise" [.var 9, .var 10]),
   .ifs (.not (.e (.call "_law_same" [.call "worst_seen" [.var 9, .var 10], .meth .index (.comp (.idx (.var 12) (.con (.int 0))) (.nm 12) .seq [.var 4] [] [12]) [.var 5]])))
     [.ret (.con (.bl false))]
     [],
   .ifs (.not (.e (.call "_law_blind" [.var 9, .var 10, .var 6])))
     [.ret (.con (.bl false))]
     [],
   .ifs (.not (.e (.call "_law_same" [.call "is_pairwise" [.var 9, .var 10], .var 6])))
     [.ret (.con (.bl false))]
     [],
   .asg (.nm 7) (.call "_law_take" [.var 1, .var 3]),
   .loop (.nm 8) .rng1 [.var 3]
     [.ifs (.and (.e (.var 6)) (.e (.cmp .ne (.bop .mul (.idx (.idx (.var 4) (.var 8)) (.con (.int 0))) (.var 10)) (.prim .len [.var 9]))))
       [.ret (.con (.bl false))]
       [],
     .ifs (.and (.e (.cmp .gt (.var 11) (.con (.int 0)))) (.e (.cmp .ne (.bop .mul (.idx (.idx (.var 4) (.var 8)) (.con (.int 0))) (.bop .sub (.var 11) (.con (.int 1)))) (.prim .len [.var 9]))))
       [.ret (.con (.bl false))]
       [],
     .ifs (.or (.e (.cmp .le (.prim .len [.var 9]) (.con (.int 4)))) (.e (.cmp .eq (.var 8) (.var 7))))
       [.ifs (.not (.e (.call "_law_seen" [.var 1, .var 9, .var 10, .var 8, .idx (.var 4) (.var 8)])))
         [.ret (.con (.bl false))]
         []]
       []],
   .ret (.call "_law_refusals" [.var 1, .var 9, .var 10, .var 7, .idx (.idx (.var 4) (.var 7)) (.con (.int 1))])]
def f_law : Fn := ⟨["script", "hand", "made", "inputs", "dues", "greatest", "evenly", "drawn", "seen", "family", "m", "line", "due"], ["script"], b_law⟩
def table : List (Str × Fn) := [(("is_number" : Str), f_is_number), (("fraction" : Str), f_fraction), (("check_many" : Str), f_check_many), (("check_prime" : Str), f_check_prime), (("is_table" : Str), f_is_table), (("is_family" : Str), f_is_family), (("check_family" : Str), f_check_family), (("check_input" : Str), f_check_input), (("pairs_below" : Str), f_pairs_below), (("is_pairwise" : Str), f_is_pairwise), (("line_tables" : Str), f_line_tables), (("line_family" : Str), f_line_family), (("full_family" : Str), f_full_family), (("put_behind" : Str), f_put_behind), (("all_pairs" : Str), f_all_pairs), (("pairs_beside" : Str), f_pairs_beside), (("best_pair" : Str), f_best_pair), (("best_beside" : Str), f_best_beside), (("blind_share" : Str), f_blind_share), (("blind_pair" : Str), f_blind_pair), (("forged_share" : Str), f_forged_share), (("forger" : Str), f_forger), (("is_forger" : Str), f_is_forger), (("forger_share" : Str), f_forger_share), (("worst_seen" : Str), f_worst_seen), (("keys_behind" : Str), f_keys_behind), (("_law_cut" : Str), f_law_cut), (("_law_same" : Str), f_law_same), (("_law_drawn" : Str), f_law_drawn), (("_law_lines" : Str), f_law_lines), (("_law_family" : Str), f_law_family), (("_law_best" : Str), f_law_best), (("_law_forger" : Str), f_law_forger), (("_law_told" : Str), f_law_told), (("_law_refusals" : Str), f_law_refusals), (("_law_blind" : Str), f_law_blind), (("_law_seen" : Str), f_law_seen), (("_law_pairwise" : Str), f_law_pairwise)]
abbrev s_is_number : PySem.Stmt := topS 7
abbrev s_fraction : PySem.Stmt := topS 9
abbrev s_check_many : PySem.Stmt := topS 13
abbrev s_check_prime : PySem.Stmt := topS 14
abbrev s_is_table : PySem.Stmt := topS 15
abbrev s_is_family : PySem.Stmt := topS 16
abbrev s_check_family : PySem.Stmt := topS 17
abbrev s_check_input : PySem.Stmt := topS 18
abbrev s_pairs_below : PySem.Stmt := topS 19
abbrev s_is_pairwise : PySem.Stmt := topS 20
abbrev s_line_tables : PySem.Stmt := topS 21
abbrev s_line_family : PySem.Stmt := topS 22
abbrev s_full_family : PySem.Stmt := topS 23
abbrev s_put_behind : PySem.Stmt := topS 24
abbrev s_all_pairs : PySem.Stmt := topS 26
abbrev s_pairs_beside : PySem.Stmt := topS 27
abbrev s_best_pair : PySem.Stmt := topS 28
abbrev s_best_beside : PySem.Stmt := topS 29
abbrev s_blind_share : PySem.Stmt := topS 30
abbrev s_blind_pair : PySem.Stmt := topS 31
abbrev s_forged_share : PySem.Stmt := topS 32
abbrev s_forger : PySem.Stmt := topS 33
abbrev s_is_forger : PySem.Stmt := topS 34
abbrev s_forger_share : PySem.Stmt := topS 35
abbrev s_worst_seen : PySem.Stmt := topS 36
abbrev s_keys_behind : PySem.Stmt := topS 37
abbrev s_law_hand : PySem.Stmt := topS 39
abbrev s_law_take : PySem.Stmt := topS 40
abbrev s_law_cut : PySem.Stmt := topS 41
abbrev s_law_same : PySem.Stmt := topS 42
abbrev s_law_drawn : PySem.Stmt := topS 43
abbrev s_law_lines : PySem.Stmt := topS 44
abbrev s_law_family : PySem.Stmt := topS 45
abbrev s_law_best : PySem.Stmt := topS 46
abbrev s_law_forger : PySem.Stmt := topS 47
abbrev s_law_told : PySem.Stmt := topS 48
abbrev s_law_refusals : PySem.Stmt := topS 49
abbrev s_law_blind : PySem.Stmt := topS 50
abbrev s_law_seen : PySem.Stmt := topS 51
abbrev s_law_pairwise : PySem.Stmt := topS 52
abbrev s_law : PySem.Stmt := topS 53
-- globals used: ['MOST_KEYS', 'MOST_VALUES']
theorem sc_is_number : FnScope f_is_number.names f_is_number.params (defScope s_is_number) := ⟨rfl, rfl, rfl, by decide +kernel, rfl, by decide +kernel, by decide +kernel⟩
theorem ck_is_number : ckF true 60 20 s_is_number f_is_number = true := by decide +kernel
theorem sc_fraction : FnScope f_fraction.names f_fraction.params (defScope s_fraction) := ⟨rfl, rfl, rfl, by decide +kernel, rfl, by decide +kernel, by decide +kernel⟩
theorem ck_fraction : ckF true 60 20 s_fraction f_fraction = true := by decide +kernel
theorem sc_check_many : FnScope f_check_many.names f_check_many.params (defScope s_check_many) := ⟨rfl, rfl, rfl, by decide +kernel, rfl, by decide +kernel, by decide +kernel⟩
theorem ck_check_many : ckF true 60 20 s_check_many f_check_many = true := by decide +kernel
theorem sc_check_prime : FnScope f_check_prime.names f_check_prime.params (defScope s_check_prime) := ⟨rfl, rfl, rfl, by decide +kernel, rfl, by decide +kernel, by decide +kernel⟩
theorem ck_check_prime : ckF true 60 20 s_check_prime f_check_prime = true := by decide +kernel
theorem sc_is_table : FnScope f_is_table.names f_is_table.params (defScope s_is_table) := ⟨rfl, rfl, rfl, by decide +kernel, rfl, by decide +kernel, by decide +kernel⟩
theorem ck_is_table : ckF true 60 20 s_is_table f_is_table = true := by decide +kernel
theorem sc_is_family : FnScope f_is_family.names f_is_family.params (defScope s_is_family) := ⟨rfl, rfl, rfl, by decide +kernel, rfl, by decide +kernel, by decide +kernel⟩
theorem ck_is_family : ckF true 60 20 s_is_family f_is_family = true := by decide +kernel
theorem sc_check_family : FnScope f_check_family.names f_check_family.params (defScope s_check_family) := ⟨rfl, rfl, rfl, by decide +kernel, rfl, by decide +kernel, by decide +kernel⟩
theorem ck_check_family : ckF true 60 20 s_check_family f_check_family = true := by decide +kernel
theorem sc_check_input : FnScope f_check_input.names f_check_input.params (defScope s_check_input) := ⟨rfl, rfl, rfl, by decide +kernel, rfl, by decide +kernel, by decide +kernel⟩
theorem ck_check_input : ckF true 60 20 s_check_input f_check_input = true := by decide +kernel
theorem sc_pairs_below : FnScope f_pairs_below.names f_pairs_below.params (defScope s_pairs_below) := ⟨rfl, rfl, rfl, by decide +kernel, rfl, by decide +kernel, by decide +kernel⟩
theorem ck_pairs_below : ckF true 60 20 s_pairs_below f_pairs_below = true := by decide +kernel
theorem sc_is_pairwise : FnScope f_is_pairwise.names f_is_pairwise.params (defScope s_is_pairwise) := ⟨rfl, rfl, rfl, by decide +kernel, rfl, by decide +kernel, by decide +kernel⟩
theorem ck_is_pairwise : ckF true 60 20 s_is_pairwise f_is_pairwise = true := by decide +kernel
theorem sc_line_tables : FnScope f_line_tables.names f_line_tables.params (defScope s_line_tables) := ⟨rfl, rfl, rfl, by decide +kernel, rfl, by decide +kernel, by decide +kernel⟩
theorem ck_line_tables : ckF true 60 20 s_line_tables f_line_tables = true := by decide +kernel
theorem sc_line_family : FnScope f_line_family.names f_line_family.params (defScope s_line_family) := ⟨rfl, rfl, rfl, by decide +kernel, rfl, by decide +kernel, by decide +kernel⟩
theorem ck_line_family : ckF true 60 20 s_line_family f_line_family = true := by decide +kernel
theorem sc_full_family : FnScope f_full_family.names f_full_family.params (defScope s_full_family) := ⟨rfl, rfl, rfl, by decide +kernel, rfl, by decide +kernel, by decide +kernel⟩
theorem ck_full_family : ckF true 60 20 s_full_family f_full_family = true := by decide +kernel
theorem sc_put_behind : FnScope f_put_behind.names f_put_behind.params (defScope s_put_behind) := ⟨rfl, rfl, rfl, by decide +kernel, rfl, by decide +kernel, by decide +kernel⟩
theorem ck_put_behind : ckF true 60 20 s_put_behind f_put_behind = true := by decide +kernel
theorem sc_all_pairs : FnScope f_all_pairs.names f_all_pairs.params (defScope s_all_pairs) := ⟨rfl, rfl, rfl, by decide +kernel, rfl, by decide +kernel, by decide +kernel⟩
theorem ck_all_pairs : ckF true 60 20 s_all_pairs f_all_pairs = true := by decide +kernel
theorem sc_pairs_beside : FnScope f_pairs_beside.names f_pairs_beside.params (defScope s_pairs_beside) := ⟨rfl, rfl, rfl, by decide +kernel, rfl, by decide +kernel, by decide +kernel⟩
theorem ck_pairs_beside : ckF true 60 20 s_pairs_beside f_pairs_beside = true := by decide +kernel
theorem sc_best_pair : FnScope f_best_pair.names f_best_pair.params (defScope s_best_pair) := ⟨rfl, rfl, rfl, by decide +kernel, rfl, by decide +kernel, by decide +kernel⟩
theorem ck_best_pair : ckF true 60 20 s_best_pair f_best_pair = true := by decide +kernel
theorem sc_best_beside : FnScope f_best_beside.names f_best_beside.params (defScope s_best_beside) := ⟨rfl, rfl, rfl, by decide +kernel, rfl, by decide +kernel, by decide +kernel⟩
theorem ck_best_beside : ckF true 60 20 s_best_beside f_best_beside = true := by decide +kernel
theorem sc_blind_share : FnScope f_blind_share.names f_blind_share.params (defScope s_blind_share) := ⟨rfl, rfl, rfl, by decide +kernel, rfl, by decide +kernel, by decide +kernel⟩
theorem ck_blind_share : ckF true 60 20 s_blind_share f_blind_share = true := by decide +kernel
theorem sc_blind_pair : FnScope f_blind_pair.names f_blind_pair.params (defScope s_blind_pair) := ⟨rfl, rfl, rfl, by decide +kernel, rfl, by decide +kernel, by decide +kernel⟩
theorem ck_blind_pair : ckF true 60 20 s_blind_pair f_blind_pair = true := by decide +kernel
theorem sc_forged_share : FnScope f_forged_share.names f_forged_share.params (defScope s_forged_share) := ⟨rfl, rfl, rfl, by decide +kernel, rfl, by decide +kernel, by decide +kernel⟩
theorem ck_forged_share : ckF true 60 20 s_forged_share f_forged_share = true := by decide +kernel
theorem sc_forger : FnScope f_forger.names f_forger.params (defScope s_forger) := ⟨rfl, rfl, rfl, by decide +kernel, rfl, by decide +kernel, by decide +kernel⟩
theorem ck_forger : ckF true 60 20 s_forger f_forger = true := by decide +kernel
theorem sc_is_forger : FnScope f_is_forger.names f_is_forger.params (defScope s_is_forger) := ⟨rfl, rfl, rfl, by decide +kernel, rfl, by decide +kernel, by decide +kernel⟩
theorem ck_is_forger : ckF true 60 20 s_is_forger f_is_forger = true := by decide +kernel
theorem sc_forger_share : FnScope f_forger_share.names f_forger_share.params (defScope s_forger_share) := ⟨rfl, rfl, rfl, by decide +kernel, rfl, by decide +kernel, by decide +kernel⟩
theorem ck_forger_share : ckF true 60 20 s_forger_share f_forger_share = true := by decide +kernel
theorem sc_worst_seen : FnScope f_worst_seen.names f_worst_seen.params (defScope s_worst_seen) := ⟨rfl, rfl, rfl, by decide +kernel, rfl, by decide +kernel, by decide +kernel⟩
theorem ck_worst_seen : ckF true 60 20 s_worst_seen f_worst_seen = true := by decide +kernel
theorem sc_keys_behind : FnScope f_keys_behind.names f_keys_behind.params (defScope s_keys_behind) := ⟨rfl, rfl, rfl, by decide +kernel, rfl, by decide +kernel, by decide +kernel⟩
theorem ck_keys_behind : ckF true 60 20 s_keys_behind f_keys_behind = true := by decide +kernel
theorem sc_law_cut : FnScope f_law_cut.names f_law_cut.params (defScope s_law_cut) := ⟨rfl, rfl, rfl, by decide +kernel, rfl, by decide +kernel, by decide +kernel⟩
theorem ck_law_cut : ckF true 60 20 s_law_cut f_law_cut = true := by decide +kernel
theorem sc_law_same : FnScope f_law_same.names f_law_same.params (defScope s_law_same) := ⟨rfl, rfl, rfl, by decide +kernel, rfl, by decide +kernel, by decide +kernel⟩
theorem ck_law_same : ckF true 60 20 s_law_same f_law_same = true := by decide +kernel
theorem sc_law_drawn : FnScope f_law_drawn.names f_law_drawn.params (defScope s_law_drawn) := ⟨rfl, rfl, rfl, by decide +kernel, rfl, by decide +kernel, by decide +kernel⟩
theorem ck_law_drawn : ckF true 60 20 s_law_drawn f_law_drawn = true := by decide +kernel
theorem sc_law_lines : FnScope f_law_lines.names f_law_lines.params (defScope s_law_lines) := ⟨rfl, rfl, rfl, by decide +kernel, rfl, by decide +kernel, by decide +kernel⟩
theorem ck_law_lines : ckF true 60 20 s_law_lines f_law_lines = true := by decide +kernel
theorem sc_law_family : FnScope f_law_family.names f_law_family.params (defScope s_law_family) := ⟨rfl, rfl, rfl, by decide +kernel, rfl, by decide +kernel, by decide +kernel⟩
theorem ck_law_family : ckF true 60 20 s_law_family f_law_family = true := by decide +kernel
theorem sc_law_best : FnScope f_law_best.names f_law_best.params (defScope s_law_best) := ⟨rfl, rfl, rfl, by decide +kernel, rfl, by decide +kernel, by decide +kernel⟩
theorem ck_law_best : ckF true 60 20 s_law_best f_law_best = true := by decide +kernel
theorem sc_law_forger : FnScope f_law_forger.names f_law_forger.params (defScope s_law_forger) := ⟨rfl, rfl, rfl, by decide +kernel, rfl, by decide +kernel, by decide +kernel⟩
theorem ck_law_forger : ckF true 60 20 s_law_forger f_law_forger = true := by decide +kernel
theorem sc_law_told : FnScope f_law_told.names f_law_told.params (defScope s_law_told) := ⟨rfl, rfl, rfl, by decide +kernel, rfl, by decide +kernel, by decide +kernel⟩
theorem ck_law_told : ckF true 60 20 s_law_told f_law_told = true := by decide +kernel
theorem sc_law_refusals : FnScope f_law_refusals.names f_law_refusals.params (defScope s_law_refusals) := ⟨rfl, rfl, rfl, by decide +kernel, rfl, by decide +kernel, by decide +kernel⟩
theorem ck_law_refusals : ckF true 60 20 s_law_refusals f_law_refusals = true := by decide +kernel
theorem sc_law_blind : FnScope f_law_blind.names f_law_blind.params (defScope s_law_blind) := ⟨rfl, rfl, rfl, by decide +kernel, rfl, by decide +kernel, by decide +kernel⟩
theorem ck_law_blind : ckF true 60 20 s_law_blind f_law_blind = true := by decide +kernel
theorem sc_law_seen : FnScope f_law_seen.names f_law_seen.params (defScope s_law_seen) := ⟨rfl, rfl, rfl, by decide +kernel, rfl, by decide +kernel, by decide +kernel⟩
theorem ck_law_seen : ckF true 60 20 s_law_seen f_law_seen = true := by decide +kernel
theorem sc_law_pairwise : FnScope f_law_pairwise.names f_law_pairwise.params (defScope s_law_pairwise) := ⟨rfl, rfl, rfl, by decide +kernel, rfl, by decide +kernel, by decide +kernel⟩
theorem ck_law_pairwise : ckF true 60 20 s_law_pairwise f_law_pairwise = true := by decide +kernel
theorem sc_law : FnScope f_law.names f_law.params (defScope s_law) := ⟨rfl, rfl, rfl, by decide +kernel, rfl, by decide +kernel, by decide +kernel⟩
theorem ck_law_rest : ckSs (ckS f_law.names true 60 (defScope s_law) 20) ((defBody s_law).drop 1) f_law.body = true := by decide +kernel
end K64
set_option Elab.async false
set_option linter.all false
set_option maxRecDepth 100000
set_option maxHeartbeats 4000000
namespace K64
open PySem PySem.Spec PyProof.Rows L2 PV
/-! the hand of draws (its second form) -/
structure HS where
  at_ : Int
  low : List Int
  great : List Int
structure HS.Ok (s : HS) : Prop where
  len : s.great.length = s.low.length
  few : s.low.length ≤ 63
  at0 : 0 ≤ s.at_
def mixV (k cell n : Int) : Int :=
  let x := (cell * 48271 + k * 69621 + 11) % 2147483647
  let mixed := (x * x / 4096 + x) % 2147483629
  (mixed * mixed / 4096 + k * 7919) % 2147483629 / 7 % n
def takeV (s : HS) (n : Int) : Int × HS :=
  if s.low = [] then (mixV s.at_ s.at_ n, ⟨s.at_ + 1, s.low, s.great⟩)
  else
    let place := (s.at_ % (s.low.length : Int)).toNat
    let rest := s.great.getD place 0
    if 0 < rest then (rest % 1000003 / 7 % n, ⟨s.at_ + 1, s.low, s.great.set place (rest / 1000003)⟩)
    else (mixV s.at_ (s.low.getD place 0) n, ⟨s.at_ + 1, s.low, s.great⟩)
def takeD : List AV → PV.M HS PyData
  | [.h, .d (.int n)], s => if 0 < n ∧ n.natAbs.log2 < 9000 then .ok (.int (takeV s n).1) (takeV s n).2 else .bad
  | _, _ => .bad
theorem take_ok {s : HS} {n : Int} (h : s.Ok) (hn : 0 < n) : (takeV s n).2.Ok := by
  have h0 := h.at0
  unfold takeV
  split
  · exact ⟨h.len, h.few, by show 0 ≤ s.at_ + 1; omega⟩
  · dsimp only
    split
    · exact ⟨by rw [List.length_set]; exact h.len, h.few, by show 0 ≤ s.at_ + 1; omega⟩
    · exact ⟨h.len, h.few, by show 0 ≤ s.at_ + 1; omega⟩
theorem take_lt {s : HS} {n : Int} (hn : 0 < n) : 0 ≤ (takeV s n).1 ∧ (takeV s n).1 < n := by
  have key : ∀ c : Int, 0 ≤ c % n ∧ c % n < n := fun c => ⟨Int.emod_nonneg _ (by omega), Int.emod_lt_of_pos _ hn⟩
  unfold takeV
  split
  · exact key _
  · dsimp only
    split
    · exact key _
    · exact key _
/-- where the hand lies -/
def handI (h c g : Addr) (hc : h ≠ c) (hg : h ≠ g) (cg : c ≠ g) : HI HS where
  Z a := a = h ∨ a = c ∨ a = g
  za := h
  HP s H := H h = some (.lst [.int s.at_, .ref c, .ref g]) ∧ H c = some (.lst (s.low.map V.int)) ∧ H g = some (.lst (s.great.map V.int)) ∧ s.Ok
  hpf s H H' hp k := ⟨(k h (.inl rfl)).trans hp.1, (k c (.inr (.inl rfl))).trans hp.2.1, (k g (.inr (.inr rfl))).trans hp.2.2.1, hp.2.2.2⟩
  zt s H a hp hz := by
    rcases hz with rfl | rfl | rfl
    · rw [hp.1]; exact fun z => nomatch z
    · rw [hp.2.1]; exact fun z => nomatch z
    · rw [hp.2.2.1]; exact fun z => nomatch z
section
variable {P : Program} {w : World} {K : PySem.W.Frag} {mg : Str → Option Value} {base : Heap}
theorem scT : FnScope ["hand", "many", "k", "cell", "mixed", "at", "rest", "left"] ["hand", "many"] (defScope s_law_take) := ⟨rfl, rfl, rfl, by decide +kernel, rfl, by decide +kernel, by decide +kernel⟩
theorem takeD_cases {avs : List AV} {s : HS} (h : takeD avs s ≠ .bad) : ∃ n, avs = [.h, .d (.int n)] ∧ 0 < n ∧ n.natAbs.log2 < 9000 ∧ takeD avs s = .ok (.int (takeV s n).1) (takeV s n).2 := by
  unfold takeD at h ⊢
  split at h
  · rename_i n
    split at h
    · rename_i hn
      exact ⟨n, rfl, hn.1, hn.2, if_pos hn⟩
    · exact absurd rfl h
  · exact absurd rfl h
theorem ok_take {f : Addr} {fd : FuncData} {J : XI} {h c g : Addr} {hc : h ≠ c} {hg : h ≠ g} {cg : c ≠ g} (F : Fun K "_law_take" "_law_take" s_law_take f fd) (ml : mg "len" = none) (mi : mg "int" = none) :
    FnOk P w K mg base (L2.CX P w) 1 f fd ["hand", "many"] (spF K (handI h c g hc hg cg) J 2 takeD) := by
  refine F.okX scT (fun vs H Q E h => h.1) fun cdv A outer s H vs Q E hr hsp => ?_
  obtain ⟨hl, M, avs, z, ok, ra, q⟩ := hsp
  have hb : takeD avs z ≠ .bad := fun e => by
    rw [e] at q
    exact q
  obtain ⟨n, rfl, hn, hn9, e⟩ := takeD_cases hb
  rw [e] at q
  obtain ⟨rfl⟩ : vs = [.ref h, .int n] := by
    cases ra with
    | h ra =>
      cases ra with
      | d r ra =>
        cases ra
        cases r
        rfl
  obtain ⟨hp1, hp2, hp3, wf⟩ := ok.hp
  have n1 : c ≠ h := Ne.symm hc
  have n2 : g ≠ h := Ne.symm hg
  have n3 : g ≠ c := Ne.symm cg
  -- the end, whatever the last state is
  have fin : ∀ (s' : HS) (H' : Hp), s'.Ok → H' h = some (.lst [.int s'.at_, .ref c, .ref g]) → H' c = some (.lst (s'.low.map V.int)) → H' g = some (.lst (s'.great.map V.int)) →
      (∀ a, a ≠ h → a ≠ c → a ≠ g → H' a = H a) → Ext (handI h c g hc hg cg) M H M H' s' := fun s' H' k e1 e2 e3 e4 => by
    refine ⟨fun a o e => ?_, fun _ _ => rfl, fun a o e nz => ?_, ok.z, ⟨e1, e2, e3, k⟩⟩
    · have nz : ¬ (handI h c g hc hg cg).Z a := fun hz => by
        rw [ok.z a hz] at e
        cases e
      rw [e4 a (fun w => nz (.inl w)) (fun w => nz (.inr (.inl w))) (fun w => nz (.inr (.inr w)))]
      exact ok.sub a o e
    · rw [e4 a (fun w => nz (.inl w)) (fun w => nz (.inr (.inl w))) (fun w => nz (.inr (.inr w)))]
      exact e
  have wf' := take_ok wf hn
  obtain ⟨H1, eH1⟩ : ∃ H1, H1 = upd H h (.lst [.int (z.at_ + 1), .ref c, .ref g]) := ⟨_, rfl⟩
  have a1 : H1 h = some (.lst [.int (z.at_ + 1), .ref c, .ref g]) := by rw [eH1, upd_same]
  have a2 : H1 c = some (.lst (z.low.map V.int)) := by rw [eH1, upd_ne n1]; exact hp2
  have a3 : H1 g = some (.lst (z.great.map V.int)) := by rw [eH1, upd_ne n2]; exact hp3
  have oth1 : ∀ a, a ≠ h → H1 a = H a := fun a w => by rw [eH1, upd_ne w]
  refine ⟨_, pss_cons (ps_set (i := 2) scT.nd rfl (.inl rfl) (pe_ix ix_list (pv 0) pe_int (fun _ _ => rfl)))
    (pss_cons (ps_asg (pe_op op_add (pv 2) pe_int) (pg_sub (pv 0) pe_int set_list))
    (pss_cons (ps_set (i := 3) scT.nd rfl (.inl rfl) (pv 2))
    (pss_cons (ps_if (pt_cmpR op_gt (pe_callB call_len_seq (by rfl) ml boot_len (pa_cons (pe_ix ix_list (pv 0) pe_int (fun _ _ => rfl)) pa_nil)) pe_int (nomark _))
      (pss_cons (ps_set (i := 5) scT.nd rfl (.inl rfl) (pe_op op_mod (pe_callTy call_int1 (by rfl) mi PyProof.Rows.boot_int (pa_cons (pv 2) pa_nil)) (pe_callB call_len_seq (by rfl) ml boot_len (pa_cons (pe_ix ix_list (pv 0) pe_int (fun _ _ => rfl)) pa_nil))))
      (pss_cons (ps_set (i := 6) scT.nd rfl (.inl rfl) (pe_ix ix_list (pe_ix ix_list (pv 0) pe_int (fun _ _ => rfl)) (pv 5) (fun _ _ => rfl)))
      (pss_cons (ps_set (i := 3) scT.nd rfl (.inl rfl) (pe_ix ix_list (pe_ix ix_list (pv 0) pe_int (fun _ _ => rfl)) (pv 5) (fun _ _ => rfl)))
      (pss_one (ps_if (pt_cmpR op_gt (pv 6) pe_int (nomark _))
        (pss_cons (ps_set (i := 7) scT.nd rfl (.inl rfl) (pe_ix ix_list (pv 0) pe_int (fun _ _ => rfl)))
          (pss_cons (ps_asg (pe_op op_fdiv (pv 6) pe_int) (pg_sub (pv 7) (pv 5) set_list))
          (pss_one (ps_ret (pe_op op_mod (pe_op op_fdiv (pe_op op_mod (pe_callTy call_int1 (by rfl) mi PyProof.Rows.boot_int (pa_cons (pv 6) pa_nil)) pe_int) pe_int) (pv 1))))))
        pss_nil))))) pss_nil)
    (PSs.wk (t' := fun Dn σ H2 => Dn.rt = Q ∧ H2 = H1 ∧ ∃ cell o4 o5 o6 o7, σ = [some (.ref h), some (.int n), some (.int z.at_), some (.int cell), o4, o5, o6, o7] ∧ takeV z n = (mixV z.at_ cell n, ⟨z.at_ + 1, z.low, z.great⟩))
    (pss_cons (ps_set (i := 4) scT.nd rfl (.inl rfl) (pe_op op_mod (pe_callTy call_int1 (by rfl) mi PyProof.Rows.boot_int (pa_cons (pe_op op_add (pe_op op_add (pe_op op_mul (pv 3) pe_int) (pe_op op_mul (pv 2) pe_int)) pe_int) pa_nil)) pe_int))
    (pss_cons (ps_set (i := 4) scT.nd rfl (.inl rfl) (pe_op op_mod (pe_callTy call_int1 (by rfl) mi PyProof.Rows.boot_int (pa_cons (pe_op op_add (pe_op op_fdiv (pe_op op_mul (pv 4) (pv 4)) pe_int) (pv 4)) pa_nil)) pe_int))
    (pss_one (ps_ret (pe_op op_mod (pe_op op_fdiv (pe_op op_mod (pe_callTy call_int1 (by rfl) mi PyProof.Rows.boot_int (pa_cons (pe_op op_add (pe_op op_fdiv (pe_op op_mul (pv 4) (pv 4)) pe_int) (pe_op op_mul (pv 2) pe_int)) pa_nil)) pe_int) pe_int) (pv 1)))))) ?wk)))), ?_⟩
  case wk =>
    rintro pins s0 σ H2 Dn I0 ⟨hD, rfl, cell, o4, o5, o6, o7, rfl, et⟩
    refine ⟨.int cell, rfl, cell, 48271, rfl, rfl, .inr (by decide), .int z.at_, rfl, z.at_, 69621, rfl, rfl, .inr (by decide), _, _, rfl, rfl, _, 11, rfl, rfl, .inl ⟨_, rfl, _, 2147483647, rfl, rfl, (by show (0 : Int) < 2147483647; decide), ?_⟩⟩
    obtain ⟨x', ex⟩ : ∃ x', x' = (cell * 48271 + z.at_ * 69621 + 11) % 2147483647 := ⟨_, rfl⟩
    have hx0 : 0 ≤ x' := by rw [ex]; exact Int.emod_nonneg _ (by decide)
    have hx1 : x' < 2147483647 := by rw [ex]; exact Int.emod_lt_of_pos _ (by decide)
    show tSeq _ _ _ [some (.ref h), some (.int n), some (.int z.at_), some (.int cell), some (.int ((cell * 48271 + z.at_ * 69621 + 11) % 2147483647)), o5, o6, o7] H2
    rw [← ex]
    refine ⟨.int x', rfl, .int x', rfl, _, _, rfl, rfl, .inl ⟨by omega, by omega⟩, _, 4096, rfl, rfl, ⟨by decide, by decide⟩, .int x', rfl, _, _, rfl, rfl, .inl ⟨_, rfl, _, 2147483629, rfl, rfl, (by show (0 : Int) < 2147483629; decide), ?_⟩⟩
    obtain ⟨y', ey⟩ : ∃ y', y' = (x' * x' / 4096 + x') % 2147483629 := ⟨_, rfl⟩
    have hy0 : 0 ≤ y' := by rw [ey]; exact Int.emod_nonneg _ (by decide)
    have hy1 : y' < 2147483629 := by rw [ey]; exact Int.emod_lt_of_pos _ (by decide)
    show tSeq _ _ _ [some (.ref h), some (.int n), some (.int z.at_), some (.int cell), some (.int ((x' * x' / 4096 + x') % 2147483629)), o5, o6, o7] H2
    rw [← ey]
    refine ⟨.int y', rfl, .int y', rfl, _, _, rfl, rfl, .inl ⟨by omega, by omega⟩, _, 4096, rfl, rfl, ⟨by decide, by decide⟩, .int z.at_, rfl, z.at_, 7919, rfl, rfl, .inr (by decide), _, _, rfl, rfl, .inl ⟨_, rfl, _, 2147483629, rfl, rfl, (by show (0 : Int) < 2147483629; decide), _, 7, rfl, rfl, ⟨by decide, by decide⟩, .int n, rfl, _, n, rfl, rfl, hn, ?_⟩⟩
    have q1 := q (.int (mixV z.at_ cell n)) M H2 (by
      rw [et]
      exact fin _ H2 (by
        have := wf'
        rw [et] at this
        exact this) a1 a2 a3 fun a w _ _ => oth1 a w) (by rw [et]; exact .int _)
    show Dn.rt _ _
    rw [hD]
    have e2 : mixV z.at_ cell n = (y' * y' / 4096 + z.at_ * 7919) % 2147483629 / 7 % n := by
      unfold mixV
      dsimp only
      rw [← ex, ← ey]
    rw [e2] at q1
    exact q1
  refine ⟨.ref h, rfl, h, _, 0, _, rfl, rfl, SqL.of hp1, atI_nat (j := 0) rfl, ?_⟩
  -- hand[0] = k + 1
  refine ⟨.int z.at_, rfl, z.at_, 1, rfl, rfl, .ref h, rfl, h, _, 0, 0, rfl, rfl, hp1, rfl, ?_⟩
  show tSeq _ _ _ [some (.ref h), some (.int n), some (.int z.at_), none, none, none, none, none] (upd H h (.lst [.int (z.at_ + 1), .ref c, .ref g]))
  rw [← eH1]
  refine ⟨.int z.at_, rfl, ?_⟩
  -- if len(hand[1]) > 0
  refine ⟨.ref h, rfl, h, _, 1, _, rfl, rfl, SqL.of a1, atI_nat (j := 1) rfl, c, _, rfl, .inl (SqL.of a2), _, 0, rfl, rfl, _, rfl, ?_⟩
  rw [List.length_map]
  by_cases hz : z.low = []
  · rw [hz]
    refine iteF ⟨rfl, rfl, z.at_, none, none, none, none, rfl, ?_⟩
    unfold takeV
    rw [if_pos hz, hz]
  · have hlen : 0 < z.low.length := List.length_pos_iff.mpr hz
    rw [show decide ((0 : Int) < (z.low.length : Int)) = true from decide_eq_true (by omega)]
    refine iteT ?_
    obtain ⟨pl, ep⟩ : ∃ pl : Nat, pl = (z.at_ % (z.low.length : Int)).toNat := ⟨_, rfl⟩
    have h0 := Int.emod_nonneg z.at_ (show (z.low.length : Int) ≠ 0 by omega)
    have h1 := Int.emod_lt_of_pos z.at_ (show (0 : Int) < (z.low.length : Int) by omega)
    have epi : z.at_ % (z.low.length : Int) = (pl : Int) := by omega
    have hpl : pl < z.low.length := by omega
    have hpg : pl < z.great.length := by rw [wf.len]; exact hpl
    have g1 : (z.low.map V.int)[pl]? = some (.int (z.low.getD pl 0)) := by
      rw [List.getElem?_map, List.getElem?_eq_getElem hpl, List.getD_eq_getElem?_getD, List.getElem?_eq_getElem hpl]
      rfl
    have g2 : (z.great.map V.int)[pl]? = some (.int (z.great.getD pl 0)) := by
      rw [List.getElem?_map, List.getElem?_eq_getElem hpg, List.getD_eq_getElem?_getD, List.getElem?_eq_getElem hpg]
      rfl
    have et : takeV z n = if 0 < z.great.getD pl 0 then (z.great.getD pl 0 % 1000003 / 7 % n, ⟨z.at_ + 1, z.low, z.great.set pl (z.great.getD pl 0 / 1000003)⟩) else (mixV z.at_ (z.low.getD pl 0) n, ⟨z.at_ + 1, z.low, z.great⟩) := by
      unfold takeV
      rw [if_neg hz, ← ep]
    refine ⟨.int z.at_, rfl, .inl ⟨z.at_, rfl, .ref h, rfl, h, _, 1, _, rfl, rfl, SqL.of a1, atI_nat (j := 1) rfl, c, _, rfl, .inl (SqL.of a2), z.at_, _, rfl, rfl, by rw [List.length_map]; omega, ?_⟩⟩
    show tSeq _ _ _ [some (.ref h), some (.int n), some (.int z.at_), some (.int z.at_), none, some (.int (z.at_ % ((z.low.map V.int).length : Int))), none, none] H1
    rw [List.length_map, epi]
    -- rest, cell
    refine ⟨.ref h, rfl, h, _, 2, _, rfl, rfl, SqL.of a1, atI_nat (j := 2) rfl, .int (pl : Int), rfl, g, _, (pl : Int), _, rfl, rfl, SqL.of a3, atI_nat g2, ?_⟩
    refine ⟨.ref h, rfl, h, _, 1, _, rfl, rfl, SqL.of a1, atI_nat (j := 1) rfl, .int (pl : Int), rfl, c, _, (pl : Int), _, rfl, rfl, SqL.of a2, atI_nat g1, ?_⟩
    refine ⟨.int (z.great.getD pl 0), rfl, _, 0, rfl, rfl, _, rfl, ?_⟩
    by_cases t2 : 0 < z.great.getD pl 0
    · rw [show decide ((0 : Int) < z.great.getD pl 0) = true from decide_eq_true t2]
      refine iteT ?_
      rw [if_pos t2] at et
      have hix : ixN (z.great.map V.int).length (pl : Int) = some pl := by
        unfold ixN
        rw [if_pos (by omega), if_pos (by rw [List.length_map]; omega)]
        rfl
      refine ⟨.ref h, rfl, h, _, 2, _, rfl, rfl, SqL.of a1, atI_nat (j := 2) rfl, ?_⟩
      refine ⟨.int (z.great.getD pl 0), rfl, _, 1000003, rfl, rfl, ⟨by decide, by decide⟩, .ref g, rfl, .int (pl : Int), rfl, g, _, (pl : Int), pl, rfl, rfl, a3, hix, ?_⟩
      refine ⟨.int (z.great.getD pl 0), rfl, .inl ⟨_, rfl, _, 1000003, rfl, rfl, (by show (0 : Int) < 1000003; decide), _, 7, rfl, rfl, ⟨by decide, by decide⟩, .int n, rfl, _, n, rfl, rfl, hn, ?_⟩⟩
      have q1 := q (.int (takeV z n).1) M (upd H1 g (.lst ((z.great.map V.int).set pl (.int (z.great.getD pl 0 / 1000003))))) (fin _ _ wf' (by rw [upd_ne hg, a1, et]) (by rw [upd_ne cg, a2, et]) (by rw [upd_same, et]; exact congrArg (fun l => some (HO.lst l)) (by rw [List.map_set])) fun a w1 _ w2 => by rw [upd_ne w2, oth1 a w1]) (.int _)
      rw [et] at q1
      exact q1
    · rw [show decide ((0 : Int) < z.great.getD pl 0) = false from decide_eq_false t2]
      refine iteF ⟨rfl, rfl, _, none, _, _, none, rfl, ?_⟩
      rw [et, if_neg t2]
end
/-! the hand, made from the script -/
def absI (i : Int) : Int := if i < 0 then -i else i
def lowI (i : Int) : Int := i % 2147483647
def greatI (i : Int) : Int := absI i % (1000003 : Int) ^ (60 : Int).toNat * (if decide ((10 : Int) ^ (18 : Int).toNat ≤ absI i) = true then 1 else 0)
def startS (ns : List Int) : HS := ⟨0, ns.map lowI, ns.map greatI⟩
theorem start_ok {ns : List Int} (h : ns.length ≤ 63) : (startS ns).Ok := by
  refine ⟨?_, ?_, ?_⟩
  · show (ns.map greatI).length = (ns.map lowI).length
    rw [List.length_map, List.length_map]
  · show (ns.map lowI).length ≤ 63
    rw [List.length_map]
    exact h
  · show (0 : Int) ≤ 0
    decide
/-- what the hand's maker promises -/
def spHand (K : PySem.W.Frag) : Sp := fun vs H Q _ => vs.length = 1 ∧ ∃ (a : Addr) (ns : List Int), vs = [.ref a] ∧ SqL K H a (ns.map V.int) ∧ ns.length ≤ 63 ∧
  ∀ h c g H', h ≠ c → h ≠ g → c ≠ g → Same H H' → H' h = some (.lst [.int 0, .ref c, .ref g]) → H' c = some (.lst ((ns.map lowI).map V.int)) → H' g = some (.lst ((ns.map greatI).map V.int)) → Q (.ref h) H'
section
variable {P : Program} {w : World} {K : PySem.W.Frag} {mg : Str → Option Value} {base : Heap}
theorem scH : FnScope ["script", "cells", "low", "great", "cell"] ["script"] (defScope s_law_hand) := ⟨rfl, rfl, rfl, by decide +kernel, rfl, by decide +kernel, by decide +kernel⟩
theorem take_snoc {α : Type} {xs : List α} {i : Nat} {x : α} (h : xs[i]? = some x) : xs.take (i + 1) = xs.take i ++ [x] := by
  rw [List.take_add_one, h]
  rfl
theorem cut63 {ns : List Int} (h : ns.length ≤ 63) : cutV (ns.map V.int) none (some 63) = ns.map V.int := by
  unfold cutV
  have e : ∀ n : Nat, n ≤ 63 → HT.sIx n 0 none = 0 ∧ HT.sIx n n (some 63) = n := by decide
  obtain ⟨e1, e2⟩ := e (ns.map V.int).length (by rw [List.length_map]; exact h)
  rw [e1, e2, List.drop_zero, Nat.sub_zero, List.take_length]
theorem ok_hand {f : Addr} {fd : FuncData} (F : Fun K "_law_hand" "_law_hand" s_law_hand f fd) (ma : mg "abs" = none) (mi : mg "int" = none) :
    FnOk P w K mg base (L2.CX P w) 1 f fd ["script"] (spHand K) := by
  refine F.okX scH (fun vs H Q E h => h.1) fun cdv A outer s H vs Q E hr hsp => ?_
  obtain ⟨_, a, ns, rfl, hS, hn, q⟩ := hsp
  refine ⟨_, pss_cons (ps_setLc (i := 1) (own := [("cell", 4)]) (g := gName 4) (tt := tYes) rfl scH.nd rfl rfl (sw_true rfl rfl rfl (by decide +kernel)) (pi_list (pe_slice sl_list (pv 0) po_none (po_some pe_int))) (blkOk_by (N := ["script", "cells", "low", "great", "cell"]) (sc := defScope s_law_hand) (by decide +kernel)) (fun _ _ _ _ _ => pg_name (i := 4) scH.nd rfl (Or.inl rfl)) (fun _ _ _ _ _ => pts_nil)
      (fun _ _ _ _ _ => pe_callTy call_int1 (by rfl) mi PyProof.Rows.boot_int (pa_cons (pv 4) pa_nil)))
    (pss_cons (ps_setLc (i := 2) (own := [("cell", 4)]) (g := gName 4) (tt := tYes) rfl scH.nd rfl rfl (sw_true rfl rfl rfl (by decide +kernel)) (pi_list (pv 1)) (blkOk_by (N := ["script", "cells", "low", "great", "cell"]) (sc := defScope s_law_hand) (by decide +kernel)) (fun _ _ _ _ _ => pg_name (i := 4) scH.nd rfl (Or.inl rfl)) (fun _ _ _ _ _ => pts_nil)
      (fun _ _ _ _ _ => pe_op op_mod (pe_callTy call_int1 (by rfl) mi PyProof.Rows.boot_int (pa_cons (pv 4) pa_nil)) pe_int))
    (pss_cons (ps_setLc (i := 3) (own := [("cell", 4)]) (g := gName 4) (tt := tYes) rfl scH.nd rfl rfl (sw_true rfl rfl rfl (by decide +kernel)) (pi_list (pv 1)) (blkOk_by (N := ["script", "cells", "low", "great", "cell"]) (sc := defScope s_law_hand) (by decide +kernel)) (fun _ _ _ _ _ => pg_name (i := 4) scH.nd rfl (Or.inl rfl)) (fun _ _ _ _ _ => pts_nil)
      (fun _ _ _ _ _ => pe_op op_mul (pe_op op_mod (pe_callB call_abs (by rfl) ma PyProof.Rows.boot_abs (pa_cons (pe_callTy call_int1 (by rfl) mi PyProof.Rows.boot_int (pa_cons (pv 4) pa_nil)) pa_nil)) (pe_op op_pow pe_int pe_int)) (pe_callTy call_int1 (by rfl) mi PyProof.Rows.boot_int (pa_cons (pe_cmpR op_ge (pe_callB call_abs (by rfl) ma PyProof.Rows.boot_abs (pa_cons (pv 4) pa_nil)) (pe_op op_pow pe_int pe_int) (nomark _)) pa_nil))))
    (pss_one (ps_ret (pe_lst (pa_cons pe_int (pa_cons (pv 2) (pa_cons (pv 3) pa_nil)))))))), ?_⟩
  refine ⟨.ref a, rfl, 63, rfl, a, _, rfl, hS, fun p hp => ⟨p, rfl, ⟨_, SqL.of upd_same⟩, fun D hD => ?_⟩⟩
  rw [cut63 hn] at hD ⊢
  obtain ⟨H0, e0⟩ : ∃ H0, H0 = upd H p (.lst (ns.map V.int)) := ⟨_, rfl⟩
  have ep : H0 p = some (.lst (ns.map V.int)) := by rw [e0, upd_same]
  have sm0 : Same H H0 := by rw [e0]; exact same_upd hp
  rw [← e0] at hD ⊢
  have pD : p ≠ D := fun z => by rw [← z, ep] at hD; cases hD
  have sz : sizeLine = 16777216 := rfl
  -- cells
  refine lc_list (xs := ns.map V.int) (fun i H' => H' = upd H0 D (.lst ((ns.take i).map V.int))) rfl (fun i H' _ e => by rw [e]; exact SqL.of (by rw [upd_ne pD]; exact ep)) (fun i x H' e e' => ?_) fun H' e => ?_
  · rw [List.getElem?_map] at e
    cases e2 : ns[i]? with
    | none => rw [e2] at e; cases e
    | some j =>
      rw [e2] at e
      obtain rfl := Option.some.inj e
      refine ⟨rfl, .int j, rfl, .inl ⟨j, rfl, (ns.take i).map V.int, by rw [e', upd_same], ?_, ?_⟩⟩
      · rw [List.length_map, List.length_take]
        omega
      · rw [e', upd_upd, take_snoc e2, List.map_append]
        rfl
  rw [show (ns.map V.int).length = ns.length from List.length_map _, List.take_length] at e
  have eD : H' D = some (.lst (ns.map V.int)) := by rw [e, upd_same]
  have sm1 : Same H0 H' := by rw [e]; exact same_upd hD
  -- low
  refine ⟨.ref D, rfl, D, rfl, ⟨_, SqL.of eD⟩, fun L hL => ?_⟩
  have LD : D ≠ L := fun z => by rw [← z, eD] at hL; cases hL
  refine lc_list (xs := ns.map V.int) (fun i H2 => H2 = upd H' L (.lst (((ns.take i).map lowI).map V.int))) rfl (fun i H2 _ e => by rw [e]; exact SqL.of (by rw [upd_ne LD]; exact eD)) (fun i x H2 e e' => ?_) fun H2 e2 => ?_
  · rw [List.getElem?_map] at e
    cases e2 : ns[i]? with
    | none => rw [e2] at e; cases e
    | some j =>
      rw [e2] at e
      obtain rfl := Option.some.inj e
      refine ⟨rfl, .int j, rfl, .inl ⟨j, rfl, j, 2147483647, rfl, rfl, (by show (0 : Int) < 2147483647; decide), ((ns.take i).map lowI).map V.int, by rw [e', upd_same], ?_, ?_⟩⟩
      · rw [List.length_map, List.length_map, List.length_take]
        omega
      · rw [e', upd_upd, take_snoc e2, List.map_append, List.map_append]
        rfl
  rw [show (ns.map V.int).length = ns.length from List.length_map _, List.take_length] at e2
  have eD2 : H2 D = some (.lst (ns.map V.int)) := by rw [e2, upd_ne LD]; exact eD
  have eL : H2 L = some (.lst ((ns.map lowI).map V.int)) := by rw [e2, upd_same]
  have sm2 : Same H' H2 := by rw [e2]; exact same_upd hL
  -- great
  refine ⟨.ref D, rfl, D, rfl, ⟨_, SqL.of eD2⟩, fun G hG => ?_⟩
  have GD : D ≠ G := fun z => by rw [← z, eD2] at hG; cases hG
  have GL : L ≠ G := fun z => by rw [← z, eL] at hG; cases hG
  refine lc_list (xs := ns.map V.int) (fun i H3 => H3 = upd H2 G (.lst (((ns.take i).map greatI).map V.int))) rfl (fun i H3 _ e => by rw [e]; exact SqL.of (by rw [upd_ne GD]; exact eD2)) (fun i x H3 e e' => ?_) fun H3 e3 => ?_
  · rw [List.getElem?_map] at e
    cases e2 : ns[i]? with
    | none => rw [e2] at e; cases e
    | some j =>
      rw [e2] at e
      obtain rfl := Option.some.inj e
      have hb : ∀ b : Bool, -(2 ^ 64 : Int) < (if b = true then 1 else 0) ∧ (if b = true then 1 else 0) < (2 ^ 64 : Int) := by decide
      refine ⟨rfl, .int j, rfl, .inl ⟨j, rfl, j, rfl, 1000003, 60, rfl, rfl, ⟨by decide, by decide, by decide⟩, _, _, rfl, rfl, (by show (0 : Int) < 1000003 ^ (60 : Int).toNat; exact Int.pow_pos (by decide)), .int j, rfl, j, rfl, 10, 18, rfl, rfl, ⟨by decide, by decide, by decide⟩, _, _, rfl, rfl, .inr ⟨_, rfl, _, _, rfl, rfl, .inr (hb _), ((ns.take i).map greatI).map V.int, by rw [e', upd_same], ?_, ?_⟩⟩⟩
      · rw [List.length_map, List.length_map, List.length_take]
        omega
      · rw [e', upd_upd, take_snoc e2, List.map_append, List.map_append]
        rfl
  rw [show (ns.map V.int).length = ns.length from List.length_map _, List.take_length] at e3
  have eL3 : H3 L = some (.lst ((ns.map lowI).map V.int)) := by rw [e3, upd_ne GL]; exact eL
  have eG : H3 G = some (.lst ((ns.map greatI).map V.int)) := by rw [e3, upd_same]
  have sm3 : Same H2 H3 := by rw [e3]; exact same_upd hG
  refine ⟨.ref L, rfl, .ref G, rfl, (show 3 ≤ sizeLine by decide), fun h hh => ?_⟩
  have hL' : h ≠ L := fun z => by rw [z, eL3] at hh; cases hh
  have hG' : h ≠ G := fun z => by rw [z, eG] at hh; cases hh
  refine q h L G _ hL' hG' GL (((sm0.trans sm1).trans (sm2.trans sm3)).trans (same_upd hh)) upd_same ?_ ?_
  · rw [upd_ne (Ne.symm hL')]
    exact eL3
  · rw [upd_ne (Ne.symm hG')]
    exact eG
end
/-! the law: the hand is made, the rest by the look -/
def handB : Tbl HS := fun f => if f = "_law_take" then some takeD else none
def spTrue (K : PySem.W.Frag) : Sp := fun vs H Q _ => vs.length = 1 ∧ ∃ (a : Addr) (ns : List Int), vs = [.ref a] ∧ SqL K H a (ns.map V.int) ∧ ns.length ≤ 63 ∧ ∀ H', Q (.bl true) H'
theorem pss_ex {X : Cx} {ss : List PySem.Stmt} {ι : Type} {t : ι → TS} (h : ∀ i, PSs X ss (t i)) : PSs X ss (fun D σ H => ∃ i, t i D σ H) :=
  ⟨fun pins s σ H D I q => by
    obtain ⟨i, q⟩ := q
    exact (h i).run pins s σ H D I q⟩
structure Pl where
  h : Addr
  c : Addr
  g : Addr
  hc : h ≠ c
  hg : h ≠ g
  cg : c ≠ g
  H : Hp
abbrev Pl.I (z : Pl) : HI HS := handI z.h z.c z.g z.hc z.hg z.cg
def env0 (n i : Nat) : PV.Env := (List.replicate n Sl.no).set i .hand
section
variable {P : Program} {w : World} {K : PySem.W.Frag} {mg : Str → Option Value} {base : Heap}
theorem gd_hand {I : HI HS} {H : Hp} {l : List (Option V)} {s : HS} {n i : Nat} (hp : I.HP s H) (hl : l.length = n) (hi : i < n) : Gd K I H (fun _ => none) (fun _ => none) H (l.set i (some (.ref I.za))) (env0 n i) s := by
  refine ⟨⟨fun _ _ e => (nomatch e), fun _ _ => rfl, hp⟩, fun _ _ => rfl, fun _ _ e _ => e, ?_, fun j x e => ?_, fun j k xs ys p _ e => ?_⟩
  · unfold env0
    rw [List.length_set, List.length_set, List.length_replicate, hl]
  · unfold env0 at e
    rw [List.getElem?_set] at e
    split at e
    · rename_i h
      subst h
      rw [if_pos (by rw [List.length_replicate]; exact hi)] at e
      cases e
      exact ⟨_, by rw [List.getElem?_set_self (by rw [hl]; exact hi)], rfl⟩
    · rename_i h
      rw [List.getElem?_replicate] at e
      split at e
      · rename_i h2
        cases e
        exact ⟨l[j], by rw [List.getElem?_set_ne h, List.getElem?_eq_getElem (by rw [hl]; exact h2)], trivial⟩
      · cases e
  · unfold env0 at e
    rw [List.getElem?_set] at e
    split at e
    · split at e
      · cases e
      · cases e
    · rw [List.getElem?_replicate] at e
      split at e
      · cases e
      · cases e
theorem ok_law {f fh : Addr} {fd fdh : FuncData} {J : XI} {T : Tbl HS} {G : Gls} {sub : Str → Str → Bool} {Fu k0 : Nat}
    (F : Fun K "law" "law" s_law f fd)
    (FH : FnOk P w K mg base (L2.CX P w) k0 fh fdh ["script"] (spHand K)) (gh : mg "_law_hand" = some (.ref fh)) (kh : PySem.W.keepIn K (.ref fh) = true) (bh : Binds K fdh ["script"] [])
    (hst : ∀ z : Pl, StM P w K mg base ⟨z.I, J, T, G, useGcd, k0⟩ sub) (hlaw : ∀ s : HS, s.Ok → ∃ s', evSs T G sub Fu f_law.body (env0 f_law.names.length 1) s = .ok (.ret (.bool true)) s') :
    FnOk P w K mg base (L2.CX P w) (k0 + 1) f fd ["script"] (spTrue K) := by
  refine F.okX sc_law (fun vs H Q E h => h.1) fun cdv A outer s H vs Q E hr hsp => ?_
  obtain ⟨_, a, ns, rfl, hS, hn, q⟩ := hsp
  have st1 : ∀ z : Pl, Stb (cxOf (L2.CX P w) P w K mg base f_law.names "law" (defScope s_law) f cdv A outer s H E) ⟨z.I, J, T, G, useGcd, k0⟩ (fun cls d _ H => E cls d H) sub := fun z =>
    ⟨⟨sc_law.nd, rfl, takes_of rfl rfl rfl rfl, hr, (hst z).blt, (hst z).gcd, (hst z).fns, (hst z).glb⟩, passes_of rfl, fun _ => rfl, sc_law.kind, (hst z).xf, rfl, rfl⟩
  refine ⟨_, pss_cons (ps_set (i := 1) sc_law.nd rfl (by first | exact .inl rfl | exact .inr rfl) (pe_call FH hr (by rfl) gh kh bh .nil (E := fun _ _ _ => False) (passes_call (takes_of rfl rfl rfl rfl) fun _ _ _ _ h => h.elim) (pa_cons (pv 0) pa_nil)))
    (pss_ex fun z : Pl => blk_of (H0 := z.H) (M0 := fun _ => none) (F := Fu) (sub := sub) (snd_stmt 20) (st1 z) ck_law_rest), ?_⟩
  refine ⟨.ref a, rfl, rfl, a, ns, rfl, hS, hn, fun h c g H' hc hg cg sm e1 e2 e3 => ⟨⟨h, c, g, hc, hg, cg, H'⟩, fun _ => none, env0 f_law.names.length 1, startS ns, gd_hand (I := handI h c g hc hg cg) ⟨e1, e2, e3, start_ok hn⟩ rfl (by decide), ?_⟩⟩
  obtain ⟨s', e⟩ := hlaw (startS ns) (start_ok hn)
  rw [e]
  intro v M1 H1 _ _ r
  cases r
  exact q H1
end
end K64
set_option Elab.async false
set_option linter.all false
set_option maxRecDepth 100000
namespace K64
open PySem PySem.Spec PyProof.Rows L2 PV
def depth : Nat := 12
def fuel : Nat := 300
def glob : Gls := fun x => if x = "MOST_KEYS" then some (.int 64) else if x = "MOST_VALUES" then some (.int 32) else none
def subX : Str → Str → Bool := subL ["BadChoice", "BadTable"]
end K64
set_option Elab.async false
set_option linter.all false
set_option maxRecDepth 100000
set_option maxHeartbeats 4000000
namespace K64
open PySem PySem.Spec PyProof.Rows L2 PV
abbrev tb (n : Nat) : Tbl HS := den (fun f => table.lookup f) handB glob subX fuel n
abbrev run (n : Nat) (f : Fn) : List AV → PV.M HS PyData := runF (tb n) glob subX fuel f
theorem tb_of {n : Nat} {x : Str} {f : Fn} (h1 : handB x = none) (h2 : table.lookup x = some f) : tb (n + 1) x = some (run n f) := by
  show den (fun f => table.lookup f) handB glob subX fuel (n + 1) x = _
  unfold den
  rw [h1]
  simp only [h2]
theorem tb_is_number {n : Nat} : tb (n + 1) "is_number" = some (run n f_is_number) := tb_of (by decide +kernel) rfl
variable {s : HS} {n : Nat}
theorem r_is_number (v a b : Int) : run n f_is_number [.d (.int v), .d (.int a), .d (.int b)] s = .ok (.bool (decide (a ≤ v ∧ v ≤ b))) s := by
  rw [run, run_eq (f := f_is_number) (body := b_is_number) rfl ⟨rfl, by decide⟩, b_is_number]
  by_cases h : a ≤ v <;> simp [startE, slot, primD, noDict, tyD, cmpB, cmpD, h]
theorem tb_law_same : tb (n + 1) "_law_same" = some (run n f_law_same) := tb_of (by decide +kernel) rfl
inductive Same1 : Nat → PyData → Prop
  | non {k : Nat} : Same1 k .none
  | bl {k : Nat} (b : Bool) : Same1 k (.bool b)
  | int {k : Nat} (i : Int) : Same1 k (.int i)
  | tup {k : Nat} {xs : List PyData} : (∀ x ∈ xs, Same1 k x) → xs.length ≤ 1000000 → Same1 (k + 1) (.tuple xs)
theorem eq_bl (a b : Bool) : cmpD .eq (.bool a) (.bool b) = some (.bool (a == b)) := by
  cases a <;> cases b <;> rfl
theorem r_same_bl (b : Bool) : run n f_law_same [.d (.bool b), .d (.bool b)] s = .ok (.bool true) s := by
  rw [run, run_eq (f := f_law_same) (body := b_law_same) rfl ⟨rfl, by decide⟩, b_law_same]
  cases b <;> simp [startE_eq]
theorem r_same_int (a b : Int) : run n f_law_same [.d (.int a), .d (.int b)] s = .ok (.bool (a == b)) s := by
  rw [run, run_eq (f := f_law_same) (body := b_law_same) rfl ⟨rfl, by decide⟩, b_law_same]
  simp [startE_eq]
theorem r_same : ∀ (k : Nat) {d : PyData}, Same1 k d → ∀ n, run (n + k) f_law_same [.d d, .d d] s = .ok (.bool true) s := by
  intro k
  induction k with
  | zero =>
    intro d h n
    cases h with
    | non =>
      rw [run, run_eq (f := f_law_same) (body := b_law_same) rfl ⟨rfl, by decide⟩, b_law_same]
      simp [startE_eq]
    | bl b => exact r_same_bl b
    | int i => simpa using r_same_int (n := n + 0) (s := s) i i
  | succ k ih =>
    intro d h n
    cases h with
    | non =>
      rw [run, run_eq (f := f_law_same) (body := b_law_same) rfl ⟨rfl, by decide⟩, b_law_same]
      simp [startE_eq]
    | bl b => exact r_same_bl b
    | int i => simpa using r_same_int (n := n + (k + 1)) (s := s) i i
    | tup hx hl =>
      rename_i xs
      rw [run, run_eq (f := f_law_same) (body := b_law_same) rfl ⟨rfl, by decide⟩, b_law_same]
      obtain ⟨L, eL⟩ : ∃ L : Int, L = (xs.length : Int) := ⟨_, rfl⟩
      have hc : evE (tb (n + (k + 1))) glob (.comp (.call "_law_same" [.idx (.var 0) (.var 2), .idx (.var 1) (.var 2)]) (.nm 2) .rng1 [.prim .len [.var 1]] [] [2]) [.v (.tuple xs), .v (.tuple xs), .no] s = .ok (.list ((rgI xs.length).map fun _ => .bool true)) s := by
        refine comp_rng (R := L) (by simp [← eL]) eL hl (by simp) fun i i0 i1 => ?_
        have hi : i.toNat < xs.length := by omega
        have hk : idxD (.tuple xs) (.int i) = some xs[i.toNat] := idxD_tk i0 (List.getElem?_eq_getElem hi)
        have hr := ih (hx xs[i.toNat] (List.getElem_mem hi)) n
        simp [hk, show n + (k + 1) = (n + k) + 1 from rfl, tb_law_same, hr]
      simp [startE_eq, hc]
theorem same_ints {L : List Int} (h : L.length ≤ 1000000) : Same1 1 (.tuple (L.map .int)) := .tup (fun x hx => by
  obtain ⟨i, _, rfl⟩ := List.mem_map.mp hx
  exact .int i) (by rw [List.length_map]; exact h)
theorem tb_law_take : tb (n + 1) "_law_take" = some takeD := by
  show den (fun f => table.lookup f) handB glob subX fuel (n + 1) "_law_take" = _
  unfold den
  rw [show handB "_law_take" = some takeD from if_pos rfl]
theorem take_all {s : HS} (h : s.Ok) {N : Int} (h0 : 0 < N) (h1 : N < 1000000000000000000) : ∃ k s', takeD [.h, .d (.int N)] s = .ok (.int k) s' ∧ 0 ≤ k ∧ k < N ∧ s'.Ok :=
  ⟨_, _, if_pos ⟨h0, log2_small h0 h1⟩, (take_lt h0).1, (take_lt h0).2, take_ok h h0⟩
theorem getD_mem {L : List Int} {k : Int} (h0 : 0 ≤ k) (h1 : k < (L.length : Int)) : ∃ x ∈ L, idxD (.list (L.map .int)) (.int k) = some (.int x) := by
  have hk : k.toNat < L.length := by omega
  refine ⟨L[k.toNat], List.getElem_mem hk, idxD_lk h0 ?_⟩
  rw [List.getElem?_map, List.getElem?_eq_getElem hk]
  rfl
theorem loop_map {S : Type} {tg : Tg} {body : PV.Env → S → RS S} {u : Int → PyData} {r : Nat} {Inv : Nat → PV.Env → S → Prop} (step : ∀ (i : Nat) (env : PV.Env) (s : S), i < r → Inv i env s → ∃ env1 env2 s2, setTg tg (u i) env = some env1 ∧ body env1 s = .ok (.nx env2) s2 ∧ Inv (i + 1) env2 s2) {env : PV.Env} {s : S} (h : Inv 0 env s) :
    ∃ env' s', loopS tg body ((rgI r).map u) env s = .ok (.nx env') s' ∧ Inv r env' s' := by
  have key : ∀ (k i : Nat) (env : PV.Env) (s : S), i + k = r → Inv i env s → ∃ env' s', loopS tg body ((List.range' i k).map fun (j : Nat) => u (j : Int)) env s = .ok (.nx env') s' ∧ Inv r env' s' := by
    intro k
    induction k with
    | zero =>
      intro i env s e h
      have : i = r := by omega
      subst this
      exact ⟨env, s, rfl, h⟩
    | succ k ih =>
      intro i env s e h
      obtain ⟨env1, env2, s2, e1, e2, h2⟩ := step i env s (by omega) h
      obtain ⟨env', s', e3, h3⟩ := ih (i + 1) env2 s2 (by omega) h2
      refine ⟨env', s', ?_, h3⟩
      rw [List.range'_succ, List.map_cons, loop_cons e1, e2, againS_nx]
      exact e3
  obtain ⟨env', s', e, h'⟩ := key r 0 env s (by omega) h
  refine ⟨env', s', ?_, h'⟩
  rw [← List.range_eq_range'] at e
  unfold rgI
  rw [List.map_map]
  exact e
/-! ### fractions -/
/-- of at most k figures -/
def Sz (k : Nat) (i : Int) : Prop := i.natAbs ≤ 10 ^ k
theorem Sz.mono {j k : Nat} {i : Int} (h : Sz j i) (hk : j ≤ k) : Sz k i := Nat.le_trans h (Nat.pow_le_pow_right (by decide) hk)
theorem Sz.mul {j k : Nat} {x y : Int} (hx : Sz j x) (hy : Sz k y) : Sz (j + k) (x * y) := by
  unfold Sz
  rw [Int.natAbs_mul, Nat.pow_add]
  exact Nat.mul_le_mul hx hy
theorem Sz.sub {k : Nat} {x y : Int} (hx : Sz k x) (hy : Sz k y) : Sz (k + 1) (x - y) := by
  unfold Sz at *
  rw [Nat.pow_succ]
  omega
theorem Sz.add {k : Nat} {x y : Int} (hx : Sz k x) (hy : Sz k y) : Sz (k + 1) (x + y) := by
  unfold Sz at *
  rw [Nat.pow_succ]
  omega
theorem Sz.log {k : Nat} {i : Int} (h : Sz k i) : i.natAbs.log2 ≤ 4 * k := by
  by_cases e : i.natAbs = 0
  · rw [e, show (0 : Nat).log2 = 0 by decide]
    exact Nat.zero_le _
  · have h1 : i.natAbs < 2 ^ (4 * k + 1) := by
      refine Nat.lt_of_le_of_lt h ?_
      rw [Nat.pow_succ, Nat.pow_mul]
      have : (10 : Nat) ^ k ≤ (2 ^ 4) ^ k := Nat.pow_le_pow_left (by decide) k
      have : 0 < ((2 : Nat) ^ 4) ^ k := Nat.pow_pos (by decide)
      omega
    have := (Nat.log2_lt e).mpr h1
    omega
theorem Sz.mulOk {j k : Nat} {x y : Int} (hx : Sz j x) (hy : Sz k y) (hj : j ≤ 1000) (hk : k ≤ 1000) : mulOk x y = true := by
  have h1 := hx.log
  have h2 := hy.log
  unfold PV.mulOk
  rw [decide_eq_true (show x.natAbs.log2 + y.natAbs.log2 < 1000000 by omega), Bool.or_true]
theorem Sz.fdiv {k : Nat} {i j : Int} (h : Sz k j) (hk : k ≤ 1000) (hj : 0 < j) : bopD .fdiv (.int i) (.int j) = some (.int (i / j)) := bopD_fdiv hj (by have := h.log; omega)
/-- the greatest common part, as the program has it -/
def gI (N D : Int) : Int := ((Nat.gcd N.natAbs D.natAbs : Nat) : Int)
theorem gI_pos {N D : Int} (h : 0 < D) : 0 < gI N D := by
  have : 0 < Nat.gcd N.natAbs D.natAbs := Nat.gcd_pos_of_pos_right _ (by omega)
  unfold gI
  omega
theorem gI_le {N D : Int} (h : 0 < D) : gI N D ≤ D := by
  have := Nat.gcd_le_right (n := D.natAbs) N.natAbs (by omega)
  unfold gI
  omega
theorem gI_N (N D : Int) : gI N D ∣ N := Int.ofNat_dvd_left.mpr (Nat.gcd_dvd_left _ _)
theorem gI_D (N D : Int) : gI N D ∣ D := Int.ofNat_dvd_left.mpr (Nat.gcd_dvd_right _ _)
/-- a fraction in lowest terms -/
abbrev frD (N D : Int) : PyData := .tuple [.int (N / gI N D), .int (D / gI N D)]
theorem gI_scale {k N D : Int} (h : 0 < k) : gI (k * N) (k * D) = k * gI N D := by
  unfold gI
  rw [Int.natAbs_mul, Int.natAbs_mul, Nat.gcd_mul_left, Int.natCast_mul]
  congr 1
  omega
theorem fr_scale {k N D : Int} (h : 0 < k) : frD (k * N) (k * D) = frD N D := by
  unfold frD
  rw [gI_scale h, Int.mul_ediv_mul_of_pos _ _ h, Int.mul_ediv_mul_of_pos _ _ h]
theorem fr_parts {N D : Int} (h : 0 < D) : ∃ g a b : Int, 0 < g ∧ N = g * a ∧ D = g * b ∧ 0 < b ∧ N / gI N D = a ∧ D / gI N D = b := by
  have hg := gI_pos (N := N) h
  obtain ⟨a, ea⟩ := gI_N N D
  obtain ⟨b, eb⟩ := gI_D N D
  refine ⟨gI N D, a, b, hg, ea, eb, ?_, ?_, ?_⟩
  · by_cases hb : 0 < b
    · exact hb
    · have : gI N D * b ≤ 0 := Int.mul_nonpos_of_nonneg_of_nonpos (by omega) (by omega)
      omega
  · exact Int.ediv_eq_of_eq_mul_right (by omega) ea
  · exact Int.ediv_eq_of_eq_mul_right (by omega) eb
theorem Sz.part {k : Nat} {g a N : Int} (h : Sz k N) (hg : 0 < g) (e : N = g * a) : Sz k a := by
  unfold Sz at *
  rw [e, Int.natAbs_mul] at h
  have : 1 * a.natAbs ≤ g.natAbs * a.natAbs := Nat.mul_le_mul_right _ (by omega)
  omega
theorem tb_fraction : tb (n + 1) "fraction" = some (run n f_fraction) := tb_of (by decide +kernel) rfl
theorem r_fraction {N D : Int} (h : 0 < D) (hs : Sz 1000 D) : run n f_fraction [.d (.int N), .d (.int D)] s = .ok (frD N D) s := by
  rw [run, run_eq (f := f_fraction) (body := b_fraction) rfl ⟨rfl, by decide⟩, b_fraction]
  obtain ⟨G, eG⟩ : ∃ G, G = gI N D := ⟨_, rfl⟩
  have hg := gI_pos (N := N) h
  have hle := gI_le (N := N) h
  have hG : Sz 1000 G := by
    unfold Sz at *
    omega
  have e1 : primD .gcd [.int N, .int D] = some (.int G) := by
    rw [eG]
    rfl
  have h0 : ¬ D < 0 := by omega
  unfold frD
  rw [← eG] at hg ⊢
  simp [startE_eq, -primD_gcd, e1, h0, hG.fdiv (by decide) hg]
theorem tb_law_cut : tb (n + 1) "_law_cut" = some (run n f_law_cut) := tb_of (by decide +kernel) rfl
/-! the law's own reckoning of a fraction -/
def t_cw : Tx := .e (.cmp .gt (.var 3) (.con (.int 0)))
def b_cw : List St' := [.par 2 3 (.var 3) (.bop .sub (.var 2) (.bop .mul (.bop .fdiv (.var 2) (.var 3)) (.var 3)))]
theorem cut_while {x0 x1 : Sl} : ∀ (k f : Nat) (a b : Nat) (A B : Int), A = a → B = b → b < 2 ^ k → b < 1000000000000000000 → 2 * k + 1 ≤ f →
    whileS (evT (tb n) glob t_cw) (evSs (tb n) glob subX fuel b_cw) f [x0, x1, .v (.int A), .v (.int B)] s = .ok (.nx [x0, x1, .v (.int ((Nat.gcd a b : Nat) : Int)), .v (.int 0)]) s := by
  have stop : ∀ (f a : Nat) (A : Int), A = a → 1 ≤ f → whileS (evT (tb n) glob t_cw) (evSs (tb n) glob subX fuel b_cw) f [x0, x1, .v (.int A), .v (.int 0)] s = .ok (.nx [x0, x1, .v (.int (a : Int)), .v (.int 0)]) s := fun f a A eA hf => by
    obtain ⟨f, rfl⟩ : ∃ d, f = d + 1 := ⟨f - 1, by omega⟩
    rw [while_stop (by unfold t_cw; simp), eA]
  have turn : ∀ (f : Nat) (A B : Int), 0 < B → B < 1000000000000000000 → whileS (evT (tb n) glob t_cw) (evSs (tb n) glob subX fuel b_cw) (f + 1) [x0, x1, .v (.int A), .v (.int B)] s = whileS (evT (tb n) glob t_cw) (evSs (tb n) glob subX fuel b_cw) f [x0, x1, .v (.int B), .v (.int (A % B))] s := fun f A B hB hB2 => by
    have e : A - A / B * B = A % B := by
      rw [Int.emod_def, Int.mul_comm (A / B) B]
    exact while_go (e := [x0, x1, .v (.int B), .v (.int (A % B))]) (s1 := s) (by unfold t_cw; simp [hB]) (by
      unfold b_cw
      simp [bopD_fdivS hB hB2, bopD_mul (mulOk_r (i := A / B) (j := B) (by omega)), e])
  intro k
  induction k with
  | zero =>
    intro f a b A B eA eB hb _ hf
    have : b = 0 := by omega
    subst this
    rw [eB, Nat.gcd_zero_right]
    exact stop f a A eA (by omega)
  | succ k ih =>
    intro f a b A B eA eB hb hB hf
    by_cases h0 : b = 0
    · subst h0
      rw [eB, Nat.gcd_zero_right]
      exact stop f a A eA (by omega)
    · obtain ⟨f, rfl⟩ : ∃ d, f = d + 1 := ⟨f - 1, by omega⟩
      rw [turn f A B (by omega) (by omega)]
      have e1 : A % B = ((a % b : Nat) : Int) := by rw [eA, eB, Int.natCast_emod]
      have g1 : Nat.gcd a b = Nat.gcd b (a % b) := by rw [Nat.gcd_comm, Nat.gcd_rec, Nat.gcd_comm]
      by_cases h1 : a % b = 0
      · rw [g1, h1, Nat.gcd_zero_right, e1, h1]
        exact stop f b B eB (by omega)
      · obtain ⟨f, rfl⟩ : ∃ d, f = d + 1 := ⟨f - 1, by omega⟩
        have l1 := Nat.mod_lt a (show b > 0 by omega)
        rw [turn f B (A % B) (by omega) (by omega)]
        have e2 : B % (A % B) = ((b % (a % b) : Nat) : Int) := by
          rw [e1, eB]
          exact (Int.natCast_emod _ _).symm
        have g2 : Nat.gcd b (a % b) = Nat.gcd (a % b) (b % (a % b)) := by rw [Nat.gcd_comm, Nat.gcd_rec, Nat.gcd_comm]
        have l2 := Nat.mod_lt b (show a % b > 0 by omega)
        have l3 : b % (a % b) + a % b ≤ b := by
          have h5 := Nat.div_add_mod b (a % b)
          have h6 : 1 ≤ b / (a % b) := (Nat.le_div_iff_mul_le (by omega)).mpr (by omega)
          have h7 : (a % b) * 1 ≤ (a % b) * (b / (a % b)) := Nat.mul_le_mul_left _ h6
          omega
        rw [g1, g2]
        refine ih f (a % b) (b % (a % b)) (A % B) (B % (A % B)) e1 e2 ?_ (by omega) (by omega)
        rw [Nat.pow_succ] at hb
        omega
theorem r_law_cut {N D : Int} (h : 0 < D) (hD : D < 500000000000000000) : run n f_law_cut [.d (.int N), .d (.int D)] s = .ok (frD N D) s := by
  rw [run, run_eq (f := f_law_cut) (body := b_law_cut) rfl ⟨rfl, by decide⟩, b_law_cut]
  obtain ⟨G, eG⟩ : ∃ G, G = gI N D := ⟨_, rfl⟩
  obtain ⟨A, eA⟩ : ∃ A : Int, A = if N < 0 then -N else N := ⟨_, rfl⟩
  have hg := gI_pos (N := N) h
  have hle := gI_le (N := N) h
  have e := cut_while (s := s) (n := n) (x0 := .v (.int N)) (x1 := .v (.int D)) 59 fuel N.natAbs D.natAbs A D (by rw [eA]; split <;> omega) (by omega) (Nat.lt_of_lt_of_le (show D.natAbs < 500000000000000000 by omega) (by decide)) (by omega) (show 2 * 59 + 1 ≤ 300 by decide)
  rw [show ((Nat.gcd N.natAbs D.natAbs : Nat) : Int) = G from eG.symm] at e
  unfold frD
  rw [← eG] at hg hle ⊢
  unfold t_cw b_cw at e
  simp [startE_eq, ← eA, evS_while, e, bopD_fdivS hg (show G < 1000000000000000000 by omega)]
end K64
set_option Elab.async false
set_option linter.all false
set_option maxRecDepth 100000
set_option maxHeartbeats 4000000
namespace K64
open PySem PySem.Spec PyProof.Rows L2 PV
variable {s : HS} {n : Nat}
/-! ### families -/
theorem filtM_flt {γ : Type} {u g : γ → PyData} {p : γ → Bool} {f : PyData → PV.M HS (Option PyData)} : ∀ {L : List γ}, (∀ x ∈ L, f (u x) s = .ok (if p x then some (g x) else none) s) → filtM f (L.map u) s = .ok ((L.filter p).map g) s := by
  intro L
  induction L with
  | nil => exact fun _ => rfl
  | cons x q ih =>
    intro hL
    show (f (u x) s).bind (fun y s' => (filtM f (q.map u) s').bind fun ys s'' => .ok (pushO y ys) s'') = _
    rw [hL x List.mem_cons_self, bind_ok1, ih fun y hy => hL y (List.mem_cons_of_mem _ hy), bind_ok1, List.filter_cons]
    cases p x <;> rfl
theorem tb_check_many : tb (n + 1) "check_many" = some (run n f_check_many) := tb_of (by decide +kernel) rfl
theorem tb_is_table : tb (n + 1) "is_table" = some (run n f_is_table) := tb_of (by decide +kernel) rfl
theorem tb_is_family : tb (n + 1) "is_family" = some (run n f_is_family) := tb_of (by decide +kernel) rfl
theorem tb_check_family : tb (n + 1) "check_family" = some (run n f_check_family) := tb_of (by decide +kernel) rfl
theorem tb_check_input : tb (n + 1) "check_input" = some (run n f_check_input) := tb_of (by decide +kernel) rfl
theorem gl_keys : glob "MOST_KEYS" = some (.int 64) := rfl
theorem gl_values : glob "MOST_VALUES" = some (.int 32) := rfl
def atL (t : List Int) (x : Int) : Int := t.getD x.toNat 0
def rwL (rows : List (List Int)) (i : Int) : List Int := rows.getD i.toNat []
def FamD (rows : List (List Int)) : PyData := .tuple (rows.map tupI)
theorem isT_tupI {t : List Int} : primD (.isinst .tuple) [tupI t] = some (.bool true) := rfl
theorem len_tupI {t : List Int} {N : Int} (h : N = t.length) : primD .len [tupI t] = some (.int N) := by
  rw [h]
  unfold tupI
  rw [primD_lenT, List.length_map]
theorem idx_tupI {t : List Int} {x : Int} (h0 : 0 ≤ x) (h1 : x < t.length) : idxD (tupI t) (.int x) = some (.int (atL t x)) := by
  have hl : x.toNat < t.length := by omega
  refine idxD_tk h0 ?_
  unfold atL
  rw [List.getElem?_map, List.getElem?_eq_getElem hl, List.getD_eq_getElem?_getD, List.getElem?_eq_getElem hl]
  rfl
theorem isT_fam {rows : List (List Int)} : primD (.isinst .tuple) [FamD rows] = some (.bool true) := rfl
theorem len_fam {rows : List (List Int)} {K : Int} (h : K = rows.length) : primD .len [FamD rows] = some (.int K) := by
  rw [h]
  unfold FamD
  rw [primD_lenT, List.length_map]
theorem idx_fam {rows : List (List Int)} {x : Int} (h0 : 0 ≤ x) (h1 : x < rows.length) : idxD (FamD rows) (.int x) = some (tupI (rwL rows x)) := by
  have hl : x.toNat < rows.length := by omega
  refine idxD_tk h0 ?_
  unfold rwL
  rw [List.getElem?_map, List.getElem?_eq_getElem hl, List.getD_eq_getElem?_getD, List.getElem?_eq_getElem hl]
  rfl
theorem src_fam {rows : List (List Int)} : srcD .seq [FamD rows] = some (rows.map tupI) := rfl
structure FamOk (m k : Nat) (rows : List (List Int)) : Prop where
  m2 : 2 ≤ m
  m32 : m ≤ 32
  n2 : 2 ≤ k
  n32 : k ≤ 32
  k1 : 1 ≤ rows.length
  k64 : rows.length ≤ 64
  row : ∀ t ∈ rows, t.length = k ∧ ∀ x ∈ t, 0 ≤ x ∧ x < (m : Int)
theorem rwL_mem {rows : List (List Int)} {x : Int} (h0 : 0 ≤ x) (h1 : x < rows.length) : rwL rows x ∈ rows := by
  have hx : x.toNat < rows.length := by omega
  unfold rwL
  rw [List.getD_eq_getElem?_getD, List.getElem?_eq_getElem hx]
  exact List.getElem_mem hx
theorem FamOk.at {m k : Nat} {rows : List (List Int)} (h : FamOk m k rows) {t : List Int} (ht : t ∈ rows) {x : Int} (h0 : 0 ≤ x) (h1 : x < k) : idxD (tupI t) (.int x) = some (.int (atL t x)) ∧ 0 ≤ atL t x ∧ atL t x < (m : Int) := by
  obtain ⟨hl, hv⟩ := h.row t ht
  refine ⟨idx_tupI h0 (by omega), hv _ ?_⟩
  unfold atL
  have hl2 : x.toNat < t.length := by omega
  rw [List.getD_eq_getElem?_getD, List.getElem?_eq_getElem hl2]
  exact List.getElem_mem hl2
theorem r_check_many {M : Int} (h : 2 ≤ M ∧ M ≤ 32) : run (n + 1) f_check_many [.d (.int M)] s = .ok .none s := by
  rw [run, run_eq (f := f_check_many) (body := b_check_many) rfl ⟨rfl, by decide⟩, b_check_many]
  simp [startE_eq, tb_is_number, r_is_number, gl_values, h]
section
variable {m k : Nat} {M N K : Int} {rows : List (List Int)}
theorem r_is_table {t : List Int} (eM : M = m) (eN : N = k) (hk : k ≤ 1000) (hl : t.length = k) (hv : ∀ x ∈ t, 0 ≤ x ∧ x < (m : Int)) : run (n + 1) f_is_table [.d (tupI t), .d (.int N), .d (.int M)] s = .ok (.bool true) s := by
  rw [run, run_eq (f := f_is_table) (body := b_is_table) rfl ⟨rfl, by decide⟩, b_is_table]
  have hc : evE (tb (n + 1)) glob (.comp (.call "is_number" [.var 3, .con (.int 0), .bop .sub (.var 2) (.con (.int 1))]) (.nm 3) .seq [.var 0] [] [3]) [.v (tupI t), .v (.int N), .v (.int M), .no] s = .ok (.list (t.map fun _ => .bool true)) s := by
    refine comp_seq (ds := [tupI t]) (u := .int) (L := t) (by simp) rfl (by omega) fun x hx => ?_
    rw [turn_nm (by simp)]
    have := hv x hx
    have h1 : decide ((0 : Int) ≤ x ∧ x ≤ M - 1) = true := decide_eq_true (by omega)
    simp [turnK, tb_is_number, r_is_number, h1]
  simp [startE_eq, isT_tupI, len_tupI (t := t) (N := N) (by omega), hc]
theorem r_is_family (eM : M = m) (h : FamOk m k rows) : run (n + 2) f_is_family [.d (FamD rows), .d (.int M)] s = .ok (.bool true) s := by
  rw [run, run_eq (f := f_is_family) (body := b_is_family) rfl ⟨rfl, by decide⟩, b_is_family]
  have h1 := h.m2
  have h2 := h.m32
  have h3 := h.n2
  have h4 := h.n32
  have h5 := h.k1
  have h6 := h.k64
  have c1 := r_check_many (n := n) (s := s) (M := M) (by omega)
  obtain ⟨K, eK⟩ : ∃ K : Int, K = (rows.length : Int) := ⟨_, rfl⟩
  obtain ⟨N, eN⟩ : ∃ N : Int, N = (k : Int) := ⟨_, rfl⟩
  have i0 := idx_fam (rows := rows) (x := 0) (by omega) (by omega)
  have r0 := h.row _ (rwL_mem (rows := rows) (x := 0) (by omega) (by omega))
  generalize rwL rows 0 = t0 at i0 r0
  have hc : evE (tb (n + 2)) glob (.comp (.call "is_table" [.var 3, .var 2, .var 1]) (.nm 3) .seq [.var 0] [] [3]) [.v (FamD rows), .v (.int M), .v (.int N), .no] s = .ok (.list (rows.map fun _ => .bool true)) s := by
    refine comp_seq (ds := [FamD rows]) (u := tupI) (L := rows) (by simp) rfl (by omega) fun t ht => ?_
    rw [turn_nm (by simp)]
    have := h.row t ht
    have f1 := r_is_table (n := n) (s := s) (t := t) eM eN (by omega) this.1 this.2
    simp [turnK, tb_is_table, f1]
  have d1 : (1 : Int) ≤ K := by omega
  have d2 : K ≤ (64 : Int) := by omega
  have d3 : (2 : Int) ≤ N := by omega
  have d4 : N ≤ (32 : Int) := by omega
  simp [startE_eq, tb_check_many, c1, isT_fam, len_fam (rows := rows) eK, gl_keys, d1, d2, i0, isT_tupI, len_tupI (t := t0) (N := N) (by omega), gl_values, d3, d4, hc]
theorem r_check_family (eM : M = m) (h : FamOk m k rows) : run (n + 3) f_check_family [.d (FamD rows), .d (.int M)] s = .ok .none s := by
  rw [run, run_eq (f := f_check_family) (body := b_check_family) rfl ⟨rfl, by decide⟩, b_check_family]
  have f1 := r_is_family (n := n) (s := s) eM h
  simp [startE_eq, tb_is_family, f1]
theorem first_len (h : FamOk m k rows) (eN : N = k) : ∃ t0, idxD (FamD rows) (.int 0) = some (tupI t0) ∧ primD .len [tupI t0] = some (.int N) := by
  have h5 := h.k1
  have r0 := h.row _ (rwL_mem (rows := rows) (x := 0) (by omega) (by omega))
  exact ⟨_, idx_fam (by omega) (by omega), len_tupI (by omega)⟩
theorem r_check_input {x : Int} (h : FamOk m k rows) (hx : 0 ≤ x ∧ x < (k : Int)) : run (n + 1) f_check_input [.d (FamD rows), .d (.int x)] s = .ok .none s := by
  rw [run, run_eq (f := f_check_input) (body := b_check_input) rfl ⟨rfl, by decide⟩, b_check_input]
  obtain ⟨N, eN⟩ : ∃ N : Int, N = (k : Int) := ⟨_, rfl⟩
  obtain ⟨t0, i0, l0⟩ := first_len h eN
  have h1 : decide ((0 : Int) ≤ x ∧ x ≤ N - 1) = true := decide_eq_true (by omega)
  simp [startE_eq, tb_is_number, r_is_number, i0, l0, h1]
end
end K64
set_option Elab.async false
set_option linter.all false
set_option maxRecDepth 100000
set_option maxHeartbeats 4000000
namespace K64
open PySem PySem.Spec PyProof.Rows L2 PV
variable {s : HS} {n : Nat}
/-! ### meeting -/
theorem tb_pairs_below : tb (n + 1) "pairs_below" = some (run n f_pairs_below) := tb_of (by decide +kernel) rfl
theorem same_two {k : Nat} {a b : PyData} (ha : Same1 k a) (hb : Same1 k b) : Same1 (k + 1) (.tuple [a, b]) := .tup (fun x hx => by
    simp only [List.mem_cons, List.not_mem_nil, or_false] at hx
    rcases hx with rfl | rfl
    · exact ha
    · exact hb) (by simp)
theorem same_three {k : Nat} {a b c : PyData} (ha : Same1 k a) (hb : Same1 k b) (hc : Same1 k c) : Same1 (k + 1) (.tuple [a, b, c]) := .tup (fun x hx => by
    simp only [List.mem_cons, List.not_mem_nil, or_false] at hx
    rcases hx with rfl | rfl | rfl
    · exact ha
    · exact hb
    · exact hc) (by simp)
theorem same_fr {k : Nat} {A B : Int} : Same1 (k + 1) (frD A B) := same_two (.int _) (.int _)
theorem Sz.of18 {x : Int} (h : -1000000000000000000 ≤ x ∧ x ≤ 1000000000000000000) : Sz 1000 x := by
  have h1 : Sz 18 x := by
    show x.natAbs ≤ 1000000000000000000
    omega
  exact h1.mono (by decide)
theorem loop_listP {γ : Type} {u : γ → PyData} {tg : Tg} {body : PV.Env → HS → RS HS} {Inv : List γ → PV.Env → HS → Prop} (L : List γ)
    (step : ∀ (done : List γ) (x : γ) (rest : List γ) (env : PV.Env) (s : HS), L = done ++ x :: rest → Inv done env s → ∃ env1 env2 s2, setTg tg (u x) env = some env1 ∧ body env1 s = .ok (.nx env2) s2 ∧ Inv (done ++ [x]) env2 s2) {env : PV.Env} {s : HS} (h : Inv [] env s) :
    ∃ env' s', loopS tg body (L.map u) env s = .ok (.nx env') s' ∧ Inv L env' s' := by
  have key : ∀ (rest done : List γ) (env : PV.Env) (s : HS), L = done ++ rest → Inv done env s → ∃ env' s', loopS tg body (rest.map u) env s = .ok (.nx env') s' ∧ Inv L env' s' := by
    intro rest
    induction rest with
    | nil =>
      intro done env s e h
      rw [List.append_nil] at e
      subst e
      exact ⟨env, s, rfl, h⟩
    | cons x q ih =>
      intro done env s e h
      obtain ⟨env1, env2, s2, e1, e2, h2⟩ := step done x q env s e h
      obtain ⟨env', s', e3, h3⟩ := ih (done ++ [x]) env2 s2 (by rw [e, List.append_assoc]; rfl) h2
      refine ⟨env', s', ?_, h3⟩
      rw [List.map_cons, loop_cons e1, e2, againS_nx]
      exact e3
  exact key L [] env s rfl h
/-- n numbers from a on -/
def rgF (a : Int) (n : Nat) : List Int := (List.range n).map fun (i : Nat) => a + (i : Int)
theorem rngD_rgF {a : Int} {n : Nat} : rngD a n = (rgF a n).map .int := by
  unfold rngD rgF
  rw [List.map_map]
  rfl
theorem rgF_mem {a x : Int} {n : Nat} : x ∈ rgF a n ↔ a ≤ x ∧ x < a + n := by
  unfold rgF
  rw [List.mem_map]
  constructor
  · rintro ⟨i, hi, rfl⟩
    have := List.mem_range.mp hi
    omega
  · rintro ⟨h0, h1⟩
    exact ⟨(x - a).toNat, List.mem_range.mpr (by omega), by omega⟩
theorem rgF_len {a : Int} {n : Nat} : (rgF a n).length = n := by
  unfold rgF
  rw [List.length_map, List.length_range]
def plR (N : Nat) (a : Int) : List (Int × Int) := (rgF (a + 1) ((N : Int) - (a + 1)).toNat).map fun b => (a, b)
/-- the pairs a < b below N -/
def plN (N : Nat) : List (Int × Int) := (rgI N).flatMap (plR N)
theorem plN_mem {N : Nat} {p : Int × Int} (h : p ∈ plN N) : 0 ≤ p.1 ∧ p.1 < p.2 ∧ p.2 < (N : Int) := by
  obtain ⟨a, ha, hp⟩ := List.mem_flatMap.mp h
  obtain ⟨b, hb, rfl⟩ := List.mem_map.mp hp
  have h1 := rgI_mem.mp ha
  have h2 := rgF_mem.mp hb
  show 0 ≤ a ∧ a < b ∧ b < (N : Int)
  omega
theorem plN_has {N : Nat} {a b : Int} (h0 : 0 ≤ a) (h1 : a < b) (h2 : b < (N : Int)) : (a, b) ∈ plN N :=
  List.mem_flatMap.mpr ⟨a, rgI_mem.mpr ⟨h0, by omega⟩, List.mem_map.mpr ⟨b, rgF_mem.mpr (by omega), rfl⟩⟩
theorem plN_len {N : Nat} : (plN N).length ≤ N * N := by
  unfold plN
  have : ∀ L : List Int, (∀ a ∈ L, 0 ≤ a) → (L.flatMap (plR N)).length ≤ L.length * N := by
    intro L
    induction L with
    | nil => intro _; simp
    | cons x q ih =>
      intro h
      have h1 := ih fun a ha => h a (List.mem_cons_of_mem _ ha)
      have h2 := h x List.mem_cons_self
      rw [List.flatMap_cons, List.length_append, List.length_cons, Nat.succ_mul]
      unfold plR
      rw [List.length_map, rgF_len]
      unfold plR at h1
      omega
  have h1 := this (rgI N) fun a ha => (rgI_mem.mp ha).1
  rw [rgI_len] at h1
  exact h1
theorem srcD_two {N : Nat} {NI a : Int} (eN : NI = N) (hN : N ≤ 10000) (ha : 0 ≤ a ∧ a < (N : Int)) : srcD .rng2 [.int (a + 1), .int NI] = some ((rgF (a + 1) ((N : Int) - (a + 1)).toNat).map .int) := by
  rw [eN, srcD_rng2 (a + 1) (N : Int) (by omega) (by omega) (by omega) (by omega), rngD_rgF]
theorem r_pairs_below {N : Nat} {NI : Int} (eN : NI = N) (hN : N ≤ 1000) : run n f_pairs_below [.d (.int NI)] s = .ok (.list ((plN N).map pD)) s := by
  rw [run, run_eq (f := f_pairs_below) (body := b_pairs_below) rfl ⟨rfl, by decide⟩, b_pairs_below]
  have hc : evE (tb n) glob (.comp2 (.tup [.var 1, .var 2]) (.nm 1) .rng1 [.var 0] (.nm 2) .rng2 [.bop .add (.var 1) (.con (.int 1)), .var 0] [] [1, 2] [2]) [.v (.int NI), .no, .no] s = .ok (.list ((plN N).map pD)) s := by
    refine ev_comp2 rfl (ds := [.int NI]) (s1 := s) (items := (rgI N).map .int) (by simp) (srcD_rngR eN (by omega)) ?_ (by rw [List.length_map]; exact Nat.le_trans plN_len (Nat.le_trans (Nat.mul_le_mul hN hN) (by decide)))
    have e : (plN N).map pD = (rgI N).flatMap fun a => (rgF (a + 1) ((N : Int) - (a + 1)).toNat).map fun b => .tuple [.int a, .int b] := by
      unfold plN
      rw [List.map_flatMap]
      congr 1
      funext a
      unfold plR
      rw [List.map_map]
      rfl
    rw [e]
    refine flatM_mapm fun a ha => ?_
    have ha := rgI_mem.mp ha
    refine turn2_ok (env1 := [.v (.int NI), .v (.int a), .no]) (ds := [.int (a + 1), .int NI]) (s1 := s) (items := (rgF (a + 1) ((N : Int) - (a + 1)).toNat).map .int) (by simp [setTg', wipeE]) (by simp) (srcD_two eN (by omega) ha) ?_
    refine filtM_mapm fun b _ => ?_
    rw [turn_nm (by simp)]
    simp [turnK]
  simp [startE_eq, hc]
section
variable {m k : Nat} {M N K : Int} {rows : List (List Int)}
def metN (rows : List (List Int)) (a b : Int) : Int := (rows.countP fun t => atL t a == atL t b : Nat)
theorem metN_in {a b : Int} : 0 ≤ metN rows a b ∧ metN rows a b ≤ rows.length := by
  unfold metN
  have := List.countP_le_length (p := fun t : List Int => atL t a == atL t b) (l := rows)
  omega
end
end K64
set_option Elab.async false
set_option linter.all false
set_option maxRecDepth 100000
set_option maxHeartbeats 4000000
namespace K64
open PySem PySem.Spec PyProof.Rows L2 PV
variable {s : HS} {n : Nat}
/-! ### any two inputs, any two values -/
theorem tb_pairs_below' : tb (n + 1) "pairs_below" = some (run n f_pairs_below) := tb_of (by decide +kernel) rfl
theorem tb_is_pairwise : tb (n + 1) "is_pairwise" = some (run n f_is_pairwise) := tb_of (by decide +kernel) rfl
/-- a loop that ends at the first item that a test tells no of -/
theorem loop_all {γ : Type} {u : γ → PyData} {tg : Tg} {body : PV.Env → HS → RS HS} {p : γ → Bool} {In : PV.Env → Prop} {d : PyData} : ∀ (L : List γ) {env : PV.Env}, (∀ x ∈ L, ∀ env, In env → ∃ env1, setTg tg (u x) env = some env1 ∧ (p x = true → ∃ env2, body env1 s = .ok (.nx env2) s ∧ In env2) ∧ (p x = false → body env1 s = .ok (.ret d) s)) →
    In env → (L.all p = true → ∃ env', loopS tg body (L.map u) env s = .ok (.nx env') s ∧ In env') ∧ (L.all p = false → loopS tg body (L.map u) env s = .ok (.ret d) s)
  | [], env, _, h => ⟨fun _ => ⟨env, rfl, h⟩, fun e => nomatch e⟩
  | x :: r, env, step, h => by
    obtain ⟨env1, e1, y1, n1⟩ := step x List.mem_cons_self env h
    rw [List.map_cons, loop_cons e1, List.all_cons]
    cases hp : p x with
    | false =>
      rw [n1 hp]
      exact ⟨fun e => (nomatch e), fun _ => rfl⟩
    | true =>
      obtain ⟨env2, e2, h2⟩ := y1 hp
      rw [e2, againS_nx, Bool.true_and]
      exact loop_all r (fun y hy => step y (List.mem_cons_of_mem _ hy)) h2
theorem eqv_tupI : ∀ a b : List Int, PyData.eqv (tupI a) (tupI b) = decide (a = b)
  | [], [] => rfl
  | [], _ :: _ => rfl
  | _ :: _, [] => rfl
  | x :: a, y :: b => by
    show ((x == y) && PyData.eqv (tupI a) (tupI b)) = _
    rw [eqv_tupI a b]
    by_cases h : x = y
    · subst h
      by_cases h2 : a = b <;> simp [h2]
    · simp [h]
theorem eqv_rows : ∀ A B : List (List Int), PyData.eqv (.list (A.map tupI)) (.list (B.map tupI)) = decide (A = B)
  | [], [] => rfl
  | [], _ :: _ => rfl
  | _ :: _, [] => rfl
  | x :: a, y :: b => by
    show (PyData.eqv (tupI x) (tupI y) && PyData.eqv (.list (a.map tupI)) (.list (b.map tupI))) = _
    rw [eqv_rows a b, eqv_tupI]
    by_cases h : x = y
    · subst h
      by_cases h2 : a = b <;> simp [h2]
    · simp [h]
theorem shp_tup1 (t : List Int) : Shp 1 (tupI t) := Shp.intsT
theorem ne_rows (A B : List (List Int)) : cmpD .ne (.list (A.map tupI)) (.list (B.map tupI)) = some (.bool (!decide (A = B))) := by
  have sh : ∀ L : List (List Int), Shp 2 (.list (L.map tupI)) := fun L => Shp.list fun x hx => by
    obtain ⟨t, _, rfl⟩ := List.mem_map.mp hx
    exact shp_tup1 t
  rw [cmpD_neS ((sh A).shaped (by decide)) ((sh B).shaped (by decide)), eqv_rows]
theorem sortD_rows {L : List (List Int)} (h : lenOk L = true) : sortD (L.map tupI) = some ((sortT L).map tupI) := by
  have e : tupsD (L.map tupI) = some L := by
    clear h
    induction L with
    | nil => rfl
    | cons t r ih =>
      have ei : intsD (t.map .int) = some t := by
        have := intsD_map (fun x : Int => x) t
        rw [List.map_id'] at this
        exact this
      show (intsD (t.map .int)).bind (fun ns => (tupsD (r.map tupI)).map (ns :: ·)) = _
      rw [ei, ih]
      rfl
  cases L with
  | nil => cases h
  | cons t r =>
    have ez : intsD ((t :: r).map tupI) = none := rfl
    unfold sortD
    rw [ez, e]
    show (if lenOk (t :: r) then some ((sortT (t :: r)).map tupI) else none) = _
    rw [if_pos h]
/-- all pairs of values, each so often -/
def evenL (m : Nat) (o : Nat) : List (List Int) := (rgI m).flatMap fun u => (rgI m).flatMap fun v => (rgI o).map fun _ => [u, v]
def pairL (rows : List (List Int)) (a b : Int) : List (List Int) := rows.map fun t => [atL t a, atL t b]
theorem count_fm {β : Type} [BEq β] {g : Int → List β} {x : β} {u : Int} {c : Nat} (h0 : 0 ≤ u) : ∀ {r : Nat}, (∀ i, (g i).count x = if i = u then c else 0) → ((rgI r).flatMap g).count x = if u < (r : Int) then c else 0
  | 0, _ => by rw [if_neg (by omega)]; rfl
  | r + 1, h => by
    rw [rgI_succ, List.flatMap_append, List.count_append, count_fm h0 h, List.flatMap_cons, List.flatMap_nil, List.append_nil, h]
    by_cases e : (r : Int) = u
    · rw [if_pos e, if_neg (by omega), if_pos (by omega), Nat.zero_add]
    · rw [if_neg e]
      by_cases e2 : u < (r : Int)
      · rw [if_pos e2, if_pos (by omega), Nat.add_zero]
      · rw [if_neg e2, if_neg (by omega)]
theorem count_fm0 {β : Type} [BEq β] {g : Int → List β} {x : β} : ∀ {r : Nat}, (∀ i, 0 ≤ i → i < (r : Int) → (g i).count x = 0) → ((rgI r).flatMap g).count x = 0
  | 0, _ => rfl
  | r + 1, h => by
    rw [rgI_succ, List.flatMap_append, List.count_append, count_fm0 fun i h0 h1 => h i h0 (by omega), List.flatMap_cons, List.flatMap_nil, List.append_nil, h r (by omega) (by omega)]
theorem len_fm {β : Type} {g : Int → List β} {c : Nat} : ∀ {r : Nat}, (∀ i, (g i).length = c) → ((rgI r).flatMap g).length = r * c
  | 0, _ => by rw [Nat.zero_mul]; rfl
  | r + 1, h => by
    rw [rgI_succ, List.flatMap_append, List.length_append, len_fm h, List.flatMap_cons, List.flatMap_nil, List.append_nil, h, Nat.succ_mul]
theorem count_same {o : Nat} {x y : List Int} : ((rgI o).map fun _ => y).count x = if y = x then o else 0 := by
  rw [List.map_const', rgI_len, List.count_replicate]
  by_cases e : y = x
  · rw [if_pos e, if_pos (beq_iff_eq.mpr e)]
  · rw [if_neg e, if_neg (by rw [beq_iff_eq]; exact e)]
theorem evenL_len {m o : Nat} : (evenL m o).length = m * (m * o) := len_fm fun u => len_fm fun v => by rw [List.length_map, rgI_len]
theorem evenL_count {m o : Nat} {u v : Int} (hu : 0 ≤ u ∧ u < (m : Int)) (hv : 0 ≤ v ∧ v < (m : Int)) : (evenL m o).count [u, v] = o := by
  unfold evenL
  rw [count_fm (u := u) (c := o) hu.1 (fun i => ?_), if_pos hu.2]
  by_cases e : i = u
  · rw [if_pos e, count_fm (u := v) (c := o) hv.1 (fun j => ?_), if_pos hv.2]
    rw [count_same]
    by_cases e2 : j = v
    · rw [if_pos (by rw [e, e2]), if_pos e2]
    · rw [if_neg (fun z => e2 (by simpa using (List.cons.inj z).2)), if_neg e2]
  · rw [if_neg e]
    refine count_fm0 fun j _ _ => ?_
    rw [count_same, if_neg (fun z => e (List.cons.inj z).1)]
theorem evenL_mem {m o : Nat} {x : List Int} (h : x ∈ evenL m o) : ∃ u v : Int, x = [u, v] ∧ (0 ≤ u ∧ u < (m : Int)) ∧ 0 ≤ v ∧ v < (m : Int) := by
  obtain ⟨u, hu, h⟩ := List.mem_flatMap.mp h
  obtain ⟨v, hv, h⟩ := List.mem_flatMap.mp h
  obtain ⟨_, _, rfl⟩ := List.mem_map.mp h
  exact ⟨u, v, rfl, rgI_mem.mp hu, rgI_mem.mp hv⟩
theorem rgI_up {k : Nat} : (rgI k).Pairwise (· < ·) := by
  induction k with
  | zero => exact List.Pairwise.nil
  | succ k ih =>
    rw [rgI_succ, List.pairwise_append]
    refine ⟨ih, List.pairwise_singleton _ _, fun a ha b hb => ?_⟩
    rw [List.mem_singleton.mp hb]
    exact (rgI_mem.mp ha).2
theorem evenL_up {m o : Nat} : (evenL m o).Pairwise fun a b => ltL b a = false := by
  unfold evenL
  rw [List.pairwise_flatMap]
  refine ⟨fun u _ => ?_, rgI_up.imp fun {u u'} hlt x hx y hy => ?_⟩
  · rw [List.pairwise_flatMap]
    refine ⟨fun v _ => ?_, rgI_up.imp fun {v v'} hlt x hx y hy => ?_⟩
    · rw [List.map_const', List.pairwise_replicate]
      exact .inr (by unfold ltL; rw [if_pos rfl]; unfold ltL; rw [if_pos rfl]; rfl)
    · obtain ⟨_, _, rfl⟩ := List.mem_map.mp hx
      obtain ⟨_, _, rfl⟩ := List.mem_map.mp hy
      show (if u = u then (if v' = v then _ else decide (v' < v)) else decide (u < u)) = false
      rw [if_pos rfl, if_neg (by omega)]
      exact decide_eq_false (by omega)
  · obtain ⟨v, _, hx⟩ := List.mem_flatMap.mp hx
    obtain ⟨v', _, hy⟩ := List.mem_flatMap.mp hy
    obtain ⟨_, _, rfl⟩ := List.mem_map.mp hx
    obtain ⟨_, _, rfl⟩ := List.mem_map.mp hy
    show (if u' = u then _ else decide (u' < u)) = false
    rw [if_neg (by omega)]
    exact decide_eq_false (by omega)
/-- sorted, they are even just where each pair comes for its share -/
theorem sort_even {m : Nat} {L : List (List Int)} (hL : ∀ x ∈ L, ∃ u v : Int, x = [u, v] ∧ (0 ≤ u ∧ u < (m : Int)) ∧ 0 ≤ v ∧ v < (m : Int)) (hm : 0 < m) :
    sortT L = evenL m (L.length / (m * m)) ↔ ∀ u v : Int, 0 ≤ u → u < (m : Int) → 0 ≤ v → v < (m : Int) → L.count [u, v] * (m * m) = L.length := by
  have hmm : 0 < m * m := Nat.mul_pos hm hm
  have hp : (sortT L).Perm L := List.mergeSort_perm L _
  constructor
  · intro e u v u0 u1 v0 v1
    have h1 : L.count [u, v] = L.length / (m * m) := by
      rw [← hp.count_eq, e, evenL_count ⟨u0, u1⟩ ⟨v0, v1⟩]
    have h2 : L.length = m * (m * (L.length / (m * m))) := by
      have := congrArg List.length e
      rw [hp.length_eq, evenL_len] at this
      exact this
    rw [h1, Nat.mul_comm, Nat.mul_assoc]
    exact h2.symm
  · intro h
    refine (sortT_eq ?_ evenL_up).symm
    refine List.perm_iff_count.mpr fun x => ?_
    by_cases hx : ∃ u v : Int, x = [u, v] ∧ (0 ≤ u ∧ u < (m : Int)) ∧ 0 ≤ v ∧ v < (m : Int)
    · obtain ⟨u, v, rfl, hu, hv⟩ := hx
      rw [evenL_count hu hv]
      have := h u v hu.1 hu.2 hv.1 hv.2
      rw [← this, Nat.mul_div_cancel _ hmm]
    · rw [List.count_eq_zero_of_not_mem fun z => hx (evenL_mem z), List.count_eq_zero_of_not_mem fun z => hx (hL x z)]
section
variable {m k : Nat} {M N K : Int} {rows : List (List Int)}
def evP (rows : List (List Int)) (m : Nat) (p : Int × Int) : Bool := decide (sortT (pairL rows p.1 p.2) = evenL m (rows.length / (m * m)))
def isEv (rows : List (List Int)) (m k : Nat) : Bool := (plN k).all (evP rows m)
theorem pair_len (t : List Int) : lenOk (pairL (t :: rows) a b) = true := by
  show (decide (1 ≤ 2) && (rows.map fun t => [atL t a, atL t b]).all fun ms => decide (ms.length = 2)) = true
  rw [Bool.and_eq_true]
  refine ⟨rfl, List.all_eq_true.mpr fun x hx => ?_⟩
  obtain ⟨_, _, rfl⟩ := List.mem_map.mp hx
  rfl
theorem r_is_pairwise (eM : M = m) (h : FamOk m k rows) : run (n + 4) f_is_pairwise [.d (FamD rows), .d (.int M)] s = .ok (.bool (isEv rows m k)) s := by
  have h2 := h.m2
  have h32 := h.m32
  have hk := h.n32
  have h64 := h.k64
  obtain ⟨N, eN⟩ : ∃ N : Int, N = (k : Int) := ⟨_, rfl⟩
  obtain ⟨K, eK⟩ : ∃ K : Int, K = (rows.length : Int) := ⟨_, rfl⟩
  obtain ⟨O, eO⟩ : ∃ O : Int, O = ((rows.length / (m * m) : Nat) : Int) := ⟨_, rfl⟩
  have hO : rows.length / (m * m) ≤ 64 := Nat.le_trans (Nat.div_le_self _ _) h64
  have f1 := r_check_family (n := n) (s := s) eM h
  have f2 := r_pairs_below (n := n + 3) (s := s) eN (by omega)
  obtain ⟨t0, i0, l0⟩ := first_len h eN
  have lF := len_fam (rows := rows) eK
  have m1 := bopD_mul (i := M) (j := M) (mulOk_r (by omega))
  have hMM : 0 < M * M := Int.mul_pos (by omega) (by omega)
  have hMM2 : M * M ≤ 32 * 32 := Int.mul_le_mul (by omega) (by omega) (by omega) (by decide)
  have d1 : bopD .fdiv (.int K) (.int (M * M)) = some (.int O) := by
    rw [Sz.fdiv (k := 4) (by unfold Sz; omega) (by decide) hMM]
    congr 2
    rw [eK, eO, eM, ← Int.natCast_mul, ← Int.natCast_ediv]
  have c1 : evE (tb (n + 4)) glob (.comp3 (.tup [.var 6, .var 7]) (.nm 6) .rng1 [.var 1] (.nm 7) .rng1 [.var 1] (.nm 8) .rng1 [.var 2] [6, 7, 8] [7, 8] [8]) [.v (FamD rows), .v (.int M), .v (.int O), .no, .no, .no, .no, .no, .no, .no] s = .ok (.list ((evenL m (rows.length / (m * m))).map tupI)) s := by
    refine ev_comp3 rfl (ds := [.int M]) (s1 := s) (items := (rgI m).map .int) (by simp) (srcD_rngR eM (by omega)) ?_ (by
      rw [List.length_map, evenL_len]
      exact Nat.le_trans (Nat.mul_le_mul h32 (Nat.mul_le_mul h32 hO)) (by decide))
    have e : (evenL m (rows.length / (m * m))).map tupI = (rgI m).flatMap fun u => (rgI m).flatMap fun v => (rgI (rows.length / (m * m))).map fun _ => .tuple [.int u, .int v] := by
      unfold evenL
      rw [List.map_flatMap]
      congr 1
      funext u
      rw [List.map_flatMap]
      congr 1
      funext v
      rw [List.map_map]
      rfl
    rw [e]
    refine flatM_mapm fun u hu => ?_
    refine turn3_ok (env1 := [.v (FamD rows), .v (.int M), .v (.int O), .no, .no, .no, .v (.int u), .no, .no, .no]) (ds := [.int M]) (s1 := s) (items := (rgI m).map .int) (by simp [setTg', wipeE]) (by simp) (srcD_rngR eM (by omega)) ?_
    refine flatM_mapm fun v hv => ?_
    refine turn2_ok (ts := []) (env1 := [.v (FamD rows), .v (.int M), .v (.int O), .no, .no, .no, .v (.int u), .v (.int v), .no, .no]) (ds := [.int O]) (s1 := s) (items := (rgI (rows.length / (m * m))).map .int) (by simp [setTg', wipeE]) (by simp) (srcD_rngR eO (by omega)) ?_
    refine filtM_mapm fun w _ => ?_
    rw [turn_nm (by simp)]
    simp [turnK]
  obtain ⟨F0, eF0⟩ : ∃ X, X = (evenL m (rows.length / (m * m))).map tupI := ⟨_, rfl⟩
  have lp := loop_all (s := s) (u := pD) (tg := .tup [4, 5]) (p := evP rows m) (d := .bool false) (body := evSs (tb (n + 4)) glob subX fuel [.ifs (.e (.cmp .ne (.prim .sorted [.comp (.tup [.idx (.var 9) (.var 4), .idx (.var 9) (.var 5)]) (.nm 9) .seq [.var 0] [] [9]]) (.var 3)))
       [.ret (.con (.bl false))]
       []]) (In := fun env => ∃ z4 z5, env = [.v (FamD rows), .v (.int M), .v (.int O), .v (.list F0), z4, z5, .no, .no, .no, .no]) (env := [.v (FamD rows), .v (.int M), .v (.int O), .v (.list F0), .no, .no, .no, .no, .no, .no]) (plN k) (fun p hp env hv => by
    obtain ⟨z4, z5, rfl⟩ := hv
    obtain ⟨a, b⟩ := p
    have hp := plN_mem hp
    have c2 : evE (tb (n + 4)) glob (.comp (.tup [.idx (.var 9) (.var 4), .idx (.var 9) (.var 5)]) (.nm 9) .seq [.var 0] [] [9]) [.v (FamD rows), .v (.int M), .v (.int O), .v (.list F0), .v (.int a), .v (.int b), .no, .no, .no, .no] s = .ok (.list ((pairL rows a b).map tupI)) s := by
      unfold pairL
      rw [List.map_map]
      refine comp_seq (ds := [FamD rows]) (u := tupI) (L := rows) (by simp) rfl (by omega) fun t ht => ?_
      rw [turn_nm (by simp)]
      have i1 := (h.at ht (x := a) hp.1 (Int.lt_trans hp.2.1 hp.2.2)).1
      have i2 := (h.at ht (x := b) (Int.le_of_lt (Int.lt_of_le_of_lt hp.1 hp.2.1)) hp.2.2).1
      simp [turnK, i1, i2]
      rfl
    have so : sortD ((pairL rows a b).map tupI) = some ((sortT (pairL rows a b)).map tupI) := sortD_rows (by
      have := h.k1
      cases rows with
      | nil => simp at this
      | cons t r => exact pair_len t)
    have ne := ne_rows (sortT (pairL rows a b)) (evenL m (rows.length / (m * m)))
    rw [← eF0] at ne
    obtain ⟨P1, e1⟩ : ∃ X, X = (pairL rows a b).map tupI := ⟨_, rfl⟩
    obtain ⟨P2, e2⟩ : ∃ X, X = (sortT (pairL rows a b)).map tupI := ⟨_, rfl⟩
    rw [← e1] at c2 so
    rw [← e2] at so ne
    refine ⟨[.v (FamD rows), .v (.int M), .v (.int O), .v (.list F0), .v (.int a), .v (.int b), .no, .no, .no, .no], by simp [pD], fun hy => ⟨[.v (FamD rows), .v (.int M), .v (.int O), .v (.list F0), .v (.int a), .v (.int b), .no, .no, .no, .no], ?_, _, _, rfl⟩, fun hn => ?_⟩
    · have hy : decide (sortT (pairL rows a b) = evenL m (rows.length / (m * m))) = true := hy
      rw [hy] at ne
      simp [c2, so, ne]
    · have hn : decide (sortT (pairL rows a b) = evenL m (rows.length / (m * m))) = false := hn
      rw [hn] at ne
      simp [c2, so, ne]) ⟨.no, .no, rfl⟩
  have sp : srcD .seq [.list ((plN k).map pD)] = some ((plN k).map pD) := rfl
  rw [← eF0] at c1
  rw [run, run_eq (f := f_is_pairwise) (body := b_is_pairwise) rfl ⟨rfl, by decide⟩, b_is_pairwise]
  cases hb : isEv rows m k with
  | false =>
    have l1 := lp.2 hb
    simp [startE_eq, tb_check_family, f1, lF, m1, d1, c1, i0, l0, tb_pairs_below', f2, evS_loop, sp, l1]
  | true =>
    obtain ⟨env', l1, z4, z5, rfl⟩ := lp.1 hb
    simp [startE_eq, tb_check_family, f1, lF, m1, d1, c1, i0, l0, tb_pairs_below', f2, evS_loop, sp, l1]
/-- what it tells, by counts -/
theorem isEv_iff (h : FamOk m k rows) : isEv rows m k = true ↔ ∀ a b u v : Int, 0 ≤ a → a < b → b < (k : Int) → 0 ≤ u → u < (m : Int) → 0 ≤ v → v < (m : Int) → (pairL rows a b).count [u, v] * (m * m) = rows.length := by
  have key : ∀ a b : Int, 0 ≤ a → a < b → b < (k : Int) → (evP rows m (a, b) = true ↔ ∀ u v : Int, 0 ≤ u → u < (m : Int) → 0 ≤ v → v < (m : Int) → (pairL rows a b).count [u, v] * (m * m) = rows.length) := fun a b a0 ab b1 => by
    have hl : (pairL rows a b).length = rows.length := by unfold pairL; rw [List.length_map]
    have := sort_even (m := m) (L := pairL rows a b) (fun x hx => by
      obtain ⟨t, ht, rfl⟩ := List.mem_map.mp hx
      exact ⟨_, _, rfl, (h.at ht (x := a) a0 (by omega)).2, (h.at ht (x := b) (by omega) b1).2⟩) (by have := h.m2; omega)
    rw [hl] at this
    unfold evP
    rw [decide_eq_true_iff]
    exact this
  unfold isEv
  rw [List.all_eq_true]
  constructor
  · intro hh a b u v a0 ab b1 u0 u1 v0 v1
    exact (key a b a0 ab b1).mp (hh (a, b) (plN_has a0 ab b1)) u v u0 u1 v0 v1
  · intro hh p hp
    obtain ⟨a, b⟩ := p
    have hp := plN_mem hp
    exact (key a b hp.1 hp.2.1 hp.2.2).mpr fun u v u0 u1 v0 v1 => hh a b u v hp.1 hp.2.1 hp.2.2 u0 u1 v0 v1
end
end K64
set_option Elab.async false
set_option linter.all false
set_option maxRecDepth 100000
set_option maxHeartbeats 4000000
namespace K64
open PySem PySem.Spec PyProof.Rows L2 PV
variable {s : HS} {n : Nat}
/-! lists over places, of which one is set -/
theorem ixN_at {r i : Nat} {I : Int} (eI : I = i) (hi : i < r) : ixN r I = some i := by
  unfold ixN
  rw [if_pos (by omega), if_pos (by omega)]
  congr 1
  omega
theorem set_rgI {α : Type} {r i : Nat} {F : Int → α} {x : α} (hi : i < r) : ((rgI r).map F).set i x = (rgI r).map fun k => if k = (i : Int) then x else F k := by
  refine List.ext_getElem? fun j => ?_
  by_cases hj : j < r
  · rw [List.getElem?_set, List.getElem?_map, List.getElem?_map, rgI_get hj]
    by_cases e : i = j
    · subst e
      rw [if_pos rfl, rgI_map_len, if_pos hi]
      show some x = some (if (i : Int) = (i : Int) then x else F i)
      rw [if_pos rfl]
    · rw [if_neg e]
      show some (F j) = some (if (j : Int) = (i : Int) then x else F j)
      rw [if_neg (by omega)]
  · rw [List.getElem?_eq_none (by rw [List.length_set, rgI_map_len]; omega), List.getElem?_eq_none (by rw [rgI_map_len]; omega)]
theorem rgI_congr {α : Type} {r : Nat} {F G : Int → α} (h : ∀ i : Int, 0 ≤ i → i < r → F i = G i) : (rgI r).map F = (rgI r).map G :=
  List.map_congr_left fun i hi => h i (rgI_mem.mp hi).1 (rgI_mem.mp hi).2
theorem bopD_repL {r : Nat} {R : Int} {x : PyData} (er : R = r) (h : r ≤ 1000) : bopD .mul (.list [x]) (.int R) = some (.list ((rgI r).map fun _ => x)) := by
  show (if smallI R && decide (-(2 ^ 63) ≤ R ∧ R < 2 ^ 63) && decide ([x].length * R.toNat ≤ sizeLine) then some (PyData.list (List.replicate R.toNat [x]).flatten) else none) = _
  rw [if_pos (by
    rw [smallI_of (by omega), decide_eq_true (by omega), decide_eq_true (show [x].length * R.toNat ≤ sizeLine by
      show 1 * R.toNat ≤ 16777216
      omega)]
    rfl), show R.toNat = r by omega, rep_flat]
theorem dedI_nodup : ∀ {L : List Int}, L.Nodup → dedI L = L
  | [], _ => rfl
  | x :: r, h => by
    obtain ⟨h1, h2⟩ := List.nodup_cons.mp h
    unfold dedI
    rw [if_neg (by simpa using h1), dedI_nodup h2]
theorem lset_tup {L : List Int} (h : L.length ≤ 4000) : fusD .lset (tupI L) = some (.int ((dedI L).length : Nat)) := by
  show (intsD (L.map .int)).bind _ = _
  rw [intsD_self]
  exact if_pos h
theorem flat_ints (L : List Int) : (L.map PyData.int).all flatD = true := List.all_eq_true.mpr fun x hx => by
  obtain ⟨i, _, rfl⟩ := List.mem_map.mp hx
  rfl
theorem in_tup {i : Int} {L : List Int} : cmpD .in_ (.int i) (tupI L) = some (.bool (L.contains i)) := by
  show (if flatD (.int i) && (L.map PyData.int).all flatD then some (memD (.int i) (L.map .int)) else none).map PyData.bool = _
  rw [flat_ints, show flatD (.int i) = true from rfl, eqv_ints]
  rfl
theorem map_atL : ∀ (t : List Int), (rgI t.length).map (atL t) = t := by
  intro t
  refine List.ext_getElem? fun i => ?_
  rw [List.getElem?_map]
  by_cases h : i < t.length
  · rw [rgI_get h]
    show some (atL t (i : Int)) = _
    unfold atL
    rw [List.getD_eq_getElem?_getD, show ((i : Int)).toNat = i by omega, List.getElem?_eq_getElem h]
    rfl
  · rw [List.getElem?_eq_none (by rw [rgI_len]; omega), List.getElem?_eq_none (by omega)]
    rfl
end K64
set_option Elab.async false
set_option linter.all false
set_option maxRecDepth 100000
set_option maxHeartbeats 4000000
namespace K64
open PySem PySem.Spec PyProof.Rows L2 PV
variable {s : HS} {n : Nat}
section
variable {m k : Nat} {M N K : Int} {rows : List (List Int)}
/-! behind -/
def rowB (t : List Int) (u : List Int) : List Int := t.map (atL u)
def FamB (F1 F2 : List (List Int)) : List (List Int) := F1.flatMap fun t => F2.map (rowB t)
theorem famB_len {F1 F2 : List (List Int)} : (FamB F1 F2).length = F1.length * F2.length := by
  unfold FamB
  induction F1 with
  | nil => simp
  | cons t r ih => rw [List.flatMap_cons, List.length_append, ih, List.length_map, List.length_cons, Nat.succ_mul, Nat.add_comm]
theorem famB_snoc {F1 F2 : List (List Int)} {t : List Int} : FamB (F1 ++ [t]) F2 = FamB F1 F2 ++ F2.map (rowB t) := by
  unfold FamB
  rw [List.flatMap_append, List.flatMap_cons, List.flatMap_nil, List.append_nil]
theorem famB_mem {F1 F2 : List (List Int)} {w : List Int} (h : w ∈ FamB F1 F2) : ∃ t ∈ F1, ∃ u ∈ F2, w = rowB t u := by
  unfold FamB at h
  obtain ⟨t, ht, h⟩ := List.mem_flatMap.mp h
  obtain ⟨u, hu, rfl⟩ := List.mem_map.mp h
  exact ⟨t, ht, u, hu, rfl⟩
theorem famB_ok {j : Nat} {F1 F2 : List (List Int)} (h1 : FamOk m k F1) (h2 : FamOk j m F2) (hl : F1.length * F2.length ≤ 64) : FamOk j k (FamB F1 F2) := by
  refine ⟨h2.m2, h2.m32, h1.n2, h1.n32, ?_, by rw [famB_len]; exact hl, fun w hw => ?_⟩
  · rw [famB_len]
    have := Nat.mul_le_mul h1.k1 h2.k1
    omega
  · obtain ⟨t, ht, u, hu, rfl⟩ := famB_mem hw
    refine ⟨by unfold rowB; rw [List.length_map]; exact (h1.row t ht).1, fun x hx => ?_⟩
    obtain ⟨y, hy, rfl⟩ := List.mem_map.mp hx
    have hy := (h1.row t ht).2 y hy
    exact (h2.at hu hy.1 hy.2).2
theorem ev_rowB {j : Nat} {F2 : List (List Int)} {T : Tbl HS} {env : PV.Env} {a b c : Nat} {t u : List Int} (ht : ∀ x ∈ t, 0 ≤ x ∧ x < (m : Int)) (htl : t.length ≤ 1000) (h2 : FamOk j m F2) (hu : u ∈ F2) (hc : c < env.length) (ha : env[a]? = some (.v (tupI t))) (hb : ∀ d, (env.set c (.v d))[b]? = some (.v (tupI u))) (hcd : ∀ d, (env.set c (.v d))[c]? = some (.v d)) :
    evE T glob (.comp (.idx (.var b) (.var c)) (.nm c) .seq [.var a] [] [c]) env s = .ok (.list ((rowB t u).map .int)) s := by
  unfold rowB
  rw [List.map_map]
  refine comp_seq (ds := [tupI t]) (u := .int) (L := t) (by simp [ha]) rfl (by omega) fun x hx => ?_
  rw [turn_nm hc]
  have i1 := (h2.at hu (ht x hx).1 (ht x hx).2).1
  simp [turnK, hb, hcd, i1]
theorem r_put_behind {j : Nat} {J : Int} {F1 F2 : List (List Int)} (eM : M = m) (eJ : J = j) (h1 : FamOk m k F1) (h2 : FamOk j m F2) (hl : F1.length * F2.length ≤ 64) : run (n + 4) f_put_behind [.d (FamD F1), .d (.int M), .d (FamD F2), .d (.int J)] s = .ok (FamD (FamB F1 F2)) s := by
  have hm2 := h1.m2
  have hm32 := h1.m32
  have hj2 := h2.m2
  have hj32 := h2.m32
  have h32 := h1.n32
  have h16 := h1.k64
  have h26 := h2.k64
  have h21 := h2.k1
  have f1 := r_check_many (n := n + 2) (s := s) (M := M) (by omega)
  have f2 := r_check_many (n := n + 2) (s := s) (M := J) (by omega)
  have f3 := r_check_family (n := n) (s := s) eM h1
  have f4 := r_check_family (n := n) (s := s) eJ h2
  have i0 := idx_fam (rows := F2) (x := 0) (by omega) (by omega)
  have l0 := len_tupI (t := rwL F2 0) (N := M) (by rw [(h2.row _ (rwL_mem (rows := F2) (x := 0) (by omega) (by omega))).1]; exact eM)
  obtain ⟨K1, eK1⟩ : ∃ K1 : Int, K1 = (F1.length : Int) := ⟨_, rfl⟩
  obtain ⟨K2, eK2⟩ : ∃ K2 : Int, K2 = (F2.length : Int) := ⟨_, rfl⟩
  have m1 := bopD_mul (i := K1) (j := K2) (mulOk_l (by omega))
  have hle : ¬ (64 < K1 * K2) := by
    rw [eK1, eK2, ← Int.natCast_mul]
    omega
  have hc : evE (tb (n + 4)) glob (.comp2 (.prim .tuple [.comp (.idx (.var 5) (.var 6)) (.nm 6) .seq [.var 4] [] [6]]) (.nm 4) .seq [.var 0] (.nm 5) .seq [.var 2] [] [4, 5] [5]) [.v (FamD F1), .v (.int M), .v (FamD F2), .v (.int J), .no, .no, .no] s = .ok (.list ((FamB F1 F2).map tupI)) s := by
    refine ev_comp2 rfl (ds := [FamD F1]) (s1 := s) (items := F1.map tupI) (by simp) rfl ?_ (by rw [List.length_map, famB_len]; omega)
    have e : (FamB F1 F2).map tupI = F1.flatMap fun t => F2.map fun u => tupI (rowB t u) := by
      unfold FamB
      rw [List.map_flatMap]
      congr 1
      funext t
      rw [List.map_map]
      rfl
    rw [e]
    refine flatM_mapm fun t ht => ?_
    refine turn2_ok (env1 := [.v (FamD F1), .v (.int M), .v (FamD F2), .v (.int J), .v (tupI t), .no, .no]) (ds := [FamD F2]) (s1 := s) (items := F2.map tupI) (by simp [setTg', wipeE]) (by simp) rfl ?_
    refine filtM_mapm fun u hu => ?_
    rw [turn_nm (by simp)]
    have c1 := ev_rowB (s := s) (T := tb (n + 4)) (env := [.v (FamD F1), .v (.int M), .v (FamD F2), .v (.int J), .v (tupI t), .v (tupI u), .no]) (a := 4) (b := 5) (c := 6) (t := t) (u := u) (fun x hx => (h1.row t ht).2 x hx) (by rw [(h1.row t ht).1]; omega) h2 hu (by simp) rfl (fun d => rfl) (fun d => rfl)
    have ei : tupI (rowB t u) = .tuple ((rowB t u).map .int) := rfl
    rw [ei]
    obtain ⟨G, eG⟩ : ∃ G, G = (rowB t u).map PyData.int := ⟨_, rfl⟩
    rw [← eG] at c1 ⊢
    simp [turnK, c1]
  have eD : FamD (FamB F1 F2) = .tuple ((FamB F1 F2).map tupI) := rfl
  rw [eD]
  obtain ⟨G, eG⟩ : ∃ G, G = (FamB F1 F2).map tupI := ⟨_, rfl⟩
  rw [← eG] at hc ⊢
  rw [run, run_eq (f := f_put_behind) (body := b_put_behind) rfl ⟨rfl, by decide⟩, b_put_behind]
  simp [startE_eq, tb_check_many, f1, f2, tb_check_family, f3, f4, i0, l0, len_fam eK1, len_fam eK2, m1, gl_keys, hle, hc]
end
/-! ### lines -/
theorem tb_check_prime : tb (n + 1) "check_prime" = some (run n f_check_prime) := tb_of (by decide +kernel) rfl
theorem tb_line_tables : tb (n + 1) "line_tables" = some (run n f_line_tables) := tb_of (by decide +kernel) rfl
theorem tb_line_family : tb (n + 1) "line_family" = some (run n f_line_family) := tb_of (by decide +kernel) rfl
theorem tb_full_family : tb (n + 1) "full_family" = some (run n f_full_family) := tb_of (by decide +kernel) rfl
theorem tb_law_lines : tb (n + 1) "_law_lines" = some (run n f_law_lines) := tb_of (by decide +kernel) rfl
def lineR (p m : Nat) (q : Int × Int) : List Int := (rgI p).map fun x => (q.1 * x + q.2) % (p : Int) % (m : Int)
def keyL (p : Nat) (l : Int) : List (Int × Int) := (rgF l ((p : Int) - l).toNat).flatMap fun a => (rgI p).map fun b => (a, b)
def linesF (p m : Nat) (l : Int) : List (List Int) := (keyL p l).map (lineR p m)
section
variable {p m : Nat} {P M L : Int}
theorem keyL_in {q : Int × Int} (hL : 0 ≤ L ∧ L ≤ 1) (h : q ∈ keyL p L) : (0 ≤ q.1 ∧ q.1 < (p : Int)) ∧ (0 ≤ q.2 ∧ q.2 < (p : Int)) := by
  obtain ⟨a, ha, h⟩ := List.mem_flatMap.mp h
  obtain ⟨b, hb, rfl⟩ := List.mem_map.mp h
  have ha := rgF_mem.mp ha
  have hb := rgI_mem.mp hb
  exact ⟨⟨by show 0 ≤ a; omega, by show a < _; omega⟩, hb⟩
theorem keyL_len : (keyL p L).length = ((p : Int) - L).toNat * p := by
  unfold keyL
  have : ∀ X : List Int, (X.flatMap fun a => (rgI p).map fun b => (a, b)).length = X.length * p := fun X => by
    induction X with
    | nil => simp
    | cons x r ih => rw [List.flatMap_cons, List.length_append, ih, List.length_map, rgI_len, List.length_cons, Nat.succ_mul, Nat.add_comm]
  rw [this, rgF_len]
theorem linesF_ok (hp : 2 ≤ p ∧ p ≤ 7) (hm : 2 ≤ m ∧ m ≤ 7) (hL : 0 ≤ L ∧ L ≤ 1) : FamOk m p (linesF p m L) ∧ (linesF p m L).length ≤ 49 := by
  have hl : (linesF p m L).length = ((p : Int) - L).toNat * p := by unfold linesF; rw [List.length_map, keyL_len]
  have h1 : ((p : Int) - L).toNat * p ≤ 7 * 7 := Nat.mul_le_mul (by omega) hp.2
  have h2 : 1 * 1 ≤ ((p : Int) - L).toNat * p := Nat.mul_le_mul (by omega) (by omega)
  refine ⟨⟨hm.1, by omega, hp.1, by omega, by omega, by omega, fun t ht => ?_⟩, by omega⟩
  obtain ⟨q, _, rfl⟩ := List.mem_map.mp ht
  unfold lineR
  refine ⟨by rw [List.length_map, rgI_len], fun x hx => ?_⟩
  obtain ⟨y, _, rfl⟩ := List.mem_map.mp hx
  exact ⟨Int.emod_nonneg _ (by omega), Int.emod_lt_of_pos _ (by omega)⟩
theorem srcD_from {a NI : Int} {N : Nat} (eN : NI = N) (hN : N ≤ 10000) (ha : 0 ≤ a ∧ a ≤ (N : Int)) : srcD .rng2 [.int a, .int NI] = some ((rgF a ((N : Int) - a).toNat).map .int) := by
  rw [eN, srcD_rng2 a (N : Int) (by omega) (by omega) (by omega) (by omega), rngD_rgF]
theorem r_line_tables (eP : P = p) (eM : M = m) (hp : 2 ≤ p ∧ p ≤ 7) (hm : 2 ≤ m ∧ m ≤ 7) (hL : 0 ≤ L ∧ L ≤ 1) : run n f_line_tables [.d (.int P), .d (.int M), .d (.int L)] s = .ok (FamD (linesF p m L)) s := by
  have kl : (keyL p L).length ≤ 49 := by
    rw [keyL_len]
    exact Nat.mul_le_mul (show ((p : Int) - L).toNat ≤ 7 by omega) hp.2
  have c1 : evE (tb n) glob (.comp2 (.tup [.var 4, .var 5]) (.nm 4) .rng2 [.var 2, .var 0] (.nm 5) .rng1 [.var 0] [] [4, 5] [5]) [.v (.int P), .v (.int M), .v (.int L), .no, .no, .no, .no] s = .ok (.list ((keyL p L).map pD)) s := by
    refine ev_comp2 rfl (ds := [.int L, .int P]) (s1 := s) (items := (rgF L ((p : Int) - L).toNat).map .int) (by simp) (srcD_from eP (by omega) (by omega)) ?_ (by rw [List.length_map]; omega)
    have e : (keyL p L).map pD = (rgF L ((p : Int) - L).toNat).flatMap fun a => (rgI p).map fun b => .tuple [.int a, .int b] := by
      unfold keyL
      rw [List.map_flatMap]
      congr 1
      funext a
      rw [List.map_map]
      rfl
    rw [e]
    refine flatM_mapm fun a ha => ?_
    refine turn2_ok (env1 := [.v (.int P), .v (.int M), .v (.int L), .no, .v (.int a), .no, .no]) (ds := [.int P]) (s1 := s) (items := (rgI p).map .int) (by simp [setTg', wipeE]) (by simp) (srcD_rngR eP (by omega)) ?_
    refine filtM_mapm fun b _ => ?_
    rw [turn_nm (by simp)]
    simp [turnK]
  have c2 : evE (tb n) glob (.comp (.prim .tuple [.comp (.bop .mod (.bop .mod (.bop .add (.bop .mul (.var 4) (.var 6)) (.var 5)) (.var 0)) (.var 1)) (.nm 6) .rng1 [.var 0] [] [6]]) (.tup [4, 5]) .seq [.var 3] [] [4, 5]) [.v (.int P), .v (.int M), .v (.int L), .v (.list ((keyL p L).map pD)), .no, .no, .no] s = .ok (.list ((linesF p m L).map tupI)) s := by
    unfold linesF
    rw [List.map_map]
    refine comp_seq (ds := [.list ((keyL p L).map pD)]) (u := pD) (L := keyL p L) (by simp) rfl (by omega) fun q hq => ?_
    have hq := keyL_in hL hq
    unfold pD
    rw [turn_t2 (by simp) (by simp) (by decide)]
    have e : evE (tb n) glob (.comp (.bop .mod (.bop .mod (.bop .add (.bop .mul (.var 4) (.var 6)) (.var 5)) (.var 0)) (.var 1)) (.nm 6) .rng1 [.var 0] [] [6]) [.v (.int P), .v (.int M), .v (.int L), .v (.list ((keyL p L).map pD)), .v (.int q.1), .v (.int q.2), .no] s = .ok (.list ((lineR p m q).map .int)) s := by
      unfold lineR
      rw [List.map_map, ← eP, ← eM]
      refine comp_rng (R := P) (by simp) eP (by omega) (by simp) fun x _ _ => ?_
      have m1 := bopD_mul (i := q.1) (j := x) (mulOk_l (by omega))
      simp [m1, bopD_mod (show 0 < P by omega), bopD_mod (show 0 < M by omega)]
    have eL : (tupI ∘ lineR p m) q = .tuple ((lineR p m q).map .int) := rfl
    rw [eL]
    obtain ⟨G, eG⟩ : ∃ G, G = (lineR p m q).map PyData.int := ⟨_, rfl⟩
    obtain ⟨KD, eK⟩ : ∃ G, G = (keyL p L).map pD := ⟨_, rfl⟩
    unfold pD at e eK
    rw [← eG, ← eK] at e
    rw [← eG, ← eK]
    simp [turnK, e]
  have eF : FamD (linesF p m L) = .tuple ((linesF p m L).map tupI) := rfl
  rw [eF]
  obtain ⟨G, eG⟩ : ∃ G, G = (linesF p m L).map tupI := ⟨_, rfl⟩
  obtain ⟨KD, eK⟩ : ∃ G, G = (keyL p L).map pD := ⟨_, rfl⟩
  rw [← eG] at c2 ⊢
  rw [← eK] at c1 c2
  rw [run, run_eq (f := f_line_tables) (body := b_line_tables) rfl ⟨rfl, by decide⟩, b_line_tables]
  simp [startE_eq, c1, c2]
def isP (p : Nat) : Prop := p = 2 ∨ p = 3 ∨ p = 5 ∨ p = 7
theorem isP_in (h : isP p) : 2 ≤ p ∧ p ≤ 7 := by
  unfold isP at h
  omega
theorem r_check_prime (eP : P = p) (hp : isP p) : run (n + 1) f_check_prime [.d (.int P)] s = .ok .none s := by
  have h7 := isP_in hp
  have i1 := in_tup (i := P) (L := [4, 6])
  have c : [4, 6].contains P = false := by
    rw [← Bool.not_eq_true, List.contains_iff_mem]
    simp only [List.mem_cons, List.not_mem_nil, or_false]
    unfold isP at hp
    omega
  rw [c] at i1
  have i1 : cmpD .in_ (.int P) (.tuple [.int 4, .int 6]) = some (.bool false) := i1
  have d1 : decide ((2 : Int) ≤ P ∧ P ≤ 7) = true := decide_eq_true (by omega)
  rw [run, run_eq (f := f_check_prime) (body := b_check_prime) rfl ⟨rfl, by decide⟩, b_check_prime]
  simp [startE_eq, tb_is_number, r_is_number, d1, i1]
theorem r_line_family (eP : P = p) (eM : M = m) (hp : isP p) (hm : 2 ≤ m ∧ m ≤ p) : run (n + 2) f_line_family [.d (.int P), .d (.int M)] s = .ok (FamD (linesF p m 1)) s := by
  have h7 := isP_in hp
  have f1 := r_check_prime (n := n) (s := s) eP hp
  have f2 := r_line_tables (n := n + 1) (s := s) (L := 1) eP eM h7 (by omega) (by decide)
  have d1 : decide ((2 : Int) ≤ M ∧ M ≤ P) = true := decide_eq_true (by omega)
  rw [run, run_eq (f := f_line_family) (body := b_line_family) rfl ⟨rfl, by decide⟩, b_line_family]
  simp [startE_eq, tb_check_prime, f1, tb_is_number, r_is_number, d1, tb_line_tables, f2]
theorem r_full_family (eP : P = p) (hp : isP p) : run (n + 2) f_full_family [.d (.int P)] s = .ok (FamD (linesF p p 0)) s := by
  have h7 := isP_in hp
  have f1 := r_check_prime (n := n) (s := s) eP hp
  have f2 := r_line_tables (n := n + 1) (s := s) (L := 0) eP eP h7 h7 (by decide)
  rw [run, run_eq (f := f_full_family) (body := b_full_family) rfl ⟨rfl, by decide⟩, b_full_family]
  simp [startE_eq, tb_check_prime, f1, tb_line_tables, f2]
def b_li : List St' := [.app 3 (.prim .tuple [.comp (.bop .mod (.bop .mod (.prim .int [.bop .add (.bop .mul (.var 4) (.var 6)) (.var 5)]) (.var 0)) (.var 1)) (.nm 6) .rng1 [.var 0] [] [6]])]
theorem r_law_lines (eP : P = p) (eM : M = m) (hp : 2 ≤ p ∧ p ≤ 7) (hm : 2 ≤ m ∧ m ≤ 7) (hL : 0 ≤ L ∧ L ≤ 1) : run n f_law_lines [.d (.int P), .d (.int M), .d (.int L)] s = .ok (FamD (linesF p m L)) s := by
  have big : ∀ ps : List (Int × Int), ps.length ≤ 100000 → ((ps.map (lineR p m)).map tupI).length < 16777216 := fun ps h => by rw [List.length_map, List.length_map]; omega
  have pl : ∀ (X : List Int), X.length ≤ 100 → (X.flatMap fun a => (rgI p).map fun b => (a, b)).length ≤ 1000 := fun X hX => by
    have : (X.flatMap fun a => (rgI p).map fun b => (a, b)).length = X.length * p := by
      clear hX
      induction X with
      | nil => simp
      | cons x r ih => rw [List.flatMap_cons, List.length_append, ih, List.length_map, rgI_len, List.length_cons, Nat.succ_mul, Nat.add_comm]
    rw [this]
    exact Nat.le_trans (Nat.mul_le_mul hX hp.2) (by decide)
  obtain ⟨env', s', e1, z4, z5, z6, rfl, rfl⟩ := loop_listP (tg := .nm 4) (u := .int) (body := evSs (tb n) glob subX fuel [.loop (.nm 5) .rng1 [.var 0] b_li])
    (Inv := fun D env (s' : HS) => ∃ z4 z5 z6, env = [.v (.int P), .v (.int M), .v (.int L), .own (((D.flatMap fun a => (rgI p).map fun b => (a, b)).map (lineR p m)).map tupI), z4, z5, z6] ∧ s' = s) (rgF L ((p : Int) - L).toNat) (fun D a rest env s' eL hv => by
      obtain ⟨z4, z5, z6, rfl, rfl⟩ := hv
      have ha : a ∈ rgF L ((p : Int) - L).toNat := by rw [eL]; exact List.mem_append_right _ List.mem_cons_self
      have ha := rgF_mem.mp ha
      have hdl := congrArg List.length eL
      rw [List.length_append, List.length_cons, rgF_len] at hdl
      have hD := pl D (by omega)
      obtain ⟨env2, s2, e2, y5, y6, rfl, rfl⟩ := loop_listP (tg := .nm 5) (u := .int) (body := evSs (tb n) glob subX fuel b_li)
        (Inv := fun E env (s2 : HS) => ∃ z5 z6, env = [.v (.int P), .v (.int M), .v (.int L), .own (((D.flatMap (fun a => (rgI p).map fun b => (a, b)) ++ E.map fun b => (a, b)).map (lineR p m)).map tupI), .v (.int a), z5, z6] ∧ s2 = s') (rgI p) (fun E b rest env s2 eL2 hv => by
          obtain ⟨z5, z6, rfl, rfl⟩ := hv
          have hel := congrArg List.length eL2
          rw [List.length_append, List.length_cons, rgI_len] at hel
          have l1 := big (D.flatMap (fun a => (rgI p).map fun b => (a, b)) ++ E.map fun b => (a, b)) (by rw [List.length_append, List.length_map]; omega)
          have en : ((D.flatMap (fun a => (rgI p).map fun b => (a, b)) ++ (E ++ [b]).map fun b => (a, b)).map (lineR p m)).map tupI = ((D.flatMap (fun a => (rgI p).map fun b => (a, b)) ++ E.map fun b => (a, b)).map (lineR p m)).map tupI ++ [.tuple ((lineR p m (a, b)).map .int)] := by
            have : D.flatMap (fun a => (rgI p).map fun b => (a, b)) ++ (E ++ [b]).map (fun b => (a, b)) = (D.flatMap (fun a => (rgI p).map fun b => (a, b)) ++ E.map fun b => (a, b)) ++ [(a, b)] := by
              rw [List.map_append, ← List.append_assoc]
              rfl
            rw [this, List.map_append, List.map_append]
            rfl
          rw [en]
          obtain ⟨F, eF⟩ : ∃ F, F = ((D.flatMap (fun a => (rgI p).map fun b => (a, b)) ++ E.map fun b => (a, b)).map (lineR p m)).map tupI := ⟨_, rfl⟩
          rw [← eF] at l1 ⊢
          have e : evE (tb n) glob (.comp (.bop .mod (.bop .mod (.prim .int [.bop .add (.bop .mul (.var 4) (.var 6)) (.var 5)]) (.var 0)) (.var 1)) (.nm 6) .rng1 [.var 0] [] [6]) [.v (.int P), .v (.int M), .v (.int L), .own F, .v (.int a), .v (.int b), z6] s2 = .ok (.list ((lineR p m (a, b)).map .int)) s2 := by
            unfold lineR
            rw [List.map_map, ← eP, ← eM]
            refine comp_rng (R := P) (by simp) eP (by omega) (by simp) fun x _ _ => ?_
            have m1 := bopD_mul (i := a) (j := x) (mulOk_l (by omega))
            simp [m1, bopD_mod (show 0 < P by omega), bopD_mod (show 0 < M by omega)]
          obtain ⟨G, eG⟩ : ∃ G, G = (lineR p m (a, b)).map PyData.int := ⟨_, rfl⟩
          rw [← eG] at e ⊢
          exact ⟨[.v (.int P), .v (.int M), .v (.int L), .own F, .v (.int a), .v (.int b), z6], [.v (.int P), .v (.int M), .v (.int L), .own (F ++ [.tuple G]), .v (.int a), .v (.int b), z6], s2, by simp, by unfold b_li; simp [e, l1], _, _, rfl, rfl⟩) (env := [.v (.int P), .v (.int M), .v (.int L), .own (((D.flatMap fun a => (rgI p).map fun b => (a, b)).map (lineR p m)).map tupI), .v (.int a), z5, z6]) (s := s') ⟨z5, z6, by simp, rfl⟩
      have e4 : ((D ++ [a]).flatMap fun a => (rgI p).map fun b => (a, b)) = D.flatMap (fun a => (rgI p).map fun b => (a, b)) ++ (rgI p).map fun b => (a, b) := by
        rw [List.flatMap_append, List.flatMap_cons, List.flatMap_nil, List.append_nil]
      rw [e4]
      obtain ⟨F, eF⟩ : ∃ F, F = ((D.flatMap fun a => (rgI p).map fun b => (a, b)).map (lineR p m)).map tupI := ⟨_, rfl⟩
      rw [← eF] at e2 ⊢
      exact ⟨[.v (.int P), .v (.int M), .v (.int L), .own F, .v (.int a), z5, z6], _, s2, by simp, by simp [evS_loop, srcD_rngR eP (show p ≤ 1000000 by omega), e2], .v (.int a), y5, y6, rfl, rfl⟩) (env := [.v (.int P), .v (.int M), .v (.int L), .own [], .no, .no, .no]) (s := s) ⟨.no, .no, .no, rfl, rfl⟩
  have eF : FamD (linesF p m L) = .tuple ((linesF p m L).map tupI) := rfl
  have eG : ((rgF L ((p : Int) - L).toNat).flatMap fun a => (rgI p).map fun b => (a, b)).map (lineR p m) = linesF p m L := rfl
  rw [eG] at e1
  rw [eF]
  obtain ⟨G, eG⟩ : ∃ G, G = (linesF p m L).map tupI := ⟨_, rfl⟩
  rw [← eG] at e1 ⊢
  have es := srcD_from (a := L) eP (by omega) (by omega)
  unfold b_li at e1
  rw [run, run_eq (f := f_law_lines) (body := b_law_lines) rfl ⟨rfl, by decide⟩, b_law_lines]
  simp [startE_eq, evS_loop, es, e1]
end
/-! families that are full -/
def IsFull (rows : List (List Int)) (m k : Nat) : Prop := rows.length = m * m ∧ k = m ∧ ∀ x y : Int, 0 ≤ x → x < (k : Int) → 0 ≤ y → y < (k : Int) → x ≠ y → metN rows x y = (m : Int)
theorem full_ok {p : Nat} (hp : isP p) : IsFull (linesF p p 0) p p := by
  have key : ∀ p : Nat, isP p → (linesF p p 0).length = p * p ∧ ∀ x ∈ rgI p, ∀ y ∈ rgI p, x ≠ y → metN (linesF p p 0) x y = (p : Int) := fun p hp => by
    rcases hp with rfl | rfl | rfl | rfl <;> decide +kernel
  obtain ⟨h1, h2⟩ := key p hp
  exact ⟨h1, rfl, fun x y x0 x1 y0 y1 hne => h2 x (rgI_mem.mpr ⟨x0, x1⟩) y (rgI_mem.mpr ⟨y0, y1⟩) hne⟩
end K64
set_option Elab.async false
set_option linter.all false
set_option maxRecDepth 100000
set_option maxHeartbeats 4000000
namespace K64
open PySem PySem.Spec PyProof.Rows L2 PV
variable {s : HS} {n : Nat}
/-! ### marks named -/
theorem tb_all_pairs : tb (n + 1) "all_pairs" = some (run n f_all_pairs) := tb_of (by decide +kernel) rfl
theorem tb_pairs_beside : tb (n + 1) "pairs_beside" = some (run n f_pairs_beside) := tb_of (by decide +kernel) rfl
theorem tb_best_pair : tb (n + 1) "best_pair" = some (run n f_best_pair) := tb_of (by decide +kernel) rfl
theorem tb_best_beside : tb (n + 1) "best_beside" = some (run n f_best_beside) := tb_of (by decide +kernel) rfl
theorem tb_blind_share : tb (n + 1) "blind_share" = some (run n f_blind_share) := tb_of (by decide +kernel) rfl
theorem tb_blind_pair : tb (n + 1) "blind_pair" = some (run n f_blind_pair) := tb_of (by decide +kernel) rfl
theorem tb_forged_share : tb (n + 1) "forged_share" = some (run n f_forged_share) := tb_of (by decide +kernel) rfl
theorem tb_forger : tb (n + 1) "forger" = some (run n f_forger) := tb_of (by decide +kernel) rfl
theorem tb_is_forger : tb (n + 1) "is_forger" = some (run n f_is_forger) := tb_of (by decide +kernel) rfl
theorem tb_forger_share : tb (n + 1) "forger_share" = some (run n f_forger_share) := tb_of (by decide +kernel) rfl
theorem tb_worst_seen : tb (n + 1) "worst_seen" = some (run n f_worst_seen) := tb_of (by decide +kernel) rfl
theorem tb_keys_behind : tb (n + 1) "keys_behind" = some (run n f_keys_behind) := tb_of (by decide +kernel) rfl
/-- inputs and marks -/
def prN (k m : Nat) : List (Int × Int) := (rgI k).flatMap fun a => (rgI m).map fun b => (a, b)
theorem prN_mem {k m : Nat} {p : Int × Int} : p ∈ prN k m ↔ (0 ≤ p.1 ∧ p.1 < (k : Int)) ∧ (0 ≤ p.2 ∧ p.2 < (m : Int)) := by
  unfold prN
  rw [List.mem_flatMap]
  constructor
  · rintro ⟨a, ha, h⟩
    obtain ⟨b, hb, rfl⟩ := List.mem_map.mp h
    exact ⟨rgI_mem.mp ha, rgI_mem.mp hb⟩
  · rintro ⟨h1, h2⟩
    exact ⟨p.1, rgI_mem.mpr h1, List.mem_map.mpr ⟨p.2, rgI_mem.mpr h2, rfl⟩⟩
theorem prN_len {k m : Nat} : (prN k m).length = k * m := by
  unfold prN
  have : ∀ L : List Int, (L.flatMap fun a => (rgI m).map fun b => (a, b)).length = L.length * m := by
    intro L
    induction L with
    | nil => simp
    | cons x q ih => rw [List.flatMap_cons, List.length_append, ih, List.length_map, rgI_len, List.length_cons, Nat.succ_mul]; omega
  rw [this, rgI_len]
theorem prN_D {k m : Nat} : (prN k m).map pD = (rgI k).flatMap fun a => (rgI m).map fun b => .tuple [.int a, .int b] := by
  unfold prN
  rw [List.map_flatMap]
  congr 1
  funext a
  rw [List.map_map]
  rfl
/-- in the order of the pairs -/
def lexP (a b : Int × Int) : Prop := a.1 < b.1 ∨ (a.1 = b.1 ∧ a.2 < b.2)
theorem rgI_lt {k : Nat} : (rgI k).Pairwise (· < ·) := by
  induction k with
  | zero => exact List.Pairwise.nil
  | succ k ih =>
    rw [rgI_succ, List.pairwise_append]
    refine ⟨ih, List.pairwise_singleton _ _, fun a ha b hb => ?_⟩
    rw [List.mem_singleton.mp hb]
    exact (rgI_mem.mp ha).2
theorem prN_lex {k m : Nat} : (prN k m).Pairwise lexP := by
  unfold prN
  refine List.pairwise_flatMap.mpr ⟨fun a _ => List.pairwise_map.mpr (rgI_lt.imp fun h => .inr ⟨rfl, h⟩), rgI_lt.imp fun {a b} h x hx y hy => ?_⟩
  obtain ⟨c, _, rfl⟩ := List.mem_map.mp hx
  obtain ⟨d, _, rfl⟩ := List.mem_map.mp hy
  exact .inl h
/-- how many rows have the pair -/
def cntP (rows : List (List Int)) (p : Int × Int) : Int := (rows.countP fun t => atL t p.1 == p.2 : Nat)
abbrev Best := Int × Option (Int × Int)
def bstep (rows : List (List Int)) (b : Best) (p : Int × Int) : Best := if b.1 < cntP rows p then (cntP rows p, some p) else b
def bestL (rows : List (List Int)) (ps : List (Int × Int)) : Best := ps.foldl (bstep rows) (-1, none)
def pO : Option (Int × Int) → PyData
  | none => .none
  | some p => pD p
def bD (b : Best) : PyData := .tuple [.int b.1, pO b.2]
theorem bD_0 {b : Best} : idxD (bD b) (.int 0) = some (.int b.1) := rfl
theorem bD_1 {b : Best} : idxD (bD b) (.int 1) = some (pO b.2) := rfl
theorem cntP_in {rows : List (List Int)} {p : Int × Int} : 0 ≤ cntP rows p ∧ cntP rows p ≤ rows.length := by
  have := List.countP_le_length (p := fun t => atL t p.1 == p.2) (l := rows)
  unfold cntP
  omega
theorem bestL_in {rows : List (List Int)} {ps : List (Int × Int)} : -1 ≤ (bestL rows ps).1 ∧ (bestL rows ps).1 ≤ rows.length := by
  unfold bestL
  have key : ∀ (ps : List (Int × Int)) (b : Best), (-1 ≤ b.1 ∧ b.1 ≤ rows.length) → (-1 ≤ (ps.foldl (bstep rows) b).1 ∧ (ps.foldl (bstep rows) b).1 ≤ rows.length) := by
    intro ps
    induction ps with
    | nil => intro b h; exact h
    | cons p q ih =>
      intro b h
      rw [List.foldl_cons]
      refine ih _ ?_
      unfold bstep
      split
      · have := cntP_in (rows := rows) (p := p)
        exact ⟨by omega, this.2⟩
      · exact h
  exact key ps _ ⟨by decide, by omega⟩
/-- the first of the greatest -/
theorem best_at {rows : List (List Int)} {p : Int × Int} {A B : List (Int × Int)} (hA : ∀ a ∈ A, cntP rows a < cntP rows p) (hB : ∀ b ∈ B, cntP rows b ≤ cntP rows p) : bestL rows (A ++ p :: B) = (cntP rows p, some p) := by
  unfold bestL
  rw [List.foldl_append, List.foldl_cons]
  have h1 : ∀ (A : List (Int × Int)) (b : Best), b.1 < cntP rows p → (∀ a ∈ A, cntP rows a < cntP rows p) → (A.foldl (bstep rows) b).1 < cntP rows p := by
    intro A
    induction A with
    | nil => intro b h _; exact h
    | cons a q ih =>
      intro b h hA
      rw [List.foldl_cons]
      refine ih _ ?_ fun c hc => hA c (List.mem_cons_of_mem _ hc)
      unfold bstep
      split
      · exact hA a List.mem_cons_self
      · exact h
  have h2 := h1 A (-1, none) (by have := (cntP_in (rows := rows) (p := p)).1; show (-1 : Int) < _; omega) hA
  have h3 : bstep rows (A.foldl (bstep rows) (-1, none)) p = (cntP rows p, some p) := by
    unfold bstep
    exact if_pos h2
  rw [h3]
  have h4 : ∀ B : List (Int × Int), (∀ b ∈ B, cntP rows b ≤ cntP rows p) → B.foldl (bstep rows) (cntP rows p, some p) = (cntP rows p, some p) := by
    intro B
    induction B with
    | nil => intro _; rfl
    | cons b q ih =>
      intro hB
      rw [List.foldl_cons]
      have e : bstep rows (cntP rows p, some p) b = (cntP rows p, some p) := by
        unfold bstep
        refine if_neg ?_
        have := hB b List.mem_cons_self
        show ¬ (cntP rows p < cntP rows b)
        omega
      rw [e]
      exact ih fun c hc => hB c (List.mem_cons_of_mem _ hc)
  exact h4 B hB
theorem best_first {rows : List (List Int)} {p : Int × Int} {ps : List (Int × Int)} (hl : ps.Pairwise lexP) (hp : p ∈ ps) (hA : ∀ a ∈ ps, lexP a p → cntP rows a < cntP rows p) (hB : ∀ b ∈ ps, cntP rows b ≤ cntP rows p) : bestL rows ps = (cntP rows p, some p) := by
  obtain ⟨A, B, rfl⟩ := List.append_of_mem hp
  obtain ⟨_, _, h3⟩ := List.pairwise_append.mp hl
  exact best_at (fun a ha => hA a (List.mem_append_left _ ha) (h3 a ha p List.mem_cons_self)) fun b hb => hB b (List.mem_append_right _ (List.mem_cons_of_mem _ hb))
def besideN (k m : Nat) (seen : Int) : List (Int × Int) := (prN k m).filter fun p => !(p.1 == seen)
theorem beside_mem {k m : Nat} {seen : Int} {p : Int × Int} : p ∈ besideN k m seen ↔ ((0 ≤ p.1 ∧ p.1 < (k : Int)) ∧ (0 ≤ p.2 ∧ p.2 < (m : Int))) ∧ p.1 ≠ seen := by
  unfold besideN
  rw [List.mem_filter, prN_mem]
  simp
theorem beside_lex {k m : Nat} {seen : Int} : (besideN k m seen).Pairwise lexP := prN_lex.filter _
/-- the best at each mark -/
def bestB (k m : Nat) (rows : List (List Int)) (seen v : Int) : Best := bestL (rows.filter fun t => atL t seen == v) (besideN k m seen)
def sumB (k m : Nat) (rows : List (List Int)) (seen : Int) : Int := sumI m fun v => (bestB k m rows seen v).1
section
variable {m k : Nat} {M N K : Int} {rows : List (List Int)}
theorem r_all_pairs (eM : M = m) (h : FamOk m k rows) : run n f_all_pairs [.d (FamD rows), .d (.int M)] s = .ok (.list ((prN k m).map pD)) s := by
  rw [run, run_eq (f := f_all_pairs) (body := b_all_pairs) rfl ⟨rfl, by decide⟩, b_all_pairs]
  obtain ⟨N, eN⟩ : ∃ N : Int, N = (k : Int) := ⟨_, rfl⟩
  obtain ⟨t0, i0, l0⟩ := first_len h eN
  have h2 := h.m32
  have h4 := h.n32
  have hc : evE (tb n) glob (.comp2 (.tup [.var 2, .var 3]) (.nm 2) .rng1 [.prim .len [.idx (.var 0) (.con (.int 0))]] (.nm 3) .rng1 [.var 1] [] [2, 3] [3]) [.v (FamD rows), .v (.int M), .no, .no] s = .ok (.list ((prN k m).map pD)) s := by
    refine ev_comp2 rfl (ds := [.int N]) (s1 := s) (items := (rgI k).map .int) (by simp [i0, l0]) (srcD_rngR eN (by omega)) ?_ (by rw [List.length_map, prN_len]; exact Nat.le_trans (Nat.mul_le_mul h4 h2) (by decide))
    rw [prN_D]
    refine flatM_mapm fun a _ => ?_
    refine turn2_ok (env1 := [.v (FamD rows), .v (.int M), .v (.int a), .no]) (ds := [.int M]) (s1 := s) (items := (rgI m).map .int) (by simp [setTg', wipeE]) (by simp) (srcD_rngR eM (by omega)) ?_
    refine filtM_mapm fun b _ => ?_
    rw [turn_nm (by simp)]
    simp [turnK, lenR]
  simp [startE_eq, hc]
theorem r_pairs_beside {seen : Int} (eM : M = m) (h : FamOk m k rows) : run (n + 1) f_pairs_beside [.d (FamD rows), .d (.int M), .d (.int seen)] s = .ok (.list ((besideN k m seen).map pD)) s := by
  rw [run, run_eq (f := f_pairs_beside) (body := b_pairs_beside) rfl ⟨rfl, by decide⟩, b_pairs_beside]
  have h2 := h.m32
  have h4 := h.n32
  have f1 := r_all_pairs (n := n) (s := s) eM h
  have hc : evE (tb (n + 1)) glob (.comp (.var 3) (.nm 3) .seq [.call "all_pairs" [.var 0, .var 1]] [.e (.cmp .ne (.idx (.var 3) (.con (.int 0))) (.var 2))] [3]) [.v (FamD rows), .v (.int M), .v (.int seen), .no] s = .ok (.list ((besideN k m seen).map pD)) s := by
    refine ev_comp (ds := [.list ((prN k m).map pD)]) (items := (prN k m).map pD) (by simp [tb_all_pairs, f1]) rfl (by rw [List.length_map, prN_len]; exact Nat.le_trans (Nat.mul_le_mul h4 h2) (by decide)) (filtM_flt fun p _ => ?_)
    rw [turn_nm (by simp)]
    have i0 : idxD (pD p) (.int 0) = some (.int p.1) := rfl
    cases e : (p.1 == seen) <;> simp [turnK, i0, e]
  simp [startE_eq, hc]
theorem r_best_pair {X : PyData} {rs : List (List Int)} {ps : List (Int × Int)} (hX : srcD .seq [X] = some (rs.map tupI)) (hr : rs.length ≤ 64) (hl : ∀ t ∈ rs, t.length = k) (hp : ∀ p ∈ ps, 0 ≤ p.1 ∧ p.1 < (k : Int)) :
    run n f_best_pair [.d X, .d (.list (ps.map pD))] s = .ok (bD (bestL rs ps)) s := by
  rw [run, run_eq (f := f_best_pair) (body := b_best_pair) rfl ⟨rfl, by decide⟩, b_best_pair]
  obtain ⟨env', s', e1, es, z3, z4, z5, rfl⟩ := loop_list (tg := .tup [3, 4]) (u := pD) (body := evSs (tb n) glob subX fuel [.asg (.nm 5) (.prim .len [.comp (.var 6) (.nm 6) .seq [.var 0] [.e (.cmp .eq (.idx (.var 6) (.var 3)) (.var 4))] [6]]),
     .ifs (.e (.cmp .gt (.var 5) (.idx (.var 2) (.con (.int 0)))))
       [.asg (.nm 2) (.tup [.var 5, .tup [.var 3, .var 4]])]
       []]) (Inv := fun D env (s' : HS) => s' = s ∧ ∃ z3 z4 z5, env = [.v X, .v (.list (ps.map pD)), .v (bD (bestL rs D)), z3, z4, z5, .no]) ps (fun D p env s' hpm hv => by
    obtain ⟨rfl, z3, z4, z5, rfl⟩ := hv
    have hp1 := hp p hpm
    have hc : evE (tb n) glob (.comp (.var 6) (.nm 6) .seq [.var 0] [.e (.cmp .eq (.idx (.var 6) (.var 3)) (.var 4))] [6]) [.v X, .v (.list (ps.map pD)), .v (bD (bestL rs D)), .v (.int p.1), .v (.int p.2), z5, .no] s' = .ok (.list ((rs.filter fun t => atL t p.1 == p.2).map tupI)) s' := by
      refine ev_comp (ds := [X]) (items := rs.map tupI) (by simp) hX (by rw [List.length_map]; omega) (filtM_flt fun t ht => ?_)
      rw [turn_nm (by simp)]
      have i1 := idx_tupI (t := t) (x := p.1) hp1.1 (by rw [hl t ht]; exact hp1.2)
      cases e : (atL t p.1 == p.2) <;> simp [turnK, i1, e]
    have hn : ((((rs.filter fun t => atL t p.1 == p.2)).length : Nat) : Int) = cntP rs p := by
      unfold cntP
      rw [List.countP_eq_length_filter]
    have e2 : bestL rs (D ++ [p]) = bstep rs (bestL rs D) p := by
      unfold bestL
      rw [List.foldl_append]
      rfl
    rw [e2]
    refine ⟨_, [.v X, .v (.list (ps.map pD)), .v (bD (bstep rs (bestL rs D) p)), .v (.int p.1), .v (.int p.2), .v (.int (cntP rs p)), .no], s', by simp [pD]; rfl, ?_, rfl, _, _, _, rfl⟩
    unfold bstep
    by_cases hlt : (bestL rs D).1 < cntP rs p
    · rw [if_pos hlt]
      simp [hc, hn, bD_0, hlt, lenR]
      rfl
    · rw [if_neg hlt]
      simp [hc, hn, bD_0, hlt]) (env := [.v X, .v (.list (ps.map pD)), .v (bD (bestL rs [])), .no, .no, .no, .no]) (s := s) ⟨rfl, .no, .no, .no, rfl⟩
  subst es
  have b0 : bD (bestL rs []) = .tuple [.int (-1), .none] := rfl
  rw [b0] at e1
  have hs : srcD .seq [.list (ps.map pD)] = some (ps.map pD) := rfl
  simp [startE_eq, evS_loop, lenR, hs, e1]
theorem r_best_beside {seen : Int} (eM : M = m) (h : FamOk m k rows) (hs : 0 ≤ seen ∧ seen < (k : Int)) : run (n + 2) f_best_beside [.d (FamD rows), .d (.int M), .d (.int seen)] s = .ok (.list ((rgI m).map fun v => bD (bestB k m rows seen v))) s := by
  rw [run, run_eq (f := f_best_beside) (body := b_best_beside) rfl ⟨rfl, by decide⟩, b_best_beside]
  have h2 := h.m32
  have h6 := h.k64
  have f1 := r_pairs_beside (n := n) (s := s) (seen := seen) eM h
  have hc : evE (tb (n + 2)) glob (.comp (.call "best_pair" [.comp (.var 5) (.nm 5) .seq [.var 0] [.e (.cmp .eq (.idx (.var 5) (.var 2)) (.var 4))] [5], .var 3]) (.nm 4) .rng1 [.var 1] [] [4]) [.v (FamD rows), .v (.int M), .v (.int seen), .v (.list ((besideN k m seen).map pD)), .no, .no] s = .ok (.list ((rgI m).map fun v => bD (bestB k m rows seen v))) s := by
    refine comp_rng (R := M) (by simp) eM (by omega) (by simp) fun v v0 v1 => ?_
    have hi : evE (tb (n + 2)) glob (.comp (.var 5) (.nm 5) .seq [.var 0] [.e (.cmp .eq (.idx (.var 5) (.var 2)) (.var 4))] [5]) [.v (FamD rows), .v (.int M), .v (.int seen), .v (.list ((besideN k m seen).map pD)), .v (.int v), .no] s = .ok (.list ((rows.filter fun t => atL t seen == v).map tupI)) s := by
      refine ev_comp (ds := [FamD rows]) (items := rows.map tupI) (by simp) rfl (by rw [List.length_map]; omega) (filtM_flt fun t ht => ?_)
      rw [turn_nm (by simp)]
      have i1 := (h.at ht hs.1 hs.2).1
      cases e : (atL t seen == v) <;> simp [turnK, i1, e]
    have f2 := r_best_pair (n := n + 1) (s := s) (k := k) (X := .list ((rows.filter fun t => atL t seen == v).map tupI)) (rs := rows.filter fun t => atL t seen == v) (ps := besideN k m seen) rfl (Nat.le_trans (List.length_filter_le _ _) h6) (fun t ht => (h.row t (List.mem_filter.mp ht).1).1) fun p hp => (beside_mem.mp hp).1.1
    simp [hi, tb_best_pair, f2]
    rfl
  simp [startE_eq, tb_pairs_beside, f1, hc]
theorem Sz.of1 {i : Int} (h : -1000 ≤ i ∧ i ≤ 1000) : Sz 3 i := by
  unfold Sz
  have : (10 : Nat) ^ 3 = 1000 := rfl
  omega
theorem r_blind_share (eM : M = m) (h : FamOk m k rows) (eK : K = rows.length) : run (n + 4) f_blind_share [.d (FamD rows), .d (.int M)] s = .ok (frD (bestL rows (prN k m)).1 K) s := by
  rw [run, run_eq (f := f_blind_share) (body := b_blind_share) rfl ⟨rfl, by decide⟩, b_blind_share]
  have h5 := h.k1
  have h6 := h.k64
  have f1 := r_check_family (n := n) (s := s) eM h
  have f2 := r_all_pairs (n := n + 3) (s := s) eM h
  have f3 := r_best_pair (n := n + 3) (s := s) (k := k) (ps := prN k m) (src_fam (rows := rows)) h6 (fun t ht => (h.row t ht).1) fun p hp => (prN_mem.mp hp).1
  have f4 := r_fraction (n := n + 3) (s := s) (N := (bestL rows (prN k m)).1) (D := K) (by omega) ((Sz.of1 (by omega)).mono (by decide))
  simp [startE_eq, tb_check_family, f1, tb_all_pairs, f2, tb_best_pair, f3, bD_0, len_fam (rows := rows) eK, tb_fraction, f4]
theorem r_blind_pair (eM : M = m) (h : FamOk m k rows) : run (n + 4) f_blind_pair [.d (FamD rows), .d (.int M)] s = .ok (pO (bestL rows (prN k m)).2) s := by
  rw [run, run_eq (f := f_blind_pair) (body := b_blind_pair) rfl ⟨rfl, by decide⟩, b_blind_pair]
  have h6 := h.k64
  have f1 := r_check_family (n := n) (s := s) eM h
  have f2 := r_all_pairs (n := n + 3) (s := s) eM h
  have f3 := r_best_pair (n := n + 3) (s := s) (k := k) (ps := prN k m) (src_fam (rows := rows)) h6 (fun t ht => (h.row t ht).1) fun p hp => (prN_mem.mp hp).1
  simp [startE_eq, tb_check_family, f1, tb_all_pairs, f2, tb_best_pair, f3, bD_1]
theorem r_forged_share {seen : Int} (eM : M = m) (h : FamOk m k rows) (eK : K = rows.length) (hs : 0 ≤ seen ∧ seen < (k : Int)) : run (n + 4) f_forged_share [.d (FamD rows), .d (.int M), .d (.int seen)] s = .ok (frD (sumB k m rows seen) K) s := by
  rw [run, run_eq (f := f_forged_share) (body := b_forged_share) rfl ⟨rfl, by decide⟩, b_forged_share]
  have h2 := h.m32
  have h5 := h.k1
  have h6 := h.k64
  have f1 := r_check_family (n := n) (s := s) eM h
  have f2 := r_check_input (n := n + 2) (s := s) h hs
  have f3 := r_best_beside (n := n + 1) (s := s) eM h hs
  have hc : evE (tb (n + 4)) glob (.comp (.var 3) (.tup [3, 4]) .seq [.call "best_beside" [.var 0, .var 1, .var 2]] [] [3, 4]) [.v (FamD rows), .v (.int M), .v (.int seen), .no, .no] s = .ok (.list ((rgI m).map fun v => .int (bestB k m rows seen v).1)) s := by
    refine comp_seq (ds := [.list ((rgI m).map fun v => bD (bestB k m rows seen v))]) (u := fun v => bD (bestB k m rows seen v)) (by simp [tb_best_beside, f3]) rfl (by rw [rgI_len]; omega) fun v _ => ?_
    show turnM (.tup [3, 4]) [3, 4] _ _ _ (.tuple [.int (bestB k m rows seen v).1, pO (bestB k m rows seen v).2]) s = _
    rw [turn_t2 (by simp) (by simp) (by decide)]
    simp [turnK]
  have hsum : (intsD ((rgI m).map fun v => .int (bestB k m rows seen v).1)).map (fun ns => PyData.int ns.sum) = some (.int (sumB k m rows seen)) := by
    rw [intsD_map]
    rfl
  have f4 := r_fraction (n := n + 3) (s := s) (N := sumB k m rows seen) (D := K) (by omega) ((Sz.of1 (by omega)).mono (by decide))
  simp [startE_eq, tb_check_family, f1, tb_check_input, f2, hc, hsum, len_fam (rows := rows) eK, tb_fraction, f4]
theorem r_forger {seen : Int} (eM : M = m) (h : FamOk m k rows) (hs : 0 ≤ seen ∧ seen < (k : Int)) : run (n + 4) f_forger [.d (FamD rows), .d (.int M), .d (.int seen)] s = .ok (.tuple ((rgI m).map fun v => pO (bestB k m rows seen v).2)) s := by
  rw [run, run_eq (f := f_forger) (body := b_forger) rfl ⟨rfl, by decide⟩, b_forger]
  have h2 := h.m32
  have f1 := r_check_family (n := n) (s := s) eM h
  have f2 := r_check_input (n := n + 2) (s := s) h hs
  have f3 := r_best_beside (n := n + 1) (s := s) eM h hs
  have hc : evE (tb (n + 4)) glob (.comp (.var 4) (.tup [3, 4]) .seq [.call "best_beside" [.var 0, .var 1, .var 2]] [] [3, 4]) [.v (FamD rows), .v (.int M), .v (.int seen), .no, .no] s = .ok (.list ((rgI m).map fun v => pO (bestB k m rows seen v).2)) s := by
    refine comp_seq (ds := [.list ((rgI m).map fun v => bD (bestB k m rows seen v))]) (u := fun v => bD (bestB k m rows seen v)) (by simp [tb_best_beside, f3]) rfl (by rw [rgI_len]; omega) fun v _ => ?_
    show turnM (.tup [3, 4]) [3, 4] _ _ _ (.tuple [.int (bestB k m rows seen v).1, pO (bestB k m rows seen v).2]) s = _
    rw [turn_t2 (by simp) (by simp) (by decide)]
    simp [turnK]
  simp [startE_eq, tb_check_family, f1, tb_check_input, f2, hc]
/-- the seen input that is worst -/
def wstep (k m : Nat) (rows : List (List Int)) (w : Int × Int) (x : Int) : Int × Int := if w.1 < sumB k m rows x then (sumB k m rows x, x) else w
def worstL (k m : Nat) (rows : List (List Int)) (xs : List Int) : Int × Int := xs.foldl (wstep k m rows) (-1, 0)
theorem r_worst_seen (eM : M = m) (h : FamOk m k rows) : run (n + 4) f_worst_seen [.d (FamD rows), .d (.int M)] s = .ok (.int (worstL k m rows (rgI k)).2) s := by
  rw [run, run_eq (f := f_worst_seen) (body := b_worst_seen) rfl ⟨rfl, by decide⟩, b_worst_seen]
  have h2 := h.m32
  have h4 := h.n32
  have f1 := r_check_family (n := n) (s := s) eM h
  obtain ⟨N, eN⟩ : ∃ N : Int, N = (k : Int) := ⟨_, rfl⟩
  obtain ⟨t0, i0, l0⟩ := first_len h eN
  obtain ⟨env', s', e1, es, z3, z4, rfl⟩ := loop_list (tg := .nm 3) (u := .int) (body := evSs (tb (n + 4)) glob subX fuel [.asg (.nm 4) (.prim .sum [.comp (.var 5) (.tup [5, 6]) .seq [.call "best_beside" [.var 0, .var 1, .var 3]] [] [5, 6]]),
     .ifs (.e (.cmp .gt (.var 4) (.idx (.var 2) (.con (.int 0)))))
       [.asg (.nm 2) (.tup [.var 4, .var 3])]
       []]) (Inv := fun D env (s' : HS) => s' = s ∧ ∃ z3 z4, env = [.v (FamD rows), .v (.int M), .v (pD (worstL k m rows D)), z3, z4, .no, .no]) (rgI k) (fun D x env s' hx hv => by
    obtain ⟨rfl, z3, z4, rfl⟩ := hv
    have hx := rgI_mem.mp hx
    have f3 := r_best_beside (n := n + 1) (s := s') eM h hx
    have hc : evE (tb (n + 4)) glob (.comp (.var 5) (.tup [5, 6]) .seq [.call "best_beside" [.var 0, .var 1, .var 3]] [] [5, 6]) [.v (FamD rows), .v (.int M), .v (pD (worstL k m rows D)), .v (.int x), z4, .no, .no] s' = .ok (.list ((rgI m).map fun v => .int (bestB k m rows x v).1)) s' := by
      refine comp_seq (ds := [.list ((rgI m).map fun v => bD (bestB k m rows x v))]) (u := fun v => bD (bestB k m rows x v)) (by simp [tb_best_beside, f3]) rfl (by rw [rgI_len]; omega) fun v _ => ?_
      show turnM (.tup [5, 6]) [5, 6] _ _ _ (.tuple [.int (bestB k m rows x v).1, pO (bestB k m rows x v).2]) s' = _
      rw [turn_t2 (by simp) (by simp) (by decide)]
      simp [turnK]
    have hsum : (intsD ((rgI m).map fun v => .int (bestB k m rows x v).1)).map (fun ns => PyData.int ns.sum) = some (.int (sumB k m rows x)) := by
      rw [intsD_map]
      rfl
    have e2 : worstL k m rows (D ++ [x]) = wstep k m rows (worstL k m rows D) x := by
      unfold worstL
      rw [List.foldl_append]
      rfl
    rw [e2]
    refine ⟨_, [.v (FamD rows), .v (.int M), .v (pD (wstep k m rows (worstL k m rows D) x)), .v (.int x), .v (.int (sumB k m rows x)), .no, .no], s', by simp; rfl, ?_, rfl, _, _, rfl⟩
    have w0 : idxD (pD (worstL k m rows D)) (.int 0) = some (.int (worstL k m rows D).1) := rfl
    unfold wstep
    by_cases hlt : (worstL k m rows D).1 < sumB k m rows x
    · rw [if_pos hlt]
      simp [hc, hsum, w0, hlt, lenR]
      rfl
    · rw [if_neg hlt]
      simp [hc, hsum, w0, hlt]) (env := [.v (FamD rows), .v (.int M), .v (pD (worstL k m rows [])), .no, .no, .no, .no]) (s := s) ⟨rfl, .no, .no, rfl⟩
  subst es
  have b0 : pD (worstL k m rows []) = .tuple [.int (-1), .int 0] := rfl
  rw [b0] at e1
  have w1 : idxD (pD (worstL k m rows (rgI k))) (.int 1) = some (.int (worstL k m rows (rgI k)).2) := rfl
  simp [startE_eq, tb_check_family, f1, lenR, evS_loop, i0, l0, srcD_rngR eN (show k ≤ 1000000 by omega), e1, w1]
theorem r_keys_behind {seen v : Int} (eM : M = m) (h : FamOk m k rows) (hs : 0 ≤ seen ∧ seen < (k : Int)) (hv : 0 ≤ v ∧ v < (m : Int)) :
    run (n + 4) f_keys_behind [.d (FamD rows), .d (.int M), .d (.int seen), .d (.int v)] s = .ok (.tuple (((rgI rows.length).filter fun i => atL (rwL rows i) seen == v).map .int)) s := by
  rw [run, run_eq (f := f_keys_behind) (body := b_keys_behind) rfl ⟨rfl, by decide⟩, b_keys_behind]
  have h1 := h.m2
  have h2 := h.m32
  have h6 := h.k64
  have f0 := r_check_many (n := n + 2) (s := s) (M := M) (by omega)
  have f1 := r_check_family (n := n) (s := s) eM h
  have f2 := r_check_input (n := n + 2) (s := s) h hs
  have d1 : decide ((0 : Int) ≤ v ∧ v ≤ M - 1) = true := decide_eq_true (by omega)
  obtain ⟨K, eK⟩ : ∃ K : Int, K = (rows.length : Int) := ⟨_, rfl⟩
  have hc : evE (tb (n + 4)) glob (.comp (.var 4) (.nm 4) .rng1 [.prim .len [.var 0]] [.e (.cmp .eq (.idx (.idx (.var 0) (.var 4)) (.var 2)) (.var 3))] [4]) [.v (FamD rows), .v (.int M), .v (.int seen), .v (.int v), .no] s = .ok (.list (((rgI rows.length).filter fun i => atL (rwL rows i) seen == v).map .int)) s := by
    refine comp_rngF (R := K) (by simp [len_fam (rows := rows) eK]) eK (by omega) (by simp) (fun i i0 i1 => ?_) fun i _ _ _ => by simp
    have g1 := idx_fam (rows := rows) i0 i1
    have g2 := (h.at (rwL_mem i0 i1) hs.1 hs.2).1
    simp [g1, g2]
  simp [startE_eq, tb_check_many, f0, tb_is_number, r_is_number, d1, tb_check_family, f1, tb_check_input, f2, hc]
/-- what is refused: a mark, an input out of their ranges -/
theorem r_keys_exn {seen v : Int} (eM : M = m) (h : FamOk m k rows) (hb : ¬ (0 ≤ v ∧ v < (m : Int)) ∨ ¬ (0 ≤ seen ∧ seen < (k : Int))) :
    run (n + 4) f_keys_behind [.d (FamD rows), .d (.int M), .d (.int seen), .d (.int v)] s = .exn "BadChoice" none s := by
  rw [run, run_eq (f := f_keys_behind) (body := b_keys_behind) rfl ⟨rfl, by decide⟩, b_keys_behind]
  have h1 := h.m2
  have h2 := h.m32
  have f0 := r_check_many (n := n + 2) (s := s) (M := M) (by omega)
  have hr : ∀ env s, evS (tb (n + 4)) glob subX fuel (.raise "BadChoice" none) env s = .exn "BadChoice" none env s := fun env s => evS_raise0 (by decide +kernel)
  by_cases hv : 0 ≤ v ∧ v < (m : Int)
  · have d1 : decide ((0 : Int) ≤ v ∧ v ≤ M - 1) = true := decide_eq_true (by omega)
    have f1 := r_check_family (n := n) (s := s) eM h
    have hs := hb.resolve_left fun z => z hv
    have f2 : run (n + 3) f_check_input [.d (FamD rows), .d (.int seen)] s = .exn "BadChoice" none s := by
      rw [run, run_eq (f := f_check_input) (body := b_check_input) rfl ⟨rfl, by decide⟩, b_check_input]
      have hr2 : ∀ env s, evS (tb (n + 3)) glob subX fuel (.raise "BadChoice" none) env s = .exn "BadChoice" none env s := fun env s => evS_raise0 (by decide +kernel)
      obtain ⟨N, eN⟩ : ∃ N : Int, N = (k : Int) := ⟨_, rfl⟩
      obtain ⟨t0, i0, l0⟩ := first_len h eN
      have d2 : decide ((0 : Int) ≤ seen ∧ seen ≤ N - 1) = false := decide_eq_false (by omega)
      simp [startE_eq, tb_is_number, r_is_number, i0, l0, d2, hr2]
    simp [startE_eq, tb_check_many, f0, tb_is_number, r_is_number, d1, tb_check_family, f1, tb_check_input, f2]
  · have d1 : decide ((0 : Int) ≤ v ∧ v ≤ M - 1) = false := decide_eq_false (by omega)
    simp [startE_eq, tb_check_many, f0, tb_is_number, r_is_number, d1, hr]
end
end K64
set_option Elab.async false
set_option linter.all false
set_option maxRecDepth 100000
set_option maxHeartbeats 4000000
namespace K64
open PySem PySem.Spec PyProof.Rows L2 PV
variable {s : HS} {n : Nat}
/-! ### what is no family -/
/-- a whole number from 0 to m, of any data -/
def numB (m : Int) : PyData → Bool
  | .int i => decide (0 ≤ i ∧ i ≤ m)
  | _ => false
theorem r_num {d : PyData} {m : Int} (h : noDict d = true) : run n f_is_number [.d d, .d (.int 0), .d (.int m)] s = .ok (.bool (numB m d)) s := by
  cases d with
  | int i => exact r_is_number i 0 m
  | dict _ => cases h
  | _ =>
    rw [run, run_eq (f := f_is_number) (body := b_is_number) rfl ⟨rfl, by decide⟩, b_is_number]
    simp [startE_eq, numB]
theorem all_bools {α : Type} {L : List α} {f : α → Bool} : (boolsD (L.map fun x => .bool (f x))).map (fun bs => PyData.bool (bs.all id)) = some (.bool (L.all f)) := by
  rw [boolsD_map]
  show some (PyData.bool ((L.map f).all id)) = _
  rw [List.all_map]
  rfl
def tabB (k : Nat) (m : Int) : PyData → Bool
  | .tuple zs => zs.length == k && zs.all (numB (m - 1))
  | _ => false
/-- a thing that may stand in a family -/
def okT : PyData → Bool
  | .tuple zs => zs.all noDict && decide (zs.length ≤ 1000)
  | .dict _ => false
  | _ => true
section
variable {m k : Nat} {M N K : Int} {rows : List (List Int)}
theorem r_is_table_any {d : PyData} (h : okT d = true) (eN : N = k) : run (n + 1) f_is_table [.d d, .d (.int N), .d (.int M)] s = .ok (.bool (tabB k M d)) s := by
  rw [run, run_eq (f := f_is_table) (body := b_is_table) rfl ⟨rfl, by decide⟩, b_is_table]
  cases d with
  | dict _ => cases h
  | tuple zs =>
    obtain ⟨h1, h2⟩ := Bool.and_eq_true_iff.mp (show (zs.all noDict && decide (zs.length ≤ 1000)) = true from h)
    have h2 := of_decide_eq_true h2
    have hc : evE (tb (n + 1)) glob (.comp (.call "is_number" [.var 3, .con (.int 0), .bop .sub (.var 2) (.con (.int 1))]) (.nm 3) .seq [.var 0] [] [3]) [.v (.tuple zs), .v (.int N), .v (.int M), .no] s = .ok (.list (zs.map fun x => .bool (numB (M - 1) x))) s := by
      have e0 : srcD .seq [.tuple zs] = some (zs.map fun x => x) := by rw [List.map_id']; rfl
      refine comp_seq (ds := [.tuple zs]) (u := fun x => x) (L := zs) (by simp) e0 (by omega) fun x hx => ?_
      rw [turn_nm (by simp)]
      simp [turnK, tb_is_number, r_num (List.all_eq_true.mp h1 x hx)]
    obtain ⟨L, eL⟩ : ∃ L : Int, L = (zs.length : Int) := ⟨_, rfl⟩
    have e1 : (L == N) = (zs.length == k) := by
      rw [Bool.eq_iff_iff, beq_iff_eq, beq_iff_eq]
      omega
    cases e : (zs.length == k) with
    | false =>
      rw [e] at e1
      simp [startE_eq, ← eL, e1, tabB, e]
    | true =>
      rw [e] at e1
      simp [startE_eq, ← eL, e1, hc, all_bools, tabB, e]
  | _ => simp [startE_eq, tabB]
/-- is_family says no; it is deep no more than this -/
def BadF (M : Int) (d : PyData) : Prop := (∀ (n : Nat) (s : HS), run (n + 2) f_is_family [.d d, .d (.int M)] s = .ok (.bool false) s) ∧ Shp 10 d
theorem bad_no {d : PyData} (hM : 2 ≤ M ∧ M ≤ 32) (h : primD (.isinst .tuple) [d] = some (.bool false)) : ∀ (n : Nat) (s : HS), run (n + 2) f_is_family [.d d, .d (.int M)] s = .ok (.bool false) s := fun n s => by
  rw [run, run_eq (f := f_is_family) (body := b_is_family) rfl ⟨rfl, by decide⟩, b_is_family]
  simp [startE_eq, tb_check_many, r_check_many (n := n) (s := s) hM, h]
theorem bad_len {xs : List PyData} (hM : 2 ≤ M ∧ M ≤ 32) (h : ¬ (1 ≤ xs.length ∧ xs.length ≤ 64)) : ∀ (n : Nat) (s : HS), run (n + 2) f_is_family [.d (.tuple xs), .d (.int M)] s = .ok (.bool false) s := fun n s => by
  rw [run, run_eq (f := f_is_family) (body := b_is_family) rfl ⟨rfl, by decide⟩, b_is_family]
  obtain ⟨L, eL⟩ : ∃ L : Int, L = (xs.length : Int) := ⟨_, rfl⟩
  by_cases h1 : (1 : Int) ≤ L
  · have h2 : ¬ L ≤ (64 : Int) := by omega
    simp [startE_eq, tb_check_many, r_check_many (n := n) (s := s) hM, ← eL, gl_keys, h1, h2]
  · simp [startE_eq, tb_check_many, r_check_many (n := n) (s := s) hM, ← eL, gl_keys, h1]
theorem bad_head {x : PyData} {xs : List PyData} (hM : 2 ≤ M ∧ M ≤ 32) (h : primD (.isinst .tuple) [x] = some (.bool false)) : ∀ (n : Nat) (s : HS), run (n + 2) f_is_family [.d (.tuple (x :: xs)), .d (.int M)] s = .ok (.bool false) s := fun n s => by
  by_cases hl : 1 ≤ (x :: xs).length ∧ (x :: xs).length ≤ 64
  · rw [run, run_eq (f := f_is_family) (body := b_is_family) rfl ⟨rfl, by decide⟩, b_is_family]
    obtain ⟨L, eL⟩ : ∃ L : Int, L = ((x :: xs).length : Int) := ⟨_, rfl⟩
    have h1 : (1 : Int) ≤ L := by omega
    have h2 : L ≤ (64 : Int) := by omega
    have l1 : primD .len [.tuple (x :: xs)] = some (.int L) := by rw [eL]; rfl
    simp [startE_eq, tb_check_many, r_check_many (n := n) (s := s) hM, -primD_lenT, l1, gl_keys, h1, h2, h]
  · exact bad_len hM hl n s
theorem bad_size {zs xs : List PyData} (hM : 2 ≤ M ∧ M ≤ 32) (h : ¬ (2 ≤ zs.length ∧ zs.length ≤ 32)) : ∀ (n : Nat) (s : HS), run (n + 2) f_is_family [.d (.tuple (.tuple zs :: xs)), .d (.int M)] s = .ok (.bool false) s := fun n s => by
  by_cases hl : 1 ≤ (PyData.tuple zs :: xs).length ∧ (PyData.tuple zs :: xs).length ≤ 64
  · rw [run, run_eq (f := f_is_family) (body := b_is_family) rfl ⟨rfl, by decide⟩, b_is_family]
    obtain ⟨L, eL⟩ : ∃ L : Int, L = ((PyData.tuple zs :: xs).length : Int) := ⟨_, rfl⟩
    obtain ⟨N, eN⟩ : ∃ N : Int, N = (zs.length : Int) := ⟨_, rfl⟩
    have h1 : (1 : Int) ≤ L := by omega
    have h2 : L ≤ (64 : Int) := by omega
    have l1 : primD .len [.tuple (.tuple zs :: xs)] = some (.int L) := by rw [eL]; rfl
    have l2 : primD .len [.tuple zs] = some (.int N) := by rw [eN]; rfl
    by_cases h3 : (2 : Int) ≤ N
    · have h4 : ¬ N ≤ (32 : Int) := by omega
      simp [startE_eq, tb_check_many, r_check_many (n := n) (s := s) hM, -primD_lenT, l1, l2, gl_keys, gl_values, h1, h2, h3, h4]
    · simp [startE_eq, tb_check_many, r_check_many (n := n) (s := s) hM, -primD_lenT, l1, l2, gl_keys, gl_values, h1, h2, h3]
  · exact bad_len hM hl n s
theorem bad_row {zs xs : List PyData} (hM : 2 ≤ M ∧ M ≤ 32) (hk : ∀ x ∈ PyData.tuple zs :: xs, okT x = true) (h : (PyData.tuple zs :: xs).all (tabB zs.length M) = false) : ∀ (n : Nat) (s : HS), run (n + 2) f_is_family [.d (.tuple (.tuple zs :: xs)), .d (.int M)] s = .ok (.bool false) s := fun n s => by
  by_cases hs : 2 ≤ zs.length ∧ zs.length ≤ 32
  · by_cases hl : 1 ≤ (PyData.tuple zs :: xs).length ∧ (PyData.tuple zs :: xs).length ≤ 64
    · rw [run, run_eq (f := f_is_family) (body := b_is_family) rfl ⟨rfl, by decide⟩, b_is_family]
      obtain ⟨L, eL⟩ : ∃ L : Int, L = ((PyData.tuple zs :: xs).length : Int) := ⟨_, rfl⟩
      obtain ⟨N, eN⟩ : ∃ N : Int, N = (zs.length : Int) := ⟨_, rfl⟩
      have h1 : (1 : Int) ≤ L := by omega
      have h2 : L ≤ (64 : Int) := by omega
      have h3 : (2 : Int) ≤ N := by omega
      have h4 : N ≤ (32 : Int) := by omega
      have l1 : primD .len [.tuple (.tuple zs :: xs)] = some (.int L) := by rw [eL]; rfl
      have l2 : primD .len [.tuple zs] = some (.int N) := by rw [eN]; rfl
      have i0 : idxD (.tuple (.tuple zs :: xs)) (.int 0) = some (.tuple zs) := idxD_t0
      obtain ⟨F, eF⟩ : ∃ F, F = PyData.tuple zs :: xs := ⟨_, rfl⟩
      rw [← eF] at h hk l1 i0 hl
      have hc : evE (tb (n + 2)) glob (.comp (.call "is_table" [.var 3, .var 2, .var 1]) (.nm 3) .seq [.var 0] [] [3]) [.v (.tuple F), .v (.int M), .v (.int N), .no] s = .ok (.list (F.map fun x => .bool (tabB zs.length M x))) s := by
        have e0 : srcD .seq [.tuple F] = some (F.map fun x => x) := by rw [List.map_id']; rfl
        refine comp_seq (ds := [.tuple F]) (u := fun x => x) (L := F) (by simp) e0 (by omega) fun x hx => ?_
        rw [turn_nm (by simp)]
        have f1 := r_is_table_any (n := n) (s := s) (M := M) (hk x hx) eN
        simp [turnK, tb_is_table, f1]
      rw [← eF]
      simp [startE_eq, tb_check_many, r_check_many (n := n) (s := s) hM, -primD_lenT, l1, l2, i0, gl_keys, gl_values, h1, h2, h3, h4, hc, all_bools, h]
    · exact bad_len hM hl n s
  · exact bad_size hM hs n s
theorem x_check_family {d : PyData} (h : BadF M d) : run (n + 3) f_check_family [.d d, .d (.int M)] s = .exn "BadTable" (some d) s := by
  rw [run, run_eq (f := f_check_family) (body := b_check_family) rfl ⟨rfl, by decide⟩, b_check_family]
  have hr : evS (tb (n + 3)) glob subX fuel (.raise "BadTable" (some (.var 0))) [.v d, .v (.int M)] s = .exn "BadTable" (some d) [.v d, .v (.int M)] s := by
    rw [evS_raise1 (by decide +kernel)]
    simp
  simp [startE_eq, tb_is_family, h.1 n s, hr]
theorem c_check_many (hM : ¬ (2 ≤ M ∧ M ≤ 32)) : run (n + 1) f_check_many [.d (.int M)] s = .exn "BadChoice" none s := by
  rw [run, run_eq (f := f_check_many) (body := b_check_many) rfl ⟨rfl, by decide⟩, b_check_many]
  have hr : ∀ env s, evS (tb (n + 1)) glob subX fuel (.raise "BadChoice" none) env s = .exn "BadChoice" none env s := fun env s => evS_raise0 (by decide +kernel)
  have d1 : decide ((2 : Int) ≤ M ∧ M ≤ 32) = false := decide_eq_false hM
  simp [startE_eq, tb_is_number, r_is_number, gl_values, d1, hr]
theorem c_check_family {d : PyData} (hM : ¬ (2 ≤ M ∧ M ≤ 32)) : run (n + 3) f_check_family [.d d, .d (.int M)] s = .exn "BadChoice" none s := by
  rw [run, run_eq (f := f_check_family) (body := b_check_family) rfl ⟨rfl, by decide⟩, b_check_family]
  have f1 : run (n + 2) f_is_family [.d d, .d (.int M)] s = .exn "BadChoice" none s := by
    rw [run, run_eq (f := f_is_family) (body := b_is_family) rfl ⟨rfl, by decide⟩, b_is_family]
    simp [startE_eq, tb_check_many, c_check_many (n := n) (s := s) hM]
  simp [startE_eq, tb_is_family, f1]
theorem c_check_input {x : Int} (h : FamOk m k rows) (hx : ¬ (0 ≤ x ∧ x < (k : Int))) : run (n + 1) f_check_input [.d (FamD rows), .d (.int x)] s = .exn "BadChoice" none s := by
  rw [run, run_eq (f := f_check_input) (body := b_check_input) rfl ⟨rfl, by decide⟩, b_check_input]
  have hr2 : ∀ env s, evS (tb (n + 1)) glob subX fuel (.raise "BadChoice" none) env s = .exn "BadChoice" none env s := fun env s => evS_raise0 (by decide +kernel)
  obtain ⟨N, eN⟩ : ∃ N : Int, N = (k : Int) := ⟨_, rfl⟩
  obtain ⟨t0, i0, l0⟩ := first_len h eN
  have d2 : decide ((0 : Int) ≤ x ∧ x ≤ N - 1) = false := decide_eq_false (by omega)
  simp [startE_eq, tb_is_number, r_is_number, i0, l0, d2, hr2]
/-! tuples of rows -/
theorem shp_row {k : Nat} (t : List Int) : Shp (k + 1) (tupI t) := Shp.tuple fun x hx => by
  obtain ⟨i, _, rfl⟩ := List.mem_map.mp hx
  exact .int
theorem okT_row {t : List Int} (h : t.length ≤ 1000) : okT (tupI t) = true := by
  show ((t.map PyData.int).all noDict && decide ((t.map PyData.int).length ≤ 1000)) = true
  rw [List.length_map, decide_eq_true h, Bool.and_true]
  exact List.all_eq_true.mpr fun x hx => by
    obtain ⟨i, _, rfl⟩ := List.mem_map.mp hx
    rfl
end
theorem shp_str {x : Str} {k : Nat} (h : PyData.canLay0 (.str x) = true) : Shp k (.str x) := ⟨h, Nat.zero_le _⟩
theorem ne_self {d : PyData} {k : Nat} (h : Shp k d) (hk : k ≤ 64) : cmpD .ne d d = some (.bool false) := by
  rw [cmpD_neS (h.shaped hk) (h.shaped hk), PySem.SeqAt.eqv_refl d h.1]
  rfl
theorem eq_self' {d : PyData} {k : Nat} (h : Shp k d) (hk : k ≤ 64) : cmpD .eq d d = some (.bool true) := by
  rw [cmpD_eqS (h.shaped hk) (h.shaped hk), PySem.SeqAt.eqv_refl d h.1]
theorem pickD {L : List PyData} {c : Int} (c0 : 0 ≤ c) (c1 : c < (L.length : Int)) : ∃ X ∈ L, idxD (.list L) (.int c) = some X := by
  have h : c.toNat < L.length := by omega
  exact ⟨L[c.toNat], List.getElem_mem h, idxD_lk c0 (List.getElem?_eq_getElem h)⟩
theorem sIx_some {n d : Nat} {v : Int} {m : Nat} (e : v = m) (h : m ≤ n) : HT.sIx n d (some v) = m := by
  show (if v < 0 then (v + (n : Int)).toNat else min v.toNat n) = m
  rw [if_neg (by omega)]
  omega
theorem cut_to {xs : List PyData} {b : Int} {m : Nat} (e : b = m) : PV.cutD xs none (some b) = xs.take m := by
  rw [cutD_to (by omega), show b.toNat = m by omega]
theorem cut_from {xs : List PyData} {a : Int} {m : Nat} (e : a = m) (h : m ≤ xs.length) : PV.cutD xs (some a) none = xs.drop m := by
  unfold PV.cutD
  rw [sIx_some e h]
  exact List.take_of_length_le (by rw [List.length_drop]; exact Nat.le_refl _)
theorem cut_last {xs : List PyData} : PV.cutD xs none (some (-1)) = xs.take (xs.length - 1) := by
  unfold PV.cutD
  have e : HT.sIx xs.length xs.length (some (-1)) = xs.length - 1 := by
    show (if (-1 : Int) < 0 then ((-1 : Int) + (xs.length : Int)).toNat else min (-1 : Int).toNat xs.length) = _
    rw [if_pos (by decide)]
    omega
  rw [e, show HT.sIx xs.length 0 none = 0 from rfl, List.drop_zero, Nat.sub_zero]
end K64
set_option Elab.async false
set_option linter.all false
set_option maxRecDepth 100000
set_option maxHeartbeats 4000000
namespace K64
open PySem PySem.Spec PyProof.Rows L2 PV
variable {s : HS} {n : Nat}
section
variable {m k : Nat} {M N K : Int} {rows Hd Tl : List (List Int)} {t th tt : List Int} {w at' pl : Int}
theorem shp_rows {j : Nat} : ∀ (R : List (List Int)), ∀ x ∈ R.map tupI, Shp (j + 1) x := fun R x hx => by
  obtain ⟨t, _, rfl⟩ := List.mem_map.mp hx
  exact shp_row t
theorem odd_at {X : PyData} (hM : 2 ≤ M ∧ M ≤ 32) (h : FamOk m k rows) (eR : rows = Hd ++ t :: Tl) (hx : okT X = true) (hb : tabB k M X = false) (hf : primD (.isinst .tuple) [X] = some (.bool false) ∨ ∃ zs, X = .tuple zs ∧ zs.length = k) (hs : Shp 9 X) : BadF M (.tuple (Hd.map tupI ++ [X] ++ Tl.map tupI)) := by
  have h4 := h.n32
  have hr : ∀ u ∈ rows, okT (tupI u) = true := fun u hu => okT_row (by rw [(h.row u hu).1]; omega)
  have hok : ∀ y ∈ Hd.map tupI ++ [X] ++ Tl.map tupI, okT y = true := fun y hy => by
    rcases List.mem_append.mp hy with hy | hy
    · rcases List.mem_append.mp hy with hy | hy
      · obtain ⟨u, hu, rfl⟩ := List.mem_map.mp hy
        exact hr u (by rw [eR]; exact List.mem_append_left _ hu)
      · rw [List.mem_singleton.mp hy]; exact hx
    · obtain ⟨u, hu, rfl⟩ := List.mem_map.mp hy
      exact hr u (by rw [eR]; exact List.mem_append_right _ (List.mem_cons_of_mem _ hu))
  refine ⟨?_, Shp.tuple fun y hy => ?_⟩
  · cases Hd with
    | nil =>
      show ∀ (n : Nat) (s : HS), run (n + 2) f_is_family [.d (.tuple (X :: Tl.map tupI)), .d (.int M)] s = _
      rcases hf with hf | ⟨zs, rfl, hz⟩
      · exact bad_head hM hf
      · refine bad_row hM (fun y hy => hok y (by simpa using hy)) ?_
        rw [List.all_cons, hz, hb]
        rfl
    | cons h0 Hq =>
      have l0 := (h.row h0 (by rw [eR]; exact List.mem_append_left _ List.mem_cons_self)).1
      show ∀ (n : Nat) (s : HS), run (n + 2) f_is_family [.d (.tuple (.tuple (h0.map .int) :: (Hq.map tupI ++ [X] ++ Tl.map tupI))), .d (.int M)] s = _
      refine bad_row hM (fun y hy => hok y (by simpa [tupI] using hy)) ?_
      rw [List.length_map, l0, List.all_cons, List.all_append, List.all_append, List.all_cons, hb]
      simp
  · rcases List.mem_append.mp hy with hy | hy
    · rcases List.mem_append.mp hy with hy | hy
      · exact shp_rows Hd y hy
      · rw [List.mem_singleton.mp hy]; exact hs
    · exact shp_rows Tl y hy
theorem odd_longer (hM : 2 ≤ M ∧ M ≤ 32) (h : FamOk m k rows) (eR : rows = Hd ++ t :: Tl) : BadF M (.tuple (Hd.map tupI ++ [tupI (t ++ [0])] ++ Tl.map tupI ++ [tupI t])) := by
  have h4 := h.n32
  have lt := (h.row t (by rw [eR]; exact List.mem_append_right _ List.mem_cons_self)).1
  have hr : ∀ u ∈ rows, okT (tupI u) = true := fun u hu => okT_row (by rw [(h.row u hu).1]; omega)
  have hok : ∀ y ∈ Hd.map tupI ++ [tupI (t ++ [0])] ++ Tl.map tupI ++ [tupI t], okT y = true := fun y hy => by
    rcases List.mem_append.mp hy with hy | hy
    · rcases List.mem_append.mp hy with hy | hy
      · rcases List.mem_append.mp hy with hy | hy
        · obtain ⟨u, hu, rfl⟩ := List.mem_map.mp hy
          exact hr u (by rw [eR]; exact List.mem_append_left _ hu)
        · rw [List.mem_singleton.mp hy]
          exact okT_row (by rw [List.length_append, lt]; show k + 1 ≤ _; omega)
      · obtain ⟨u, hu, rfl⟩ := List.mem_map.mp hy
        exact hr u (by rw [eR]; exact List.mem_append_right _ (List.mem_cons_of_mem _ hu))
    · rw [List.mem_singleton.mp hy]
      exact okT_row (by omega)
  have b1 : tabB (k + 1) M (tupI t) = false := by
    show ((t.map PyData.int).length == k + 1 && _) = false
    rw [List.length_map, lt, beq_eq_false_iff_ne.mpr (by omega)]
    rfl
  have b2 : tabB k M (tupI (t ++ [0])) = false := by
    show (((t ++ [0]).map PyData.int).length == k && _) = false
    rw [List.length_map, List.length_append, lt, beq_eq_false_iff_ne.mpr (by show k + 1 ≠ k; omega)]
    rfl
  refine ⟨?_, Shp.tuple fun y hy => ?_⟩
  · cases Hd with
    | nil =>
      show ∀ (n : Nat) (s : HS), run (n + 2) f_is_family [.d (.tuple (.tuple ((t ++ [0]).map .int) :: (Tl.map tupI ++ [tupI t]))), .d (.int M)] s = _
      refine bad_row hM (fun y hy => hok y (by simpa [tupI] using hy)) ?_
      rw [List.length_map, List.length_append, lt, List.all_cons, List.all_append, List.all_cons, show k + [(0 : Int)].length = k + 1 from rfl, b1]
      simp
    | cons h0 Hq =>
      have l0 := (h.row h0 (by rw [eR]; exact List.mem_append_left _ List.mem_cons_self)).1
      show ∀ (n : Nat) (s : HS), run (n + 2) f_is_family [.d (.tuple (.tuple (h0.map .int) :: (Hq.map tupI ++ [tupI (t ++ [0])] ++ Tl.map tupI ++ [tupI t]))), .d (.int M)] s = _
      refine bad_row hM (fun y hy => hok y (by simpa [tupI] using hy)) ?_
      rw [List.length_map, l0, List.all_cons, List.all_append, List.all_append, List.all_append, List.all_cons, b2]
      simp
  · rcases List.mem_append.mp hy with hy | hy
    · rcases List.mem_append.mp hy with hy | hy
      · rcases List.mem_append.mp hy with hy | hy
        · exact shp_rows Hd y hy
        · rw [List.mem_singleton.mp hy]; exact shp_row _
      · exact shp_rows Tl y hy
    · rw [List.mem_singleton.mp hy]; exact shp_row _
theorem odd_cell {X : PyData} (hM : 2 ≤ M ∧ M ≤ 32) (h : FamOk m k rows) (eR : rows = Hd ++ t :: Tl) (et : t = th ++ w :: tt) (hn : noDict X = true) (hb : numB (M - 1) X = false) (hs : Shp 8 X) : BadF M (.tuple (Hd.map tupI ++ [.tuple (th.map .int ++ [X] ++ tt.map .int)] ++ Tl.map tupI)) := by
  have h4 := h.n32
  have lt := (h.row t (by rw [eR]; exact List.mem_append_right _ List.mem_cons_self)).1
  have lz : (th.map PyData.int ++ [X] ++ tt.map PyData.int).length = k := by
    rw [et, List.length_append, List.length_cons] at lt
    rw [List.length_append, List.length_append, List.length_map, List.length_map, List.length_singleton]
    omega
  have nz : ∀ y ∈ th.map PyData.int ++ [X] ++ tt.map PyData.int, noDict y = true ∧ Shp 8 y := fun y hy => by
    rcases List.mem_append.mp hy with hy | hy
    · rcases List.mem_append.mp hy with hy | hy
      · obtain ⟨i, _, rfl⟩ := List.mem_map.mp hy
        exact ⟨rfl, .int⟩
      · rw [List.mem_singleton.mp hy]; exact ⟨hn, hs⟩
    · obtain ⟨i, _, rfl⟩ := List.mem_map.mp hy
      exact ⟨rfl, .int⟩
  refine odd_at hM h eR ?_ ?_ (.inr ⟨_, rfl, lz⟩) (Shp.tuple fun y hy => (nz y hy).2)
  · show ((th.map PyData.int ++ [X] ++ tt.map PyData.int).all noDict && decide ((th.map PyData.int ++ [X] ++ tt.map PyData.int).length ≤ 1000)) = true
    rw [lz, decide_eq_true (by omega), Bool.and_true]
    exact List.all_eq_true.mpr fun y hy => (nz y hy).1
  · show ((th.map PyData.int ++ [X] ++ tt.map PyData.int).length == k && (th.map PyData.int ++ [X] ++ tt.map PyData.int).all (numB (M - 1))) = false
    rw [List.all_append, List.all_append, List.all_cons, hb]
    simp
def X10 (rows : List (List Int)) : PyData := .tuple (rows.map fun t => .tuple (((List.replicate 17 (t.map PyData.int)).flatten).take 33))
def X11 (rows : List (List Int)) : PyData := .tuple (rows.map fun t => tupI (t.take 1))
theorem len_flat {α : Type} {n : Nat} {l : List α} : (List.replicate n l).flatten.length = n * l.length := by
  induction n with
  | zero => simp
  | succ n ih => rw [List.replicate_succ, List.flatten_cons, List.length_append, ih, Nat.succ_mul]; omega
theorem mem_flat {α : Type} {n : Nat} {l : List α} {x : α} (h : x ∈ (List.replicate n l).flatten) : x ∈ l := by
  obtain ⟨q, hq, hx⟩ := List.mem_flatten.mp h
  rw [(List.mem_replicate.mp hq).2] at hx
  exact hx
theorem slF_hd (eR : rows = Hd ++ t :: Tl) (ea : at' = Hd.length) : slcD (FamD rows) none (some at') = some (FamD Hd) := by
  show some (PyData.tuple (PV.cutD (rows.map tupI) none (some at'))) = _
  rw [cut_to ea, eR, List.map_append, List.take_left' (by rw [List.length_map])]
  rfl
theorem slF_tl (eR : rows = Hd ++ t :: Tl) (ea : at' = Hd.length) : slcD (FamD rows) (some (at' + 1)) none = some (FamD Tl) := by
  show some (PyData.tuple (PV.cutD (rows.map tupI) (some (at' + 1)) none)) = _
  rw [cut_from (m := Hd.length + 1) (by omega) (by rw [eR, List.length_map, List.length_append, List.length_cons]; omega), eR]
  have : Hd ++ t :: Tl = (Hd ++ [t]) ++ Tl := by rw [List.append_assoc]; rfl
  rw [this, List.map_append, List.drop_left' (by rw [List.length_map, List.length_append]; rfl)]
  rfl
theorem slT_hd (et : t = th ++ w :: tt) (ea : pl = th.length) : slcD (tupI t) none (some pl) = some (tupI th) := by
  show some (PyData.tuple (PV.cutD (t.map .int) none (some pl))) = _
  rw [cut_to ea, et, List.map_append, List.take_left' (by rw [List.length_map])]
  rfl
theorem slT_tl (et : t = th ++ w :: tt) (ea : pl = th.length) : slcD (tupI t) (some (pl + 1)) none = some (tupI tt) := by
  show some (PyData.tuple (PV.cutD (t.map .int) (some (pl + 1)) none)) = _
  rw [cut_from (m := th.length + 1) (by omega) (by rw [et, List.length_map, List.length_append, List.length_cons]; omega), et]
  have : th ++ w :: tt = (th ++ [w]) ++ tt := by rw [List.append_assoc]; rfl
  rw [this, List.map_append, List.drop_left' (by rw [List.length_map, List.length_append]; rfl)]
  rfl
theorem split_at {α : Type} {L : List α} {c : Int} (c0 : 0 ≤ c) (c1 : c < (L.length : Int)) : ∃ A x B, L = A ++ x :: B ∧ c = (A.length : Int) := by
  have hlt : c.toNat < L.length := by omega
  refine ⟨L.take c.toNat, L[c.toNat], L.drop (c.toNat + 1), ?_, ?_⟩
  · exact (List.take_append_drop c.toNat L).symm.trans (by rw [List.drop_eq_getElem_cons hlt])
  · rw [List.length_take]; omega
end
end K64
set_option Elab.async false
set_option linter.all false
set_option maxRecDepth 100000
set_option maxHeartbeats 4000000
namespace K64
open PySem PySem.Spec PyProof.Rows L2 PV
variable {s : HS} {n : Nat}
theorem app_ev {T : Tbl HS} : ∀ (a b : List St') (env env' : PV.Env) (s s' : HS), evSs T glob subX fuel a env s = .ok (.nx env') s' → evSs T glob subX fuel (a ++ b) env s = evSs T glob subX fuel b env' s' := by
  intro a
  induction a with
  | nil =>
    intro b env env' s s' e
    rw [evSs_nil] at e
    cases e
    rfl
  | cons x r ih =>
    intro b env env' s s' e
    rw [evSs_cons] at e
    rw [List.cons_append, evSs_cons]
    generalize evS T glob subX fuel x env s = q at e ⊢
    cases q with
    | ok f s1 =>
      cases f with
      | nx env1 => exact ih b env1 env' s1 s' e
      | _ => cases e
    | _ => cases e
/-! ### families drawn -/
theorem tb_put_behind : tb (n + 1) "put_behind" = some (run n f_put_behind) := tb_of (by decide +kernel) rfl
theorem tb_law_drawn : tb (n + 1) "_law_drawn" = some (run n f_law_drawn) := tb_of (by decide +kernel) rfl
theorem tb_law_family : tb (n + 1) "_law_family" = some (run n f_law_family) := tb_of (by decide +kernel) rfl
theorem same_fam {m k : Nat} {rows : List (List Int)} (h : FamOk m k rows) : Same1 2 (FamD rows) := .tup (fun x hx => by
  obtain ⟨t, ht, rfl⟩ := List.mem_map.mp hx
  have := (h.row t ht).1
  have := h.n32
  exact same_ints (by omega)) (by
  have := h.k64
  rw [List.length_map]
  omega)
section
variable {m k : Nat} {M N K : Int} {rows : List (List Int)}
def b_dr : List St' := [.own 7 (.comp (.call "_law_take" [.var 0, .var 3]) (.nm 8) .rng1 [.var 2] [] [8]),
     .ifs (.e (.cmp .eq (.var 4) (.con (.int 1))))
       [.own 7 (.comp (.bop .mod (.prim .int [.var 10]) (.con (.int 2))) (.nm 10) .seq [.var 7] [] [10])]
       [.ifs (.and (.e (.cmp .eq (.var 4) (.con (.int 2)))) (.e (.cmp .gt (.var 6) (.con (.int 0)))))
         [.asg (.nm 9) (.idx (.var 7) (.con (.int 0))),
         .own 7 (.prim .list [.idx (.var 5) (.call "_law_take" [.var 0, .var 6])]),
         .setIx 7 (.call "_law_take" [.var 0, .var 2]) (.var 9)]
         []],
     .app 5 (.prim .tuple [.var 7])]
def envD (K N M a : Int) (R : List (List Int)) (z6 z7 z9 : Sl) : PV.Env := [.hand, .v (.int K), .v (.int N), .v (.int M), .v (.int a), .own (R.map tupI), z6, z7, .no, z9, .no]
theorem dr_step {a I : Int} {R : List (List Int)} {z7 z9 : Sl} (ok : s.Ok) (eM : M = m) (eN : N = k) (hm : 2 ≤ m ∧ m ≤ 32) (hk : 2 ≤ k ∧ k ≤ 32) (hl : R.length < 1000) (eI : I = (R.length : Int)) (hR : ∀ t ∈ R, t.length = k ∧ ∀ x ∈ t, 0 ≤ x ∧ x < (m : Int)) :
    ∃ t y7 y9 s', evSs (tb (n + 1)) glob subX fuel b_dr (envD K N M a R (.v (.int I)) z7 z9) s = .ok (.nx (envD K N M a (R ++ [t]) (.v (.int I)) y7 y9)) s' ∧ (t.length = k ∧ ∀ x ∈ t, 0 ≤ x ∧ x < (m : Int)) ∧ s'.Ok := by
  have l1 : (R.map tupI).length < 16777216 := by rw [List.length_map]; omega
  have em : ∀ t : List Int, (R ++ [t]).map tupI = R.map tupI ++ [.tuple (t.map .int)] := fun t => by
    rw [List.map_append]
    rfl
  obtain ⟨t0, s1, e1, ht, ok1⟩ := comp_draw (T := tb (n + 1)) (G := glob) (env := envD K N M a R (.v (.int I)) z7 z9) (s := s) (P := fun s => s.Ok) (Y := Int) (F := .int) (C := fun _ y => 0 ≤ y ∧ y < (m : Int)) (r := k) (k := 8) (R := N) (src := [.var 2])
      (e := .call "_law_take" [.var 0, .var 3]) (by simp [envD]) eN (by omega) (by simp [envD]) ok (fun i s i0 i1 ok => by
        obtain ⟨v, s1, e1, v0, v1, ok1⟩ := take_all ok (N := M) (by omega) (by omega)
        exact ⟨v, s1, by simp [envD, tb_law_take, e1], by omega, ok1⟩)
  obtain ⟨T0, eT⟩ : ∃ T0, T0 = (rgI k).map t0 := ⟨_, rfl⟩
  have e1' : (rgI k).map (fun i => PyData.int (t0 i)) = T0.map .int := by
    rw [eT, List.map_map]
    rfl
  rw [e1'] at e1
  have rT : T0.length = k ∧ ∀ x ∈ T0, 0 ≤ x ∧ x < (m : Int) := ⟨by rw [eT, List.length_map, rgI_len], fun x hx => by
    rw [eT] at hx
    obtain ⟨i, hi, rfl⟩ := List.mem_map.mp hx
    exact ht i (rgI_mem.mp hi).1 (rgI_mem.mp hi).2⟩
  obtain ⟨a0, r, e3⟩ : ∃ a0 r, T0 = a0 :: r := by
    cases T0 with
    | nil => simp at rT; omega
    | cons a0 r => exact ⟨a0, r, rfl⟩
  have i0 : idxD (.list (T0.map .int)) (.int 0) = some (.int a0) := idxD_lk (by decide) (by rw [e3]; rfl)
  have ha0 := rT.2 a0 (by rw [e3]; exact List.mem_cons_self)
  by_cases h1 : a = 1
  · have c2 : evE (tb (n + 1)) glob (.comp (.bop .mod (.prim .int [.var 10]) (.con (.int 2))) (.nm 10) .seq [.var 7] [] [10]) (envD K N M a R (.v (.int I)) (.own (T0.map .int)) z9) s1 = .ok (.list ((T0.map fun x => x % 2).map .int)) s1 := by
      rw [List.map_map]
      refine comp_seq (ds := [.list (T0.map .int)]) (u := .int) (L := T0) (by simp [envD]) rfl (by omega) fun x hx => ?_
      rw [turn_nm (by simp [envD])]
      simp [turnK, envD, bopD_mod (show (0 : Int) < 2 by decide)]
    refine ⟨T0.map fun x => x % 2, .own ((T0.map fun x => x % 2).map .int), z9, s1, ?_, ⟨by rw [List.length_map]; exact rT.1, fun x hx => ?_⟩, ok1⟩
    · rw [h1] at e1 c2 ⊢
      unfold envD at e1 c2 ⊢
      rw [em]
      obtain ⟨RD, eR⟩ : ∃ RD, RD = R.map tupI := ⟨_, rfl⟩
      obtain ⟨TD, eTD⟩ : ∃ TD, TD = T0.map PyData.int := ⟨_, rfl⟩
      obtain ⟨UD, eU⟩ : ∃ UD, UD = (T0.map fun x => x % 2).map PyData.int := ⟨_, rfl⟩
      rw [← eR] at l1 e1 c2 ⊢
      rw [← eTD] at e1 c2
      rw [← eU] at c2 ⊢
      unfold b_dr
      simp [e1, c2, l1]
    · obtain ⟨y, hy, rfl⟩ := List.mem_map.mp hx
      have := rT.2 y hy
      omega
  have b1 : (a == 1) = false := beq_eq_false_iff_ne.mpr h1
  by_cases h2 : a = 2 ∧ 0 < I
  · obtain ⟨h2, hI⟩ := h2
    obtain ⟨c, s2, t2, c0, c1, ok2⟩ := take_all ok1 (N := I) hI (by omega)
    obtain ⟨d, s3, t3, d0, d1, ok3⟩ := take_all ok2 (N := N) (by omega) (by omega)
    have hv := hR _ (rwL_mem (rows := R) c0 (by omega))
    obtain ⟨V, eV⟩ : ∃ V, V = rwL R c := ⟨_, rfl⟩
    have iv : idxD (.list (R.map tupI)) (.int c) = some (tupI V) := by rw [eV]; exact idx_fam (rows := R) c0 (by omega)
    rw [← eV] at hv
    have ix : ixN (V.map PyData.int).length d = some d.toNat := by
      rw [List.length_map]
      unfold ixN
      rw [if_pos d0, if_pos (by omega)]
    have st : (V.map PyData.int).set d.toNat (.int a0) = (V.set d.toNat a0).map .int := by rw [List.map_set]
    refine ⟨V.set d.toNat a0, .own ((V.set d.toNat a0).map .int), .v (.int a0), s3, ?_, ⟨by rw [List.length_set]; exact hv.1, fun x hx => ?_⟩, ok3⟩
    · rw [h2] at e1 ⊢
      unfold envD at e1 ⊢
      rw [em]
      have tv : tupI V = .tuple (V.map .int) := rfl
      rw [tv] at iv
      obtain ⟨RD, eR⟩ : ∃ RD, RD = R.map tupI := ⟨_, rfl⟩
      obtain ⟨TD, eTD⟩ : ∃ TD, TD = T0.map PyData.int := ⟨_, rfl⟩
      obtain ⟨VD, eVD⟩ : ∃ UD, UD = V.map PyData.int := ⟨_, rfl⟩
      obtain ⟨UD, eU⟩ : ∃ UD, UD = (V.set d.toNat a0).map PyData.int := ⟨_, rfl⟩
      rw [← eR] at l1 e1 iv ⊢
      rw [← eTD] at e1 i0
      rw [← eVD] at iv ix st
      rw [← eU] at st ⊢
      unfold b_dr
      simp [e1, hI, i0, tb_law_take, t2, iv, t3, ix, st, l1]
    · rcases List.mem_or_eq_of_mem_set hx with hx | hx
      · exact hv.2 x hx
      · rw [hx]; exact ha0
  · refine ⟨T0, .own (T0.map .int), z9, s1, ?_, rT, ok1⟩
    unfold envD at e1 ⊢
    rw [em]
    obtain ⟨RD, eR⟩ : ∃ RD, RD = R.map tupI := ⟨_, rfl⟩
    obtain ⟨TD, eTD⟩ : ∃ TD, TD = T0.map PyData.int := ⟨_, rfl⟩
    rw [← eR] at l1 e1 ⊢
    rw [← eTD] at e1 ⊢
    unfold b_dr
    by_cases hA : a = 2
    · have hI : ¬ 0 < I := by omega
      subst hA
      simp [e1, hI, l1]
    · have b2 : (a == 2) = false := beq_eq_false_iff_ne.mpr hA
      simp [e1, b1, b2, l1]
theorem r_law_drawn {Kn : Nat} (ok : s.Ok) (eM : M = m) (eN : N = k) (eK : K = Kn) (hm : 2 ≤ m ∧ m ≤ 32) (hk : 2 ≤ k ∧ k ≤ 32) (hK : 1 ≤ Kn ∧ Kn ≤ 64) :
    ∃ (rows : List (List Int)) (s' : HS), run (n + 1) f_law_drawn [.h, .d (.int K), .d (.int N), .d (.int M)] s = .ok (FamD rows) s' ∧ FamOk m k rows ∧ rows.length = Kn ∧ s'.Ok := by
  obtain ⟨a, s1, t1, a0, a1, ok1⟩ := take_all ok (N := 3) (by omega) (by omega)
  obtain ⟨env', s3, e3, R, z6, z7, z9, rfl, hl, hR, ok3⟩ := loop_map (tg := .nm 6) (u := .int) (r := Kn) (body := evSs (tb (n + 1)) glob subX fuel b_dr)
    (Inv := fun i env (s' : HS) => ∃ R z6 z7 z9, env = envD K N M a R z6 z7 z9 ∧ R.length = i ∧ (∀ t ∈ R, t.length = k ∧ ∀ x ∈ t, 0 ≤ x ∧ x < (m : Int)) ∧ s'.Ok) (fun i env s' hi hv => by
      obtain ⟨R, z6, z7, z9, rfl, hl, hR, ok⟩ := hv
      obtain ⟨I, eI⟩ : ∃ I : Int, I = (i : Int) := ⟨_, rfl⟩
      rw [← eI]
      obtain ⟨t, y7, y9, s4, e4, ht, ok4⟩ := dr_step (n := n) (K := K) (a := a) (I := I) (R := R) (z7 := z7) (z9 := z9) ok eM eN hm hk (by omega) (by omega) hR
      refine ⟨envD K N M a R (.v (.int I)) z7 z9, _, s4, by simp [envD], e4, R ++ [t], _, _, _, rfl, by rw [List.length_append, hl]; rfl, fun u hu => ?_, ok4⟩
      rcases List.mem_append.mp hu with hu | hu
      · exact hR u hu
      · rw [List.mem_singleton.mp hu]; exact ht) (env := envD K N M a [] .no .no .no) (s := s1) ⟨[], .no, .no, .no, rfl, rfl, (fun _ h => nomatch h), ok1⟩
  refine ⟨R, s3, ?_, ⟨hm.1, hm.2, hk.1, hk.2, by omega, by omega, hR⟩, hl, ok3⟩
  unfold FamD
  obtain ⟨RD, eR⟩ : ∃ RD, RD = R.map tupI := ⟨_, rfl⟩
  unfold envD b_dr at e3
  rw [← eR] at e3 ⊢
  simp only [List.map_nil] at e3
  rw [run, run_eq (f := f_law_drawn) (body := b_law_drawn) rfl ⟨rfl, by decide⟩, b_law_drawn]
  simp [startE_eq, tb_law_take, t1, evS_loop, srcD_rngR eK (show Kn ≤ 1000000 by omega), e3]
/-! the law's family -/
def b_du : List St' := [.loop (.nm 10) .seq [.var 7] [.app 8 (.prim .tuple [.comp (.idx (.var 10) (.var 11)) (.nm 11) .seq [.var 9] [] [11]])]]
def envB (a P : Int) (F1 F2 : List (List Int)) (J : Int) (O : List (List Int)) (z9 z10 z11 : Sl) : PV.Env := [.hand, .v (.int a), .v (.int P), .no, .no, .v (FamD F1), .v (.int J), .v (FamD F2), .own (O.map tupI), z9, z10, z11]
theorem du_loop {j : Nat} {a P J : Int} {F1 F2 : List (List Int)} (h1 : FamOk m k F1) (h2 : FamOk j m F2) (hl : F1.length * F2.length ≤ 10000) :
    ∃ z9 z10 z11, loopS (.nm 9) (evSs (tb n) glob subX fuel b_du) (F1.map tupI) (envB a P F1 F2 J [] .no .no .no) s = .ok (.nx (envB a P F1 F2 J (FamB F1 F2) z9 z10 z11)) s := by
  have h32 := h1.n32
  obtain ⟨env', s', e1, z9, z10, z11, rfl, rfl⟩ := loop_listP (tg := .nm 9) (u := tupI) (body := evSs (tb n) glob subX fuel b_du)
    (Inv := fun D env (s' : HS) => ∃ z9 z10 z11, env = envB a P F1 F2 J (FamB D F2) z9 z10 z11 ∧ s' = s) F1 (fun D t rest env s' eL hv => by
      obtain ⟨z9, z10, z11, rfl, rfl⟩ := hv
      have ht : t ∈ F1 := by rw [eL]; exact List.mem_append_right _ List.mem_cons_self
      have hdl := congrArg List.length eL
      rw [List.length_append, List.length_cons] at hdl
      have hDl : D.length * F2.length ≤ 10000 := Nat.le_trans (Nat.mul_le_mul_right _ (by omega)) hl
      have h26 := h2.k64
      obtain ⟨env2, s2, e2, y10, y11, rfl, rfl⟩ := loop_listP (tg := .nm 10) (u := tupI) (body := evSs (tb n) glob subX fuel [.app 8 (.prim .tuple [.comp (.idx (.var 10) (.var 11)) (.nm 11) .seq [.var 9] [] [11]])])
        (Inv := fun E env (s2 : HS) => ∃ z10 z11, env = envB a P F1 F2 J (FamB D F2 ++ E.map (rowB t)) (.v (tupI t)) z10 z11 ∧ s2 = s') F2 (fun E u rest env s2 eL2 hv => by
          obtain ⟨z10, z11, rfl, rfl⟩ := hv
          have hu : u ∈ F2 := by rw [eL2]; exact List.mem_append_right _ List.mem_cons_self
          have hel := congrArg List.length eL2
          rw [List.length_append, List.length_cons] at hel
          have l1 : ((FamB D F2 ++ E.map (rowB t)).map tupI).length < 16777216 := by
            rw [List.length_map, List.length_append, famB_len, List.length_map]
            omega
          have en : (FamB D F2 ++ (E ++ [u]).map (rowB t)).map tupI = (FamB D F2 ++ E.map (rowB t)).map tupI ++ [.tuple ((rowB t u).map .int)] := by
            have : FamB D F2 ++ (E ++ [u]).map (rowB t) = (FamB D F2 ++ E.map (rowB t)) ++ [rowB t u] := by
              rw [List.map_append, ← List.append_assoc]
              rfl
            rw [this, List.map_append]
            rfl
          unfold envB
          rw [en]
          obtain ⟨F, eF⟩ : ∃ F, F = (FamB D F2 ++ E.map (rowB t)).map tupI := ⟨_, rfl⟩
          rw [← eF] at l1 ⊢
          have c1 := ev_rowB (s := s2) (T := tb n) (env := [.hand, .v (.int a), .v (.int P), .no, .no, .v (FamD F1), .v (.int J), .v (FamD F2), .own F, .v (tupI t), .v (tupI u), z11]) (a := 9) (b := 10) (c := 11) (t := t) (u := u) (fun x hx => (h1.row t ht).2 x hx) (by rw [(h1.row t ht).1]; omega) h2 hu (by simp) rfl (fun d => rfl) (fun d => rfl)
          obtain ⟨G, eG⟩ : ∃ G, G = (rowB t u).map PyData.int := ⟨_, rfl⟩
          rw [← eG] at c1 ⊢
          exact ⟨[.hand, .v (.int a), .v (.int P), .no, .no, .v (FamD F1), .v (.int J), .v (FamD F2), .own F, .v (tupI t), .v (tupI u), z11], [.hand, .v (.int a), .v (.int P), .no, .no, .v (FamD F1), .v (.int J), .v (FamD F2), .own (F ++ [.tuple G]), .v (tupI t), .v (tupI u), z11], s2, by simp, by simp [c1, l1], _, _, rfl, rfl⟩) (env := envB a P F1 F2 J (FamB D F2) (.v (tupI t)) z10 z11) (s := s') ⟨z10, z11, by simp, rfl⟩
      rw [famB_snoc]
      unfold envB at e2 ⊢
      obtain ⟨F, eF⟩ : ∃ F, F = (FamB D F2).map tupI := ⟨_, rfl⟩
      rw [← eF] at e2 ⊢
      exact ⟨[.hand, .v (.int a), .v (.int P), .no, .no, .v (FamD F1), .v (.int J), .v (FamD F2), .own F, .v (tupI t), z10, z11], _, s2, by simp, by unfold b_du; simp [evS_loop, src_fam, e2], .v (tupI t), y10, y11, rfl, rfl⟩) (env := envB a P F1 F2 J [] .no .no .no) (s := s) ⟨.no, .no, .no, rfl, rfl⟩
  exact ⟨z9, z10, z11, e1⟩
theorem r_law_family (ok : s.Ok) : ∃ (rows : List (List Int)) (m k : Nat) (M Ln : Int) (s' : HS), run (n + 5) f_law_family [.h] s = .ok (.tuple [FamD rows, .int M, .int Ln]) s' ∧ FamOk m k rows ∧ M = m ∧ (m ≤ 7 ∧ k ≤ 7 ∧ rows.length ≤ 49) ∧ (Ln = 0 ∨ (Ln = M ∧ isP m ∧ k = m ∧ rows = linesF m m 1)) ∧ s'.Ok := by
  obtain ⟨a, s1, t1, a0, a1, ok1⟩ := take_all ok (N := 6) (by omega) (by omega)
  obtain ⟨c, s2, t2, c0, c1, ok2⟩ := take_all ok1 (N := 6) (by omega) (by omega)
  obtain ⟨P0, hP0, i2⟩ := getD_mem (L := [2, 3, 3, 2, 3, 5]) c0 (by simpa using c1)
  have i2 : idxD (.list [.int 2, .int 3, .int 3, .int 2, .int 3, .int 5]) (.int c) = some (.int P0) := i2
  obtain ⟨P, s3, ok3, hP, k1⟩ : ∃ (P : Int) (s3 : HS), s3.Ok ∧ (P = 2 ∨ P = 3 ∨ P = 5 ∨ P = 7) ∧ evSs (tb (n + 5)) glob subX fuel [.asg (.nm 1) (.call "_law_take" [.var 0, .con (.int 6)]),
   .asg (.nm 2) (.idx (.lst [.con (.int 2), .con (.int 3), .con (.int 3), .con (.int 2), .con (.int 3), .con (.int 5)]) (.call "_law_take" [.var 0, .con (.int 6)])),
   .ifs (.and (.e (.cmp .eq (.var 2) (.con (.int 5)))) (.e (.cmp .eq (.call "_law_take" [.var 0, .con (.int 6)]) (.con (.int 0)))))
     [.asg (.nm 2) (.con (.int 7))]
     []] [.hand, .no, .no, .no, .no, .no, .no, .no, .no, .no, .no, .no] s = .ok (.nx [.hand, .v (.int a), .v (.int P), .no, .no, .no, .no, .no, .no, .no, .no, .no]) s3 := by
    have hP1 : P0 = 2 ∨ P0 = 3 ∨ P0 = 5 := by
      simp only [List.mem_cons, List.not_mem_nil, or_false] at hP0
      omega
    by_cases h7 : P0 = 5
    · obtain ⟨d, s3, t3, d0, d1, ok3⟩ := take_all ok2 (N := 6) (by omega) (by omega)
      subst h7
      by_cases hd : d = 0
      · subst hd
        exact ⟨7, s3, ok3, by omega, by simp [tb_law_take, t1, lenR, t2, i2, t3]⟩
      · have hb : (d == 0) = false := beq_eq_false_iff_ne.mpr hd
        exact ⟨5, s3, ok3, by omega, by simp [tb_law_take, t1, lenR, t2, i2, t3, hb]⟩
    · have hb : (P0 == 5) = false := beq_eq_false_iff_ne.mpr h7
      exact ⟨P0, s2, ok2, by omega, by simp [tb_law_take, t1, lenR, t2, i2, hb]⟩
  obtain ⟨p, eP⟩ : ∃ p : Nat, P = p := ⟨P.toNat, by omega⟩
  have hp : isP p := by unfold isP; omega
  have h27 := isP_in hp
  have go : ∀ {b : List St'} {d : PyData} {s' : HS}, b_law_family = [.asg (.nm 1) (.call "_law_take" [.var 0, .con (.int 6)]),
   .asg (.nm 2) (.idx (.lst [.con (.int 2), .con (.int 3), .con (.int 3), .con (.int 2), .con (.int 3), .con (.int 5)]) (.call "_law_take" [.var 0, .con (.int 6)])),
   .ifs (.and (.e (.cmp .eq (.var 2) (.con (.int 5)))) (.e (.cmp .eq (.call "_law_take" [.var 0, .con (.int 6)]) (.con (.int 0)))))
     [.asg (.nm 2) (.con (.int 7))]
     []] ++ b → retR (evSs (tb (n + 5)) glob subX fuel b [.hand, .v (.int a), .v (.int P), .no, .no, .no, .no, .no, .no, .no, .no, .no] s3) = .ok d s' → run (n + 5) f_law_family [.h] s = .ok d s' := fun {b d s'} eb e => by
    rw [run, run_eq (f := f_law_family) (body := b_law_family) rfl ⟨rfl, by decide⟩, eb]
    show retR (evSs (tb (n + 5)) glob subX fuel (_ ++ b) [.hand, .no, .no, .no, .no, .no, .no, .no, .no, .no, .no, .no] s) = _
    rw [app_ev _ _ _ _ _ _ k1]
    exact e
  rcases (show a = 0 ∨ a = 1 ∨ a = 2 ∨ 3 ≤ a by omega) with h | h | h | h
  · obtain ⟨b, s4, t4, b0, b1, ok4⟩ := take_all ok3 (N := P - 1) (by omega) (by omega)
    obtain ⟨M, eM'⟩ : ∃ M : Int, M = 2 + b := ⟨_, rfl⟩
    obtain ⟨m, eM⟩ : ∃ p : Nat, M = p := ⟨M.toNat, by omega⟩
    have f1 := r_line_family (n := n + 2) (s := s4) eP eM hp (by omega)
    have f2 := r_law_lines (n := n + 4) (s := s4) (L := 1) eP eM h27 (by omega) (by decide)
    obtain ⟨hF, hl⟩ := linesF_ok (p := p) (m := m) (L := 1) h27 (by omega) (by decide)
    have q := r_same (s := s4) 2 (same_fam hF) (n + 2)
    by_cases hPM : M = P
    · have e : m = p := by omega
      subst e
      have m1 := bopD_mul (i := P) (j := 1) (mulOk_r (by omega))
      rw [Int.mul_one] at m1
      subst hPM
      refine ⟨linesF m m 1, m, m, M, M, s4, go rfl ?_, hF, eM, by omega, .inr ⟨rfl, hp, rfl, rfl⟩, ok4⟩
      simp [h, tb_law_take, t4, ← eM', tb_line_family, f1, tb_law_lines, f2, tb_law_same, q, m1]
    · have hb : (M == P) = false := beq_eq_false_iff_ne.mpr hPM
      have m1 := bopD_mul (i := P) (j := 0) (mulOk_r (by omega))
      rw [Int.mul_zero] at m1
      refine ⟨linesF p m 1, m, p, M, 0, s4, go rfl ?_, hF, eM, by omega, .inl rfl, ok4⟩
      simp [h, tb_law_take, t4, ← eM', tb_line_family, f1, tb_law_lines, f2, tb_law_same, q, hb, m1]
  · have f1 := r_full_family (n := n + 2) (s := s3) eP hp
    have f2 := r_law_lines (n := n + 4) (s := s3) (L := 0) eP eP h27 h27 (by decide)
    obtain ⟨hF, hl⟩ := linesF_ok (p := p) (m := p) (L := 0) h27 h27 (by decide)
    have q := r_same (s := s3) 2 (same_fam hF) (n + 2)
    refine ⟨linesF p p 0, p, p, P, 0, s3, go rfl ?_, hF, eP, by omega, .inl rfl, ok3⟩
    simp [h, tb_full_family, f1, tb_law_lines, f2, tb_law_same, q]
  · have f1 := r_law_lines (n := n + 4) (s := s3) (p := 3) (m := 3) (P := 3) (M := 3) (L := 1) rfl rfl (by decide) (by decide) (by omega)
    obtain ⟨hF, hl⟩ := linesF_ok (p := 3) (m := 3) (L := 1) (by decide) (by decide) (by omega)
    have hl9 : (linesF 3 3 1).length ≤ 9 := by decide +kernel
    obtain ⟨c5, s5, t5, c50, c51, ok5⟩ := take_all ok3 (N := 3) (by omega) (by omega)
    obtain ⟨J, eJ'⟩ : ∃ M : Int, M = 2 + c5 := ⟨_, rfl⟩
    obtain ⟨j, eJ⟩ : ∃ p : Nat, J = p := ⟨J.toNat, by omega⟩
    obtain ⟨c6, s6, t6, c60, c61, ok6⟩ := take_all ok5 (N := 3) (by omega) (by omega)
    obtain ⟨K2, eK2'⟩ : ∃ M : Int, M = 1 + c6 := ⟨_, rfl⟩
    obtain ⟨k2, eK2⟩ : ∃ p : Nat, K2 = p := ⟨K2.toNat, by omega⟩
    obtain ⟨F2, s7, f7, hF2, hl2, ok7⟩ := r_law_drawn (n := n + 3) (N := 3) (k := 3) ok6 eJ rfl eK2 (by omega) (by decide) (by omega)
    obtain ⟨F1, eF1⟩ : ∃ F, F = linesF 3 3 1 := ⟨_, rfl⟩
    rw [← eF1] at f1 hF hl9
    have hp12 : F1.length * F2.length ≤ 9 * 3 := Nat.mul_le_mul hl9 (by omega)
    obtain ⟨z9, z10, z11, e8⟩ := du_loop (n := n + 5) (s := s7) (a := a) (P := P) (J := J) hF hF2 (by omega)
    have f9 := r_put_behind (n := n) (s := s7) (M := 3) (m := 3) rfl eJ hF hF2 (by omega)
    have oB := famB_ok hF hF2 (by omega)
    have q := r_same (s := s7) 2 (same_fam oB) (n + 2)
    refine ⟨FamB F1 F2, j, 3, J, 0, s7, go rfl ?_, oB, eJ, by rw [famB_len]; omega, .inl rfl, ok7⟩
    unfold envB b_du at e8
    have eB : FamD (FamB F1 F2) = .tuple ((FamB F1 F2).map tupI) := rfl
    rw [eB] at f9 q ⊢
    obtain ⟨BD, eBD⟩ : ∃ V, V = (FamB F1 F2).map tupI := ⟨_, rfl⟩
    rw [← eBD] at f9 q e8 ⊢
    simp only [List.map_nil] at e8
    rw [h] at e8 ⊢
    simp [tb_law_take, tb_law_lines, f1, t5, ← eJ', t6, ← eK2', tb_law_drawn, f7, evS_loop, src_fam, e8, tb_put_behind, f9, tb_law_same, q]
  · have n0 : (a == 0) = false := beq_eq_false_iff_ne.mpr (by omega)
    have n1 : (a == 1) = false := beq_eq_false_iff_ne.mpr (by omega)
    have n2 : (a == 2) = false := beq_eq_false_iff_ne.mpr (by omega)
    obtain ⟨u, s8, t8, u0, u1, ok8⟩ := take_all ok3 (N := 8) (by omega) (by omega)
    by_cases hu : u = 0
    · subst hu
      obtain ⟨b, s4, t4, b0, b1, ok4⟩ := take_all ok8 (N := 2) (by omega) (by omega)
      obtain ⟨M, eM'⟩ : ∃ M : Int, M = 5 + b := ⟨_, rfl⟩
      obtain ⟨m, eM⟩ : ∃ p : Nat, M = p := ⟨M.toNat, by omega⟩
      obtain ⟨c5, s5, t5, c50, c51, ok5⟩ := take_all ok4 (N := 8) (by omega) (by omega)
      obtain ⟨K2, eK2'⟩ : ∃ M : Int, M = 9 + c5 := ⟨_, rfl⟩
      obtain ⟨k2, eK2⟩ : ∃ p : Nat, K2 = p := ⟨K2.toNat, by omega⟩
      obtain ⟨c6, s6, t6, c60, c61, ok6⟩ := take_all ok5 (N := 2) (by omega) (by omega)
      obtain ⟨N, eN'⟩ : ∃ M : Int, M = 4 + c6 := ⟨_, rfl⟩
      obtain ⟨k, eN⟩ : ∃ p : Nat, N = p := ⟨N.toNat, by omega⟩
      obtain ⟨F2, s7, f7, hF2, hl2, ok7⟩ := r_law_drawn (n := n + 3) ok6 eM eN eK2 (by omega) (by omega) (by omega)
      refine ⟨F2, m, k, M, 0, s7, go rfl ?_, hF2, eM, by omega, .inl rfl, ok7⟩
      simp [n0, n1, n2, tb_law_take, t8, t4, ← eM', t5, ← eK2', t6, ← eN', tb_law_drawn, f7]
    · have nu : (u == 0) = false := beq_eq_false_iff_ne.mpr hu
      obtain ⟨b, s4, t4, b0, b1, ok4⟩ := take_all ok8 (N := 3) (by omega) (by omega)
      obtain ⟨M, eM'⟩ : ∃ M : Int, M = 2 + b := ⟨_, rfl⟩
      obtain ⟨m, eM⟩ : ∃ p : Nat, M = p := ⟨M.toNat, by omega⟩
      obtain ⟨c5, s5, t5, c50, c51, ok5⟩ := take_all ok4 (N := 7) (by omega) (by omega)
      obtain ⟨K2, eK2'⟩ : ∃ M : Int, M = 1 + c5 := ⟨_, rfl⟩
      obtain ⟨k2, eK2⟩ : ∃ p : Nat, K2 = p := ⟨K2.toNat, by omega⟩
      obtain ⟨c6, s6, t6, c60, c61, ok6⟩ := take_all ok5 (N := 3) (by omega) (by omega)
      obtain ⟨N, eN'⟩ : ∃ M : Int, M = 2 + c6 := ⟨_, rfl⟩
      obtain ⟨k, eN⟩ : ∃ p : Nat, N = p := ⟨N.toNat, by omega⟩
      obtain ⟨F2, s7, f7, hF2, hl2, ok7⟩ := r_law_drawn (n := n + 3) ok6 eM eN eK2 (by omega) (by omega) (by omega)
      refine ⟨F2, m, k, M, 0, s7, go rfl ?_, hF2, eM, by omega, .inl rfl, ok7⟩
      simp [n0, n1, n2, nu, tb_law_take, t8, t4, ← eM', t5, ← eK2', t6, ← eN', tb_law_drawn, f7]
end
end K64
set_option Elab.async false
set_option linter.all false
set_option maxRecDepth 100000
set_option maxHeartbeats 4000000
namespace K64
open PySem PySem.Spec PyProof.Rows L2 PV
variable {s : HS} {n : Nat}
/-! ### forgers, the law's best pair -/
theorem tb_law_best : tb (n + 1) "_law_best" = some (run n f_law_best) := tb_of (by decide +kernel) rfl
theorem tb_law_forger : tb (n + 1) "_law_forger" = some (run n f_law_forger) := tb_of (by decide +kernel) rfl
section
variable {m k : Nat} {M N K : Int} {rows : List (List Int)}
/-! drawn names -/
def NmD (m : Nat) (F : Int → Int × Int) : List PyData := (rgI m).map fun v => pD (F v)
def NmOk (m k : Nat) (seen : Int) (F : Int → Int × Int) : Prop := ∀ v : Int, 0 ≤ v → v < m → (0 ≤ (F v).1 ∧ (F v).1 < (k : Int)) ∧ (F v).1 ≠ seen ∧ (0 ≤ (F v).2 ∧ (F v).2 < (m : Int))
def hitB (F : Int → Int × Int) (seen : Int) (t : List Int) : Bool := atL t (F (atL t seen)).1 == (F (atL t seen)).2
def cntN (rows : List (List Int)) (F : Int → Int × Int) (seen : Int) : Int := (rows.countP (hitB F seen) : Nat)
theorem cntN_in {F : Int → Int × Int} {seen : Int} : 0 ≤ cntN rows F seen ∧ cntN rows F seen ≤ rows.length := by
  have := List.countP_le_length (p := hitB F seen) (l := rows)
  unfold cntN
  omega
theorem r_is_forger {F : Int → Int × Int} {seen : Int} (eM : M = m) (h : FamOk m k rows) (hF : NmOk m k seen F) :
    run (n + 1) f_is_forger [.d (FamD rows), .d (.int M), .d (.int seen), .d (.tuple (NmD m F))] s = .ok (.bool true) s := by
  rw [run, run_eq (f := f_is_forger) (body := b_is_forger) rfl ⟨rfl, by decide⟩, b_is_forger]
  have h2 := h.m32
  obtain ⟨N, eN⟩ : ∃ N : Int, N = (k : Int) := ⟨_, rfl⟩
  obtain ⟨t0, i0, l0⟩ := first_len h eN
  have hl : primD .len [.tuple (NmD m F)] = some (.int M) := by
    unfold NmD
    rw [primD_lenT, List.length_map, rgI_len, eM]
  have hc1 : ∀ z : Sl, evE (tb (n + 1)) glob (.comp (.and (.prim (.isinst .tuple) [.var 5]) (.cmp .eq (.prim .len [.var 5]) (.con (.int 2)))) (.nm 5) .seq [.var 3] [] [5]) [.v (FamD rows), .v (.int M), .v (.int seen), .v (.tuple (NmD m F)), z, .no, .no, .no] s = .ok (.list ((rgI m).map fun _ => .bool true)) s := fun z => by
    refine comp_seq (ds := [.tuple (NmD m F)]) (u := fun v => pD (F v)) (by simp) rfl (by rw [rgI_len]; omega) fun v _ => ?_
    rw [turn_nm (by simp)]
    simp [turnK, pD]
  have hc2 : evE (tb (n + 1)) glob (.comp (.and (.call "is_number" [.var 6, .con (.int 0), .var 4]) (.and (.cmp .ne (.var 6) (.var 2)) (.call "is_number" [.var 7, .con (.int 0), .bop .sub (.var 1) (.con (.int 1))]))) (.tup [6, 7]) .seq [.var 3] [] [6, 7]) [.v (FamD rows), .v (.int M), .v (.int seen), .v (.tuple (NmD m F)), .v (.int (N - 1)), .no, .no, .no] s = .ok (.list ((rgI m).map fun _ => .bool true)) s := by
    refine comp_seq (ds := [.tuple (NmD m F)]) (u := fun v => pD (F v)) (by simp) rfl (by rw [rgI_len]; omega) fun v hv => ?_
    have hv := rgI_mem.mp hv
    obtain ⟨a1, a2, a3⟩ := hF v hv.1 hv.2
    show turnM (.tup [6, 7]) [6, 7] _ _ _ (.tuple [.int (F v).1, .int (F v).2]) s = _
    rw [turn_t2 (by simp) (by simp) (by decide)]
    have d1 : decide ((0 : Int) ≤ (F v).1 ∧ (F v).1 ≤ N - 1) = true := decide_eq_true (by omega)
    have d2 : decide ((0 : Int) ≤ (F v).2 ∧ (F v).2 ≤ M - 1) = true := decide_eq_true (by omega)
    have d3 : ((F v).1 == seen) = false := beq_eq_false_iff_ne.mpr a2
    simp [turnK, tb_is_number, r_is_number, d1, d2, d3]
  have hi : primD (.isinst .tuple) [.tuple (NmD m F)] = some (.bool true) := rfl
  rw [primD_lenT] at hl
  simp [startE_eq, hl, hc1, i0, l0, hc2]
theorem r_forger_share {F : Int → Int × Int} {seen : Int} (eM : M = m) (h : FamOk m k rows) (eK : K = rows.length) (hs : 0 ≤ seen ∧ seen < (k : Int)) (hF : NmOk m k seen F) :
    run (n + 4) f_forger_share [.d (FamD rows), .d (.int M), .d (.int seen), .d (.tuple (NmD m F))] s = .ok (frD (cntN rows F seen) K) s := by
  rw [run, run_eq (f := f_forger_share) (body := b_forger_share) rfl ⟨rfl, by decide⟩, b_forger_share]
  have h2 := h.m32
  have h5 := h.k1
  have h6 := h.k64
  have f1 := r_check_family (n := n) (s := s) eM h
  have f2 := r_check_input (n := n + 2) (s := s) h hs
  have f3 := r_is_forger (n := n + 2) (s := s) eM h hF
  have hc1 : evE (tb (n + 4)) glob (.comp (.tup [.var 5, .idx (.var 3) (.idx (.var 5) (.var 2))]) (.nm 5) .seq [.var 0] [] [5]) [.v (FamD rows), .v (.int M), .v (.int seen), .v (.tuple (NmD m F)), .no, .no, .no] s = .ok (.list (rows.map fun t => .tuple [tupI t, pD (F (atL t seen))])) s := by
    refine comp_seq (ds := [FamD rows]) (u := tupI) (by simp) rfl (by omega) fun t ht => ?_
    rw [turn_nm (by simp)]
    obtain ⟨g1, g2, g3⟩ := h.at ht hs.1 hs.2
    have g4 : idxD (.tuple (NmD m F)) (.int (atL t seen)) = some (pD (F (atL t seen))) := idxT (F := fun v => pD (F v)) g2 g3
    simp [turnK, g1, g4, lenR]
  have hc2 : evE (tb (n + 4)) glob (.comp (.con (.int 1)) (.tup [5, 6]) .seq [.var 4] [.e (.cmp .eq (.idx (.var 5) (.idx (.var 6) (.con (.int 0)))) (.idx (.var 6) (.con (.int 1))))] [5, 6]) [.v (FamD rows), .v (.int M), .v (.int seen), .v (.tuple (NmD m F)), .v (.list (rows.map fun t => .tuple [tupI t, pD (F (atL t seen))])), .no, .no] s = .ok (.list ((rows.filter (hitB F seen)).map fun _ => .int 1)) s := by
    refine ev_comp (ds := [.list (rows.map fun t => .tuple [tupI t, pD (F (atL t seen))])]) (items := rows.map fun t => .tuple [tupI t, pD (F (atL t seen))]) (by simp) rfl (by rw [List.length_map]; omega) (filtM_flt fun t ht => ?_)
    rw [turn_t2 (by simp) (by simp) (by decide)]
    obtain ⟨g1, g2, g3⟩ := h.at ht hs.1 hs.2
    obtain ⟨a1, a2, a3⟩ := hF (atL t seen) g2 g3
    have g5 := (h.at ht a1.1 a1.2).1
    have p0 : idxD (pD (F (atL t seen))) (.int 0) = some (.int (F (atL t seen)).1) := rfl
    have p1 : idxD (pD (F (atL t seen))) (.int 1) = some (.int (F (atL t seen)).2) := rfl
    cases e : hitB F seen t with
    | true =>
      have e : (atL t (F (atL t seen)).1 == (F (atL t seen)).2) = true := e
      simp [turnK, p0, p1, g5, e]
    | false =>
      have e : (atL t (F (atL t seen)).1 == (F (atL t seen)).2) = false := e
      simp [turnK, p0, p1, g5, e]
  have hn : ((((rows.filter (hitB F seen))).length : Nat) : Int) = cntN rows F seen := by
    unfold cntN
    rw [List.countP_eq_length_filter]
  have f4 := r_fraction (n := n + 3) (s := s) (N := cntN rows F seen) (D := K) (by omega) ((Sz.of1 (by omega)).mono (by decide))
  simp [startE_eq, tb_check_family, f1, tb_check_input, f2, tb_is_forger, f3, hc1, hc2, hn, len_fam (rows := rows) eK, tb_fraction, f4]
/-! the law's own best pair -/
theorem count_ints {L : List Int} {v : Int} : methD .count (.list (L.map .int)) [.int v] = some (.int (L.countP (fun x => x == v) : Nat)) := by
  have h1 : (L.map PyData.int).all flatD = true := List.all_eq_true.mpr fun x hx => by
    obtain ⟨i, _, rfl⟩ := List.mem_map.mp hx
    rfl
  have h2 : (L.map PyData.int).countP (fun z => PyData.eqv z (.int v)) = L.countP fun x => x == v := by
    rw [List.countP_map]
    rfl
  show (if flatD (.int v) && (L.map PyData.int).all flatD then some (PyData.int ((L.map PyData.int).countP (fun z => PyData.eqv z (.int v)) : Nat)) else none) = _
  rw [h1, h2]
  rfl
def bsL (m : Nat) (seen : Int) (D : List Int) : List (Int × Int) := D.flatMap fun x => if x == seen then [] else (rgI m).map fun v => (x, v)
theorem bsL_eq {seen : Int} : besideN k m seen = bsL m seen (rgI k) := by
  unfold besideN prN bsL
  rw [List.filter_flatMap]
  congr 1
  funext x
  cases e : x == seen with
  | true =>
    rw [if_pos rfl]
    refine List.filter_eq_nil_iff.mpr fun p hp => ?_
    obtain ⟨v, _, rfl⟩ := List.mem_map.mp hp
    show ¬ (!(x == seen)) = true
    rw [e]
    decide
  | false =>
    rw [if_neg (by decide)]
    refine List.filter_eq_self.mpr fun p hp => ?_
    obtain ⟨v, _, rfl⟩ := List.mem_map.mp hp
    show (!(x == seen)) = true
    rw [e]
    rfl
theorem beside_all : besideN k m (-1) = prN k m := by
  unfold besideN
  refine List.filter_eq_self.mpr fun p hp => ?_
  have := (prN_mem.mp hp).1.1
  have e : (p.1 == -1) = false := beq_eq_false_iff_ne.mpr (by omega)
  rw [e]
  rfl
def colD (rows : List (List Int)) (x : Int) : PyData := .list ((rows.map fun t => atL t x).map .int)
theorem ct_col {x v : Int} : methD .count (colD rows x) [.int v] = some (.int (cntP rows (x, v))) := by
  unfold colD
  rw [count_ints, List.countP_map]
  rfl
theorem bestL_snoc {P : List (Int × Int)} {p : Int × Int} : bestL rows (P ++ [p]) = bstep rows (bestL rows P) p := by
  unfold bestL
  rw [List.foldl_append]
  rfl
theorem loop_listC {γ : Type} {u : γ → PyData} {tg : Tg} {body : PV.Env → HS → RS HS} {Inv : List γ → PV.Env → HS → Prop} (L : List γ)
    (step : ∀ (done : List γ) (x : γ) (rest : List γ) (env : PV.Env) (s : HS), L = done ++ x :: rest → Inv done env s → ∃ env1 env2 s2, setTg tg (u x) env = some env1 ∧ (body env1 s = .ok (.nx env2) s2 ∨ body env1 s = .ok (.ct env2) s2) ∧ Inv (done ++ [x]) env2 s2) {env : PV.Env} {s : HS} (h : Inv [] env s) :
    ∃ env' s', loopS tg body (L.map u) env s = .ok (.nx env') s' ∧ Inv L env' s' := by
  have key : ∀ (rest done : List γ) (env : PV.Env) (s : HS), L = done ++ rest → Inv done env s → ∃ env' s', loopS tg body (rest.map u) env s = .ok (.nx env') s' ∧ Inv L env' s' := by
    intro rest
    induction rest with
    | nil =>
      intro done env s e h
      rw [List.append_nil] at e
      subst e
      exact ⟨env, s, rfl, h⟩
    | cons x q ih =>
      intro done env s e h
      obtain ⟨env1, env2, s2, e1, e2, h2⟩ := step done x q env s e h
      obtain ⟨env', s', e3, h3⟩ := ih (done ++ [x]) env2 s2 (by rw [e, List.append_assoc]; rfl) h2
      refine ⟨env', s', ?_, h3⟩
      rw [List.map_cons, loop_cons e1]
      rcases e2 with e2 | e2
      · rw [e2, againS_nx]
        exact e3
      · rw [e2, againS_ct]
        exact e3
  exact key L [] env s rfl h
def b_bv : List St' := [.asg (.nm 7) (.meth .count (.var 5) [.var 6]),
       .ifs (.e (.cmp .gt (.var 7) (.idx (.var 3) (.con (.int 0)))))
         [.asg (.nm 3) (.tup [.var 7, .tup [.var 4, .var 6]])]
         []]
def b_bx : List St' := [.ifs (.e (.cmp .eq (.var 4) (.var 2)))
       [.cont]
       [],
     .asg (.nm 5) (.comp (.idx (.var 8) (.var 4)) (.nm 8) .seq [.slc (.var 0) (some (.con (.int 1))) none] [] [8]),
     .loop (.nm 6) .rng1 [.var 1] b_bv]
def envL (X : PyData) (M seen : Int) (b : Best) (z4 z5 z6 z7 : Sl) : PV.Env := [.v X, .v (.int M), .v (.int seen), .v (bD b), z4, z5, z6, z7, .no]
theorem bv_loop {X : PyData} {x seen : Int} {P : List (Int × Int)} {z6 z7 : Sl} :
    ∃ y6 y7, loopS (.nm 6) (evSs (tb n) glob subX fuel b_bv) ((rgI m).map .int) (envL X M seen (bestL rows P) (.v (.int x)) (.v (colD rows x)) z6 z7) s =
      .ok (.nx (envL X M seen (bestL rows (P ++ (rgI m).map fun v => (x, v))) (.v (.int x)) (.v (colD rows x)) y6 y7)) s := by
  obtain ⟨env', s', e1, es, y7, y8, rfl⟩ := loop_list (tg := .nm 6) (u := .int) (body := evSs (tb n) glob subX fuel b_bv) (Inv := fun D env (s' : HS) => s' = s ∧ ∃ y7 y8, env = envL X M seen (bestL rows (P ++ D.map fun v => (x, v))) (.v (.int x)) (.v (colD rows x)) y7 y8) (rgI m) (fun D v env s' hv hi => by
    obtain ⟨rfl, y7, y8, rfl⟩ := hi
    have e2 : P ++ (D ++ [v]).map (fun v => (x, v)) = (P ++ D.map fun v => (x, v)) ++ [(x, v)] := by simp
    rw [e2, bestL_snoc]
    generalize P ++ D.map (fun v => (x, v)) = P2
    refine ⟨_, envL X M seen (bstep rows (bestL rows P2) (x, v)) (.v (.int x)) (.v (colD rows x)) (.v (.int v)) (.v (.int (cntP rows (x, v)))), s', by simp [envL]; rfl, ?_, rfl, _, _, rfl⟩
    have ct := ct_col (rows := rows) (x := x) (v := v)
    have sq : seqD (colD rows x) = true := rfl
    unfold bstep
    by_cases hlt : (bestL rows P2).1 < cntP rows (x, v)
    · rw [if_pos hlt]
      unfold b_bv envL
      simp [sq, ct, bD_0, hlt, lenR]
      rfl
    · rw [if_neg hlt]
      unfold b_bv envL
      simp [sq, ct, bD_0, hlt]) (env := envL X M seen (bestL rows P) (.v (.int x)) (.v (colD rows x)) z6 z7) (s := s) ⟨rfl, z6, z7, by simp⟩
  subst es
  exact ⟨y7, y8, e1⟩
theorem r_law_best {rs : List (List Int)} {t0 : List Int} {seen : Int} (eM : M = m) (eN : N = k) (hm : m ≤ 1000) (hk : k ≤ 1000) (hr : rs.length ≤ 64) (h0 : t0.length = k) (hl : ∀ t ∈ rs, t.length = k) :
    run n f_law_best [.d (.list ((t0 :: rs).map tupI)), .d (.int M), .d (.int seen)] s = .ok (bD (bestL rs (besideN k m seen))) s := by
  have i0 : idxD (.list ((t0 :: rs).map tupI)) (.int 0) = some (tupI t0) := by rw [List.map_cons]; exact idxD_l0
  have l0 := len_tupI (t := t0) (N := N) (by omega)
  have sl : slcD (.list ((t0 :: rs).map tupI)) (some 1) none = some (.list (rs.map tupI)) := by
    show some (PyData.list (PV.cutD ((t0 :: rs).map tupI) (some 1) none)) = _
    rw [cut_from (a := 1) (m := 1) rfl (by simp)]
    rfl
  obtain ⟨X, eX⟩ : ∃ X, X = PyData.list ((t0 :: rs).map tupI) := ⟨_, rfl⟩
  rw [← eX] at i0 sl ⊢
  rw [run, run_eq (f := f_law_best) (body := b_law_best) rfl ⟨rfl, by decide⟩, b_law_best]
  obtain ⟨env', s', e1, es, z5, z6, z7, z8, rfl⟩ := loop_listC (tg := .nm 4) (u := .int) (body := evSs (tb n) glob subX fuel b_bx) (Inv := fun D env (s' : HS) => s' = s ∧ ∃ z5 z6 z7 z8, env = envL X M seen (bestL rs (bsL m seen D)) z5 z6 z7 z8) (rgI k) (fun D x rest env s' eL hi => by
    obtain ⟨rfl, z5, z6, z7, z8, rfl⟩ := hi
    have hx : x ∈ rgI k := by rw [eL]; exact List.mem_append_right _ List.mem_cons_self
    have hx := rgI_mem.mp hx
    have e2 : bsL m seen (D ++ [x]) = bsL m seen D ++ if x == seen then [] else (rgI m).map fun v => (x, v) := by
      unfold bsL
      rw [List.flatMap_append, List.flatMap_cons, List.flatMap_nil, List.append_nil]
    rw [e2]
    cases e : x == seen with
    | true =>
      rw [if_pos rfl, List.append_nil]
      refine ⟨_, envL X M seen (bestL rs (bsL m seen D)) (.v (.int x)) z6 z7 z8, s', by simp [envL]; rfl, .inr ?_, rfl, _, _, _, _, rfl⟩
      unfold b_bx envL
      simp [e]
    | false =>
      rw [if_neg (by decide)]
      obtain ⟨y7, y8, e3⟩ := bv_loop (n := n) (s := s') (m := m) (M := M) (rows := rs) (X := X) (x := x) (seen := seen) (P := bsL m seen D) (z6 := z7) (z7 := z8)
      refine ⟨_, envL X M seen (bestL rs (bsL m seen D ++ (rgI m).map fun v => (x, v))) (.v (.int x)) (.v (colD rs x)) y7 y8, s', by simp [envL]; rfl, .inl ?_, rfl, _, _, _, _, rfl⟩
      have hc : evE (tb n) glob (.comp (.idx (.var 8) (.var 4)) (.nm 8) .seq [.slc (.var 0) (some (.con (.int 1))) none] [] [8]) [.v X, .v (.int M), .v (.int seen), .v (bD (bestL rs (bsL m seen D))), .v (.int x), z6, z7, z8, .no] s' = .ok (colD rs x) s' := by
        unfold colD
        rw [List.map_map]
        refine comp_seq (ds := [.list (rs.map tupI)]) (u := tupI) (by simp [sl]) rfl (by omega) fun t ht => ?_
        rw [turn_nm (by simp)]
        have i1 := idx_tupI (t := t) (x := x) hx.1 (by rw [hl t ht]; exact hx.2)
        simp [turnK, i1]
      unfold b_bv envL at e3
      unfold b_bx b_bv envL
      simp [e, hc, evS_loop, srcD_rngR eM (show m ≤ 1000000 by omega), e3]) (env := envL X M seen (bestL rs (bsL m seen [])) .no .no .no .no) (s := s) ⟨rfl, .no, .no, .no, .no, rfl⟩
  subst es
  rw [← bsL_eq] at e1
  have b0 : bD (bestL rs (bsL m seen [])) = .tuple [.int (-1), .none] := rfl
  unfold b_bx b_bv envL at e1
  rw [b0] at e1
  simp [startE_eq, i0, l0, lenR, evS_loop, srcD_rngR eN (show k ≤ 1000000 by omega), e1]
def b_fo : List St' := [.asg (.nm 6) (.call "_law_best" [.bop .add (.lst [.idx (.var 0) (.con (.int 0))]) (.comp (.var 7) (.nm 7) .seq [.var 0] [.e (.cmp .eq (.idx (.var 7) (.var 2)) (.var 3))] [7]), .var 1, .var 2]),
     .asg (.nm 4) (.bop .add (.var 4) (.idx (.var 6) (.con (.int 0)))),
     .app 5 (.idx (.var 6) (.con (.int 1)))]
def fgD (k m : Nat) (rows : List (List Int)) (seen : Int) : PyData := .tuple [.int (sumB k m rows seen), .tuple ((rgI m).map fun v => pO (bestB k m rows seen v).2)]
theorem r_law_forger {seen : Int} (eM : M = m) (h : FamOk m k rows) (hs : 0 ≤ seen ∧ seen < (k : Int)) : run (n + 1) f_law_forger [.d (FamD rows), .d (.int M), .d (.int seen)] s = .ok (fgD k m rows seen) s := by
  have h2 := h.m32
  have h4 := h.n32
  have h6 := h.k64
  obtain ⟨N, eN⟩ : ∃ N : Int, N = (k : Int) := ⟨_, rfl⟩
  obtain ⟨t0, i0, l0⟩ := first_len h eN
  have lt0 : t0.length = k := by
    have := (len_tupI (t := t0) rfl).symm.trans l0
    simp at this
    omega
  obtain ⟨env', s', e1, z3, z6, rfl, rfl⟩ := loop_map (tg := .nm 3) (u := .int) (r := m) (body := evSs (tb (n + 1)) glob subX fuel b_fo)
    (Inv := fun i env (s' : HS) => ∃ z3 z6, env = [.v (FamD rows), .v (.int M), .v (.int seen), z3, .v (.int (sumI i fun v => (bestB k m rows seen v).1)), .own ((rgI i).map fun v => pO (bestB k m rows seen v).2), z6, .no] ∧ s' = s) (fun i env s' hi hv => by
      obtain ⟨z3, z6, rfl, rfl⟩ := hv
      obtain ⟨I, eI⟩ : ∃ I : Int, I = (i : Int) := ⟨_, rfl⟩
      rw [← eI]
      have hc : evE (tb (n + 1)) glob (.comp (.var 7) (.nm 7) .seq [.var 0] [.e (.cmp .eq (.idx (.var 7) (.var 2)) (.var 3))] [7]) [.v (FamD rows), .v (.int M), .v (.int seen), .v (.int I), .v (.int (sumI i fun v => (bestB k m rows seen v).1)), .own ((rgI i).map fun v => pO (bestB k m rows seen v).2), z6, .no] s' = .ok (.list ((rows.filter fun t => atL t seen == I).map tupI)) s' := by
        refine ev_comp (ds := [FamD rows]) (s1 := s') (items := rows.map tupI) (by simp) src_fam (by rw [List.length_map]; omega) ?_
        refine filtM_flt fun t ht => ?_
        rw [turn_nm (by simp)]
        have i1 := (h.at ht (x := seen) hs.1 hs.2).1
        cases hb : atL t seen == I <;> simp [turnK, i1, hb]
      have hf : (rows.filter fun t => atL t seen == I).length ≤ rows.length := List.length_filter_le _ _
      have ha : bopD .add (.list [tupI t0]) (.list ((rows.filter fun t => atL t seen == I).map tupI)) = some (.list ((t0 :: rows.filter fun t => atL t seen == I).map tupI)) := by
        rw [bopD_addL (by rw [List.length_map, List.length_singleton]; omega)]
        rfl
      have f := r_law_best (n := n) (s := s') (rs := rows.filter fun t => atL t seen == I) (t0 := t0) (seen := seen) eM eN (by omega) (by omega) (by omega) lt0 (fun t ht => (h.row t (List.mem_filter.mp ht).1).1)
      have eb : bestB k m rows seen I = bestL (rows.filter fun t => atL t seen == I) (besideN k m seen) := rfl
      rw [← eb] at f
      have es : sumI (i + 1) (fun v => (bestB k m rows seen v).1) = sumI i (fun v => (bestB k m rows seen v).1) + (bestB k m rows seen I).1 := by rw [sumI_succ, eI]
      have el : ((rgI (i + 1)).map fun v => pO (bestB k m rows seen v).2) = ((rgI i).map fun v => pO (bestB k m rows seen v).2) ++ [pO (bestB k m rows seen I).2] := by rw [rgI_succ, List.map_append, eI]; rfl
      have lL : ((rgI i).map fun v => pO (bestB k m rows seen v).2).length < 16777216 := by rw [rgI_map_len]; omega
      rw [es, el]
      obtain ⟨B, eB⟩ : ∃ B, B = bestB k m rows seen I := ⟨_, rfl⟩
      obtain ⟨S, eS⟩ : ∃ S, S = sumI i fun v => (bestB k m rows seen v).1 := ⟨_, rfl⟩
      obtain ⟨PL, eP⟩ : ∃ S, S = (rgI i).map fun v => pO (bestB k m rows seen v).2 := ⟨_, rfl⟩
      rw [← eS, ← eP] at hc
      rw [← eB] at f
      rw [← eP] at lL
      rw [← eB, ← eS, ← eP]
      obtain ⟨FL, eF⟩ : ∃ S, S = (rows.filter fun t => atL t seen == I).map tupI := ⟨_, rfl⟩
      rw [← eF] at hc ha
      obtain ⟨GL, eG⟩ : ∃ S, S = (t0 :: rows.filter fun t => atL t seen == I).map tupI := ⟨_, rfl⟩
      rw [← eG] at ha f
      refine ⟨[.v (FamD rows), .v (.int M), .v (.int seen), .v (.int I), .v (.int S), .own PL, z6, .no], _, s', by simp, ?_, .v (.int I), .v (bD B), rfl, rfl⟩
      unfold b_fo
      simp [i0, hc, ha, tb_law_best, f, bD_0, bD_1, lL]) (env := [.v (FamD rows), .v (.int M), .v (.int seen), .no, .v (.int 0), .own [], .no, .no]) (s := s) ⟨.no, .no, rfl, rfl⟩
  unfold fgD sumB
  obtain ⟨PL, eP⟩ : ∃ S, S = (rgI m).map fun v => pO (bestB k m rows seen v).2 := ⟨_, rfl⟩
  rw [← eP] at e1 ⊢
  unfold b_fo at e1
  rw [run, run_eq (f := f_law_forger) (body := b_law_forger) rfl ⟨rfl, by decide⟩, b_law_forger]
  simp [startE_eq, evS_loop, srcD_rngR eM (show m ≤ 1000000 by omega), e1]
end
end K64
set_option Elab.async false
set_option linter.all false
set_option maxRecDepth 100000
set_option maxHeartbeats 4000000
namespace K64
open PySem PySem.Spec PyProof.Rows L2 PV
variable {s : HS} {n : Nat}
/-! ### plain laws of the best pairs -/
section
variable {m k : Nat} {M N K : Int} {rows : List (List Int)}
theorem rev_ind {α : Type} {P : List α → Prop} (h0 : P []) (h1 : ∀ L p, P L → P (L ++ [p])) (l : List α) : P l := by
  have : ∀ r : List α, P r.reverse := fun r => by
    induction r with
    | nil => exact h0
    | cons x q ih =>
      rw [List.reverse_cons]
      exact h1 _ _ ih
  have h := this l.reverse
  rw [List.reverse_reverse] at h
  exact h
theorem sumI_zeros {r : Nat} {f : Int → Int} (h : ∀ i : Int, 0 ≤ i → i < r → f i = 0) : sumI r f = 0 := by
  rw [sumI_congr (g := fun _ => 0) h, sumI_const, Int.mul_zero]
theorem sumI_one {r : Nat} {v0 c : Int} (h0 : 0 ≤ v0) (h1 : v0 < (r : Int)) : sumI r (fun v => if v = v0 then c else 0) = c := by
  induction r with
  | zero => omega
  | succ r ih =>
    rw [sumI_succ]
    by_cases e : v0 = (r : Int)
    · rw [sumI_zeros fun i _ i1 => if_neg (by omega), if_pos e.symm, Int.zero_add]
    · rw [ih (by omega), if_neg (by omega), Int.add_zero]
theorem sumI_le {r : Nat} {f g : Int → Int} (h : ∀ i : Int, 0 ≤ i → i < r → f i ≤ g i) : sumI r f ≤ sumI r g := by
  induction r with
  | zero => exact Int.le_refl _
  | succ r ih =>
    have h1 := ih fun i h0 h1 => h i h0 (by omega)
    have h2 := h r (by omega) (by omega)
    rw [sumI_succ, sumI_succ]
    omega
theorem best_spec {rs : List (List Int)} (ps : List (Int × Int)) : (ps = [] ∧ bestL rs ps = (-1, none)) ∨ ∃ p ∈ ps, bestL rs ps = (cntP rs p, some p) ∧ ∀ q ∈ ps, cntP rs q ≤ cntP rs p := by
  refine rev_ind (P := fun ps => (ps = [] ∧ bestL rs ps = (-1, none)) ∨ ∃ p ∈ ps, bestL rs ps = (cntP rs p, some p) ∧ ∀ q ∈ ps, cntP rs q ≤ cntP rs p) (.inl ⟨rfl, rfl⟩) (fun L x ih => .inr ?_) ps
  rw [bestL_snoc]
  unfold bstep
  rcases ih with ⟨e, h⟩ | ⟨p, hp, h, hq⟩
  · have hx := (cntP_in (rows := rs) (p := x)).1
    rw [h, if_pos (show (-1 : Int) < cntP rs x by omega)]
    refine ⟨x, List.mem_append_right _ List.mem_cons_self, rfl, fun q hq => ?_⟩
    rw [e, List.nil_append, List.mem_singleton] at hq
    rw [hq]
    exact Int.le_refl _
  · rw [h]
    by_cases hlt : cntP rs p < cntP rs x
    · rw [if_pos hlt]
      refine ⟨x, List.mem_append_right _ List.mem_cons_self, rfl, fun q hq' => ?_⟩
      rcases List.mem_append.mp hq' with hq' | hq'
      · exact Int.le_trans (hq q hq') (Int.le_of_lt hlt)
      · rw [List.mem_singleton.mp hq']
        exact Int.le_refl _
    · rw [if_neg hlt]
      refine ⟨p, List.mem_append_left _ hp, rfl, fun q hq' => ?_⟩
      rcases List.mem_append.mp hq' with hq' | hq'
      · exact hq q hq'
      · rw [List.mem_singleton.mp hq']
        exact Int.not_lt.mp hlt
theorem best_some {rs : List (List Int)} {ps : List (Int × Int)} (h : ps ≠ []) : ∃ p ∈ ps, bestL rs ps = (cntP rs p, some p) ∧ ∀ q ∈ ps, cntP rs q ≤ cntP rs p := by
  rcases best_spec (rs := rs) ps with ⟨e, _⟩ | h'
  · exact absurd e h
  · exact h'
theorem beside_has {seen : Int} (h : FamOk m k rows) : ∃ x : Int, (0 ≤ x ∧ x < (k : Int)) ∧ x ≠ seen ∧ ∀ v : Int, 0 ≤ v → v < m → (x, v) ∈ besideN k m seen := by
  have hk := h.n2
  refine ⟨if seen = 0 then 1 else 0, ?_, ?_, fun v v0 v1 => beside_mem.mpr ⟨⟨?_, v0, v1⟩, ?_⟩⟩ <;> split <;> first | omega | (show (1 : Int) ≠ seen; omega) | (show (0 : Int) ≠ seen; omega) | (show _ ∧ _; exact ⟨by show (0 : Int) ≤ 1; decide, by show (1 : Int) < k; omega⟩) | (show _ ∧ _; exact ⟨by show (0 : Int) ≤ 0; decide, by show (0 : Int) < k; omega⟩)
theorem beside_ne {seen : Int} (h : FamOk m k rows) : besideN k m seen ≠ [] := fun e => by
  obtain ⟨x, _, _, hx⟩ := beside_has (seen := seen) h
  have := hx 0 (Int.le_refl _) (by have := h.m2; omega)
  rw [e] at this
  cases this
/-- all rows, mark by mark -/
theorem part_count {seen : Int} {P : List Int → Bool} : ∀ {rs : List (List Int)}, (∀ t ∈ rs, 0 ≤ atL t seen ∧ atL t seen < (m : Int)) → ((rs.countP P : Nat) : Int) = sumI m fun v => (((rs.filter fun t => atL t seen == v).countP P : Nat) : Int)
  | [], _ => (sumI_zeros fun _ _ _ => rfl).symm
  | t :: r, h => by
    have ih := part_count (P := P) fun u hu => h u (List.mem_cons_of_mem _ hu)
    have ht := h t List.mem_cons_self
    have e : ∀ v : Int, ((((t :: r).filter fun t => atL t seen == v).countP P : Nat) : Int) = (((r.filter fun t => atL t seen == v).countP P : Nat) : Int) + if v = atL t seen then (if P t = true then 1 else 0) else 0 := fun v => by
      rw [List.filter_cons]
      by_cases hv : v = atL t seen
      · rw [if_pos hv, if_pos (beq_iff_eq.mpr hv.symm), List.countP_cons]
        split <;> omega
      · rw [if_neg hv, if_neg (by rw [beq_iff_eq]; exact fun z => hv z.symm), Int.add_zero]
    rw [sumI_congr (g := fun v => (((r.filter fun t => atL t seen == v).countP P : Nat) : Int) + if v = atL t seen then (if P t = true then 1 else 0) else 0) fun v _ _ => e v, sumI_add, sumI_one ht.1 ht.2, ← ih, List.countP_cons]
    split <;> omega
theorem FamOk.vals (h : FamOk m k rows) {x : Int} (hx : 0 ≤ x ∧ x < (k : Int)) : ∀ t ∈ rows, 0 ≤ atL t x ∧ atL t x < (m : Int) := fun t ht => (h.at ht hx.1 hx.2).2
theorem cnt_all {rs : List (List Int)} {x : Int} (h : ∀ t ∈ rs, 0 ≤ atL t x ∧ atL t x < (m : Int)) : sumI m (fun v => cntP rs (x, v)) = (rs.length : Int) := by
  have := part_count (P := fun _ => true) h
  rw [List.countP_true] at this
  rw [this]
  refine sumI_congr fun v _ _ => ?_
  show ((rs.countP fun t => atL t x == v : Nat) : Int) = _
  rw [List.countP_eq_length_filter]
/-- the best of some pairs is not below the mean -/
theorem best_mean {rs : List (List Int)} {x : Int} {ps : List (Int × Int)} (h : ∀ t ∈ rs, 0 ≤ atL t x ∧ atL t x < (m : Int)) (hm : 0 < m) (hp : ∀ v : Int, 0 ≤ v → v < m → (x, v) ∈ ps) : (rs.length : Int) ≤ (bestL rs ps).1 * m := by
  obtain ⟨p, _, e, hq⟩ := best_some (rs := rs) (ps := ps) fun z => by
    have := hp 0 (Int.le_refl _) (by omega)
    rw [z] at this
    cases this
  rw [e, ← cnt_all h]
  have := sumI_le (r := m) (f := fun v => cntP rs (x, v)) (g := fun _ => cntP rs p) fun v v0 v1 => hq _ (hp v v0 v1)
  rw [sumI_const] at this
  rw [Int.mul_comm]
  exact this
theorem blind_mean (h : FamOk m k rows) : (rows.length : Int) ≤ (bestL rows (prN k m)).1 * m := by
  have hk := h.n2
  have hm := h.m2
  exact best_mean (x := 0) (h.vals (by omega)) (by omega) fun v v0 v1 => prN_mem.mpr ⟨⟨by show (0 : Int) ≤ 0; decide, by show (0 : Int) < k; omega⟩, v0, v1⟩
theorem seen_mean {seen : Int} (h : FamOk m k rows) (hs : 0 ≤ seen ∧ seen < (k : Int)) : (rows.length : Int) ≤ sumB k m rows seen * m := by
  have hm := h.m2
  obtain ⟨x, hx, _, hp⟩ := beside_has (seen := seen) h
  have e := part_count (P := fun _ => true) (h.vals hs)
  rw [List.countP_true] at e
  rw [e, Int.mul_comm]
  unfold sumB
  rw [← sumI_mul]
  refine sumI_le fun v v0 v1 => ?_
  rw [Int.mul_comm]
  exact best_mean (x := x) (fun t ht => h.vals hx t (List.mem_filter.mp ht).1) (by omega) hp
/-! with all pairs of values alike -/
theorem cnt_two {a b u v : Int} : cntP (rows.filter fun t => atL t a == u) (b, v) = (((pairL rows a b).count [u, v] : Nat) : Int) := by
  unfold cntP pairL
  rw [List.countP_filter, List.count, List.countP_map]
  congr 1
  refine List.countP_congr fun t _ => ?_
  show ((atL t b == v && atL t a == u) = true) ↔ (([atL t a, atL t b] == [u, v]) = true)
  rw [Bool.and_eq_true, beq_iff_eq, beq_iff_eq, beq_iff_eq]
  constructor
  · rintro ⟨h1, h2⟩
    rw [h1, h2]
  · intro e
    exact ⟨(List.cons.inj (List.cons.inj e).2).1, (List.cons.inj e).1⟩
theorem pair_swap {a b u v : Int} : (pairL rows a b).count [u, v] = (pairL rows b a).count [v, u] := by
  unfold pairL
  rw [List.count, List.count, List.countP_map, List.countP_map]
  refine List.countP_congr fun t _ => ?_
  show (([atL t a, atL t b] == [u, v]) = true) ↔ (([atL t b, atL t a] == [v, u]) = true)
  rw [beq_iff_eq, beq_iff_eq]
  constructor
  · intro e
    rw [(List.cons.inj e).1, (List.cons.inj (List.cons.inj e).2).1]
  · intro e
    rw [(List.cons.inj e).1, (List.cons.inj (List.cons.inj e).2).1]
theorem ev_cnt (h : FamOk m k rows) (he : isEv rows m k = true) {a b u v : Int} (ha : 0 ≤ a ∧ a < (k : Int)) (hb : 0 ≤ b ∧ b < (k : Int)) (hne : b ≠ a) (hu : 0 ≤ u ∧ u < (m : Int)) (hv : 0 ≤ v ∧ v < (m : Int)) : cntP (rows.filter fun t => atL t a == u) (b, v) * ((m : Int) * m) = rows.length := by
  rw [cnt_two]
  have key := (isEv_iff h).mp he
  rcases Int.lt_or_gt_of_ne hne with hlt | hlt
  · rw [pair_swap, ← Int.natCast_mul, ← Int.natCast_mul, key b a v u hb.1 hlt ha.2 hv.1 hv.2 hu.1 hu.2]
  · rw [← Int.natCast_mul, ← Int.natCast_mul, key a b u v ha.1 hlt hb.2 hu.1 hu.2 hv.1 hv.2]
theorem ev_seen {seen : Int} (h : FamOk m k rows) (he : isEv rows m k = true) (hs : 0 ≤ seen ∧ seen < (k : Int)) : sumB k m rows seen * m = rows.length := by
  have hm := h.m2
  have e : ((m : Int) * m) * sumB k m rows seen = m * (rows.length : Int) := by
    unfold sumB
    rw [← sumI_mul, sumI_congr (g := fun _ => (rows.length : Int)) fun v v0 v1 => ?_, sumI_const]
    obtain ⟨p, hp, e, _⟩ := best_some (rs := rows.filter fun t => atL t seen == v) (beside_ne (seen := seen) h)
    have hp := beside_mem.mp hp
    show (m : Int) * m * (bestL (rows.filter fun t => atL t seen == v) (besideN k m seen)).1 = _
    rw [e, Int.mul_comm]
    exact ev_cnt h he hs hp.1.1 hp.2 ⟨v0, v1⟩ hp.1.2
  rw [Int.mul_assoc] at e
  have := Int.eq_of_mul_eq_mul_left (show (m : Int) ≠ 0 by omega) e
  rw [Int.mul_comm]
  exact this
theorem ev_blind (h : FamOk m k rows) (he : isEv rows m k = true) : (bestL rows (prN k m)).1 * m = rows.length := by
  have hm := h.m2
  have hk := h.n2
  obtain ⟨p, hp, e, _⟩ := best_some (rs := rows) (ps := prN k m) fun z => by
    have : ((0 : Int), (0 : Int)) ∈ prN k m := prN_mem.mpr ⟨⟨by show (0 : Int) ≤ 0; decide, by show (0 : Int) < k; omega⟩, by show (0 : Int) ≤ 0; decide, by show (0 : Int) < m; omega⟩
    rw [z] at this
    cases this
  have hp := prN_mem.mp hp
  rw [e]
  obtain ⟨x, hx, hne, _⟩ := beside_has (seen := p.1) h
  have e1 : cntP rows p = sumI m fun v => cntP (rows.filter fun t => atL t x == v) p := part_count (P := fun t => atL t p.1 == p.2) (h.vals hx)
  have e2 : ((m : Int) * m) * cntP rows p = m * (rows.length : Int) := by
    rw [e1, ← sumI_mul, sumI_congr (g := fun _ => (rows.length : Int)) fun v v0 v1 => ?_, sumI_const]
    rw [Int.mul_comm]
    exact ev_cnt h he hx hp.1 (fun z => hne z.symm) ⟨v0, v1⟩ hp.2
  rw [Int.mul_assoc] at e2
  have := Int.eq_of_mul_eq_mul_left (show (m : Int) ≠ 0 by omega) e2
  show cntP rows p * m = _
  rw [Int.mul_comm]
  exact this
/-! the lines that rise -/
theorem line_seen {p : Nat} (hp : isP p) : ∀ x ∈ rgI p, sumB p p (linesF p p 1) x * ((p : Int) - 1) = ((linesF p p 1).length : Int) := by
  rcases hp with rfl | rfl | rfl | rfl <;> decide +kernel
/-! the best forger -/
def nmB (k m : Nat) (rows : List (List Int)) (seen v : Int) : Int × Int := (bestB k m rows seen v).2.getD (0, 0)
theorem nmB_spec (h : FamOk m k rows) {seen v : Int} : (bestB k m rows seen v).2 = some (nmB k m rows seen v) ∧ nmB k m rows seen v ∈ besideN k m seen ∧ (bestB k m rows seen v).1 = cntP (rows.filter fun t => atL t seen == v) (nmB k m rows seen v) := by
  obtain ⟨p, hp, e, _⟩ := best_some (rs := rows.filter fun t => atL t seen == v) (beside_ne (seen := seen) h)
  have e : bestB k m rows seen v = (cntP (rows.filter fun t => atL t seen == v) p, some p) := e
  have e2 : nmB k m rows seen v = p := by unfold nmB; rw [e]; rfl
  rw [e2, e]
  exact ⟨rfl, hp, rfl⟩
theorem nmB_ok (h : FamOk m k rows) {seen : Int} : NmOk m k seen (nmB k m rows seen) := fun v _ _ => by
  have := beside_mem.mp (nmB_spec h (seen := seen) (v := v)).2.1
  exact ⟨this.1.1, this.2, this.1.2⟩
theorem nmB_cnt (h : FamOk m k rows) {seen : Int} (hs : 0 ≤ seen ∧ seen < (k : Int)) : cntN rows (nmB k m rows seen) seen = sumB k m rows seen := by
  have e := part_count (P := hitB (nmB k m rows seen) seen) (h.vals hs)
  show ((rows.countP (hitB (nmB k m rows seen) seen) : Nat) : Int) = _
  rw [e]
  unfold sumB
  refine sumI_congr fun v v0 v1 => ?_
  rw [(nmB_spec h (seen := seen) (v := v)).2.2]
  unfold cntP
  congr 1
  refine List.countP_congr fun t ht => ?_
  have ht := beq_iff_eq.mp (List.mem_filter.mp ht).2
  unfold hitB
  rw [ht]
theorem fg_names (h : FamOk m k rows) {seen : Int} : ((rgI m).map fun v => pO (bestB k m rows seen v).2) = NmD m (nmB k m rows seen) := by
  unfold NmD
  refine List.map_congr_left fun v _ => ?_
  rw [(nmB_spec h (seen := seen) (v := v)).1]
  rfl
end
end K64
set_option Elab.async false
set_option linter.all false
set_option maxRecDepth 100000
set_option maxHeartbeats 4000000
namespace K64
open PySem PySem.Spec PyProof.Rows L2 PV
variable {s : HS} {n : Nat}
/-! ### the law's looks -/
theorem tb_law_pairwise : tb (n + 1) "_law_pairwise" = some (run n f_law_pairwise) := tb_of (by decide +kernel) rfl
theorem tb_law_blind : tb (n + 1) "_law_blind" = some (run n f_law_blind) := tb_of (by decide +kernel) rfl
theorem tb_law_seen : tb (n + 1) "_law_seen" = some (run n f_law_seen) := tb_of (by decide +kernel) rfl
section
variable {m k : Nat} {M N K : Int} {rows : List (List Int)}
/-! evenly, by the law -/
def prL (rows : List (List Int)) (m : Nat) (a b : Int) : List Int := rows.map fun t => atL t a * m + atL t b
def evQ (rows : List (List Int)) (m : Nat) (a b q : Int) : Bool := decide ((((prL rows m a b).count q : Nat) : Int) * m * m = (rows.length : Int))
def evB (rows : List (List Int)) (m k : Nat) : Bool := (rgI k).all fun a => (rgI a.toNat).all fun b => (rgI (m * m)).all (evQ rows m a b)
theorem prL_count (h : FamOk m k rows) {a b u v : Int} (ha : 0 ≤ a ∧ a < (k : Int)) (hb : 0 ≤ b ∧ b < (k : Int)) (hu : 0 ≤ u ∧ u < (m : Int)) (hv : 0 ≤ v ∧ v < (m : Int)) : (prL rows m a b).count (u * m + v) = (pairL rows b a).count [v, u] := by
  unfold prL pairL
  rw [List.count, List.count, List.countP_map, List.countP_map]
  refine List.countP_congr fun t ht => ?_
  have h1 := (h.at ht ha.1 ha.2).2
  have h2 := (h.at ht hb.1 hb.2).2
  show ((atL t a * m + atL t b == u * m + v) = true) ↔ (([atL t b, atL t a] == [v, u]) = true)
  rw [beq_iff_eq, beq_iff_eq]
  constructor
  · intro e
    have hm : (0 : Int) < m := by omega
    have e1 : (atL t a * m + atL t b) / m = atL t a := by
      rw [Int.add_comm, Int.add_mul_ediv_right _ _ (by omega), Int.ediv_eq_zero_of_lt h2.1 h2.2, Int.zero_add]
    have e2 : (u * m + v) / (m : Int) = u := by
      rw [Int.add_comm, Int.add_mul_ediv_right _ _ (by omega), Int.ediv_eq_zero_of_lt hv.1 hv.2, Int.zero_add]
    have e3 : atL t a = u := by rw [← e1, e, e2]
    rw [e3] at e ⊢
    rw [show atL t b = v by omega]
  · intro e
    have e1 := (List.cons.inj e).1
    have e2 := (List.cons.inj (List.cons.inj e).2).1
    rw [e1, e2]
theorem evB_eq (h : FamOk m k rows) : evB rows m k = isEv rows m k := by
  have hm := h.m2
  have cast : ∀ c : Nat, ((c : Int) * m * m = (rows.length : Int)) ↔ c * (m * m) = rows.length := fun c => by
    rw [Int.mul_assoc, ← Int.natCast_mul, ← Int.natCast_mul]
    exact Int.ofNat_inj
  have h1 : evB rows m k = true ↔ isEv rows m k = true := by
    rw [isEv_iff h]
    unfold evB evQ
    simp only [List.all_eq_true, decide_eq_true_eq, rgI_mem]
    constructor
    · intro hh a b u v a0 ab b1 u0 u1 v0 v1
      have q0 : 0 ≤ v * (m : Int) + u := by have := Int.mul_nonneg v0 (show (0 : Int) ≤ m by omega); omega
      have q1 : v * (m : Int) + u < ((m * m : Nat) : Int) := by
        have := Int.mul_le_mul_of_nonneg_right (show v + 1 ≤ (m : Int) by omega) (show (0 : Int) ≤ m by omega)
        rw [Int.natCast_mul]
        rw [Int.add_mul] at this
        omega
      have := hh b ⟨by omega, b1⟩ a ⟨a0, by omega⟩ (v * m + u) ⟨q0, q1⟩
      rw [prL_count h ⟨by omega, b1⟩ ⟨a0, by omega⟩ ⟨v0, v1⟩ ⟨u0, u1⟩] at this
      exact (cast _).mp this
    · intro hh a ha b hb q hq
      have hmm : (0 : Int) < m := by omega
      have d1 := Int.emod_add_mul_ediv q m
      have d2 := Int.emod_nonneg q (show (m : Int) ≠ 0 by omega)
      have d3 := Int.emod_lt_of_pos q hmm
      have d4 : 0 ≤ q / m := Int.ediv_nonneg hq.1 (by omega)
      have d5 : q / m < (m : Int) := Int.ediv_lt_of_lt_mul hmm (by rw [← Int.natCast_mul]; exact hq.2)
      have e : q = q / m * m + q % m := by rw [Int.mul_comm]; omega
      rw [e, prL_count h ha ⟨hb.1, by omega⟩ ⟨d4, d5⟩ ⟨d2, d3⟩]
      exact (cast _).mpr (hh b a (q % m) (q / m) hb.1 (by omega) ha.2 d2 d3 d4 d5)
  cases e1 : isEv rows m k with
  | true => exact h1.mpr e1
  | false =>
    cases e2 : evB rows m k with
    | false => rfl
    | true => rw [h1.mp e2] at e1; cases e1
theorem same_pO {k : Nat} (p : Option (Int × Int)) : Same1 (k + 1) (pO p) := by
  cases p with
  | none => exact .non
  | some p =>
    refine .tup (fun x hx => ?_) (by simp)
    simp only [List.mem_cons, List.not_mem_nil, or_false] at hx
    rcases hx with rfl | rfl
    · exact .int _
    · exact .int _
theorem same_map {k r : Nat} {f : Int → PyData} (hr : r ≤ 1000000) (h : ∀ v, Same1 k (f v)) : Same1 (k + 1) (.tuple ((rgI r).map f)) := .tup (fun x hx => by
    obtain ⟨v, _, rfl⟩ := List.mem_map.mp hx
    exact h v) (by rw [List.length_map, rgI_len]; exact hr)
theorem count_list {L : List Int} {q : Int} : methD .count (.list (L.map .int)) [.int q] = some (.int ((L.count q : Nat) : Int)) := by
  rw [count_ints]
  rfl
def b_p2 : List St' := [.asg (.nm 4) (.comp (.bop .add (.bop .mul (.idx (.var 5) (.var 2)) (.var 1)) (.idx (.var 5) (.var 3))) (.nm 5) .seq [.var 0] [] [5]),
       .ifs (.not (.e (.prim .all [.comp (.cmp .eq (.bop .mul (.bop .mul (.meth .count (.var 4) [.var 6]) (.var 1)) (.var 1)) (.prim .len [.var 0])) (.nm 6) .rng1 [.bop .mul (.var 1) (.var 1)] [] [6]])))
         [.ret (.con (.bl false))]
         []]
theorem r_law_pairwise (eM : M = m) (h : FamOk m k rows) : run n f_law_pairwise [.d (FamD rows), .d (.int M)] s = .ok (.bool (evB rows m k)) s := by
  have h2 := h.m2
  have h32 := h.m32
  have hk := h.n32
  have h64 := h.k64
  obtain ⟨N, eN⟩ : ∃ N : Int, N = (k : Int) := ⟨_, rfl⟩
  obtain ⟨K, eK⟩ : ∃ K : Int, K = (rows.length : Int) := ⟨_, rfl⟩
  obtain ⟨Q, eQ⟩ : ∃ Q : Int, Q = M * M := ⟨_, rfl⟩
  have eQ' : Q = ((m * m : Nat) : Int) := by rw [eQ, eM, Int.natCast_mul]
  have hmm : m * m ≤ 32 * 32 := Nat.mul_le_mul h32 h32
  obtain ⟨t0, i0, l0⟩ := first_len h eN
  have lF := len_fam (rows := rows) eK
  have m1 : bopD .mul (.int M) (.int M) = some (.int Q) := by rw [bopD_mul (i := M) (j := M) (mulOk_r (by omega)), eQ]
  have lp := loop_all (s := s) (u := .int) (tg := .nm 2) (p := fun a => (rgI a.toNat).all fun b => (rgI (m * m)).all (evQ rows m a b)) (d := .bool false) (body := evSs (tb n) glob subX fuel [.loop (.nm 3) .rng1 [.var 2] b_p2])
    (In := fun env => ∃ z2 z3 z4, env = [.v (FamD rows), .v (.int M), z2, z3, z4, .no, .no]) (env := [.v (FamD rows), .v (.int M), .no, .no, .no, .no, .no]) (rgI k) (fun a ha env hv => by
      obtain ⟨z2, z3, z4, rfl⟩ := hv
      have ha := rgI_mem.mp ha
      have l2 := loop_all (s := s) (u := .int) (tg := .nm 3) (p := fun b => (rgI (m * m)).all (evQ rows m a b)) (d := .bool false) (body := evSs (tb n) glob subX fuel b_p2)
        (In := fun env => ∃ z3 z4, env = [.v (FamD rows), .v (.int M), .v (.int a), z3, z4, .no, .no]) (env := [.v (FamD rows), .v (.int M), .v (.int a), z3, z4, .no, .no]) (rgI a.toNat) (fun b hb env hv => by
          obtain ⟨z3, z4, rfl⟩ := hv
          have hb := rgI_mem.mp hb
          have c1 : evE (tb n) glob (.comp (.bop .add (.bop .mul (.idx (.var 5) (.var 2)) (.var 1)) (.idx (.var 5) (.var 3))) (.nm 5) .seq [.var 0] [] [5]) [.v (FamD rows), .v (.int M), .v (.int a), .v (.int b), z4, .no, .no] s = .ok (.list ((prL rows m a b).map .int)) s := by
            unfold prL
            rw [List.map_map]
            refine comp_seq (ds := [FamD rows]) (u := tupI) (L := rows) (by simp) rfl (by omega) fun t ht => ?_
            rw [turn_nm (by simp)]
            have i1 := (h.at ht (x := a) ha.1 ha.2).1
            have i2 := (h.at ht (x := b) hb.1 (by omega)).1
            have m4 := bopD_mul (mulOk_r (i := atL t a) (j := M) (by omega))
            rw [← eM]
            simp [turnK, i1, i2, m4]
          have c2 : evE (tb n) glob (.comp (.cmp .eq (.bop .mul (.bop .mul (.meth .count (.var 4) [.var 6]) (.var 1)) (.var 1)) (.prim .len [.var 0])) (.nm 6) .rng1 [.bop .mul (.var 1) (.var 1)] [] [6]) [.v (FamD rows), .v (.int M), .v (.int a), .v (.int b), .v (.list ((prL rows m a b).map .int)), .no, .no] s = .ok (.list ((rgI (m * m)).map fun q => .bool (evQ rows m a b q))) s := by
            refine comp_rng (R := Q) (by simp [m1]) eQ' (by omega) (by simp) fun q _ _ => ?_
            obtain ⟨C, eC⟩ : ∃ C : Int, C = (((prL rows m a b).count q : Nat) : Int) := ⟨_, rfl⟩
            have cn := count_list (L := prL rows m a b) (q := q)
            rw [← eC] at cn
            have m2 := bopD_mul (i := C) (j := M) (mulOk_r (by omega))
            have m3 := bopD_mul (i := C * M) (j := M) (mulOk_r (by omega))
            obtain ⟨P, eP⟩ : ∃ P, P = (prL rows m a b).map PyData.int := ⟨_, rfl⟩
            rw [← eP] at cn ⊢
            have sq : seqD (.list P) = true := rfl
            have eE : evQ rows m a b q = (C * M * M == K) := by
              unfold evQ
              rw [← eC, ← eM, ← eK]
              by_cases hz : C * M * M = K
              · rw [decide_eq_true hz, beq_iff_eq.mpr hz]
              · rw [decide_eq_false hz, beq_eq_false_iff_ne.mpr hz]
            rw [eE]
            simp [sq, cn, m2, m3, lF]
          have al := boolsD_map (fun q => evQ rows m a b q) (rgI (m * m))
          have ea : ((rgI (m * m)).map fun q => evQ rows m a b q).all id = (rgI (m * m)).all (evQ rows m a b) := by rw [List.all_map]; rfl
          obtain ⟨P, eP⟩ : ∃ P, P = (prL rows m a b).map PyData.int := ⟨_, rfl⟩
          rw [← eP] at c1 c2
          obtain ⟨P2, eP2⟩ : ∃ P, P = (rgI (m * m)).map fun q => PyData.bool (evQ rows m a b q) := ⟨_, rfl⟩
          rw [← eP2] at c2 al
          have al2 : primD .all [.list P2] = some (.bool ((rgI (m * m)).all (evQ rows m a b))) := by
            rw [primD_all, al, Option.map_some, ea]
          refine ⟨[.v (FamD rows), .v (.int M), .v (.int a), .v (.int b), z4, .no, .no], by simp, fun hy => ?_, fun hn => ?_⟩
          · rw [hy] at al2
            refine ⟨[.v (FamD rows), .v (.int M), .v (.int a), .v (.int b), .v (.list P), .no, .no], ?_, _, _, rfl⟩
            unfold b_p2
            simp [-primD_all, c1, c2, al2]
          · rw [hn] at al2
            unfold b_p2
            simp [-primD_all, c1, c2, al2]) ⟨_, _, rfl⟩
      refine ⟨[.v (FamD rows), .v (.int M), .v (.int a), z3, z4, .no, .no], by simp, fun hy => ?_, fun hn => ?_⟩
      · obtain ⟨env', e1, z3', z4', rfl⟩ := l2.1 hy
        refine ⟨_, ?_, .v (.int a), z3', z4', rfl⟩
        simp [evS_loop, srcD_rngR (show a = ((a.toNat : Nat) : Int) by omega) (show a.toNat ≤ 1000000 by omega), e1]
      · have e1 := l2.2 hn
        simp [evS_loop, srcD_rngR (show a = ((a.toNat : Nat) : Int) by omega) (show a.toNat ≤ 1000000 by omega), e1]) ⟨.no, .no, .no, rfl⟩
  rw [run, run_eq (f := f_law_pairwise) (body := b_law_pairwise) rfl ⟨rfl, by decide⟩, b_law_pairwise]
  unfold b_p2 at lp
  cases hb : evB rows m k with
  | false =>
    have l1 := lp.2 hb
    simp [startE_eq, i0, l0, evS_loop, srcD_rngR eN (show k ≤ 1000000 by omega), l1]
  | true =>
    obtain ⟨env', l1, z2, z3, z4, rfl⟩ := lp.1 hb
    simp [startE_eq, i0, l0, evS_loop, srcD_rngR eN (show k ≤ 1000000 by omega), l1]
theorem r_law_blind (eM : M = m) (h : FamOk m k rows) : run (n + 6) f_law_blind [.d (FamD rows), .d (.int M), .d (.bool (isEv rows m k))] s = .ok (.bool true) s := by
  have h2 := h.m2
  have h32 := h.m32
  have hk := h.n32
  have h1 := h.k1
  have h64 := h.k64
  obtain ⟨N, eN⟩ : ∃ N : Int, N = (k : Int) := ⟨_, rfl⟩
  obtain ⟨K, eK⟩ : ∃ K : Int, K = (rows.length : Int) := ⟨_, rfl⟩
  obtain ⟨t0, i0, l0⟩ := first_len h eN
  have lt0 : t0.length = k := by
    have := (len_tupI (t := t0) rfl).symm.trans l0
    simp at this
    omega
  have lF := len_fam (rows := rows) eK
  have f0 := r_law_best (n := n + 5) (s := s) (rs := rows) (t0 := t0) (seen := -1) eM eN (by omega) (by omega) h64 lt0 (fun t ht => (h.row t ht).1)
  rw [beside_all] at f0
  have ha : bopD .add (.list [tupI t0]) (.list (rows.map tupI)) = some (.list ((t0 :: rows).map tupI)) := by
    rw [bopD_addL (by rw [List.length_map, List.length_singleton]; omega)]
    rfl
  have li : primD .list [FamD rows] = some (.list (rows.map tupI)) := rfl
  have f1 := r_blind_share (n := n + 1) (s := s) eM h eK
  have f2 := r_blind_pair (n := n + 1) (s := s) eM h
  have mean := blind_mean h
  have evn := ev_blind h
  have bl := (bestL_in (rows := rows) (ps := prN k m))
  obtain ⟨B, eB⟩ : ∃ B, B = bestL rows (prN k m) := ⟨_, rfl⟩
  rw [← eB] at f0 f1 f2 mean evn bl
  have mm := bopD_mul (i := B.1) (j := M) (mulOk_r (by omega))
  have g := r_law_cut (n := n + 5) (s := s) (N := B.1) (D := K) (by omega) (by omega)
  have q := r_same (s := s) 2 (d := .tuple [frD B.1 K, pO B.2]) (same_two same_fr (same_pO B.2)) (n + 3)
  obtain ⟨b, eb⟩ : ∃ b, b = isEv rows m k := ⟨_, rfl⟩
  rw [← eb] at evn ⊢
  have nl : ¬ B.1 * M < K := by rw [eM, eK]; omega
  obtain ⟨FX, eFX⟩ : ∃ X, X = FamD rows := ⟨_, rfl⟩
  rw [← eFX] at i0 lF li f1 f2 ⊢
  obtain ⟨RL, eRL⟩ : ∃ X, X = rows.map tupI := ⟨_, rfl⟩
  rw [← eRL] at li ha
  obtain ⟨TL, eTL⟩ : ∃ X, X = (t0 :: rows).map tupI := ⟨_, rfl⟩
  rw [← eTL] at ha f0
  obtain ⟨FR, eFR⟩ : ∃ X, X = frD B.1 K := ⟨_, rfl⟩
  rw [← eFR] at f1 g q
  rw [run, run_eq (f := f_law_blind) (body := b_law_blind) rfl ⟨rfl, by decide⟩, b_law_blind]
  cases b with
  | false => simp [startE_eq, i0, li, ha, tb_law_best, f0, bD_0, bD_1, mm, lF, nl, tb_blind_share, f1, tb_blind_pair, f2, tb_law_cut, g, tb_law_same, q, lenR]
  | true =>
    have e1 : B.1 * M = K := by rw [eM, eK]; exact evn rfl
    simp [startE_eq, i0, li, ha, tb_law_best, f0, bD_0, bD_1, mm, lF, e1, tb_blind_share, f1, tb_blind_pair, f2, tb_law_cut, g, tb_law_same, q, lenR]
end
end K64
set_option Elab.async false
set_option linter.all false
set_option maxRecDepth 100000
set_option maxHeartbeats 4000000
namespace K64
open PySem PySem.Spec PyProof.Rows L2 PV
variable {s : HS} {n : Nat}
/-! ### one input seen -/
section
variable {m k : Nat} {M N K : Int} {rows : List (List Int)}
def kbL (rows : List (List Int)) (seen v : Int) : List Int := (rgI rows.length).filter fun i => atL (rwL rows i) seen == v
def b_nm : List St' := [.app 8 (.tup [.bop .mod (.prim .int [.bop .add (.bop .add (.var 3) (.con (.int 1))) (.call "_law_take" [.var 0, .bop .sub (.var 5) (.con (.int 1))])]) (.var 5), .call "_law_take" [.var 0, .var 2]])]
def b_mn : List St' := [.asg (.nm 12) (.idx (.var 8) (.idx (.var 11) (.var 3))),
     .asg (.nm 10) (.bop .add (.var 10) (.prim .int [.cmp .eq (.idx (.var 11) (.idx (.var 12) (.con (.int 0)))) (.idx (.var 12) (.con (.int 1)))]))]
def envS (rows : List (List Int)) (M seen N : Int) (due left sh nm z9 z10 z11 z12 : Sl) : PV.Env := [.hand, .v (FamD rows), .v (.int M), .v (.int seen), due, .v (.int N), left, sh, nm, z9, z10, z11, z12, .no, .no]
theorem sn_names {seen : Int} {due left sh z9 z10 z11 z12 : Sl} (ok : s.Ok) (eM : M = m) (eN : N = k) (h : FamOk m k rows) (hs : 0 ≤ seen ∧ seen < (k : Int)) :
    ∃ F y9 s', loopS (.nm 9) (evSs (tb (n + 1)) glob subX fuel b_nm) ((rgI m).map .int) (envS rows M seen N due left sh (.own []) z9 z10 z11 z12) s = .ok (.nx (envS rows M seen N due left sh (.own (NmD m F)) y9 z10 z11 z12)) s' ∧ s'.Ok ∧ NmOk m k seen F := by
  have h1 := h.m2
  have h2 := h.m32
  have h3 := h.n2
  have h4 := h.n32
  obtain ⟨F, z, s', e, hC, ok'⟩ := loop_app (P := fun s : HS => s.Ok) (k := 9) (body := evSs (tb (n + 1)) glob subX fuel b_nm) (Y := Int × Int) (F := pD) (C := fun _ p => (0 ≤ p.1 ∧ p.1 < (k : Int)) ∧ p.1 ≠ seen ∧ (0 ≤ p.2 ∧ p.2 < (m : Int))) (Z := Sl)
    (E := fun L z => envS rows M seen N due left sh (.own L) z z10 z11 z12) (r := m) (fun v L z s v0 v1 hl ok => by
    obtain ⟨t, s2, e2, t0, t1, ok2⟩ := take_all ok (N := N - 1) (by omega) (by omega)
    obtain ⟨y, s3, e3, y0, y1, ok3⟩ := take_all ok2 (N := M) (by omega) (by omega)
    have m0 := Int.emod_nonneg (seen + 1 + t) (show N ≠ 0 by omega)
    have m1 := Int.emod_lt_of_pos (seen + 1 + t) (show 0 < N by omega)
    have lL : L.length < 16777216 := by omega
    refine ⟨envS rows M seen N due left sh (.own L) (.v (.int v)) z10 z11 z12, ((seen + 1 + t) % N, y), .v (.int v), s3, by simp [envS], ?_, ⟨⟨m0, by omega⟩, fun z => ?_, y0, by omega⟩, ok3⟩
    · unfold envS b_nm
      simp [tb_law_take, e2, bopD_mod (show 0 < N by omega), e3, lenR, lL]
      rfl
    · have z : (seen + 1 + t) % N = seen := z
      have z2 : (seen + 1 + t) % N = seen % N := by rw [z, Int.emod_eq_of_lt hs.1 (by omega)]
      have z3 := Int.emod_eq_emod_iff_emod_sub_eq_zero.mp z2
      rw [show seen + 1 + t - seen = 1 + t by omega, Int.emod_eq_of_lt (by omega) (by omega)] at z3
      omega) (z := z9) (s := s) ok
  exact ⟨F, z, s', e, ok', fun v v0 v1 => hC v v0 v1⟩
theorem sn_many {seen : Int} {F : Int → Int × Int} {due left sh z9 z11 z12 : Sl} (h : FamOk m k rows) (hs : 0 ≤ seen ∧ seen < (k : Int)) (hF : NmOk m k seen F) :
    ∃ y11 y12, loopS (.nm 11) (evSs (tb n) glob subX fuel b_mn) (rows.map tupI) (envS rows M seen N due left sh (.own (NmD m F)) z9 (.v (.int 0)) z11 z12) s = .ok (.nx (envS rows M seen N due left sh (.own (NmD m F)) z9 (.v (.int (cntN rows F seen))) y11 y12)) s := by
  obtain ⟨env', s', e, y11, y12, rfl, rfl⟩ := loop_listP (tg := .nm 11) (u := tupI) (body := evSs (tb n) glob subX fuel b_mn)
    (Inv := fun D env (s' : HS) => ∃ y11 y12, env = envS rows M seen N due left sh (.own (NmD m F)) z9 (.v (.int ((D.countP (hitB F seen) : Nat) : Int))) y11 y12 ∧ s' = s) rows (fun D t rest env s' eL hv => by
      obtain ⟨y11, y12, rfl, rfl⟩ := hv
      have ht : t ∈ rows := by rw [eL]; exact List.mem_append_right _ List.mem_cons_self
      obtain ⟨g1, g2, g3⟩ := h.at ht hs.1 hs.2
      have g4 : idxD (.list (NmD m F)) (.int (atL t seen)) = some (pD (F (atL t seen))) := idxL (F := fun v => pD (F v)) g2 g3
      obtain ⟨a1, a2, a3⟩ := hF (atL t seen) g2 g3
      have g5 := (h.at ht a1.1 a1.2).1
      have p0 : idxD (pD (F (atL t seen))) (.int 0) = some (.int (F (atL t seen)).1) := rfl
      have p1 : idxD (pD (F (atL t seen))) (.int 1) = some (.int (F (atL t seen)).2) := rfl
      have ec : (((D ++ [t]).countP (hitB F seen) : Nat) : Int) = ((D.countP (hitB F seen) : Nat) : Int) + if hitB F seen t = true then 1 else 0 := by
        rw [List.countP_append, List.countP_singleton]
        split <;> omega
      rw [ec]
      obtain ⟨C, eC⟩ : ∃ C : Int, C = ((D.countP (hitB F seen) : Nat) : Int) := ⟨_, rfl⟩
      rw [← eC]
      refine ⟨envS rows M seen N due left sh (.own (NmD m F)) z9 (.v (.int C)) (.v (tupI t)) y12, envS rows M seen N due left sh (.own (NmD m F)) z9 (.v (.int (C + if hitB F seen t = true then 1 else 0))) (.v (tupI t)) (.v (pD (F (atL t seen)))), s', by simp [envS], ?_, _, _, rfl, rfl⟩
      have hd : hitB F seen t = (atL t (F (atL t seen)).1 == (F (atL t seen)).2) := rfl
      rw [hd]
      unfold envS b_mn
      cases e : (atL t (F (atL t seen)).1 == (F (atL t seen)).2) <;> simp [g1, g4, p0, p1, g5, e]) (env := envS rows M seen N due left sh (.own (NmD m F)) z9 (.v (.int 0)) z11 z12) (s := s) ⟨_, _, rfl, rfl⟩
  exact ⟨y11, y12, e⟩
theorem r_law_seen {seen : Int} (ok : s.Ok) (eM : M = m) (h : FamOk m k rows) (hs : 0 ≤ seen ∧ seen < (k : Int)) :
    ∃ s', run (n + 6) f_law_seen [.h, .d (FamD rows), .d (.int M), .d (.int seen), .d (fgD k m rows seen)] s = .ok (.bool true) s' ∧ s'.Ok := by
  have h2 := h.m2
  have h32 := h.m32
  have hk := h.n32
  have h1 := h.k1
  have h64 := h.k64
  obtain ⟨N, eN⟩ : ∃ N : Int, N = (k : Int) := ⟨_, rfl⟩
  obtain ⟨K, eK⟩ : ∃ K : Int, K = (rows.length : Int) := ⟨_, rfl⟩
  obtain ⟨t0, i0, l0⟩ := first_len h eN
  have lF := len_fam (rows := rows) eK
  have c0 : ∀ v : Int, ∀ z6 z14, evE (tb (n + 6)) glob (.comp (.var 13) (.nm 13) .rng1 [.prim .len [.var 1]] [.e (.cmp .eq (.idx (.idx (.var 1) (.var 13)) (.var 3)) (.var 9))] [13]) [.hand, .v (FamD rows), .v (.int M), .v (.int seen), .v (fgD k m rows seen), .v (.int N), z6, .no, .no, .v (.int v), .no, .no, .no, .no, z14] s = .ok (.list ((kbL rows seen v).map .int)) s := fun v z6 z14 => by
    unfold kbL
    refine comp_rngF (R := K) (by simp [lF]) eK (by omega) (by simp) (fun i i0 i1 => ?_) fun i _ _ _ => by simp
    have g1 := idx_fam (rows := rows) i0 i1
    have g2 := (h.at (rwL_mem i0 i1) hs.1 hs.2).1
    simp [g1, g2]
  have c1 : evE (tb (n + 6)) glob (.comp (.comp (.var 13) (.nm 13) .rng1 [.prim .len [.var 1]] [.e (.cmp .eq (.idx (.idx (.var 1) (.var 13)) (.var 3)) (.var 9))] [13]) (.nm 9) .rng1 [.var 2] [] [9]) [.hand, .v (FamD rows), .v (.int M), .v (.int seen), .v (fgD k m rows seen), .v (.int N), .no, .no, .no, .no, .no, .no, .no, .no, .no] s = .ok (.list ((rgI m).map fun v => .list ((kbL rows seen v).map .int))) s := by
    refine comp_rng (R := M) (by simp) eM (by omega) (by simp) fun v _ _ => ?_
    exact c0 v .no .no
  have c2 : ∀ z6, evE (tb (n + 6)) glob (.comp (.call "keys_behind" [.var 1, .var 2, .var 3, .var 9]) (.nm 9) .rng1 [.var 2] [] [9]) [.hand, .v (FamD rows), .v (.int M), .v (.int seen), .v (fgD k m rows seen), .v (.int N), z6, .no, .no, .no, .no, .no, .no, .no, .no] s = .ok (.list ((rgI m).map fun v => .tuple ((kbL rows seen v).map .int))) s := fun z6 => by
    refine comp_rng (R := M) (by simp) eM (by omega) (by simp) fun v v0 v1 => ?_
    have f := r_keys_behind (n := n + 1) (s := s) eM h hs ⟨v0, v1⟩
    unfold kbL
    simp [tb_keys_behind, f]
  have c3 : evE (tb (n + 6)) glob (.comp (.prim .tuple [.var 14]) (.nm 14) .seq [.var 6] [] [14]) [.hand, .v (FamD rows), .v (.int M), .v (.int seen), .v (fgD k m rows seen), .v (.int N), .v (.list ((rgI m).map fun v => .list ((kbL rows seen v).map .int))), .no, .no, .no, .no, .no, .no, .no, .no] s = .ok (.list ((rgI m).map fun v => .tuple ((kbL rows seen v).map .int))) s := by
    refine comp_seq (ds := [.list ((rgI m).map fun v => .list ((kbL rows seen v).map .int))]) (u := fun v => .list ((kbL rows seen v).map .int)) (L := rgI m) (by simp) rfl (by rw [rgI_len]; omega) fun v _ => ?_
    rw [turn_nm (by simp)]
    simp [turnK]
  have kl : ∀ v, (kbL rows seen v).length ≤ 1000000 := fun v => by
    have := List.length_filter_le (fun i => atL (rwL rows i) seen == v) (rgI rows.length)
    unfold kbL
    rw [rgI_len] at this
    omega
  have q1 := r_same (s := s) 2 (d := .tuple ((rgI m).map fun v => .tuple ((kbL rows seen v).map .int))) (same_map (by omega) fun v => same_ints (kl v)) (n + 3)
  have mean := seen_mean h hs
  have sB : 0 ≤ sumB k m rows seen ∧ sumB k m rows seen ≤ K := by
    have h1 := nmB_cnt h hs
    have h2 := cntN_in (rows := rows) (F := nmB k m rows seen) (seen := seen)
    rw [h1, ← eK] at h2
    exact h2
  have i4 : idxD (fgD k m rows seen) (.int 0) = some (.int (sumB k m rows seen)) := rfl
  have i5 : idxD (fgD k m rows seen) (.int 1) = some (.tuple (NmD m (nmB k m rows seen))) := by rw [← fg_names h]; rfl
  have f1 := r_forged_share (n := n + 1) (s := s) eM h eK hs
  have f2 := r_forger (n := n + 1) (s := s) eM h hs
  rw [fg_names h] at f2
  have f3 := r_forger_share (n := n + 1) (s := s) eM h eK hs (nmB_ok h)
  rw [nmB_cnt h hs] at f3
  obtain ⟨X, eX⟩ : ∃ X, X = sumB k m rows seen := ⟨_, rfl⟩
  rw [← eX] at i4 f1 f3 sB mean
  have g1 := r_law_cut (n := n + 5) (s := s) (N := X) (D := K) (by omega) (by omega)
  have q2 := r_same (s := s) 1 (d := frD X K) same_fr (n + 4)
  have q3 := r_same (s := s) 2 (d := .tuple (NmD m (nmB k m rows seen))) (same_map (by omega) fun v => same_pO (some (nmB k m rows seen v))) (n + 3)
  obtain ⟨g, a, b, hg, eA, eB, hb, p1, p2⟩ := fr_parts (N := X) (D := K) (by omega)
  have j0 : idxD (frD X K) (.int 0) = some (.int a) := by rw [← p1]; rfl
  have j1 : idxD (frD X K) (.int 1) = some (.int b) := by rw [← p2]; rfl
  have mm := bopD_mul (i := a) (j := M) (mulOk_r (by omega))
  have nl : ¬ a * M < b := fun z => by
    have z2 := Int.mul_lt_mul_of_pos_left z hg
    rw [← eB] at z2
    have z3 : g * (a * M) = X * M := by rw [eA, Int.mul_assoc]
    rw [z3, eM] at z2
    omega
  obtain ⟨F, y9, s2, e1, ok2, hF⟩ := sn_names (n := n + 5) (s := s) (N := N) (due := .v (fgD k m rows seen)) (left := .v (.list ((rgI m).map fun v => .list ((kbL rows seen v).map .int)))) (sh := .v (frD X K)) (z9 := .no) (z10 := .no) (z11 := .no) (z12 := .no) ok eM eN h hs
  obtain ⟨y11, y12, e2⟩ := sn_many (n := n + 6) (s := s2) (M := M) (N := N) (due := .v (fgD k m rows seen)) (left := .v (.list ((rgI m).map fun v => .list ((kbL rows seen v).map .int)))) (sh := .v (frD X K)) (z9 := y9) (z11 := .no) (z12 := .no) h hs hF
  have f4 := r_forger_share (n := n + 1) (s := s2) eM h eK hs hF
  have cN := cntN_in (rows := rows) (F := F) (seen := seen)
  obtain ⟨C, eC⟩ : ∃ C, C = cntN rows F seen := ⟨_, rfl⟩
  rw [← eC] at f4 e2 cN
  have g2 := r_law_cut (n := n + 5) (s := s2) (N := C) (D := K) (by omega) (by omega)
  have q4 := r_same (s := s2) 1 (d := frD C K) same_fr (n + 4)
  refine ⟨s2, ?_, ok2⟩
  obtain ⟨FG, eFG⟩ : ∃ X, X = fgD k m rows seen := ⟨_, rfl⟩
  rw [← eFG] at c1 c2 c3 i4 i5 e1 e2 ⊢
  clear c0
  obtain ⟨L1, eL1⟩ : ∃ X : List PyData, X = (rgI m).map fun v => .list ((kbL rows seen v).map .int) := ⟨_, rfl⟩
  obtain ⟨L2, eL2⟩ : ∃ X : List PyData, X = (rgI m).map fun v => .tuple ((kbL rows seen v).map .int) := ⟨_, rfl⟩
  rw [← eL1] at c1 c3 e1 e2
  rw [← eL2] at c3 q1
  simp only [← eL2] at c2
  obtain ⟨F1, eF1⟩ : ∃ W, W = frD X K := ⟨_, rfl⟩
  rw [← eF1] at f1 f3 g1 q2 j0 j1 e1 e2
  obtain ⟨F2, eF2⟩ : ∃ X, X = frD C K := ⟨_, rfl⟩
  rw [← eF2] at f4 g2 q4
  obtain ⟨NB, eNB⟩ : ∃ X, X = NmD m (nmB k m rows seen) := ⟨_, rfl⟩
  rw [← eNB] at i5 f2 f3 q3
  obtain ⟨NF, eNF⟩ : ∃ X, X = NmD m F := ⟨_, rfl⟩
  rw [← eNF] at e1 e2 f4
  unfold envS b_nm at e1
  unfold envS b_mn at e2
  rw [run, run_eq (f := f_law_seen) (body := b_law_seen) rfl ⟨rfl, by decide⟩, b_law_seen]
  simp [startE_eq, i0, l0, c1, c2, c3, tb_law_same, q1, i4, i5, lF, tb_law_cut, g1, tb_forged_share, f1, q2, tb_forger, f2, q3, tb_forger_share, f3, j0, j1, mm, nl, evS_loop, srcD_rngR eM (show m ≤ 1000000 by omega), e1, src_fam, e2, f4, g2, q4]
end
end K64
set_option Elab.async false
set_option linter.all false
set_option maxRecDepth 100000
set_option maxHeartbeats 4000000
namespace K64
open PySem PySem.Spec PyProof.Rows L2 PV
variable {s : HS} {n : Nat}
/-! ### told -/
theorem tb_law_told : tb (n + 1) "_law_told" = some (run n f_law_told) := tb_of (by decide +kernel) rfl
theorem tb_law_refusals : tb (n + 1) "_law_refusals" = some (run n f_law_refusals) := tb_of (by decide +kernel) rfl
theorem q_blind_blind : cmpD .eq (.str "blind") (.str "blind") = some (.bool true) := (cmpD_eqS (by decide +kernel) (by decide +kernel)).trans (congrArg (fun b => some (PyData.bool b)) (by decide +kernel))
theorem q_pair_blind : cmpD .eq (.str "pair") (.str "blind") = some (.bool false) := (cmpD_eqS (by decide +kernel) (by decide +kernel)).trans (congrArg (fun b => some (PyData.bool b)) (by decide +kernel))
theorem q_pair_pair : cmpD .eq (.str "pair") (.str "pair") = some (.bool true) := (cmpD_eqS (by decide +kernel) (by decide +kernel)).trans (congrArg (fun b => some (PyData.bool b)) (by decide +kernel))
theorem q_worst_blind : cmpD .eq (.str "worst") (.str "blind") = some (.bool false) := (cmpD_eqS (by decide +kernel) (by decide +kernel)).trans (congrArg (fun b => some (PyData.bool b)) (by decide +kernel))
theorem q_worst_pair : cmpD .eq (.str "worst") (.str "pair") = some (.bool false) := (cmpD_eqS (by decide +kernel) (by decide +kernel)).trans (congrArg (fun b => some (PyData.bool b)) (by decide +kernel))
theorem q_worst_worst : cmpD .eq (.str "worst") (.str "worst") = some (.bool true) := (cmpD_eqS (by decide +kernel) (by decide +kernel)).trans (congrArg (fun b => some (PyData.bool b)) (by decide +kernel))
theorem q_behind_blind : cmpD .eq (.str "behind") (.str "blind") = some (.bool false) := (cmpD_eqS (by decide +kernel) (by decide +kernel)).trans (congrArg (fun b => some (PyData.bool b)) (by decide +kernel))
theorem q_behind_pair : cmpD .eq (.str "behind") (.str "pair") = some (.bool false) := (cmpD_eqS (by decide +kernel) (by decide +kernel)).trans (congrArg (fun b => some (PyData.bool b)) (by decide +kernel))
theorem q_behind_worst : cmpD .eq (.str "behind") (.str "worst") = some (.bool false) := (cmpD_eqS (by decide +kernel) (by decide +kernel)).trans (congrArg (fun b => some (PyData.bool b)) (by decide +kernel))
theorem q_behind_behind : cmpD .eq (.str "behind") (.str "behind") = some (.bool true) := (cmpD_eqS (by decide +kernel) (by decide +kernel)).trans (congrArg (fun b => some (PyData.bool b)) (by decide +kernel))
theorem q_forged_blind : cmpD .eq (.str "forged") (.str "blind") = some (.bool false) := (cmpD_eqS (by decide +kernel) (by decide +kernel)).trans (congrArg (fun b => some (PyData.bool b)) (by decide +kernel))
theorem q_forged_pair : cmpD .eq (.str "forged") (.str "pair") = some (.bool false) := (cmpD_eqS (by decide +kernel) (by decide +kernel)).trans (congrArg (fun b => some (PyData.bool b)) (by decide +kernel))
theorem q_forged_worst : cmpD .eq (.str "forged") (.str "worst") = some (.bool false) := (cmpD_eqS (by decide +kernel) (by decide +kernel)).trans (congrArg (fun b => some (PyData.bool b)) (by decide +kernel))
theorem q_forged_behind : cmpD .eq (.str "forged") (.str "behind") = some (.bool false) := (cmpD_eqS (by decide +kernel) (by decide +kernel)).trans (congrArg (fun b => some (PyData.bool b)) (by decide +kernel))
theorem q_forged_forged : cmpD .eq (.str "forged") (.str "forged") = some (.bool true) := (cmpD_eqS (by decide +kernel) (by decide +kernel)).trans (congrArg (fun b => some (PyData.bool b)) (by decide +kernel))
theorem q_forger_blind : cmpD .eq (.str "forger") (.str "blind") = some (.bool false) := (cmpD_eqS (by decide +kernel) (by decide +kernel)).trans (congrArg (fun b => some (PyData.bool b)) (by decide +kernel))
theorem q_forger_pair : cmpD .eq (.str "forger") (.str "pair") = some (.bool false) := (cmpD_eqS (by decide +kernel) (by decide +kernel)).trans (congrArg (fun b => some (PyData.bool b)) (by decide +kernel))
theorem q_forger_worst : cmpD .eq (.str "forger") (.str "worst") = some (.bool false) := (cmpD_eqS (by decide +kernel) (by decide +kernel)).trans (congrArg (fun b => some (PyData.bool b)) (by decide +kernel))
theorem q_forger_behind : cmpD .eq (.str "forger") (.str "behind") = some (.bool false) := (cmpD_eqS (by decide +kernel) (by decide +kernel)).trans (congrArg (fun b => some (PyData.bool b)) (by decide +kernel))
theorem q_forger_forged : cmpD .eq (.str "forger") (.str "forged") = some (.bool false) := (cmpD_eqS (by decide +kernel) (by decide +kernel)).trans (congrArg (fun b => some (PyData.bool b)) (by decide +kernel))
theorem q_forger_forger : cmpD .eq (.str "forger") (.str "forger") = some (.bool true) := (cmpD_eqS (by decide +kernel) (by decide +kernel)).trans (congrArg (fun b => some (PyData.bool b)) (by decide +kernel))
theorem q_share_blind : cmpD .eq (.str "share") (.str "blind") = some (.bool false) := (cmpD_eqS (by decide +kernel) (by decide +kernel)).trans (congrArg (fun b => some (PyData.bool b)) (by decide +kernel))
theorem q_share_pair : cmpD .eq (.str "share") (.str "pair") = some (.bool false) := (cmpD_eqS (by decide +kernel) (by decide +kernel)).trans (congrArg (fun b => some (PyData.bool b)) (by decide +kernel))
theorem q_share_worst : cmpD .eq (.str "share") (.str "worst") = some (.bool false) := (cmpD_eqS (by decide +kernel) (by decide +kernel)).trans (congrArg (fun b => some (PyData.bool b)) (by decide +kernel))
theorem q_share_behind : cmpD .eq (.str "share") (.str "behind") = some (.bool false) := (cmpD_eqS (by decide +kernel) (by decide +kernel)).trans (congrArg (fun b => some (PyData.bool b)) (by decide +kernel))
theorem q_share_forged : cmpD .eq (.str "share") (.str "forged") = some (.bool false) := (cmpD_eqS (by decide +kernel) (by decide +kernel)).trans (congrArg (fun b => some (PyData.bool b)) (by decide +kernel))
theorem q_share_forger : cmpD .eq (.str "share") (.str "forger") = some (.bool false) := (cmpD_eqS (by decide +kernel) (by decide +kernel)).trans (congrArg (fun b => some (PyData.bool b)) (by decide +kernel))
def b_try : List St' := [.ifs (.e (.cmp .eq (.var 0) (.con (.str "blind"))))
       [.ret (.tup [.con (.str "told"), .call "blind_share" [.var 1, .var 2], .con (.bl true)])]
       [],
     .ifs (.e (.cmp .eq (.var 0) (.con (.str "pair"))))
       [.ret (.tup [.con (.str "told"), .call "blind_pair" [.var 1, .var 2], .con (.bl true)])]
       [],
     .ifs (.e (.cmp .eq (.var 0) (.con (.str "worst"))))
       [.ret (.tup [.con (.str "told"), .call "worst_seen" [.var 1, .var 2], .con (.bl true)])]
       [],
     .ifs (.e (.cmp .eq (.var 0) (.con (.str "behind"))))
       [.ret (.tup [.con (.str "told"), .call "keys_behind" [.var 1, .var 2, .var 3, .con (.int 0)], .con (.bl true)])]
       [],
     .ifs (.e (.cmp .eq (.var 0) (.con (.str "forged"))))
       [.ret (.tup [.con (.str "told"), .call "forged_share" [.var 1, .var 2, .var 3], .con (.bl true)])]
       [],
     .ifs (.e (.cmp .eq (.var 0) (.con (.str "forger"))))
       [.ret (.tup [.con (.str "told"), .call "forger" [.var 1, .var 2, .var 3], .con (.bl true)])]
       [],
     .ret (.tup [.con (.str "told"), .call "forger_share" [.var 1, .var 2, .var 3, .var 4], .con (.bl true)])]
def hsT : List Hd := [⟨"BadTable", 5, [(6, .and (.isa "BreakError") (.isa "ValueError"))], true, [.con (.str "table"), .val, .and (.var 6) (.not (.isa "BadChoice"))]⟩, ⟨"BadChoice", 5, [], true, [.con (.str "choice"), .con .non, .and (.isa "BreakError") (.isa "ValueError")]⟩]
theorem b_told : b_law_told = [.tryM b_try hsT] := rfl
def tabD (X : PyData) : PyData := .tuple [.str "table", X, .bool true]
def choD : PyData := .tuple [.str "choice", .none, .bool true]
theorem shp_tab {X : PyData} (h : Shp 10 X) : Shp 11 (tabD X) := Shp.tuple (k := 10) fun x hx => by
  simp only [List.mem_cons, List.not_mem_nil, or_false] at hx
  rcases hx with rfl | rfl | rfl
  · exact shp_str (by decide +kernel)
  · exact h
  · exact .bl
theorem shp_cho : Shp 1 choD := Shp.tuple (k := 0) fun x hx => by
  simp only [List.mem_cons, List.not_mem_nil, or_false] at hx
  rcases hx with rfl | rfl | rfl
  · exact shp_str (by decide +kernel)
  · exact .non
  · exact .bl
section
variable {nm a b c d Y : PyData}
theorem told_tab (h : evSs (tb n) glob subX fuel b_try [.v nm, .v a, .v b, .v c, .v d, .no, .no] s = .exn "BadTable" (some Y) [.v nm, .v a, .v b, .v c, .v d, .no, .no] s) : run n f_law_told [.d nm, .d a, .d b, .d c, .d d] s = .ok (tabD Y) s := by
  rw [run, run_eq (f := f_law_told) (body := b_law_told) rfl ⟨rfl, by decide⟩, b_told]
  have k1 := evS_tryM_exn (hs := hsT) h (by decide +kernel)
  have k2 : runHs subX hsT "BadTable" (some Y) [.v nm, .v a, .v b, .v c, .v d, .no, .no] s = .ok (.ret (tabD Y)) s := runHs_hit (by decide +kernel) rfl
  rw [k2] at k1
  simp [startE_eq, k1]
theorem told_cho (h : evSs (tb n) glob subX fuel b_try [.v nm, .v a, .v b, .v c, .v d, .no, .no] s = .exn "BadChoice" none [.v nm, .v a, .v b, .v c, .v d, .no, .no] s) : run n f_law_told [.d nm, .d a, .d b, .d c, .d d] s = .ok choD s := by
  rw [run, run_eq (f := f_law_told) (body := b_law_told) rfl ⟨rfl, by decide⟩, b_told]
  have k1 := evS_tryM_exn (hs := hsT) h (by decide +kernel)
  have k2 : runHs subX hsT "BadChoice" none [.v nm, .v a, .v b, .v c, .v d, .no, .no] s = .ok (.ret choD) s := (runHs_miss (by decide +kernel)).trans (runHs_hit (by decide +kernel) rfl)
  rw [k2] at k1
  simp [startE_eq, k1]
end
section
variable {m k : Nat} {M N K : Int} {rows : List (List Int)} {X Y : PyData} {c : Str} {p : Option PyData} {seen out : Int}
def is7 (nm : Str) : Prop := nm = "blind" ∨ nm = "pair" ∨ nm = "worst" ∨ nm = "behind" ∨ nm = "forged" ∨ nm = "forger" ∨ nm = "share"
def is4 (nm : Str) : Prop := nm = "behind" ∨ nm = "forged" ∨ nm = "forger" ∨ nm = "share"
/-- all seven, at the family -/
theorem try_fam {nm : Str} (hn : is7 nm) (hc : ∀ n : Nat, run (n + 3) f_check_family [.d X, .d (.int M)] s = .exn c p s) (hk : ∀ n : Nat, run (n + 4) f_keys_behind [.d X, .d (.int M), .d (.int seen), .d (.int 0)] s = .exn c p s) :
    evSs (tb (n + 5)) glob subX fuel b_try [.v (.str nm), .v X, .v (.int M), .v (.int seen), .v Y, .no, .no] s = .exn c p [.v (.str nm), .v X, .v (.int M), .v (.int seen), .v Y, .no, .no] s := by
  have f_blind : run (n + 4) f_blind_share [.d X, .d (.int M)] s = .exn c p s := by
    rw [run, run_eq (f := f_blind_share) (body := b_blind_share) rfl ⟨rfl, by decide⟩, b_blind_share]
    simp [startE_eq, tb_check_family, hc n]
  have f_pair : run (n + 4) f_blind_pair [.d X, .d (.int M)] s = .exn c p s := by
    rw [run, run_eq (f := f_blind_pair) (body := b_blind_pair) rfl ⟨rfl, by decide⟩, b_blind_pair]
    simp [startE_eq, tb_check_family, hc n]
  have f_worst : run (n + 4) f_worst_seen [.d X, .d (.int M)] s = .exn c p s := by
    rw [run, run_eq (f := f_worst_seen) (body := b_worst_seen) rfl ⟨rfl, by decide⟩, b_worst_seen]
    simp [startE_eq, tb_check_family, hc n]
  have f_behind := hk n
  have f_forged : run (n + 4) f_forged_share [.d X, .d (.int M), .d (.int seen)] s = .exn c p s := by
    rw [run, run_eq (f := f_forged_share) (body := b_forged_share) rfl ⟨rfl, by decide⟩, b_forged_share]
    simp [startE_eq, tb_check_family, hc n]
  have f_forger : run (n + 4) f_forger [.d X, .d (.int M), .d (.int seen)] s = .exn c p s := by
    rw [run, run_eq (f := f_forger) (body := b_forger) rfl ⟨rfl, by decide⟩, b_forger]
    simp [startE_eq, tb_check_family, hc n]
  have f_share : run (n + 4) f_forger_share [.d X, .d (.int M), .d (.int seen), .d Y] s = .exn c p s := by
    rw [run, run_eq (f := f_forger_share) (body := b_forger_share) rfl ⟨rfl, by decide⟩, b_forger_share]
    simp [startE_eq, tb_check_family, hc n]
  unfold b_try
  rcases hn with rfl | rfl | rfl | rfl | rfl | rfl | rfl
  · simp [q_blind_blind, tb_blind_share, f_blind]
  · simp [q_pair_blind, q_pair_pair, tb_blind_pair, f_pair]
  · simp [q_worst_blind, q_worst_pair, q_worst_worst, tb_worst_seen, f_worst]
  · simp [q_behind_blind, q_behind_pair, q_behind_worst, q_behind_behind, tb_keys_behind, f_behind]
  · simp [q_forged_blind, q_forged_pair, q_forged_worst, q_forged_behind, q_forged_forged, tb_forged_share, f_forged]
  · simp [q_forger_blind, q_forger_pair, q_forger_worst, q_forger_behind, q_forger_forged, q_forger_forger, tb_forger, f_forger]
  · simp [q_share_blind, q_share_pair, q_share_worst, q_share_behind, q_share_forged, q_share_forger, tb_forger_share, f_share]
/-- four of them, at the input -/
theorem try_out {nm : Str} (hn : is4 nm) (eM : M = m) (h : FamOk m k rows) (ho : ¬ (0 ≤ out ∧ out < (k : Int))) :
    evSs (tb (n + 5)) glob subX fuel b_try [.v (.str nm), .v (FamD rows), .v (.int M), .v (.int out), .v Y, .no, .no] s = .exn "BadChoice" none [.v (.str nm), .v (FamD rows), .v (.int M), .v (.int out), .v Y, .no, .no] s := by
  have f1 := r_check_family (n := n) (s := s) eM h
  have f2 := c_check_input (n := n + 2) (s := s) h ho
  have f_behind := r_keys_exn (n := n) (s := s) (v := 0) eM h (.inr ho)
  have f_forged : run (n + 4) f_forged_share [.d (FamD rows), .d (.int M), .d (.int out)] s = .exn "BadChoice" none s := by
    rw [run, run_eq (f := f_forged_share) (body := b_forged_share) rfl ⟨rfl, by decide⟩, b_forged_share]
    simp [startE_eq, tb_check_family, f1, tb_check_input, f2]
  have f_forger : run (n + 4) f_forger [.d (FamD rows), .d (.int M), .d (.int out)] s = .exn "BadChoice" none s := by
    rw [run, run_eq (f := f_forger) (body := b_forger) rfl ⟨rfl, by decide⟩, b_forger]
    simp [startE_eq, tb_check_family, f1, tb_check_input, f2]
  have f_share : run (n + 4) f_forger_share [.d (FamD rows), .d (.int M), .d (.int out), .d Y] s = .exn "BadChoice" none s := by
    rw [run, run_eq (f := f_forger_share) (body := b_forger_share) rfl ⟨rfl, by decide⟩, b_forger_share]
    simp [startE_eq, tb_check_family, f1, tb_check_input, f2]
  unfold b_try
  rcases hn with rfl | rfl | rfl | rfl
  · simp [q_behind_blind, q_behind_pair, q_behind_worst, q_behind_behind, tb_keys_behind, f_behind]
  · simp [q_forged_blind, q_forged_pair, q_forged_worst, q_forged_behind, q_forged_forged, tb_forged_share, f_forged]
  · simp [q_forger_blind, q_forger_pair, q_forger_worst, q_forger_behind, q_forger_forged, q_forger_forger, tb_forger, f_forger]
  · simp [q_share_blind, q_share_pair, q_share_worst, q_share_behind, q_share_forged, q_share_forger, tb_forger_share, f_share]
theorem keys_tab (hM : 2 ≤ M ∧ M ≤ 32) (hX : BadF M X) : ∀ n : Nat, run (n + 4) f_keys_behind [.d X, .d (.int M), .d (.int seen), .d (.int 0)] s = .exn "BadTable" (some X) s := fun n => by
  have f0 := r_check_many (n := n + 2) (s := s) hM
  have f1 := x_check_family (n := n) (s := s) hX
  have d1 : decide ((1 : Int) ≤ M) = true := decide_eq_true (by omega)
  rw [run, run_eq (f := f_keys_behind) (body := b_keys_behind) rfl ⟨rfl, by decide⟩, b_keys_behind]
  simp [startE_eq, tb_check_many, f0, tb_is_number, r_is_number, d1, tb_check_family, f1]
theorem keys_cho (hM : ¬ (2 ≤ M ∧ M ≤ 32)) : ∀ n : Nat, run (n + 4) f_keys_behind [.d X, .d (.int M), .d (.int seen), .d (.int 0)] s = .exn "BadChoice" none s := fun n => by
  have f0 := c_check_many (n := n + 2) (s := s) hM
  rw [run, run_eq (f := f_keys_behind) (body := b_keys_behind) rfl ⟨rfl, by decide⟩, b_keys_behind]
  simp [startE_eq, tb_check_many, f0]
/-! wrong forgers -/
def BadG (rows : List (List Int)) (M seen : Int) (Y : PyData) : Prop := (∀ (n : Nat) (s : HS), run (n + 1) f_is_forger [.d (FamD rows), .d (.int M), .d (.int seen), .d Y] s = .ok (.bool false) s) ∧ Shp 10 Y
theorem told_wrong (eM : M = m) (h : FamOk m k rows) (hs : 0 ≤ seen ∧ seen < (k : Int)) (hY : BadG rows M seen Y) : run (n + 5) f_law_told [.d (.str "share"), .d (FamD rows), .d (.int M), .d (.int seen), .d Y] s = .ok (tabD Y) s := by
  refine told_tab ?_
  have f1 := r_check_family (n := n) (s := s) eM h
  have f2 := r_check_input (n := n + 2) (s := s) h hs
  have f3 := hY.1 (n + 2) s
  have rt : ∀ (z : Sl × Sl × Sl), evS (tb (n + 4)) glob subX fuel (.raise "BadTable" (some (.var 3))) [.v (FamD rows), .v (.int M), .v (.int seen), .v Y, z.1, z.2.1, z.2.2] s = .exn "BadTable" (some Y) [.v (FamD rows), .v (.int M), .v (.int seen), .v Y, z.1, z.2.1, z.2.2] s := fun z => by
    rw [evS_raise1 (by decide +kernel)]
    simp
  have rt := rt (.no, .no, .no)
  have f : run (n + 4) f_forger_share [.d (FamD rows), .d (.int M), .d (.int seen), .d Y] s = .exn "BadTable" (some Y) s := by
    rw [run, run_eq (f := f_forger_share) (body := b_forger_share) rfl ⟨rfl, by decide⟩, b_forger_share]
    simp [startE_eq, tb_check_family, f1, tb_check_input, f2, tb_is_forger, f3, rt]
  unfold b_try
  simp [q_share_blind, q_share_pair, q_share_worst, q_share_behind, q_share_forged, q_share_forger, tb_forger_share, f]
theorem wrong_no (h : primD (.isinst .tuple) [Y] = some (.bool false)) : ∀ (n : Nat) (s : HS), run (n + 1) f_is_forger [.d (FamD rows), .d (.int M), .d (.int seen), .d Y] s = .ok (.bool false) s := fun n s => by
  rw [run, run_eq (f := f_is_forger) (body := b_is_forger) rfl ⟨rfl, by decide⟩, b_is_forger]
  simp [startE_eq, h]
theorem wrong_len {xs : List PyData} (h : (xs.length : Int) ≠ M) : ∀ (n : Nat) (s : HS), run (n + 1) f_is_forger [.d (FamD rows), .d (.int M), .d (.int seen), .d (.tuple xs)] s = .ok (.bool false) s := fun n s => by
  have hi : primD (.isinst .tuple) [.tuple xs] = some (.bool true) := rfl
  have hb : ((xs.length : Int) == M) = false := beq_eq_false_iff_ne.mpr h
  rw [run, run_eq (f := f_is_forger) (body := b_is_forger) rfl ⟨rfl, by decide⟩, b_is_forger]
  simp [startE_eq, hb]
theorem wrong_none {F : Int → Int × Int} {at' : Int} (eM : M = m) (h2 : m ≤ 32) (ha : 0 ≤ at' ∧ at' < (m : Int)) : ∀ (n : Nat) (s : HS), run (n + 1) f_is_forger [.d (FamD rows), .d (.int M), .d (.int seen), .d (.tuple ((rgI m).map fun v => if v = at' then .none else pD (F v)))] s = .ok (.bool false) s := fun n s => by
  obtain ⟨Z, eZ⟩ : ∃ Z, Z = PyData.tuple ((rgI m).map fun v => if v = at' then .none else pD (F v)) := ⟨_, rfl⟩
  have hl : primD .len [Z] = some (.int M) := by
    rw [eZ, primD_lenT, List.length_map, rgI_len, eM]
  have hi : primD (.isinst .tuple) [Z] = some (.bool true) := by rw [eZ]; rfl
  have hc : evE (tb (n + 1)) glob (.comp (.and (.prim (.isinst .tuple) [.var 5]) (.cmp .eq (.prim .len [.var 5]) (.con (.int 2)))) (.nm 5) .seq [.var 3] [] [5]) [.v (FamD rows), .v (.int M), .v (.int seen), .v Z, .no, .no, .no, .no] s = .ok (.list ((rgI m).map fun v => .bool (!(v == at')))) s := by
    refine comp_seq (ds := [Z]) (u := fun v => if v = at' then .none else pD (F v)) (by simp) (by rw [eZ]; rfl) (by rw [rgI_len]; omega) fun v _ => ?_
    rw [turn_nm (by simp)]
    by_cases hv : v = at'
    · rw [if_pos hv, beq_iff_eq.mpr hv]
      simp [turnK]
    · rw [if_neg hv, beq_eq_false_iff_ne.mpr hv]
      simp [turnK, pD]
  have al := boolsD_map (fun v => !(v == at')) (rgI m)
  have ea : ((rgI m).map fun v => !(v == at')).all id = false := by
    rw [List.all_eq_false]
    exact ⟨false, List.mem_map.mpr ⟨at', rgI_mem.mpr ha, by simp⟩, by decide⟩
  obtain ⟨L, eL⟩ : ∃ L : List PyData, L = (rgI m).map fun v => .bool (!(v == at')) := ⟨_, rfl⟩
  rw [← eL] at hc al
  have al2 : primD .all [.list L] = some (.bool false) := by rw [primD_all, al, Option.map_some, ea]
  rw [← eZ, run, run_eq (f := f_is_forger) (body := b_is_forger) rfl ⟨rfl, by decide⟩, b_is_forger]
  simp [startE_eq, -primD_all, hi, hl, hc, al2]
theorem wrong_seen {F : Int → Int × Int} {v0 : Int} (eM : M = m) (h : FamOk m k rows) (hv : 0 ≤ v0 ∧ v0 < (m : Int)) (hF : (F v0).1 = seen) : ∀ (n : Nat) (s : HS), run (n + 1) f_is_forger [.d (FamD rows), .d (.int M), .d (.int seen), .d (.tuple (NmD m F))] s = .ok (.bool false) s := fun n s => by
  have h2 := h.m32
  obtain ⟨N, eN⟩ : ∃ N : Int, N = (k : Int) := ⟨_, rfl⟩
  obtain ⟨t0, i0, l0⟩ := first_len h eN
  obtain ⟨Z, eZ⟩ : ∃ Z, Z = PyData.tuple (NmD m F) := ⟨_, rfl⟩
  have hl : primD .len [Z] = some (.int M) := by
    unfold NmD at eZ
    rw [eZ, primD_lenT, List.length_map, rgI_len, eM]
  have hi : primD (.isinst .tuple) [Z] = some (.bool true) := by rw [eZ]; rfl
  have hc1 : evE (tb (n + 1)) glob (.comp (.and (.prim (.isinst .tuple) [.var 5]) (.cmp .eq (.prim .len [.var 5]) (.con (.int 2)))) (.nm 5) .seq [.var 3] [] [5]) [.v (FamD rows), .v (.int M), .v (.int seen), .v Z, .no, .no, .no, .no] s = .ok (.list ((rgI m).map fun _ => .bool true)) s := by
    refine comp_seq (ds := [Z]) (u := fun v => pD (F v)) (by simp) (by rw [eZ]; rfl) (by rw [rgI_len]; omega) fun v _ => ?_
    rw [turn_nm (by simp)]
    simp [turnK, pD]
  have hc2 : evE (tb (n + 1)) glob (.comp (.and (.call "is_number" [.var 6, .con (.int 0), .var 4]) (.and (.cmp .ne (.var 6) (.var 2)) (.call "is_number" [.var 7, .con (.int 0), .bop .sub (.var 1) (.con (.int 1))]))) (.tup [6, 7]) .seq [.var 3] [] [6, 7]) [.v (FamD rows), .v (.int M), .v (.int seen), .v Z, .v (.int (N - 1)), .no, .no, .no] s = .ok (.list ((rgI m).map fun v => .bool (decide ((0 : Int) ≤ (F v).1 ∧ (F v).1 ≤ N - 1) && (!((F v).1 == seen) && decide ((0 : Int) ≤ (F v).2 ∧ (F v).2 ≤ M - 1))))) s := by
    refine comp_seq (ds := [Z]) (u := fun v => pD (F v)) (by simp) (by rw [eZ]; rfl) (by rw [rgI_len]; omega) fun v _ => ?_
    show turnM (.tup [6, 7]) [6, 7] _ _ _ (.tuple [.int (F v).1, .int (F v).2]) s = _
    rw [turn_t2 (by simp) (by simp) (by decide)]
    obtain ⟨a1, x1⟩ : ∃ b, b = decide ((0 : Int) ≤ (F v).1 ∧ (F v).1 ≤ N - 1) := ⟨_, rfl⟩
    obtain ⟨a2, x2⟩ : ∃ b, b = decide ((0 : Int) ≤ (F v).2 ∧ (F v).2 ≤ M - 1) := ⟨_, rfl⟩
    obtain ⟨a3, x3⟩ : ∃ b, b = ((F v).1 == seen) := ⟨_, rfl⟩
    rw [← x1, ← x2, ← x3]
    cases a1 <;> cases a3 <;> simp [turnK, tb_is_number, r_is_number, ← x1, ← x2, ← x3]
  have al1 : primD .all [.list ((rgI m).map fun _ => .bool true)] = some (.bool true) := by
    rw [primD_all, boolsD_map (fun _ => true), Option.map_some]
    congr 2
    rw [List.all_eq_true]
    intro x hx
    obtain ⟨_, _, rfl⟩ := List.mem_map.mp hx
    rfl
  have al2 : primD .all [.list ((rgI m).map fun v => .bool (decide ((0 : Int) ≤ (F v).1 ∧ (F v).1 ≤ N - 1) && (!((F v).1 == seen) && decide ((0 : Int) ≤ (F v).2 ∧ (F v).2 ≤ M - 1))))] = some (.bool false) := by
    rw [primD_all, boolsD_map (fun v => decide ((0 : Int) ≤ (F v).1 ∧ (F v).1 ≤ N - 1) && (!((F v).1 == seen) && decide ((0 : Int) ≤ (F v).2 ∧ (F v).2 ≤ M - 1))), Option.map_some]
    congr 2
    rw [List.all_eq_false]
    refine ⟨false, List.mem_map.mpr ⟨v0, rgI_mem.mpr hv, ?_⟩, by decide⟩
    rw [beq_iff_eq.mpr hF]
    simp
  obtain ⟨L1, eL1⟩ : ∃ L : List PyData, L = (rgI m).map fun _ => .bool true := ⟨_, rfl⟩
  obtain ⟨L2, eL2⟩ : ∃ L : List PyData, L = (rgI m).map fun v => .bool (decide ((0 : Int) ≤ (F v).1 ∧ (F v).1 ≤ N - 1) && (!((F v).1 == seen) && decide ((0 : Int) ≤ (F v).2 ∧ (F v).2 ≤ M - 1))) := ⟨_, rfl⟩
  rw [← eL1] at hc1 al1
  rw [← eL2] at hc2 al2
  rw [← eZ, run, run_eq (f := f_is_forger) (body := b_is_forger) rfl ⟨rfl, by decide⟩, b_is_forger]
  simp [startE_eq, -primD_all, hi, hl, hc1, al1, i0, l0, hc2, al2]
end
end K64
set_option Elab.async false
set_option linter.all false
set_option maxRecDepth 100000
set_option maxHeartbeats 4000000
namespace K64
open PySem PySem.Spec PyProof.Rows L2 PV
variable {s : HS} {n : Nat}
/-! ### refusals -/
section
variable {m k : Nat} {M N K : Int} {rows : List (List Int)} {seen out : Int}
theorem mulT1 {x : PyData} {c : Int} {j : Nat} (e : c = j) (h2 : 2 ≤ j ∧ j ≤ 1000) : bopD .mul (.tuple [x]) (.int c) = some (.tuple (List.replicate j x)) := by
  show (if c = 1 then some (PyData.tuple [x]) else if !([x]).isEmpty && decide (2 ≤ c) && decide (c ≤ 1000) && decide (([x]).length ≤ 1000) then some (PyData.tuple (List.replicate c.toNat [x]).flatten) else none) = _
  rw [if_neg (by omega), decide_eq_true (show 2 ≤ c by omega), decide_eq_true (show c ≤ 1000 by omega), show c.toNat = j by omega]
  show some (PyData.tuple (List.replicate j [x]).flatten) = _
  congr 2
  clear h2 e
  induction j with
  | zero => rfl
  | succ j ih => rw [List.replicate_succ, List.flatten_cons, ih]; rfl
theorem odd_fam (eM : M = m) (h : FamOk m k rows) {r0 : List Int} {rs Hd : List (List Int)} {t : List Int} (er : rows = r0 :: rs) (eH : rows = Hd ++ [t]) : ∀ Y ∈ [.list (rows.map tupI), .tuple [], .tuple (rows.map tupI ++ [tupI (r0 ++ [0])]), .tuple (Hd.map tupI ++ [.tuple (List.replicate k (.int M))]), .none], BadF M Y := fun Y hY => by
  have hM : 2 ≤ M ∧ M ≤ 32 := by have := h.m2; have := h.m32; omega
  have h4 := h.n32
  have l00 := (h.row r0 (by rw [er]; exact List.mem_cons_self)).1
  simp only [List.mem_cons, List.not_mem_nil, or_false] at hY
  rcases hY with rfl | rfl | rfl | rfl | rfl
  · exact ⟨bad_no hM rfl, Shp.list (shp_rows rows)⟩
  · exact ⟨bad_len hM (by simp), Shp.tuple fun x hx => nomatch hx⟩
  · refine ⟨?_, Shp.tuple fun x hx => ?_⟩
    · rw [er]
      refine bad_row (zs := r0.map .int) (xs := rs.map tupI ++ [tupI (r0 ++ [0])]) hM (fun y hy => ?_) ?_
      · have hr : ∀ u ∈ rows, okT (tupI u) = true := fun u hu => okT_row (by rw [(h.row u hu).1]; omega)
        rcases List.mem_cons.mp hy with rfl | hy
        · exact hr r0 (by rw [er]; exact List.mem_cons_self)
        · rcases List.mem_append.mp hy with hy | hy
          · obtain ⟨u, hu, rfl⟩ := List.mem_map.mp hy
            exact hr u (by rw [er]; exact List.mem_cons_of_mem _ hu)
          · rw [List.mem_singleton.mp hy]
            exact okT_row (by rw [List.length_append, l00]; show k + 1 ≤ _; omega)
      · have b2 : tabB k M (tupI (r0 ++ [0])) = false := by
          show (((r0 ++ [0]).map PyData.int).length == k && _) = false
          rw [List.length_map, List.length_append, l00, beq_eq_false_iff_ne.mpr (by show k + 1 ≠ k; omega)]
          rfl
        rw [List.length_map, l00, List.all_cons, List.all_append, List.all_cons, b2]
        simp
    · rcases List.mem_append.mp hx with hx | hx
      · exact shp_rows rows x hx
      · rw [List.mem_singleton.mp hx]; exact shp_row _
  · have h2 := h.n2
    have hb := odd_at (X := .tuple (List.replicate k (.int M))) (Hd := Hd) (t := t) (Tl := []) hM h eH (by
      show ((List.replicate k (PyData.int M)).all noDict && decide ((List.replicate k (PyData.int M)).length ≤ 1000)) = true
      rw [List.length_replicate, decide_eq_true (by omega), Bool.and_true]
      exact List.all_eq_true.mpr fun x hx => by rw [(List.mem_replicate.mp hx).2]; rfl) (by
      show ((List.replicate k (PyData.int M)).length == k && (List.replicate k (PyData.int M)).all (numB (M - 1))) = false
      have : (List.replicate k (PyData.int M)).all (numB (M - 1)) = false := by
        rw [List.all_eq_false]
        refine ⟨.int M, List.mem_replicate.mpr ⟨by omega, rfl⟩, ?_⟩
        show ¬ (decide ((0 : Int) ≤ M ∧ M ≤ M - 1) = true)
        rw [decide_eq_false (by omega)]
        exact Bool.false_ne_true
      rw [this, Bool.and_false]) (.inr ⟨_, rfl, List.length_replicate⟩) (Shp.tuple (k := 8) fun x hx => by rw [(List.mem_replicate.mp hx).2]; exact .int)
    rw [List.map_nil, List.append_nil] at hb
    exact hb
  · exact ⟨bad_no hM rfl, .non⟩
theorem shp_pD (p : Int × Int) : Shp 9 (pD p) := Shp.tuple (k := 8) fun x hx => by
  simp only [List.mem_cons, List.not_mem_nil, or_false] at hx
  rcases hx with rfl | rfl
  · exact .int
  · exact .int
theorem shp_nm {L : List PyData} (h : ∀ x ∈ L, x = .none ∨ ∃ p, x = pD p) : ∀ x ∈ L, Shp 9 x := fun x hx => by
  rcases h x hx with rfl | ⟨p, rfl⟩
  · exact .non
  · exact shp_pD p
def setF (F : Int → Int × Int) (a : Int) (q : Int × Int) (v : Int) : Int × Int := if v = a then q else F v
theorem nm_len {F : Int → Int × Int} : (NmD m F).length = m := by
  unfold NmD
  rw [List.length_map, rgI_len]
theorem nm_set {F : Int → Int × Int} {a : Int} {q : Int × Int} (ha : 0 ≤ a ∧ a < (m : Int)) : (NmD m F).take a.toNat ++ [pD q] ++ (NmD m F).drop (a.toNat + 1) = NmD m (setF F a q) := by
  have e := List.set_eq_take_append_cons_drop (l := NmD m F) (i := a.toNat) (a := pD q)
  rw [if_pos (by rw [nm_len]; omega)] at e
  rw [List.append_assoc, List.singleton_append, ← e]
  unfold NmD
  rw [set_rgI (by omega)]
  refine List.map_congr_left fun v _ => ?_
  unfold setF
  by_cases hv : v = a
  · rw [if_pos (show v = ((a.toNat : Nat) : Int) by omega), if_pos hv]
  · rw [if_neg (show ¬ v = ((a.toNat : Nat) : Int) by omega), if_neg hv]
theorem nm_none {F : Int → Int × Int} {a : Int} (ha : 0 ≤ a ∧ a < (m : Int)) : (NmD m F).take a.toNat ++ [.none] ++ (NmD m F).drop (a.toNat + 1) = (rgI m).map fun v => if v = a then .none else pD (F v) := by
  have e := List.set_eq_take_append_cons_drop (l := NmD m F) (i := a.toNat) (a := PyData.none)
  rw [if_pos (by rw [nm_len]; omega)] at e
  rw [List.append_assoc, List.singleton_append, ← e]
  unfold NmD
  rw [set_rgI (by omega)]
  refine List.map_congr_left fun v _ => ?_
  by_cases hv : v = a
  · rw [if_pos (show v = ((a.toNat : Nat) : Int) by omega), if_pos hv]
  · rw [if_neg (show ¬ v = ((a.toNat : Nat) : Int) by omega), if_neg hv]
theorem nm_mem {F : Int → Int × Int} : ∀ x ∈ NmD m F, x = .none ∨ ∃ p, x = pD p := fun x hx => by
  obtain ⟨v, _, rfl⟩ := List.mem_map.mp hx
  exact .inr ⟨_, rfl⟩
def nmT (m : Nat) (F : Int → Int × Int) : PyData := .tuple (NmD m F)
def envR (rows : List (List Int)) (M seen : Int) (NB : PyData) (N : Int) (O : PyData) (out B : Int) (z9 z10 z11 z12 : Sl) : PV.Env := [.hand, .v (FamD rows), .v (.int M), .v (.int seen), .v NB, .v (.int N), .v O, .v (.int out), .v (.int B), z9, z10, z11, z12]
def r_1 : List St' := [.asg (.nm 5) (.prim .len [.idx (.var 1) (.con (.int 0))]),
   .asg (.nm 6) (.idx (.lst [.prim .list [.var 1], .tup [], .bop .add (.var 1) (.tup [.bop .add (.idx (.var 1) (.con (.int 0))) (.tup [.con (.int 0)])]), .bop .add (.slc (.var 1) none (some (.neg (.con (.int 1))))) (.tup [.bop .mul (.tup [.var 2]) (.var 5)]), .con .non]) (.call "_law_take" [.var 0, .con (.int 5)])),
   .asg (.nm 7) (.idx (.lst [.neg (.con (.int 1)), .var 5, .bop .add (.var 5) (.con (.int 1))]) (.call "_law_take" [.var 0, .con (.int 3)])),
   .asg (.nm 8) (.idx (.lst [.con (.int 1), .con (.int 33), .con (.int 0), .neg (.con (.int 1))]) (.call "_law_take" [.var 0, .con (.int 4)]))]
def c_2 : List St' := [.ifs (.e (.cmp .ne (.call "_law_told" [.var 9, .var 6, .var 2, .var 3, .var 4]) (.tup [.con (.str "table"), .var 6, .con (.bl true)])))
       [.ret (.con (.bl false))]
       [],
     .ifs (.e (.cmp .ne (.call "_law_told" [.var 9, .var 6, .var 8, .var 3, .var 4]) (.tup [.con (.str "choice"), .con .non, .con (.bl true)])))
       [.ret (.con (.bl false))]
       [],
     .ifs (.e (.cmp .in_ (.var 9) (.lst [.con (.str "behind"), .con (.str "forged"), .con (.str "forger"), .con (.str "share")])))
       [.ifs (.e (.cmp .ne (.call "_law_told" [.var 9, .var 1, .var 2, .var 7, .var 4]) (.tup [.con (.str "choice"), .con .non, .con (.bl true)])))
         [.ret (.con (.bl false))]
         [],
       .ifs (.e (.cmp .ne (.call "_law_told" [.var 9, .var 6, .var 2, .var 7, .var 4]) (.tup [.con (.str "table"), .var 6, .con (.bl true)])))
         [.ret (.con (.bl false))]
         []]
       []]
def r_2 : St' := .loop (.nm 9) .seq [.lst [.con (.str "blind"), .con (.str "pair"), .con (.str "worst"), .con (.str "behind"), .con (.str "forged"), .con (.str "forger"), .con (.str "share")]] c_2
def r_3 : List St' := [.asg (.nm 10) (.call "_law_take" [.var 0, .var 2]),
   .asg (.nm 11) (.bop .add (.bop .add (.slc (.var 4) none (some (.var 10))) (.tup [.tup [.var 3, .call "_law_take" [.var 0, .var 2]]])) (.slc (.var 4) (some (.bop .add (.var 10) (.con (.int 1)))) none))]
def c_4 : List St' := [.ifs (.e (.cmp .ne (.call "_law_told" [.con (.str "share"), .var 1, .var 2, .var 3, .var 12]) (.tup [.con (.str "table"), .var 12, .con (.bl true)])))
       [.ret (.con (.bl false))]
       []]
def r_4 : St' := .loop (.nm 12) .seq [.lst [.var 11, .slc (.var 4) (some (.con (.int 1))) none, .bop .add (.var 4) (.slc (.var 4) none (some (.con (.int 1)))), .prim .list [.var 4], .bop .add (.bop .add (.slc (.var 4) none (some (.var 10))) (.tup [.con .non])) (.slc (.var 4) (some (.bop .add (.var 10) (.con (.int 1)))) none), .con .non]] c_4
def r_5 : List St' := [.ret (.cmp .eq (.call "_law_told" [.con (.str "share"), .var 1, .var 2, .var 7, .var 11]) (.tup [.con (.str "choice"), .con .non, .con (.bl true)]))]
theorem b_ref : b_law_refusals = r_1 ++ ([r_2] ++ (r_3 ++ ([r_4] ++ r_5))) := rfl
theorem srcD_seqL {xs : List PyData} : srcD .seq [.list xs] = some xs := rfl
def four : PyData := .list [.str "behind", .str "forged", .str "forger", .str "share"]
theorem in_four {nm : Str} (h : is4 nm) : cmpD .in_ (.str nm) four = some (.bool true) := by
  have e : cmpB .in_ (.str nm) four = some true := by
    rcases h with rfl | rfl | rfl | rfl <;> decide +kernel
  show (cmpB .in_ (.str nm) four).map PyData.bool = _
  rw [e]
  rfl
theorem not_four {nm : Str} (h : nm = "blind" ∨ nm = "pair" ∨ nm = "worst") : cmpD .in_ (.str nm) four = some (.bool false) := by
  have e : cmpB .in_ (.str nm) four = some false := by
    rcases h with rfl | rfl | rfl <;> decide +kernel
  show (cmpB .in_ (.str nm) four).map PyData.bool = _
  rw [e]
  rfl
theorem ref_2 {O NB : PyData} {B : Int} {z9 z10 z11 z12 : Sl} (eM : M = m) (h : FamOk m k rows) (ho : ¬ (0 ≤ out ∧ out < (k : Int))) (hO : BadF M O) (hB : ¬ (2 ≤ B ∧ B ≤ 32)) :
    ∃ y9, evS (tb (n + 6)) glob subX fuel r_2 (envR rows M seen NB N O out B z9 z10 z11 z12) s = .ok (.nx (envR rows M seen NB N O out B y9 z10 z11 z12)) s := by
  have hM : 2 ≤ M ∧ M ≤ 32 := by have := h.m2; have := h.m32; omega
  obtain ⟨env', s', e9, y9, rfl, rfl⟩ := loop_list (tg := .nm 9) (u := .str) (body := evSs (tb (n + 6)) glob subX fuel c_2)
    (Inv := fun _ env (s' : HS) => ∃ y9, env = envR rows M seen NB N O out B y9 z10 z11 z12 ∧ s' = s) ["blind", "pair", "worst", "behind", "forged", "forger", "share"] (fun done nm env s' hx hv => by
      obtain ⟨y9, rfl, rfl⟩ := hv
      simp only [List.mem_cons, List.not_mem_nil, or_false] at hx
      have h7 : is7 nm := hx
      have f1 := told_tab (try_fam (n := n) (s := s') (seen := seen) (Y := NB) h7 (fun j => x_check_family (n := j) hO) (keys_tab hM hO))
      have f2 := told_cho (try_fam (n := n) (s := s') (seen := seen) (Y := NB) (X := O) (M := B) h7 (fun j => c_check_family (n := j) (d := O) hB) (keys_cho hB))
      have q1 := ne_self shp_cho (by decide)
      have q2 := ne_self (shp_tab hO.2) (by decide)
      unfold choD at f2 q1
      unfold tabD at f1 q2
      refine ⟨_, envR rows M seen NB N O out B (.v (.str nm)) z10 z11 z12, s', by simp [envR]; rfl, ?_, _, rfl, rfl⟩
      by_cases h4 : is4 nm
      · have i4 := in_four h4
        unfold four at i4
        have f3 := told_cho (try_out (n := n) (s := s') (Y := NB) h4 eM h ho)
        have f4 := told_tab (try_fam (n := n) (s := s') (seen := out) (Y := NB) h7 (fun j => x_check_family (n := j) hO) (keys_tab hM hO))
        unfold choD at f3
        unfold tabD at f4
        unfold c_2
        simp [envR, tb_law_told, f1, q2, f2, q1, lenR, i4, f3, f4]
      · have i4 := not_four (nm := nm) (by
          unfold is4 at h4
          rcases hx with h | h | h | h | h | h | h
          · exact .inl h
          · exact .inr (.inl h)
          · exact .inr (.inr h)
          · exact absurd (.inl h) h4
          · exact absurd (.inr (.inl h)) h4
          · exact absurd (.inr (.inr (.inl h))) h4
          · exact absurd (.inr (.inr (.inr h))) h4)
        unfold four at i4
        unfold c_2
        simp [envR, tb_law_told, f1, q2, f2, q1, lenR, i4]) (env := envR rows M seen NB N O out B z9 z10 z11 z12) (s := s) ⟨z9, rfl, rfl⟩
  refine ⟨y9, ?_⟩
  simp only [List.map_cons, List.map_nil] at e9
  unfold envR at e9 ⊢
  unfold r_2
  simp [evS_loop, lenR, srcD_seqL, e9]
theorem loop_4 {O NB : PyData} {B : Int} {L : List PyData} {z9 z10 z11 z12 : Sl} (eM : M = m) (h : FamOk m k rows) (hs : 0 ≤ seen ∧ seen < (k : Int)) (hL : ∀ Y ∈ L, BadG rows M seen Y) :
    ∃ y12, loopS (.nm 12) (evSs (tb (n + 6)) glob subX fuel c_4) L (envR rows M seen NB N O out B z9 z10 z11 z12) s = .ok (.nx (envR rows M seen NB N O out B z9 z10 z11 y12)) s := by
  obtain ⟨env', s', e9, y12, rfl, rfl⟩ := loop_list (tg := .nm 12) (u := fun x => x) (body := evSs (tb (n + 6)) glob subX fuel c_4)
    (Inv := fun _ env (s' : HS) => ∃ y12, env = envR rows M seen NB N O out B z9 z10 z11 y12 ∧ s' = s) L (fun done Y env s' hx hv => by
      obtain ⟨y12, rfl, rfl⟩ := hv
      have hY := hL Y hx
      have f1 := told_wrong (n := n) (s := s') eM h hs hY
      have q2 := ne_self (shp_tab hY.2) (by decide)
      unfold tabD at f1 q2
      refine ⟨_, envR rows M seen NB N O out B z9 z10 z11 (.v Y), s', by simp [envR]; rfl, ?_, _, rfl, rfl⟩
      unfold c_4
      simp [envR, tb_law_told, f1, q2]) (env := envR rows M seen NB N O out B z9 z10 z11 z12) (s := s) ⟨z12, rfl, rfl⟩
  rw [List.map_id'] at e9
  exact ⟨y12, e9⟩
theorem r_law_refusals {F : Int → Int × Int} (ok : s.Ok) (eM : M = m) (h : FamOk m k rows) (hs : 0 ≤ seen ∧ seen < (k : Int)) : ∃ s', run (n + 6) f_law_refusals [.h, .d (FamD rows), .d (.int M), .d (.int seen), .d (nmT m F)] s = .ok (.bool true) s' := by
  obtain ⟨N, eN⟩ : ∃ N : Int, N = (k : Int) := ⟨_, rfl⟩
  have hk2 := h.n2
  have hm2 := h.m2
  have hm32 := h.m32
  have h5 := h.k1
  have h6 := h.k64
  obtain ⟨r0, rs, er⟩ : ∃ r0 rs, rows = r0 :: rs := by
    cases rows with
    | nil => simp at h5
    | cons r0 rs => exact ⟨r0, rs, rfl⟩
  obtain ⟨Hd, t, eH⟩ : ∃ Hd t, rows = Hd ++ [t] := by
    rcases List.eq_nil_or_concat rows with h0 | ⟨L, b, h0⟩
    · rw [h0] at h5; simp at h5
    · exact ⟨L, b, by rw [h0, List.concat_eq_append]⟩
  have l00 := (h.row r0 (by rw [er]; exact List.mem_cons_self)).1
  have i0 : idxD (FamD rows) (.int 0) = some (tupI r0) := idxD_tk (by decide) (by rw [er]; rfl)
  have l0 := len_tupI (t := r0) (N := N) (by rw [l00]; exact eN)
  have ls : primD .list [FamD rows] = some (.list (rows.map tupI)) := rfl
  have aT : bopD .add (tupI r0) (.tuple [.int 0]) = some (tupI (r0 ++ [0])) := by
    unfold tupI
    rw [bopD_addT (by rw [List.length_map]; show r0.length + 1 ≤ _; have := h.n32; omega), List.map_append]
    rfl
  have aF : bopD .add (FamD rows) (.tuple [tupI (r0 ++ [0])]) = some (.tuple (rows.map tupI ++ [tupI (r0 ++ [0])])) := bopD_addT (by rw [List.length_map]; show rows.length + 1 ≤ _; omega)
  have sl : slcD (FamD rows) none (some (-1)) = some (FamD Hd) := by
    show some (PyData.tuple (PV.cutD (rows.map tupI) none (some (-1)))) = _
    rw [cut_last, eH, List.map_append, List.length_append, List.length_map]
    show some (PyData.tuple ((Hd.map tupI ++ [tupI t]).take (Hd.length + 1 - 1))) = _
    rw [Nat.add_sub_cancel, List.take_left' (by rw [List.length_map])]
    rfl
  have rM := mulT1 (x := .int M) (c := N) (j := k) eN (by have := h.n32; omega)
  have aH : bopD .add (FamD Hd) (.tuple [.tuple (List.replicate k (.int M))]) = some (.tuple (Hd.map tupI ++ [.tuple (List.replicate k (.int M))])) := bopD_addT (by
    have := congrArg List.length eH
    rw [List.length_append, List.length_singleton] at this
    rw [List.length_map]; show Hd.length + 1 ≤ _; omega)
  obtain ⟨c, s1, t1, c0, c1, ok1⟩ := take_all ok (N := 5) (by omega) (by omega)
  obtain ⟨O, hO, i1⟩ := pickD (L := [.list (rows.map tupI), .tuple [], .tuple (rows.map tupI ++ [tupI (r0 ++ [0])]), .tuple (Hd.map tupI ++ [.tuple (List.replicate k (.int M))]), .none]) c0 (by show c < 5; omega)
  have hO2 := odd_fam eM h er eH O hO
  obtain ⟨e, s2, t2, e0, e1, ok2⟩ := take_all ok1 (N := 3) (by omega) (by omega)
  obtain ⟨out, hout, i2⟩ := getD_mem (L := [-1, N, N + 1]) e0 (by simpa using e1)
  have ho : ¬ (0 ≤ out ∧ out < (k : Int)) := by
    simp only [List.mem_cons, List.not_mem_nil, or_false] at hout
    omega
  have i2 : idxD (.list [.int (-1), .int N, .int (N + 1)]) (.int e) = some (.int out) := i2
  obtain ⟨d, s3, t3, d0, d1, ok3⟩ := take_all ok2 (N := 4) (by omega) (by omega)
  obtain ⟨B, hB, i3⟩ := getD_mem (L := [1, 33, 0, -1]) d0 (by simpa using d1)
  have hB2 : ¬ (2 ≤ B ∧ B ≤ 32) := by
    simp only [List.mem_cons, List.not_mem_nil, or_false] at hB
    omega
  have i3 : idxD (.list [.int 1, .int 33, .int 0, .int (-1)]) (.int d) = some (.int B) := i3
  have k1 : evSs (tb (n + 6)) glob subX fuel r_1 [.hand, .v (FamD rows), .v (.int M), .v (.int seen), .v (nmT m F), .no, .no, .no, .no, .no, .no, .no, .no] s = .ok (.nx (envR rows M seen (nmT m F) N O out B .no .no .no .no)) s3 := by
    obtain ⟨G1, g1⟩ : ∃ V, V = PyData.list (rows.map tupI) := ⟨_, rfl⟩
    rw [← g1] at ls i1
    obtain ⟨G2, g2⟩ : ∃ V, V = tupI (r0 ++ [0]) := ⟨_, rfl⟩
    rw [← g2] at aT aF i1
    obtain ⟨G3, g3⟩ : ∃ V, V = PyData.tuple (rows.map tupI ++ [G2]) := ⟨_, rfl⟩
    rw [← g3] at aF i1
    obtain ⟨G4, g4⟩ : ∃ V, V = PyData.tuple (List.replicate k (.int M)) := ⟨_, rfl⟩
    rw [← g4] at rM aH i1
    obtain ⟨G5, g5⟩ : ∃ V, V = PyData.tuple (Hd.map tupI ++ [G4]) := ⟨_, rfl⟩
    rw [← g5] at aH i1
    unfold r_1
    simp [envR, i0, l0, ls, aT, aF, sl, rM, aH, lenR, tb_law_take, t1, i1, t2, i2, t3, i3]
  obtain ⟨y9, k2⟩ := ref_2 (n := n) (s := s3) (seen := seen) (N := N) (NB := nmT m F) (z9 := .no) (z10 := .no) (z11 := .no) (z12 := .no) eM h ho hO2 hB2
  obtain ⟨a, s4, t4, a0, a1, ok4⟩ := take_all ok3 (N := M) (by omega) (by omega)
  obtain ⟨w, s5, t5, w0, w1, ok5⟩ := take_all ok4 (N := M) (by omega) (by omega)
  have ha : 0 ≤ a ∧ a < (m : Int) := by omega
  have p1 : slcD (nmT m F) none (some a) = some (.tuple ((NmD m F).take a.toNat)) := by
    show some (PyData.tuple (PV.cutD (NmD m F) none (some a))) = _
    rw [cut_to (m := a.toNat) (by omega)]
  have p2 : slcD (nmT m F) (some (a + 1)) none = some (.tuple ((NmD m F).drop (a.toNat + 1))) := by
    show some (PyData.tuple (PV.cutD (NmD m F) (some (a + 1)) none)) = _
    rw [cut_from (m := a.toNat + 1) (by omega) (by rw [nm_len]; omega)]
  have p3 : slcD (nmT m F) (some 1) none = some (.tuple ((NmD m F).drop 1)) := by
    show some (PyData.tuple (PV.cutD (NmD m F) (some 1) none)) = _
    rw [cut_from (a := 1) (m := 1) rfl (by rw [nm_len]; omega)]
  have p4 : slcD (nmT m F) none (some 1) = some (.tuple ((NmD m F).take 1)) := by
    show some (PyData.tuple (PV.cutD (NmD m F) none (some 1))) = _
    rw [cut_to (b := 1) (m := 1) rfl]
  have lt : ((NmD m F).take a.toNat).length = a.toNat := by rw [List.length_take, nm_len]; omega
  have ld : ((NmD m F).drop (a.toNat + 1)).length = m - (a.toNat + 1) := by rw [List.length_drop, nm_len]
  have ad1 : ∀ X, bopD .add (.tuple ((NmD m F).take a.toNat)) (.tuple [X]) = some (.tuple ((NmD m F).take a.toNat ++ [X])) := fun X => bopD_addT (by rw [lt, List.length_singleton]; omega)
  have ad2 : ∀ X, bopD .add (.tuple ((NmD m F).take a.toNat ++ [X])) (.tuple ((NmD m F).drop (a.toNat + 1))) = some (.tuple ((NmD m F).take a.toNat ++ [X] ++ (NmD m F).drop (a.toNat + 1))) := fun X => bopD_addT (by rw [List.length_append, lt, ld, List.length_singleton]; omega)
  have lt1 : ((NmD m F).take 1).length = 1 := by rw [List.length_take, nm_len]; omega
  have ad3 : bopD .add (nmT m F) (.tuple ((NmD m F).take 1)) = some (.tuple (NmD m F ++ (NmD m F).take 1)) := bopD_addT (by rw [lt1, nm_len]; omega)
  have li : primD .list [nmT m F] = some (.list (NmD m F)) := rfl
  have o1 := ad2 (.tuple [.int seen, .int w])
  rw [show (PyData.tuple [.int seen, .int w]) = pD (seen, w) from rfl, nm_set ha] at o1
  have o2 := ad2 .none
  rw [nm_none ha] at o2
  have ad1a := ad1 (.tuple [.int seen, .int w])
  rw [show (PyData.tuple [.int seen, .int w]) = pD (seen, w) from rfl] at ad1a
  have ad1b := ad1 .none
  have gs : BadG rows M seen (.tuple (NmD m (setF F a (seen, w)))) := ⟨wrong_seen (v0 := a) eM h ha (by unfold setF; rw [if_pos rfl]), Shp.tuple (shp_nm nm_mem)⟩
  have gn : BadG rows M seen (.tuple ((rgI m).map fun v => if v = a then .none else pD (F v))) := ⟨wrong_none eM (by omega) ha, Shp.tuple (shp_nm fun x hx => by
    obtain ⟨v, _, rfl⟩ := List.mem_map.mp hx
    by_cases hv : v = a
    · rw [if_pos hv]; exact .inl rfl
    · rw [if_neg hv]; exact .inr ⟨_, rfl⟩)⟩
  obtain ⟨OT, eOT⟩ : ∃ X, X = PyData.tuple (NmD m (setF F a (seen, w))) := ⟨_, rfl⟩
  obtain ⟨ON, eON⟩ : ∃ X, X = PyData.tuple ((rgI m).map fun v => if v = a then .none else pD (F v)) := ⟨_, rfl⟩
  rw [← eOT] at o1 gs
  rw [← eON] at o2 gn
  have k3 : evSs (tb (n + 6)) glob subX fuel r_3 (envR rows M seen (nmT m F) N O out B y9 .no .no .no) s3 = .ok (.nx (envR rows M seen (nmT m F) N O out B y9 (.v (.int a)) (.v OT) .no)) s5 := by
    have e1 : PyData.tuple [.int seen, .int w] = pD (seen, w) := rfl
    obtain ⟨NB, eNB⟩ : ∃ X, X = nmT m F := ⟨_, rfl⟩
    rw [← eNB] at p1 p2 ⊢
    obtain ⟨A1, x1⟩ : ∃ X, X = PyData.tuple ((NmD m F).take a.toNat) := ⟨_, rfl⟩
    obtain ⟨A2, x2⟩ : ∃ X, X = PyData.tuple ((NmD m F).drop (a.toNat + 1)) := ⟨_, rfl⟩
    obtain ⟨A3, x3⟩ : ∃ X, X = PyData.tuple ((NmD m F).take a.toNat ++ [pD (seen, w)]) := ⟨_, rfl⟩
    rw [← x1] at p1 ad1a
    rw [← x2] at p2 o1
    rw [← x3] at o1 ad1a
    unfold r_3
    simp [envR, tb_law_take, t4, p1, t5, lenR, e1, ad1a, p2, o1]
  obtain ⟨y12, k4⟩ := loop_4 (n := n) (s := s5) (out := out) (N := N) (O := O) (NB := nmT m F) (B := B) (L := [OT, .tuple ((NmD m F).drop 1), .tuple (NmD m F ++ (NmD m F).take 1), .list (NmD m F), ON, .none]) (z9 := y9) (z10 := .v (.int a)) (z11 := .v OT) (z12 := .no) eM h hs (fun Y hY => by
    simp only [List.mem_cons, List.not_mem_nil, or_false] at hY
    rcases hY with rfl | rfl | rfl | rfl | rfl | rfl
    · exact gs
    · exact ⟨wrong_len (by rw [List.length_drop, nm_len]; omega), Shp.tuple (shp_nm fun x hx => nm_mem x (List.mem_of_mem_drop hx))⟩
    · refine ⟨wrong_len (by rw [List.length_append, lt1, nm_len]; omega), Shp.tuple (shp_nm fun x hx => ?_)⟩
      rcases List.mem_append.mp hx with hx | hx
      · exact nm_mem x hx
      · exact nm_mem x (List.mem_of_mem_take hx)
    · exact ⟨wrong_no rfl, Shp.list (shp_nm nm_mem)⟩
    · exact gn
    · exact ⟨wrong_no rfl, .non⟩)
  have k5 : evS (tb (n + 6)) glob subX fuel r_4 (envR rows M seen (nmT m F) N O out B y9 (.v (.int a)) (.v OT) .no) s5 = .ok (.nx (envR rows M seen (nmT m F) N O out B y9 (.v (.int a)) (.v OT) y12)) s5 := by
    obtain ⟨NB, eNB⟩ : ∃ X, X = nmT m F := ⟨_, rfl⟩
    rw [← eNB] at p1 p2 p3 p4 ad3 li k4 ⊢
    obtain ⟨A1, x1⟩ : ∃ X, X = PyData.tuple ((NmD m F).take a.toNat) := ⟨_, rfl⟩
    obtain ⟨A2, x2⟩ : ∃ X, X = PyData.tuple ((NmD m F).drop (a.toNat + 1)) := ⟨_, rfl⟩
    obtain ⟨A3, x3⟩ : ∃ X, X = PyData.tuple ((NmD m F).take a.toNat ++ [.none]) := ⟨_, rfl⟩
    obtain ⟨A4, x4⟩ : ∃ X, X = PyData.tuple ((NmD m F).drop 1) := ⟨_, rfl⟩
    obtain ⟨A5, x5⟩ : ∃ X, X = PyData.tuple ((NmD m F).take 1) := ⟨_, rfl⟩
    obtain ⟨A6, x6⟩ : ∃ X, X = PyData.tuple (NmD m F ++ (NmD m F).take 1) := ⟨_, rfl⟩
    obtain ⟨A7, x7⟩ : ∃ X, X = PyData.list (NmD m F) := ⟨_, rfl⟩
    rw [← x1] at p1 ad1b
    rw [← x2] at p2 o2
    rw [← x3] at o2 ad1b
    rw [← x4] at p3 k4
    rw [← x5] at p4 ad3
    rw [← x6] at ad3 k4
    rw [← x7] at li k4
    unfold envR at k4 ⊢
    unfold r_4
    simp [evS_loop, lenR, p1, p2, p3, p4, ad3, li, ad1b, o2, srcD_seqL, k4]
  have f5 := told_cho (try_out (n := n) (s := s5) (nm := "share") (Y := OT) (.inr (.inr (.inr rfl))) eM h ho)
  have q5 := eq_self' shp_cho (by decide)
  unfold choD at f5 q5
  have k6 : evSs (tb (n + 6)) glob subX fuel r_5 (envR rows M seen (nmT m F) N O out B y9 (.v (.int a)) (.v OT) y12) s5 = .ok (.ret (.bool true)) s5 := by
    unfold r_5
    simp [envR, tb_law_told, f5, q5]
  refine ⟨s5, ?_⟩
  rw [run, run_eq (f := f_law_refusals) (body := b_law_refusals) rfl ⟨rfl, by decide⟩, b_ref]
  show retR (evSs (tb (n + 6)) glob subX fuel _ [.hand, .v (FamD rows), .v (.int M), .v (.int seen), .v (nmT m F), .no, .no, .no, .no, .no, .no, .no, .no] s) = _
  have j2 : evSs (tb (n + 6)) glob subX fuel [r_2] (envR rows M seen (nmT m F) N O out B .no .no .no .no) s3 = .ok (.nx (envR rows M seen (nmT m F) N O out B y9 .no .no .no)) s3 := by
    simp only [evSs_cons, evSs_nil, k2, thenS_nx]
  have j5 : evSs (tb (n + 6)) glob subX fuel [r_4] (envR rows M seen (nmT m F) N O out B y9 (.v (.int a)) (.v OT) .no) s5 = .ok (.nx (envR rows M seen (nmT m F) N O out B y9 (.v (.int a)) (.v OT) y12)) s5 := by
    simp only [evSs_cons, evSs_nil, k5, thenS_nx]
  rw [app_ev _ _ _ _ _ _ k1, app_ev _ _ _ _ _ _ j2, app_ev _ _ _ _ _ _ k3, app_ev _ _ _ _ _ _ j5, k6, retR_ret]
end
end K64
set_option Elab.async false
set_option linter.all false
set_option maxRecDepth 100000
set_option maxHeartbeats 4000000
namespace K64
open PySem PySem.Spec PyProof.Rows L2 PV
variable {s : HS} {n : Nat}
/-! ### the law -/
def IsMax (L : List Int) (m : Int) : Prop := m ∈ L ∧ ∀ x ∈ L, x ≤ m
theorem max_tup (L : List Int) (h : L ≠ []) : ∃ m, primD .max1 [tupI L] = some (.int m) ∧ IsMax L m := by
  cases L with
  | nil => exact absurd rfl h
  | cons x r =>
    have key : ∀ (r : List Int) (a : Int), (r.foldl max a = a ∨ r.foldl max a ∈ r) ∧ a ≤ r.foldl max a ∧ ∀ y ∈ r, y ≤ r.foldl max a := by
      intro r
      induction r with
      | nil => intro a; exact ⟨.inl rfl, Int.le_refl _, fun _ h => nomatch h⟩
      | cons b q ih =>
        intro a
        obtain ⟨h1, h2, h3⟩ := ih (max a b)
        have e : (b :: q).foldl max a = q.foldl max (max a b) := rfl
        rw [e]
        refine ⟨?_, by omega, fun y hy => ?_⟩
        · rcases h1 with h1 | h1
          · rcases Int.le_total a b with hab | hab
            · exact .inr (by rw [h1, Int.max_eq_right hab]; exact List.mem_cons_self)
            · exact .inl (by rw [h1, Int.max_eq_left hab])
          · exact .inr (List.mem_cons_of_mem _ h1)
        · rcases List.mem_cons.mp hy with rfl | hy
          · omega
          · exact h3 y hy
    obtain ⟨h1, h2, h3⟩ := key r x
    refine ⟨r.foldl max x, ?_, ?_, fun y hy => ?_⟩
    · show ((intsD ((x :: r).map .int)).bind maxI).map PyData.int = _
      rw [intsD_self]
      rfl
    · rcases h1 with h1 | h1
      · rw [h1]; exact List.mem_cons_self
      · exact List.mem_cons_of_mem _ h1
    · rcases List.mem_cons.mp hy with rfl | hy
      · exact h2
      · exact h3 y hy
theorem find_first {g : Int} : ∀ {L : List Int} {j : Nat}, L[j]? = some g → (∀ (i : Nat) (y : Int), i < j → L[i]? = some y → y ≠ g) → findD (.int g) (L.map .int) = some j
  | [], _, h, _ => nomatch h
  | x :: r, 0, h, _ => by
    have e : x = g := by simpa using h
    show (if (x == g) = true then some 0 else _) = _
    rw [if_pos (beq_iff_eq.mpr e)]
  | x :: r, j + 1, h, hn => by
    have hx : x ≠ g := hn 0 x (by omega) rfl
    have ih := find_first (L := r) (j := j) (by simpa using h) fun i y hi hy => hn (i + 1) y (by omega) (by simpa using hy)
    show (if (x == g) = true then some 0 else (findD (.int g) (r.map .int)).map (· + 1)) = _
    rw [if_neg (by rw [beq_iff_eq]; exact hx), ih]
    rfl
section
variable {m k : Nat} {M N K : Int} {rows : List (List Int)}
theorem sumB_in (h : FamOk m k rows) {x : Int} (hx : 0 ≤ x ∧ x < (k : Int)) : 0 ≤ sumB k m rows x ∧ sumB k m rows x ≤ rows.length := by
  have h1 := nmB_cnt h hx
  have h2 := cntN_in (rows := rows) (F := nmB k m rows x) (seen := x)
  omega
theorem worst_spec (h : FamOk m k rows) : ∀ r : Nat, r ≤ k → (r = 0 ∧ worstL k m rows (rgI r) = (-1, 0)) ∨ ∃ x0 : Int, (0 ≤ x0 ∧ x0 < (r : Int)) ∧ worstL k m rows (rgI r) = (sumB k m rows x0, x0) ∧ (∀ y : Int, 0 ≤ y → y < x0 → sumB k m rows y < sumB k m rows x0) ∧ ∀ y : Int, 0 ≤ y → y < (r : Int) → sumB k m rows y ≤ sumB k m rows x0
  | 0, _ => .inl ⟨rfl, rfl⟩
  | r + 1, hr => .inr (by
    have hs := sumB_in h (x := r) (by omega)
    have e : worstL k m rows (rgI (r + 1)) = wstep k m rows (worstL k m rows (rgI r)) r := by
      unfold worstL
      rw [rgI_succ, List.foldl_append]
      rfl
    rw [e]
    unfold wstep
    rcases worst_spec h r (by omega) with ⟨e0, e1⟩ | ⟨x0, hx, e1, h1, h2⟩
    · subst e0
      rw [e1, if_pos (by show (-1 : Int) < _; omega)]
      exact ⟨((0 : Nat) : Int), by omega, rfl, fun y y0 y1 => by omega, fun y y0 y1 => by
        have : y = ((0 : Nat) : Int) := by omega
        rw [this]
        exact Int.le_refl _⟩
    · rw [e1]
      by_cases hlt : sumB k m rows x0 < sumB k m rows r
      · rw [if_pos hlt]
        refine ⟨r, by omega, rfl, fun y y0 y1 => Int.lt_of_le_of_lt (h2 y y0 y1) hlt, fun y y0 y1 => ?_⟩
        by_cases hy : y = (r : Int)
        · rw [hy]; exact Int.le_refl _
        · exact Int.le_trans (h2 y y0 (by omega)) (Int.le_of_lt hlt)
      · rw [if_neg hlt]
        refine ⟨x0, by omega, rfl, h1, fun y y0 y1 => ?_⟩
        by_cases hy : y = (r : Int)
        · rw [hy]; exact Int.not_lt.mp hlt
        · exact h2 y y0 (by omega))
def b_lo : List St' := [.ifs (.and (.e (.var 6)) (.e (.cmp .ne (.bop .mul (.idx (.idx (.var 4) (.var 8)) (.con (.int 0))) (.var 10)) (.prim .len [.var 9]))))
       [.ret (.con (.bl false))]
       [],
     .ifs (.and (.e (.cmp .gt (.var 11) (.con (.int 0)))) (.e (.cmp .ne (.bop .mul (.idx (.idx (.var 4) (.var 8)) (.con (.int 0))) (.bop .sub (.var 11) (.con (.int 1)))) (.prim .len [.var 9]))))
       [.ret (.con (.bl false))]
       [],
     .ifs (.or (.e (.cmp .le (.prim .len [.var 9]) (.con (.int 4)))) (.e (.cmp .eq (.var 8) (.var 7))))
       [.ifs (.not (.e (.call "_law_seen" [.var 1, .var 9, .var 10, .var 8, .idx (.var 4) (.var 8)])))
         [.ret (.con (.bl false))]
         []]
       []]
theorem law_true : ∀ s : HS, s.Ok → ∃ s', evSs (den (fun f => table.lookup f) handB glob subX fuel depth) glob subX fuel f_law.body (env0 f_law.names.length 1) s = .ok (.ret (.bool true)) s' := by
  intro s ok
  obtain ⟨rows, m, k, M, Ln, s1, e1, h, eM, hb, hLn, ok1⟩ := r_law_family (n := 6) ok
  obtain ⟨hm7, hk7, hr49⟩ := hb
  obtain ⟨N, eN⟩ : ∃ N : Int, N = (k : Int) := ⟨_, rfl⟩
  obtain ⟨K, eK⟩ : ∃ K : Int, K = (rows.length : Int) := ⟨_, rfl⟩
  have hm2 := h.m2
  have hn2 := h.n2
  have hk1 := h.k1
  obtain ⟨t0, i0, l0⟩ := first_len h eN
  have lF := len_fam (rows := rows) eK
  obtain ⟨MD, eMD⟩ : ∃ X, X = PyData.tuple [FamD rows, .int M, .int Ln] := ⟨_, rfl⟩
  have nn : cmpD .is_ MD .none = some (.bool false) := by rw [eMD]; rfl
  have c1 : evE (tb 12) glob (.comp (.call "_law_forger" [.var 9, .var 10, .var 8]) (.nm 8) .rng1 [.var 3] [] [8]) [.no, .hand, .v MD, .v (.int N), .no, .no, .no, .no, .no, .v (FamD rows), .v (.int M), .v (.int Ln), .no] s1 = .ok (.list ((rgI k).map fun x => fgD k m rows x)) s1 := by
    refine comp_rng (R := N) (by simp) eN (by omega) (by simp) fun x x0 x1 => ?_
    have f := r_law_forger (n := 10) (s := s1) eM h ⟨x0, x1⟩
    simp [tb_law_forger, f]
  obtain ⟨D, eD⟩ : ∃ D : List Int, D = (rgI k).map (sumB k m rows) := ⟨_, rfl⟩
  obtain ⟨DU, eDU⟩ : ∃ D : List PyData, D = (rgI k).map fun x => fgD k m rows x := ⟨_, rfl⟩
  have c2 : ∀ z5 z6, evE (tb 12) glob (.comp (.idx (.var 12) (.con (.int 0))) (.nm 12) .seq [.var 4] [] [12]) [.no, .hand, .v MD, .v (.int N), .v (.list DU), z5, z6, .no, .no, .v (FamD rows), .v (.int M), .v (.int Ln), .no] s1 = .ok (.list (D.map .int)) s1 := fun z5 z6 => by
    rw [eD, List.map_map]
    refine comp_seq (ds := [.list DU]) (u := fun x => fgD k m rows x) (L := rgI k) (by simp) (by rw [eDU]; rfl) (by rw [rgI_len]; omega) fun x _ => ?_
    rw [turn_nm (by simp)]
    have i1 : idxD (fgD k m rows x) (.int 0) = some (.int (sumB k m rows x)) := rfl
    simp [turnK, i1]
  have lD : D.length = k := by rw [eD, List.length_map, rgI_len]
  obtain ⟨g, e5, hg⟩ := max_tup D fun z => by rw [z] at lD; simp at lD; omega
  have e5 : primD .max1 [.list (D.map .int)] = some (.int g) := e5
  have f6 := r_law_pairwise (n := 11) (s := s1) eM h
  rw [evB_eq h] at f6
  have f7 := r_worst_seen (n := 7) (s := s1) eM h
  obtain ⟨x0, hx0, w1, w2, w3⟩ : ∃ x0 : Int, (0 ≤ x0 ∧ x0 < (k : Int)) ∧ worstL k m rows (rgI k) = (sumB k m rows x0, x0) ∧ (∀ y : Int, 0 ≤ y → y < x0 → sumB k m rows y < sumB k m rows x0) ∧ ∀ y : Int, 0 ≤ y → y < (k : Int) → sumB k m rows y ≤ sumB k m rows x0 := by
    rcases worst_spec h k (Nat.le_refl _) with ⟨z, _⟩ | z
    · omega
    · exact z
  rw [w1] at f7
  have f7 : run 11 f_worst_seen [.d (FamD rows), .d (.int M)] s1 = .ok (.int x0) s1 := f7
  have gD : g = sumB k m rows x0 := by
    have h1 := hg.2 (sumB k m rows x0) (by rw [eD]; exact List.mem_map.mpr ⟨x0, rgI_mem.mpr hx0, rfl⟩)
    have h2 := hg.1
    rw [eD] at h2
    obtain ⟨y, hy, ey⟩ := List.mem_map.mp h2
    have hy := rgI_mem.mp hy
    have := w3 y hy.1 hy.2
    omega
  have Dget : ∀ i : Nat, i < k → D[i]? = some (sumB k m rows (i : Int)) := fun i hi => by
    rw [eD, List.getElem?_map, rgI_get hi]
    rfl
  have f8 : methD .index (.list (D.map .int)) [.int g] = some (.int x0) := by
    have ff := find_first (g := g) (L := D) (j := x0.toNat) (by rw [Dget _ (by omega), gD, show ((x0.toNat : Nat) : Int) = x0 by omega]) (fun i y hi hy => by
      rw [Dget i (by omega)] at hy
      have := w2 i (by omega) (by omega)
      have hy : sumB k m rows (i : Int) = y := by simpa using hy
      omega)
    show (if flatD (.int g) && (D.map PyData.int).all flatD then (findD (.int g) (D.map .int)).map fun j => PyData.int (j : Nat) else none) = _
    rw [flat_ints, ff]
    show some (PyData.int ((x0.toNat : Nat) : Int)) = _
    rw [show ((x0.toNat : Nat) : Int) = x0 by omega]
  have q1 := r_same (s := s1) 0 (d := .int x0) (.int _) 11
  have f9 := r_law_blind (n := 5) (s := s1) eM h
  have f10 := r_is_pairwise (n := 7) (s := s1) eM h
  have q2 := r_same_bl (n := 11) (s := s1) (isEv rows m k)
  obtain ⟨dr, s2, t2, d0, d1, ok2⟩ := take_all ok1 (N := N) (by omega) (by omega)
  have evn : isEv rows m k = true → ∀ x : Int, 0 ≤ x ∧ x < (k : Int) → sumB k m rows x * m = rows.length := fun hv x hx => ev_seen h hv hx
  have lne : 0 < Ln → ∀ x : Int, 0 ≤ x → x < (k : Int) → sumB k m rows x * (Ln - 1) = K := fun hp x x0 x1 => by
    rcases hLn with hz | ⟨ha, hi, ek, er⟩
    · omega
    · have := line_seen hi x (rgI_mem.mpr ⟨x0, by omega⟩)
      rw [ha, eM, eK, ek, er]
      rw [← er] at this
      rw [← er]
      exact this
  have Dix : ∀ x : Int, 0 ≤ x → x < (k : Int) → idxD (.list DU) (.int x) = some (fgD k m rows x) := fun x x0 x1 => by
    rw [eDU]
    exact idxL (F := fun x => fgD k m rows x) x0 x1
  obtain ⟨bv, ebv⟩ : ∃ b, b = isEv rows m k := ⟨_, rfl⟩
  rw [← ebv] at f6 f9 f10 q2 evn
  have lp := loop_map (tg := .nm 8) (u := .int) (r := k) (body := evSs (tb 12) glob subX fuel b_lo)
    (Inv := fun i env (s' : HS) => ∃ z8, env = [.no, .hand, .v MD, .v (.int N), .v (.list DU), .v (.int g), .v (.bool bv), .v (.int dr), z8, .v (FamD rows), .v (.int M), .v (.int Ln), .no] ∧ s'.Ok) (fun i env s' hi hv => by
      obtain ⟨z8, rfl, ok'⟩ := hv
      obtain ⟨x, ex⟩ : ∃ x : Int, x = (i : Int) := ⟨_, rfl⟩
      rw [← ex]
      have hx : 0 ≤ x ∧ x < (k : Int) := by omega
      have i1 := Dix x hx.1 hx.2
      have i2 : idxD (fgD k m rows x) (.int 0) = some (.int (sumB k m rows x)) := rfl
      have sb := sumB_in h hx
      have ev1 := fun hv => evn hv x hx
      have ln1 := fun hp => lne hp x hx.1 hx.2
      obtain ⟨s4, f4, ok4⟩ := r_law_seen (n := 5) (s := s') ok' eM h hx
      obtain ⟨FG, eFG⟩ : ∃ X, X = fgD k m rows x := ⟨_, rfl⟩
      rw [← eFG] at i1 i2 f4
      obtain ⟨SB, eSB⟩ : ∃ X, X = sumB k m rows x := ⟨_, rfl⟩
      rw [← eSB] at i2 ev1 ln1 sb
      have m1 := bopD_mul (i := SB) (j := M) (mulOk_r (by omega))
      have hL7 : Ln ≤ 7 := by rcases hLn with hz | ⟨ha, _⟩ <;> omega
      have hL0 : 0 ≤ Ln := by rcases hLn with hz | ⟨ha, _⟩ <;> omega
      have m2 := bopD_mul (i := SB) (j := Ln - 1) (mulOk_r (by omega))
      have first : ∀ r : RS HS, evSs (tb 12) glob subX fuel (b_lo.drop 2) [.no, .hand, .v MD, .v (.int N), .v (.list DU), .v (.int g), .v (.bool bv), .v (.int dr), .v (.int x), .v (FamD rows), .v (.int M), .v (.int Ln), .no] s' = r → evSs (tb 12) glob subX fuel b_lo [.no, .hand, .v MD, .v (.int N), .v (.list DU), .v (.int g), .v (.bool bv), .v (.int dr), .v (.int x), .v (FamD rows), .v (.int M), .v (.int Ln), .no] s' = r := fun r e => by
        have k1 : evSs (tb 12) glob subX fuel (b_lo.take 2) [.no, .hand, .v MD, .v (.int N), .v (.list DU), .v (.int g), .v (.bool bv), .v (.int dr), .v (.int x), .v (FamD rows), .v (.int M), .v (.int Ln), .no] s' = .ok (.nx [.no, .hand, .v MD, .v (.int N), .v (.list DU), .v (.int g), .v (.bool bv), .v (.int dr), .v (.int x), .v (FamD rows), .v (.int M), .v (.int Ln), .no]) s' := by
          show evSs (tb 12) glob subX fuel [.ifs (.and (.e (.var 6)) (.e (.cmp .ne (.bop .mul (.idx (.idx (.var 4) (.var 8)) (.con (.int 0))) (.var 10)) (.prim .len [.var 9]))))
       [.ret (.con (.bl false))]
       [],
     .ifs (.and (.e (.cmp .gt (.var 11) (.con (.int 0)))) (.e (.cmp .ne (.bop .mul (.idx (.idx (.var 4) (.var 8)) (.con (.int 0))) (.bop .sub (.var 11) (.con (.int 1)))) (.prim .len [.var 9]))))
       [.ret (.con (.bl false))]
       []] _ _ = _
          have hev : bv = true → SB * M = K := fun hv => by rw [eM, eK]; exact ev1 hv
          cases bv with
          | false =>
            by_cases hp : 0 < Ln
            · have e2 := ln1 hp
              simp [i1, i2, m2, lF, hp, e2]
            · simp [i1, i2, lF, hp]
          | true =>
            have e1 := hev rfl
            by_cases hp : 0 < Ln
            · have e2 := ln1 hp
              simp [i1, i2, m1, m2, lF, hp, e1, e2]
            · simp [i1, i2, m1, lF, hp, e1]
        have := app_ev (b_lo.take 2) (b_lo.drop 2) _ _ _ _ k1
        rw [List.take_append_drop] at this
        rw [this, e]
      by_cases hc : K ≤ 4 ∨ x = dr
      · refine ⟨[.no, .hand, .v MD, .v (.int N), .v (.list DU), .v (.int g), .v (.bool bv), .v (.int dr), .v (.int x), .v (FamD rows), .v (.int M), .v (.int Ln), .no], _, s4, by simp, first _ ?_, .v (.int x), rfl, ok4⟩
        show evSs (tb 12) glob subX fuel [.ifs (.or (.e (.cmp .le (.prim .len [.var 9]) (.con (.int 4)))) (.e (.cmp .eq (.var 8) (.var 7))))
       [.ifs (.not (.e (.call "_law_seen" [.var 1, .var 9, .var 10, .var 8, .idx (.var 4) (.var 8)])))
         [.ret (.con (.bl false))]
         []]
       []] _ _ = _
        by_cases hk : K ≤ 4
        · simp [lF, hk, i1, tb_law_seen, f4]
        · have hd : x = dr := by omega
          have hb : (x == dr) = true := beq_iff_eq.mpr hd
          simp [lF, hk, hb, i1, tb_law_seen, f4]
      · refine ⟨[.no, .hand, .v MD, .v (.int N), .v (.list DU), .v (.int g), .v (.bool bv), .v (.int dr), .v (.int x), .v (FamD rows), .v (.int M), .v (.int Ln), .no], _, s', by simp, first _ ?_, .v (.int x), rfl, ok'⟩
        show evSs (tb 12) glob subX fuel [.ifs (.or (.e (.cmp .le (.prim .len [.var 9]) (.con (.int 4)))) (.e (.cmp .eq (.var 8) (.var 7))))
       [.ifs (.not (.e (.call "_law_seen" [.var 1, .var 9, .var 10, .var 8, .idx (.var 4) (.var 8)])))
         [.ret (.con (.bl false))]
         []]
       []] _ _ = _
        have hk : ¬ K ≤ 4 := fun z => hc (.inl z)
        have hb : (x == dr) = false := beq_eq_false_iff_ne.mpr fun z => hc (.inr z)
        simp [lF, hk, hb]) (env := [.no, .hand, .v MD, .v (.int N), .v (.list DU), .v (.int g), .v (.bool bv), .v (.int dr), .no, .v (FamD rows), .v (.int M), .v (.int Ln), .no]) (s := s2) ⟨.no, rfl, ok2⟩
  obtain ⟨env', s5, lp, z8, rfl, ok5⟩ := lp
  obtain ⟨s6, f11⟩ := r_law_refusals (n := 5) (s := s5) (F := nmB k m rows dr) ok5 eM h ⟨d0, by omega⟩
  have i5 := Dix dr d0 (by omega)
  have i6 : idxD (fgD k m rows dr) (.int 1) = some (nmT m (nmB k m rows dr)) := by
    show some (PyData.tuple ((rgI m).map fun v => pO (bestB k m rows dr v).2)) = _
    rw [fg_names h]
    rfl
  have seqD1 : seqD (.list (D.map .int)) = true := rfl
  rw [← eDU] at c1
  obtain ⟨DI, eDI⟩ : ∃ X : List PyData, X = D.map .int := ⟨_, rfl⟩
  simp only [← eDI] at c2 e5 f8 seqD1
  rw [← eMD] at e1
  have tgt : setTg (.tup [9, 10, 11]) MD [.no, .hand, .v MD, .no, .no, .no, .no, .no, .no, .no, .no, .no, .no] = some [.no, .hand, .v MD, .no, .no, .no, .no, .no, .no, .v (FamD rows), .v (.int M), .v (.int Ln), .no] := by rw [eMD]; simp
  refine ⟨s6, ?_⟩
  show evSs (tb 12) glob subX fuel b_law [.no, .hand, .no, .no, .no, .no, .no, .no, .no, .no, .no, .no, .no] s = _
  unfold b_lo at lp
  rw [b_law]
  simp [tb_law_family, e1, nn, tgt, i0, l0, c1, c2, e5, -primD_max1L, tb_law_pairwise, f6, tb_worst_seen, f7, seqD1, f8, tb_law_same, q1, tb_law_blind, f9, tb_is_pairwise, f10, q2, tb_law_take, t2, evS_loop, srcD_rngR eN (show k ≤ 1000000 by omega), lp, i5, i6, tb_law_refusals, f11]
end
end K64
set_option Elab.async false
set_option linter.all false
set_option maxRecDepth 100000
set_option maxHeartbeats 4000000
/-! what the top has written; the law's own head -/
namespace K64
open PySem PySem.Spec PyProof.Rows L2 PV
/-- a def of the top -/
structure Dfn (K : PySem.W.Frag) (x : Str) (st : PySem.Stmt) (f : Addr) : Prop where
  ex : ∃ (oc : Value) (od : Option Addr) (kV dc pm : Value) (an : Option Addr) (cd ct : Value) (sl : Array (Option Value)), PySem.W.nsIn K mainGlobals x = some (some (.ref f)) ∧ K.lookup f = some ⟨oc, od, .func (PySem.W.fnOf x x (defArgs st) (defBody st) (defScope st) .none kV dc pm an cd ct), sl⟩ ∧ PySem.W.codeIn K cd x = true ∧ PySem.W.keepIn K (.ref f) = true
theorem Dfn.fn {K : PySem.W.Frag} {x : Str} {st : PySem.Stmt} {f : Addr} {h : Heap} {mg : Str → Option Value} (d : Dfn K x st f) (X : K.In h) (G : h.Ns mainGlobals mg) : ∃ fd, Fun K x x st f fd ∧ mg x = some (.ref f) := by
  obtain ⟨oc, od, kV, dc, pm, an, cd, ct, sl, a, l, c, k⟩ := d.ex
  exact ⟨_, fun_mk (st := st) l c k, PySem.W.mg_of X G a⟩
theorem lookup_mem {f : Str} {fn : Fn} : ∀ {t : List (Str × Fn)}, t.lookup f = some fn → (f, fn) ∈ t := by
  intro t
  induction t with
  | nil => intro h; cases h
  | cons p r ih =>
    intro h
    rw [List.lookup_cons] at h
    split at h
    · rename_i e
      cases h
      rw [beq_iff_eq.mp e]
      exact List.mem_cons_self
    · exact List.mem_cons_of_mem _ (ih h)
theorem all_mk {l : PySem.W.OpenLaw} {w : World} {K : PySem.W.Frag} {h : Heap} {mg : Str → Option Value} {fa : Addr} (X : K.In h) (G : h.Ns mainGlobals mg) (hfa : mg "law" = some (.ref fa))
    {a0 a1 a2 a3 a4 a5 a6 a7 a8 a9 a10 a11 a12 a13 a14 a15 a16 a17 a18 a19 a20 a21 a22 a23 a24 a25 a26 a27 a28 a29 a30 a31 a32 a33 a34 a35 a36 a37 a38 a39 a40 : Addr} {gt0 : Tok} {gt1 : Tok} {cB c0 c1 cI : Addr}
    (eB : Ecl K "BreakError" cB) (e0 : Ecl K "BadChoice" c0) (x0 : PySem.W.excIn K c0 veB "ValueError.__new__" = true) (e1 : Ecl K "BadTable" c1) (lw : PySem.LowX.LowI K c1 cI) (p0_0 : PySem.W.subIn K (.ref c0) (.ref c0) = some true) (p0_1 : PySem.W.subIn K (.ref c0) (.ref c1) = some false) (pB0 : PySem.W.subIn K (.ref c0) (.ref cB) = some true) (pV0 : PySem.W.subIn K (.ref c0) (.type "ValueError") = some true) (p1_0 : PySem.W.subIn K (.ref c1) (.ref c0) = some false) (p1_1 : PySem.W.subIn K (.ref c1) (.ref c1) = some true) (pB1 : PySem.W.subIn K (.ref c1) (.ref cB) = some true) (pV1 : PySem.W.subIn K (.ref c1) (.type "ValueError") = some true)
    (d0 : Dfn K "is_number" s_is_number a0) (d1 : Dfn K "fraction" s_fraction a1) (d2 : Dfn K "check_many" s_check_many a2) (d3 : Dfn K "check_prime" s_check_prime a3) (d4 : Dfn K "is_table" s_is_table a4) (d5 : Dfn K "is_family" s_is_family a5) (d6 : Dfn K "check_family" s_check_family a6) (d7 : Dfn K "check_input" s_check_input a7) (d8 : Dfn K "pairs_below" s_pairs_below a8) (d9 : Dfn K "is_pairwise" s_is_pairwise a9) (d10 : Dfn K "line_tables" s_line_tables a10) (d11 : Dfn K "line_family" s_line_family a11) (d12 : Dfn K "full_family" s_full_family a12) (d13 : Dfn K "put_behind" s_put_behind a13) (d14 : Dfn K "all_pairs" s_all_pairs a14) (d15 : Dfn K "pairs_beside" s_pairs_beside a15) (d16 : Dfn K "best_pair" s_best_pair a16) (d17 : Dfn K "best_beside" s_best_beside a17) (d18 : Dfn K "blind_share" s_blind_share a18) (d19 : Dfn K "blind_pair" s_blind_pair a19) (d20 : Dfn K "forged_share" s_forged_share a20) (d21 : Dfn K "forger" s_forger a21) (d22 : Dfn K "is_forger" s_is_forger a22) (d23 : Dfn K "forger_share" s_forger_share a23) (d24 : Dfn K "worst_seen" s_worst_seen a24) (d25 : Dfn K "keys_behind" s_keys_behind a25) (d26 : Dfn K "_law_hand" s_law_hand a26) (d27 : Dfn K "_law_take" s_law_take a27) (d28 : Dfn K "_law_cut" s_law_cut a28) (d29 : Dfn K "_law_same" s_law_same a29) (d30 : Dfn K "_law_drawn" s_law_drawn a30) (d31 : Dfn K "_law_lines" s_law_lines a31) (d32 : Dfn K "_law_family" s_law_family a32) (d33 : Dfn K "_law_best" s_law_best a33) (d34 : Dfn K "_law_forger" s_law_forger a34) (d35 : Dfn K "_law_told" s_law_told a35) (d36 : Dfn K "_law_refusals" s_law_refusals a36) (d37 : Dfn K "_law_blind" s_law_blind a37) (d38 : Dfn K "_law_seen" s_law_seen a38) (d39 : Dfn K "_law_pairwise" s_law_pairwise a39) (d40 : Dfn K "law" s_law a40)
    (gg0 : PySem.W.nsIn K mainGlobals "MOST_KEYS" = some (some (.int 64 gt0))) (gg1 : PySem.W.nsIn K mainGlobals "MOST_VALUES" = some (some (.int 32 gt1))) (zg : PySem.W.nsIn K mainGlobals "gcd" = some (some (.builtin "math.gcd")))
    (z0 : PySem.W.nsIn K mainGlobals "len" = some none) (z1 : PySem.W.nsIn K mainGlobals "tuple" = some none) (z2 : PySem.W.nsIn K mainGlobals "list" = some none) (z3 : PySem.W.nsIn K mainGlobals "int" = some none) (z4 : PySem.W.nsIn K mainGlobals "abs" = some none) (z5 : PySem.W.nsIn K mainGlobals "sum" = some none) (z6 : PySem.W.nsIn K mainGlobals "all" = some none) (z7 : PySem.W.nsIn K mainGlobals "any" = some none) (z8 : PySem.W.nsIn K mainGlobals "isinstance" = some none) (z9 : PySem.W.nsIn K mainGlobals "str" = some none) (z10 : PySem.W.nsIn K mainGlobals "min" = some none) (z11 : PySem.W.nsIn K mainGlobals "max" = some none) (z12 : PySem.W.nsIn K mainGlobals "range" = some none) (z13 : PySem.W.nsIn K mainGlobals "bool" = some none) (z14 : PySem.W.nsIn K mainGlobals "ValueError" = some none) (z15 : PySem.W.nsIn K mainGlobals "sorted" = some none) (z16 : PySem.W.nsIn K mainGlobals "enumerate" = some none) (z17 : PySem.W.nsIn K mainGlobals "zip" = some none) (z18 : PySem.W.nsIn K mainGlobals "reversed" = some none) (z19 : PySem.W.nsIn K mainGlobals "set" = some none) :
    ∃ fd : FuncData, (∀ (s : Shared) (v : Value), BindsTo s fd ⟨[v], []⟩ [("script", v)]) ∧ ∀ base : Heap, K.In base → base.Ns mainGlobals mg → FnOk l.prog w K mg base (L2.CX l.prog w) (depth + 3) fa fd ["script"] (spTrue K) := by
  obtain ⟨fd0, F0, m0⟩ := d0.fn X G
  obtain ⟨fd1, F1, m1⟩ := d1.fn X G
  obtain ⟨fd2, F2, m2⟩ := d2.fn X G
  obtain ⟨fd3, F3, m3⟩ := d3.fn X G
  obtain ⟨fd4, F4, m4⟩ := d4.fn X G
  obtain ⟨fd5, F5, m5⟩ := d5.fn X G
  obtain ⟨fd6, F6, m6⟩ := d6.fn X G
  obtain ⟨fd7, F7, m7⟩ := d7.fn X G
  obtain ⟨fd8, F8, m8⟩ := d8.fn X G
  obtain ⟨fd9, F9, m9⟩ := d9.fn X G
  obtain ⟨fd10, F10, m10⟩ := d10.fn X G
  obtain ⟨fd11, F11, m11⟩ := d11.fn X G
  obtain ⟨fd12, F12, m12⟩ := d12.fn X G
  obtain ⟨fd13, F13, m13⟩ := d13.fn X G
  obtain ⟨fd14, F14, m14⟩ := d14.fn X G
  obtain ⟨fd15, F15, m15⟩ := d15.fn X G
  obtain ⟨fd16, F16, m16⟩ := d16.fn X G
  obtain ⟨fd17, F17, m17⟩ := d17.fn X G
  obtain ⟨fd18, F18, m18⟩ := d18.fn X G
  obtain ⟨fd19, F19, m19⟩ := d19.fn X G
  obtain ⟨fd20, F20, m20⟩ := d20.fn X G
  obtain ⟨fd21, F21, m21⟩ := d21.fn X G
  obtain ⟨fd22, F22, m22⟩ := d22.fn X G
  obtain ⟨fd23, F23, m23⟩ := d23.fn X G
  obtain ⟨fd24, F24, m24⟩ := d24.fn X G
  obtain ⟨fd25, F25, m25⟩ := d25.fn X G
  obtain ⟨fd26, F26, m26⟩ := d26.fn X G
  obtain ⟨fd27, F27, m27⟩ := d27.fn X G
  obtain ⟨fd28, F28, m28⟩ := d28.fn X G
  obtain ⟨fd29, F29, m29⟩ := d29.fn X G
  obtain ⟨fd30, F30, m30⟩ := d30.fn X G
  obtain ⟨fd31, F31, m31⟩ := d31.fn X G
  obtain ⟨fd32, F32, m32⟩ := d32.fn X G
  obtain ⟨fd33, F33, m33⟩ := d33.fn X G
  obtain ⟨fd34, F34, m34⟩ := d34.fn X G
  obtain ⟨fd35, F35, m35⟩ := d35.fn X G
  obtain ⟨fd36, F36, m36⟩ := d36.fn X G
  obtain ⟨fd37, F37, m37⟩ := d37.fn X G
  obtain ⟨fd38, F38, m38⟩ := d38.fn X G
  obtain ⟨fd39, F39, m39⟩ := d39.fn X G
  obtain ⟨oc, od, kV, dc, pm, an, cd, ct, sl, ma40, la, ca, ka⟩ := d40.ex
  have m40 := PySem.W.mg_of X G ma40
  have F40 := fun_mk (st := s_law) la ca ka
  have e := hfa.symm.trans m40
  cases e
  have hb : ∀ x : Str, bltNames.contains x = true → mg x = none := fun x hx => by
    have key : ∀ y ∈ bltNames, mg y = none := by
      unfold bltNames
      simp only [List.forall_mem_cons]
      exact ⟨PySem.W.mg_none_of X G z0, PySem.W.mg_none_of X G z1, PySem.W.mg_none_of X G z2, PySem.W.mg_none_of X G z3, PySem.W.mg_none_of X G z4, PySem.W.mg_none_of X G z5, PySem.W.mg_none_of X G z6, PySem.W.mg_none_of X G z7, PySem.W.mg_none_of X G z8, PySem.W.mg_none_of X G z9, PySem.W.mg_none_of X G z10, PySem.W.mg_none_of X G z11, PySem.W.mg_none_of X G z12, PySem.W.mg_none_of X G z13, PySem.W.mg_none_of X G z14, PySem.W.mg_none_of X G z15, PySem.W.mg_none_of X G z16, PySem.W.mg_none_of X G z17, PySem.W.mg_none_of X G z18, PySem.W.mg_none_of X G z19, fun _ z => nomatch z⟩
    exact key x (List.contains_iff_mem.mp hx)
  have bh := F26.binds (ps := ["script"]) fun _ _ _ _ _ _ us hl => match us, hl with | [_], _ => rfl

  have bt := F27.binds (ps := ["hand", "many"]) fun _ _ _ _ _ _ us hl => match us, hl with | [_, _], _ => rfl
  have b0 := F0.binds (ps := f_is_number.params) fun _ _ _ _ _ _ us hl => match us, hl with | [_, _, _], _ => rfl
  have b1 := F1.binds (ps := f_fraction.params) fun _ _ _ _ _ _ us hl => match us, hl with | [_, _], _ => rfl
  have b2 := F2.binds (ps := f_check_many.params) fun _ _ _ _ _ _ us hl => match us, hl with | [_], _ => rfl
  have b3 := F3.binds (ps := f_check_prime.params) fun _ _ _ _ _ _ us hl => match us, hl with | [_], _ => rfl
  have b4 := F4.binds (ps := f_is_table.params) fun _ _ _ _ _ _ us hl => match us, hl with | [_, _, _], _ => rfl
  have b5 := F5.binds (ps := f_is_family.params) fun _ _ _ _ _ _ us hl => match us, hl with | [_, _], _ => rfl
  have b6 := F6.binds (ps := f_check_family.params) fun _ _ _ _ _ _ us hl => match us, hl with | [_, _], _ => rfl
  have b7 := F7.binds (ps := f_check_input.params) fun _ _ _ _ _ _ us hl => match us, hl with | [_, _], _ => rfl
  have b8 := F8.binds (ps := f_pairs_below.params) fun _ _ _ _ _ _ us hl => match us, hl with | [_], _ => rfl
  have b9 := F9.binds (ps := f_is_pairwise.params) fun _ _ _ _ _ _ us hl => match us, hl with | [_, _], _ => rfl
  have b10 := F10.binds (ps := f_line_tables.params) fun _ _ _ _ _ _ us hl => match us, hl with | [_, _, _], _ => rfl
  have b11 := F11.binds (ps := f_line_family.params) fun _ _ _ _ _ _ us hl => match us, hl with | [_, _], _ => rfl
  have b12 := F12.binds (ps := f_full_family.params) fun _ _ _ _ _ _ us hl => match us, hl with | [_], _ => rfl
  have b13 := F13.binds (ps := f_put_behind.params) fun _ _ _ _ _ _ us hl => match us, hl with | [_, _, _, _], _ => rfl
  have b14 := F14.binds (ps := f_all_pairs.params) fun _ _ _ _ _ _ us hl => match us, hl with | [_, _], _ => rfl
  have b15 := F15.binds (ps := f_pairs_beside.params) fun _ _ _ _ _ _ us hl => match us, hl with | [_, _, _], _ => rfl
  have b16 := F16.binds (ps := f_best_pair.params) fun _ _ _ _ _ _ us hl => match us, hl with | [_, _], _ => rfl
  have b17 := F17.binds (ps := f_best_beside.params) fun _ _ _ _ _ _ us hl => match us, hl with | [_, _, _], _ => rfl
  have b18 := F18.binds (ps := f_blind_share.params) fun _ _ _ _ _ _ us hl => match us, hl with | [_, _], _ => rfl
  have b19 := F19.binds (ps := f_blind_pair.params) fun _ _ _ _ _ _ us hl => match us, hl with | [_, _], _ => rfl
  have b20 := F20.binds (ps := f_forged_share.params) fun _ _ _ _ _ _ us hl => match us, hl with | [_, _, _], _ => rfl
  have b21 := F21.binds (ps := f_forger.params) fun _ _ _ _ _ _ us hl => match us, hl with | [_, _, _], _ => rfl
  have b22 := F22.binds (ps := f_is_forger.params) fun _ _ _ _ _ _ us hl => match us, hl with | [_, _, _, _], _ => rfl
  have b23 := F23.binds (ps := f_forger_share.params) fun _ _ _ _ _ _ us hl => match us, hl with | [_, _, _, _], _ => rfl
  have b24 := F24.binds (ps := f_worst_seen.params) fun _ _ _ _ _ _ us hl => match us, hl with | [_, _], _ => rfl
  have b25 := F25.binds (ps := f_keys_behind.params) fun _ _ _ _ _ _ us hl => match us, hl with | [_, _, _, _], _ => rfl
  have b28 := F28.binds (ps := f_law_cut.params) fun _ _ _ _ _ _ us hl => match us, hl with | [_, _], _ => rfl
  have b29 := F29.binds (ps := f_law_same.params) fun _ _ _ _ _ _ us hl => match us, hl with | [_, _], _ => rfl
  have b30 := F30.binds (ps := f_law_drawn.params) fun _ _ _ _ _ _ us hl => match us, hl with | [_, _, _, _], _ => rfl
  have b31 := F31.binds (ps := f_law_lines.params) fun _ _ _ _ _ _ us hl => match us, hl with | [_, _, _], _ => rfl
  have b32 := F32.binds (ps := f_law_family.params) fun _ _ _ _ _ _ us hl => match us, hl with | [_], _ => rfl
  have b33 := F33.binds (ps := f_law_best.params) fun _ _ _ _ _ _ us hl => match us, hl with | [_, _, _], _ => rfl
  have b34 := F34.binds (ps := f_law_forger.params) fun _ _ _ _ _ _ us hl => match us, hl with | [_, _, _], _ => rfl
  have b35 := F35.binds (ps := f_law_told.params) fun _ _ _ _ _ _ us hl => match us, hl with | [_, _, _, _, _], _ => rfl
  have b36 := F36.binds (ps := f_law_refusals.params) fun _ _ _ _ _ _ us hl => match us, hl with | [_, _, _, _, _], _ => rfl
  have b37 := F37.binds (ps := f_law_blind.params) fun _ _ _ _ _ _ us hl => match us, hl with | [_, _, _], _ => rfl
  have b38 := F38.binds (ps := f_law_seen.params) fun _ _ _ _ _ _ us hl => match us, hl with | [_, _, _, _, _], _ => rfl
  have b39 := F39.binds (ps := f_law_pairwise.params) fun _ _ _ _ _ _ us hl => match us, hl with | [_, _], _ => rfl
  have hD : ∀ f fn, handB f = none → table.lookup f = some fn → FOk K mg useGcd f fn := fun f fn _ hl => by
    have key : ∀ p ∈ table, FOk K mg useGcd p.1 p.2 := by
      unfold table
      simp only [List.forall_mem_cons]
      exact ⟨⟨⟨_, _, _, _, 60, 20, F0, m0, b0, sc_is_number, ck_is_number⟩⟩, ⟨⟨_, _, _, _, 60, 20, F1, m1, b1, sc_fraction, ck_fraction⟩⟩, ⟨⟨_, _, _, _, 60, 20, F2, m2, b2, sc_check_many, ck_check_many⟩⟩, ⟨⟨_, _, _, _, 60, 20, F3, m3, b3, sc_check_prime, ck_check_prime⟩⟩, ⟨⟨_, _, _, _, 60, 20, F4, m4, b4, sc_is_table, ck_is_table⟩⟩, ⟨⟨_, _, _, _, 60, 20, F5, m5, b5, sc_is_family, ck_is_family⟩⟩, ⟨⟨_, _, _, _, 60, 20, F6, m6, b6, sc_check_family, ck_check_family⟩⟩, ⟨⟨_, _, _, _, 60, 20, F7, m7, b7, sc_check_input, ck_check_input⟩⟩, ⟨⟨_, _, _, _, 60, 20, F8, m8, b8, sc_pairs_below, ck_pairs_below⟩⟩, ⟨⟨_, _, _, _, 60, 20, F9, m9, b9, sc_is_pairwise, ck_is_pairwise⟩⟩, ⟨⟨_, _, _, _, 60, 20, F10, m10, b10, sc_line_tables, ck_line_tables⟩⟩, ⟨⟨_, _, _, _, 60, 20, F11, m11, b11, sc_line_family, ck_line_family⟩⟩, ⟨⟨_, _, _, _, 60, 20, F12, m12, b12, sc_full_family, ck_full_family⟩⟩, ⟨⟨_, _, _, _, 60, 20, F13, m13, b13, sc_put_behind, ck_put_behind⟩⟩, ⟨⟨_, _, _, _, 60, 20, F14, m14, b14, sc_all_pairs, ck_all_pairs⟩⟩, ⟨⟨_, _, _, _, 60, 20, F15, m15, b15, sc_pairs_beside, ck_pairs_beside⟩⟩, ⟨⟨_, _, _, _, 60, 20, F16, m16, b16, sc_best_pair, ck_best_pair⟩⟩, ⟨⟨_, _, _, _, 60, 20, F17, m17, b17, sc_best_beside, ck_best_beside⟩⟩, ⟨⟨_, _, _, _, 60, 20, F18, m18, b18, sc_blind_share, ck_blind_share⟩⟩, ⟨⟨_, _, _, _, 60, 20, F19, m19, b19, sc_blind_pair, ck_blind_pair⟩⟩, ⟨⟨_, _, _, _, 60, 20, F20, m20, b20, sc_forged_share, ck_forged_share⟩⟩, ⟨⟨_, _, _, _, 60, 20, F21, m21, b21, sc_forger, ck_forger⟩⟩, ⟨⟨_, _, _, _, 60, 20, F22, m22, b22, sc_is_forger, ck_is_forger⟩⟩, ⟨⟨_, _, _, _, 60, 20, F23, m23, b23, sc_forger_share, ck_forger_share⟩⟩, ⟨⟨_, _, _, _, 60, 20, F24, m24, b24, sc_worst_seen, ck_worst_seen⟩⟩, ⟨⟨_, _, _, _, 60, 20, F25, m25, b25, sc_keys_behind, ck_keys_behind⟩⟩, ⟨⟨_, _, _, _, 60, 20, F28, m28, b28, sc_law_cut, ck_law_cut⟩⟩, ⟨⟨_, _, _, _, 60, 20, F29, m29, b29, sc_law_same, ck_law_same⟩⟩, ⟨⟨_, _, _, _, 60, 20, F30, m30, b30, sc_law_drawn, ck_law_drawn⟩⟩, ⟨⟨_, _, _, _, 60, 20, F31, m31, b31, sc_law_lines, ck_law_lines⟩⟩, ⟨⟨_, _, _, _, 60, 20, F32, m32, b32, sc_law_family, ck_law_family⟩⟩, ⟨⟨_, _, _, _, 60, 20, F33, m33, b33, sc_law_best, ck_law_best⟩⟩, ⟨⟨_, _, _, _, 60, 20, F34, m34, b34, sc_law_forger, ck_law_forger⟩⟩, ⟨⟨_, _, _, _, 60, 20, F35, m35, b35, sc_law_told, ck_law_told⟩⟩, ⟨⟨_, _, _, _, 60, 20, F36, m36, b36, sc_law_refusals, ck_law_refusals⟩⟩, ⟨⟨_, _, _, _, 60, 20, F37, m37, b37, sc_law_blind, ck_law_blind⟩⟩, ⟨⟨_, _, _, _, 60, 20, F38, m38, b38, sc_law_seen, ck_law_seen⟩⟩, ⟨⟨_, _, _, _, 60, 20, F39, m39, b39, sc_law_pairwise, ck_law_pairwise⟩⟩, fun _ z => nomatch z⟩
    exact key _ (lookup_mem hl)
  have hG : ∀ x d, glob x = some d → ∃ u v, mg x = some u ∧ RelV v u ∧ ∀ M, Rp K M d v := fun x d e => by
    unfold glob at e
    split at e
    · rename_i hx
      cases e
      subst hx
      exact ⟨_, .int 64, PySem.W.mg_of X G gg0, ⟨_, rfl⟩, fun _ => .int _⟩
    · split at e
      · rename_i hx
        cases e
        subst hx
        exact ⟨_, .int 32, PySem.W.mg_of X G gg1, ⟨_, rfl⟩, fun _ => .int _⟩
      · cases e
  have hxf : XF K mg ⟨fun c => List.lookup c ([("BadChoice", c0), ("BadTable", c1)] : List (Str × Addr)), "value"⟩ subX := by
    refine XF_mk X G eB ?_ ?_ ?_ ?_ ?_ ?_ (hb _ (by decide +kernel)) rfl ?_
    · simp only [List.forall_mem_cons]
      exact ⟨e0, e1, fun _ z => nomatch z⟩
    · simp only [List.forall_mem_cons]
      exact ⟨fun _ => x0, fun z => absurd z (by decide +kernel), fun _ z => nomatch z⟩
    · simp only [List.forall_mem_cons]
      exact ⟨fun z => absurd z (by decide +kernel), fun _ => ⟨_, lw.txt (PySem.W.mg_of X G e1.g) e1.hs e1.ty e1.hd e1.kp e1.ic p1_1 e1.hg e1.hk⟩, fun _ z => nomatch z⟩
    · simp only [List.forall_mem_cons]
      exact ⟨⟨p0_0, p0_1, fun _ z => nomatch z⟩, ⟨p1_0, p1_1, fun _ z => nomatch z⟩, fun _ z => nomatch z⟩
    · simp only [List.forall_mem_cons]
      exact ⟨pB0, pB1, fun _ z => nomatch z⟩
    · simp only [List.forall_mem_cons]
      exact ⟨pV0, pV1, fun _ z => nomatch z⟩
    · simp only [List.forall_mem_cons]
      exact ⟨⟨by decide, by decide⟩, ⟨by decide, by decide⟩, fun _ z => nomatch z⟩
  refine ⟨PySem.W.fnOf "law" "law" (defArgs s_law) (defBody s_law) (defScope s_law) .none kV dc pm an cd ct, fun s v => .of_eq rfl, fun base KB GB => ?_⟩
  have ht : ∀ z : Pl, StM l.prog w K mg base ⟨z.I, (⟨fun c => List.lookup c ([("BadChoice", c0), ("BadTable", c1)] : List (Str × Addr)), "value"⟩ : XI), den (fun f => table.lookup f) handB glob subX fuel depth, glob, useGcd, depth + 1⟩ subX := fun z =>
    den_ok (k0 := 1) (I := z.I) (J := (⟨fun c => List.lookup c ([("BadChoice", c0), ("BadTable", c1)] : List (Str × Addr)), "value"⟩ : XI)) (G := glob) (gcd := useGcd) (D := fun f => table.lookup f) (b := handB) (sub := subX) (F := fuel) hb (fun _ => PySem.W.mg_of X G zg) hG hD hxf (fun f Fb e => by
      unfold handB at e
      split at e
      · rename_i ef
        cases e
        subst ef
        exact ⟨_, _, _, m27, F27.kp, bt, ok_take F27 (hb _ (by decide +kernel)) (hb _ (by decide +kernel)), fun avs s hne => by
          apply Classical.byContradiction
          intro hh
          obtain ⟨n, rfl, _⟩ := takeD_cases hh
          exact hne rfl⟩
      · cases e) depth
  have FH := ok_hand (P := l.prog) (w := w) (base := base) F26 (hb _ (by decide +kernel)) (hb _ (by decide +kernel))
  exact (ok_law F40 (FH.mono (show 1 ≤ depth + 1 by omega)) m26 F26.kp bh ht law_true).mono (show depth + 2 ≤ depth + 3 by omega)
end K64
open PySem PySem.W PyProof.Rows
set_option maxHeartbeats 0 in
theorem PySem.Challenge.cw_carriedbreaks_k64_whole_marks_forged_holds : PySem.Challenge.rw_carriedbreaks_k64_whole_marks_forged.Holds := by
  w_on; o_law; k_head; (case hw => w_witness2)
  k_fill
  refine L2.walk_of (l := PySem.Challenge.rw_carriedbreaks_k64_whole_marks_forged) (n := 63) (k := K64.depth + 3) (x := "script") (CX := fun w => L2.CX (PySem.Challenge.rw_carriedbreaks_k64_whole_marks_forged).prog w) (sp := fun w => K64.spTrue _) rfl (by decide) rfl ⟨rfl, by decide, by decide⟩ (fun w h Y => PySem.W.kIn_of Y) ?F (fun _ _ a ns hl _ hS => ⟨rfl, a, ns, rfl, hS, hl, fun _ => rfl⟩) (fun _ _ _ _ _ h => by
    obtain ⟨_, _, _, _, _, _, _, _, _, _, _, _, z⟩ := h
    exact z)
  case F =>
    intro w mg fa h KX G hmg
    refine' K64.all_mk KX G hmg ?eB ?e0 ?x0 ?e1 ?lw ?p0_0 ?p0_1 ?pB0 ?pV0 ?p1_0 ?p1_1 ?pB1 ?pV1 ?d0 ?d1 ?d2 ?d3 ?d4 ?d5 ?d6 ?d7 ?d8 ?d9 ?d10 ?d11 ?d12 ?d13 ?d14 ?d15 ?d16 ?d17 ?d18 ?d19 ?d20 ?d21 ?d22 ?d23 ?d24 ?d25 ?d26 ?d27 ?d28 ?d29 ?d30 ?d31 ?d32 ?d33 ?d34 ?d35 ?d36 ?d37 ?d38 ?d39 ?d40 ?gg0 ?gg1 ?zg ?z0 ?z1 ?z2 ?z3 ?z4 ?z5 ?z6 ?z7 ?z8 ?z9 ?z10 ?z11 ?z12 ?z13 ?z14 ?z15 ?z16 ?z17 ?z18 ?z19
    (case eB => exact ⟨by k_is, by k_is, by k_is, by k_is, by k_is, by k_is, by k_is, by k_is, by k_is, by k_is, by k_is, by k_is⟩)
    (case e0 => exact ⟨by k_is, by k_is, by k_is, by k_is, by k_is, by k_is, by k_is, by k_is, by k_is, by k_is, by k_is, by k_is⟩)
    (case x0 => k_exc)
    (case e1 => exact ⟨by k_is, by k_is, by k_is, by k_is, by k_is, by k_is, by k_is, by k_is, by k_is, by k_is, by k_is, by k_is⟩)
    (case lw => exact ⟨⟨_, _, _, _, _, _, _, _, _, _, _, _, _, _, _, by k_is, by decide +kernel⟩, by k_is, by k_is, by k_is, by k_is, ⟨_, _, _, _, _, _, _, _, _, _, _, _, _, _, by k_is, by k_is⟩⟩)
    (case p0_0 => k_is)
    (case p0_1 => k_is)
    (case pB0 => k_is)
    (case pV0 => k_is)
    (case p1_0 => k_is)
    (case p1_1 => k_is)
    (case pB1 => k_is)
    (case pV1 => k_is)
    (case d0 => exact ⟨⟨_, _, _, _, _, _, _, _, _, by k_is, by k_is, by k_is, by k_is⟩⟩)
    (case d1 => exact ⟨⟨_, _, _, _, _, _, _, _, _, by k_is, by k_is, by k_is, by k_is⟩⟩)
    (case d2 => exact ⟨⟨_, _, _, _, _, _, _, _, _, by k_is, by k_is, by k_is, by k_is⟩⟩)
    (case d3 => exact ⟨⟨_, _, _, _, _, _, _, _, _, by k_is, by k_is, by k_is, by k_is⟩⟩)
    (case d4 => exact ⟨⟨_, _, _, _, _, _, _, _, _, by k_is, by k_is, by k_is, by k_is⟩⟩)
    (case d5 => exact ⟨⟨_, _, _, _, _, _, _, _, _, by k_is, by k_is, by k_is, by k_is⟩⟩)
    (case d6 => exact ⟨⟨_, _, _, _, _, _, _, _, _, by k_is, by k_is, by k_is, by k_is⟩⟩)
    (case d7 => exact ⟨⟨_, _, _, _, _, _, _, _, _, by k_is, by k_is, by k_is, by k_is⟩⟩)
    (case d8 => exact ⟨⟨_, _, _, _, _, _, _, _, _, by k_is, by k_is, by k_is, by k_is⟩⟩)
    (case d9 => exact ⟨⟨_, _, _, _, _, _, _, _, _, by k_is, by k_is, by k_is, by k_is⟩⟩)
    (case d10 => exact ⟨⟨_, _, _, _, _, _, _, _, _, by k_is, by k_is, by k_is, by k_is⟩⟩)
    (case d11 => exact ⟨⟨_, _, _, _, _, _, _, _, _, by k_is, by k_is, by k_is, by k_is⟩⟩)
    (case d12 => exact ⟨⟨_, _, _, _, _, _, _, _, _, by k_is, by k_is, by k_is, by k_is⟩⟩)
    (case d13 => exact ⟨⟨_, _, _, _, _, _, _, _, _, by k_is, by k_is, by k_is, by k_is⟩⟩)
    (case d14 => exact ⟨⟨_, _, _, _, _, _, _, _, _, by k_is, by k_is, by k_is, by k_is⟩⟩)
    (case d15 => exact ⟨⟨_, _, _, _, _, _, _, _, _, by k_is, by k_is, by k_is, by k_is⟩⟩)
    (case d16 => exact ⟨⟨_, _, _, _, _, _, _, _, _, by k_is, by k_is, by k_is, by k_is⟩⟩)
    (case d17 => exact ⟨⟨_, _, _, _, _, _, _, _, _, by k_is, by k_is, by k_is, by k_is⟩⟩)
    (case d18 => exact ⟨⟨_, _, _, _, _, _, _, _, _, by k_is, by k_is, by k_is, by k_is⟩⟩)
    (case d19 => exact ⟨⟨_, _, _, _, _, _, _, _, _, by k_is, by k_is, by k_is, by k_is⟩⟩)
    (case d20 => exact ⟨⟨_, _, _, _, _, _, _, _, _, by k_is, by k_is, by k_is, by k_is⟩⟩)
    (case d21 => exact ⟨⟨_, _, _, _, _, _, _, _, _, by k_is, by k_is, by k_is, by k_is⟩⟩)
    (case d22 => exact ⟨⟨_, _, _, _, _, _, _, _, _, by k_is, by k_is, by k_is, by k_is⟩⟩)
    (case d23 => exact ⟨⟨_, _, _, _, _, _, _, _, _, by k_is, by k_is, by k_is, by k_is⟩⟩)
    (case d24 => exact ⟨⟨_, _, _, _, _, _, _, _, _, by k_is, by k_is, by k_is, by k_is⟩⟩)
    (case d25 => exact ⟨⟨_, _, _, _, _, _, _, _, _, by k_is, by k_is, by k_is, by k_is⟩⟩)
    (case d26 => exact ⟨⟨_, _, _, _, _, _, _, _, _, by k_is, by k_is, by k_is, by k_is⟩⟩)
    (case d27 => exact ⟨⟨_, _, _, _, _, _, _, _, _, by k_is, by k_is, by k_is, by k_is⟩⟩)
    (case d28 => exact ⟨⟨_, _, _, _, _, _, _, _, _, by k_is, by k_is, by k_is, by k_is⟩⟩)
    (case d29 => exact ⟨⟨_, _, _, _, _, _, _, _, _, by k_is, by k_is, by k_is, by k_is⟩⟩)
    (case d30 => exact ⟨⟨_, _, _, _, _, _, _, _, _, by k_is, by k_is, by k_is, by k_is⟩⟩)
    (case d31 => exact ⟨⟨_, _, _, _, _, _, _, _, _, by k_is, by k_is, by k_is, by k_is⟩⟩)
    (case d32 => exact ⟨⟨_, _, _, _, _, _, _, _, _, by k_is, by k_is, by k_is, by k_is⟩⟩)
    (case d33 => exact ⟨⟨_, _, _, _, _, _, _, _, _, by k_is, by k_is, by k_is, by k_is⟩⟩)
    (case d34 => exact ⟨⟨_, _, _, _, _, _, _, _, _, by k_is, by k_is, by k_is, by k_is⟩⟩)
    (case d35 => exact ⟨⟨_, _, _, _, _, _, _, _, _, by k_is, by k_is, by k_is, by k_is⟩⟩)
    (case d36 => exact ⟨⟨_, _, _, _, _, _, _, _, _, by k_is, by k_is, by k_is, by k_is⟩⟩)
    (case d37 => exact ⟨⟨_, _, _, _, _, _, _, _, _, by k_is, by k_is, by k_is, by k_is⟩⟩)
    (case d38 => exact ⟨⟨_, _, _, _, _, _, _, _, _, by k_is, by k_is, by k_is, by k_is⟩⟩)
    (case d39 => exact ⟨⟨_, _, _, _, _, _, _, _, _, by k_is, by k_is, by k_is, by k_is⟩⟩)
    (case d40 => exact ⟨⟨_, _, _, _, _, _, _, _, _, by k_is, by k_is, by k_is, by k_is⟩⟩)
    (case gg0 => k_is)
    (case gg1 => k_is)
    (case zg => k_is)
    (case z0 => k_is)
    (case z1 => k_is)
    (case z2 => k_is)
    (case z3 => k_is)
    (case z4 => k_is)
    (case z5 => k_is)
    (case z6 => k_is)
    (case z7 => k_is)
    (case z8 => k_is)
    (case z9 => k_is)
    (case z10 => k_is)
    (case z11 => k_is)
    (case z12 => k_is)
    (case z13 => k_is)
    (case z14 => k_is)
    (case z15 => k_is)
    (case z16 => k_is)
    (case z17 => k_is)
    (case z18 => k_is)
    (case z19 => k_is)
