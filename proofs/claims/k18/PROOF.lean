import PyProof.Rows.All
import Wide.All
import OpenK.AllK
import Wide.FinOn
import HandS.ForMost
import HandS.Conv
import HandS.Deep
import HandS.TupAny
import HandS.TupLe
import HandS.IsInst
import HandS.Style
import HandS.SortRule
import HandS.SortInts
import HandS.AnyAll
import HandS.GenOver
import HandS.GenList
import HandS.Defaults
import HandS.TupMul
import HandS.More
import HandS.Text
import HandS.SetFor
import HandS.Strs
import HandS.SortKw
import PyProof.MinMaxWalk
import PyProof.WalkInts
import PyProof.GenQ
import PyProof.ConsumeS
import HandS.EndTab
import KE.DataMinMax
import HandS.CallLocal
import HandS.Dict
import KE.KDictKeyed
import HandS.RevRange
import PySem.Challenge.RW_backforth_k18_agreement_told
set_option Elab.async false
set_option linter.all false
set_option maxRecDepth 100000
/-! The tree layer, pure part: what Python's constructs do with trees of data (PyData) at names by number. -/
namespace TL
open PySem
abbrev D := PyData
abbrev Env := List (Option D)
abbrev SE := Env → Option D
abbrev ST := Env → Option Bool
abbrev SI := Env → Option (List D)
abbrev SG := D → Env → Option Env
inductive Out where
  | nx (e : Env) | rt (d : D) | bk (e : Env) | ct (e : Env)
abbrev SS := Env → Option Out

/-! ### values -/
@[simp] def toB : D → Option Bool
  | .bool b => some b
  | _ => none
@[simp] def toI : D → Option Int
  | .int i => some i
  | _ => none
def intsOf : List D → Option (List Int)
  | [] => some []
  | .int i :: r => (intsOf r).map (i :: ·)
  | _ => none
def boolsOf : List D → Option (List Bool)
  | [] => some []
  | .bool i :: r => (boolsOf r).map (i :: ·)
  | _ => none

/-! ### operators -/
def addD : D → D → Option D
  | .int a, .int b => some (.int (a + b))
  | .str a, .str b => if a.length + b.length ≤ sizeLine then some (.str (a ++ b)) else none
  | .tuple a, .tuple b => if a.length + b.length ≤ sizeLine then some (.tuple (a ++ b)) else none
  | .list a, .list b => if a.length + b.length ≤ sizeLine then some (.list (a ++ b)) else none
  | _, _ => none
def addLD : D → D → Option D
  | .list a, .list b => addD (.list a) (.list b)
  | _, _ => none
def subD : D → D → Option D
  | .int a, .int b => some (.int (a - b))
  | _, _ => none
/-! the tests by Nat.ble: the kernel stops at once where a letter stands -/
def okMul (a b : Int) : Bool := Nat.blt a.natAbs (2 ^ 64) || Nat.blt b.natAbs (2 ^ 64)
def okDiv (b : Int) : Bool := Nat.ble 1 b.toNat && Nat.ble b.toNat 1073741823
def okPow (a b : Int) : Bool := Nat.ble b.natAbs b.toNat && Nat.ble b.toNat 1000000 && Nat.blt a.natAbs (2 ^ 64)
def okRng (lo hi : Int) : Bool := Nat.ble lo.natAbs 4000000000000000000 && Nat.ble hi.natAbs 4000000000000000000 && Nat.ble (hi - lo).toNat sizeLine
def mulD : D → D → Option D
  | .int a, .int b => if okMul a b = true then some (.int (a * b)) else none
  | _, _ => none
def fdivD : D → D → Option D
  | .int a, .int b => if okDiv b = true then some (.int (a / b)) else none
  | _, _ => none
def modD : D → D → Option D
  | .int a, .int b => if 0 < b then some (.int (a % b)) else none
  | _, _ => none
def powD : D → D → Option D
  | .int a, .int b => if okPow a b = true then some (.int (a ^ b.toNat)) else none
  | _, _ => none
def negD : D → Option D
  | .int a => some (.int (-a))
  | _ => none
def eqD (a b : D) : Option D := if SeqAt.shaped a = true ∧ SeqAt.shaped b = true then some (.bool (PyData.eqv a b)) else none
def neD (a b : D) : Option D := if SeqAt.shaped a = true ∧ SeqAt.shaped b = true then some (.bool (!PyData.eqv a b)) else none
/-- order of lists of ints -/
def lexLt : List Int → List Int → Bool
  | [], [] => false
  | [], _ :: _ => true
  | _ :: _, [] => false
  | x :: xs, y :: ys => if x = y then lexLt xs ys else decide (x < y)
def ltD : D → D → Option D
  | .int a, .int b => some (.bool (decide (a < b)))
  | .tuple a, .tuple b => (intsOf a).bind fun x => (intsOf b).map fun y => .bool (lexLt x y)
  | _, _ => none
def leD : D → D → Option D
  | .int a, .int b => some (.bool (decide (a ≤ b)))
  | .tuple a, .tuple b => (intsOf a).bind fun x => (intsOf b).map fun y => .bool (!lexLt y x)
  | _, _ => none
def gtD : D → D → Option D
  | .int a, .int b => some (.bool (decide (b < a)))
  | .tuple a, .tuple b => (intsOf a).bind fun x => (intsOf b).map fun y => .bool (lexLt y x)
  | _, _ => none
def geD : D → D → Option D
  | .int a, .int b => some (.bool (decide (b ≤ a)))
  | .tuple a, .tuple b => (intsOf a).bind fun x => (intsOf b).map fun y => .bool (!lexLt x y)
  | _, _ => none
@[simp] def isNoneD : D → Bool
  | .none => true
  | _ => false
/-- x is y, y None or a bool -/
def isD : D → D → Option D
  | a, .none => some (.bool (isNoneD a))
  | .bool a, .bool b => some (.bool (decide (a = b)))
  | _, _ => none
def isntD (a b : D) : Option D := match isD a b with
  | some (.bool c) => some (.bool (!c))
  | _ => none
def inD : D → D → Option D
  | a, .list ds => if SeqAt.shaped a = true ∧ SeqAt.shaped (.list ds) = true then some (.bool (ds.any fun z => PyData.eqv z a)) else none
  | a, .tuple ds => if SeqAt.shaped a = true ∧ SeqAt.shaped (.tuple ds) = true then some (.bool (ds.any fun z => PyData.eqv z a)) else none
  | _, _ => none
def ninD (a b : D) : Option D := match inD a b with
  | some (.bool c) => some (.bool (!c))
  | _ => none
def ixD : D → D → Option D
  | .list ds, .int i => L2.atI ds i
  | .tuple ds, .int i => L2.atI ds i
  | .str z, .int i => if z.length ≤ sizeLine then (L2.atI z.cps.toList i).map fun c => .str ⟨#[c]⟩ else none
  | _, _ => none
def cutT {α : Type} (xs : List α) (lo hi : Option Int) : List α := (xs.drop (HT.sIx xs.length 0 lo)).take (HT.sIx xs.length xs.length hi - HT.sIx xs.length 0 lo)
def cutD (lo hi : Option Int) : D → Option D
  | .list ds => some (.list (cutT ds lo hi))
  | .tuple ds => some (.tuple (cutT ds lo hi))
  | _ => none
def revD : D → Option D
  | .list ds => some (.list ds.reverse)
  | .tuple ds => some (.tuple ds.reverse)
  | _ => none

/-! ### built-in functions -/
def lenD : D → Option D
  | .list ds => some (.int ds.length)
  | .tuple ds => some (.int ds.length)
  | .str z => if z.length ≤ sizeLine then some (.int z.length) else none
  | _ => none
def listD : D → Option D
  | .list ds => some (.list ds)
  | .tuple ds => some (.list ds)
  | _ => none
def tupleD : D → Option D
  | .list ds => some (.tuple ds)
  | .tuple ds => some (.tuple ds)
  | _ => none
def intD : D → Option D
  | .int i => some (.int i)
  | .bool b => some (.int (if b then 1 else 0))
  | _ => none
def allD : D → Option D
  | .list ds => (boolsOf ds).map fun bs => .bool (bs.all id)
  | _ => none
def anyD : D → Option D
  | .list ds => (boolsOf ds).map fun bs => .bool (bs.any id)
  | _ => none
def strD : D → Option D
  | .int i => if Nat.blt i.natAbs.log2 1920 = true then some (.str (toString i)) else none
  | _ => none
inductive Ty where | int | bool | str | tuple | list | dict
def isTy : Ty → D → Bool
  | .int, .int _ => true
  | .int, .bool _ => true
  | .bool, .bool _ => true
  | .str, .str _ => true
  | .tuple, .tuple _ => true
  | .list, .list _ => true
  | _, _ => false
def isiD (t : Ty) : D → Option D
  | .dict _ => none
  | d => some (.bool (isTy t d))
/-- insertion sort -/
def insB {α : Type} (lt : α → α → Bool) (x : α) : List α → List α
  | [] => [x]
  | y :: r => if lt y x = true then y :: insB lt x r else x :: y :: r
def isort {α : Type} (lt : α → α → Bool) : List α → List α
  | [] => []
  | x :: r => insB lt x (isort lt r)
def ltI (a b : Int) : Bool := decide (a < b)
def ltPr (p q : Int × Int) : Bool := if p.1 = q.1 then decide (p.2 < q.2) else decide (p.1 < q.1)
def prsOf : List D → Option (List (Int × Int))
  | [] => some []
  | .tuple [.int i, .int j] :: r => (prsOf r).map ((i, j) :: ·)
  | _ => none
def prD (p : Int × Int) : D := .tuple [.int p.1, .int p.2]
/-- sorted of ints, or of pairs of ints -/
def sortL (ds : List D) : Option (List D) := match intsOf ds with
  | some ns => some ((isort ltI ns).map .int)
  | none => (prsOf ds).map fun ps => (isort ltPr ps).map prD
def sortedD : D → Option D
  | .list ds => (sortL ds).map .list
  | .tuple ds => (sortL ds).map .list
  | _ => none
def max2D : D → D → Option D
  | .int i, .int j => some (.int (if j > i then j else i))
  | _, _ => none
def min2D : D → D → Option D
  | .int i, .int j => some (.int (if j < i then j else i))
  | _, _ => none

/-! ### expressions -/
@[simp] def eVar (i : Nat) : SE := fun env => env.getD i none
@[simp] def eC (d : D) : SE := fun _ => some d
@[simp] def e1 (op : D → Option D) (a : SE) : SE := fun env => (a env).bind op
@[simp] def e2 (op : D → D → Option D) (a b : SE) : SE := fun env => (a env).bind fun x => (b env).bind fun y => op x y
@[simp] def eIf (c : ST) (a b : SE) : SE := fun env => (c env).bind fun k => if k = true then a env else b env
@[simp] def eAnd (a b : SE) : SE := fun env => (a env).bind fun x => (toB x).bind fun k => if k = true then b env else some (.bool false)
@[simp] def eOr (a b : SE) : SE := fun env => (a env).bind fun x => (toB x).bind fun k => if k = true then some (.bool true) else b env
@[simp] def eNot (a : SE) : SE := fun env => (a env).bind fun x => (toB x).map fun k => .bool (!k)
/-- a op1 b op2 c -/
@[simp] def eChain (o1 o2 : D → D → Option D) (a b c : SE) : SE := fun env => (a env).bind fun x => (b env).bind fun y => (o1 x y).bind fun z => (toB z).bind fun k =>
  if k = true then (c env).bind fun w => o2 y w else some (.bool false)
@[simp] def eArgs : List SE → SI
  | [] => fun _ => some []
  | a :: r => fun env => (a env).bind fun x => (eArgs r env).map (x :: ·)
@[simp] def eTup (l : List SE) : SE := fun env => (eArgs l env).bind fun ds => if ds.length ≤ sizeLine then some (.tuple ds) else none
@[simp] def eLst (l : List SE) : SE := fun env => (eArgs l env).bind fun ds => if ds.length ≤ sizeLine then some (.list ds) else none
@[simp] def eCall (m : List D → Option D) (l : List SE) : SE := fun env => (eArgs l env).bind m
@[simp] def ePart : Option SE → Env → Option (Option Int)
  | none, _ => some none
  | some a, env => (a env).bind fun x => (toI x).map some
@[simp] def eSlice (a : SE) (lo hi : Option SE) : SE := fun env => (a env).bind fun x => (ePart lo env).bind fun l => (ePart hi env).bind fun h => cutD l h x
/-! what is walked -/
@[simp] def itemsD : D → Option (List D)
  | .list ds => some ds
  | .tuple ds => some ds
  | _ => none
@[simp] def iSeq (a : SE) : SI := fun env => (a env).bind itemsD
def rangeL (lo : Int) : Nat → List D
  | 0 => []
  | n + 1 => .int lo :: rangeL (lo + 1) n
def rangeD (lo hi : Int) : Option (List D) := if okRng lo hi = true then some (rangeL lo (hi - lo).toNat) else none
@[simp] def iRng1 (a : SE) : SI := fun env => (a env).bind fun x => (toI x).bind fun n => rangeD 0 n
@[simp] def iRng2 (a b : SE) : SI := fun env => (a env).bind fun x => (b env).bind fun y => (toI x).bind fun n => (toI y).bind fun m => rangeD n m
/-! targets -/
@[simp] def gName (i : Nat) : SG := fun d env => some (env.set i (some d))
@[simp] def gAll : List SG → List D → Env → Option Env
  | [], [], env => some env
  | g :: gs, d :: ds, env => (g d env).bind fun e => gAll gs ds e
  | _, _, _ => none
@[simp] def gTup (gs : List SG) : SG := fun d env => match d with
  | .tuple ds => gAll gs ds env
  | _ => none
/-! comprehensions -/
@[simp] def wipeE (env : Env) : List Nat → Env
  | [] => env
  | i :: r => (wipeE env r).set i none
@[simp] def cYes : ST := fun _ => some true
def lcGo (g : SG) (c : ST) (e : SE) (env : Env) : List D → Option (List D)
  | [] => some []
  | x :: xs => (g x env).bind fun env1 => (c env1).bind fun k =>
    if k = true then (e env1).bind fun y => (lcGo g c e env xs).map (y :: ·) else lcGo g c e env xs
@[simp] def eLc (vs : List Nat) (it : SI) (g : SG) (c : ST) (e : SE) : SE := fun env => (it env).bind fun ds => (lcGo g c e (wipeE env vs) ds).map .list
def lcGo2 (g : SG) (c : ST) (it1 : SI) (vs1 : List Nat) (g1 : SG) (c1 : ST) (e : SE) (env : Env) : List D → Option (List D)
  | [] => some []
  | x :: xs => (g x env).bind fun env1 => (c env1).bind fun k =>
    if k = true then (it1 env1).bind fun ds => (lcGo g1 c1 e (wipeE env1 vs1) ds).bind fun a => (lcGo2 g c it1 vs1 g1 c1 e env xs).map (a ++ ·) else lcGo2 g c it1 vs1 g1 c1 e env xs
@[simp] def eLc2 (vs : List Nat) (it : SI) (g : SG) (c : ST) (vs1 : List Nat) (it1 : SI) (g1 : SG) (c1 : ST) (e : SE) : SE := fun env => (it env).bind fun ds => (lcGo2 g c it1 vs1 g1 c1 e (wipeE env vs) ds).bind fun r =>
  if r.length ≤ sizeLine then some (.list r) else none
/-! ### tests -/
@[simp] def tV (a : SE) : ST := fun env => (a env).bind toB
@[simp] def tAnd (a b : ST) : ST := fun env => (a env).bind fun k => if k = true then b env else some false
@[simp] def tOr (a b : ST) : ST := fun env => (a env).bind fun k => if k = true then some true else b env
@[simp] def tNot (a : ST) : ST := fun env => (a env).map (!·)
/-! ### statements -/
@[simp] def sNext : SS := fun env => some (.nx env)
@[simp] def sSeq (a b : SS) : SS := fun env => (a env).bind fun o => match o with
  | .nx e => b e
  | .rt d => some (.rt d)
  | .bk e => some (.bk e)
  | .ct e => some (.ct e)
@[simp] def sBreak : SS := fun env => some (.bk env)
@[simp] def sCont : SS := fun env => some (.ct env)
@[simp] def sRet (a : SE) : SS := fun env => (a env).map .rt
@[simp] def sIf (c : ST) (a b : SS) : SS := fun env => (c env).bind fun k => if k = true then a env else b env
@[simp] def sAsg (a : SE) (g : SG) : SS := fun env => (a env).bind fun d => (g d env).map .nx
@[simp] def sDrop (a : SE) : SS := fun env => (a env).map fun _ => .nx env
@[simp] def sPar (i j : Nat) (a b : SE) : SS := fun env => (a env).bind fun x => (b env).map fun y => .nx ((env.set i (some x)).set j (some y))
@[simp] def sAug (op : D → D → Option D) (i : Nat) (a : SE) : SS := fun env => (env.getD i none).bind fun x => (a env).bind fun y => (op x y).map fun z => .nx (env.set i (some z))
/-- x.append(e), the list at slot i -/
@[simp] def sApp (i : Nat) (a : SE) : SS := fun env => (a env).bind fun y => match env.getD i none with
  | some (.list ds) => if ds.length < sizeLine then some (.nx (env.set i (some (.list (ds ++ [y]))))) else none
  | _ => none
/-- x.extend(e), e a new list -/
@[simp] def sExt (i : Nat) (a : SE) : SS := fun env => (a env).bind fun y => match env.getD i none, y with
  | some (.list ds), .list es => if ds.length + es.length ≤ sizeLine then some (.nx (env.set i (some (.list (ds ++ es))))) else none
  | _, _ => none
def forGo (g : SG) (body : SS) : List D → Env → Option Out
  | [], env => some (.nx env)
  | x :: xs, env => (g x env).bind fun env1 => (body env1).bind fun o => match o with
    | .nx e => forGo g body xs e
    | .ct e => forGo g body xs e
    | .bk e => some (.nx e)
    | .rt d => some (.rt d)
@[simp] def sFor (it : SI) (g : SG) (body : SS) : SS := fun env => (it env).bind fun ds => forGo g body ds env
def whileGo (c : ST) (body : SS) : Nat → Env → Option Out
  | 0, _ => none
  | n + 1, env => (c env).bind fun k => if k = true then (body env).bind fun o => match o with
    | .nx e => whileGo c body n e
    | .ct e => whileGo c body n e
    | .bk e => some (.nx e)
    | .rt d => some (.rt d) else some (.nx env)
@[simp] def sWhile (fuel : Nat) (c : ST) (body : SS) : SS := whileGo c body fuel
/-! ### a def -/
@[simp] def outD : Out → Option D
  | .rt d => some d
  | .nx _ => some .none
  | _ => none
/-- a value that is not None -/
def nnD (o : Option D) : Option D := o.bind fun d => match d with | .none => none | d => some d
/-- np parameters, nl further names -/
def runF (np nl : Nat) (body : SS) (ds : List D) : Option D :=
  if ds.length = np then (body (ds.map some ++ List.replicate nl none)).bind outD else none
end TL

set_option Elab.async false
set_option linter.all false
set_option maxRecDepth 100000
/-! The tree layer: lemmas on what the functions compute. -/
namespace TL
open PySem
theorem mul_l {a b : Int} (h1 : -(2 ^ 64) < a) (h2 : a < 2 ^ 64) : mulD (.int a) (.int b) = some (.int (a * b)) := by
  have h : okMul a b = true := by
    simp only [okMul, Bool.or_eq_true, Nat.blt_eq]
    exact .inl (by omega)
  simp only [mulD, h, if_true]
theorem mul_r {a b : Int} (h1 : -(2 ^ 64) < b) (h2 : b < 2 ^ 64) : mulD (.int a) (.int b) = some (.int (a * b)) := by
  have h : okMul a b = true := by
    simp only [okMul, Bool.or_eq_true, Nat.blt_eq]
    exact .inr (by omega)
  simp only [mulD, h, if_true]
theorem pow_18 : powD (.int 10) (.int 18) = some (.int 1000000000000000000) := by kernel_rfl
theorem mod_n {a b : Int} (h : 0 < b) : modD (.int a) (.int b) = some (.int (a % b)) := by
  show (if 0 < b then _ else _) = _
  rw [if_pos h]
theorem fdiv_n {a b : Int} (h : 0 < b) (h2 : b < 1073741824) : fdivD (.int a) (.int b) = some (.int (a / b)) := by
  have h : okDiv b = true := by
    simp only [okDiv, Bool.and_eq_true, Nat.ble_eq]
    exact ⟨by omega, by omega⟩
  simp only [fdivD, h, if_true]
@[simp] theorem add_i (a b : Int) : addD (.int a) (.int b) = some (.int (a + b)) := rfl
@[simp] theorem sub_i (a b : Int) : subD (.int a) (.int b) = some (.int (a - b)) := rfl
@[simp] theorem lt_i (a b : Int) : ltD (.int a) (.int b) = some (.bool (decide (a < b))) := rfl
@[simp] theorem le_i (a b : Int) : leD (.int a) (.int b) = some (.bool (decide (a ≤ b))) := rfl
@[simp] theorem gt_i (a b : Int) : gtD (.int a) (.int b) = some (.bool (decide (b < a))) := rfl
@[simp] theorem ge_i (a b : Int) : geD (.int a) (.int b) = some (.bool (decide (b ≤ a))) := rfl
@[simp] theorem int_i (a : Int) : intD (.int a) = some (.int a) := rfl
@[simp] theorem len_l (ds : List D) : lenD (.list ds) = some (.int ds.length) := rfl
@[simp] theorem len_t (ds : List D) : lenD (.tuple ds) = some (.int ds.length) := rfl
@[simp] theorem tuple_l (ds : List D) : tupleD (.list ds) = some (.tuple ds) := rfl
@[simp] theorem tuple_t (ds : List D) : tupleD (.tuple ds) = some (.tuple ds) := rfl
@[simp] theorem list_l (ds : List D) : listD (.list ds) = some (.list ds) := rfl
@[simp] theorem list_t (ds : List D) : listD (.tuple ds) = some (.list ds) := rfl
theorem canLay_int (i : Int) : PyData.canLay0 (.int i) = true := by simp [PyData.canLay0]
theorem canLay_bool (i : Bool) : PyData.canLay0 (.bool i) = true := by simp [PyData.canLay0]
theorem shaped_int (i : Int) : SeqAt.shaped (.int i) = true := by simp [SeqAt.shaped, PyData.canLay0, PyData.depth]
theorem shaped_bool (i : Bool) : SeqAt.shaped (.bool i) = true := by simp [SeqAt.shaped, PyData.canLay0, PyData.depth]
@[simp] theorem eq_i (a b : Int) : eqD (.int a) (.int b) = some (.bool (decide (a = b))) := by
  unfold eqD
  rw [if_pos ⟨shaped_int a, shaped_int b⟩]
  simp [PyData.eqv]
  by_cases h : a = b <;> simp [h]
@[simp] theorem ne_i (a b : Int) : neD (.int a) (.int b) = some (.bool (!decide (a = b))) := by
  unfold neD
  rw [if_pos ⟨shaped_int a, shaped_int b⟩]
  simp [PyData.eqv]
  by_cases h : a = b <;> simp [h]
@[simp] theorem is_b (a b : Bool) : isD (.bool a) (.bool b) = some (.bool (decide (a = b))) := rfl
@[simp] theorem is_n (a : D) : isD a .none = some (.bool (isNoneD a)) := by cases a <;> rfl
theorem small {n : Nat} (h : n ≤ 1000000) : n ≤ sizeLine := Nat.le_trans h (by decide)
theorem small' {n : Nat} (h : n ≤ 1000000) : n < sizeLine := Nat.lt_of_le_of_lt h (by decide)
theorem rng_n {lo hi : Int} (h1 : -1000000 ≤ lo) (h2 : lo ≤ 1000000) (h3 : -1000000 ≤ hi) (h4 : hi ≤ 1000000) : rangeD lo hi = some (rangeL lo (hi - lo).toNat) := by
  have h : okRng lo hi = true := by
    simp only [okRng, Bool.and_eq_true, Nat.ble_eq]
    exact ⟨⟨by omega, by omega⟩, Nat.le_trans (m := 2000000) (by omega) (by decide)⟩
  simp only [rangeD, h, if_true]
theorem ix_l {ds : List D} {i : Nat} {d : D} (h : ds[i]? = some d) : ixD (.list ds) (.int i) = some d := L2.atI_nat h
theorem ix_t {ds : List D} {i : Nat} {d : D} (h : ds[i]? = some d) : ixD (.tuple ds) (.int i) = some d := L2.atI_nat h
theorem ix_li {ds : List D} {i : Int} {d : D} (h0 : 0 ≤ i) (h : ds[i.toNat]? = some d) : ixD (.list ds) (.int i) = some d := by
  have := ix_l h
  rwa [Int.toNat_of_nonneg h0] at this
theorem ix_ti {ds : List D} {i : Int} {d : D} (h0 : 0 ≤ i) (h : ds[i.toNat]? = some d) : ixD (.tuple ds) (.int i) = some d := by
  have := ix_t h
  rwa [Int.toNat_of_nonneg h0] at this
theorem cat_t {a b : List D} (h : a.length + b.length ≤ sizeLine) : addD (.tuple a) (.tuple b) = some (.tuple (a ++ b)) := by
  show (if _ then _ else _) = _
  rw [if_pos h]
theorem cat_l {a b : List D} (h : a.length + b.length ≤ sizeLine) : addD (.list a) (.list b) = some (.list (a ++ b)) := by
  show (if _ then _ else _) = _
  rw [if_pos h]
/-! ### loops -/
/-- an invariant by the turn -/
theorem for_inv {g : SG} {body : SS} (I : Nat → Env → Prop) : ∀ (xs : List D) (i : Nat) (env : Env), I i env →
    (∀ j x env, xs[j]? = some x → I (i + j) env → ∃ e1, g x env = some e1 ∧ ∃ e2, (body e1 = some (.nx e2) ∨ body e1 = some (.ct e2)) ∧ I (i + j + 1) e2) → ∃ e, forGo g body xs env = some (.nx e) ∧ I (i + xs.length) e
  | [], i, env, h, _ => ⟨env, rfl, h⟩
  | x :: xs, i, env, h, step => by
    obtain ⟨e1, h1, e2, h2, h3⟩ := step 0 x env rfl h
    obtain ⟨e, h4, h5⟩ := for_inv I xs (i + 1) e2 h3 fun j y env' hy hI => by
      have := step (j + 1) y env' hy (by rw [show i + (j + 1) = i + 1 + j by omega]; exact hI)
      rwa [show i + (j + 1) + 1 = i + 1 + j + 1 by omega] at this
    refine ⟨e, ?_, by rw [show i + (x :: xs).length = i + 1 + xs.length by simp only [List.length_cons]; omega]; exact h5⟩
    simp only [forGo, h1, Option.bind_some]
    rcases h2 with h2 | h2 <;> (rw [h2]; exact h4)
theorem for_rng {g : SG} {body : SS} (I : Nat → Env → Prop) {lo : Int} {n : Nat} {env : Env} (h0 : I 0 env)
    (step : ∀ j env, j < n → I j env → ∃ e1, g (.int (lo + j)) env = some e1 ∧ ∃ e2, (body e1 = some (.nx e2) ∨ body e1 = some (.ct e2)) ∧ I (j + 1) e2) : ∃ e, forGo g body (rangeL lo n) env = some (.nx e) ∧ I n e := by
  have len : ∀ (lo : Int) n, (rangeL lo n).length = n := fun lo n => by
    induction n generalizing lo with
    | zero => rfl
    | succ n ih => exact congrArg (· + 1) (ih (lo + 1))
  have get : ∀ (n : Nat) (lo : Int) (j : Nat) x, (rangeL lo n)[j]? = some x → j < n ∧ x = .int (lo + j) := by
    intro n
    induction n with
    | zero => intro lo j x h; simp [rangeL] at h
    | succ n ih =>
      intro lo j x h
      cases j with
      | zero => simp [rangeL] at h; exact ⟨by omega, by rw [← h]; simp⟩
      | succ j =>
        obtain ⟨h1, h2⟩ := ih (lo + 1) j x h
        exact ⟨by omega, by rw [h2]; congr 1; omega⟩
  obtain ⟨e, h1, h2⟩ := for_inv I (rangeL lo n) 0 env h0 fun j x env hx hI => by
    obtain ⟨h3, h4⟩ := get n lo j x hx
    subst h4
    rw [Nat.zero_add] at hI ⊢
    exact step j env h3 hI
  rw [len, Nat.zero_add] at h2
  exact ⟨e, h1, h2⟩
/-! ### insertion sort is the sorted rearrangement -/
section
variable {α : Type} {lt : α → α → Bool}
theorem insB_perm (x : α) : ∀ l : List α, (insB lt x l).Perm (x :: l)
  | [] => List.Perm.refl _
  | y :: r => by
    unfold insB
    split
    · exact ((insB_perm x r).cons y).trans (List.Perm.swap x y r)
    · exact List.Perm.refl _
theorem isort_perm : ∀ l : List α, (isort lt l).Perm l
  | [] => List.Perm.refl _
  | x :: r => (insB_perm x (isort lt r)).trans ((isort_perm r).cons x)
/-- no later one comes before an earlier one -/
abbrev Asc (lt : α → α → Bool) (l : List α) : Prop := l.Pairwise fun a b => lt b a = false
theorem insB_asc (O : SrtO.Swo lt) (x : α) : ∀ l : List α, Asc lt l → Asc lt (insB lt x l)
  | [], _ => List.pairwise_singleton _ _
  | y :: r, h => by
    have hy := List.pairwise_cons.mp h
    unfold insB
    split
    · rename_i hlt
      refine List.pairwise_cons.mpr ⟨fun z hz => ?_, insB_asc O x r hy.2⟩
      rcases List.mem_cons.mp ((insB_perm x r).mem_iff.mp hz) with e | hz
      · rw [e]
        exact O.asym y x hlt
      · exact hy.1 z hz
    · rename_i hlt
      exact List.pairwise_cons.mpr ⟨fun z hz => by
        rcases List.mem_cons.mp hz with e | hz
        · rw [e]; exact Bool.eq_false_iff.mpr hlt
        · exact O.tr x y z (Bool.eq_false_iff.mpr hlt) (hy.1 z hz), h⟩
theorem isort_asc (O : SrtO.Swo lt) : ∀ l : List α, Asc lt (isort lt l)
  | [] => List.Pairwise.nil
  | x :: r => insB_asc O x _ (isort_asc O r)
/-- two such rearrangements are one, where unlike items are told apart -/
theorem asc_uniq (anti : ∀ x y, lt x y = false → lt y x = false → x = y) : ∀ {l m : List α}, l.Perm m → Asc lt l → Asc lt m → l = m
  | [], m, p, _, _ => (List.Perm.eq_nil p.symm).symm
  | x :: l, [], p, _, _ => absurd p.length_eq (by simp)
  | x :: l, y :: m, p, hl, hm => by
    have h1 := List.pairwise_cons.mp hl
    have h2 := List.pairwise_cons.mp hm
    have e : x = y := by
      rcases List.mem_cons.mp (p.mem_iff.mp (List.mem_cons_self (a := x) (l := l))) with e | hx
      · exact e
      · rcases List.mem_cons.mp (p.mem_iff.mpr (List.mem_cons_self (a := y) (l := m))) with e | hy
        · exact e.symm
        · exact anti x y (h2.1 x hx) (h1.1 y hy)
    subst e
    rw [asc_uniq anti p.cons_inv h1.2 h2.2]
end
theorem swoI : SrtO.Swo ltI := ⟨fun x y h => by
  have h' := of_decide_eq_true h
  exact decide_eq_false (by omega), fun x y z h1 h2 => by
  have a := of_decide_eq_false h1
  have b := of_decide_eq_false h2
  exact decide_eq_false (by omega)⟩
theorem antiI (x y : Int) (h1 : ltI x y = false) (h2 : ltI y x = false) : x = y := by
  have a := of_decide_eq_false h1
  have b := of_decide_eq_false h2
  omega
theorem ltPr_eq (p q : Int × Int) : ltPr p q = SrtO.lexB p q := rfl
theorem swoP : SrtO.Swo ltPr := by
  refine ⟨fun x y h => ?_, fun x y z h1 h2 => ?_⟩
  · have a := SrtO.lexB_iff.mp h
    refine SrtO.lexB_no.mpr ?_
    omega
  · have a := SrtO.lexB_no.mp h1
    have b := SrtO.lexB_no.mp h2
    refine SrtO.lexB_no.mpr ?_
    omega
theorem antiP (p q : Int × Int) (h1 : ltPr p q = false) (h2 : ltPr q p = false) : p = q := by
  have a := SrtO.lexB_no.mp h1
  have b := SrtO.lexB_no.mp h2
  have e1 : p.1 = q.1 := by omega
  have e2 : p.2 = q.2 := by omega
  exact Prod.ext e1 e2
theorem isort_lt {α : Type} {lt : α → α → Bool} (O : SrtO.Swo lt) (anti : ∀ x y, lt x y = false → lt y x = false → x = y) {l : List α} (hn : l.Nodup) : (isort lt l).Pairwise fun a b => lt a b = true := by
  have h1 := isort_asc O l
  have h2 : (isort lt l).Nodup := (isort_perm l).symm.nodup hn
  have := h1.and h2
  refine this.imp fun {a b} h => ?_
  cases q : lt a b with
  | true => rfl
  | false => exact absurd (anti a b q h.1) h.2
theorem sorted_ints (ns : List Int) : sortedD (.list (ns.map .int)) = some (.list ((isort ltI ns).map .int)) := by
  have h : ∀ ns : List Int, intsOf (ns.map .int) = some ns := by
    intro ns
    induction ns with
    | nil => rfl
    | cons n r ih => simp only [List.map_cons, intsOf, ih, Option.map_some]
  simp only [sortedD, sortL, h, Option.map_some]
theorem ints_of (ns : List Int) : intsOf (ns.map .int) = some ns := by
  induction ns with
  | nil => rfl
  | cons n r ih => simp only [List.map_cons, intsOf, ih, Option.map_some]
theorem sorted_prs (ps : List (Int × Int)) : sortedD (.list (ps.map prD)) = some (.list ((isort ltPr ps).map prD)) := by
  have h : ∀ ps : List (Int × Int), prsOf (ps.map prD) = some ps := by
    intro ps
    induction ps with
    | nil => rfl
    | cons n r ih => simp only [List.map_cons, prD, prsOf, ih, Option.map_some]
  cases ps with
  | nil => rfl
  | cons p r =>
    have e : intsOf ((p :: r).map prD) = none := rfl
    simp only [sortedD, sortL, e, h, Option.map_some]
/-! ### ranges, comprehensions -/
def rangeI (lo : Int) (n : Nat) : List Int := (List.range n).map fun (i : Nat) => lo + (i : Int)
theorem rangeL_eq : ∀ (n : Nat) (lo : Int), rangeL lo n = (rangeI lo n).map .int
  | 0, lo => rfl
  | n + 1, lo => by
    show PyData.int lo :: rangeL (lo + 1) n = _
    rw [rangeL_eq n (lo + 1)]
    unfold rangeI
    rw [List.range_succ_eq_map]
    simp only [List.map_cons, List.map_map]
    congr 1
    · simp
    · refine List.map_congr_left fun i _ => ?_
      simp only [Function.comp]
      congr 1
      omega
theorem rangeI_mem {lo a : Int} {n : Nat} : a ∈ rangeI lo n ↔ lo ≤ a ∧ a < lo + n := by
  unfold rangeI
  rw [List.mem_map]
  constructor
  · rintro ⟨i, hi, rfl⟩
    have := List.mem_range.mp hi
    omega
  · rintro ⟨h1, h2⟩
    exact ⟨(a - lo).toNat, List.mem_range.mpr (by omega), by omega⟩
theorem rangeI_asc (lo : Int) (n : Nat) : (rangeI lo n).Pairwise (· < ·) := by
  unfold rangeI
  refine List.pairwise_map.mpr (List.pairwise_lt_range.imp fun {a b} h => ?_)
  omega
theorem rangeI_len (lo : Int) (n : Nat) : (rangeI lo n).length = n := by
  unfold rangeI
  rw [List.length_map, List.length_range]
theorem rangeI_get {lo : Int} {n i : Nat} (h : i < n) : (rangeI lo n)[i]? = some (lo + i) := by
  unfold rangeI
  rw [List.getElem?_map, List.getElem?_range h]
  rfl
theorem rng_0 {n : Int} (h0 : 0 ≤ n) (h : n ≤ 1000000) : rangeD 0 n = some ((rangeI 0 n.toNat).map .int) := by
  rw [rng_n (by decide) (by decide) (by omega) h, rangeL_eq]
  simp
theorem rng_ab {a n : Int} (h1 : -1000000 ≤ a) (h2 : a ≤ 1000000) (h0 : -1000000 ≤ n) (h : n ≤ 1000000) : rangeD a n = some ((rangeI a (n - a).toNat).map .int) := by
  rw [rng_n h1 h2 h0 h, rangeL_eq]
/-- a comprehension, item by item -/
theorem lc_typed {α β : Type} {g : SG} {c : ST} {e : SE} {env : Env} (ι : α → D) (κ : β → D) (G : α → Option β) : ∀ {zs : List α},
    (∀ a ∈ zs, ∃ env1, g (ι a) env = some env1 ∧ ((∃ b, G a = some b ∧ c env1 = some true ∧ e env1 = some (κ b)) ∨ (G a = none ∧ c env1 = some false))) → lcGo g c e env (zs.map ι) = some ((zs.filterMap G).map κ)
  | [], _ => rfl
  | a :: zs, h => by
    obtain ⟨env1, h1, h2⟩ := h a List.mem_cons_self
    have ih := lc_typed ι κ G (zs := zs) fun b hb => h b (List.mem_cons_of_mem _ hb)
    simp only [List.map_cons, lcGo, h1, Option.bind_some]
    rcases h2 with ⟨b, h3, h4, h5⟩ | ⟨h3, h4⟩
    · simp [h4, h5, ih, List.filterMap_cons, h3]
    · simp [h4, ih, List.filterMap_cons, h3]
/-- without tests -/
theorem lc_map {α β : Type} {g : SG} {e : SE} {env : Env} (ι : α → D) (κ : β → D) (G : α → β) {zs : List α}
    (h : ∀ a ∈ zs, ∃ env1, g (ι a) env = some env1 ∧ e env1 = some (κ (G a))) : lcGo g cYes e env (zs.map ι) = some ((zs.map G).map κ) := by
  rw [lc_typed ι κ (fun a => some (G a)) fun a ha => by
    obtain ⟨env1, h1, h2⟩ := h a ha
    exact ⟨env1, h1, .inl ⟨G a, rfl, rfl, h2⟩⟩]
  congr 2
  exact List.filterMap_eq_map ▸ rfl
/-- with a test, the item itself or a value of it -/
theorem lc_filter {α β : Type} {g : SG} {c : ST} {e : SE} {env : Env} (ι : α → D) (κ : β → D) (p : α → Bool) (G : α → β) {zs : List α}
    (h : ∀ a ∈ zs, ∃ env1, g (ι a) env = some env1 ∧ c env1 = some (p a) ∧ (p a = true → e env1 = some (κ (G a)))) : lcGo g c e env (zs.map ι) = some (((zs.filter p).map G).map κ) := by
  rw [lc_typed ι κ (fun a => if p a = true then some (G a) else none) fun a ha => by
    obtain ⟨env1, h1, h2, h3⟩ := h a ha
    refine ⟨env1, h1, ?_⟩
    cases q : p a with
    | true => exact .inl ⟨G a, by simp, by rw [h2, q], h3 q⟩
    | false => exact .inr ⟨by simp, by rw [h2, q]⟩]
  congr 2
  induction zs with
  | nil => rfl
  | cons a zs ih =>
    have ih := ih fun b hb => h b (List.mem_cons_of_mem _ hb)
    cases q : p a <;> simp [q, ih]
theorem ix_ints {rs : List Int} {i : Int} (h0 : 0 ≤ i) (h : i < rs.length) : ixD (.list (rs.map .int)) (.int i) = some (.int (rs.getD i.toNat 0)) := by
  refine ix_li h0 ?_
  have h' : i.toNat < rs.length := by omega
  rw [List.getElem?_map, List.getD_eq_getElem?_getD, List.getElem?_eq_getElem h']
  rfl
theorem getD_mem {rs : List Int} {i : Nat} (h : i < rs.length) : rs.getD i 0 ∈ rs := by
  rw [List.getD_eq_getElem?_getD, List.getElem?_eq_getElem h]
  exact List.getElem_mem h
/-! ### statement by statement -/
theorem seq_go {a b : SS} {env e : Env} {r : Option Out} (h1 : a env = some (.nx e)) (h2 : b e = r) : sSeq a b env = r := by
  simp only [sSeq, h1, Option.bind_some]
  exact h2
theorem seq_rt {a b : SS} {env : Env} {d : D} (h1 : a env = some (.rt d)) : sSeq a b env = some (.rt d) := by
  simp only [sSeq, h1, Option.bind_some]
theorem run_rt {np nl : Nat} {body : SS} {ds : List D} {d : D} (hl : ds.length = np) (h : body (ds.map some ++ List.replicate nl none) = some (.rt d)) : runF np nl body ds = some d := by
  simp only [runF, hl, if_true, h, Option.bind_some, outD]
theorem if_t {c : ST} {a b : SS} {env : Env} {r : Option Out} (h1 : c env = some true) (h2 : a env = r) : sIf c a b env = r := by
  simp only [sIf, h1, Option.bind_some, if_true]
  exact h2
theorem if_f {c : ST} {a b : SS} {env : Env} {r : Option Out} (h1 : c env = some false) (h2 : b env = r) : sIf c a b env = r := by
  simp only [sIf, h1, Option.bind_some, Bool.false_eq_true, if_false]
  exact h2
theorem for_go {it : SI} {g : SG} {b : SS} {env : Env} {ds : List D} {r : Option Out} (h1 : it env = some ds) (h2 : forGo g b ds env = r) : sFor it g b env = r := by
  simp only [sFor, h1, Option.bind_some]
  exact h2
theorem lc_go {vs : List Nat} {it : SI} {g : SG} {c : ST} {e : SE} {env : Env} {ds rs : List D} (h1 : it env = some ds) (h2 : lcGo g c e (wipeE env vs) ds = some rs) : eLc vs it g c e env = some (.list rs) := by
  simp only [eLc, h1, Option.bind_some, h2, Option.map_some]
theorem asg_go {a : SE} {i : Nat} {env : Env} {d : D} (h : a env = some d) : sAsg a (TL.gName i) env = some (.nx (env.set i (some d))) := by
  simp only [sAsg, h, Option.bind_some, TL.gName, Option.map_some]
theorem e2_go {op : D → D → Option D} {a b : SE} {env : Env} {x y : D} {r : Option D} (h1 : a env = some x) (h2 : b env = some y) (h3 : op x y = r) : e2 op a b env = r := by
  simp only [e2, h1, h2, Option.bind_some]
  exact h3
theorem e1_go {op : D → Option D} {a : SE} {env : Env} {x : D} {r : Option D} (h1 : a env = some x) (h3 : op x = r) : e1 op a env = r := by
  simp only [e1, h1, Option.bind_some]
  exact h3
theorem ret_go {a : SE} {env : Env} {d : D} (h : a env = some d) : sRet a env = some (.rt d) := by
  simp only [sRet, h, Option.map_some]
theorem for_range {g : SG} {body : SS} (I : Int → Env → Prop) {lo : Int} {n : Nat} {env : Env} (h0 : I lo env)
    (step : ∀ a env, lo ≤ a → a < lo + n → I a env → ∃ e1, g (.int a) env = some e1 ∧ ∃ e2, (body e1 = some (.nx e2) ∨ body e1 = some (.ct e2)) ∧ I (a + 1) e2) : ∃ e, forGo g body ((rangeI lo n).map .int) env = some (.nx e) ∧ I (lo + n) e := by
  rw [← rangeL_eq]
  refine for_rng (fun j env => I (lo + j) env) (by simpa using h0) fun j env hj hI => ?_
  obtain ⟨e1, h1, e2, h2, h3⟩ := step (lo + j) env (by omega) (by omega) hI
  refine ⟨e1, h1, e2, h2, ?_⟩
  have : lo + (j : Int) + 1 = lo + ((j + 1 : Nat) : Int) := by omega
  rw [← this]
  exact h3
/-! ### pairs, rows of ints: as data -/
theorem shaped_of {d : D} (h1 : PyData.canLay0 d = true) (h2 : d.depth ≤ 64) : SeqAt.shaped d = true := by
  unfold SeqAt.shaped
  rw [h1, decide_eq_true h2]
  rfl
theorem lay_ints : ∀ l : List Int, PyData.canLayAll0 (l.map .int) = true
  | [] => by simp [PyData.canLayAll0]
  | i :: r => by simp [PyData.canLayAll0, PyData.canLay0, lay_ints r]
theorem dep_ints : ∀ l : List Int, PyData.depthAll (l.map .int) = 0
  | [] => by simp [PyData.depthAll]
  | i :: r => by simp [PyData.depthAll, PyData.depth, dep_ints r]
theorem lay_pr (p : Int × Int) : PyData.canLay0 (prD p) = true := by simp [prD, PyData.canLay0, PyData.canLayAll0]
theorem dep_pr (p : Int × Int) : (prD p).depth = 1 := by simp [prD, PyData.depth, PyData.depthAll]
theorem lay_prs : ∀ l : List (Int × Int), PyData.canLayAll0 (l.map prD) = true
  | [] => by simp [PyData.canLayAll0]
  | p :: r => by simp [PyData.canLayAll0, lay_pr p, lay_prs r]
theorem dep_prs : ∀ l : List (Int × Int), PyData.depthAll (l.map prD) ≤ 1
  | [] => by simp [PyData.depthAll]
  | p :: r => by
    have h := dep_prs r
    simp only [List.map_cons, PyData.depthAll, dep_pr p]
    omega
theorem shaped_pr (p : Int × Int) : SeqAt.shaped (prD p) = true := shaped_of (lay_pr p) (by rw [dep_pr]; decide)
theorem shaped_li (l : List Int) : SeqAt.shaped (.list (l.map .int)) = true := shaped_of (by simp [PyData.canLay0, lay_ints l]) (by simp [PyData.depth, dep_ints l])
theorem shaped_ti (l : List Int) : SeqAt.shaped (.tuple (l.map .int)) = true := shaped_of (by simp [PyData.canLay0, lay_ints l]) (by simp [PyData.depth, dep_ints l])
theorem shaped_lp (l : List (Int × Int)) : SeqAt.shaped (.list (l.map prD)) = true := shaped_of (by simp [PyData.canLay0, lay_prs l]) (by
  have := dep_prs l
  simp only [PyData.depth]
  omega)
theorem shaped_tp (l : List (Int × Int)) : SeqAt.shaped (.tuple (l.map prD)) = true := shaped_of (by simp [PyData.canLay0, lay_prs l]) (by
  have := dep_prs l
  simp only [PyData.depth]
  omega)
theorem eqv_int (a b : Int) : PyData.eqv (.int a) (.int b) = decide (a = b) := by
  simp [PyData.eqv]
  by_cases h : a = b <;> simp [h]
theorem eqv_pr (p q : Int × Int) : PyData.eqv (prD p) (prD q) = decide (p = q) := by
  obtain ⟨a, b⟩ := p
  obtain ⟨c, d⟩ := q
  simp only [prD, PyData.eqv, PyData.eqvAll, Bool.and_true]
  by_cases h : a = c <;> by_cases h2 : b = d <;> simp [h, h2]
theorem any_ints (i : Int) : ∀ l : List Int, ((l.map PyData.int).any fun z => PyData.eqv z (.int i)) = decide (i ∈ l)
  | [] => by simp
  | a :: r => by
    simp only [List.map_cons, List.any_cons, any_ints i r, eqv_int]
    by_cases h : a = i
    · simp [h]
    · have h' : ¬ i = a := fun e => h e.symm
      simp [h, h']
theorem any_prs (p : Int × Int) : ∀ l : List (Int × Int), ((l.map prD).any fun z => PyData.eqv z (prD p)) = decide (p ∈ l)
  | [] => by simp
  | a :: r => by
    simp only [List.map_cons, List.any_cons, any_prs p r, eqv_pr]
    by_cases h : a = p
    · simp [h]
    · have h' : ¬ p = a := fun e => h e.symm
      simp [h, h']
theorem in_li (i : Int) (l : List Int) : inD (.int i) (.list (l.map .int)) = some (.bool (decide (i ∈ l))) := by
  simp only [inD, shaped_int, shaped_li, and_self, if_true, any_ints]
theorem in_ti (i : Int) (l : List Int) : inD (.int i) (.tuple (l.map .int)) = some (.bool (decide (i ∈ l))) := by
  simp only [inD, shaped_int, shaped_ti, and_self, if_true, any_ints]
theorem in_lp (p : Int × Int) (l : List (Int × Int)) : inD (prD p) (.list (l.map prD)) = some (.bool (decide (p ∈ l))) := by
  simp only [inD, shaped_pr, shaped_lp, and_self, if_true, any_prs]
theorem in_tp (p : Int × Int) (l : List (Int × Int)) : inD (prD p) (.tuple (l.map prD)) = some (.bool (decide (p ∈ l))) := by
  simp only [inD, shaped_pr, shaped_tp, and_self, if_true, any_prs]
theorem nin_of {a b : D} {k : Bool} (h : inD a b = some (.bool k)) : ninD a b = some (.bool (!k)) := by
  simp only [ninD, h]
theorem for_cons {g : SG} {body : SS} {x : D} {xs : List D} {env e1 e2 : Env} {r : Option Out} (h1 : g x env = some e1) (h2 : body e1 = some (.nx e2)) (h3 : forGo g body xs e2 = r) : forGo g body (x :: xs) env = r := by
  simp only [forGo, h1, Option.bind_some, h2]
  exact h3
theorem tup1_go {a : SE} {env : Env} {d : D} (h : a env = some d) : eTup [a] env = some (.tuple [d]) := by
  simp only [eTup, eArgs, h, Option.bind_some, Option.map_some, List.length_cons, List.length_nil]
  rw [if_pos (small (by decide))]
end TL

set_option Elab.async false
set_option linter.all false
set_option maxRecDepth 100000
/-! The tree layer over the hand layer: heaps, what stands for a tree, the judgements. -/
namespace TL
open PySem PySem.Spec PyProof.Rows L2
structure Gx where
  K : PySem.W.Frag
  mg : Str → Option Value
abbrev gx (X : Cx) : Gx := ⟨X.K, X.mg⟩

/-! ### heaps: F what will not change any more, H all that is tracked -/
/-- no code object's table -/
def nt : HO → Bool
  | .tbl _ => false
  | _ => true
/-- the heap grows; tables may grow in place -/
structure SameN (H H' : Hp) : Prop where
  nn : ∀ p o, H p = some o → nt o = true → H' p = some o
  tb : ∀ p ps, H p = some (.tbl ps) → ∃ ps', H' p = some (.tbl ps') ∧ (TriplesOk ps.toList → TriplesOk ps'.toList)
theorem SameN.of {H H' : Hp} (h : Same H H') : SameN H H' := ⟨fun p o e _ => h p o e, fun p ps e => ⟨ps, h p _ e, id⟩⟩
theorem SameN.refl (H : Hp) : SameN H H := .of (Same.refl H)
theorem SameN.trans {H H1 H2 : Hp} (a : SameN H H1) (b : SameN H1 H2) : SameN H H2 := ⟨fun p o e n => b.nn p o (a.nn p o e n) n, fun p ps e => by
  obtain ⟨ps1, e1, t1⟩ := a.tb p ps e
  obtain ⟨ps2, e2, t2⟩ := b.tb p ps1 e1
  exact ⟨ps2, e2, fun z => t2 (t1 z)⟩⟩
theorem SameN.some_ {H H' : Hp} (a : SameN H H') {p : Addr} {o : HO} (e : H p = some o) : ∃ o', H' p = some o' := by
  cases o with
  | tbl ps => obtain ⟨ps', e', _⟩ := a.tb p ps e; exact ⟨_, e'⟩
  | _ => exact ⟨_, a.nn p _ e rfl⟩
theorem SameN.ex {H H' : Hp} (a : SameN H H') {p : Addr} {o : HO} (e : H p = some o) : ∃ o', H' p = some o' ∧ (nt o = true → o' = o) := by
  cases o with
  | tbl ps => obtain ⟨ps', e', _⟩ := a.tb p ps e; exact ⟨_, e', fun z => (by cases z)⟩
  | _ => exact ⟨_, a.nn p _ e rfl, fun _ => rfl⟩
theorem SameN.free {H H' : Hp} (a : SameN H H') {p : Addr} (h : H' p = none) : H p = none := by
  cases e : H p with
  | none => rfl
  | some o =>
    obtain ⟨o', e'⟩ := a.some_ e
    rw [h] at e'; cases e'
theorem SameN.upd_ {H H' : Hp} (a : SameN H H') {p : Addr} {o : HO} (hn : H p = none) : SameN H (upd H' p o) :=
  ⟨fun b u e n => by rw [upd_ne (ne_of_none e hn)]; exact a.nn b u e n, fun b ps e => by rw [upd_ne (ne_of_none e hn)]; exact a.tb b ps e⟩
theorem SameN.seq {K : PySem.W.Frag} {H H' : Hp} {a : Addr} {xs : List V} (e : SameN H H') (h : SqL K H a xs) : SqL K H' a xs := by
  rcases h with (h | ⟨o, h⟩) | h
  · exact .inl (.inl (e.nn _ _ h rfl))
  · exact .inl (.inr ⟨o, e.nn _ _ h rfl⟩)
  · exact .inr h
theorem SameN.l {H H' : Hp} (a : SameN H H') {p : Addr} {vs : List V} (e : H p = some (.lst vs)) : H' p = some (.lst vs) := a.nn p _ e rfl
structure Gr (F H F' H' : Hp) : Prop where
  ff : Same F F'
  hh : SameN H H'
  fh : Same F' H'
  hid : ∀ p o, H p = some o → F p = none → F' p = none
theorem Gr.refl {F H : Hp} (h : Same F H) : Gr F H F H := ⟨Same.refl F, SameN.refl H, h, fun _ _ _ e => e⟩
theorem Gr.trans {F H F1 H1 F2 H2 : Hp} (a : Gr F H F1 H1) (b : Gr F1 H1 F2 H2) : Gr F H F2 H2 :=
  ⟨a.ff.trans b.ff, a.hh.trans b.hh, b.fh, fun p o e n => let ⟨o', e'⟩ := a.hh.some_ e; b.hid p o' e' (a.hid p o e n)⟩
/-- the defs that hold generator expressions: their tables are tracked, and not closed -/
def tabNames : List Str := ["truth", "can_go", "dense_truth", "steps_truth", "line_truth"]
def TbOk (G : Gx) (F H : Hp) : Prop := ∀ x ∈ tabNames, ∀ c P, PySem.W.tabIn G.K x = some (c, P) → F P = none ∧ GxR.TabG H P
theorem TbOk.gr {G : Gx} {F H F' H' : Hp} (t : TbOk G F H) (g : Gr F H F' H') : TbOk G F' H' := fun x hx c P e => by
  obtain ⟨h1, ps, h2, h3⟩ := t x hx c P e
  obtain ⟨ps', e', t'⟩ := g.hh.tb P ps h2
  exact ⟨g.hid P _ h2 h1, ps', e', t' h3⟩
theorem TbOk.upd_ {G : Gx} {F H : Hp} (t : TbOk G F H) {p : Addr} {vs : List V} (h : H p = some (.lst vs)) {o : HO} : TbOk G F (upd H p o) := fun x hx c P e => by
  obtain ⟨h1, ps, h2, h3⟩ := t x hx c P e
  have hn : P ≠ p := fun z => by rw [z, h] at h2; cases h2
  exact ⟨h1, ps, by rw [upd_ne hn]; exact h2, h3⟩
/-- what is closed stands in the heap -/
structure Fz (G : Gx) (F H : Hp) : Prop where
  sm : Same F H
  tb : TbOk G F H
theorem Fz.gr {G : Gx} {F H F' H' : Hp} (f : Fz G F H) (g : Gr F H F' H') : Fz G F' H' := ⟨g.fh, f.tb.gr g⟩
theorem same_upd {H : Hp} {p : Addr} {o : HO} (h : H p = none) : Same H (upd H p o) := fun b x e => by
  rw [upd_ne (ne_of_none e h)]
  exact e
theorem Same.nn {F H : Hp} (s : Same F H) {p : Addr} (h : H p = none) : F p = none := Same.free s h
theorem Gr.new {F H : Hp} {p : Addr} {o : HO} (s : Same F H) (h : H p = none) : Gr F H (upd F p o) (upd H p o) := by
  refine ⟨same_upd (Same.nn s h), .of (same_upd h), fun b x e => ?_, fun b x e n => ?_⟩
  · by_cases hb : b = p
    · subst hb
      rw [upd_same] at e ⊢
      exact e
    · rw [upd_ne hb] at e ⊢
      exact s b x e
  · rw [upd_ne (ne_of_none e h)]
    exact n
/-- a new object that stays open -/
theorem Gr.open_ {F H : Hp} {p : Addr} {o : HO} (s : Same F H) (h : H p = none) : Gr F H F (upd H p o) :=
  ⟨Same.refl F, .of (same_upd h), s.trans (same_upd h), fun _ _ _ n => n⟩
/-- what is open is closed -/
theorem Gr.close {F H F' H' : Hp} {p : Addr} {o : HO} (g : Gr F H F' H') (hn : H p = none) (hf : F' p = none) (hh : H' p = some o) : Gr F H (upd F' p o) H' := by
  refine ⟨g.ff.trans (same_upd hf), g.hh, fun b x e => ?_, fun b x e n => ?_⟩
  · by_cases hb : b = p
    · subst hb
      rw [upd_same] at e
      rw [hh]
      exact e
    · rw [upd_ne hb] at e
      exact g.fh b x e
  · rw [upd_ne (ne_of_none e hn)]
    exact g.hid b x e n

theorem sameT {K : PySem.W.Frag} {H H' : Hp} {a : Addr} {xs : List V} (e : Same H H') (h : SqT K H a xs) : SqT K H' a xs := by
  rcases h with (h | ⟨o, h⟩) | h
  · exact .inl (.inl (e _ _ h))
  · exact .inl (.inr ⟨o, e _ _ h⟩)
  · exact .inr h

/-! ### what stands for a tree -/
mutual
inductive Rp (G : Gx) (F : Hp) : V → D → Prop
  | non : Rp G F .non .none
  | bl (b : Bool) : Rp G F (.bl b) (.bool b)
  | int (i : Int) : Rp G F (.int i) (.int i)
  | str (x : Str) : Rp G F (.str x) (.str x)
  | lst {a : Addr} {xs : List V} {ds : List D} : SqL G.K F a xs → RpAll G F xs ds → Rp G F (.ref a) (.list ds)
  | tup {a : Addr} {xs : List V} {ds : List D} : SqT G.K F a xs → RpAll G F xs ds → Rp G F (.ref a) (.tuple ds)
  /-- a def -/
  | fn {a : Addr} {x : Str} : G.mg x = some (.ref a) → Rp G F (.ref a) (.dict [(.str x, .none)])
  /-- a pool: rows, and the counter's cell r -/
  | pl {p a : Addr} {r : Nat} {xs : List V} {ds : List D} : SqL G.K F p [.ref a, .ref r] → SqL G.K F a xs → RpAll G F xs ds → Rp G F (.ref p) (.dict [(.int (r : Int), .list ds)])
  /-- a range -/
  | rng {a : Addr} {lo hi : Int} : F a = some (.rng lo hi) → Rp G F (.ref a) (.dict [(.bool true, .tuple [.int lo, .int hi])])
inductive RpAll (G : Gx) (F : Hp) : List V → List D → Prop
  | nil : RpAll G F [] []
  | cons {v : V} {vs : List V} {d : D} {ds : List D} : Rp G F v d → RpAll G F vs ds → RpAll G F (v :: vs) (d :: ds)
end
section
variable {G : Gx} {F F' H H' : Hp}
mutual
theorem Rp.mono (e : Same F F') : ∀ {d : D} {v : V}, Rp G F v d → Rp G F' v d
  | _, _, .non => .non
  | _, _, .bl b => .bl b
  | _, _, .int i => .int i
  | _, _, .str x => .str x
  | _, _, .lst h a => .lst (e.seq h) (RpAll.mono e a)
  | _, _, .tup h a => .tup (sameT e h) (RpAll.mono e a)
  | _, _, .fn h => .fn h
  | _, _, .pl h h2 a => .pl (e.seq h) (e.seq h2) (RpAll.mono e a)
  | _, _, .rng h => .rng (e _ _ h)
theorem RpAll.mono (e : Same F F') : ∀ {ds : List D} {vs : List V}, RpAll G F vs ds → RpAll G F' vs ds
  | _, _, .nil => .nil
  | _, _, .cons h r => .cons (Rp.mono e h) (RpAll.mono e r)
end
theorem RpAll.length : ∀ {ds : List D} {vs : List V}, RpAll G F vs ds → vs.length = ds.length
  | _, _, .nil => rfl
  | _, _, .cons _ r => congrArg (· + 1) (RpAll.length r)
theorem RpAll.get : ∀ {ds : List D} {vs : List V} {i : Nat} {d : D}, RpAll G F vs ds → ds[i]? = some d → ∃ v, vs[i]? = some v ∧ Rp G F v d
  | _, _, _, _, .nil, e => by simp at e
  | _, _, 0, _, .cons h _, e => by
    have e' := Option.some.inj e
    subst e'
    exact ⟨_, rfl, h⟩
  | _, _, i + 1, _, .cons _ r, e => RpAll.get (i := i) r e
theorem RpAll.getV : ∀ {ds : List D} {vs : List V} {i : Nat} {v : V}, RpAll G F vs ds → vs[i]? = some v → ∃ d, ds[i]? = some d ∧ Rp G F v d
  | _, _, _, _, .nil, e => by simp at e
  | _, _, 0, _, .cons h _, e => by
    have e' := Option.some.inj e
    subst e'
    exact ⟨_, rfl, h⟩
  | _, _, i + 1, _, .cons _ r, e => RpAll.getV (i := i) r e
theorem RpAll.append : ∀ {ds es : List D} {vs us : List V}, RpAll G F vs ds → RpAll G F us es → RpAll G F (vs ++ us) (ds ++ es)
  | _, _, _, _, .nil, r => r
  | _, _, _, _, .cons h t, r => .cons h (RpAll.append t r)
theorem RpAll.take : ∀ {ds : List D} {vs : List V} (n : Nat), RpAll G F vs ds → RpAll G F (vs.take n) (ds.take n)
  | _, _, 0, _ => .nil
  | _, _, _ + 1, .nil => .nil
  | _, _, n + 1, .cons h t => .cons h (RpAll.take n t)
theorem RpAll.drop : ∀ {ds : List D} {vs : List V} (n : Nat), RpAll G F vs ds → RpAll G F (vs.drop n) (ds.drop n)
  | _, _, 0, r => r
  | _, _, _ + 1, .nil => .nil
  | _, _, n + 1, .cons _ t => RpAll.drop n t
theorem RpAll.reverse {ds : List D} {vs : List V} (h : RpAll G F vs ds) : RpAll G F vs.reverse ds.reverse := by
  induction ds generalizing vs with
  | nil => cases h; exact .nil
  | cons d ds ih =>
    cases h with
    | cons h t =>
      rw [List.reverse_cons, List.reverse_cons]
      exact (ih t).append (.cons h .nil)
theorem RpAll.cut {ds : List D} {vs : List V} (h : RpAll G F vs ds) (lo hi : Option Int) : RpAll G F (cutV vs lo hi) (cutT ds lo hi) := by
  unfold cutV cutT
  rw [h.length]
  exact (h.drop _).take _
theorem RpAll.atI {ds : List D} {vs : List V} {i : Int} {d : D} (h : RpAll G F vs ds) (e : L2.atI ds i = some d) : ∃ v, L2.atI vs i = some v ∧ Rp G F v d := by
  unfold L2.atI at e ⊢
  rw [h.length]
  cases q : ixN ds.length i with
  | none => rw [q] at e; cases e
  | some j =>
    rw [q] at e
    exact h.get e
/-- .. or an open list whose items are closed -/
def RpB (G : Gx) (F H : Hp) (v : V) (d : D) : Prop := Rp G F v d ∨ ∃ p vs ds, v = .ref p ∧ d = .list ds ∧ H p = some (.lst vs) ∧ RpAll G F vs ds
theorem Rp.b {v : V} {d : D} (h : Rp G F v d) : RpB G F H v d := .inl h
theorem RpB.gr {v : V} {d : D} (h : RpB G F H v d) (g : Gr F H F' H') : RpB G F' H' v d := by
  rcases h with h | ⟨p, vs, ds, h1, h2, h3, h4⟩
  · exact .inl (h.mono g.ff)
  · exact .inr ⟨p, vs, ds, h1, h2, g.hh.l h3, h4.mono g.ff⟩
theorem RpB.int {v : V} {i : Int} (h : RpB G F H v (.int i)) : v = .int i := by
  rcases h with h | ⟨p, vs, ds, h1, h2, h3, h4⟩
  · cases h; rfl
  · cases h2
theorem RpB.bl {v : V} {i : Bool} (h : RpB G F H v (.bool i)) : v = .bl i := by
  rcases h with h | ⟨p, vs, ds, h1, h2, h3, h4⟩
  · cases h; rfl
  · cases h2
theorem RpB.str {v : V} {i : Str} (h : RpB G F H v (.str i)) : v = .str i := by
  rcases h with h | ⟨p, vs, ds, h1, h2, h3, h4⟩
  · cases h; rfl
  · cases h2
theorem RpB.non {v : V} (h : RpB G F H v .none) : v = .non := by
  rcases h with h | ⟨p, vs, ds, h1, h2, h3, h4⟩
  · cases h; rfl
  · cases h2
theorem RpB.tup {v : V} {ds : List D} (h : RpB G F H v (.tuple ds)) (s : Same F H) : ∃ a vs, v = .ref a ∧ SqT G.K F a vs ∧ SqT G.K H a vs ∧ RpAll G F vs ds := by
  rcases h with h | ⟨p, vs, ds, h1, h2, h3, h4⟩
  · cases h with
    | tup h r => exact ⟨_, _, rfl, h, sameT s h, r⟩
  · cases h2
theorem RpB.lst {v : V} {ds : List D} (h : RpB G F H v (.list ds)) (s : Same F H) : ∃ a vs, v = .ref a ∧ SqL G.K H a vs ∧ RpAll G F vs ds := by
  rcases h with h | ⟨p, vs, es, h1, h2, h3, h4⟩
  · cases h with
    | lst h r => exact ⟨_, _, rfl, s.seq h, r⟩
  · cases h2
    exact ⟨p, vs, h1, .inl (.inl h3), h4⟩
mutual
theorem Rp.dp (s : Same F H) : ∀ {d : D} {v : V}, Rp G F v d → PyData.canLay0 d = true → Dp G.K H v d
  | _, _, .non, _ => .non
  | _, _, .bl b, _ => .bl b
  | _, _, .int i, _ => .int i
  | _, _, .str x, _ => .str x
  | _, _, .lst h a, c => .lst (s.seq h) (RpAll.dp s a (by simpa [PyData.canLay0] using c))
  | _, _, .tup h a, c => .tup (sameT s h) (RpAll.dp s a (by simpa [PyData.canLay0] using c))
  | _, _, .fn _, c => by simp [PyData.canLay0] at c
  | _, _, .pl _ _ _, c => by simp [PyData.canLay0] at c
  | _, _, .rng _, c => by simp [PyData.canLay0] at c
theorem RpAll.dp (s : Same F H) : ∀ {ds : List D} {vs : List V}, RpAll G F vs ds → PyData.canLayAll0 ds = true → DpAll G.K H vs ds
  | _, _, .nil, _ => .nil
  | _, _, .cons h r, c => by
    simp only [PyData.canLayAll0, Bool.and_eq_true] at c
    exact .cons (Rp.dp s h c.1) (RpAll.dp s r c.2)
end
theorem RpB.dp {v : V} {d : D} (h : RpB G F H v d) (s : Same F H) (c : PyData.canLay0 d = true) : Dp G.K H v d := by
  rcases h with h | ⟨p, vs, ds, rfl, rfl, h3, h4⟩
  · exact h.dp s c
  · exact .lst (.inl (.inl h3)) (h4.dp s (by simpa [PyData.canLay0] using c))
theorem RpB.shp {v : V} {d : D} (h : RpB G F H v d) (s : Same F H) (c : SeqAt.shaped d = true) : Dp G.K H v d := h.dp s (SeqAt.canLay_of_shaped c)
theorem RpAll.ints : ∀ {ds : List D} {vs : List V} {ns : List Int}, RpAll G F vs ds → intsOf ds = some ns → vs = ns.map V.int
  | _, _, _, .nil, e => by
    cases e
    rfl
  | _ :: ds, _, ns, .cons h r, e => by
    cases h with
    | int i =>
      simp only [intsOf] at e
      cases q : intsOf ds with
      | none => rw [q] at e; cases e
      | some ms =>
        rw [q] at e
        cases e
        rw [RpAll.ints r q]
        rfl
    | _ => cases e
theorem RpAll.bools : ∀ {ds : List D} {vs : List V} {ns : List Bool}, RpAll G F vs ds → boolsOf ds = some ns → vs = ns.map V.bl
  | _, _, _, .nil, e => by
    cases e
    rfl
  | _ :: ds, _, ns, .cons h r, e => by
    cases h with
    | bl i =>
      simp only [boolsOf] at e
      cases q : boolsOf ds with
      | none => rw [q] at e; cases e
      | some ms =>
        rw [q] at e
        cases e
        rw [RpAll.bools r q]
        rfl
    | _ => cases e
end

/-! ### the names -/
structure SOk (G : Gx) (O : List Nat) (F H : Hp) (σ : L2.St) (env : Env) : Prop where
  fh : Same F H
  len : env.length = σ.length
  imm : ∀ (i : Nat) (d : D), env[i]? = some (some d) → i ∉ O → ∃ v, σ[i]? = some (some v) ∧ Rp G F v d
  own : ∀ i ∈ O, ∃ p vs ds, σ[i]? = some (some (.ref p)) ∧ env[i]? = some (some (.list ds)) ∧ F p = none ∧ H p = some (.lst vs) ∧ RpAll G F vs ds
  dj : ∀ i ∈ O, ∀ j ∈ O, σ[i]? = σ[j]? → i = j
  tb : TbOk G F H
section
variable {G : Gx} {O O' : List Nat} {F H F' H' : Hp} {σ : L2.St} {env : Env}
theorem SOk.fz (s : SOk G O F H σ env) : Fz G F H := ⟨s.fh, s.tb⟩
theorem SOk.gr (s : SOk G O F H σ env) (g : Gr F H F' H') : SOk G O F' H' σ env := by
  refine ⟨g.fh, s.len, fun i d e n => ?_, fun i hi => ?_, s.dj, s.tb.gr g⟩
  · obtain ⟨v, h1, h2⟩ := s.imm i d e n
    exact ⟨v, h1, h2.mono g.ff⟩
  · obtain ⟨p, vs, ds, h1, h2, h3, h4, h5⟩ := s.own i hi
    exact ⟨p, vs, ds, h1, h2, g.hid p _ h4 h3, g.hh.l h4, h5.mono g.ff⟩
theorem getD_some {env : Env} {i : Nat} {d : D} (h : env.getD i none = some d) : env[i]? = some (some d) := by
  rw [List.getD_eq_getElem?_getD] at h
  cases q : env[i]? with
  | none => rw [q] at h; cases h
  | some o => rw [q] at h; exact congrArg some h
/-- any name, open or not -/
theorem SOk.any (s : SOk G O F H σ env) {i : Nat} {d : D} (e : env.getD i none = some d) : ∃ v, σ[i]? = some (some v) ∧ RpB G F H v d := by
  have e' := getD_some e
  by_cases hi : i ∈ O
  · obtain ⟨p, vs, ds, h1, h2, h3, h4, h5⟩ := s.own i hi
    rw [e'] at h2
    cases h2
    exact ⟨_, h1, .inr ⟨p, vs, ds, rfl, rfl, h4, h5⟩⟩
  · obtain ⟨v, h1, h2⟩ := s.imm i d e' hi
    exact ⟨v, h1, .inl h2⟩
/-- a name that is not open is stored -/
theorem SOk.set (s : SOk G O F H σ env) {i : Nat} {v : V} {d : D} (h : i ∉ O) (r : Rp G F v d) : SOk G O F H (σ.set i (some v)) (env.set i (some d)) := by
  have hne : ∀ j ∈ O, i ≠ j := fun j hj e => h (e ▸ hj)
  refine ⟨s.fh, by rw [List.length_set, List.length_set]; exact s.len, fun j e hj n => ?_, fun j hj => ?_, fun j hj k hk e => ?_, s.tb⟩
  · by_cases ij : i = j
    · subst ij
      have hl : i < env.length := by
        have := (List.getElem?_eq_some_iff.mp hj).1
        rw [List.length_set] at this
        exact this
      rw [List.getElem?_set_self hl] at hj
      cases hj
      exact ⟨v, List.getElem?_set_self (s.len ▸ hl), r⟩
    · rw [List.getElem?_set_ne ij] at hj ⊢
      exact s.imm j e hj n
  · rw [List.getElem?_set_ne (hne j hj), List.getElem?_set_ne (hne j hj)]
    exact s.own j hj
  · rw [List.getElem?_set_ne (hne j hj), List.getElem?_set_ne (hne k hk)] at e
    exact s.dj j hj k hk e
/-- an open name is stored anew with what is closed -/
theorem SOk.drop (s : SOk G O F H σ env) (i : Nat) : SOk G (O.filter (· ≠ i)) F H (σ.set i none) (env.set i none) := by
  have hne : ∀ j ∈ O.filter (· ≠ i), i ≠ j ∧ j ∈ O := fun j hj => by
    obtain ⟨h1, h2⟩ := List.mem_filter.mp hj
    exact ⟨fun e => (of_decide_eq_true h2) e.symm, h1⟩
  refine ⟨s.fh, by rw [List.length_set, List.length_set]; exact s.len, fun j e hj n => ?_, fun j hj => ?_, fun j hj k hk e => ?_, s.tb⟩
  · by_cases ij : i = j
    · subst ij
      have hl : i < env.length := by
        have := (List.getElem?_eq_some_iff.mp hj).1
        rw [List.length_set] at this
        exact this
      rw [List.getElem?_set_self hl] at hj
      cases hj
    · rw [List.getElem?_set_ne ij] at hj ⊢
      exact s.imm j e hj fun z => n (List.mem_filter.mpr ⟨z, decide_eq_true (Ne.symm ij)⟩)
  · rw [List.getElem?_set_ne (hne j hj).1, List.getElem?_set_ne (hne j hj).1]
    exact s.own j (hne j hj).2
  · rw [List.getElem?_set_ne (hne j hj).1, List.getElem?_set_ne (hne k hk).1] at e
    exact s.dj j (hne j hj).2 k (hne k hk).2 e
theorem SOk.wipe (s : SOk G O F H σ env) : ∀ {vs : List Nat}, (∀ i ∈ vs, i ∉ O) → SOk G O F H (wipe σ vs) (wipeE env vs)
  | [], _ => s
  | i :: vs, h => by
    have q := (SOk.wipe s fun j hj => h j (List.mem_cons_of_mem _ hj)).drop i
    have e : O.filter (· ≠ i) = O := List.filter_eq_self.mpr fun j hj => decide_eq_true fun z => h i List.mem_cons_self (z ▸ hj)
    rw [e] at q
    exact q
theorem ext_wipe {σ σ' : L2.St} {sl : List Nat} (hl : σ'.length = σ.length) (h : ∀ j, j ∉ sl → σ'[j]? = σ[j]?) : ∀ {vs : List Nat}, (∀ j ∈ sl, j ∈ vs) → L2.wipe σ' vs = L2.wipe σ vs := by
  intro vs hs
  have at_ : ∀ (τ : L2.St) (vs : List Nat) (j : Nat), j < τ.length → (L2.wipe τ vs)[j]? = if j ∈ vs then some none else τ[j]? := by
    intro τ vs j hj
    induction vs with
    | nil => rfl
    | cons v vs ih =>
      show ((L2.wipe τ vs).set v none)[j]? = _
      by_cases e : v = j
      · subst e
        rw [List.getElem?_set_self (by rw [wipe_length]; exact hj), if_pos List.mem_cons_self]
      · rw [List.getElem?_set_ne e, ih]
        by_cases m : j ∈ vs
        · rw [if_pos m, if_pos (List.mem_cons_of_mem _ m)]
        · rw [if_neg m, if_neg fun z => (List.mem_cons.mp z).elim (fun q => e q.symm) m]
  refine List.ext_getElem? fun j => ?_
  by_cases hj : j < σ.length
  · rw [at_ σ' vs j (hl ▸ hj), at_ σ vs j hj]
    by_cases m : j ∈ vs
    · rw [if_pos m, if_pos m]
    · rw [if_neg m, if_neg m]
      exact h j fun z => m (hs j z)
  · rw [List.getElem?_eq_none (by rw [wipe_length]; omega), List.getElem?_eq_none (by rw [wipe_length]; omega)]
end
end TL

set_option Elab.async false
set_option linter.all false
set_option maxRecDepth 100000
/-! The tree layer: expressions. -/
namespace TL
open PySem PySem.Spec PyProof.Rows L2
/-! ### how a value comes out: closed; closed or open; a new open list -/
def kV (G : Gx) (F H : Hp) (d : D) (Q : VK) : Prop := ∀ v F' H', Gr F H F' H' → Rp G F' v d → Q v H'
def kB (G : Gx) (F H : Hp) (d : D) (Q : VK) : Prop := ∀ v F' H', Gr F H F' H' → RpB G F' H' v d → Q v H'
def kN (G : Gx) (F H : Hp) (d : D) (Q : VK) : Prop := ∀ p vs ds F' H', Gr F H F' H' → H p = none → F' p = none → H' p = some (.lst vs) → RpAll G F' vs ds → d = .list ds → Q (.ref p) H'
def rV (G : Gx) (O : List Nat) (f : SE) : TE := fun σ H Q => ∃ F env d, SOk G O F H σ env ∧ f env = some d ∧ kV G F H d Q
def rB (G : Gx) (O : List Nat) (f : SE) : TE := fun σ H Q => ∃ F env d, SOk G O F H σ env ∧ f env = some d ∧ kB G F H d Q
def rN (G : Gx) (O : List Nat) (f : SE) : TE := fun σ H Q => ∃ F env d, SOk G O F H σ env ∧ f env = some d ∧ kN G F H d Q
def rT (G : Gx) (O : List Nat) (f : ST) : TT := fun σ H Q => ∃ F env b, SOk G O F H σ env ∧ f env = some b ∧ ∀ F' H', Gr F H F' H' → Q b H'
section
variable {G : Gx} {O : List Nat} {F H F1 H1 : Hp} {d : D} {Q : VK} {σ : L2.St}
theorem kV.gr (h : kV G F H d Q) (g : Gr F H F1 H1) : kV G F1 H1 d Q := fun v F' H' g' r => h v F' H' (g.trans g') r
theorem kN.gr (h : kN G F H d Q) (g : Gr F H F1 H1) : kN G F1 H1 d Q := fun p vs ds F' H' g' e1 => h p vs ds F' H' (g.trans g') (g.hh.free e1)
theorem kB.v (h : kB G F H d Q) : kV G F H d Q := fun v F' H' g r => h v F' H' g r.b
theorem kV.n (h : kV G F H d Q) : kN G F H d Q := fun p vs ds F' H' g e1 e2 e3 r e => by
  subst e
  have g2 := g.close e1 e2 e3
  exact h _ _ _ g2 (.lst (.inl (.inl upd_same)) (r.mono (same_upd e2)))
theorem kV.same (h : kV G F H d Q) (s : Same F H) {v : V} (r : Rp G F v d) : Q v H := h v F H (Gr.refl s) r
theorem kV.newT {vs : List V} {ds : List D} (h : kV G F H (.tuple ds) Q) (s : Same F H) (r : RpAll G F vs ds) {p : Addr} (hp : H p = none) : Q (.ref p) (upd H p (.tup vs)) :=
  h _ _ _ (Gr.new s hp) (.tup (.inl (.inl upd_same)) (r.mono (same_upd (Same.nn s hp))))
theorem kN.newL {vs : List V} {ds : List D} (h : kN G F H (.list ds) Q) (s : Same F H) (r : RpAll G F vs ds) {p : Addr} (hp : H p = none) : Q (.ref p) (upd H p (.lst vs)) :=
  h p vs ds _ _ (Gr.open_ s hp) hp (Same.nn s hp) upd_same r rfl
theorem rV.of_rB {f : SE} (h : rB G O f σ H Q) : rV G O f σ H Q := by
  obtain ⟨F, env, d, hs, hf, q⟩ := h
  exact ⟨F, env, d, hs, hf, q.v⟩
end
section
variable {X : Cx} {e : Expr} {O : List Nat} {f : SE}
theorem _root_.L2.PE.imp {t t' : TE} (h : PE X e t) (i : ∀ σ H Q, t' σ H Q → t σ H Q) : PE X e t' := ⟨fun pins s σ H Q I q => h.run pins s σ H Q I (i σ H Q q)⟩
theorem _root_.L2.PT.imp {t t' : TT} (h : PT X e t) (i : ∀ σ H Q, t' σ H Q → t σ H Q) : PT X e t' := ⟨fun pins s σ H Q I q => h.run pins s σ H Q I (i σ H Q q)⟩
theorem _root_.L2.PW.imp {t t' : TT} (h : PW X e t) (i : ∀ σ H Q, t' σ H Q → t σ H Q) : PW X e t' := ⟨fun w pins s σ H Q I q => h.run w pins s σ H Q I (i σ H Q q)⟩
/-- a closed value may be read -/
theorem vb (h : PE X e (rV (gx X) O f)) : PE X e (rB (gx X) O f) := h.imp fun σ H Q ⟨F, env, d, hs, hf, q⟩ => ⟨F, env, d, hs, hf, q.v⟩
/-- a new list is closed -/
theorem nv (h : PE X e (rN (gx X) O f)) : PE X e (rV (gx X) O f) := h.imp fun σ H Q ⟨F, env, d, hs, hf, q⟩ => ⟨F, env, d, hs, hf, q.n⟩
theorem nb (h : PE X e (rN (gx X) O f)) : PE X e (rB (gx X) O f) := vb (nv h)
/-! ### names and constants -/
theorem ev (i : Nat) {x : Str} {pos : Pos} (hO : i ∉ O := by decide) (hN : X.N[i]? = some x := by rfl) (hv : Vis X.env.scope x := by first | exact Or.inl rfl | exact Or.inr (Or.inl rfl) | exact Or.inr (Or.inr rfl)) (hd : (x == ("__debug__" : Str)) = false := by decide)
    (hcd : (x == ("__classdict__" : Str)) = false := by decide) : PE X (.Name x pos) (rV (gx X) O (eVar i)) := (pe_var hN hv hd hcd).imp fun σ H Q ⟨F, env, d, hs, hf, q⟩ => by
  obtain ⟨v, h1, h2⟩ := hs.imm i d (getD_some hf) hO
  exact ⟨v, h1, q.same hs.fh h2⟩
/-- any name, for reading -/
theorem eb (i : Nat) {x : Str} {pos : Pos} (hN : X.N[i]? = some x := by rfl) (hv : Vis X.env.scope x := by first | exact Or.inl rfl | exact Or.inr (Or.inl rfl) | exact Or.inr (Or.inr rfl)) (hd : (x == ("__debug__" : Str)) = false := by decide)
    (hcd : (x == ("__classdict__" : Str)) = false := by decide) : PE X (.Name x pos) (rB (gx X) O (eVar i)) := (pe_var hN hv hd hcd).imp fun σ H Q ⟨F, env, d, hs, hf, q⟩ => by
  obtain ⟨v, h1, h2⟩ := hs.any hf
  exact ⟨v, h1, q v F H (Gr.refl hs.fh) h2⟩
theorem rC {v : V} {d : D} (r : ∀ F, Rp (gx X) F v d) (h : PE X e (tC v)) : PE X e (rV (gx X) O (eC d)) := h.imp fun σ H Q ⟨F, env, d', hs, hf, q⟩ => by
  have e' := Option.some.inj hf
  subst e'
  exact q.same hs.fh (r F)
theorem ei {i : Int} {j pos} : PE X (.Constant (.int i) j pos) (rV (gx X) O (eC (.int i))) := rC (fun _ => .int i) pe_int
theorem ebl {b : Bool} {j pos} : PE X (.Constant (.bool b) j pos) (rV (gx X) O (eC (.bool b))) := rC (fun _ => .bl b) pe_bl
theorem enon {j pos} : PE X (.Constant .none j pos) (rV (gx X) O (eC .none)) := rC (fun _ => .non) pe_non
theorem es {x : Str} {j pos} : PE X (.Constant (.str x) j pos) (rV (gx X) O (eC (.str x))) := rC (fun _ => .str x) pe_str
/-- a constant of the module -/
theorem eg {x : Str} {v : V} {d : D} {u : Value} {pos : Pos} (hg : Gl X x) (hm : X.mg x = some u) (r : RelV v u) (k : ∀ F, Rp (gx X) F v d) (hd : (x == ("__debug__" : Str)) = false := by decide) : PE X (.Name x pos) (rV (gx X) O (eC d)) :=
  rC k (pe_glob hg hm r hd)
end

/-! ### operators by values -/
def OpV (X : Cx) (f : Value → Value → Sem Value) (g : D → D → Option D) : Prop :=
  OpR X f fun x y H Q => ∃ F dx dy d, Same F H ∧ RpB (gx X) F H x dx ∧ RpB (gx X) F H y dy ∧ g dx dy = some d ∧ kV (gx X) F H d Q
def OpN (X : Cx) (f : Value → Value → Sem Value) (g : D → D → Option D) : Prop :=
  OpR X f fun x y H Q => ∃ F dx dy d, Same F H ∧ RpB (gx X) F H x dx ∧ RpB (gx X) F H y dy ∧ g dx dy = some d ∧ kN (gx X) F H d Q
def UnV (X : Cx) (f : Value → Sem Value) (g : D → Option D) : Prop :=
  UnR X f fun x H Q => ∃ F dx d, Same F H ∧ RpB (gx X) F H x dx ∧ g dx = some d ∧ kV (gx X) F H d Q
section
variable {X : Cx} {O : List Nat} {a b c : Expr} {fa fb fc : SE} {pos : Pos} {g : D → D → Option D}
theorem seq2 {R : V → V → Hp → Prop} {F H : Hp} {σ : L2.St} {env : Env} {x y : D} (hs : SOk (gx X) O F H σ env) (ha : fa env = some x) (hb : fb env = some y)
    (h : ∀ v u F' H', Gr F H F' H' → RpB (gx X) F' H' v x → RpB (gx X) F' H' u y → R v u H') : rB (gx X) O fa σ H fun v H1 => rB (gx X) O fb σ H1 fun u H2 => R v u H2 :=
  ⟨F, env, x, hs, ha, fun v F1 H1 g1 r1 => ⟨F1, env, y, hs.gr g1, hb, fun u F2 H2 g2 r2 => h v u F2 H2 (g1.trans g2) (r1.gr g2) r2⟩⟩
theorem split2 {env : Env} {d : D} (h : e2 g fa fb env = some d) : ∃ x y, fa env = some x ∧ fb env = some y ∧ g x y = some d := by
  simp only [e2] at h
  cases q : fa env with
  | none => rw [q] at h; cases h
  | some x =>
    rw [q] at h
    cases q2 : fb env with
    | none => rw [q2] at h; cases h
    | some y =>
      rw [q2] at h
      exact ⟨x, y, rfl, rfl, h⟩
theorem eo {op : Operator} (ho : OpV X (binaryOp op) g) (ha : PE X a (rB (gx X) O fa)) (hb : PE X b (rB (gx X) O fb)) : PE X (.BinOp a op b pos) (rV (gx X) O (e2 g fa fb)) :=
  (pe_op ho ha hb).imp fun σ H Q ⟨F, env, d, hs, hf, q⟩ => by
    obtain ⟨x, y, h1, h2, h3⟩ := split2 hf
    exact seq2 hs h1 h2 fun v u F' H' g' r1 r2 => ⟨F', x, y, d, g'.fh, r1, r2, h3, q.gr g'⟩
theorem eoN {op : Operator} (ho : OpN X (binaryOp op) g) (ha : PE X a (rB (gx X) O fa)) (hb : PE X b (rB (gx X) O fb)) : PE X (.BinOp a op b pos) (rN (gx X) O (e2 g fa fb)) :=
  (pe_op ho ha hb).imp fun σ H Q ⟨F, env, d, hs, hf, q⟩ => by
    obtain ⟨x, y, h1, h2, h3⟩ := split2 hf
    exact seq2 hs h1 h2 fun v u F' H' g' r1 r2 => ⟨F', x, y, d, g'.fh, r1, r2, h3, q.gr g'⟩
theorem split1 {g : D → Option D} {env : Env} {d : D} (h : e1 g fa env = some d) : ∃ x, fa env = some x ∧ g x = some d := by
  simp only [e1] at h
  cases q : fa env with
  | none => rw [q] at h; cases h
  | some x =>
    rw [q] at h
    exact ⟨x, rfl, h⟩
theorem eu {op : UnaryOp} {g : D → Option D} (ho : UnV X (unaryOp op) g) (ha : PE X a (rB (gx X) O fa)) : PE X (.UnaryOp op a pos) (rV (gx X) O (e1 g fa)) :=
  (pe_un ho ha).imp fun σ H Q ⟨F, env, d, hs, hf, q⟩ => by
    obtain ⟨x, h1, h3⟩ := split1 hf
    exact ⟨F, env, x, hs, h1, fun v F' H' g' r1 => ⟨F', x, d, g'.fh, r1, h3, q.gr g'⟩⟩
/-- a comparison -/
theorem ec {op : CmpOp} (ho : OpV X (compareOp op) g) (ha : PE X a (rB (gx X) O fa)) (hb : PE X b (rB (gx X) O fb)) (hm : behindInMarks op b = false := by first | exact nomark _ | rfl | with_unfolding_all rfl) : PE X (.Compare a [op] [b] pos) (rV (gx X) O (e2 g fa fb)) :=
  (pe_cmpR ho ha hb hm).imp fun σ H Q ⟨F, env, d, hs, hf, q⟩ => by
    obtain ⟨x, y, h1, h2, h3⟩ := split2 hf
    exact seq2 hs h1 h2 fun v u F' H' g' r1 r2 => ⟨F', x, y, d, g'.fh, r1, r2, h3, q.gr g'⟩
theorem tvSplit {f : SE} {env : Env} {k : Bool} (h : tV f env = some k) : f env = some (.bool k) := by
  simp only [tV] at h
  cases q : f env with
  | none => rw [q] at h; cases h
  | some x =>
    rw [q] at h
    cases x <;> first | (cases h; done) | skip
    simp only [Option.bind_some, toB] at h
    rw [Option.some.inj h]
theorem tc {op : CmpOp} (ho : OpV X (compareOp op) g) (ha : PE X a (rB (gx X) O fa)) (hb : PE X b (rB (gx X) O fb)) (hm : behindInMarks op b = false := by first | exact nomark _ | rfl | with_unfolding_all rfl) : PT X (.Compare a [op] [b] pos) (rT (gx X) O (tV (e2 g fa fb))) :=
  (pt_cmpR ho ha hb hm).imp fun σ H Q ⟨F, env, d, hs, hf, q⟩ => by
    obtain ⟨x, y, h1, h2, h3⟩ := split2 (tvSplit hf)
    exact seq2 hs h1 h2 fun v u F' H' g' r1 r2 => ⟨F', x, y, _, g'.fh, r1, r2, h3, fun w F2 H2 g2 rw => by
      cases rw
      exact ⟨d, rfl, q F2 H2 (g'.trans g2)⟩⟩
/-- a test by its value -/
theorem tv (h : PE X a (rV (gx X) O fa)) (he : ∀ whole, isTrue a X.env whole = (do let v ← whole; standAt a.pos; holding [v] (truthy v)) := by intro _; rfl) : PT X a (rT (gx X) O (tV fa)) :=
  (pt_val h he).imp fun σ H Q ⟨F, env, d, hs, hf, q⟩ => ⟨F, env, .bool d, hs, tvSplit hf, fun v F' H' g' r => by
    cases r
    exact ⟨d, rfl, q F' H' g'⟩⟩
end
end TL

set_option Elab.async false
set_option linter.all false
set_option maxRecDepth 100000
/-! The tree layer: truth, displays, calls, places. -/
namespace TL
open PySem PySem.Spec PyProof.Rows L2
theorem bind_some {α β : Type} {a : Option α} {f : α → Option β} {b : β} (h : a.bind f = some b) : ∃ x, a = some x ∧ f x = some b := by
  cases a with
  | none => cases h
  | some x => exact ⟨x, rfl, h⟩
theorem map_some {α β : Type} {a : Option α} {f : α → β} {b : β} (h : a.map f = some b) : ∃ x, a = some x ∧ f x = b := by
  cases a with
  | none => cases h
  | some x => exact ⟨x, rfl, Option.some.inj h⟩
theorem toB_some {d : D} {k : Bool} (h : toB d = some k) : d = .bool k := by
  cases d <;> first | (cases h; done) | skip
  simp only [toB] at h
  rw [Option.some.inj h]
theorem toI_some {d : D} {k : Int} (h : toI d = some k) : d = .int k := by
  cases d <;> first | (cases h; done) | skip
  simp only [toI] at h
  rw [Option.some.inj h]
section
variable {X : Cx} {O : List Nat} {a b c : Expr} {fa fb fc : SE} {ta tb : ST} {pos : Pos} {rest : List Expr}
/-! ### chains -/
theorem ech {op op' : CmpOp} {g g' : D → D → Option D} (ho : OpV X (compareOp op) g) (ho' : OpV X (compareOp op') g') (ha : PE X a (rB (gx X) O fa)) (hb : PE X b (rB (gx X) O fb)) (hc : PE X c (rB (gx X) O fc))
    (hm : lastMarks [op, op'] [b, c] = false := by with_unfolding_all rfl) : PE X (.Compare a [op, op'] [b, c] pos) (rV (gx X) O (eChain g g' fa fb fc)) :=
  (pe_chain ho ho' ha hb hc hm).imp fun σ H Q ⟨F, env, d, hs, hf, q⟩ => by
    simp only [eChain] at hf
    obtain ⟨x, h1, hf⟩ := bind_some hf
    obtain ⟨y, h2, hf⟩ := bind_some hf
    obtain ⟨z, h3, hf⟩ := bind_some hf
    obtain ⟨k, h4, hk⟩ := bind_some hf
    refine ⟨F, env, x, hs, h1, fun v F1 H1 g1 r1 => ⟨F1, env, y, hs.gr g1, h2, fun u F2 H2 g2 r2 => ⟨F2, x, y, z, g2.fh, r1.gr g2, r2, h3, fun w F3 H3 g3 r3 => ?_⟩⟩⟩
    have e4 := toB_some h4
    subst e4
    cases r3
    refine ⟨k, rfl, ?_⟩
    have g13 := (g1.trans g2).trans g3
    cases k with
    | true =>
      rw [if_pos rfl] at hk ⊢
      obtain ⟨w', h5, h6⟩ := bind_some hk
      exact ⟨F3, env, w', hs.gr g13, h5, fun w F4 H4 g4 r4 => ⟨F4, y, w', d, g4.fh, (r2.gr g3).gr g4, r4, h6, q.gr (g13.trans g4)⟩⟩
    | false =>
      rw [if_neg Bool.false_ne_true] at hk ⊢
      cases hk
      exact q _ F3 H3 g13 (.bl false)
theorem tch {op op' : CmpOp} {g g' : D → D → Option D} (ho : OpV X (compareOp op) g) (ho' : OpV X (compareOp op') g') (ha : PE X a (rB (gx X) O fa)) (hb : PE X b (rB (gx X) O fb)) (hc : PE X c (rB (gx X) O fc))
    (hm : lastMarks [op, op'] [b, c] = false := by with_unfolding_all rfl) : PT X (.Compare a [op, op'] [b, c] pos) (rT (gx X) O (tV (eChain g g' fa fb fc))) :=
  (pt_chain ho ho' ha hb hc hm).imp fun σ H Q ⟨F, env, d, hs, hf, q⟩ => by
    have hf := tvSplit hf
    simp only [eChain] at hf
    obtain ⟨x, h1, hf⟩ := bind_some hf
    obtain ⟨y, h2, hf⟩ := bind_some hf
    obtain ⟨z, h3, hf⟩ := bind_some hf
    obtain ⟨k, h4, hk⟩ := bind_some hf
    refine ⟨F, env, x, hs, h1, fun v F1 H1 g1 r1 => ⟨F1, env, y, hs.gr g1, h2, fun u F2 H2 g2 r2 => ⟨F2, x, y, z, g2.fh, r1.gr g2, r2, h3, fun w F3 H3 g3 r3 => ?_⟩⟩⟩
    have e4 := toB_some h4
    subst e4
    cases r3
    refine ⟨k, rfl, ?_⟩
    have g13 := (g1.trans g2).trans g3
    cases k with
    | true =>
      rw [if_pos rfl] at hk ⊢
      obtain ⟨w', h5, h6⟩ := bind_some hk
      refine ⟨F3, env, w', hs.gr g13, h5, fun w F4 H4 g4 r4 => ⟨F4, y, w', _, g4.fh, (r2.gr g3).gr g4, r4, h6, fun v F5 H5 g5 r5 => ?_⟩⟩
      cases r5
      exact ⟨d, rfl, q F5 H5 ((g13.trans g4).trans g5)⟩
    | false =>
      rw [if_neg Bool.false_ne_true] at hk ⊢
      cases hk
      exact ⟨false, rfl, q F3 H3 g13⟩
/-! ### and, or, not, if -/
theorem eone {op} (h : PE X a (rV (gx X) O fa)) : PE X (.BoolOp op [a] pos) (rV (gx X) O fa) := pe_one h
theorem eand (ha : PE X a (rV (gx X) O fa)) (hb : PE X (.BoolOp .And (b :: rest) pos) (rV (gx X) O fb)) : PE X (.BoolOp .And (a :: b :: rest) pos) (rV (gx X) O (eAnd fa fb)) :=
  (pe_and ha hb).imp fun σ H Q ⟨F, env, d, hs, hf, q⟩ => by
    simp only [eAnd] at hf
    obtain ⟨x, h1, hf⟩ := bind_some hf
    obtain ⟨k, h4, hk⟩ := bind_some hf
    refine ⟨F, env, x, hs, h1, fun v F1 H1 g1 r1 => ?_⟩
    have e4 := toB_some h4
    subst e4
    cases r1
    refine ⟨k, rfl, ?_⟩
    cases k with
    | true => exact ⟨F1, env, d, hs.gr g1, hk, q.gr g1⟩
    | false =>
      cases hk
      exact q _ F1 H1 g1 (.bl false)
theorem eor (ha : PE X a (rV (gx X) O fa)) (hb : PE X (.BoolOp .Or (b :: rest) pos) (rV (gx X) O fb)) : PE X (.BoolOp .Or (a :: b :: rest) pos) (rV (gx X) O (eOr fa fb)) :=
  (pe_or ha hb).imp fun σ H Q ⟨F, env, d, hs, hf, q⟩ => by
    simp only [eOr] at hf
    obtain ⟨x, h1, hf⟩ := bind_some hf
    obtain ⟨k, h4, hk⟩ := bind_some hf
    refine ⟨F, env, x, hs, h1, fun v F1 H1 g1 r1 => ?_⟩
    have e4 := toB_some h4
    subst e4
    cases r1
    refine ⟨k, rfl, ?_⟩
    cases k with
    | false => exact ⟨F1, env, d, hs.gr g1, hk, q.gr g1⟩
    | true =>
      cases hk
      exact q _ F1 H1 g1 (.bl true)
theorem enot (ha : PE X a (rV (gx X) O fa)) : PE X (.UnaryOp .Not a pos) (rV (gx X) O (eNot fa)) :=
  (pe_not ha).imp fun σ H Q ⟨F, env, d, hs, hf, q⟩ => by
    simp only [eNot] at hf
    obtain ⟨x, h1, hf⟩ := bind_some hf
    obtain ⟨k, h4, hk⟩ := map_some hf
    refine ⟨F, env, x, hs, h1, fun v F1 H1 g1 r1 => ?_⟩
    have e4 := toB_some h4
    subst e4 hk
    cases r1
    exact ⟨k, rfl, q _ F1 H1 g1 (.bl _)⟩
theorem tone1 (h : PT X a (rT (gx X) O ta)) : PW X (.BoolOp .And [a] pos) (rT (gx X) O ta) := pw_and1 h
theorem tone2 (h : PT X a (rT (gx X) O ta)) : PW X (.BoolOp .Or [a] pos) (rT (gx X) O ta) := pw_or1 h
theorem tand (ha : PT X a (rT (gx X) O ta)) (hb : PW X (.BoolOp .And (b :: rest) pos) (rT (gx X) O tb)) : PW X (.BoolOp .And (a :: b :: rest) pos) (rT (gx X) O (TL.tAnd ta tb)) :=
  (pw_and ha hb).imp fun σ H Q ⟨F, env, d, hs, hf, q⟩ => by
    simp only [TL.tAnd] at hf
    obtain ⟨k, h1, hf⟩ := bind_some hf
    refine ⟨F, env, k, hs, h1, fun F1 H1 g1 => ?_⟩
    cases k with
    | true => exact ⟨F1, env, d, hs.gr g1, hf, fun F2 H2 g2 => q F2 H2 (g1.trans g2)⟩
    | false =>
      cases hf
      exact q F1 H1 g1
theorem tor (ha : PT X a (rT (gx X) O ta)) (hb : PW X (.BoolOp .Or (b :: rest) pos) (rT (gx X) O tb)) : PW X (.BoolOp .Or (a :: b :: rest) pos) (rT (gx X) O (TL.tOr ta tb)) :=
  (pw_or ha hb).imp fun σ H Q ⟨F, env, d, hs, hf, q⟩ => by
    simp only [TL.tOr] at hf
    obtain ⟨k, h1, hf⟩ := bind_some hf
    refine ⟨F, env, k, hs, h1, fun F1 H1 g1 => ?_⟩
    cases k with
    | false => exact ⟨F1, env, d, hs.gr g1, hf, fun F2 H2 g2 => q F2 H2 (g1.trans g2)⟩
    | true =>
      cases hf
      exact q F1 H1 g1
theorem tw (h : PW X a (rT (gx X) O ta)) : PT X a (rT (gx X) O ta) := h.pt
theorem tnot (ha : PT X a (rT (gx X) O ta)) : PT X (.UnaryOp .Not a pos) (rT (gx X) O (TL.tNot ta)) :=
  (pt_not ha).imp fun σ H Q ⟨F, env, d, hs, hf, q⟩ => by
    simp only [TL.tNot] at hf
    obtain ⟨k, h1, hf⟩ := map_some hf
    subst hf
    exact ⟨F, env, k, hs, h1, q⟩
theorem eif (hc : PT X c (rT (gx X) O ta)) (ha : PE X a (rV (gx X) O fa)) (hb : PE X b (rV (gx X) O fb)) : PE X (.IfExp c a b pos) (rV (gx X) O (eIf ta fa fb)) :=
  (pe_ifExp hc ha hb).imp fun σ H Q ⟨F, env, d, hs, hf, q⟩ => by
    simp only [eIf] at hf
    obtain ⟨k, h1, hf⟩ := bind_some hf
    refine ⟨F, env, k, hs, h1, fun F1 H1 g1 => ?_⟩
    cases k with
    | true => exact ⟨F1, env, d, hs.gr g1, hf, q.gr g1⟩
    | false => exact ⟨F1, env, d, hs.gr g1, hf, q.gr g1⟩
end
/-! ### arguments -/
def aV (G : Gx) (O : List Nat) (f : SI) : TA := fun σ H Q => ∃ F env ds, SOk G O F H σ env ∧ f env = some ds ∧ ∀ vs F' H', Gr F H F' H' → RpAll G F' vs ds → Q vs H'
section
variable {X : Cx} {O : List Nat} {e : Expr} {es : List Expr} {f : SE} {l : List SE} {pos : Pos}
theorem _root_.L2.PA.imp {t t' : TA} (h : PA X es t) (i : ∀ σ H Q, t' σ H Q → t σ H Q) : PA X es t' := ⟨fun pos pins s σ H Q I q => h.run pos pins s σ H Q I (i σ H Q q)⟩
theorem an : PA X [] (aV (gx X) O (eArgs [])) := pa_nil.imp fun σ H Q ⟨F, env, ds, hs, hf, q⟩ => by
  cases hf
  exact q [] F H (Gr.refl hs.fh) .nil
theorem ac (ha : PE X e (rV (gx X) O f)) (hr : PA X es (aV (gx X) O (eArgs l))) (hs : starEach (e :: es) X.env = (false, eval e X.env) :: starEach es X.env := by rfl) : PA X (e :: es) (aV (gx X) O (eArgs (f :: l))) :=
  (pa_cons ha hr hs).imp fun σ H Q ⟨F, env, ds, hs, hf, q⟩ => by
    simp only [eArgs] at hf
    obtain ⟨x, h1, hf⟩ := bind_some hf
    obtain ⟨xs, h2, hf⟩ := map_some hf
    subst hf
    exact ⟨F, env, x, hs, h1, fun v F1 H1 g1 r1 => ⟨F1, env, xs, hs.gr g1, h2, fun vs F2 H2 g2 r2 => q (v :: vs) F2 H2 (g1.trans g2) (.cons (r1.mono g2.ff) r2)⟩⟩
theorem etup {x1} (h : PA X es (aV (gx X) O (eArgs l))) : PE X (.Tuple es x1 pos) (rV (gx X) O (eTup l)) :=
  (pe_tup h).imp fun σ H Q ⟨F, env, d, hs, hf, q⟩ => by
    simp only [eTup] at hf
    obtain ⟨ds, h1, hf⟩ := bind_some hf
    refine ⟨F, env, ds, hs, h1, fun vs F1 H1 g1 r1 => ?_⟩
    split at hf
    · cases hf
      exact ⟨by rw [r1.length]; assumption, fun p hp => (q.gr g1).newT g1.fh r1 hp⟩
    · cases hf
theorem elst (h : PA X es (aV (gx X) O (eArgs l))) : PE X (.List es pos) (rN (gx X) O (eLst l)) :=
  (pe_lst h).imp fun σ H Q ⟨F, env, d, hs, hf, q⟩ => by
    simp only [eLst] at hf
    obtain ⟨ds, h1, hf⟩ := bind_some hf
    refine ⟨F, env, ds, hs, h1, fun vs F1 H1 g1 r1 => ?_⟩
    split at hf
    · cases hf
      exact ⟨by rw [r1.length]; assumption, fun p hp => (q.gr g1).newL g1.fh r1 hp⟩
    · cases hf
end
/-! ### a def's promise -/
def spV (G : Gx) (n : Nat) (m : List D → Option D) : Sp := fun vs H Q _ => ∃ F ds d, Fz G F H ∧ RpAll G F vs ds ∧ ds.length = n ∧ m ds = some d ∧ kV G F H d Q
def spN (G : Gx) (n : Nat) (m : List D → Option D) : Sp := fun vs H Q _ => ∃ F ds d, Fz G F H ∧ RpAll G F vs ds ∧ ds.length = n ∧ m ds = some d ∧ kN G F H d Q
section
variable {X : Cx} {O : List Nat} {e : Expr} {es : List Expr} {l : List SE} {p pos : Pos} {x : Str} {k n : Nat} {fa : Addr} {fd : FuncData} {ps : List Str} {m : List D → Option D}
theorem FnOk.nv {P w} {G : Gx} {base CX} (F : FnOk P w G.K G.mg base CX k fa fd ps (spN G n m)) : FnOk P w G.K G.mg base CX k fa fd ps (spV G n m) :=
  F.imp fun vs H Q E ⟨F, ds, d, h1, h2, h3, h4, q⟩ => ⟨F, ds, d, h1, h2, h3, h4, q.n⟩
theorem ecall (F : FnOk X.prog X.w (gx X).K (gx X).mg X.base CX0 k fa fd ps (spV (gx X) n m)) (hr : Room k X.A) (hg : Gl X x) (hm : X.mg x = some (.ref fa)) (hk : PySem.W.keepIn X.K (.ref fa) = true) (hb : Binds X.K fd ps [])
    (ha : PA X (e :: es) (aV (gx X) O (eArgs l))) (hn : l.length = n := by rfl) (hdb : (x == ("__debug__" : Str)) = false := by decide) (he : starEach (e :: es) X.env = (false, eval e X.env) :: starEach es X.env := by rfl) (hpl : (backTo pos (starEach es X.env)).any (·.1) = false := by rfl) :
    PE X (.Call (.Name x p) (e :: es) [] pos) (rV (gx X) O (eCall m l)) :=
  (pe_call F hr hg hm hk hb .nil pass0 ha hdb he hpl).imp fun σ H Q ⟨F, env, d, hs, hf, q⟩ => by
    simp only [eCall] at hf
    obtain ⟨ds, h1, hf⟩ := bind_some hf
    have hl : ∀ (l : List SE) (ds : List D), eArgs l env = some ds → ds.length = l.length := by
      intro l
      induction l with
      | nil => intro ds h; cases h; rfl
      | cons a l ih =>
        intro ds h
        simp only [eArgs] at h
        obtain ⟨x, _, h⟩ := bind_some h
        obtain ⟨xs, h2, h⟩ := map_some h
        subst h
        exact congrArg (· + 1) (ih xs h2)
    refine ⟨F, env, ds, hs, h1, fun vs F1 H1 g1 r1 => ?_⟩
    show spV (gx X) n m (vs ++ []) H1 Q E0
    rw [List.append_nil]
    exact ⟨F1, ds, d, (hs.gr g1).fz, r1, (hl l ds h1).trans hn, hf, q.gr g1⟩
theorem ecallN (F : FnOk X.prog X.w (gx X).K (gx X).mg X.base CX0 k fa fd ps (spN (gx X) n m)) (hr : Room k X.A) (hg : Gl X x) (hm : X.mg x = some (.ref fa)) (hk : PySem.W.keepIn X.K (.ref fa) = true) (hb : Binds X.K fd ps [])
    (ha : PA X (e :: es) (aV (gx X) O (eArgs l))) (hn : l.length = n := by rfl) (hdb : (x == ("__debug__" : Str)) = false := by decide) (he : starEach (e :: es) X.env = (false, eval e X.env) :: starEach es X.env := by rfl) (hpl : (backTo pos (starEach es X.env)).any (·.1) = false := by rfl) :
    PE X (.Call (.Name x p) (e :: es) [] pos) (rN (gx X) O (eCall m l)) :=
  (pe_call F hr hg hm hk hb .nil pass0 ha hdb he hpl).imp fun σ H Q ⟨F, env, d, hs, hf, q⟩ => by
    simp only [eCall] at hf
    obtain ⟨ds, h1, hf⟩ := bind_some hf
    have hl : ∀ (l : List SE) (ds : List D), eArgs l env = some ds → ds.length = l.length := by
      intro l
      induction l with
      | nil => intro ds h; cases h; rfl
      | cons a l ih =>
        intro ds h
        simp only [eArgs] at h
        obtain ⟨x, _, h⟩ := bind_some h
        obtain ⟨xs, h2, h⟩ := map_some h
        subst h
        exact congrArg (· + 1) (ih xs h2)
    refine ⟨F, env, ds, hs, h1, fun vs F1 H1 g1 r1 => ?_⟩
    show spN (gx X) n m (vs ++ []) H1 Q E0
    rw [List.append_nil]
    exact ⟨F1, ds, d, (hs.gr g1).fz, r1, (hl l ds h1).trans hn, hf, q.gr g1⟩
end
/-! ### built-in functions -/
def CalV (X : Cx) (f : Value) (g : D → Option D) : Prop := CallR X f fun xs H Q => ∃ F x dx d, xs = [x] ∧ Same F H ∧ RpB (gx X) F H x dx ∧ g dx = some d ∧ kV (gx X) F H d Q
def CalN (X : Cx) (f : Value) (g : D → Option D) : Prop := CallR X f fun xs H Q => ∃ F x dx d, xs = [x] ∧ Same F H ∧ RpB (gx X) F H x dx ∧ g dx = some d ∧ kN (gx X) F H d Q
def CalV2 (X : Cx) (f : Value) (g : D → D → Option D) : Prop := CallR X f fun xs H Q => ∃ F x y dx dy d, xs = [x, y] ∧ Same F H ∧ RpB (gx X) F H x dx ∧ RpB (gx X) F H y dy ∧ g dx dy = some d ∧ kV (gx X) F H d Q
section
variable {X : Cx} {O : List Nat} {e e' : Expr} {f f' : SE} {p pos : Pos} {x : Str} {g : D → Option D} {id T : String}
theorem eB (hc : CalV X (.builtin id) g) (hg : Gl X x) (hm : X.mg x = none) (hv : bootBuiltins x = some (.builtin id)) (ha : PE X e (rB (gx X) O f)) (hn : x ≠ "__name__" := by decide) (hdb : (x == ("__debug__" : Str)) = false := by decide)
    (hs : starEach [e] X.env = (false, eval e X.env) :: starEach [] X.env := by rfl) : PE X (.Call (.Name x p) [e] [] pos) (rV (gx X) O (e1 g f)) :=
  (pe_callB hc hg hm hv (pa_cons ha pa_nil hs) hn hdb hs rfl).imp fun σ H Q ⟨F, env, d, hs, hf, q⟩ => by
    obtain ⟨x, h1, h3⟩ := split1 hf
    exact ⟨F, env, x, hs, h1, fun v F1 H1 g1 r1 => ⟨F1, v, x, d, rfl, g1.fh, r1, h3, q.gr g1⟩⟩
theorem eBN (hc : CalN X (.builtin id) g) (hg : Gl X x) (hm : X.mg x = none) (hv : bootBuiltins x = some (.builtin id)) (ha : PE X e (rB (gx X) O f)) (hn : x ≠ "__name__" := by decide) (hdb : (x == ("__debug__" : Str)) = false := by decide)
    (hs : starEach [e] X.env = (false, eval e X.env) :: starEach [] X.env := by rfl) : PE X (.Call (.Name x p) [e] [] pos) (rN (gx X) O (e1 g f)) :=
  (pe_callB hc hg hm hv (pa_cons ha pa_nil hs) hn hdb hs rfl).imp fun σ H Q ⟨F, env, d, hs, hf, q⟩ => by
    obtain ⟨x, h1, h3⟩ := split1 hf
    exact ⟨F, env, x, hs, h1, fun v F1 H1 g1 r1 => ⟨F1, v, x, d, rfl, g1.fh, r1, h3, q.gr g1⟩⟩
theorem eT (hc : CalV X (.type T) g) (hg : Gl X x) (hm : X.mg x = none) (hv : bootBuiltins x = some (.type T)) (ha : PE X e (rB (gx X) O f)) (hn : x ≠ "__name__" := by decide) (hdb : (x == ("__debug__" : Str)) = false := by decide)
    (hs : starEach [e] X.env = (false, eval e X.env) :: starEach [] X.env := by rfl) : PE X (.Call (.Name x p) [e] [] pos) (rV (gx X) O (e1 g f)) :=
  (pe_callTy hc hg hm hv (pa_cons ha pa_nil hs) hn hdb hs rfl).imp fun σ H Q ⟨F, env, d, hs, hf, q⟩ => by
    obtain ⟨x, h1, h3⟩ := split1 hf
    exact ⟨F, env, x, hs, h1, fun v F1 H1 g1 r1 => ⟨F1, v, x, d, rfl, g1.fh, r1, h3, q.gr g1⟩⟩
theorem eTN (hc : CalN X (.type T) g) (hg : Gl X x) (hm : X.mg x = none) (hv : bootBuiltins x = some (.type T)) (ha : PE X e (rB (gx X) O f)) (hn : x ≠ "__name__" := by decide) (hdb : (x == ("__debug__" : Str)) = false := by decide)
    (hs : starEach [e] X.env = (false, eval e X.env) :: starEach [] X.env := by rfl) : PE X (.Call (.Name x p) [e] [] pos) (rN (gx X) O (e1 g f)) :=
  (pe_callTy hc hg hm hv (pa_cons ha pa_nil hs) hn hdb hs rfl).imp fun σ H Q ⟨F, env, d, hs, hf, q⟩ => by
    obtain ⟨x, h1, h3⟩ := split1 hf
    exact ⟨F, env, x, hs, h1, fun v F1 H1 g1 r1 => ⟨F1, v, x, d, rfl, g1.fh, r1, h3, q.gr g1⟩⟩
theorem eB2 {g : D → D → Option D} (hc : CalV2 X (.builtin id) g) (hg : Gl X x) (hm : X.mg x = none) (hv : bootBuiltins x = some (.builtin id)) (ha : PE X e (rB (gx X) O f)) (hb : PE X e' (rB (gx X) O f')) (hn : x ≠ "__name__" := by decide) (hdb : (x == ("__debug__" : Str)) = false := by decide)
    (hs : starEach [e, e'] X.env = (false, eval e X.env) :: starEach [e'] X.env := by rfl) (hs2 : starEach [e'] X.env = (false, eval e' X.env) :: starEach [] X.env := by rfl) (hpl : (backTo pos (starEach [e'] X.env)).any (·.1) = false := by rfl) : PE X (.Call (.Name x p) [e, e'] [] pos) (rV (gx X) O (e2 g f f')) :=
  (pe_callB hc hg hm hv (pa_cons ha (pa_cons hb pa_nil hs2) hs) hn hdb hs hpl).imp fun σ H Q ⟨F, env, d, hs, hf, q⟩ => by
    obtain ⟨x, y, h1, h2, h3⟩ := split2 hf
    exact ⟨F, env, x, hs, h1, fun v F1 H1 g1 r1 => ⟨F1, env, y, hs.gr g1, h2, fun u F2 H2 g2 r2 => ⟨F2, v, u, x, y, d, rfl, g2.fh, r1.gr g2, r2, h3, q.gr (g1.trans g2)⟩⟩⟩
end
/-! ### places and cuts -/
section
variable {X : Cx} {O : List Nat} {a b : Expr} {fa fb : SE} {pos p2 : Pos}
theorem ixV : IxR X fun x y H Q => ∃ F dx dy d, Same F H ∧ RpB (gx X) F H x dx ∧ RpB (gx X) F H y dy ∧ ixD dx dy = some d ∧ kV (gx X) F H d Q := by
  intro va sl pins s σ H x y v u Q hI rx ry h hp
  obtain ⟨F, dx, dy, d, sm, bx, by_, hd, q⟩ := h
  cases dx with
  | list ds =>
    cases dy with
    | int i =>
      have ey := by_.int
      subst ey
      obtain ⟨p, vs, rfl, hl, r⟩ := bx.lst sm
      obtain ⟨w, h1, h2⟩ := r.atI hd
      exact ix_list va sl pins s σ H _ _ v u Q hI rx ry ⟨p, vs, i, w, rfl, rfl, hl, h1, q.same sm h2⟩ hp
    | _ => cases hd
  | tuple ds =>
    cases dy with
    | int i =>
      have ey := by_.int
      subst ey
      obtain ⟨p, vs, rfl, _, hl, r⟩ := bx.tup sm
      obtain ⟨w, h1, h2⟩ := r.atI hd
      exact ix_tup va sl pins s σ H _ _ v u Q hI rx ry ⟨p, vs, i, w, rfl, rfl, hl, h1, q.same sm h2⟩ hp
    | _ => cases hd
  | str z =>
    cases dy with
    | int i =>
      have ey := by_.int
      subst ey
      have ex := bx.str
      subst ex
      simp only [ixD] at hd
      split at hd
      · rename_i hz
        obtain ⟨c, h1, h2⟩ := map_some hd
        subst h2
        exact ix_str va sl pins s σ H _ _ v u Q hI rx ry ⟨z, i, c, rfl, rfl, hz, h1, q.same sm (.str _)⟩ hp
      · cases hd
    | _ => cases hd
  | _ => cases dy <;> cases hd
theorem eix (ha : PE X a (rB (gx X) O fa)) (hb : PE X b (rB (gx X) O fb)) (hs : PlainIx b := by exact fun _ _ => rfl) : PE X (.Subscript a b pos) (rV (gx X) O (e2 ixD fa fb)) :=
  (pe_ix ixV ha hb hs).imp fun σ H Q ⟨F, env, d, hs, hf, q⟩ => by
    obtain ⟨x, y, h1, h2, h3⟩ := split2 hf
    exact seq2 hs h1 h2 fun v u F' H' g' r1 r2 => ⟨F', x, y, d, g'.fh, r1, r2, h3, q.gr g'⟩
/-- parts of a cut -/
def oV (G : Gx) (O : List Nat) (o : Option SE) : TO := fun σ H Q => ∃ F env k, SOk G O F H σ env ∧ ePart o env = some k ∧ ∀ F' H', Gr F H F' H' → Q k H'
theorem on : PO X none (oV (gx X) O none) := ⟨fun pins s σ H Q I ⟨F, env, k, hs, hf, q⟩ => by
  cases hf
  exact po_none.run pins s σ H Q I (q F H (Gr.refl hs.fh))⟩
theorem os (ha : PE X a (rV (gx X) O fa)) : PO X (some a) (oV (gx X) O (some fa)) := ⟨fun pins s σ H Q I ⟨F, env, k, hs, hf, q⟩ => by
  simp only [ePart] at hf
  obtain ⟨x, h1, hf⟩ := bind_some hf
  obtain ⟨i, h2, h3⟩ := map_some hf
  have e2 := toI_some h2
  subst e2 h3
  refine (po_some ha).run pins s σ H Q I ⟨F, env, _, hs, h1, fun v F1 H1 g1 r1 => ?_⟩
  cases r1
  exact ⟨i, rfl, q F1 H1 g1⟩⟩
theorem cutV_whole {xs : List V} {lo hi : Option Int} (h : HT.sIx xs.length 0 lo = 0 ∧ HT.sIx xs.length xs.length hi = xs.length) : cutV xs lo hi = xs := by
  unfold cutV
  rw [h.1, h.2, List.drop_zero, Nat.sub_zero, List.take_length]
theorem cutT_whole {xs : List D} {lo hi : Option Int} (h : HT.sIx xs.length 0 lo = 0 ∧ HT.sIx xs.length xs.length hi = xs.length) : cutT xs lo hi = xs := by
  unfold cutT
  rw [h.1, h.2, List.drop_zero, Nat.sub_zero, List.take_length]
theorem slV : SlR X fun x lo hi H Q => ∃ F dx d, Same F H ∧ RpB (gx X) F H x dx ∧ cutD lo hi dx = some d ∧ kV (gx X) F H d Q := by
  intro pins s σ H x v vl vu lo hi sl Q I rx hs pl pu h
  obtain ⟨F, dx, d, sm, bx, hd, q⟩ := h
  cases dx with
  | list ds =>
    obtain ⟨p, vs, rfl, hl, r⟩ := bx.lst sm
    cases hd
    exact sl_list pins s σ H _ v vl vu lo hi sl Q I rx hs pl pu ⟨p, vs, rfl, hl, fun p hp => q.n.newL sm (r.cut lo hi) hp⟩
  | tuple ds =>
    obtain ⟨p, vs, rfl, hf, hl, r⟩ := bx.tup sm
    cases hd
    refine sl_tupA pins s σ H _ v vl vu lo hi sl Q I rx hs pl pu ⟨p, vs, rfl, hl, fun hw => ?_, fun _ p hp => q.newT sm (r.cut lo hi) hp⟩
    rw [cutT_whole (by rw [← r.length]; exact hw)] at q
    exact q.same sm (.tup hf r)
  | _ => cases hd
theorem slN : SlR X fun x lo hi H Q => ∃ F dx d ds, dx = .list ds ∧ Same F H ∧ RpB (gx X) F H x dx ∧ cutD lo hi dx = some d ∧ kN (gx X) F H d Q := by
  intro pins s σ H x v vl vu lo hi sl Q I rx hs pl pu h
  obtain ⟨F, dx, d, ds, rfl, sm, bx, hd, q⟩ := h
  obtain ⟨p, vs, rfl, hl, r⟩ := bx.lst sm
  cases hd
  exact sl_list pins s σ H _ v vl vu lo hi sl Q I rx hs pl pu ⟨p, vs, rfl, hl, fun p hp => q.newL sm (r.cut lo hi) hp⟩
theorem esl {lo hi : Option Expr} {fl fh : Option SE} (ha : PE X a (rB (gx X) O fa)) (hl : PO X lo (oV (gx X) O fl)) (hh : PO X hi (oV (gx X) O fh)) : PE X (.Subscript a (.Slice lo hi none p2) pos) (rV (gx X) O (eSlice fa fl fh)) :=
  (pe_slice slV ha hl hh).imp fun σ H Q ⟨F, env, d, hs, hf, q⟩ => by
    simp only [eSlice] at hf
    obtain ⟨x, h1, hf⟩ := bind_some hf
    obtain ⟨l, h2, hf⟩ := bind_some hf
    obtain ⟨h, h3, hf⟩ := bind_some hf
    exact ⟨F, env, x, hs, h1, fun v F1 H1 g1 r1 => ⟨F1, env, l, hs.gr g1, h2, fun F2 H2 g2 => ⟨F2, env, h, hs.gr (g1.trans g2), h3, fun F3 H3 g3 => ⟨F3, x, d, g3.fh, (r1.gr g2).gr g3, hf, q.gr ((g1.trans g2).trans g3)⟩⟩⟩⟩
end
end TL

set_option Elab.async false
set_option linter.all false
set_option maxRecDepth 100000
/-! The tree layer: the operators and built-in functions. -/
namespace TL
open PySem PySem.Spec PyProof.Rows L2
section
variable {X : Cx}
theorem add_listG {pins : List (Addr × Obj)} {s : Shared} {σ : L2.St} {H : Hp} {Q : VK} {a b : Addr} {xs ys : List V} (I : Inv X pins σ H s) (ha : SqL X.K H a xs) (hb : SqL X.K H b ys) (hz : xs.length + ys.length ≤ sizeLine)
    (q : ∀ p, H p = none → Q (.ref p) (upd H p (.lst (xs ++ ys)))) : wpAny (model X.prog X.w) X.A (binaryOp .Add (.ref a) (.ref b)) (EP X pins σ Q) X.xe s := by
  obtain ⟨its, r, p, _⟩ := I.list ha
  obtain ⟨its2, r2, p2, _⟩ := I.list hb
  have hl := r.length
  have hl2 := r2.length
  obtain ⟨⟨cls, dd, data, sl⟩, n, ho, hc, _, hd⟩ := p
  obtain ⟨⟨cls2, dd2, data2, sl2⟩, n2, ho2, hc2, _, hd2⟩ := p2
  simp only at hc hd hc2 hd2
  subst hc hd hc2 hd2
  have e : its.toArray ++ its2.toArray = (its ++ its2).toArray := by simp
  refine PySem.concat_meets ⟨_, ho, rfl⟩ ⟨_, ho2, rfl⟩ noFill_list_add seq_list_add PySem.F.slot_list_add PySem.F.entry_list_add (PySem.F.args_list_add_2 _ _) (list_addW a b its.toArray its2.toArray n n2 dd dd2 sl sl2 (by simp; omega)) ⟨ho, ho2, ?_⟩
  rw [e]
  exact ⟨.ref _, _, I.lnew (t' := s.toks) (r.append r2) (by rw [List.length_append]; omega), rfl, q _ I.fresh⟩
theorem o_addN : OpN X (binaryOp .Add) addLD := by
  intro pins s σ H x y v u Q I rx ry h
  obtain ⟨F, dx, dy, d, sm, bx, by_, hd, q⟩ := h
  cases dx with
  | list ds =>
    cases dy with
    | list es =>
      obtain ⟨p, vs, rfl, hl, r⟩ := bx.lst sm
      obtain ⟨p', us, rfl, hl', r'⟩ := by_.lst sm
      cases rx
      cases ry
      simp only [addLD, addD] at hd
      split at hd
      · rename_i hz
        cases hd
        refine add_listG I hl hl' (by rw [r.length, r'.length]; exact hz) fun p hp => q.newL sm (r.append r') hp
      · cases hd
    | _ => cases hd
  | _ => cases dy <;> cases hd
theorem o_add : OpV X (binaryOp .Add) addD := by
  intro pins s σ H x y v u Q I rx ry h
  obtain ⟨F, dx, dy, d, sm, bx, by_, hd, q⟩ := h
  cases dx with
  | int i =>
    cases dy with
    | int j =>
      have e1 := bx.int
      have e2 := by_.int
      subst e1 e2
      cases hd
      exact op_add pins s σ H _ _ v u Q I rx ry ⟨i, j, rfl, rfl, q.same sm (.int _)⟩
    | _ => cases hd
  | str i =>
    cases dy with
    | str j =>
      have e1 := bx.str
      have e2 := by_.str
      subst e1 e2
      simp only [addD] at hd
      split at hd
      · rename_i hz
        cases hd
        exact op_add_str pins s σ H _ _ v u Q I rx ry ⟨i, j, rfl, rfl, hz, q.same sm (.str _)⟩
      · cases hd
    | _ => cases hd
  | tuple ds =>
    cases dy with
    | tuple es =>
      obtain ⟨p, vs, rfl, hf, hl, r⟩ := bx.tup sm
      obtain ⟨p', us, rfl, hf', hl', r'⟩ := by_.tup sm
      simp only [addD] at hd
      split at hd
      · rename_i hz
        cases hd
        refine op_catA pins s σ H _ _ v u Q I rx ry ⟨p, p', vs, us, rfl, rfl, hl, hl', by rw [r.length, r'.length]; exact hz, fun e => ?_, fun _ e => ?_, fun _ _ p hp => q.newT sm (r.append r') hp⟩
        · subst e
          cases r
          exact q.same sm (.tup hf' r')
        · subst e
          cases r'
          rw [List.append_nil] at q
          exact q.same sm (.tup hf r)
      · cases hd
    | _ => cases hd
  | list ds =>
    cases dy with
    | list es => exact o_addN pins s σ H x y v u Q I rx ry ⟨F, _, _, d, sm, bx, by_, hd, q.n⟩
    | _ => cases hd
  | _ => cases dy <;> cases hd
/-- ints alone -/
theorem o_int {f : Value → Value → Sem Value} {r : Int → Int → Hp → VK → Prop} {g : D → D → Option D} (ho : OpR X f fun x y H Q => ∃ i j, x = .int i ∧ y = .int j ∧ r i j H Q)
    (hg : ∀ dx dy d, g dx dy = some d → ∃ i j, dx = .int i ∧ dy = .int j ∧ ∀ (F H : Hp) (Q : VK), Same F H → kV (gx X) F H d Q → r i j H Q) : OpV X f g := by
  intro pins s σ H x y v u Q I rx ry h
  obtain ⟨F, dx, dy, d, sm, bx, by_, hd, q⟩ := h
  obtain ⟨i, j, rfl, rfl, h⟩ := hg dx dy d hd
  exact ho pins s σ H x y v u Q I rx ry ⟨i, j, bx.int, by_.int, h F H Q sm q⟩
theorem o_sub : OpV X (binaryOp .Sub) subD := o_int (r := fun i j H Q => Q (.int (i - j)) H) op_sub fun dx dy d h => by
  cases dx <;> cases dy <;> first | (cases h; done) | skip
  cases h
  exact ⟨_, _, rfl, rfl, fun F H Q sm q => q.same sm (.int _)⟩
theorem okMul_c {a b : Int} (h : okMul a b = true) : CMul a b := by
  simp only [okMul, Bool.or_eq_true, Nat.blt_eq] at h
  rcases h with h | h
  · exact .inl ⟨by omega, by omega⟩
  · exact .inr ⟨by omega, by omega⟩
theorem okDiv_c {i b : Int} (h : okDiv b = true) : CDiv i b := by
  simp only [okDiv, Bool.and_eq_true, Nat.ble_eq] at h
  exact ⟨by omega, by omega⟩
theorem okPow_c {a b : Int} (h : okPow a b = true) : CPow a b := by
  simp only [okPow, Bool.and_eq_true, Nat.ble_eq, Nat.blt_eq] at h
  exact ⟨by omega, by omega, by omega⟩
theorem o_mul : OpV X (binaryOp .Mult) mulD := o_int (r := fun i j H Q => CMul i j ∧ Q (.int (i * j)) H) op_mul fun dx dy d h => by
  cases dx <;> cases dy <;> first | (cases h; done) | skip
  simp only [mulD] at h
  split at h
  · cases h
    exact ⟨_, _, rfl, rfl, fun F H Q sm q => ⟨okMul_c (by assumption), q.same sm (.int _)⟩⟩
  · cases h
theorem o_fdiv : OpV X (binaryOp .FloorDiv) fdivD := o_int (r := fun i j H Q => CDiv i j ∧ Q (.int (i / j)) H) op_fdiv fun dx dy d h => by
  cases dx <;> cases dy <;> first | (cases h; done) | skip
  simp only [fdivD] at h
  split at h
  · cases h
    exact ⟨_, _, rfl, rfl, fun F H Q sm q => ⟨okDiv_c (by assumption), q.same sm (.int _)⟩⟩
  · cases h
theorem o_mod : OpV X (binaryOp .Mod) modD := o_int (r := fun i j H Q => 0 < j ∧ Q (.int (i % j)) H) op_mod fun dx dy d h => by
  cases dx <;> cases dy <;> first | (cases h; done) | skip
  simp only [modD] at h
  split at h
  · cases h
    exact ⟨_, _, rfl, rfl, fun F H Q sm q => ⟨by assumption, q.same sm (.int _)⟩⟩
  · cases h
theorem o_pow : OpV X (binaryOp .Pow) powD := o_int (r := fun i j H Q => CPow i j ∧ Q (.int (i ^ j.toNat)) H) op_pow fun dx dy d h => by
  cases dx <;> cases dy <;> first | (cases h; done) | skip
  simp only [powD] at h
  split at h
  · cases h
    exact ⟨_, _, rfl, rfl, fun F H Q sm q => ⟨okPow_c (by assumption), q.same sm (.int _)⟩⟩
  · cases h
theorem o_neg : UnV X (unaryOp .USub) negD := by
  intro pins s σ H x v Q I rx h
  obtain ⟨F, dx, d, sm, bx, hd, q⟩ := h
  cases dx with
  | int i =>
    cases hd
    exact un_neg pins s σ H x v Q I rx ⟨i, bx.int, q.same sm (.int _)⟩
  | _ => cases hd
/-! ### order -/
theorem lexAt_shift {e r : Nat → Bool} {z : Bool} {n : Nat} : ∀ {i : Nat}, Ob.lexAt e r z (i + 1) n = Ob.lexAt (fun j => e (j + 1)) (fun j => r (j + 1)) z i n := by
  induction n with
  | zero => intro i; rfl
  | succ n ih =>
    intro i
    rw [Ob.lexAt_succ, Ob.lexAt_succ, ih]
theorem lexAt_lt : ∀ (ns ms : List Int), Ob.lexAt (fun j => decide (ns.getD j 0 = ms.getD j 0)) (fun j => decide (ns.getD j 0 < ms.getD j 0)) (decide (ns.length < ms.length)) 0 (min ns.length ms.length) = lexLt ns ms
  | [], [] => rfl
  | [], _ :: _ => by simp [lexLt, Ob.lexAt_zero]
  | _ :: _, [] => by simp [lexLt, Ob.lexAt_zero]
  | x :: ns, y :: ms => by
    have ih := lexAt_lt ns ms
    rw [show min (x :: ns).length (y :: ms).length = min ns.length ms.length + 1 by simp only [List.length_cons]; omega, Ob.lexAt_succ, lexAt_shift]
    have e1 : (decide ((x :: ns).length < (y :: ms).length)) = decide (ns.length < ms.length) := by simp
    rw [e1]
    show (if decide (x = y) = true then Ob.lexAt (fun j => decide (ns.getD j 0 = ms.getD j 0)) (fun j => decide (ns.getD j 0 < ms.getD j 0)) (decide (ns.length < ms.length)) 0 (min ns.length ms.length) else decide (x < y)) = lexLt (x :: ns) (y :: ms)
    rw [ih]
    show _ = if x = y then lexLt ns ms else decide (x < y)
    by_cases h : x = y
    · simp [h]
    · simp [h]
theorem lexAt_le : ∀ (ns ms : List Int), Ob.lexAt (fun j => decide (ns.getD j 0 = ms.getD j 0)) (fun j => decide (ns.getD j 0 ≤ ms.getD j 0)) (decide (ns.length ≤ ms.length)) 0 (min ns.length ms.length) = !lexLt ms ns
  | [], [] => rfl
  | [], _ :: _ => by simp [lexLt, Ob.lexAt_zero]
  | _ :: _, [] => by simp [lexLt, Ob.lexAt_zero]
  | x :: ns, y :: ms => by
    have ih := lexAt_le ns ms
    rw [show min (x :: ns).length (y :: ms).length = min ns.length ms.length + 1 by simp only [List.length_cons]; omega, Ob.lexAt_succ, lexAt_shift]
    have e1 : (decide ((x :: ns).length ≤ (y :: ms).length)) = decide (ns.length ≤ ms.length) := by simp
    rw [e1]
    show (if decide (x = y) = true then Ob.lexAt (fun j => decide (ns.getD j 0 = ms.getD j 0)) (fun j => decide (ns.getD j 0 ≤ ms.getD j 0)) (decide (ns.length ≤ ms.length)) 0 (min ns.length ms.length) else decide (x ≤ y)) = !lexLt (y :: ms) (x :: ns)
    rw [ih]
    show _ = !(if y = x then lexLt ms ns else decide (y < x))
    by_cases h : x = y
    · simp [h]
    · have h' : ¬ y = x := fun z => h z.symm
      simp only [h, h', decide_false, Bool.false_eq_true, if_false]
      by_cases h1 : x ≤ y
      · have h2 : ¬ y < x := by omega
        simp [h1, h2]
      · have h2 : y < x := by omega
        simp [h1, h2]
/-- a comparison of two tuples of ints, by the library's rule for it -/
theorem tupOrd {op : CmpOp} {pi : Int → Int → Bool} {pz : Nat → Nat → Bool} (hu : X.A.units < cLine) (ri : ∀ {A : Around} {s : Shared} (a b : Int) (t u : Tok), Ob.RcOp op A s (.int a t) (.int b u) (pi a b))
    (rule : ∀ {A : Around} {s : Shared} {l b : Addr} {items items2 : Array Value} {e r : Nat → Bool}, s.heap.IsTuple l items → s.heap.IsTuple b items2 → A.units < cLine →
      (∀ j (h1 : j < items.size) (h2 : j < items2.size), SeqAt.EqAt A.in1 s items[j] items2[j] (e j)) → (∀ j (h1 : j < items.size) (h2 : j < items2.size), e j = false → Ob.RcOp op A.in1 s items[j] items2[j] (r j)) →
      Ob.RcOp op A s (.ref l) (.ref b) (Ob.lexAt e r (pz items.size items2.size) 0 (min items.size items2.size)))
    (hop : ∀ v u, compareOp op v u = richCompare op v u)
    {pins : List (Addr × Obj)} {s : Shared} {σ : L2.St} {H : Hp} {Q : VK} {a b : Addr} {ns ms : List Int} (I : Inv X pins σ H s) (ha : SqT X.K H a (ns.map V.int)) (hb : SqT X.K H b (ms.map V.int))
    (q : Q (.bl (Ob.lexAt (fun j => decide (ns.getD j 0 = ms.getD j 0)) (fun j => pi (ns.getD j 0) (ms.getD j 0)) (pz ns.length ms.length) 0 (min ns.length ms.length))) H) :
    wpAny (model X.prog X.w) X.A (compareOp op (.ref a) (.ref b)) (EP X pins σ Q) X.xe s := by
  obtain ⟨its, r1, p1, _⟩ := I.tuple ha
  obtain ⟨its2, r2, p2, _⟩ := I.tuple hb
  have i1 : IntsAre its ns := Vals.ints r1
  have i2 : IntsAre its2 ms := Vals.ints r2
  have e1 : its.toArray.size = ns.length := by rw [List.size_toArray]; exact i1.length
  have e2 : its2.toArray.size = ms.length := by rw [List.size_toArray]; exact i2.length
  have at1 : ∀ j (h1 : j < its.toArray.size), ∃ t, its.toArray[j] = .int (ns.getD j 0) t := fun j h1 => PyProof.Rows.IntsAre.int_at i1 _ _ (by simp at h1; simp [h1])
  have at2 : ∀ j (h1 : j < its2.toArray.size), ∃ t, its2.toArray[j] = .int (ms.getD j 0) t := fun j h1 => PyProof.Rows.IntsAre.int_at i2 _ _ (by simp at h1; simp [h1])
  have R := rule (A := X.A) (s := s) (e := fun j => decide (ns.getD j 0 = ms.getD j 0)) (r := fun j => pi (ns.getD j 0) (ms.getD j 0)) p1 p2 hu (fun j h1 h2 => by
    obtain ⟨t, et⟩ := at1 j h1
    obtain ⟨t', et'⟩ := at2 j h2
    rw [et, et']
    have z : (ns.getD j 0 == ms.getD j 0) = decide (ns.getD j 0 = ms.getD j 0) := by
      by_cases q : ns.getD j 0 = ms.getD j 0
      · rw [decide_eq_true q]; exact beq_iff_eq.mpr q
      · rw [decide_eq_false q]; exact beq_eq_false_iff_ne.mpr q
    rw [← z]
    exact SeqAt.EqAt.int_int _ _ _ _) (fun j h1 h2 _ => by
    obtain ⟨t, et⟩ := at1 j h1
    obtain ⟨t', et'⟩ := at2 j h2
    rw [et, et']
    exact ri _ _ _ _)
  rw [e1, e2] at R
  rw [hop]
  exact R X.prog X.w X.xe (EP X pins σ Q) ⟨.bl _, H, I, rfl, q⟩
theorem o_ord {op : CmpOp} {g : D → D → Option D} {pi : Int → Int → Bool} {pt : List Int → List Int → Bool} (hi : OpR X (compareOp op) (rI0 fun i j => .bl (pi i j)))
    (ht : ∀ {pins : List (Addr × Obj)} {s : Shared} {σ : L2.St} {H : Hp} {Q : VK} {a b : Addr} {ns ms : List Int}, Inv X pins σ H s → SqT X.K H a (ns.map V.int) → SqT X.K H b (ms.map V.int) → Q (.bl (pt ns ms)) H → wpAny (model X.prog X.w) X.A (compareOp op (.ref a) (.ref b)) (EP X pins σ Q) X.xe s)
    (hg : ∀ dx dy d, g dx dy = some d → (∃ i j, dx = .int i ∧ dy = .int j ∧ d = .bool (pi i j)) ∨ ∃ xs ys ns ms, dx = .tuple xs ∧ dy = .tuple ys ∧ intsOf xs = some ns ∧ intsOf ys = some ms ∧ d = .bool (pt ns ms)) : OpV X (compareOp op) g := by
  intro pins s σ H x y v u Q I rx ry h
  obtain ⟨F, dx, dy, d, sm, bx, by_, hd, q⟩ := h
  rcases hg dx dy d hd with ⟨i, j, rfl, rfl, rfl⟩ | ⟨xs, ys, ns, ms, rfl, rfl, h1, h2, rfl⟩
  · exact hi pins s σ H x y v u Q I rx ry ⟨i, j, bx.int, by_.int, q.same sm (.bl _)⟩
  · obtain ⟨p, vs, rfl, _, hl, r⟩ := bx.tup sm
    obtain ⟨p', us, rfl, _, hl', r'⟩ := by_.tup sm
    cases rx
    cases ry
    rw [r.ints h1] at hl
    rw [r'.ints h2] at hl'
    exact ht I hl hl' (q.same sm (.bl _))
theorem ordSplit {g : List Int → List Int → D} {xs ys : List D} {d : D} (h : ((intsOf xs).bind fun x => (intsOf ys).map fun y => g x y) = some d) : ∃ ns ms, intsOf xs = some ns ∧ intsOf ys = some ms ∧ d = g ns ms := by
  obtain ⟨ns, h1, h⟩ := bind_some h
  obtain ⟨ms, h2, h⟩ := map_some h
  exact ⟨ns, ms, h1, h2, h.symm⟩
theorem o_lt (hu : X.A.units < cLine) : OpV X (compareOp .Lt) ltD := o_ord (pi := fun i j => decide (i < j)) (pt := fun x y => lexLt x y) op_lt
  (fun I ha hb q => tupOrd (op := .Lt) (pi := fun i j => decide (i < j)) (pz := fun i j => decide (i < j)) hu (fun a b t u => Ob.RcOp.lt_int a b t u) (fun h1 h2 h3 h4 h5 => Ob.RcOp.tuples_lt h1 h2 h3 h4 h5) (fun _ _ => rfl) I ha hb (by rw [lexAt_lt]; exact q)) fun dx dy d h => by
  cases dx <;> cases dy <;> first | (cases h; done) | skip
  · cases h; exact .inl ⟨_, _, rfl, rfl, rfl⟩
  · obtain ⟨ns, ms, h1, h2, h3⟩ := ordSplit (g := fun x y => .bool (lexLt x y)) h
    exact .inr ⟨_, _, ns, ms, rfl, rfl, h1, h2, h3⟩
theorem o_gt (hu : X.A.units < cLine) : OpV X (compareOp .Gt) gtD := o_ord (pi := fun i j => decide (j < i)) (pt := fun x y => lexLt y x) op_gt
  (fun {pins s σ H Q a b ns ms} I ha hb q => tupOrd (op := .Gt) (pi := fun i j => decide (j < i)) (pz := fun i j => decide (i > j)) hu (fun a b t u => Ob.RcOp.gt_int a b t u) (fun h1 h2 h3 h4 h5 => Ob.RcOp.tuples_gt h1 h2 h3 h4 h5) (fun _ _ => rfl) I ha hb (by
    have e := lexAt_lt ms ns
    rw [Nat.min_comm] at e
    rw [show (fun j => decide (ns.getD j 0 = ms.getD j 0)) = fun j => decide (ms.getD j 0 = ns.getD j 0) from funext fun j => by rw [decide_eq_decide]; exact ⟨Eq.symm, Eq.symm⟩]
    show Q (.bl (Ob.lexAt _ _ (decide (ms.length < ns.length)) 0 _)) H
    rw [e]; exact q)) fun dx dy d h => by
  cases dx <;> cases dy <;> first | (cases h; done) | skip
  · cases h; exact .inl ⟨_, _, rfl, rfl, rfl⟩
  · obtain ⟨ns, ms, h1, h2, h3⟩ := ordSplit (g := fun x y => .bool (lexLt y x)) h
    exact .inr ⟨_, _, ns, ms, rfl, rfl, h1, h2, h3⟩
theorem o_le (hu : X.A.units < cLine) : OpV X (compareOp .LtE) leD := o_ord (pi := fun i j => decide (i ≤ j)) (pt := fun x y => !lexLt y x) op_le
  (fun I ha hb q => tupOrd (op := .LtE) (pi := fun i j => decide (i ≤ j)) (pz := fun i j => decide (i ≤ j)) hu (fun a b t u => Ob.RcOp.le_int a b t u) (fun h1 h2 h3 h4 h5 => Ob.RcOp.tuples_le h1 h2 h3 h4 h5) (fun _ _ => rfl) I ha hb (by rw [lexAt_le]; exact q)) fun dx dy d h => by
  cases dx <;> cases dy <;> first | (cases h; done) | skip
  · cases h; exact .inl ⟨_, _, rfl, rfl, rfl⟩
  · obtain ⟨ns, ms, h1, h2, h3⟩ := ordSplit (g := fun x y => .bool (!lexLt y x)) h
    exact .inr ⟨_, _, ns, ms, rfl, rfl, h1, h2, h3⟩
theorem o_ge (hu : X.A.units < cLine) : OpV X (compareOp .GtE) geD := o_ord (pi := fun i j => decide (j ≤ i)) (pt := fun x y => !lexLt x y) op_ge
  (fun {pins s σ H Q a b ns ms} I ha hb q => tupOrd (op := .GtE) (pi := fun i j => decide (j ≤ i)) (pz := fun i j => decide (i ≥ j)) hu (fun a b t u => Ob.RcOp.ge_int a b t u) (fun h1 h2 h3 h4 h5 => Ob.RcOp.tuples_ge h1 h2 h3 h4 h5) (fun _ _ => rfl) I ha hb (by
    have e := lexAt_le ms ns
    rw [Nat.min_comm] at e
    rw [show (fun j => decide (ns.getD j 0 = ms.getD j 0)) = fun j => decide (ms.getD j 0 = ns.getD j 0) from funext fun j => by rw [decide_eq_decide]; exact ⟨Eq.symm, Eq.symm⟩]
    show Q (.bl (Ob.lexAt _ _ (decide (ms.length ≤ ns.length)) 0 _)) H
    rw [e]; exact q)) fun dx dy d h => by
  cases dx <;> cases dy <;> first | (cases h; done) | skip
  · cases h; exact .inl ⟨_, _, rfl, rfl, rfl⟩
  · obtain ⟨ns, ms, h1, h2, h3⟩ := ordSplit (g := fun x y => .bool (!lexLt x y)) h
    exact .inr ⟨_, _, ns, ms, rfl, rfl, h1, h2, h3⟩
/-! ### ==, in, is -/
theorem o_eq (hu : X.A.units + 64 < cLine) : OpV X (compareOp .Eq) eqD := by
  intro pins s σ H x y v u Q I rx ry h
  obtain ⟨F, dx, dy, d, sm, bx, by_, hd, q⟩ := h
  unfold eqD at hd
  split at hd
  · rename_i hs
    cases hd
    exact op_eqD hu pins s σ H x y v u Q I rx ry ⟨dx, dy, bx.shp sm hs.1, by_.shp sm hs.2, hs.1, hs.2, q.same sm (.bl _)⟩
  · cases hd
theorem o_ne (hu : X.A.units + 64 < cLine) : OpV X (compareOp .NotEq) neD := by
  intro pins s σ H x y v u Q I rx ry h
  obtain ⟨F, dx, dy, d, sm, bx, by_, hd, q⟩ := h
  unfold neD at hd
  split at hd
  · rename_i hs
    cases hd
    exact op_neD hu pins s σ H x y v u Q I rx ry ⟨dx, dy, bx.shp sm hs.1, by_.shp sm hs.2, hs.1, hs.2, q.same sm (.bl _)⟩
  · cases hd
theorem in_tupD (hu : X.A.units + 65 < cLine) {pins : List (Addr × Obj)} {s : Shared} {σ : L2.St} {H : Hp} {x y : V} {v u : Value} {Q : VK} {d : D} {ds : List D} (I : Inv X pins σ H s) (rx : RelV x v) (ry : RelV y u) (hd : Dp X.K H x d) (he : Dp X.K H y (.tuple ds))
    (sd : SeqAt.shaped d = true) (se : SeqAt.shaped (.tuple ds) = true) (q : Q (.bl (ds.any fun z => PyData.eqv z d)) H) : wpAny (model X.prog X.w) X.A (compareOp .In v u) (EP X pins σ Q) X.xe s := by
  obtain ⟨as, r1⟩ := Dp.reads I d x v hd rx
  obtain ⟨bs, r2⟩ := Dp.reads I (.tuple ds) y u he ry
  exact SeqAt.in_tuple_reads r2 r1 (SeqAt.canLay_of_shaped se) (SeqAt.canLay_of_shaped sd) (room_in_shaped sd hu) ⟨.bl _, H, I, rfl, q⟩
theorem nin_tupD (hu : X.A.units + 65 < cLine) {pins : List (Addr × Obj)} {s : Shared} {σ : L2.St} {H : Hp} {x y : V} {v u : Value} {Q : VK} {d : D} {ds : List D} (I : Inv X pins σ H s) (rx : RelV x v) (ry : RelV y u) (hd : Dp X.K H x d) (he : Dp X.K H y (.tuple ds))
    (sd : SeqAt.shaped d = true) (se : SeqAt.shaped (.tuple ds) = true) (q : Q (.bl (!ds.any fun z => PyData.eqv z d)) H) : wpAny (model X.prog X.w) X.A (compareOp .NotIn v u) (EP X pins σ Q) X.xe s := by
  obtain ⟨as, r1⟩ := Dp.reads I d x v hd rx
  obtain ⟨bs, r2⟩ := Dp.reads I (.tuple ds) y u he ry
  exact SeqAt.notIn_tuple_reads r2 r1 (SeqAt.canLay_of_shaped se) (SeqAt.canLay_of_shaped sd) (room_in_shaped sd hu) ⟨.bl _, H, I, rfl, q⟩
theorem o_in (hu : X.A.units + 65 < cLine) : OpV X (compareOp .In) inD := by
  intro pins s σ H x y v u Q I rx ry h
  obtain ⟨F, dx, dy, d, sm, bx, by_, hd, q⟩ := h
  cases dy with
  | list ds =>
    simp only [inD] at hd
    split at hd
    · rename_i hs
      cases hd
      exact op_inD hu pins s σ H x y v u Q I rx ry ⟨dx, ds, bx.shp sm hs.1, by_.shp sm hs.2, hs.1, hs.2, q.same sm (.bl _)⟩
    · cases hd
  | tuple ds =>
    simp only [inD] at hd
    split at hd
    · rename_i hs
      cases hd
      exact in_tupD hu I rx ry (bx.shp sm hs.1) (by_.shp sm hs.2) hs.1 hs.2 (q.same sm (.bl _))
    · cases hd
  | _ => cases hd
theorem o_nin (hu : X.A.units + 65 < cLine) : OpV X (compareOp .NotIn) ninD := by
  intro pins s σ H x y v u Q I rx ry h
  obtain ⟨F, dx, dy, d, sm, bx, by_, hd, q⟩ := h
  cases dy with
  | list ds =>
    by_cases hs : SeqAt.shaped dx = true ∧ SeqAt.shaped (.list ds) = true
    · simp only [ninD, inD, if_pos hs] at hd
      cases hd
      exact op_notInD hu pins s σ H x y v u Q I rx ry ⟨dx, ds, bx.shp sm hs.1, by_.shp sm hs.2, hs.1, hs.2, q.same sm (.bl _)⟩
    · simp only [ninD, inD, if_neg hs] at hd
      cases hd
  | tuple ds =>
    by_cases hs : SeqAt.shaped dx = true ∧ SeqAt.shaped (.tuple ds) = true
    · simp only [ninD, inD, if_pos hs] at hd
      cases hd
      exact nin_tupD hu I rx ry (bx.shp sm hs.1) (by_.shp sm hs.2) hs.1 hs.2 (q.same sm (.bl _))
    · simp only [ninD, inD, if_neg hs] at hd
      cases hd
  | _ => cases hd
theorem RpB.isN {G : Gx} {F H : Hp} {v : V} {d : D} (h : RpB G F H v d) : decide (v = .non) = isNoneD d := by
  rcases h with h | ⟨p, vs, ds, rfl, rfl, _, _⟩
  · cases h <;> rfl
  · rfl
theorem o_is : OpV X (compareOp .Is) isD := by
  intro pins s σ H x y v u Q I rx ry h
  obtain ⟨F, dx, dy, d, sm, bx, by_, hd, q⟩ := h
  cases dy with
  | none =>
    cases hd
    refine op_isN pins s σ H x y v u Q I rx ry ⟨by_.non, ?_⟩
    rw [bx.isN]
    exact q.same sm (.bl _)
  | bool b =>
    cases dx with
    | bool a =>
      cases hd
      exact op_is_bl pins s σ H x y v u Q I rx ry ⟨a, b, bx.bl, by_.bl, q.same sm (.bl _)⟩
    | _ => cases hd
  | _ => cases dx <;> cases hd
theorem o_isnt : OpV X (compareOp .IsNot) isntD := by
  intro pins s σ H x y v u Q I rx ry h
  obtain ⟨F, dx, dy, d, sm, bx, by_, hd, q⟩ := h
  cases dy with
  | none =>
    refine op_notN pins s σ H x y v u Q I rx ry ⟨by_.non, ?_⟩
    rw [bx.isN]
    have hd' : d = .bool (!isNoneD dx) := by
      simp only [isntD, isD] at hd
      exact (Option.some.inj hd).symm
    rw [hd'] at q
    exact q.same sm (.bl _)
  | bool b =>
    cases dx with
    | bool a =>
      cases hd
      exact op_isnot_bl pins s σ H x y v u Q I rx ry ⟨a, b, bx.bl, by_.bl, q.same sm (.bl _)⟩
    | _ => cases hd
  | _ => cases dx <;> cases hd
end
end TL

set_option Elab.async false
set_option linter.all false
set_option maxRecDepth 100000
/-! The tree layer: built-in functions. -/
namespace TL
open PySem PySem.Spec PyProof.Rows L2
section
variable {X : Cx}
theorem c_len : CalV X (.builtin "len") lenD := by
  intro pins s σ H xs us Q I r h
  obtain ⟨F, x, dx, d, rfl, sm, bx, hd, q⟩ := h
  cases dx with
  | list ds =>
    obtain ⟨p, vs, rfl, hl, r'⟩ := bx.lst sm
    cases hd
    exact call_len_seq pins s σ H _ us Q I r ⟨p, vs, rfl, .inl hl, by rw [r'.length]; exact q.same sm (.int _)⟩
  | tuple ds =>
    obtain ⟨p, vs, rfl, _, hl, r'⟩ := bx.tup sm
    cases hd
    exact call_len_seq pins s σ H _ us Q I r ⟨p, vs, rfl, .inr hl, by rw [r'.length]; exact q.same sm (.int _)⟩
  | str z =>
    have e := bx.str
    subst e
    simp only [lenD] at hd
    split at hd
    · cases hd
      exact call_len_str pins s σ H _ us Q I r ⟨z, rfl, by assumption, q.same sm (.int _)⟩
    · cases hd
  | _ => cases hd
theorem c_list : CalN X (.type "list") listD := by
  intro pins s σ H xs us Q I r h
  obtain ⟨F, x, dx, d, rfl, sm, bx, hd, q⟩ := h
  cases dx with
  | list ds =>
    obtain ⟨p, vs, rfl, hl, r'⟩ := bx.lst sm
    cases hd
    exact call_list_of pins s σ H _ us Q I r ⟨p, vs, rfl, .inl hl, fun l hl => q.newL sm r' hl⟩
  | tuple ds =>
    obtain ⟨p, vs, rfl, _, hl, r'⟩ := bx.tup sm
    cases hd
    exact call_list_of pins s σ H _ us Q I r ⟨p, vs, rfl, .inr hl, fun l hl => q.newL sm r' hl⟩
  | _ => cases hd
theorem c_tuple : CalV X (.type "tuple") tupleD := by
  intro pins s σ H xs us Q I r h
  obtain ⟨F, x, dx, d, rfl, sm, bx, hd, q⟩ := h
  cases dx with
  | list ds =>
    obtain ⟨p, vs, rfl, hl, r'⟩ := bx.lst sm
    cases hd
    exact call_tuple_of pins s σ H _ us Q I r ⟨p, vs, rfl, .inl ⟨hl, fun l hl => q.newT sm r' hl⟩⟩
  | tuple ds =>
    obtain ⟨p, vs, rfl, hf, hl, r'⟩ := bx.tup sm
    cases hd
    exact call_tuple_of pins s σ H _ us Q I r ⟨p, vs, rfl, .inr ⟨hl, q.same sm (.tup hf r')⟩⟩
  | _ => cases hd
theorem c_int : CalV X (.type "int") intD := by
  intro pins s σ H xs us Q I r h
  obtain ⟨F, x, dx, d, rfl, sm, bx, hd, q⟩ := h
  cases dx with
  | int i =>
    have e := bx.int
    subst e
    cases hd
    exact call_int1 pins s σ H _ us Q I r (.inl ⟨i, rfl, q.same sm (.int _)⟩)
  | bool i =>
    have e := bx.bl
    subst e
    cases hd
    exact call_int1 pins s σ H _ us Q I r (.inr ⟨i, rfl, q.same sm (.int _)⟩)
  | _ => cases hd
theorem c_str : CalV X (.type "str") strD := by
  intro pins s σ H xs us Q I r h
  obtain ⟨F, x, dx, d, rfl, sm, bx, hd, q⟩ := h
  cases dx with
  | int i =>
    have e := bx.int
    subst e
    simp only [strD] at hd
    split at hd
    · cases hd
      exact call_str_int pins s σ H _ us Q I r ⟨i, rfl, by rename_i hz; simpa using hz, q.same sm (.str _)⟩
    · cases hd
  | _ => cases hd
theorem c_all (hc : X.calm = true) : CalV X (.builtin "all") allD := by
  intro pins s σ H xs us Q I r h
  obtain ⟨F, x, dx, d, rfl, sm, bx, hd, q⟩ := h
  cases dx with
  | list ds =>
    obtain ⟨p, vs, rfl, hl, r'⟩ := bx.lst sm
    obtain ⟨bs, h1, h2⟩ := map_some (show (boolsOf ds).map _ = some d from hd)
    subst h2
    rw [r'.bools h1] at hl
    exact cr_all hc pins s σ H _ us Q I r ⟨p, bs, rfl, hl, q.same sm (.bl _)⟩
  | _ => cases hd
theorem c_any (hc : X.calm = true) : CalV X (.builtin "any") anyD := by
  intro pins s σ H xs us Q I r h
  obtain ⟨F, x, dx, d, rfl, sm, bx, hd, q⟩ := h
  cases dx with
  | list ds =>
    obtain ⟨p, vs, rfl, hl, r'⟩ := bx.lst sm
    obtain ⟨bs, h1, h2⟩ := map_some (show (boolsOf ds).map _ = some d from hd)
    subst h2
    rw [r'.bools h1] at hl
    exact cr_any hc pins s σ H _ us Q I r ⟨p, bs, rfl, hl, q.same sm (.bl _)⟩
  | _ => cases hd
theorem c_max2 (hc : X.calm = true) : CalV2 X (.builtin "max") max2D := by
  intro pins s σ H xs us Q I r h
  obtain ⟨F, x, y, dx, dy, d, rfl, sm, bx, by_, hd, q⟩ := h
  cases dx <;> cases dy <;> first | (cases hd; done) | skip
  cases hd
  exact call_max2 hc pins s σ H _ us Q I r ⟨_, _, by rw [bx.int, by_.int], q.same sm (.int _)⟩
theorem c_min2 (hc : X.calm = true) : CalV2 X (.builtin "min") min2D := by
  intro pins s σ H xs us Q I r h
  obtain ⟨F, x, y, dx, dy, d, rfl, sm, bx, by_, hd, q⟩ := h
  cases dx <;> cases dy <;> first | (cases hd; done) | skip
  cases hd
  exact call_min2 hc pins s σ H _ us Q I r ⟨_, _, by rw [bx.int, by_.int], q.same sm (.int _)⟩
/-! ### isinstance -/
def tyS : Ty → String
  | .int => "int"
  | .bool => "bool"
  | .str => "str"
  | .tuple => "tuple"
  | .list => "list"
  | .dict => "dict"
theorem kb (a : String) (t : Ty) (ha : a = "NoneType" ∨ a = "int" ∨ a = "bool" ∨ a = "str" ∨ a = "tuple" ∨ a = "list") : kitB a (tyS t) = some (isTy t (match a with | "int" => .int 0 | "bool" => .bool true | "str" => .str ⟨#[]⟩ | "tuple" => .tuple [] | "list" => .list [] | _ => .none)) := by
  rcases ha with rfl | rfl | rfl | rfl | rfl | rfl <;> cases t <;> decide +kernel
theorem tyx_lst {K : PySem.W.Frag} {H : Hp} {a : Addr} {xs : List V} (h : SqL K H a xs) : TyX K H (.ref a) (.type "list") := by
  rcases h with (h | ⟨o, h⟩) | ⟨o, its, n, hk, hc, _⟩
  · exact .base (.lst h)
  · exact .base (.frz h)
  · exact .kList hk hc
theorem tyx_tup {K : PySem.W.Frag} {H : Hp} {a : Addr} {xs : List V} (h : SqT K H a xs) : TyX K H (.ref a) (.type "tuple") := by
  rcases h with (h | ⟨o, h⟩) | ⟨o, its, n, hk, hc, _⟩
  · exact .base (.tup h)
  · exact .fTuple h
  · exact .kTuple hk hc
theorem c_isi {pins : List (Addr × Obj)} {s : Shared} {σ : L2.St} {F H : Hp} {x : V} {dx d : D} {us : List Value} {Q : VK} {t : Ty} (I : Inv X pins σ H s) (r : Vals [x, .ty (tyS t)] us) (sm : Same F H) (bx : RpB (gx X) F H x dx) (hd : isiD t dx = some d) (q : kV (gx X) F H d Q) :
    wpAny (model X.prog X.w) X.A (call (.builtin "isinstance") us) (EP X pins σ Q) X.xe s := by
  have go : ∀ {a : String} {b : Bool}, TyX X.K H x (.type a) → kitB a (tyS t) = some b → Q (.bl b) H → wpAny (model X.prog X.w) X.A (call (.builtin "isinstance") us) (EP X pins σ Q) X.xe s :=
    fun {a b} ty e qq => call_isi pins s σ H _ us Q I r ⟨x, .ty (tyS t), .type a, .type (tyS t), b, rfl, .ty _, ty, kit_ty e, qq⟩
  cases dx with
  | none =>
    have e := bx.non
    subst e
    cases hd
    have hk := kb "NoneType" t (.inl rfl)
    exact go (.base .non) hk (q.same sm (by cases t <;> exact .bl _))
  | bool b =>
    have e := bx.bl
    subst e
    cases hd
    have hk := kb "bool" t (.inr (.inr (.inl rfl)))
    exact go (.base (.bl b)) hk (q.same sm (by cases t <;> exact .bl _))
  | int i =>
    have e := bx.int
    subst e
    cases hd
    have hk := kb "int" t (.inr (.inl rfl))
    exact go (.base (.int i)) hk (q.same sm (by cases t <;> exact .bl _))
  | str z =>
    have e := bx.str
    subst e
    cases hd
    have hk := kb "str" t (.inr (.inr (.inr (.inl rfl))))
    exact go (.base (.str z)) hk (q.same sm (by cases t <;> exact .bl _))
  | tuple ds =>
    obtain ⟨p, vs, rfl, _, hl, r'⟩ := bx.tup sm
    cases hd
    have hk := kb "tuple" t (.inr (.inr (.inr (.inr (.inl rfl)))))
    exact go (tyx_tup hl) hk (q.same sm (by cases t <;> exact .bl _))
  | list ds =>
    obtain ⟨p, vs, rfl, hl, r'⟩ := bx.lst sm
    cases hd
    have hk := kb "list" t (.inr (.inr (.inr (.inr (.inr rfl)))))
    exact go (tyx_lst hl) hk (q.same sm (by cases t <;> exact .bl _))
  | dict _ => cases hd
variable {O : List Nat} {e : Expr} {f : SE} {p p2 pos : Pos} {x y : Str}
/-- isinstance(e, T) -/
theorem eisi (t : Ty) (hg : Gl X "isinstance") (hm : X.mg "isinstance" = none) (hg2 : Gl X y) (hm2 : X.mg y = none) (hv2 : bootBuiltins y = some (.type (tyS t))) (ha : PE X e (rB (gx X) O f))
    (hn2 : y ≠ "__name__" := by decide) (hd2 : (y == ("__debug__" : Str)) = false := by decide) (hs : starEach [e, .Name y p2] X.env = (false, eval e X.env) :: starEach [.Name y p2] X.env := by rfl)
    (hs2 : starEach [.Name y p2] X.env = (false, eval (.Name y p2) X.env) :: starEach [] X.env := by rfl) (hpl : (backTo pos (starEach [.Name y p2] X.env)).any (·.1) = false := by rfl) :
    PE X (.Call (.Name "isinstance" p) [e, .Name y p2] [] pos) (rV (gx X) O (e1 (isiD t) f)) := by
  have hc : CallR X (.builtin "isinstance") fun xs H Q => ∃ F x dx d, xs = [x, .ty (tyS t)] ∧ Same F H ∧ RpB (gx X) F H x dx ∧ isiD t dx = some d ∧ kV (gx X) F H d Q := by
    intro pins s σ H xs us Q I r h
    obtain ⟨F, x, dx, d, rfl, sm, bx, hd, q⟩ := h
    exact c_isi I r sm bx hd q
  refine (pe_callB hc hg hm (by decide +kernel) (pa_cons ha (pa_cons (pe_bltn (v := .ty (tyS t)) hg2 hm2 hv2 rfl hn2 hd2) pa_nil hs2) hs) (by decide) (by decide) hs hpl).imp fun σ H Q ⟨F, env, d, hs, hf, q⟩ => ?_
  obtain ⟨x, h1, h3⟩ := split1 hf
  exact ⟨F, env, x, hs, h1, fun v F1 H1 g1 r1 => ⟨F1, v, x, d, rfl, g1.fh, r1, h3, q.gr g1⟩⟩
/-- e[::-1] -/
theorem erevL {k : Nat} {p1 p3 : Pos} (ha : PE X e (rB (gx X) O f)) : PE X (.Subscript e (.Slice none none (some (.UnaryOp .USub (.Constant (.int 1) k p1) p2)) p3) pos) (rN (gx X) O (e1 (fun d => match d with | .list ds => some (.list ds.reverse) | _ => none) f)) :=
  (pe_revL ha).imp fun σ H Q ⟨F, env, d, hs, hf, q⟩ => by
    obtain ⟨x, h1, h3⟩ := split1 hf
    refine ⟨F, env, x, hs, h1, fun v F1 H1 g1 r1 => ?_⟩
    cases x with
    | list ds =>
      obtain ⟨p, vs, rfl, hl, r⟩ := r1.lst g1.fh
      cases h3
      exact ⟨p, vs, rfl, hl, fun a ha => (q.gr g1).newL g1.fh r.reverse ha⟩
    | _ => cases h3
end
end TL

set_option Elab.async false
set_option linter.all false
set_option maxRecDepth 100000
/-! The tree layer: what is walked, list comprehensions. -/
namespace TL
open PySem PySem.Spec PyProof.Rows L2
/-- the lengths that the machine bears -/
def HLen (K : PySem.W.Frag) (H : Hp) : Prop := (∀ a xs, SqL K H a xs → xs.length ≤ sizeLine) ∧ ∀ a xs, SqT K H a xs → xs.length ≤ sizeLine
theorem pe_hl {X : Cx} {e : Expr} {t : TE} (h : PE X e t) : PE X e fun σ H Q => t σ H fun v H' => HLen X.K H' → Q v H' := by
  refine ⟨fun pins s σ H Q I q => thn (h.run pins s σ H _ I q) fun u s1 ⟨v, H', I', r, q'⟩ => ⟨v, H', I', r, q' ⟨fun a xs h => ?_, fun a xs h => ?_⟩⟩⟩
  · obtain ⟨_, _, _, z⟩ := I'.list h; exact z
  · obtain ⟨_, _, _, z⟩ := I'.tuple h; exact z
/-- the iterator gives ds, one after another, as long as what is closed stays -/
def ItV (G : Gx) (J : It) (F : Hp) (ds : List D) : Prop := ∀ i F2 H2, Same F F2 → Same F2 H2 →
  (∀ d, ds[i]? = some d → J.go i H2 ∧ ∀ v H3, J.yld i H2 v H3 → H3 = H2 ∧ Rp G F2 v d) ∧ (ds[i]? = none → J.stop i H2)
/-- .. as long as what was there stays -/
def ItB (G : Gx) (J : It) (F H : Hp) (ds : List D) : Prop := ∀ i F2 H2, Same F F2 → SameN H H2 → Same F2 H2 →
  (∀ d, ds[i]? = some d → J.go i H2 ∧ ∀ v H3, J.yld i H2 v H3 → H3 = H2 ∧ Rp G F2 v d) ∧ (ds[i]? = none → J.stop i H2)
theorem ItV.b {G : Gx} {J : It} {F H : Hp} {ds : List D} (h : ItV G J F ds) : ItB G J F H ds := fun i F2 H2 a _ c => h i F2 H2 a c
def iV (G : Gx) (O : List Nat) (f : SI) : TI := fun σ H R => ∃ F env ds, SOk G O F H σ env ∧ f env = some ds ∧ ∀ J F' H', Gr F H F' H' → ds.length ≤ sizeLine → ItV G J F' ds → R J H'
def iB (G : Gx) (O : List Nat) (f : SI) : TI := fun σ H R => ∃ F env ds, SOk G O F H σ env ∧ f env = some ds ∧ ∀ J F' H', Gr F H F' H' → ds.length ≤ sizeLine → ItB G J F' H' ds → R J H'
section
variable {G : Gx} {F H : Hp}
theorem sqL_det {K : PySem.W.Frag} {H : Hp} {a : Addr} {xs ys : List V} (h : H a = some (.lst xs)) (h' : SqL K H a ys) (hk : ∀ o, K.lookup a = some o → H a = none) : ys = xs := by
  rcases h' with (h' | ⟨o, h'⟩) | ⟨o, its, n, hk', _⟩
  · rw [h] at h'; cases h'; rfl
  · rw [h] at h'; cases h'
  · rw [hk o hk'] at h; cases h
theorem range_get (lo : Int) : ∀ (n i : Nat), (rangeL lo n)[i]? = if i < n then some (.int (lo + i)) else none := by
  intro n
  induction n generalizing lo with
  | zero => intro i; simp [rangeL]
  | succ n ih =>
    intro i
    cases i with
    | zero => simp [rangeL]
    | succ i =>
      show (rangeL (lo + 1) n)[i]? = _
      rw [ih (lo + 1) i]
      by_cases h : i < n
      · rw [if_pos h, if_pos (by omega)]
        congr 2
        omega
      · rw [if_neg h, if_neg (by omega)]
theorem range_len (lo : Int) : ∀ n : Nat, (rangeL lo n).length = n
  | 0 => rfl
  | n + 1 => congrArg (· + 1) (range_len (lo + 1) n)
theorem itv_range (lo : Int) (n : Nat) : ItV G (Itr lo n) F (rangeL lo n) := fun i F2 H2 _ _ => by
  rw [range_get]
  refine ⟨fun d e => ?_, fun e => ?_⟩
  · by_cases h : i < n
    · rw [if_pos h] at e
      cases e
      exact ⟨h, fun v H3 ⟨h1, h2⟩ => by subst h2; exact ⟨h1, .int _⟩⟩
    · rw [if_neg h] at e; cases e
  · by_cases h : i < n
    · rw [if_pos h] at e; cases e
    · show n ≤ i
      omega
end
section
variable {X : Cx} {O : List Nat} {tg a b : Expr} {fa fb : SE} {p pos : Pos}
theorem _root_.L2.PI.imp {t t' : TI} {it : Expr} (h : PI X tg it t) (i : ∀ σ H Q, t' σ H Q → t σ H Q) : PI X tg it t' := ⟨fun pins s σ H R I q => h.run pins s σ H R I (i σ H R q)⟩
theorem iv_b {it : Expr} {f : SI} (h : PI X tg it (iV (gx X) O f)) : PI X tg it (iB (gx X) O f) := h.imp fun σ H R ⟨F, env, ds, hs, hf, q⟩ => ⟨F, env, ds, hs, hf, fun J F' H' g z k => q J F' H' g z k.b⟩
theorem rngSplit {lo hi : Int} {ds : List D} (h : rangeD lo hi = some ds) : -(2 ^ 62) ≤ lo ∧ lo < 2 ^ 62 ∧ -(2 ^ 62) ≤ hi ∧ hi < 2 ^ 62 ∧ (hi - lo).toNat ≤ sizeLine ∧ ds = rangeL lo (hi - lo).toNat := by
  unfold rangeD at h
  split at h
  · rename_i z
    simp only [okRng, Bool.and_eq_true, Nat.ble_eq] at z
    exact ⟨by omega, by omega, by omega, by omega, z.2, (Option.some.inj h).symm⟩
  · cases h
theorem irng1 (hg : Gl X "range") (hm : X.mg "range" = none) (ha : PE X a (rV (gx X) O fa)) (hs : starEach [a] X.env = [(false, eval a X.env)] := by rfl) : PI X tg (.Call (.Name "range" p) [a] [] pos) (iV (gx X) O (iRng1 fa)) :=
  (pi_range1 hg hm (pa_cons ha pa_nil hs) hs).imp fun σ H R ⟨F, env, ds, hs, hf, q⟩ => by
    simp only [iRng1] at hf
    obtain ⟨x, h1, hf⟩ := bind_some hf
    obtain ⟨n, h2, h3⟩ := bind_some hf
    have e2 := toI_some h2
    subst e2
    obtain ⟨_, _, z1, z2, z3, e4⟩ := rngSplit h3
    refine ⟨F, env, _, hs, h1, fun v F1 H1 g1 r1 => ?_⟩
    cases r1
    refine ⟨n, rfl, z1, z2, ?_⟩
    rw [Int.sub_zero] at e4 z3
    subst e4
    exact q _ F1 H1 g1 (by rw [range_len]; exact z3) (itv_range 0 _)
theorem irng2 (hg : Gl X "range") (hm : X.mg "range" = none) (ha : PE X a (rV (gx X) O fa)) (hb : PE X b (rV (gx X) O fb)) (hs : starEach [a, b] X.env = [(false, eval a X.env), (false, eval b X.env)] := by rfl) (hs2 : starEach [b] X.env = [(false, eval b X.env)] := by rfl) :
    PI X tg (.Call (.Name "range" p) [a, b] [] pos) (iV (gx X) O (iRng2 fa fb)) :=
  (pi_range2 hg hm (pa_cons ha (pa_cons hb pa_nil hs2) (by rw [hs, hs2])) hs hs2).imp fun σ H R ⟨F, env, ds, hs, hf, q⟩ => by
    simp only [iRng2] at hf
    obtain ⟨x, h1, hf⟩ := bind_some hf
    obtain ⟨y, h2, hf⟩ := bind_some hf
    obtain ⟨n, h3, hf⟩ := bind_some hf
    obtain ⟨m, h4, h5⟩ := bind_some hf
    have e3 := toI_some h3
    have e4 := toI_some h4
    subst e3 e4
    obtain ⟨z1, z2, z3, z4, z5, e6⟩ := rngSplit h5
    refine ⟨F, env, _, hs, h1, fun v F1 H1 g1 r1 => ⟨F1, env, _, hs.gr g1, h2, fun u F2 H2 g2 r2 => ?_⟩⟩
    cases r1
    cases r2
    subst e6
    exact ⟨n, m, rfl, ⟨z1, z2, z3, z4⟩, q _ F2 H2 (g1.trans g2) (by rw [range_len]; exact z5) (itv_range n _)⟩
theorem _root_.L2.PI.or {t t' : TI} {it : Expr} (h : PI X tg it t) (h' : PI X tg it t') : PI X tg it fun σ H R => t σ H R ∨ t' σ H R := ⟨fun pins s σ H R I q => q.elim (h.run pins s σ H R I) (h'.run pins s σ H R I)⟩
theorem itv_list {K : PySem.W.Frag} {mg : Str → Option Value} {F : Hp} {a : Addr} {vs : List V} {ds : List D} (h : SqL K F a vs) (r : RpAll ⟨K, mg⟩ F vs ds) : ItV ⟨K, mg⟩ (Itl K a) F ds := fun i F2 H2 s1 s2 => by
  have h2 : SqL K H2 a vs := s2.seq (s1.seq h)
  refine ⟨fun d e => ?_, fun e => ⟨vs, h2, by rw [r.length]; exact List.getElem?_eq_none_iff.mp e⟩⟩
  obtain ⟨v, h3, h4⟩ := r.get e
  refine ⟨⟨vs, v, h2, h3⟩, fun x H3 ⟨e1, e2⟩ => ⟨e1, ?_⟩⟩
  have e3 := e2 vs h2
  rw [h3] at e3
  cases e3
  exact h4.mono s1
theorem itv_tup {K : PySem.W.Frag} {mg : Str → Option Value} {F : Hp} {a : Addr} {vs : List V} {ds : List D} (h : SqT K F a vs) (r : RpAll ⟨K, mg⟩ F vs ds) : ItV ⟨K, mg⟩ (Itt K a) F ds := fun i F2 H2 s1 s2 => by
  have h2 : SqT K H2 a vs := sameT s2 (sameT s1 h)
  refine ⟨fun d e => ?_, fun e => ⟨vs, h2, by rw [r.length]; exact List.getElem?_eq_none_iff.mp e⟩⟩
  obtain ⟨v, h3, h4⟩ := r.get e
  refine ⟨⟨vs, v, h2, h3⟩, fun x H3 ⟨e1, e2⟩ => ⟨e1, ?_⟩⟩
  have e3 := e2 vs h2
  rw [h3] at e3
  cases e3
  exact h4.mono s1
theorem itb_list {K : PySem.W.Frag} {mg : Str → Option Value} {F H : Hp} {a : Addr} {vs : List V} {ds : List D} (h : SqL K H a vs) (r : RpAll ⟨K, mg⟩ F vs ds) : ItB ⟨K, mg⟩ (Itl K a) F H ds := fun i F2 H2 s1 s2 s3 => by
  have h2 : SqL K H2 a vs := s2.seq h
  refine ⟨fun d e => ?_, fun e => ⟨vs, h2, by rw [r.length]; exact List.getElem?_eq_none_iff.mp e⟩⟩
  obtain ⟨v, h3, h4⟩ := r.get e
  refine ⟨⟨vs, v, h2, h3⟩, fun x H3 ⟨e1, e2⟩ => ⟨e1, ?_⟩⟩
  have e3 := e2 vs h2
  rw [h3] at e3
  cases e3
  exact h4.mono s1
/-- a list or a tuple, walked -/
theorem iseq (ha : PE X a (rV (gx X) O fa)) : PI X tg a (iV (gx X) O (iSeq fa)) :=
  (PI.or (pi_list (pe_hl ha)) (pi_tup (pe_hl ha))).imp fun σ H R ⟨F, env, ds, hs, hf, q⟩ => by
    simp only [iSeq] at hf
    obtain ⟨x, h1, h2⟩ := bind_some hf
    cases x with
    | list es =>
      have e2 := Option.some.inj h2
      subst e2
      refine .inl ⟨F, env, _, hs, h1, fun v F1 H1 g1 r1 hl => ?_⟩
      cases r1 with
      | lst h r => exact ⟨_, rfl, ⟨_, g1.fh.seq h⟩, q _ F1 H1 g1 (by rw [← r.length]; exact hl.1 _ _ (g1.fh.seq h)) (itv_list h r)⟩
    | tuple es =>
      have e2 := Option.some.inj h2
      subst e2
      refine .inr ⟨F, env, _, hs, h1, fun v F1 H1 g1 r1 hl => ?_⟩
      cases r1 with
      | tup h r => exact ⟨_, rfl, ⟨_, sameT g1.fh h⟩, q _ F1 H1 g1 (by rw [← r.length]; exact hl.2 _ _ (sameT g1.fh h)) (itv_tup h r)⟩
    | _ => cases h2
theorem iseqB (ha : PE X a (rB (gx X) O fa)) : PI X tg a (iB (gx X) O (iSeq fa)) :=
  (PI.or (pi_list (pe_hl ha)) (pi_tup (pe_hl ha))).imp fun σ H R ⟨F, env, ds, hs, hf, q⟩ => by
    simp only [iSeq] at hf
    obtain ⟨x, h1, h2⟩ := bind_some hf
    cases x with
    | list es =>
      have e2 := Option.some.inj h2
      subst e2
      refine .inl ⟨F, env, _, hs, h1, fun v F1 H1 g1 r1 hl => ?_⟩
      obtain ⟨p, vs, rfl, h, r⟩ := r1.lst g1.fh
      exact ⟨_, rfl, ⟨_, h⟩, q _ F1 H1 g1 (by rw [← r.length]; exact hl.1 _ _ h) (itb_list h r)⟩
    | tuple es =>
      have e2 := Option.some.inj h2
      subst e2
      refine .inr ⟨F, env, _, hs, h1, fun v F1 H1 g1 r1 hl => ?_⟩
      obtain ⟨p, vs, rfl, hf, h, r⟩ := r1.tup g1.fh
      exact ⟨_, rfl, ⟨_, h⟩, q _ F1 H1 g1 (by rw [← r.length]; exact hl.2 _ _ h) (itv_tup hf r).b⟩
    | _ => cases h2
end
/-! ### targets -/
def tG (G : Gx) (O : List Nat) (sl : List Nat) (g : SG) : TG := fun v σ H Q => ∃ F env d env', SOk G O F H σ env ∧ Rp G F v d ∧ g d env = some env' ∧
  ∀ σ', SOk G O F H σ' env' → σ'.length = σ.length → (∀ j, j ∉ sl → σ'[j]? = σ[j]?) → Q σ' H
def tGs (G : Gx) (O : List Nat) (sl : List Nat) (gs : List SG) : TGs := fun vs σ H Q => ∃ F env ds env', SOk G O F H σ env ∧ RpAll G F vs ds ∧ gAll gs ds env = some env' ∧
  ∀ σ', SOk G O F H σ' env' → σ'.length = σ.length → (∀ j, j ∉ sl → σ'[j]? = σ[j]?) → Q σ' H
section
variable {X : Cx} {O : List Nat} {pos : Pos}
theorem _root_.L2.PG.imp {t t' : TG} {e : Expr} (h : PG X e t) (i : ∀ v σ H Q, t' v σ H Q → t v σ H Q) : PG X e t' := ⟨fun pins s σ H v u Q I r q => h.run pins s σ H v u Q I r (i v σ H Q q)⟩
theorem _root_.L2.PGs.imp {t t' : TGs} {e : List Expr} (h : PGs X e t) (i : ∀ v σ H Q, t' v σ H Q → t v σ H Q) : PGs X e t' := ⟨fun pins s σ H v u Q I r q => h.run pins s σ H v u Q I r (i v σ H Q q)⟩
theorem gn (i : Nat) {x : Str} (hN : X.N.Nodup) (hO : i ∉ O := by decide) (hi : X.N[i]? = some x := by rfl) (hx : Loc X.env.scope x := by first | exact Or.inl rfl | exact Or.inr rfl) (hf : X.fn x = true ∨ X.env.scope.names.lookup x = some .local := by first | exact .inl rfl | exact .inr rfl | assumption) :
    PG X (.Name x pos) (tG (gx X) O [i] (TL.gName i)) := (pg_name hN hi hx hf).imp fun v σ H Q ⟨F, env, d, env', hs, r, hg, q⟩ => by
  cases hg
  exact q _ (hs.set hO r) (List.length_set ..) fun j hj => List.getElem?_set_ne fun e => hj (by rw [e]; exact List.mem_singleton.mpr rfl)
theorem gsn : PGs X [] (tGs (gx X) O [] []) := pgs_nil.imp fun vs σ H Q ⟨F, env, ds, env', hs, r, hg, q⟩ => by
  cases r with
  | nil =>
    cases hg
    exact ⟨rfl, q σ hs rfl fun _ _ => rfl⟩
  | cons _ _ => cases hg
theorem gsc {e : Expr} {es : List Expr} {sl sl' : List Nat} {g : SG} {gs : List SG} (h1 : PG X e (tG (gx X) O sl g)) (h2 : PGs X es (tGs (gx X) O sl' gs)) (hs : (assignEach (e :: es) X.env).map (·.2) = assign e X.env :: (assignEach es X.env).map (·.2) := by rfl) :
    PGs X (e :: es) (tGs (gx X) O (sl ++ sl') (g :: gs)) := (pgs_cons h1 h2 hs).imp fun vs σ H Q ⟨F, env, ds, env', hs, r, hg, q⟩ => by
  cases r with
  | nil => cases hg
  | @cons v vs d ds r1 r2 =>
    simp only [gAll] at hg
    obtain ⟨env1, h3, h4⟩ := bind_some hg
    refine ⟨v, vs, rfl, F, env, d, env1, hs, r1, h3, fun σ1 s1 l1 k1 => ⟨F, env1, ds, env', s1, r2, h4, fun σ2 s2 l2 k2 => q σ2 s2 (l2.trans l1) fun j hj => ?_⟩⟩
    rw [List.mem_append, not_or] at hj
    rw [k2 j hj.2, k1 j hj.1]
theorem gAll_len : ∀ {gs : List SG} {ds : List D} {env env' : Env}, gAll gs ds env = some env' → ds.length = gs.length
  | [], [], _, _, _ => rfl
  | [], _ :: _, _, _, h => by cases h
  | _ :: _, [], _, _, h => by cases h
  | g :: gs, d :: ds, env, env', h => by
    simp only [gAll] at h
    obtain ⟨e, _, h⟩ := bind_some h
    exact congrArg (· + 1) (gAll_len h)
theorem gt {es : List Expr} {k : Nat} {sl : List Nat} {gs : List SG} (hc : X.calm = true) (h : PGs X es (tGs (gx X) O sl gs)) (hn : (assignEach es X.env).length = gs.length := by rfl) (hst : (assignEach es X.env).findIdx? (·.1) = none := by rfl) :
    PG X (.Tuple es k pos) (tG (gx X) O sl (TL.gTup gs)) := (pg_tup hc h hn hst).imp fun v σ H Q ⟨F, env, d, env', hs, r, hg, q⟩ => by
  cases d with
  | tuple ds =>
    have hg : gAll gs ds env = some env' := hg
    cases r with
    | tup h r => exact ⟨_, _, rfl, sameT hs.fh h, by rw [r.length]; exact gAll_len hg, F, env, ds, env', hs, r, hg, q⟩
  | _ => cases hg
end
/-! ### list comprehensions -/
section
variable {X : Cx} {O : List Nat}
theorem _root_.L2.PTs.imp {t t' : TT} {e : List Expr} (h : PTs X e t) (i : ∀ σ H Q, t' σ H Q → t σ H Q) : PTs X e t' := ⟨fun pins s σ H Q I q => h.run pins s σ H Q I (i σ H Q q)⟩
theorem pyes : PTs X [] (rT (gx X) O cYes) := pts_nil.imp fun σ H Q ⟨F, env, b, hs, hf, q⟩ => by
  cases hf
  exact q F H (Gr.refl hs.fh)
theorem pone {c : Expr} {f : ST} (h : PT X c (rT (gx X) O f)) : PTs X [c] (rT (gx X) O f) := pts_one h
/-- what holds while the list at D0 grows -/
structure LcI (G : Gx) (F1 H1 F' H' : Hp) (D0 : Addr) (acc : List V) (accD : List D) : Prop where
  gr : Gr F1 H1 F' H'
  fr : F' D0 = none
  at_ : H' D0 = some (.lst acc)
  rp : RpAll G F' acc accD
theorem LcI.app {G : Gx} {F1 H1 F' H' : Hp} {D0 : Addr} {acc : List V} {accD : List D} (h : LcI G F1 H1 F' H' D0 acc accD) (hn : H1 D0 = none) {y : V} {d : D} (r : Rp G F' y d) : LcI G F1 H1 F' (upd H' D0 (.lst (acc ++ [y]))) D0 (acc ++ [y]) (accD ++ [d]) := by
  refine ⟨⟨h.gr.ff, h.gr.hh.upd_ hn, fun b x e => ?_, h.gr.hid⟩, h.fr, upd_same, h.rp.append (.cons r .nil)⟩
  · rw [upd_ne (ne_of_none e h.fr)]
    exact h.gr.fh b x e
theorem LcI.gr' {G : Gx} {F1 H1 F' H' F2 H2 : Hp} {D0 : Addr} {acc : List V} {accD : List D} (h : LcI G F1 H1 F' H' D0 acc accD) (g : Gr F' H' F2 H2) : LcI G F1 H1 F2 H2 D0 acc accD :=
  ⟨h.gr.trans g, g.hid _ _ h.at_ h.fr, g.hh.l h.at_, h.rp.mono g.ff⟩
theorem lc_read {G : Gx} {O : List Nat} {fi : SI} {g : SG} {c : ST} {f : SE} {sl vs : List Nat} (hsl : ∀ j ∈ sl, j ∈ vs) (hO : ∀ j ∈ vs, j ∉ O) {σ : L2.St} {H : Hp} {Q : VK} (h : rN G O (eLc vs fi g c f) σ H Q) :
    tLc (iB G O fi) (tG G O sl g) (rT G O c) (rV G O f) vs σ H Q := by
    obtain ⟨F, env, d, hs, hf, q⟩ := h
    simp only [eLc] at hf
    obtain ⟨ds, h1, hf⟩ := bind_some hf
    obtain ⟨es, h2, h3⟩ := map_some hf
    subst h3
    refine ⟨F, env, ds, hs, h1, fun J F1 H1 g1 hz hJ D0 hD => ?_⟩
    have hs1 := hs.gr g1
    refine ⟨fun i m H' => ∃ F' acc accD rest, LcI G F1 H1 F' H' D0 acc accD ∧ accD.length ≤ i ∧ i ≤ ds.length ∧ m = ds.length - i ∧ lcGo g c f (wipeE env (vs)) (ds.drop i) = some rest ∧ es = accD ++ rest,
      ⟨ds.length, F1, [], [], es, ⟨Gr.open_ g1.fh hD, Same.nn g1.fh hD, upd_same, .nil⟩, Nat.le_refl _, Nat.zero_le _, by omega, h2, rfl⟩, ?_⟩
    rintro i m H' ⟨F', acc, accD, rest, L, l1, l2, rfl, hgo, ees⟩
    have hs' := (hs1.gr L.gr).wipe hO
    have hJ' := hJ i F' H' L.gr.ff L.gr.hh L.gr.fh
    cases hd : ds[i]? with
    | none =>
      have hi : ds.length ≤ i := List.getElem?_eq_none_iff.mp hd
      refine .inl ⟨hJ'.2 hd, ?_⟩
      rw [List.drop_eq_nil_of_le hi] at hgo
      cases hgo
      rw [List.append_nil] at ees
      subst ees
      exact q D0 acc es F' H' (g1.trans L.gr) (g1.hh.free hD) L.fr L.at_ L.rp rfl
    | some x =>
      have hi : i < ds.length := (List.getElem?_eq_some_iff.mp hd).1
      have hx : ds[i] = x := (List.getElem?_eq_some_iff.mp hd).2
      have hdr : ds.drop i = x :: ds.drop (i + 1) := by rw [List.drop_eq_getElem_cons hi, hx]
      rw [hdr] at hgo
      simp only [lcGo] at hgo
      obtain ⟨env1, hg1, hgo⟩ := bind_some hgo
      obtain ⟨b, hc1, hgo⟩ := bind_some hgo
      refine .inr ⟨(hJ'.1 x hd).1, fun H2 => ∃ F' acc accD rest, LcI G F1 H1 F' H2 D0 acc accD ∧ accD.length ≤ i + 1 ∧ lcGo g c f (wipeE env (vs)) (ds.drop (i + 1)) = some rest ∧ es = accD ++ rest, fun H2 h => ?_, fun v H2 hy => ?_⟩
      · obtain ⟨F2, acc2, accD2, rest2, L2, l3, hg2, e2⟩ := h
        exact ⟨ds.length - (i + 1), by omega, F2, acc2, accD2, rest2, L2, l3, hi, rfl, hg2, e2⟩
      · obtain ⟨rfl, rv⟩ := (hJ'.1 x hd).2 v H2 hy
        refine ⟨F', _, x, env1, hs', rv, hg1, fun σ2 s2 ln kp => ⟨ext_wipe ln kp hsl |>.trans ?_, F', env1, b, s2, hc1, fun F3 H3 g3 => ?_⟩⟩
        · have : ∀ (vs ws : List Nat) (τ : L2.St), (∀ j ∈ ws, j ∈ vs) → L2.wipe (L2.wipe τ ws) vs = L2.wipe τ vs := fun vs ws τ h => ext_wipe (sl := ws) (wipe_length _ _) (fun j hj => wipe_out hj) h
          exact this _ _ _ fun j h => h
        · cases b with
          | true =>
            rw [if_pos rfl] at hgo ⊢
            obtain ⟨y, he1, hgo⟩ := bind_some hgo
            obtain ⟨rest2, hg2, e2⟩ := map_some hgo
            refine ⟨F3, env1, y, s2.gr g3, he1, fun w F4 H4 g4 r4 => ?_⟩
            have L4 := (L.gr' g3).gr' g4
            refine ⟨acc, L4.at_, ?_, F4, acc ++ [w], accD ++ [y], rest2, L4.app hD r4, by rw [List.length_append]; exact Nat.succ_le_succ l1, hg2, ?_⟩
            · rw [L.rp.length]
              omega
            · rw [ees, ← e2, List.append_assoc]
              rfl
          | false =>
            rw [if_neg Bool.false_ne_true] at hgo ⊢
            exact ⟨F3, acc, accD, rest, L.gr' g3, by omega, hgo, ees⟩
theorem elc {elt tg iter : Expr} {ifs : List Expr} {scope : Scope} {own : List (Str × Nat)} {pos : Pos} {fi : SI} {g : SG} {c : ST} {f : SE} {sl : List Nat} (hc : X.calm = true) (hN : X.N.Nodup) (hi : PI X tg iter (iB (gx X) O fi)) (ok : BlkOk X.N X.env.scope scope own)
    (hg : ∀ (s : Shared) (H : Hp) (C : Addr) (cl : List (Str × Addr)) (fp : List Addr), PG (X.blk s H scope (compEnvC scope cl C X.env) fp) tg (tG (gx X) O sl g)) (ht : ∀ (s : Shared) (H : Hp) (C : Addr) (cl : List (Str × Addr)) (fp : List Addr), PTs (X.blk s H scope (compEnvC scope cl C X.env) fp) ifs (rT (gx X) O c))
    (he : ∀ (s : Shared) (H : Hp) (C : Addr) (cl : List (Str × Addr)) (fp : List Addr), PE (X.blk s H scope (compEnvC scope cl C X.env) fp) elt (rV (gx X) O f)) (hsl : ∀ j ∈ sl, j ∈ own.map (·.2) := by decide) (hO : ∀ j ∈ own.map (·.2), j ∉ O := by decide) (hs : ∀ x, foldedSetIterable iter X.env x = pure x := by intro _; rfl) :
    PE X (.ListComp elt [⟨tg, iter, ifs, 0⟩] scope pos) (rN (gx X) O (eLc (own.map (·.2)) fi g c f)) :=
  (pe_lc hc hN hi ok hg ht he hs).imp fun σ H Q h => lc_read hsl hO h
end
end TL

set_option Elab.async false
set_option linter.all false
set_option maxRecDepth 100000
/-! The tree layer: statements, loops, defs. -/
namespace TL
open PySem PySem.Spec PyProof.Rows L2
/-- from the def's entry (F0, H0) to here -/
structure Fr (F0 H0 : Hp) (O : List Nat) (F H : Hp) (σ : L2.St) : Prop where
  gr : Gr F0 H0 F H
  own : ∀ i ∈ O, ∀ p, σ[i]? = some (some (.ref p)) → H0 p = none
theorem Fr.step {F0 H0 F H F' H' : Hp} {O : List Nat} {σ : L2.St} (f : Fr F0 H0 O F H σ) (g : Gr F H F' H') : Fr F0 H0 O F' H' σ := ⟨f.gr.trans g, f.own⟩
/-- how a def hands its value back -/
abbrev RK := Hp → Hp → D → VK → Prop
def oV' (G : Gx) : RK := fun F0 H0 d k => kV G F0 H0 d k
def oN' (G : Gx) : RK := fun F0 H0 d k => kN G F0 H0 d k
def sPost (G : Gx) (R : RK) (O' Ob : List Nat) (F0 H0 F : Hp) (D : Ends) : Out → Prop
  | .nx e => ∀ σ' F' H', SOk G O' F' H' σ' e → Fr F0 H0 O' F' H' σ' → Same F F' → D.nx σ' H'
  | .bk e => ∀ σ' F' H', SOk G Ob F' H' σ' e → Fr F0 H0 Ob F' H' σ' → Same F F' → D.bk σ' H'
  | .ct e => ∀ σ' F' H', SOk G Ob F' H' σ' e → Fr F0 H0 Ob F' H' σ' → Same F F' → D.ct σ' H'
  | .rt d => R F0 H0 d D.rt
theorem sPost.ff {G : Gx} {R : RK} {O' Ob : List Nat} {F0 H0 F F1 : Hp} {D : Ends} {out : Out} (q : sPost G R O' Ob F0 H0 F D out) (k : Same F F1) : sPost G R O' Ob F0 H0 F1 D out := by
  cases out with
  | nx e => exact fun σ' F' H' s' f' k' => q σ' F' H' s' f' (k.trans k')
  | bk e => exact fun σ' F' H' s' f' k' => q σ' F' H' s' f' (k.trans k')
  | ct e => exact fun σ' F' H' s' f' k' => q σ' F' H' s' f' (k.trans k')
  | rt d => exact q
def sV (G : Gx) (R : RK) (O O' Ob : List Nat) (f : SS) : TS := fun D σ H => ∃ F0 H0 F env out, SOk G O F H σ env ∧ Fr F0 H0 O F H σ ∧ f env = some out ∧ sPost G R O' Ob F0 H0 F D out
section
variable {X : Cx} {R : RK} {O O' O'' Ob : List Nat} {st : Stmt} {rest : List Stmt} {pos : Pos}
theorem _root_.L2.PS.imp {t t' : TS} {st : Stmt} (h : PS X st t) (i : ∀ D σ H, t' D σ H → t D σ H) : PS X st t' := ⟨fun pins s σ H D I q => h.run pins s σ H D I (i D σ H q)⟩
theorem _root_.L2.PSs.imp {t t' : TS} {st : List Stmt} (h : PSs X st t) (i : ∀ D σ H, t' D σ H → t D σ H) : PSs X st t' := ⟨fun pins s σ H D I q => h.run pins s σ H D I (i D σ H q)⟩
theorem bn : PSs X [] (sV (gx X) R O O Ob sNext) := pss_nil.imp fun D σ H ⟨F0, H0, F, env, out, hs, hf, ho, q⟩ => by
  cases ho
  exact q σ F H hs hf (Same.refl F)
theorem bc {f g : SS} (h1 : PS X st (sV (gx X) R O O' Ob f)) (h2 : PSs X rest (sV (gx X) R O' O'' Ob g)) : PSs X (st :: rest) (sV (gx X) R O O'' Ob (sSeq f g)) :=
  (pss_cons h1 h2).imp fun D σ H ⟨F0, H0, F, env, out, hs, hf, ho, q⟩ => by
    simp only [sSeq] at ho
    obtain ⟨o1, h1, h2⟩ := bind_some ho
    refine ⟨F0, H0, F, env, o1, hs, hf, h1, ?_⟩
    cases o1 with
    | nx e =>
      refine fun σ' F' H' s' f' k' => ⟨F0, H0, F', e, out, s', f', h2, ?_⟩
      cases out with
      | nx e2 => exact fun σ2 F2 H2 s2 f2 k2 => q σ2 F2 H2 s2 f2 (k'.trans k2)
      | bk e2 => exact fun σ2 F2 H2 s2 f2 k2 => q σ2 F2 H2 s2 f2 (k'.trans k2)
      | ct e2 => exact fun σ2 F2 H2 s2 f2 k2 => q σ2 F2 H2 s2 f2 (k'.trans k2)
      | rt d => exact q
    | bk e => cases h2; exact q
    | ct e => cases h2; exact q
    | rt d => cases h2; exact q
theorem bo {f : SS} (h1 : PS X st (sV (gx X) R O O' Ob f)) : PSs X [st] (sV (gx X) R O O' Ob f) := pss_one h1
theorem own_mem {env : Env} {F H : Hp} {σ : L2.St} (hs : SOk (gx X) O F H σ env) (hf : ∀ i ∈ O, ∀ p, σ[i]? = some (some (.ref p)) → H p = none) {i : Nat} (hi : i ∈ O) : False := by
  obtain ⟨p, vs, ds, h1, _, _, h4, _⟩ := hs.own i hi
  rw [hf i hi p h1] at h4
  cases h4
/-- open names are closed -/
theorem SOk.less {G : Gx} {F H : Hp} {σ : L2.St} {env : Env} (hs : SOk G O F H σ env) {F0 H0 : Hp} (hf : Fr F0 H0 O F H σ) (h : ∀ i ∈ O', i ∈ O) : ∃ F', SOk G O' F' H σ env ∧ Fr F0 H0 O' F' H σ ∧ Same F F' := by
  classical
  refine ⟨fun p => if ∃ i ∈ O, i ∉ O' ∧ σ[i]? = some (some (.ref p)) then H p else F p, ?_⟩
  have sm : Same F fun p => if ∃ i ∈ O, i ∉ O' ∧ σ[i]? = some (some (.ref p)) then H p else F p := fun b o e => by
    by_cases c : ∃ i ∈ O, i ∉ O' ∧ σ[i]? = some (some (.ref b))
    · show (if _ then _ else _) = _
      rw [if_pos c]; exact hs.fh b o e
    · show (if _ then _ else _) = _
      rw [if_neg c]; exact e
  have fh : Same (fun p => if ∃ i ∈ O, i ∉ O' ∧ σ[i]? = some (some (.ref p)) then H p else F p) H := fun b o e => by
    have e : (if ∃ i ∈ O, i ∉ O' ∧ σ[i]? = some (some (.ref b)) then H b else F b) = some o := e
    split at e
    · exact e
    · exact hs.fh b o e
  refine ⟨⟨fh, hs.len, fun i d e n => ?_, fun i hi => ?_, fun i hi j hj => hs.dj i (h i hi) j (h j hj), fun x hx c P e => ?_⟩, ⟨⟨hf.gr.ff.trans sm, hf.gr.hh, fh, fun p o e n => ?_⟩, fun i hi => hf.own i (h i hi)⟩, sm⟩
  · by_cases hO : i ∈ O
    · obtain ⟨p, vs, ds, h1, h2, h3, h4, h5⟩ := hs.own i hO
      rw [e] at h2
      cases h2
      exact ⟨_, h1, .lst (.inl (.inl (by show (if _ then _ else _) = _; rw [if_pos ⟨i, hO, n, h1⟩]; exact h4))) (h5.mono sm)⟩
    · obtain ⟨v, h1, h2⟩ := hs.imm i d e hO
      exact ⟨v, h1, h2.mono sm⟩
  · obtain ⟨p, vs, ds, h1, h2, h3, h4, h5⟩ := hs.own i (h i hi)
    refine ⟨p, vs, ds, h1, h2, ?_, h4, h5.mono sm⟩
    show (if _ then _ else _) = _
    rw [if_neg fun ⟨j, hj, nj, e⟩ => nj (hs.dj i (h i hi) j hj (h1.trans e.symm) ▸ hi)]
    exact h3
  · obtain ⟨h1, ps, h2, h3⟩ := hs.tb x hx c P e
    refine ⟨?_, ps, h2, h3⟩
    show (if _ then _ else _) = _
    rw [if_neg fun ⟨j, hj, nj, e'⟩ => by
      obtain ⟨p, vs, ds, k1, k2, k3, k4, k5⟩ := hs.own j hj
      rw [e'] at k1
      cases k1
      rw [h2] at k4
      cases k4]
    exact h1
  · show (if _ then _ else _) = _
    rw [if_neg fun ⟨j, hj, nj, e'⟩ => by rw [hf.own j hj p e'] at e; cases e]
    exact hf.gr.hid p o e n
/-- fewer open names behind a statement -/
theorem sless {f : SS} (hs : PS X st (sV (gx X) R O O' Ob f)) (h : ∀ i ∈ O'', i ∈ O' := by decide) : PS X st (sV (gx X) R O O'' Ob f) :=
  hs.imp fun D σ H ⟨F0, H0, F, env, out, hs, hf, ho, q⟩ => ⟨F0, H0, F, env, out, hs, hf, ho, by
    cases out with
    | nx e => exact fun σ' F' H' s' f' k' => let ⟨F2, s2, f2, k2⟩ := SOk.less s' f' h; q σ' F2 H' s2 f2 (k'.trans k2)
    | bk e => exact q
    | ct e => exact q
    | rt d => exact q⟩
theorem bless {f : SS} {sts : List Stmt} (hs : PSs X sts (sV (gx X) R O O' Ob f)) (h : ∀ i ∈ O'', i ∈ O' := by decide) : PSs X sts (sV (gx X) R O O'' Ob f) :=
  hs.imp fun D σ H ⟨F0, H0, F, env, out, hs, hf, ho, q⟩ => ⟨F0, H0, F, env, out, hs, hf, ho, by
    cases out with
    | nx e => exact fun σ' F' H' s' f' k' => let ⟨F2, s2, f2, k2⟩ := SOk.less s' f' h; q σ' F2 H' s2 f2 (k'.trans k2)
    | bk e => exact q
    | ct e => exact q
    | rt d => exact q⟩
/-- .. ahead of a block -/
theorem bpre {f : SS} {sts : List Stmt} (hs : PSs X sts (sV (gx X) R O' O'' Ob f)) (h : ∀ i ∈ O', i ∈ O := by decide) : PSs X sts (sV (gx X) R O O'' Ob f) :=
  hs.imp fun D σ H ⟨F0, H0, F, env, out, hs, hf, ho, q⟩ => by
    obtain ⟨F2, s2, f2, k2⟩ := SOk.less hs hf h
    refine ⟨F0, H0, F2, env, out, s2, f2, ho, ?_⟩
    cases out with
    | nx e => exact fun σ' F' H' s' f' k' => q σ' F' H' s' f' (k2.trans k')
    | bk e => exact fun σ' F' H' s' f' k' => q σ' F' H' s' f' (k2.trans k')
    | ct e => exact fun σ' F' H' s' f' k' => q σ' F' H' s' f' (k2.trans k')
    | rt d => exact q
theorem spre {f : SS} (hs : PS X st (sV (gx X) R O' O'' Ob f)) (h : ∀ i ∈ O', i ∈ O := by decide) : PS X st (sV (gx X) R O O'' Ob f) :=
  hs.imp fun D σ H ⟨F0, H0, F, env, out, hs, hf, ho, q⟩ => by
    obtain ⟨F2, s2, f2, k2⟩ := SOk.less hs hf h
    refine ⟨F0, H0, F2, env, out, s2, f2, ho, ?_⟩
    cases out with
    | nx e => exact fun σ' F' H' s' f' k' => q σ' F' H' s' f' (k2.trans k')
    | bk e => exact fun σ' F' H' s' f' k' => q σ' F' H' s' f' (k2.trans k')
    | ct e => exact fun σ' F' H' s' f' k' => q σ' F' H' s' f' (k2.trans k')
    | rt d => exact q
/-! ### small statements -/
theorem sbreak (h : ∀ i ∈ Ob, i ∈ O := by decide) : PS X (.Break pos) (sV (gx X) R O O' Ob sBreak) := ps_break.imp fun D σ H ⟨F0, H0, F, env, out, hs, hf, ho, q⟩ => by
  cases ho
  obtain ⟨F2, s2, f2, k2⟩ := SOk.less hs hf h
  exact q σ F2 H s2 f2 k2
theorem scont (h : ∀ i ∈ Ob, i ∈ O := by decide) : PS X (.Continue pos) (sV (gx X) R O O' Ob sCont) := ps_continue.imp fun D σ H ⟨F0, H0, F, env, out, hs, hf, ho, q⟩ => by
  cases ho
  obtain ⟨F2, s2, f2, k2⟩ := SOk.less hs hf h
  exact q σ F2 H s2 f2 k2
theorem spass : PS X (.Pass pos) (sV (gx X) R O O Ob sNext) := ps_pass.imp fun D σ H ⟨F0, H0, F, env, out, hs, hf, ho, q⟩ => by
  cases ho
  exact q σ F H hs hf (Same.refl F)
theorem sdoc {x j p p'} : PS X (.Expr (.Constant (.str x) j p) p') (sV (gx X) R O O Ob sNext) := ps_doc.imp fun D σ H ⟨F0, H0, F, env, out, hs, hf, ho, q⟩ => by
  cases ho
  exact q σ F H hs hf (Same.refl F)
theorem Fr.gr0 {F0 H0 F H : Hp} {σ : L2.St} (f : Fr F0 H0 O F H σ) : Gr F0 H0 F H := f.gr
theorem sret {e : Expr} {a : SE} (he : PE X e (rV (gx X) O a)) : PS X (.Return (some e) pos) (sV (gx X) (oV' (gx X)) O O' Ob (sRet a)) :=
  (ps_ret he).imp fun D σ H ⟨F0, H0, F, env, out, hs, hf, ho, q⟩ => by
    simp only [sRet] at ho
    obtain ⟨d, h1, h2⟩ := map_some ho
    subst h2
    exact ⟨F, env, d, hs, h1, kV.gr q hf.gr⟩
theorem sretN {e : Expr} {a : SE} (he : PE X e (rN (gx X) O a)) : PS X (.Return (some e) pos) (sV (gx X) (oN' (gx X)) O O' Ob (sRet a)) :=
  (ps_ret he).imp fun D σ H ⟨F0, H0, F, env, out, hs, hf, ho, q⟩ => by
    simp only [sRet] at ho
    obtain ⟨d, h1, h2⟩ := map_some ho
    subst h2
    exact ⟨F, env, d, hs, h1, kN.gr q hf.gr⟩
/-- an open list is handed back as a new one -/
theorem sretO (i : Nat) {x : Str} {p : Pos} (hO : i ∈ O := by decide) (hN : X.N[i]? = some x := by rfl) (hv : Vis X.env.scope x := by first | exact Or.inl rfl | exact Or.inr (Or.inl rfl) | exact Or.inr (Or.inr rfl)) (hd : (x == ("__debug__" : Str)) = false := by decide)
    (hcd : (x == ("__classdict__" : Str)) = false := by decide) : PS X (.Return (some (.Name x p)) pos) (sV (gx X) (oN' (gx X)) O O' Ob (sRet (eVar i))) :=
  (ps_ret (pe_var hN hv hd hcd)).imp fun D σ H ⟨F0, H0, F, env, out, hs, hf, ho, q⟩ => by
    simp only [sRet, eVar] at ho
    obtain ⟨d, h1, h2⟩ := map_some ho
    subst h2
    obtain ⟨p, vs, ds, h3, h4, h5, h6, h7⟩ := hs.own i hO
    rw [getD_some h1] at h4
    cases h4
    exact ⟨_, h3, q p vs ds F H hf.gr (hf.own i hO p h3) h5 h6 h7 rfl⟩
theorem sretn : PS X (.Return none pos) (sV (gx X) (oV' (gx X)) O O' Ob (sRet (eC .none))) := ps_retN.imp fun D σ H ⟨F0, H0, F, env, out, hs, hf, ho, q⟩ => by
  cases ho
  exact q .non F H hf.gr .non
theorem sif {c : Expr} {a b : List Stmt} {fc : ST} {fa fb : SS} (hc : PT X c (rT (gx X) O fc)) (ha : PSs X a (sV (gx X) R O O' Ob fa)) (hb : PSs X b (sV (gx X) R O O' Ob fb)) : PS X (.If c a b pos) (sV (gx X) R O O' Ob (sIf fc fa fb)) :=
  (ps_if hc ha hb).imp fun D σ H ⟨F0, H0, F, env, out, hs, hf, ho, q⟩ => by
    simp only [sIf] at ho
    obtain ⟨k, h1, h2⟩ := bind_some ho
    refine ⟨F, env, k, hs, h1, fun F1 H1 g1 => ?_⟩
    have q' := q.ff g1.ff
    cases k with
    | true => exact ⟨F0, H0, F1, env, out, hs.gr g1, hf.step g1, h2, q'⟩
    | false => exact ⟨F0, H0, F1, env, out, hs.gr g1, hf.step g1, h2, q'⟩
/-- target = value -/
theorem sasg {tg e : Expr} {a : SE} {g : SG} {sl : List Nat} (he : PE X e (rV (gx X) O a)) (hg : PG X tg (tG (gx X) O sl g)) (hsl : ∀ i ∈ O, i ∉ sl := by decide) (hs : swapsWithSole [tg] e pos.line X.env = pure false := by rfl) (hw : swappedStores [tg] e X.env = pure none := by rfl)
    (h1 : (assignEach [tg] X.env).map (·.2) = [assign tg X.env] := by rfl) : PS X (.Assign [tg] e pos) (sV (gx X) R O O Ob (sAsg a g)) :=
  (ps_asg he hg hs hw h1).imp fun D σ H ⟨F0, H0, F, env, out, hs, hf, ho, q⟩ => by
    simp only [sAsg] at ho
    obtain ⟨d, h1, h2⟩ := bind_some ho
    obtain ⟨e', h3, h4⟩ := map_some h2
    subst h4
    refine ⟨F, env, d, hs, h1, fun v F1 H1 g1 r1 => ⟨F1, env, d, e', hs.gr g1, r1, h3, fun σ' s' l' k' => q σ' F1 H1 s' ⟨hf.gr.trans g1, fun i hi p hp => hf.own i hi p ?_⟩ g1.ff⟩⟩
    rw [← k' i (hsl i hi)]
    exact hp
theorem fr_set {F0 H0 F H : Hp} {σ : L2.St} (hf : Fr F0 H0 O F H σ) {i : Nat} {v : V} (hO : i ∉ O) : Fr F0 H0 O F H (σ.set i (some v)) :=
  ⟨hf.gr, fun j hj p hp => hf.own j hj p (by rw [List.getElem?_set_ne (show i ≠ j from fun e => hO (by rw [e]; exact hj))] at hp; exact hp)⟩
/-- name = value -/
theorem sset {x : Str} {e : Expr} {a : SE} {pos' : Pos} (i : Nat) (hN : X.N.Nodup) (he : PE X e (rV (gx X) O a)) (hO : i ∉ O := by decide) (hi : X.N[i]? = some x := by rfl) (hx : Loc X.env.scope x := by first | exact Or.inl rfl | exact Or.inr rfl) (hs : swapsWith e (some (.Name x pos')) pos.line X.env = pure false := by rfl)
    (hf : X.fn x = true ∨ X.env.scope.names.lookup x = some .local := by first | exact .inl rfl | exact .inr rfl | assumption) : PS X (.Assign [.Name x pos'] e pos) (sV (gx X) R O O Ob (sAsg a (TL.gName i))) :=
  (ps_set hN hi hx he hs hf).imp fun D σ H ⟨F0, H0, F, env, out, hs, hf, ho, q⟩ => by
    simp only [sAsg, TL.gName] at ho
    obtain ⟨d, h1, h2⟩ := bind_some ho
    cases h2
    exact ⟨F, env, d, hs, h1, fun v F1 H1 g1 r1 => q _ F1 H1 ((hs.gr g1).set hO r1) (fr_set (hf.step g1) hO) g1.ff⟩
theorem SOk.open_ {G : Gx} {F H F1 H1 : Hp} {σ : L2.St} {env : Env} (hs : SOk G O F H σ env) (g : Gr F H F1 H1) {i : Nat} (hi : i < σ.length) (hO : i ∉ O) {p : Addr} {vs : List V} {ds : List D} (e1 : H p = none) (e2 : F1 p = none) (e3 : H1 p = some (.lst vs)) (r : RpAll G F1 vs ds) :
    SOk G (i :: O) F1 H1 (σ.set i (some (.ref p))) (env.set i (some (.list ds))) := by
  have hs1 := hs.gr g
  have hne : ∀ j ∈ O, i ≠ j := fun j hj e => hO (e ▸ hj)
  have pne : ∀ j ∈ O, σ[j]? ≠ some (some (.ref p)) := fun j hj e => by
    obtain ⟨p', _, _, h1, _, _, h4, _⟩ := hs.own j hj
    rw [e] at h1
    cases h1
    rw [e1] at h4
    cases h4
  refine ⟨hs1.fh, by rw [List.length_set, List.length_set]; exact hs.len, fun j d e n => ?_, fun j hj => ?_, fun j hj k hk e => ?_, hs1.tb⟩
  · have hj : i ≠ j := fun z => n (z ▸ List.mem_cons_self)
    rw [List.getElem?_set_ne hj] at e ⊢
    exact hs1.imm j d e fun z => n (List.mem_cons_of_mem _ z)
  · rcases List.mem_cons.mp hj with rfl | hj
    · exact ⟨p, vs, ds, List.getElem?_set_self hi, List.getElem?_set_self (hs.len ▸ hi), e2, e3, r⟩
    · rw [List.getElem?_set_ne (hne j hj), List.getElem?_set_ne (hne j hj)]
      exact hs1.own j hj
  · rcases List.mem_cons.mp hj with ej | hj
    · rcases List.mem_cons.mp hk with ek | hk
      · rw [ej, ek]
      · rw [ej, List.getElem?_set_self hi, List.getElem?_set_ne (hne k hk)] at e
        exact absurd e.symm (pne k hk)
    · rcases List.mem_cons.mp hk with ek | hk
      · rw [ek, List.getElem?_set_self hi, List.getElem?_set_ne (hne j hj)] at e
        exact absurd e (pne j hj)
      · rw [List.getElem?_set_ne (hne j hj), List.getElem?_set_ne (hne k hk)] at e
        exact hs.dj j hj k hk e
theorem fr_open {F0 H0 F H F1 H1 : Hp} {σ : L2.St} (hf : Fr F0 H0 O F H σ) (g : Gr F H F1 H1) {i : Nat} (hi : i < σ.length) (hO : i ∉ O) {p : Addr} (e1 : H p = none) : Fr F0 H0 (i :: O) F1 H1 (σ.set i (some (.ref p))) := by
  refine ⟨hf.gr.trans g, fun j hj p' hp => ?_⟩
  rcases List.mem_cons.mp hj with rfl | hj
  · rw [List.getElem?_set_self hi] at hp
    cases hp
    exact hf.gr.hh.free e1
  · rw [List.getElem?_set_ne (show i ≠ j from fun e => hO (by rw [e]; exact hj))] at hp
    exact hf.own j hj p' hp
theorem tAsg_new {G : Gx} {R : RK} {O Ob : List Nat} {i : Nat} {a : SE} {te : TE} {D : Ends} {σ : L2.St} {H : Hp} (hte : ∀ Q, rN G O a σ H Q → te σ H Q) (hO : i ∉ O) (hi : ∀ F env, SOk G O F H σ env → i < σ.length) (h : sV G R O (i :: O) Ob (sAsg a (TL.gName i)) D σ H) : tAsg te (L2.gName i) D σ H := by
  obtain ⟨F0, H0, F, env, out, hs, hf, ho, q⟩ := h
  simp only [sAsg, TL.gName] at ho
  obtain ⟨d, h1, h2⟩ := bind_some ho
  cases h2
  have hi := hi F env hs
  refine hte _ ⟨F, env, d, hs, h1, fun p vs ds F1 H1 g1 e1 e2 e3 r e => ?_⟩
  subst e
  exact q _ F1 H1 (hs.open_ g1 hi hO e1 e2 e3 r) (fr_open hf g1 hi hO e1) g1.ff
theorem ps_ln {t : TS} (h : PS X st t) : PS X st fun D σ H => σ.length = X.N.length → t D σ H := ⟨fun pins s σ H D I q => h.run pins s σ H D I (q I.len)⟩
theorem ix_lt {σ : L2.St} {i : Nat} {x : Str} (hl : σ.length = X.N.length) (hi : X.N[i]? = some x) : i < σ.length := by
  rw [hl]
  exact (List.getElem?_eq_some_iff.mp hi).1
/-- name = a new list: the name is open -/
theorem ssetN {x : Str} {e : Expr} {a : SE} {pos' : Pos} (i : Nat) (hN : X.N.Nodup) (he : PE X e (rN (gx X) O a)) (hO : i ∉ O := by decide) (hi : X.N[i]? = some x := by rfl) (hx : Loc X.env.scope x := by first | exact Or.inl rfl | exact Or.inr rfl) (hs : swapsWith e (some (.Name x pos')) pos.line X.env = pure false := by rfl)
    (hf : X.fn x = true ∨ X.env.scope.names.lookup x = some .local := by first | exact .inl rfl | exact .inr rfl | assumption) : PS X (.Assign [.Name x pos'] e pos) (sV (gx X) R O (i :: O) Ob (sAsg a (TL.gName i))) :=
  (ps_ln (ps_set hN hi hx he hs hf)).imp fun D σ H h hl => tAsg_new (fun Q q => q) hO (fun _ _ _ => ix_lt hl hi) h
/-- name = [..], a comprehension on one line -/
theorem ssetLN {y : Str} {py : Pos} {elt tg iter : Expr} {ifs : List Expr} {scope : Scope} {own : List (Str × Nat)} {spos : Pos} {fi : SI} {g : SG} {c : ST} {f : SE} {sl : List Nat} (i : Nat) (hc : X.calm = true) (hN : X.N.Nodup) (hsw : swapsWith (.ListComp elt [⟨tg, iter, ifs, 0⟩] scope pos) (some (.Name y py)) spos.line X.env = pure true)
    (hi : PI X tg iter (iB (gx X) O fi)) (ok : BlkOk X.N X.env.scope scope own)
    (hg : ∀ (s : Shared) (H : Hp) (C : Addr) (cl : List (Str × Addr)) (fp : List Addr), PG (X.blk s H scope (compEnvC scope cl C X.env) fp) tg (tG (gx X) O sl g)) (ht : ∀ (s : Shared) (H : Hp) (C : Addr) (cl : List (Str × Addr)) (fp : List Addr), PTs (X.blk s H scope (compEnvC scope cl C X.env) fp) ifs (rT (gx X) O c))
    (he : ∀ (s : Shared) (H : Hp) (C : Addr) (cl : List (Str × Addr)) (fp : List Addr), PE (X.blk s H scope (compEnvC scope cl C X.env) fp) elt (rV (gx X) O f)) (hO' : i ∉ O := by decide) (hy : X.N[i]? = some y := by rfl) (hyl : X.env.scope.names.lookup y = some .local := by rfl) (hsl : ∀ j ∈ sl, j ∈ own.map (·.2) := by decide) (hO : ∀ j ∈ own.map (·.2), j ∉ O := by decide) (hs : ∀ x, foldedSetIterable iter X.env x = pure x := by intro _; rfl) :
    PS X (.Assign [.Name y py] (.ListComp elt [⟨tg, iter, ifs, 0⟩] scope pos) spos) (sV (gx X) R O (i :: O) Ob (sAsg (eLc (own.map (·.2)) fi g c f) (TL.gName i))) :=
  (ps_ln (ps_setLc hc hN hy hyl hsw hi ok hg ht he hs)).imp fun D σ H h hl => tAsg_new (fun Q q => lc_read hsl hO q) hO' (fun _ _ _ => ix_lt hl hy) h
/-- an expression whose value is dropped -/
theorem sdrop {e : Expr} {a : SE} (he : PE X e (rV (gx X) O a)) (hs : swapsWith e none pos.line X.env = pure false := by rfl) : PS X (.Expr e pos) (sV (gx X) R O O Ob (sDrop a)) :=
  (ps_expr he hs).imp fun D σ H ⟨F0, H0, F, env, out, hs, hf, ho, q⟩ => by
    simp only [sDrop] at ho
    obtain ⟨d, h1, h2⟩ := map_some ho
    subst h2
    exact ⟨F, env, d, hs, h1, fun v F1 H1 g1 r1 => q σ F1 H1 (hs.gr g1) (hf.step g1) g1.ff⟩
/-- a, b = x, y -/
theorem spar {x y : Str} {a b : Expr} {fa fb : SE} {px py pt : Pos} {kt k2 pt2} (i j : Nat) (hc : X.calm = true) (hN : X.N.Nodup) (ha : PE X a (rV (gx X) O fa)) (hb : PE X b (rV (gx X) O fb)) (hOi : i ∉ O := by decide) (hOj : j ∉ O := by decide) (hi : X.N[i]? = some x := by rfl) (hj : X.N[j]? = some y := by rfl) (hij : i ≠ j := by decide)
    (hx : X.env.scope.names.lookup x = some .local := by rfl) (hy : X.env.scope.names.lookup y = some .local := by rfl)
    (hw : swappedStores [.Tuple [.Name x px, .Name y py] kt pt] (.Tuple [a, b] k2 pt2) X.env = pure (some [x, y]) := by rfl)
    (hs : swapsWithSole [.Tuple [.Name x px, .Name y py] kt pt] (.Tuple [a, b] k2 pt2) pos.line X.env = pure false := by rfl) (hs1 : starEach [a, b] X.env = (false, eval a X.env) :: starEach [b] X.env := by rfl) (hs2 : starEach [b] X.env = (false, eval b X.env) :: starEach [] X.env := by rfl) :
    PS X (.Assign [.Tuple [.Name x px, .Name y py] kt pt] (.Tuple [a, b] k2 pt2) pos) (sV (gx X) R O O Ob (sPar i j fa fb)) :=
  (ps_par hc hN hi hj hij hx hy (pa_cons ha (pa_cons hb pa_nil hs2) hs1) hw hs).imp fun D σ H ⟨F0, H0, F, env, out, hs, hf, ho, q⟩ => by
    simp only [sPar] at ho
    obtain ⟨d, h1, ho⟩ := bind_some ho
    obtain ⟨e, h2, h3⟩ := map_some ho
    subst h3
    refine ⟨F, env, d, hs, h1, fun v F1 H1 g1 r1 => ⟨F1, env, e, hs.gr g1, h2, fun u F2 H2 g2 r2 => ⟨v, u, rfl, ?_⟩⟩⟩
    have g := g1.trans g2
    exact q _ F2 H2 (((hs.gr g).set hOi (r1.mono g2.ff)).set hOj r2) (fr_set (fr_set (hf.step g) hOi) hOj) g.ff
/-- name op= e, on ints, texts, tuples -/
theorem saug {x : Str} {e : Expr} {a : SE} {op : Operator} {g : D → D → Option D} {pos' : Pos} (i : Nat) (hN : X.N.Nodup) (ho : OpV X (inplaceOp op) g) (he : PE X e (rV (gx X) O a)) (hO : i ∉ O := by decide) (hi : X.N[i]? = some x := by rfl) (hx : Loc X.env.scope x := by first | exact Or.inl rfl | exact Or.inr rfl)
    (hf : X.fn x = true ∨ X.env.scope.names.lookup x = some .local := by first | exact .inl rfl | exact .inr rfl | assumption) : PS X (.AugAssign (.Name x pos') op e pos) (sV (gx X) R O O Ob (sAug g i a)) :=
  (ps_aug hN hi hx he ho hf).imp fun D σ H ⟨F0, H0, F, env, out, hs, hf, ho, q⟩ => by
    simp only [sAug] at ho
    obtain ⟨d, h1, ho⟩ := bind_some ho
    obtain ⟨e, h2, ho⟩ := bind_some ho
    obtain ⟨d3, h3, h4⟩ := map_some ho
    subst h4
    obtain ⟨v, h5, h6⟩ := hs.imm i d (getD_some h1) hO
    refine ⟨v, h5, F, env, e, hs, h2, fun u F1 H1 g1 r1 => ⟨F1, d, e, d3, g1.fh, (h6.mono g1.ff).b, r1.b, h3, fun w F2 H2 g2 r2 => ?_⟩⟩
    have g := g1.trans g2
    exact q _ F2 H2 ((hs.gr g).set hO r2) (fr_set (hf.step g) hO) g.ff
/-! ### open lists changed -/
/-- the open list at slot i is another one now -/
theorem SOk.chg {G : Gx} {F H : Hp} {σ : L2.St} {env : Env} (hs : SOk G O F H σ env) {i : Nat} (hi : i ∈ O) {p : Addr} (hp : σ[i]? = some (some (.ref p))) {vs : List V} {ds : List D} (r : RpAll G F vs ds) : SOk G O F (upd H p (.lst vs)) σ (env.set i (some (.list ds))) := by
  obtain ⟨p', _, _, h1, h2, h3, h4, _⟩ := hs.own i hi
  rw [hp] at h1
  cases h1
  have hl : i < env.length := (List.getElem?_eq_some_iff.mp h2).1
  have fne : ∀ b o, F b = some o → b ≠ p := fun b o e z => by rw [z, h3] at e; cases e
  refine ⟨fun b o e => by rw [upd_ne (fne b o e)]; exact hs.fh b o e, by rw [List.length_set]; exact hs.len, fun j d e n => ?_, fun j hj => ?_, hs.dj, hs.tb.upd_ h4⟩
  · rw [List.getElem?_set_ne (fun z => n (by rw [← z]; exact hi))] at e
    exact hs.imm j d e n
  · by_cases ij : i = j
    · subst ij
      exact ⟨p, vs, ds, hp, List.getElem?_set_self hl, h3, upd_same, r⟩
    · obtain ⟨q, us, es, k1, k2, k3, k4, k5⟩ := hs.own j hj
      refine ⟨q, us, es, k1, by rw [List.getElem?_set_ne ij]; exact k2, k3, ?_, k5⟩
      rw [upd_ne (fun z => ij (hs.dj i hi j hj (by rw [hp, k1, z])))]
      exact k4
theorem fr_chg {F0 H0 F H : Hp} {σ : L2.St} {env : Env} {G : Gx} (hs : SOk G O F H σ env) (hf : Fr F0 H0 O F H σ) {i : Nat} (hi : i ∈ O) {p : Addr} (hp : σ[i]? = some (some (.ref p))) {o : HO} : Fr F0 H0 O F (upd H p o) σ := by
  obtain ⟨p', _, _, h1, h2, h3, h4, _⟩ := hs.own i hi
  rw [hp] at h1
  cases h1
  have hn := hf.own i hi p hp
  exact ⟨⟨hf.gr.ff, hf.gr.hh.upd_ hn, fun b x e => by rw [upd_ne (fun z => by rw [z, h3] at e; cases e)]; exact hs.fh b x e, hf.gr.hid⟩, hf.own⟩
/-- name.append(e) -/
theorem sapp {x : Str} {e : Expr} {a : SE} {p1 apos cpos : Pos} (i : Nat) (he : PE X e (rV (gx X) O a)) (hi : i ∈ O := by decide) (hN : X.N[i]? = some x := by rfl) (hv : Vis X.env.scope x := by first | exact Or.inl rfl | exact Or.inr (Or.inl rfl) | exact Or.inr (Or.inr rfl)) (hd : (x == ("__debug__" : Str)) = false := by decide)
    (hcd : (x == ("__classdict__" : Str)) = false := by decide)
    (hbase : attributeBase (.Name x p1) "append" X.env (eval (.Name x p1) X.env) = eval (.Name x p1) X.env := by rfl)
    (hfew : ((backTo cpos (starEach [e] X.env)).all (fun x => !x.1) && (backToKw cpos (keywordEach [] X.env)).all (fun x => x.1.isSome)
      && decide ([e].length + ([] : List Keyword).length + (if ([] : List Keyword).isEmpty then 0 else 1) < 30)) = true := by rfl)
    (hline : (apos.endLine == cpos.line) = true := by rfl) (hs1 : starEach [e] X.env = (false, eval e X.env) :: starEach [] X.env := by rfl) (hplain : (backTo cpos (starEach [] X.env)).any (·.1) = false := by rfl)
    (hs : swapsWith (.Call (.Attribute (.Name x p1) "append" apos) [e] [] cpos) none pos.line X.env = pure false := by rfl) :
    PS X (.Expr (.Call (.Attribute (.Name x p1) "append" apos) [e] [] cpos) pos) (sV (gx X) R O O Ob (sApp i a)) :=
  (ps_expr (pe_bm PySem.F.plainAttrs_list PySem.F.slot_list_append PySem.F.type_list_append mt_append (pe_var hN hv hd hcd) (pa_cons he pa_nil hs1) hbase hfew hline hs1 hplain) hs).imp fun D σ H ⟨F0, H0, F, env, out, hs, hf, ho, q⟩ => by
    simp only [sApp] at ho
    obtain ⟨d, h1, ho⟩ := bind_some ho
    obtain ⟨p, vs, ds, h2, h3, h4, h5, h6⟩ := hs.own i hi
    rw [show env.getD i none = some (.list ds) by rw [List.getD_eq_getElem?_getD, h3]; rfl] at ho
    simp only at ho
    split at ho
    · rename_i hz
      cases ho
      refine ⟨.ref p, h2, .inl ⟨rfl, vs, .inl (.inl h5)⟩, F, env, d, hs, h1, fun v F1 H1 g1 r1 => ⟨p, vs, v, rfl, rfl, g1.hh.l h5, by rw [h6.length]; exact hz, ?_⟩⟩
      exact q σ F1 _ ((hs.gr g1).chg hi h2 ((h6.mono g1.ff).append (.cons r1 .nil))) (fr_chg (hs.gr g1) (hf.step g1) hi h2) g1.ff
    · cases ho
/-- name.extend(e), e a new list -/
theorem sext {x : Str} {e : Expr} {a : SE} {p1 apos cpos : Pos} (i : Nat) (he : PE X e (rN (gx X) O a)) (hi : i ∈ O := by decide) (hN : X.N[i]? = some x := by rfl) (hv : Vis X.env.scope x := by first | exact Or.inl rfl | exact Or.inr (Or.inl rfl) | exact Or.inr (Or.inr rfl)) (hd : (x == ("__debug__" : Str)) = false := by decide)
    (hcd : (x == ("__classdict__" : Str)) = false := by decide)
    (hbase : attributeBase (.Name x p1) "extend" X.env (eval (.Name x p1) X.env) = eval (.Name x p1) X.env := by rfl)
    (hfew : ((backTo cpos (starEach [e] X.env)).all (fun x => !x.1) && (backToKw cpos (keywordEach [] X.env)).all (fun x => x.1.isSome)
      && decide ([e].length + ([] : List Keyword).length + (if ([] : List Keyword).isEmpty then 0 else 1) < 30)) = true := by rfl)
    (hline : (apos.endLine == cpos.line) = true := by rfl) (hs1 : starEach [e] X.env = (false, eval e X.env) :: starEach [] X.env := by rfl) (hplain : (backTo cpos (starEach [] X.env)).any (·.1) = false := by rfl)
    (hs : swapsWith (.Call (.Attribute (.Name x p1) "extend" apos) [e] [] cpos) none pos.line X.env = pure false := by rfl) :
    PS X (.Expr (.Call (.Attribute (.Name x p1) "extend" apos) [e] [] cpos) pos) (sV (gx X) R O O Ob (sExt i a)) :=
  (ps_expr (pe_bm PySem.F.plainAttrs_list PySem.F.slot_list_extend PySem.F.type_list_extend mt_extend (pe_var hN hv hd hcd) (pa_cons he pa_nil hs1) hbase hfew hline hs1 hplain) hs).imp fun D σ H ⟨F0, H0, F, env, out, hs, hf, ho, q⟩ => by
    simp only [sExt] at ho
    obtain ⟨d, h1, ho⟩ := bind_some ho
    obtain ⟨p, vs, ds, h2, h3, h4, h5, h6⟩ := hs.own i hi
    rw [show env.getD i none = some (.list ds) by rw [List.getD_eq_getElem?_getD, h3]; rfl] at ho
    refine ⟨.ref p, h2, .inl ⟨rfl, vs, .inl (.inl h5)⟩, F, env, d, hs, h1, fun p' us es F1 H1 g1 e1 e2 e3 r1 e4 => ?_⟩
    subst e4
    simp only at ho
    split at ho
    · rename_i hz
      cases ho
      refine ⟨p, p', vs, us, rfl, rfl, g1.hh.l h5, e3, by rw [h6.length, r1.length]; exact hz, ?_⟩
      exact q σ F1 _ ((hs.gr g1).chg hi h2 ((h6.mono g1.ff).append r1)) (fr_chg (hs.gr g1) (hf.step g1) hi h2) g1.ff
    · cases ho
end
end TL

set_option Elab.async false
set_option linter.all false
set_option maxRecDepth 100000
/-! The tree layer: loops, defs. -/
namespace TL
open PySem PySem.Spec PyProof.Rows L2
section
variable {X : Cx} {R : RK} {O O' O'' Ob : List Nat} {st : Stmt} {rest : List Stmt} {pos : Pos}
theorem sfor {tg iter : Expr} {body : List Stmt} {fi : SI} {g : SG} {fb : SS} {sl : List Nat} (hp : PassesOwn (model X.prog X.w) X.A X.env X.xe) (hc : X.calm = true) (hi : PI X tg iter (iV (gx X) O fi)) (hg : PG X tg (tG (gx X) O sl g)) (hb : PSs X body (sV (gx X) R O O O fb)) (hsl : ∀ i ∈ O, i ∉ sl := by decide)
    (hs : ∀ x, foldedSetIterable iter X.env x = pure x := by intro _; rfl) : PS X (.For tg iter body [] pos) (sV (gx X) R O O Ob (sFor fi g fb)) :=
  (ps_for hp hc hi hg hb hs).imp fun D σ H ⟨F0, H0, F, env, out, hs, hf, ho, q⟩ => by
    simp only [sFor] at ho
    obtain ⟨ds, h1, ho⟩ := bind_some ho
    refine ⟨F, env, ds, hs, h1, fun J F1 H1 g1 hz hJ => ?_⟩
    refine ⟨fun i m σ' H' => ∃ F' env', SOk (gx X) O F' H' σ' env' ∧ Fr F0 H0 O F' H' σ' ∧ Same F1 F' ∧ i ≤ ds.length ∧ m = ds.length - i ∧ forGo g fb (ds.drop i) env' = some out,
      ⟨ds.length, F1, env, hs.gr g1, hf.step g1, Same.refl F1, Nat.zero_le _, by omega, ho⟩, ?_⟩
    rintro i m σ' H' ⟨F', env', s', f', k', hi, rfl, hgo⟩
    have hJ' := hJ i F' H' k' s'.fh
    cases hd : ds[i]? with
    | none =>
      have hi' : ds.length ≤ i := List.getElem?_eq_none_iff.mp hd
      rw [List.drop_eq_nil_of_le hi'] at hgo
      cases hgo
      exact .inl ⟨hJ'.2 hd, q σ' F' H' s' f' (g1.ff.trans k')⟩
    | some x =>
      have hi' : i < ds.length := (List.getElem?_eq_some_iff.mp hd).1
      have hx : ds[i] = x := (List.getElem?_eq_some_iff.mp hd).2
      have hdr : ds.drop i = x :: ds.drop (i + 1) := by rw [List.drop_eq_getElem_cons hi', hx]
      rw [hdr] at hgo
      simp only [forGo] at hgo
      obtain ⟨env1, hg1, hgo⟩ := bind_some hgo
      obtain ⟨o, hb1, hgo⟩ := bind_some hgo
      refine .inr ⟨(hJ'.1 x hd).1, fun σ2 H2 => ∃ F2 env2, SOk (gx X) O F2 H2 σ2 env2 ∧ Fr F0 H0 O F2 H2 σ2 ∧ Same F' F2 ∧ forGo g fb (ds.drop (i + 1)) env2 = some out, fun σ2 H2 h => ?_, fun v H2 hy => ?_⟩
      · obtain ⟨F2, env2, s2, f2, k2, hg2⟩ := h
        exact ⟨ds.length - (i + 1), by omega, F2, env2, s2, f2, k'.trans k2, hi', rfl, hg2⟩
      · obtain ⟨rfl, rv⟩ := (hJ'.1 x hd).2 v H2 hy
        refine ⟨F', env', x, env1, s', rv, hg1, fun σ2 s2 ln kp => ⟨F0, H0, F', env1, o, s2, ⟨f'.gr, fun j hj p hp => f'.own j hj p (by rw [← kp j (hsl j hj)]; exact hp)⟩, hb1, ?_⟩⟩
        cases o with
        | nx e => exact fun σ3 F3 H3 s3 f3 k3 => ⟨F3, e, s3, f3, k3, hgo⟩
        | ct e => exact fun σ3 F3 H3 s3 f3 k3 => ⟨F3, e, s3, f3, k3, hgo⟩
        | bk e =>
          cases hgo
          exact fun σ3 F3 H3 s3 f3 k3 => q σ3 F3 H3 s3 f3 ((g1.ff.trans k').trans k3)
        | rt d =>
          cases hgo
          exact q
theorem swhile {c : Expr} {body : List Stmt} {fc : ST} {fb : SS} (fuel : Nat) (hp : PassesOwn (model X.prog X.w) X.A X.env X.xe) (hc : PT X c (rT (gx X) O fc)) (hb : PSs X body (sV (gx X) R O O O fb)) : PS X (.While c body [] pos) (sV (gx X) R O O Ob (sWhile fuel fc fb)) :=
  (ps_while hp hc hb).imp fun D σ H ⟨F0, H0, F, env, out, hs, hf, ho, q⟩ => by
    simp only [sWhile] at ho
    refine ⟨fun m σ' H' => ∃ F' env', SOk (gx X) O F' H' σ' env' ∧ Fr F0 H0 O F' H' σ' ∧ Same F F' ∧ whileGo fc fb m env' = some out, ⟨fuel, F, env, hs, hf, Same.refl F, ho⟩, ?_⟩
    rintro m σ' H' ⟨F', env', s', f', k', hgo⟩
    cases m with
    | zero => cases hgo
    | succ m =>
      simp only [whileGo] at hgo
      obtain ⟨k, h1, hgo⟩ := bind_some hgo
      refine ⟨F', env', k, s', h1, fun F1 H1 g1 => ?_⟩
      cases k with
      | false =>
        rw [if_neg Bool.false_ne_true] at hgo ⊢
        cases hgo
        exact q σ' F1 H1 (s'.gr g1) (f'.step g1) (k'.trans g1.ff)
      | true =>
        rw [if_pos rfl] at hgo ⊢
        obtain ⟨o, hb1, hgo⟩ := bind_some hgo
        refine ⟨fun σ2 H2 => ∃ F2 env2, SOk (gx X) O F2 H2 σ2 env2 ∧ Fr F0 H0 O F2 H2 σ2 ∧ Same F F2 ∧ whileGo fc fb m env2 = some out, fun σ2 H2 h => ⟨m, Nat.lt_succ_self m, h⟩, F0, H0, F1, env', o, s'.gr g1, f'.step g1, hb1, ?_⟩
        have k1 := k'.trans g1.ff
        cases o with
        | nx e => exact fun σ3 F3 H3 s3 f3 k3 => ⟨F3, e, s3, f3, k1.trans k3, hgo⟩
        | ct e => exact fun σ3 F3 H3 s3 f3 k3 => ⟨F3, e, s3, f3, k1.trans k3, hgo⟩
        | bk e =>
          cases hgo
          exact fun σ3 F3 H3 s3 f3 k3 => q σ3 F3 H3 s3 f3 (k1.trans k3)
        | rt d =>
          cases hgo
          exact q
end
/-! ### defs -/
section
variable {P : Program} {w : World} {G : Gx} {base : Heap}
theorem start_ok {N ps : List Str} {vs : List V} {ds : List D} {F H : Hp} (hn : N.length = ps.length + n) (sm : Fz G F H) (r : RpAll G F vs ds) (hl : ds.length = ps.length) : SOk G [] F H (L2.start N vs) (ds.map some ++ List.replicate n none) := by
  have lv := r.length
  refine ⟨sm.sm, ?_, fun i d e _ => ?_, fun i h => (by cases h), fun i h => (by cases h), sm.tb⟩
  · unfold L2.start
    simp only [List.length_append, List.length_map, List.length_replicate]
    omega
  · have hi : i < ds.length := by
      by_cases h : i < ds.length
      · exact h
      · rw [List.getElem?_append_right (by simpa using h), List.getElem?_replicate] at e
        split at e <;> cases e
    rw [List.getElem?_append_left (by simpa using hi), List.getElem?_map] at e
    cases q : ds[i]? with
    | none => rw [q] at e; cases e
    | some d' =>
      rw [q] at e
      cases e
      obtain ⟨v, h1, h2⟩ := r.get q
      refine ⟨v, ?_, h2⟩
      unfold L2.start
      rw [List.getElem?_append_left (by simp; omega), List.getElem?_map, h1]
      rfl
/-- THE RULE for a def whose value is closed -/
theorem fnV {x qual : Str} {st : Stmt} {f : Addr} {fd : FuncData} {N ps : List Str} {k nl : Nat} {body : SS} (Fn : Fun G.K x qual st f fd) (S : FnScope N ps (defScope st)) (hN : N.length = ps.length + nl) {Oe : List Nat}
    (hb : ∀ (cdv : Value) (A : Around) (outer : List PySem.Env) (s : Shared) (H : Hp) (E : XK), Room k (A.deeper (envOfC qual (defScope st) s.heap.objs.size f cdv)) →
      PSs (cxOf CX0 P w G.K G.mg base N qual (defScope st) f cdv A outer s H E).nox (defBody st) (sV G (oV' G) [] Oe [] body)) : FnOk P w G.K G.mg base CX0 (k + 1) f fd ps (spV G ps.length (runF ps.length nl body)) := by
  refine Fn.ok S (fun vs H Q E h => ?_) (fun cdv A outer s H vs Q E hr h => ?_)
  · obtain ⟨F, ds, d, sm, r, hl, _, _⟩ := h
    rw [r.length, hl]
  · obtain ⟨F, ds, d, sm, r, hl, hm, q⟩ := h
    refine ⟨_, hb cdv A outer s H E hr, ?_⟩
    simp only [runF, hl, if_pos rfl] at hm
    obtain ⟨out, h1, h2⟩ := bind_some hm
    refine ⟨F, H, F, _, out, start_ok hN sm r hl, ⟨Gr.refl sm.sm, fun i h => by cases h⟩, h1, ?_⟩
    cases out with
    | nx e =>
      cases h2
      exact fun σ' F' H' s' f' k' => q .non F' H' f'.gr .non
    | rt d' =>
      cases h2
      exact q
    | bk e => cases h2
    | ct e => cases h2
/-- .. a new list -/
theorem fnN {x qual : Str} {st : Stmt} {f : Addr} {fd : FuncData} {N ps : List Str} {k nl : Nat} {body : SS} (Fn : Fun G.K x qual st f fd) (S : FnScope N ps (defScope st)) (hN : N.length = ps.length + nl) {Oe : List Nat}
    (hb : ∀ (cdv : Value) (A : Around) (outer : List PySem.Env) (s : Shared) (H : Hp) (E : XK), Room k (A.deeper (envOfC qual (defScope st) s.heap.objs.size f cdv)) →
      PSs (cxOf CX0 P w G.K G.mg base N qual (defScope st) f cdv A outer s H E).nox (defBody st) (sV G (oN' G) [] Oe [] body)) : FnOk P w G.K G.mg base CX0 (k + 1) f fd ps (spN G ps.length fun ds => nnD (runF ps.length nl body ds)) := by
  refine Fn.ok S (fun vs H Q E h => ?_) (fun cdv A outer s H vs Q E hr h => ?_)
  · obtain ⟨F, ds, d, sm, r, hl, _, _⟩ := h
    rw [r.length, hl]
  · obtain ⟨F, ds, d, sm, r, hl, hm, q⟩ := h
    refine ⟨_, hb cdv A outer s H E hr, ?_⟩
    obtain ⟨d0, hm, hd⟩ := bind_some hm
    simp only [runF, hl, if_pos rfl] at hm
    obtain ⟨out, h1, h2⟩ := bind_some hm
    refine ⟨F, H, F, _, out, start_ok hN sm r hl, ⟨Gr.refl sm.sm, fun i h => by cases h⟩, h1, ?_⟩
    cases out with
    | nx e =>
      cases h2
      cases hd
    | rt d' =>
      cases h2
      have e : d0 = d := by
        cases d0 <;> first | (cases hd; done) | exact Option.some.inj hd
      subst e
      exact q
    | bk e => cases h2
    | ct e => cases h2
end
end TL

set_option Elab.async false
set_option linter.all false
set_option maxRecDepth 100000
/-! The tree layer: two clauses, sorted, the rest. -/
namespace TL
open PySem PySem.Spec PyProof.Rows L2
theorem u0 {k : Nat} {A : Around} (h : Room k A) : A.units < cLine := h.units0
theorem u64 {k : Nat} {A : Around} (h : Room k A) : A.units + 64 < cLine := h.units
theorem u65 {k : Nat} {A : Around} (h : Room k A) : A.units + 65 < cLine := by have := h.un; omega
theorem fnNever {P : Program} {w : World} {K : PySem.W.Frag} {mg : Str → Option Value} {base : Heap} {CX : CXT} {k : Nat} {f : Addr} {fd : FuncData} {ps : List Str} {sp : Sp} (h : ∀ vs H Q E, ¬ sp vs H Q E) : FnOk P w K mg base CX k f fd ps sp :=
  ⟨fun vs H Q E q => absurd q (h vs H Q E), fun _ _ _ H _ _ vs Q E _ _ _ _ q => absurd q (h vs H Q E)⟩
section
variable {X : Cx} {O : List Nat}
theorem lc2_read {G : Gx} {O : List Nat} {fi fi1 : SI} {g g1 : SG} {c c1 : ST} {f : SE} {sl sl1 vs vs1 : List Nat} (hsl : ∀ j ∈ sl, j ∈ vs) (hsl1 : ∀ j ∈ sl1, j ∈ vs1) (hO : ∀ j ∈ vs, j ∉ O) (hO1 : ∀ j ∈ vs1, j ∉ O) {σ : L2.St} {H : Hp} {Q : VK} (h : rN G O (eLc2 vs fi g c vs1 fi1 g1 c1 f) σ H Q) :
    tLc2 (iB G O fi) (tG G O sl g) (rT G O c) (iV G O fi1) (tG G O sl1 g1) (rT G O c1) (rV G O f) vs vs1 σ H Q := by
    obtain ⟨F, env, d, hs, hf, q⟩ := h
    simp only [eLc2] at hf
    obtain ⟨ds, h1, hf⟩ := bind_some hf
    obtain ⟨es, h2, h3⟩ := bind_some hf
    split at h3
    case isFalse => cases h3
    rename_i hlen
    cases h3
    have wipe2 : ∀ (vs ws : List Nat) (τ : L2.St), (∀ j ∈ ws, j ∈ vs) → L2.wipe (L2.wipe τ ws) vs = L2.wipe τ vs := fun vs ws τ h => ext_wipe (sl := ws) (wipe_length _ _) (fun j hj => wipe_out hj) h
    refine ⟨F, env, ds, hs, h1, fun J F1 H1 gr1 hz hJ D0 hD => ?_⟩
    have hs1 := hs.gr gr1
    refine ⟨fun i m H' => ∃ F' acc accD rest, LcI G F1 H1 F' H' D0 acc accD ∧ i ≤ ds.length ∧ m = ds.length - i ∧ lcGo2 g c fi1 vs1 g1 c1 f (wipeE env vs) (ds.drop i) = some rest ∧ es = accD ++ rest,
      ⟨ds.length, F1, [], [], es, ⟨Gr.open_ gr1.fh hD, Same.nn gr1.fh hD, upd_same, .nil⟩, Nat.zero_le _, by omega, h2, rfl⟩, ?_⟩
    rintro i m H' ⟨F', acc, accD, rest, L, l2, rfl, hgo, ees⟩
    have hs' := (hs1.gr L.gr).wipe hO
    have hJ' := hJ i F' H' L.gr.ff L.gr.hh L.gr.fh
    cases hd : ds[i]? with
    | none =>
      have hi : ds.length ≤ i := List.getElem?_eq_none_iff.mp hd
      refine .inl ⟨hJ'.2 hd, ?_⟩
      rw [List.drop_eq_nil_of_le hi] at hgo
      cases hgo
      rw [List.append_nil] at ees
      subst ees
      exact q D0 acc es F' H' (gr1.trans L.gr) (gr1.hh.free hD) L.fr L.at_ L.rp rfl
    | some x =>
      have hi : i < ds.length := (List.getElem?_eq_some_iff.mp hd).1
      have hx : ds[i] = x := (List.getElem?_eq_some_iff.mp hd).2
      have hdr : ds.drop i = x :: ds.drop (i + 1) := by rw [List.drop_eq_getElem_cons hi, hx]
      rw [hdr] at hgo
      simp only [lcGo2] at hgo
      obtain ⟨env1, hg1, hgo⟩ := bind_some hgo
      obtain ⟨b, hc1, hgo⟩ := bind_some hgo
      refine .inr ⟨(hJ'.1 x hd).1, fun H2 => ∃ F' acc accD rest, LcI G F1 H1 F' H2 D0 acc accD ∧ lcGo2 g c fi1 vs1 g1 c1 f (wipeE env vs) (ds.drop (i + 1)) = some rest ∧ es = accD ++ rest, fun H2 h => ?_, fun v H2 hy => ?_⟩
      · obtain ⟨F2, acc2, accD2, rest2, L2, hg2, e2⟩ := h
        exact ⟨ds.length - (i + 1), by omega, F2, acc2, accD2, rest2, L2, hi, rfl, hg2, e2⟩
      · obtain ⟨rfl, rv⟩ := (hJ'.1 x hd).2 v H2 hy
        refine ⟨F', _, x, env1, hs', rv, hg1, fun σ2 s2 ln kp => ⟨ext_wipe ln kp hsl |>.trans (wipe2 _ _ _ fun j h => h), F', env1, b, s2, hc1, fun F3 H3 g3 => ?_⟩⟩
        cases b with
        | false =>
          rw [if_neg Bool.false_ne_true] at hgo ⊢
          exact ⟨F3, acc, accD, rest, L.gr' g3, hgo, ees⟩
        | true =>
          rw [if_pos rfl] at hgo ⊢
          obtain ⟨ds1, hi1, hgo⟩ := bind_some hgo
          obtain ⟨a1, ha1, hgo⟩ := bind_some hgo
          obtain ⟨rest2, hg2, e2⟩ := map_some hgo
          refine ⟨F3, env1, ds1, s2.gr g3, hi1, fun J1 F4 H4 g4 hz1 hJ1 => ?_⟩
          have L4 := (L.gr' g3).gr' g4
          have s4 := (s2.gr g3).gr g4
          -- the frame of the inner loop: all but the list that grows
          refine ⟨fun j k H5 => ∃ F5 acc5 accD5 rest5, LcI G F1 H1 F5 H5 D0 acc5 accD5 ∧ Same F4 F5 ∧ (∀ p o, H4 p = some o → p ≠ D0 → ∃ o', H5 p = some o' ∧ (nt o = true → o' = o)) ∧ (∀ p o, H4 p = some o → F4 p = none → F5 p = none) ∧ j ≤ ds1.length ∧ k = ds1.length - j ∧ lcGo g1 c1 f (wipeE env1 vs1) (ds1.drop j) = some rest5 ∧ es = accD5 ++ (rest5 ++ rest2),
            ⟨ds1.length, F4, acc, accD, a1, L4, Same.refl F4, fun _ _ e _ => ⟨_, e, fun _ => rfl⟩, fun _ _ _ e => e, Nat.zero_le _, by omega, ha1, by rw [ees, ← e2]⟩, ?_⟩
          rintro j k H5 ⟨F5, acc5, accD5, rest5, L5, k5, kh5, kf5, lj, rfl, hgo5, ees5⟩
          have s5 : SOk G O F5 H5 σ2 env1 := by
            refine ⟨L5.gr.fh, s4.len, fun i d e n => ?_, fun i hi => ?_, s4.dj, hs1.tb.gr L5.gr⟩
            · obtain ⟨v, e1, e2⟩ := s4.imm i d e n
              exact ⟨v, e1, e2.mono k5⟩
            · obtain ⟨p, us, es', e1, e2, e3, e4, e5⟩ := s4.own i hi
              have pne : p ≠ D0 := by
                intro z
                obtain ⟨p', _, _, e1', _, _, e4', _⟩ := hs1.own i hi
                have ei : L2.wipe σ vs = L2.wipe σ2 vs := (ext_wipe ln kp hsl |>.trans (wipe2 _ _ _ fun j h => h)).symm
                have w1 : (L2.wipe σ vs)[i]? = σ[i]? := wipe_out fun z => hO i z hi
                have w2 : (L2.wipe σ2 vs)[i]? = σ2[i]? := wipe_out fun z => hO i z hi
                rw [ei, w2, e1] at w1
                rw [e1'] at w1
                cases w1
                rw [z, hD] at e4'
                cases e4'
              obtain ⟨o', k1, k2⟩ := kh5 p _ e4 pne
              have k3 := k2 rfl
              subst k3
              exact ⟨p, us, es', e1, e2, kf5 p _ e4 e3, k1, e5.mono k5⟩
          have s5' := s5.wipe hO1
          have hJ5 := hJ1 j F5 H5 k5 L5.gr.fh
          cases hd1 : ds1[j]? with
          | none =>
            have hj : ds1.length ≤ j := List.getElem?_eq_none_iff.mp hd1
            rw [List.drop_eq_nil_of_le hj] at hgo5
            cases hgo5
            exact .inl ⟨hJ5.2 hd1, F5, acc5, accD5, rest2, L5, hg2, ees5⟩
          | some x1 =>
            have hj : j < ds1.length := (List.getElem?_eq_some_iff.mp hd1).1
            have hx1 : ds1[j] = x1 := (List.getElem?_eq_some_iff.mp hd1).2
            have hdr1 : ds1.drop j = x1 :: ds1.drop (j + 1) := by rw [List.drop_eq_getElem_cons hj, hx1]
            rw [hdr1] at hgo5
            simp only [lcGo] at hgo5
            obtain ⟨env2, hg5, hgo5⟩ := bind_some hgo5
            obtain ⟨b1, hc5, hgo5⟩ := bind_some hgo5
            refine .inr ⟨(hJ5.1 x1 hd1).1, fun H6 => ∃ F5 acc5 accD5 rest5, LcI G F1 H1 F5 H6 D0 acc5 accD5 ∧ Same F4 F5 ∧ (∀ p o, H4 p = some o → p ≠ D0 → ∃ o', H6 p = some o' ∧ (nt o = true → o' = o)) ∧ (∀ p o, H4 p = some o → F4 p = none → F5 p = none) ∧ lcGo g1 c1 f (wipeE env1 vs1) (ds1.drop (j + 1)) = some rest5 ∧ es = accD5 ++ (rest5 ++ rest2), fun H6 h => ?_, fun v1 H6 hy1 => ?_⟩
            · obtain ⟨F6, acc6, accD6, rest6, L6, k6, kh6, kf6, hg6, e6⟩ := h
              exact ⟨ds1.length - (j + 1), by omega, F6, acc6, accD6, rest6, L6, k6, kh6, kf6, hj, rfl, hg6, e6⟩
            · obtain ⟨rfl, rv1⟩ := (hJ5.1 x1 hd1).2 v1 H6 hy1
              refine ⟨F5, _, x1, env2, s5', rv1, hg5, fun σ3 s3 ln3 kp3 => ⟨ext_wipe ln3 kp3 hsl1 |>.trans (wipe2 _ _ _ fun j h => h), F5, env2, b1, s3, hc5, fun F7 H7 g7 => ?_⟩⟩
              have ih7 : ∀ {F8 H8}, Gr F5 H6 F8 H8 → Same F4 F8 ∧ (∀ p o, H4 p = some o → p ≠ D0 → ∃ o', H8 p = some o' ∧ (nt o = true → o' = o)) ∧ (∀ p o, H4 p = some o → F4 p = none → F8 p = none) := fun {F8 H8} g8 => ⟨k5.trans g8.ff, fun p o e n => (by
                obtain ⟨o5, e5, t5⟩ := kh5 p o e n
                obtain ⟨o8, e8, t8⟩ := g8.hh.ex e5
                exact ⟨o8, e8, fun z => by
                  have z5 := t5 z
                  subst z5
                  exact t8 z⟩), fun p o e n => by
                by_cases z : p = D0
                · rw [z]; exact g8.hid _ _ L5.at_ L5.fr
                · obtain ⟨o5, e5, _⟩ := kh5 p o e z
                  exact g8.hid p o5 e5 (kf5 p o e n)⟩
              cases b1 with
              | false =>
                rw [if_neg Bool.false_ne_true] at hgo5
                refine iteF ?_
                obtain ⟨q1, q2, q3⟩ := ih7 g7
                exact ⟨F7, acc5, accD5, rest5, L5.gr' g7, q1, q2, q3, hgo5, ees5⟩
              | true =>
                rw [if_pos rfl] at hgo5
                refine iteT ?_
                obtain ⟨y, he1, hgo5⟩ := bind_some hgo5
                obtain ⟨rest6, hg6, e6⟩ := map_some hgo5
                refine ⟨F7, env2, y, s3.gr g7, he1, fun w F8 H8 g8 r8 => ?_⟩
                have L8 := (L5.gr' g7).gr' g8
                obtain ⟨q1, q2, q3⟩ := ih7 (g7.trans g8)
                refine ⟨acc5, L8.at_, ?_, F8, acc5 ++ [w], accD5 ++ [y], rest6, L8.app hD r8, q1, fun p o e n => by rw [upd_ne n]; exact q2 p o e n, q3, hg6, ?_⟩
                · rw [L8.rp.length]
                  have := hlen
                  rw [ees5, ← e6] at this
                  simp only [List.length_append, List.length_cons] at this
                  omega
                · rw [ees5, ← e6, List.append_assoc]
                  rfl
theorem elc2 {elt tg iter tg1 iter1 : Expr} {ifs ifs1 : List Expr} {scope : Scope} {own : List (Str × Nat)} {vs1 : List Nat} {pos : Pos} {fi fi1 : SI} {g g1 : SG} {c c1 : ST} {f : SE} {sl sl1 : List Nat} (hc : X.calm = true) (hN : X.N.Nodup) (hi : PI X tg iter (iB (gx X) O fi)) (ok : BlkOk X.N X.env.scope scope own) (hv : ∀ i ∈ vs1, i ∈ own.map (·.2))
    (hg : ∀ (s : Shared) (H : Hp) (C : Addr) (cl : List (Str × Addr)) (fp : List Addr), PG (X.blk s H scope (compEnvC scope cl C X.env) fp) tg (tG (gx X) O sl g)) (ht : ∀ (s : Shared) (H : Hp) (C : Addr) (cl : List (Str × Addr)) (fp : List Addr), PTs (X.blk s H scope (compEnvC scope cl C X.env) fp) ifs (rT (gx X) O c))
    (hi1 : ∀ (s : Shared) (H : Hp) (C : Addr) (cl : List (Str × Addr)) (fp : List Addr), PI (X.blk s H scope (compEnvC scope cl C X.env) fp) tg1 iter1 (iV (gx X) O fi1))
    (hg1 : ∀ (s : Shared) (H : Hp) (C : Addr) (cl : List (Str × Addr)) (fp : List Addr), PG (X.blk s H scope (compEnvC scope cl C X.env) fp) tg1 (tG (gx X) O sl1 g1)) (ht1 : ∀ (s : Shared) (H : Hp) (C : Addr) (cl : List (Str × Addr)) (fp : List Addr), PTs (X.blk s H scope (compEnvC scope cl C X.env) fp) ifs1 (rT (gx X) O c1))
    (he : ∀ (s : Shared) (H : Hp) (C : Addr) (cl : List (Str × Addr)) (fp : List Addr), PE (X.blk s H scope (compEnvC scope cl C X.env) fp) elt (rV (gx X) O f)) (hsl : ∀ j ∈ sl, j ∈ own.map (·.2) := by decide) (hsl1 : ∀ j ∈ sl1, j ∈ vs1 := by decide) (hO : ∀ j ∈ own.map (·.2), j ∉ O := by decide) (hO1 : ∀ j ∈ vs1, j ∉ O := by decide)
    (hs : ∀ x, foldedSetIterable iter X.env x = pure x := by intro _; rfl) (hs1 : ∀ env x, foldedSetIterable iter1 env x = pure x := by intro _ _; rfl) :
    PE X (.ListComp elt [⟨tg, iter, ifs, 0⟩, ⟨tg1, iter1, ifs1, 0⟩] scope pos) (rN (gx X) O (eLc2 (own.map (·.2)) fi g c vs1 fi1 g1 c1 f)) :=
  (pe_lc2 hc hN hi ok hv hg ht hi1 hg1 ht1 he hs hs1).imp fun σ H Q h => lc2_read hsl hsl1 hO hO1 h
end
end TL

set_option Elab.async false
set_option linter.all false
set_option maxRecDepth 100000
/-! The tree layer: sorted, reversed cuts. -/
namespace TL
open PySem PySem.Spec PyProof.Rows L2
section
variable {X : Cx}
theorem prs_get : ∀ {ds : List D} {ps : List (Int × Int)}, prsOf ds = some ps → ds = ps.map prD
  | [], ps, h => by cases h; rfl
  | .tuple [.int i, .int j] :: r, ps, h => by
    simp only [prsOf] at h
    obtain ⟨qs, h1, h2⟩ := map_some h
    subst h2
    rw [prs_get h1]
    rfl
  | .none :: _, _, h => by cases h
  | .bool _ :: _, _, h => by cases h
  | .int _ :: _, _, h => by cases h
  | .str _ :: _, _, h => by cases h
  | .list _ :: _, _, h => by cases h
  | .dict _ :: _, _, h => by cases h
  | .tuple [] :: _, _, h => by cases h
  | .tuple [_] :: _, _, h => by simp [prsOf] at h
  | .tuple (_ :: _ :: _ :: _) :: _, _, h => by simp [prsOf] at h
  | .tuple [.none, _] :: _, _, h => by simp [prsOf] at h
  | .tuple [.bool _, _] :: _, _, h => by simp [prsOf] at h
  | .tuple [.str _, _] :: _, _, h => by simp [prsOf] at h
  | .tuple [.list _, _] :: _, _, h => by simp [prsOf] at h
  | .tuple [.tuple _, _] :: _, _, h => by simp [prsOf] at h
  | .tuple [.dict _, _] :: _, _, h => by simp [prsOf] at h
  | .tuple [.int _, .none] :: _, _, h => by simp [prsOf] at h
  | .tuple [.int _, .bool _] :: _, _, h => by simp [prsOf] at h
  | .tuple [.int _, .str _] :: _, _, h => by simp [prsOf] at h
  | .tuple [.int _, .list _] :: _, _, h => by simp [prsOf] at h
  | .tuple [.int _, .tuple _] :: _, _, h => by simp [prsOf] at h
  | .tuple [.int _, .dict _] :: _, _, h => by simp [prsOf] at h
theorem ints_get : ∀ {ds : List D} {ns : List Int}, intsOf ds = some ns → ds = ns.map .int
  | [], ps, h => by cases h; rfl
  | .int i :: r, ps, h => by
    simp only [intsOf] at h
    obtain ⟨qs, h1, h2⟩ := map_some h
    subst h2
    rw [ints_get h1]
    rfl
  | .none :: _, _, h => by cases h
  | .bool _ :: _, _, h => by cases h
  | .str _ :: _, _, h => by cases h
  | .list _ :: _, _, h => by cases h
  | .tuple _ :: _, _, h => by cases h
  | .dict _ :: _, _, h => by cases h
/-- the pair that lies at a value, read off the heap -/
def kOf (h : Heap) : Value → Int × Int
  | .ref a => match h.get? a with
    | some o => match o.data with
      | .seq its _ => match its.toList with
        | [.int i _, .int j _] => (i, j)
        | _ => (0, 0)
      | _ => (0, 0)
    | none => (0, 0)
  | _ => (0, 0)
/-- the values of pairs -/
theorem prs_vals {pins : List (Addr × Obj)} {s : Shared} {σ : L2.St} {F H : Hp} (I : Inv X pins σ H s) (sm : Same F H) : ∀ {ps : List (Int × Int)} {vs : List V} {its : List Value}, RpAll (gx X) F vs (ps.map prD) → Vals vs its →
    its.map (kOf s.heap) = ps ∧ (∀ v ∈ its, Srt.IsPair s.heap v (kOf s.heap v).1 (kOf s.heap v).2) ∧ ∀ u ∈ its, ∃ v, RelV v u ∧ Rp (gx X) F v (prD (kOf s.heap u))
  | [], _, _, .nil, .nil => ⟨rfl, fun _ h => (by cases h), fun _ h => (by cases h)⟩
  | p :: ps, _, _, .cons h r, .cons rv rr => by
    obtain ⟨h1, h2, h3⟩ := prs_vals I sm r rr
    cases h with
    | @tup a xs _ hs ha =>
      cases rv
      obtain ⟨its2, r2, ⟨o, ho, hc, n, hd⟩, _⟩ := I.tuple (sameT sm hs)
      cases ha with
      | cons e1 ha =>
        cases ha with
        | cons e2 ha =>
          cases ha
          cases e1
          cases e2
          obtain ⟨u1, u2, rfl, ri, rj⟩ := vals2 r2
          obtain ⟨t1, rfl⟩ := ri
          obtain ⟨t2, rfl⟩ := rj
          have ek : kOf s.heap (.ref a) = p := by
            unfold kOf
            simp only [ho, hd]
          refine ⟨by rw [List.map_cons, ek, h1], fun v hv => ?_, fun u hu => ?_⟩
          · rcases List.mem_cons.mp hv with rfl | hv
            · rw [ek]
              exact ⟨a, o, t1, t2, n, rfl, ho, hc, hd⟩
            · exact h2 v hv
          · rcases List.mem_cons.mp hu with rfl | hu
            · rw [ek]
              exact ⟨.ref a, rfl, .tup hs (.cons (.int _) (.cons (.int _) .nil))⟩
            · exact h3 u hu
end
namespace SX
open SrtO
section
variable {prog : Program} {w : World} {A : Around} {E : Value → Shared → Prop} {s : Shared}
theorem collect_seq {l : Addr} {vs : List Value} {Q : List Value → Shared → Prop} {T : String} (hT : T = "list" ∨ T = "tuple") {o : Obj} {n : Nat} (ho : s.heap.get? l = some o) (hc : o.cls = .type T) (hd : o.data = .seq vs.toArray n)
    (h : Q vs { s with heap := (s.heap.push (seqObj "list" #[] 0)).update s.heap.objs.size (Obj.mapSeq (· ++ vs.toArray)) }) (hsz : vs.length ≤ sizeLine) :
    wpAny (model prog w) A (collect (.ref l)) Q E s := by
  unfold collect
  refine wpAny_bind (wpAny_runValue (codeAny_builtin entry_proto_collect' ?_))
  show wpAny _ _ (do again (.builtin "list.__iadd__" ⟨[← newList [], .ref l], []⟩)) _ _ s
  refine wpAny_bind (wpAny_newList (wpAny_pure ⟨Code.quiet_builtin _ (by decide +kernel), codeAny_builtin entry_list_iadd' ?_⟩))
  show wpAny _ _ (Builtin.List.listExtendWith (.ref s.heap.objs.size) (.ref l) (.ref s.heap.objs.size)) _ _ { s with heap := s.heap.push (seqObj "list" #[] 0) }
  unfold Builtin.List.listExtendWith
  have ho' : (s.heap.push (seqObj "list" #[] 0)).get? l = some o := Heap.get?_push_of_some _ ho
  refine wpAny_bind (wpAny_typeOf (T := T) ⟨o, ho', hc⟩ ?_)
  have ht : ((Value.type T == Value.type "list") || (Value.type T == Value.type "tuple")) = true := by
    rcases hT with rfl | rfl <;> rfl
  rw [if_pos (by rw [Bool.or_assoc, ht, Bool.or_true])]
  refine wpAny_bind (listItems_at ho' hd ?_)
  refine wpAny_bind (listItems_at (xs := #[]) (n := 0) (Heap.get?_push_size _ rfl) rfl ?_)
  rw [if_neg (by simp)]
  refine wpAny_bind (listUpdate_at (xs := #[]) (n := 0) (Heap.get?_push_size _ rfl) rfl ?_ (Nat.zero_le _) (by show (#[] ++ vs.toArray).size ≤ sizeLine + 1; simp only [Array.size_append, List.size_toArray, List.length_nil]; omega))
  refine wpAny_pure ?_
  show wpAny (model prog w) A (do
      let o ← load s.heap.objs.size
      match o.data with
      | .seq xs _ => pure xs.toList
      | _ => unsupported "internal:collect") Q E { s with heap := (s.heap.push (seqObj "list" #[] 0)).update s.heap.objs.size (Obj.mapSeq (· ++ vs.toArray)) }
  refine wpAny_bind (wpAny_load (get?_update_seq (Heap.get?_push_size _ rfl) _) ?_)
  show wpAny _ _ (pure ((#[] : Array Value) ++ vs.toArray).toList) Q E _
  rw [show ((#[] : Array Value) ++ vs.toArray).toList = vs by simp]
  exact wpAny_pure h
theorem sorted_seq {l : Addr} {vs : List Value} {ltv : Value → Value → Bool} {Q : Value → Shared → Prop} (O : Swo ltv) {T : String} (hT : T = "list" ∨ T = "tuple") {o : Obj} {n : Nat} (ho : s.heap.get? l = some o) (hc : o.cls = .type T) (hd : o.data = .seq vs.toArray n) (hz : vs.length ≤ sizeLine)
    (hS : 2 ≤ vs.length → ∀ (h₁ : Heap) (a : Addr), h₁.get? a = some (seqObj "list" vs.toArray 0) → (∀ b o, s.heap.get? b = some o → b ≠ a ∧ h₁.get? b = some o) → SortableO prog w A.in1.in1 { s with heap := h₁ } a vs ltv)
    (h : ∀ out : List Value, Srtd ltv out → Stb ltv out vs → Q (.ref (s.heap.objs.size + 1)) { s with heap := sortedAll s.heap vs out.toArray }) :
    wpAny (model prog w) A (call (.builtin "sorted") [.ref l]) Q E s := by
  refine Calls.call_function_entry kind_sorted plain_sorted entry_sorted (args_sorted1 _) ?_
  unfold Builtin.«sorted»
  refine wpAny_bind (m := checkCount "sorted" 1 1 _) (wpAny_pure ?_)
  refine wpAny_bind (collect_seq hT ho hc hd ?_ hz)
  refine wpAny_bind (wpAny_newList ?_ hz)
  have hsz : ((s.heap.push (seqObj "list" #[] 0)).update s.heap.objs.size (Obj.mapSeq (· ++ vs.toArray))).objs.size = s.heap.objs.size + 1 := by
    rw [Heap.size_update, size_push']
  have hoL : (((s.heap.push (seqObj "list" #[] 0)).update s.heap.objs.size (Obj.mapSeq (· ++ vs.toArray))).push (seqObj "list" vs.toArray 0)).get? (s.heap.objs.size + 1) = some (seqObj "list" vs.toArray 0) := by
    rw [← hsz]; exact Heap.get?_push_size _ rfl
  have keep : ∀ b o, s.heap.get? b = some o → b ≠ s.heap.objs.size + 1 ∧ (((s.heap.push (seqObj "list" #[] 0)).update s.heap.objs.size (Obj.mapSeq (· ++ vs.toArray))).push (seqObj "list" vs.toArray 0)).get? b = some o := fun b o q => by
    have hlt : b < s.heap.objs.size := Heap.lt_size q
    refine ⟨Nat.ne_of_lt (Nat.lt_succ_of_lt hlt), Heap.get?_push_of_some _ ?_⟩
    rw [Heap.get?_update_ne _ _ _ _ (Nat.ne_of_lt hlt)]
    exact Heap.get?_push_of_some _ q
  show wpAny _ _ _ _ _ { s with heap := ((s.heap.push (seqObj "list" #[] 0)).update s.heap.objs.size (Obj.mapSeq (· ++ vs.toArray))).push (seqObj "list" vs.toArray 0) }
  rw [hsz]
  refine wpAny_bind (wpAny_holding (wpAny_call_entry slot_list_sort ⟨_, hoL, rfl⟩ entry_list_sort (list_sort_ord O hoL hz (fun h2 => hS h2 _ _ hoL keep) fun out hs hb => ⟨_, rfl, ?_⟩) (args_list_sort _)))
  exact wpAny_pure ⟨_, rfl, h out hs hb⟩
end
end SX
section
variable {X : Cx}
theorem sorted_core {pins : List (Addr × Obj)} {s : Shared} {σ : L2.St} {F H : Hp} {p : Addr} {vs : List V} {its : List Value} {ds es : List D} {Q : VK} {T : String} {o : Obj} {n : Nat} (I : Inv X pins σ H s) (sm : Same F H) (hT : T = "list" ∨ T = "tuple") (ho : s.heap.get? p = some o) (hc : o.cls = .type T) (hd : o.data = .seq its.toArray n)
    (rv : Vals vs its) (hz : vs.length ≤ sizeLine) (r' : RpAll (gx X) F vs ds) (hs : sortL ds = some es) (q : kN (gx X) F H (.list es) Q) : wpAny (model X.prog X.w) X.A (call (.builtin "sorted") [.ref p]) (EP X pins σ Q) X.xe s := by
  unfold sortL at hs
  cases hi : intsOf ds with
  | some ns =>
    rw [hi] at hs
    cases hs
    have hv := r'.ints hi
    subst hv
    have hI := rv.ints
    refine SX.sorted_seq SrtO.swo_int hT ho hc hd (by rw [← rv.length]; exact hz) (fun h2 h₁ a' _ _ => SrtO.ints_sortable hI h2) fun out h1 h2 => ?_
    obtain ⟨k1, k2, k3⟩ := SrtO.ints_out hI h1 h2
    obtain ⟨ep, he'⟩ := PyProof.Rows.sortedAll_at s.heap its out.toArray
    have hlen : ((out.map SrtO.iv).map V.int).length ≤ sizeLine := by
      rw [List.length_map, k2.length_eq]
      rw [List.length_map] at hz
      exact hz
    have e : out.map SrtO.iv = isort ltI ns := asc_uniq antiI (k2.trans (isort_perm ns).symm) (k3.imp fun h => decide_eq_false (by omega)) (isort_asc swoI ns)
    have rr : ∀ l : List Int, RpAll (gx X) F (l.map V.int) (l.map .int) := by
      intro l
      induction l with
      | nil => exact .nil
      | cons i l ih => exact .cons (.int i) ih
    refine ⟨.ref _, upd H (s.heap.objs.size + 1) (.lst ((out.map SrtO.iv).map V.int)), I.laid (t' := s.toks) (fun _ _ => PyProof.Rows.sortedAll_old) (Nat.le_succ _) ⟨hlen, out, ep, vals_of_ints k1, he'⟩, rfl, ?_⟩
    exact q.newL sm (by rw [e]; exact rr _) (I.hok.fresh (Nat.le_succ _))
  | none =>
    rw [hi] at hs
    obtain ⟨ps, h3, h4⟩ := map_some hs
    subst h4
    have ed := prs_get h3
    subst ed
    obtain ⟨k1, k2, k3⟩ := prs_vals I sm r' rv
    refine SX.sorted_seq (SrtO.swo_lex (kOf s.heap)) hT ho hc hd (by rw [← rv.length]; exact hz) (fun h2 h₁ a ha kk => ?_) fun out h1 h2 => ?_
    · refine SrtO.pairs_sortableO (s := { s with heap := h₁ }) (by omega) (fun v hm => (k2 v hm).keeps fun b o e _ => (kk b o e).2) fun o e => ?_
      have e' : some o = some (seqObj "list" its.toArray 0) := e.symm.trans ha
      cases e'
      intro c
      exact absurd (Value.type.inj c) (by decide)
    · have hmem : ∀ u ∈ out, u ∈ its := fun u hu => h2.perm.mem_iff.mp hu
      have rel : ∀ l : List Value, (∀ u ∈ l, u ∈ its) → ∃ ws, Vals ws l ∧ RpAll (gx X) F ws ((l.map (kOf s.heap)).map prD) := by
        intro l
        induction l with
        | nil => exact fun _ => ⟨[], .nil, .nil⟩
        | cons u l ih =>
          intro hu
          obtain ⟨ws, w1, w2⟩ := ih fun v hv => hu v (List.mem_cons_of_mem _ hv)
          obtain ⟨v, v1, v2⟩ := k3 u (hu u List.mem_cons_self)
          exact ⟨v :: ws, .cons v1 w1, .cons v2 w2⟩
      obtain ⟨ws, w1, w2⟩ := rel out hmem
      have e : out.map (kOf s.heap) = isort ltPr ps := by
        refine asc_uniq antiP ?_ ?_ (isort_asc swoP ps)
        · have := h2.perm.map (kOf s.heap)
          rw [k1] at this
          exact this.trans (isort_perm ps).symm
        · exact List.pairwise_map.mpr (h1.imp fun h => h)
      rw [e] at w2
      obtain ⟨ep, he'⟩ := PyProof.Rows.sortedAll_at s.heap its out.toArray
      refine ⟨.ref _, upd H (s.heap.objs.size + 1) (.lst ws), I.laid (t' := s.toks) (fun _ _ => PyProof.Rows.sortedAll_old) (Nat.le_succ _) ⟨?_, out, ep, w1, he'⟩, rfl, q.newL sm w2 (I.hok.fresh (Nat.le_succ _))⟩
      rw [w1.length, h2.perm.length_eq, ← rv.length]
      exact hz
theorem c_sorted : CalN X (.builtin "sorted") sortedD := by
  intro pins s σ H xs us Q I r h
  obtain ⟨F, x, dx, d, rfl, sm, bx, hd, q⟩ := h
  cases dx with
  | list ds =>
    obtain ⟨p, vs, rfl, hl, r'⟩ := bx.lst sm
    obtain ⟨es, h1, h2⟩ := map_some hd
    subst h2
    obtain ⟨its, rv, hL, hz⟩ := I.list hl
    obtain ⟨o, ho, hc, n, hd'⟩ := hL.isList
    rw [Vals.ref1 r]
    exact sorted_core I sm (.inl rfl) ho hc hd' rv hz r' h1 q
  | tuple ds =>
    obtain ⟨p, vs, rfl, _, hl, r'⟩ := bx.tup sm
    obtain ⟨es, h1, h2⟩ := map_some hd
    subst h2
    obtain ⟨its, rv, hT, hz⟩ := I.tuple hl
    obtain ⟨o, ho, hc, n, hd'⟩ := hT
    rw [Vals.ref1 r]
    exact sorted_core I sm (.inr rfl) ho hc hd' rv hz r' h1 q
  | _ => cases hd
/-! ### t[::-1] -/
theorem sliceApplied_rev {prog : Program} {w : World} {A : Around} {E : Value → Shared → Prop} {s : Shared} {sl : Addr} {t : Tok} {n : Nat} {Q : Int × Int × Nat → Shared → Prop} (hs : s.heap.IsSliceOf sl .none .none (.int (-1) t))
    (h : Q ((n : Int) - 1, -1, n) s) : wpAny (model prog w) A (Builtin.Slice.sliceApplied (.ref sl) (pure (n : Int))) Q E s := by
  obtain ⟨os, hos, hcs, hds⟩ := id hs
  unfold Builtin.Slice.sliceApplied Builtin.Slice.sliceFields
  refine wpAny_bind (wpAny_bind (wpAny_field hos hds (x := .none) rfl (wpAny_bind (wpAny_field hos hds (x := .none) rfl (wpAny_bind (wpAny_field hos hds (x := .int (-1) t) rfl (wpAny_pure ?_)))))))
  refine wpAny_bind (HT.slicePart_ (.int (-1) t) ?_)
  show wpAny _ _ (if ((-1 : Int) == 0) = true then _ else _) _ _ s
  rw [if_neg (by decide)]
  refine wpAny_bind (HT.slicePart_ .none (wpAny_bind (HT.slicePart_ .none (wpAny_bind (wpAny_pure ?_)))))
  show wpAny _ _ (match Builtin.Slice.sliceAdjust none none (-1) (n : Int) with | (lo, hi) => pure (lo, (-1 : Int), Builtin.Slice.slicePlaces lo hi (-1))) _ _ s
  have e1 : Builtin.Slice.sliceAdjust none none (-1) (n : Int) = ((n : Int) - 1, -1) := by
    unfold Builtin.Slice.sliceAdjust
    simp
  rw [e1]
  have e2 : Builtin.Slice.slicePlaces ((n : Int) - 1) (-1) (-1) = n := by
    unfold Builtin.Slice.slicePlaces
    simp
    omega
  show wpAny _ _ (pure ((n : Int) - 1, (-1 : Int), Builtin.Slice.slicePlaces ((n : Int) - 1) (-1) (-1))) _ _ s
  rw [e2]
  exact wpAny_pure h
theorem rev_pick (xs : Array Value) : ((List.range xs.size).filterMap fun (m : Nat) => xs[(((xs.size : Int) - 1) + (m : Int) * (-1)).toNat]?).toArray = xs.toList.reverse.toArray := by
  congr 1
  refine List.ext_getElem? fun i => ?_
  have e : ((List.range xs.size).filterMap fun (m : Nat) => xs[(((xs.size : Int) - 1) + (m : Int) * (-1)).toNat]?) = (List.range xs.size).map fun m => xs.toList.getD (xs.size - 1 - m) .none := by
    have go : ∀ n, n ≤ xs.size → ((List.range n).filterMap fun (m : Nat) => xs[(((xs.size : Int) - 1) + (m : Int) * (-1)).toNat]?) = (List.range n).map fun m => xs.toList.getD (xs.size - 1 - m) .none := by
      intro n
      induction n with
      | zero => intro _; rfl
      | succ n ih =>
        intro hn
        rw [List.range_succ, List.filterMap_append, List.map_append, ih (by omega)]
        congr 1
        have e1 : (((xs.size : Int) - 1) + (n : Int) * (-1)).toNat = xs.size - 1 - n := by omega
        have h2 : xs.size - 1 - n < xs.size := by omega
        simp only [List.filterMap_cons, List.filterMap_nil, e1]
        simp [h2]
    exact go _ (Nat.le_refl _)
  rw [e, List.getElem?_map]
  by_cases h : i < xs.size
  · rw [List.getElem?_range h, List.getElem?_reverse (by simpa using h)]
    have h2 : xs.size - 1 - i < xs.size := by omega
    simp [h2]
  · rw [List.getElem?_eq_none (by simpa using h), List.getElem?_eq_none (by simpa using h)]
    rfl
theorem getItem_tuple_rev {prog : Program} {w : World} {A : Around} {E : Value → Shared → Prop} {s : Shared} {t sl : Addr} {items : Array Value} {tk : Tok} {Q : Value → Shared → Prop} (ht : IsTup s.heap t items) (hs : s.heap.IsSliceOf sl .none .none (.int (-1) tk))
    (h : Q (.ref s.heap.objs.size) { s with heap := s.heap.push { cls := .type "tuple", data := .seq items.toList.reverse.toArray } }) (hsz : items.size ≤ sizeLine) : wpAny (model prog w) A (getItem (.ref t) (.ref sl)) Q E s := by
  have htake : sizeOk (.seq items.toList.reverse.toArray) := by
    show items.toList.reverse.toArray.size ≤ sizeLine
    rw [List.size_toArray, List.length_reverse, Array.length_toList]
    exact hsz
  obtain ⟨os, hos, hcs, hds⟩ := id hs
  have hTs : s.TypeIs (.ref sl) "slice" := ⟨os, hos, hcs⟩
  unfold getItem
  try with_reducible refine wpAny_holding ?_
  first | refine wpAny_bind (wpAny_pure ?_) | skip
  refine wpAny_bind (wpAny_sequenceKey ht.typeIs (by decide) ?_)
  refine wpAny_bind (wpAny_callSpecial?_slot (name := Str.ofString "__getitem__") ht.typeIs PyProof.Rows.slot_tuple_getitem
    (wpAny_call_entry PyProof.Rows.slot_tuple_getitem ht.typeIs entry_tuple_getitem ?_ (args_tuple_getitem _ _)))
  show wpAny _ _ (Builtin.Tuple.tupleItemsOf (.ref t) >>= _) _ _ s
  refine wpAny_bind (tupleItemsOf_ ht ?_)
  refine wpAny_bind (wpAny_typeOf hTs ?_)
  rw [if_pos (by decide)]
  refine wpAny_bind (sliceApplied_rev hs ?_)
  have hno : ¬ ((((items.size : Int) - 1) == 0 && (-1 : Int) == 1 && items.size == items.size) = true) := by
    intro q
    rw [Bool.and_eq_true, Bool.and_eq_true] at q
    exact absurd q.1.2 (by decide)
  show wpAny _ _ (if (((items.size : Int) - 1) == 0 && (-1 : Int) == 1 && items.size == items.size) = true then _ else _) _ _ s
  rw [if_neg hno, rev_pick]
  first
    | exact wpAny_bind (m := Builtin.Tuple.tupleExact _) (wpAny_newObj_type (wpAny_pure ⟨_, rfl, wpAny_pure h⟩) htake)
    | exact wpAny_bind (m := Builtin.Tuple.tupleExact _) (wpAny_newObj_type (wpAny_bind (wpAny_pure (wpAny_pure ⟨_, rfl, wpAny_pure h⟩))) htake)
    | exact wpAny_bind (wpAny_bind (m := Builtin.Tuple.tupleExact _) (wpAny_newObj_type (wpAny_pure (wpAny_pure ⟨_, rfl, wpAny_pure h⟩)) htake))
    | exact wpAny_bind (wpAny_bind (m := Builtin.Tuple.tupleExact _) (wpAny_newObj_type (wpAny_pure ⟨_, rfl, wpAny_pure h⟩) htake))
def tRevT (K : PySem.W.Frag) (te : TE) : TE := fun σ H Q => te σ H fun x H1 => ∃ a xs, x = .ref a ∧ SqT K H1 a xs ∧ ∀ p, H1 p = none → Q (.ref p) (upd H1 p (.tup xs.reverse))
theorem pe_revT {e : Expr} {te : TE} {k : Nat} {p1 p2 p3 pos : Pos} (he : PE X e te) : PE X (.Subscript e (.Slice none none (some (.UnaryOp .USub (.Constant (.int 1) k p1) p2)) p3) pos) (tRevT X.K te) := by
  refine ⟨fun pins s σ H Q I h => ?_⟩
  refine Subscript_ (thn (he.run pins s σ H _ I h) fun v s1 ⟨x, H1, I1, r1, q1⟩ => ?_)
  obtain ⟨a, xs, ex, hx, q⟩ := q1
  subst ex
  cases r1
  have hst : PO X (some (.UnaryOp .USub (.Constant (.int 1) k p1) p2)) (tPart (tUn (rU fun i => .int (-i)) (tC (.int 1)))) := po_some (pe_un un_neg pe_int)
  refine wpAny_Slice (thn (po_none.run pins s1 σ H1 (fun o H2 => o = none ∧ H2 = H1) I1 ⟨rfl, rfl⟩) fun vl s2 ⟨l, H2, I2, pl, el, e2⟩ => ?_)
  subst el e2
  refine thn (po_none.run pins s2 σ H2 (fun o H3 => o = none ∧ H3 = H2) I2 ⟨rfl, rfl⟩) fun vu s3 ⟨u, H3, I3, pu, eu, e3⟩ => ?_
  subst eu e3
  refine thn (hst.run pins s3 σ H3 (fun o H4 => o = some (-1) ∧ H4 = H3) I3 ⟨1, rfl, -1, rfl, rfl, rfl⟩) fun vs s4 ⟨o, H4, I4, ps, eo, e4⟩ => ?_
  subst eo e4
  have I5 : Inv X pins σ H4 { s4 with heap := s4.heap.push { cls := .type "slice", data := .fields #[vl, vu, vs] } } := I4.kept (t' := s4.toks) fun b ob q => Heap.get?_push_of_some _ q
  obtain ⟨its, r, ht, hz⟩ := I5.tuple hx
  have hlen := r.length
  cases pl
  cases pu
  cases ps
  show wpAny (model X.prog X.w) X.A (subscriptTail e (.Slice none none (some (.UnaryOp .USub (.Constant (.int 1) k p1) p2)) p3) (.ref a) (.ref s4.heap.objs.size)) (EP X pins σ Q) X.xe _
  refine tail_any (ops := [.ref a, .ref s4.heap.objs.size]) ht.typeIs (PyProof.Rows.slot_tuple_getitem.lookup) ?_ (by with_unfolding_all rfl)
  refine getItem_tuple_rev ht (Heap.IsSliceOf.new _ _ _ _) ?_ (by rw [List.size_toArray]; omega)
  refine ⟨.ref _, _, I5.laid (t' := s4.toks) (o := .tup xs.reverse) (fun b ob q => Heap.get?_push_of_some _ q) (Nat.le_refl _) ?_, rfl, q _ (I5.hok.fresh (Nat.le_refl _))⟩
  exact ⟨by rw [List.length_reverse]; exact hz, its.reverse, r.reverse, ⟨_, Heap.get?_push_size _ rfl, rfl, _, rfl⟩⟩
/-- e[::-1] of a list or a tuple -/
theorem _root_.L2.PE.or {t t' : TE} {e : Expr} (h : PE X e t) (h' : PE X e t') : PE X e fun σ H Q => t σ H Q ∨ t' σ H Q := ⟨fun pins s σ H Q I q => q.elim (h.run pins s σ H Q I) (h'.run pins s σ H Q I)⟩
theorem erev {e : Expr} {O : List Nat} {f : SE} {k : Nat} {p1 p2 p3 pos : Pos} (ha : PE X e (rB (gx X) O f)) : PE X (.Subscript e (.Slice none none (some (.UnaryOp .USub (.Constant (.int 1) k p1) p2)) p3) pos) (rV (gx X) O (e1 revD f)) :=
  ((pe_revL ha).or (pe_revT ha)).imp fun σ H Q ⟨F, env, d, hs, hf, q⟩ => by
    obtain ⟨x, h1, h3⟩ := split1 hf
    cases x with
    | list ds =>
      refine .inl ⟨F, env, _, hs, h1, fun v F1 H1 g1 r1 => ?_⟩
      obtain ⟨p, vs, rfl, hl, r⟩ := r1.lst g1.fh
      cases h3
      exact ⟨p, vs, rfl, hl, fun a ha => (q.gr g1).n.newL g1.fh r.reverse ha⟩
    | tuple ds =>
      refine .inr ⟨F, env, _, hs, h1, fun v F1 H1 g1 r1 => ?_⟩
      obtain ⟨p, vs, rfl, hf, hl, r⟩ := r1.tup g1.fh
      cases h3
      exact ⟨p, vs, rfl, hl, fun a ha => (q.gr g1).newT g1.fh r.reverse ha⟩
    | _ => cases h3
/-! ### op= -/
theorem o_iadd : OpV X (inplaceOp .Add) (fun a b => match a, b with | .int i, .int j => some (.int (i + j)) | .str i, .str j => addD (.str i) (.str j) | _, _ => none) := by
  intro pins s σ H x y v u Q I rx ry h
  obtain ⟨F, dx, dy, d, sm, bx, by_, hd, q⟩ := h
  cases dx <;> cases dy <;> first | (cases hd; done) | skip
  · have e1 := bx.int
    have e2 := by_.int
    subst e1 e2
    cases hd
    exact iop_add pins s σ H _ _ v u Q I rx ry ⟨_, _, rfl, rfl, q.same sm (.int _)⟩
  · have e1 := bx.str
    have e2 := by_.str
    subst e1 e2
    simp only [addD] at hd
    split at hd
    · cases hd
      exact iop_add_str pins s σ H _ _ v u Q I rx ry ⟨_, _, rfl, rfl, by assumption, q.same sm (.str _)⟩
    · cases hd
end
end TL

set_option Elab.async false
set_option linter.all false
set_option maxRecDepth 100000
/-! The tree layer: list(range(n)), and name = name + (other.pop(e),). -/
namespace TL
open PySem PySem.Spec PyProof.Rows L2
@[simp] def eRngL (a : SE) : SE := fun env => (a env).bind fun x => (toI x).bind fun n => (rangeD 0 n).map .list
def popD (ds : List D) (i : Int) : Option (D × List D) := if Nat.ble i.natAbs 1000000000 = true then (seqIndex? i ds.length).bind fun k => ds[k]?.map fun d => (d, ds.eraseIdx k) else none
@[simp] def sPopAdd (i j : Nat) (a : SE) : SS := fun env => match env.getD i none, env.getD j none with
  | some (.tuple ds), some (.list es) => (a env).bind fun y => (toI y).bind fun k => (popD es k).bind fun z => if ds.length + 1 ≤ sizeLine then some (.nx ((env.set j (some (.list z.2))).set i (some (.tuple (ds ++ [z.1]))))) else none
  | _, _ => none
section
variable {X : Cx} {R : RK} {O Ob : List Nat} {e : Expr} {pos p p2 pos2 : Pos} {f : SE}
theorem rgL_all {G : Gx} {F : Hp} : ∀ (n : Nat) (lo : Int), RpAll G F ((List.range n).map fun (i : Nat) => V.int (lo + i)) (rangeL lo n)
  | 0, lo => .nil
  | n + 1, lo => by
    rw [List.range_succ_eq_map, List.map_cons, List.map_map]
    refine .cons (by rw [show lo + ((0 : Nat) : Int) = lo by omega]; exact .int lo) ?_
    have := rgL_all (G := G) (F := F) n (lo + 1)
    have e : ((fun (i : Nat) => V.int (lo + i)) ∘ Nat.succ) = fun (i : Nat) => V.int (lo + 1 + i) := by
      funext i
      simp only [Function.comp]
      congr 1
      omega
    rw [e]
    exact this
theorem erngL (hc : X.calm = true) (hg : Gl X "list") (hm : X.mg "list" = none) (hg2 : Gl X "range") (hm2 : X.mg "range" = none) (ha : PE X e (rV (gx X) O f)) (na : starEach [e] X.env = (false, eval e X.env) :: starEach [] X.env := by rfl)
    (na2 : starEach [.Call (.Name "range" p2) [e] [] pos2] X.env = (false, eval (.Call (.Name "range" p2) [e] [] pos2) X.env) :: starEach [] X.env := by rfl) : PE X (.Call (.Name "list" p) [.Call (.Name "range" p2) [e] [] pos2] [] pos) (rN (gx X) O (eRngL f)) :=
  (pe_listRg hc hg hm (prg_1 hg2 hm2 ha na) na2).imp fun σ H Q ⟨F, env, d, hs, hf, q⟩ => by
    simp only [eRngL] at hf
    obtain ⟨x, h1, hf⟩ := bind_some hf
    obtain ⟨n, h2, hf⟩ := bind_some hf
    obtain ⟨ds, h3, h4⟩ := map_some hf
    subst h4
    refine ⟨F, env, x, hs, h1, fun v F1 H1 g1 r1 => ?_⟩
    cases x with
    | int m =>
      cases h2
      have hv : v = .int n := (Rp.b (H := H1) r1).int
      simp only [rangeD] at h3
      split at h3
      · rename_i hok
        cases h3
        simp only [okRng, Bool.and_eq_true, Nat.ble_eq] at hok
        refine ⟨n, hv, ⟨by omega, by omega, by omega, by omega, by have := hok.2; rw [sizeLine_eq] at this; omega⟩, fun p hp => ?_⟩
        exact (q.gr g1).newL g1.fh (rgL_all _ 0) hp
      · cases h3
    | _ => cases h2
theorem spopAdd {x y : Str} {px px' py : Pos} {apos cpos ptup pbin : Pos} {kt : _} (i j : Nat) (hN : X.N.Nodup) (he : PE X e (rV (gx X) O f)) (hOi : i ∉ O := by decide) (hOj : j ∈ O := by decide) (hi : X.N[i]? = some x := by rfl) (hj : X.N[j]? = some y := by rfl)
    (hx : Loc X.env.scope x := by first | exact Or.inl rfl | exact Or.inr rfl)
    (hvx : Vis X.env.scope x := by first | exact Or.inl rfl | exact Or.inr (Or.inl rfl) | exact Or.inr (Or.inr rfl)) (hvy : Vis X.env.scope y := by first | exact Or.inl rfl | exact Or.inr (Or.inl rfl) | exact Or.inr (Or.inr rfl))
    (hdx : (x == ("__debug__" : Str)) = false := by decide) (hdy : (y == ("__debug__" : Str)) = false := by decide) (hcx : (x == ("__classdict__" : Str)) = false := by decide) (hcy : (y == ("__classdict__" : Str)) = false := by decide)
    (hbase : attributeBase (.Name y py) "pop" X.env (eval (.Name y py) X.env) = eval (.Name y py) X.env := by rfl)
    (hfew : ((backTo cpos (starEach [e] X.env)).all (fun x => !x.1) && (backToKw cpos (keywordEach [] X.env)).all (fun x => x.1.isSome)
      && decide ([e].length + ([] : List Keyword).length + (if ([] : List Keyword).isEmpty then 0 else 1) < 30)) = true := by rfl)
    (hline : (apos.endLine == cpos.line) = true := by rfl) (hs1 : starEach [e] X.env = (false, eval e X.env) :: starEach [] X.env := by rfl) (hplain : (backTo cpos (starEach [] X.env)).any (·.1) = false := by rfl)
    (hs2 : starEach [.Call (.Attribute (.Name y py) "pop" apos) [e] [] cpos] X.env = (false, eval (.Call (.Attribute (.Name y py) "pop" apos) [e] [] cpos) X.env) :: starEach [] X.env := by rfl)
    (hsw : swapsWith (.BinOp (.Name x px) .Add (.Tuple [.Call (.Attribute (.Name y py) "pop" apos) [e] [] cpos] kt ptup) pbin) (some (.Name x px')) pos.line X.env = pure false := by rfl)
    (hfl : X.fn x = true ∨ X.env.scope.names.lookup x = some .local := by first | exact .inl rfl | exact .inr rfl | assumption) :
    PS X (.Assign [.Name x px'] (.BinOp (.Name x px) .Add (.Tuple [.Call (.Attribute (.Name y py) "pop" apos) [e] [] cpos] kt ptup) pbin) pos) (sV (gx X) R O O Ob (sPopAdd i j f)) :=
  (ps_ln (ps_set hN hi hx (pe_op o_add (pe_var hi hvx hdx hcx) (pe_tup (pa_cons (pe_bm PySem.F.plainAttrs_list PySem.F.slot_list_pop PySem.F.type_list_pop mt_popAt (pe_var hj hvy hdy hcy) (pa_cons he pa_nil hs1) hbase hfew hline hs1 hplain) pa_nil hs2))) hsw hfl)).imp fun D σ H ⟨F0, H0, F, env, out, hs, hf, ho, q⟩ hl => by
    simp only [sPopAdd] at ho
    obtain ⟨p, vs, es, k1, k2, k3, k4, k5⟩ := hs.own j hOj
    rw [show env.getD j none = some (.list es) by rw [List.getD_eq_getElem?_getD, k2]; rfl] at ho
    split at ho
    · rename_i ds es' hi1 hj1
      cases hj1
      obtain ⟨d, h1, ho⟩ := bind_some ho
      obtain ⟨k, h2, ho⟩ := bind_some ho
      obtain ⟨z, h3, ho⟩ := bind_some ho
      split at ho
      · rename_i hz
        cases ho
        obtain ⟨v, h5, h6⟩ := hs.imm i _ (getD_some hi1) hOi
        unfold popD at h3
        split at h3
        · rename_i hk
          have hk := Nat.le_of_ble_eq_true hk
          obtain ⟨ix, h7, h3⟩ := bind_some h3
          obtain ⟨dk, h8, h9⟩ := map_some h3
          subst h9
          cases d with
          | int kk =>
          cases h2
          refine ⟨v, h5, .ref p, k1, .inl ⟨rfl, vs, .inl (.inl k4)⟩, F, env, .int k, hs, h1, fun w F1 H1 g1 r1 => ?_⟩
          have hw : w = .int k := (Rp.b (H := H1) r1).int
          subst hw
          have r5 := k5.mono g1.ff
          obtain ⟨y, hy, ry⟩ := r5.get h8
          refine ⟨p, vs, k, ix, y, rfl, rfl, g1.hh.l k4, by omega, by omega, by rw [r5.length]; exact h7, hy, ?_⟩
          have re : RpAll (gx X) F1 (vs.eraseIdx ix) (es.eraseIdx ix) := by
            rw [List.eraseIdx_eq_take_drop_succ, List.eraseIdx_eq_take_drop_succ]
            exact (r5.take ix).append (r5.drop (ix + 1))
          have s1 := (hs.gr g1).chg hOj k1 re
          have f1 := fr_chg (o := HO.lst (vs.eraseIdx ix)) (hs.gr g1) (hf.step g1) hOj k1
          refine ⟨by rw [sizeLine_eq]; exact Nat.le_of_ble_eq_true rfl, fun t ht => ?_⟩
          have g2 := Gr.new (o := HO.tup [y]) s1.fh ht
          refine ⟨_, .tuple ds, .tuple [dk], .tuple (ds ++ [dk]), g2.fh, (h6.mono (g1.ff.trans g2.ff)).b, (Rp.tup (.inl (.inl upd_same)) (.cons (ry.mono g2.ff) .nil)).b, ?_, fun v3 F3 H3 g3 r3 => ?_⟩
          · show (if ds.length + [dk].length ≤ sizeLine then _ else _) = _
            exact if_pos hz
          · exact q _ F3 H3 (((s1.gr g2).gr g3).set hOi r3) (fr_set ((f1.step g2).step g3) hOi) ((g1.ff.trans g2.ff).trans g3.ff)
          | _ => cases h2
        · cases h3
      · cases ho
    · cases ho
end
end TL

set_option Elab.async false
set_option linter.all false
set_option maxRecDepth 100000
/-! The tree layer with a pool: expressions that count on the pool's counter. -/
namespace TL
open PySem PySem.Spec PyProof.Rows L2
/-! ### pure part: r is the counter's cell, c the count -/
abbrev QE := Nat → Env → Int → Option (D × Int)
abbrev QT := Nat → Env → Int → Option (Bool × Int)
abbrev QA := Nat → Env → Int → Option (List D × Int)
inductive QOut where
  | nx (e : Env) (c : Int) | rt (d : D) (c : Int) | bk (e : Env) (c : Int) | ct (e : Env) (c : Int)
abbrev QS := Nat → Env → Int → Option QOut
@[simp] def ql (f : SE) : QE := fun _ env c => (f env).map fun d => (d, c)
@[simp] def qlT (f : ST) : QT := fun _ env c => (f env).map fun d => (d, c)
@[simp] def qlI (f : SI) : QA := fun _ env c => (f env).map fun d => (d, c)
@[simp] def toQ (c : Int) : Out → QOut
  | .nx e => .nx e c
  | .rt d => .rt d c
  | .bk e => .bk e c
  | .ct e => .ct e c
@[simp] def qlS (f : SS) : QS := fun _ env c => (f env).map (toQ c)
@[simp] def q1 (op : D → Option D) (a : QE) : QE := fun r env c => (a r env c).bind fun x => (op x.1).map fun d => (d, x.2)
@[simp] def q2 (op : D → D → Option D) (a b : QE) : QE := fun r env c => (a r env c).bind fun x => (b r env x.2).bind fun y => (op x.1 y.1).map fun d => (d, y.2)
@[simp] def qIf (k : QT) (a b : QE) : QE := fun r env c => (k r env c).bind fun x => if x.1 = true then a r env x.2 else b r env x.2
@[simp] def qAnd (a b : QE) : QE := fun r env c => (a r env c).bind fun x => (toB x.1).bind fun k => if k = true then b r env x.2 else some (.bool false, x.2)
@[simp] def qOr (a b : QE) : QE := fun r env c => (a r env c).bind fun x => (toB x.1).bind fun k => if k = true then some (.bool true, x.2) else b r env x.2
@[simp] def qNot (a : QE) : QE := fun r env c => (a r env c).bind fun x => (toB x.1).map fun k => (.bool (!k), x.2)
@[simp] def qArgs : List QE → QA
  | [] => fun _ _ c => some ([], c)
  | a :: l => fun r env c => (a r env c).bind fun x => (qArgs l r env x.2).map fun y => (x.1 :: y.1, y.2)
@[simp] def qTup (l : List QE) : QE := fun r env c => (qArgs l r env c).bind fun x => if x.1.length ≤ sizeLine then some (.tuple x.1, x.2) else none
@[simp] def qLst (l : List QE) : QE := fun r env c => (qArgs l r env c).bind fun x => if x.1.length ≤ sizeLine then some (.list x.1, x.2) else none
@[simp] def qCallV (m : List D → Option D) (l : List QE) : QE := fun r env c => (qArgs l r env c).bind fun x => (m x.1).map fun d => (d, x.2)
@[simp] def qCall (m : Nat → List D → Int → Option (D × Int)) (l : List QE) : QE := fun r env c => (qArgs l r env c).bind fun x => m r x.1 x.2
@[simp] def qtV (a : QE) : QT := fun r env c => (a r env c).bind fun x => (toB x.1).map fun k => (k, x.2)
@[simp] def qtAnd (a b : QT) : QT := fun r env c => (a r env c).bind fun k => if k.1 = true then b r env k.2 else some (false, k.2)
@[simp] def qtOr (a b : QT) : QT := fun r env c => (a r env c).bind fun k => if k.1 = true then some (true, k.2) else b r env k.2
@[simp] def qtNot (a : QT) : QT := fun r env c => (a r env c).map fun k => (!k.1, k.2)
@[simp] def qRng1 (a : QE) : QA := fun r env c => (a r env c).bind fun x => (toI x.1).bind fun n => (rangeD 0 n).map fun d => (d, x.2)
@[simp] def qSeqI (a : QE) : QA := fun r env c => (a r env c).bind fun x => (itemsD x.1).map fun d => (d, x.2)
/-! ### heaps without the cell -/
def hid (r : Nat) (H : Hp) : Hp := fun p => if p = r then none else H p
theorem hid_r {r : Nat} {H : Hp} : hid r H r = none := if_pos rfl
theorem hid_ne {r : Nat} {H : Hp} {p : Addr} (h : p ≠ r) : hid r H p = H p := if_neg h
theorem hid_some {r : Nat} {H : Hp} {p : Addr} {o : HO} (h : hid r H p = some o) : p ≠ r ∧ H p = some o := by
  by_cases e : p = r
  · subst e; rw [hid_r] at h; cases h
  · rw [hid_ne e] at h; exact ⟨e, h⟩
theorem hid_le {r : Nat} {H : Hp} : Same (hid r H) H := fun b o e => (hid_some e).2
theorem SameN.hid_ {r : Nat} {H H' : Hp} (a : SameN H H') : SameN (hid r H) (hid r H') :=
  ⟨fun b o e n => by obtain ⟨k, e⟩ := hid_some e; rw [hid_ne k]; exact a.nn b o e n, fun b ps e => by obtain ⟨k, e⟩ := hid_some e; rw [hid_ne k]; exact a.tb b ps e⟩
theorem TbOk.unhid {G : Gx} {F H : Hp} {r : Nat} (t : TbOk G F (hid r H)) : TbOk G F H := fun x hx c P e =>
  let ⟨h1, ps, h2, h3⟩ := t x hx c P e
  ⟨h1, ps, hid_le _ _ h2, h3⟩
theorem TbOk.hid_ {G : Gx} {F H : Hp} {r : Nat} {vs : List V} (t : TbOk G F H) (hr : H r = some (.lst vs)) : TbOk G F (hid r H) := fun x hx c P e =>
  let ⟨h1, ps, h2, h3⟩ := t x hx c P e
  ⟨h1, ps, by rw [hid_ne (fun z => by rw [z, hr] at h2; cases h2)]; exact h2, h3⟩
structure QOk (G : Gx) (O : List Nat) (r : Nat) (c : Int) (F H : Hp) (σ : L2.St) (env : Env) : Prop where
  s : SOk G O F (hid r H) σ env
  fr : F r = none
  hr : H r = some (.lst [.int c])
structure QGr (r : Nat) (c : Int) (F H F' H' : Hp) : Prop where
  g : Gr F (hid r H) F' (hid r H')
  fr : F' r = none
  hr : H' r = some (.lst [.int c])
section
variable {G : Gx} {O O' : List Nat} {r : Nat} {c c' c2 : Int} {F H F' H' F2 H2 : Hp} {σ : L2.St} {env : Env}
theorem QOk.sok (q : QOk G O r c F H σ env) : SOk G O F H σ env := ⟨q.s.fh.trans hid_le, q.s.len, q.s.imm, fun i hi => by
  obtain ⟨p, vs, ds, h1, h2, h3, h4, h5⟩ := q.s.own i hi
  exact ⟨p, vs, ds, h1, h2, h3, hid_le _ _ h4, h5⟩, q.s.dj, q.s.tb.unhid⟩
theorem QOk.gr (q : QOk G O r c F H σ env) (g : QGr r c' F H F' H') : QOk G O r c' F' H' σ env := ⟨q.s.gr g.g, g.fr, g.hr⟩
theorem QGr.of (g : Gr F H F' H') (hf : F r = none) (hr : H r = some (.lst [.int c])) : QGr r c F H F' H' := by
  have fr : F' r = none := g.hid r _ hr hf
  refine ⟨⟨g.ff, g.hh.hid_, fun b o e => ?_, fun p o e n => ?_⟩, fr, g.hh.l hr⟩
  · have n : b ≠ r := fun z => by rw [z, fr] at e; cases e
    rw [hid_ne n]
    exact g.fh b o e
  · obtain ⟨_, e⟩ := hid_some e
    exact g.hid p o e n
theorem QGr.trans (a : QGr r c F H F' H') (b : QGr r c2 F' H' F2 H2) : QGr r c2 F H F2 H2 := ⟨a.g.trans b.g, b.fr, b.hr⟩
theorem QGr.fh (a : QGr r c F H F' H') : Same F' H' := a.g.fh.trans hid_le
theorem QGr.ff (a : QGr r c F H F' H') : Same F F' := a.g.ff
theorem QOk.of (q : QOk G O r c F H σ env) (g : Gr F H F' H') : QGr r c F H F' H' := .of g q.fr q.hr
theorem QOk.refl (q : QOk G O r c F H σ env) : QGr r c F H F H := q.of (Gr.refl q.sok.fh)
end
/-! ### the judgements -/
def qV (G : Gx) (O : List Nat) (f : QE) : TE := fun σ H Q => ∃ F env r c d c', QOk G O r c F H σ env ∧ f r env c = some (d, c') ∧ ∀ v F' H', QGr r c' F H F' H' → Rp G F' v d → Q v H'
def qT (G : Gx) (O : List Nat) (f : QT) : TT := fun σ H Q => ∃ F env r c d c', QOk G O r c F H σ env ∧ f r env c = some (d, c') ∧ ∀ F' H', QGr r c' F H F' H' → Q d H'
def qA (G : Gx) (O : List Nat) (f : QA) : TA := fun σ H Q => ∃ F env r c ds c', QOk G O r c F H σ env ∧ f r env c = some (ds, c') ∧ ∀ vs F' H', QGr r c' F H F' H' → RpAll G F' vs ds → Q vs H'
section
variable {X : Cx} {O : List Nat} {a b e k : Expr} {es rest : List Expr} {fa fb : QE} {ta tb : QT} {l : List QE} {pos p2 : Pos} {g : D → D → Option D}
theorem qlift {f : SE} (h : PE X e (rV (gx X) O f)) : PE X e (qV (gx X) O (ql f)) := h.imp fun σ H Q ⟨F, env, r, c, d, c', ok, hf, q⟩ => by
  simp only [ql] at hf
  obtain ⟨x, h1, h2⟩ := map_some hf
  cases h2
  exact ⟨F, env, d, ok.sok, h1, fun v F' H' g r => q v F' H' (ok.of g) r⟩
theorem qliftT {f : ST} (h : PT X e (rT (gx X) O f)) : PT X e (qT (gx X) O (qlT f)) := h.imp fun σ H Q ⟨F, env, r, c, d, c', ok, hf, q⟩ => by
  simp only [qlT] at hf
  obtain ⟨x, h1, h2⟩ := map_some hf
  cases h2
  exact ⟨F, env, d, ok.sok, h1, fun F' H' g => q F' H' (ok.of g)⟩
theorem qsplit2 {r : Nat} {env : Env} {c c' : Int} {d : D} (h : q2 g fa fb r env c = some (d, c')) : ∃ x c1 y, fa r env c = some (x, c1) ∧ fb r env c1 = some (y, c') ∧ g x y = some d := by
  simp only [q2] at h
  obtain ⟨x, h1, h⟩ := bind_some h
  obtain ⟨y, h2, h⟩ := bind_some h
  obtain ⟨z, h3, h4⟩ := map_some h
  cases h4
  exact ⟨x.1, x.2, y.1, h1, h2, h3⟩
theorem qsplit1 {g : D → Option D} {r : Nat} {env : Env} {c c' : Int} {d : D} (h : q1 g fa r env c = some (d, c')) : ∃ x, fa r env c = some (x, c') ∧ g x = some d := by
  simp only [q1] at h
  obtain ⟨x, h1, h⟩ := bind_some h
  obtain ⟨z, h3, h4⟩ := map_some h
  cases h4
  exact ⟨x.1, h1, h3⟩
theorem qseq2 {R : V → V → Hp → Prop} {F H : Hp} {σ : L2.St} {env : Env} {x y : D} {r : Nat} {c c1 c2 : Int} (ok : QOk (gx X) O r c F H σ env) (ha : fa r env c = some (x, c1)) (hb : fb r env c1 = some (y, c2))
    (h : ∀ v u F' H', QGr r c2 F H F' H' → Rp (gx X) F' v x → Rp (gx X) F' u y → R v u H') : qV (gx X) O fa σ H fun v H1 => qV (gx X) O fb σ H1 fun u H2 => R v u H2 :=
  ⟨F, env, r, c, x, c1, ok, ha, fun v F1 H1 g1 r1 => ⟨F1, env, r, c1, y, c2, ok.gr g1, hb, fun u F2 H2 g2 r2 => h v u F2 H2 (g1.trans g2) (r1.mono g2.ff) r2⟩⟩
/-- the end of an operation by its value -/
theorem qend {F H F' H' : Hp} {r : Nat} {c : Int} {d : D} {Q : VK} (g : QGr r c F H F' H') (q : ∀ v F' H', QGr r c F H F' H' → Rp (gx X) F' v d → Q v H') : kV (gx X) F' H' d Q :=
  fun v F2 H2 g2 r2 => q v F2 H2 (g.trans (.of g2 g.fr g.hr)) r2
theorem qo {op : Operator} (ho : OpV X (binaryOp op) g) (ha : PE X a (qV (gx X) O fa)) (hb : PE X b (qV (gx X) O fb)) : PE X (.BinOp a op b pos) (qV (gx X) O (q2 g fa fb)) :=
  (pe_op ho ha hb).imp fun σ H Q ⟨F, env, r, c, d, c', ok, hf, q⟩ => by
    obtain ⟨x, c1, y, h1, h2, h3⟩ := qsplit2 hf
    exact qseq2 ok h1 h2 fun v u F' H' g' r1 r2 => ⟨F', x, y, d, g'.fh, r1.b, r2.b, h3, qend g' q⟩
theorem qu {op : UnaryOp} {g : D → Option D} (ho : UnV X (unaryOp op) g) (ha : PE X a (qV (gx X) O fa)) : PE X (.UnaryOp op a pos) (qV (gx X) O (q1 g fa)) :=
  (pe_un ho ha).imp fun σ H Q ⟨F, env, r, c, d, c', ok, hf, q⟩ => by
    obtain ⟨x, h1, h3⟩ := qsplit1 hf
    exact ⟨F, env, r, c, x, c', ok, h1, fun v F' H' g' r1 => ⟨F', x, d, g'.fh, r1.b, h3, qend g' q⟩⟩
theorem qc {op : CmpOp} (ho : OpV X (compareOp op) g) (ha : PE X a (qV (gx X) O fa)) (hb : PE X b (qV (gx X) O fb)) (hm : behindInMarks op b = false := by first | exact nomark _ | rfl | with_unfolding_all rfl) : PE X (.Compare a [op] [b] pos) (qV (gx X) O (q2 g fa fb)) :=
  (pe_cmpR ho ha hb hm).imp fun σ H Q ⟨F, env, r, c, d, c', ok, hf, q⟩ => by
    obtain ⟨x, c1, y, h1, h2, h3⟩ := qsplit2 hf
    exact qseq2 ok h1 h2 fun v u F' H' g' r1 r2 => ⟨F', x, y, d, g'.fh, r1.b, r2.b, h3, qend g' q⟩
theorem qtvSplit {f : QE} {r : Nat} {env : Env} {c c' : Int} {k : Bool} (h : qtV f r env c = some (k, c')) : f r env c = some (.bool k, c') := by
  simp only [qtV] at h
  obtain ⟨x, h1, h⟩ := bind_some h
  obtain ⟨z, h3, h4⟩ := map_some h
  cases h4
  have := toB_some h3
  rw [h1]
  exact congrArg some (Prod.ext this rfl)
theorem qtc {op : CmpOp} (ho : OpV X (compareOp op) g) (ha : PE X a (qV (gx X) O fa)) (hb : PE X b (qV (gx X) O fb)) (hm : behindInMarks op b = false := by first | exact nomark _ | rfl | with_unfolding_all rfl) : PT X (.Compare a [op] [b] pos) (qT (gx X) O (qtV (q2 g fa fb))) :=
  (pt_cmpR ho ha hb hm).imp fun σ H Q ⟨F, env, r, c, d, c', ok, hf, q⟩ => by
    obtain ⟨x, c1, y, h1, h2, h3⟩ := qsplit2 (qtvSplit hf)
    exact qseq2 ok h1 h2 fun v u F' H' g' r1 r2 => ⟨F', x, y, _, g'.fh, r1.b, r2.b, h3, fun w F2 H2 g2 rw => by
      cases rw
      exact ⟨d, rfl, q F2 H2 (g'.trans (.of g2 g'.fr g'.hr))⟩⟩
theorem qtv (h : PE X a (qV (gx X) O fa)) (he : ∀ whole, isTrue a X.env whole = (do let v ← whole; standAt a.pos; holding [v] (truthy v)) := by intro _; rfl) : PT X a (qT (gx X) O (qtV fa)) :=
  (pt_val h he).imp fun σ H Q ⟨F, env, r, c, d, c', ok, hf, q⟩ => ⟨F, env, r, c, .bool d, c', ok, qtvSplit hf, fun v F' H' g' r => by
    cases r
    exact ⟨d, rfl, q F' H' g'⟩⟩
theorem qone {op} (h : PE X a (qV (gx X) O fa)) : PE X (.BoolOp op [a] pos) (qV (gx X) O fa) := pe_one h
theorem qand (ha : PE X a (qV (gx X) O fa)) (hb : PE X (.BoolOp .And (b :: rest) pos) (qV (gx X) O fb)) : PE X (.BoolOp .And (a :: b :: rest) pos) (qV (gx X) O (qAnd fa fb)) :=
  (pe_and ha hb).imp fun σ H Q ⟨F, env, r, c, d, c', ok, hf, q⟩ => by
    simp only [qAnd] at hf
    obtain ⟨x, h1, hf⟩ := bind_some hf
    obtain ⟨k, h4, hk⟩ := bind_some hf
    obtain ⟨x, c1⟩ := x
    have e4 := toB_some h4
    subst e4
    refine ⟨F, env, r, c, _, c1, ok, h1, fun v F1 H1 g1 r1 => ?_⟩
    cases r1
    refine ⟨k, rfl, ?_⟩
    cases k with
    | true => exact ⟨F1, env, r, c1, d, c', ok.gr g1, hk, fun v F2 H2 g2 r2 => q v F2 H2 (g1.trans g2) r2⟩
    | false =>
      cases hk
      exact q _ F1 H1 g1 (.bl false)
theorem qor (ha : PE X a (qV (gx X) O fa)) (hb : PE X (.BoolOp .Or (b :: rest) pos) (qV (gx X) O fb)) : PE X (.BoolOp .Or (a :: b :: rest) pos) (qV (gx X) O (qOr fa fb)) :=
  (pe_or ha hb).imp fun σ H Q ⟨F, env, r, c, d, c', ok, hf, q⟩ => by
    simp only [qOr] at hf
    obtain ⟨x, h1, hf⟩ := bind_some hf
    obtain ⟨k, h4, hk⟩ := bind_some hf
    obtain ⟨x, c1⟩ := x
    have e4 := toB_some h4
    subst e4
    refine ⟨F, env, r, c, _, c1, ok, h1, fun v F1 H1 g1 r1 => ?_⟩
    cases r1
    refine ⟨k, rfl, ?_⟩
    cases k with
    | false => exact ⟨F1, env, r, c1, d, c', ok.gr g1, hk, fun v F2 H2 g2 r2 => q v F2 H2 (g1.trans g2) r2⟩
    | true =>
      cases hk
      exact q _ F1 H1 g1 (.bl true)
theorem qnot (ha : PE X a (qV (gx X) O fa)) : PE X (.UnaryOp .Not a pos) (qV (gx X) O (qNot fa)) :=
  (pe_not ha).imp fun σ H Q ⟨F, env, r, c, d, c', ok, hf, q⟩ => by
    simp only [qNot] at hf
    obtain ⟨x, h1, hf⟩ := bind_some hf
    obtain ⟨k, h4, hk⟩ := map_some hf
    obtain ⟨x, c1⟩ := x
    have e4 := toB_some h4
    subst e4
    cases hk
    refine ⟨F, env, r, c, _, c1, ok, h1, fun v F1 H1 g1 r1 => ?_⟩
    cases r1
    exact ⟨k, rfl, q _ F1 H1 g1 (.bl _)⟩
theorem qtone1 (h : PT X a (qT (gx X) O ta)) : PW X (.BoolOp .And [a] pos) (qT (gx X) O ta) := pw_and1 h
theorem qtone2 (h : PT X a (qT (gx X) O ta)) : PW X (.BoolOp .Or [a] pos) (qT (gx X) O ta) := pw_or1 h
theorem qtand (ha : PT X a (qT (gx X) O ta)) (hb : PW X (.BoolOp .And (b :: rest) pos) (qT (gx X) O tb)) : PW X (.BoolOp .And (a :: b :: rest) pos) (qT (gx X) O (qtAnd ta tb)) :=
  (pw_and ha hb).imp fun σ H Q ⟨F, env, r, c, d, c', ok, hf, q⟩ => by
    simp only [qtAnd] at hf
    obtain ⟨⟨k, c1⟩, h1, hf⟩ := bind_some hf
    refine ⟨F, env, r, c, k, c1, ok, h1, fun F1 H1 g1 => ?_⟩
    cases k with
    | true => exact ⟨F1, env, r, c1, d, c', ok.gr g1, hf, fun F2 H2 g2 => q F2 H2 (g1.trans g2)⟩
    | false =>
      cases hf
      exact q F1 H1 g1
theorem qtor (ha : PT X a (qT (gx X) O ta)) (hb : PW X (.BoolOp .Or (b :: rest) pos) (qT (gx X) O tb)) : PW X (.BoolOp .Or (a :: b :: rest) pos) (qT (gx X) O (qtOr ta tb)) :=
  (pw_or ha hb).imp fun σ H Q ⟨F, env, r, c, d, c', ok, hf, q⟩ => by
    simp only [qtOr] at hf
    obtain ⟨⟨k, c1⟩, h1, hf⟩ := bind_some hf
    refine ⟨F, env, r, c, k, c1, ok, h1, fun F1 H1 g1 => ?_⟩
    cases k with
    | false => exact ⟨F1, env, r, c1, d, c', ok.gr g1, hf, fun F2 H2 g2 => q F2 H2 (g1.trans g2)⟩
    | true =>
      cases hf
      exact q F1 H1 g1
theorem qtw (h : PW X a (qT (gx X) O ta)) : PT X a (qT (gx X) O ta) := h.pt
theorem qtnot (ha : PT X a (qT (gx X) O ta)) : PT X (.UnaryOp .Not a pos) (qT (gx X) O (qtNot ta)) :=
  (pt_not ha).imp fun σ H Q ⟨F, env, r, c, d, c', ok, hf, q⟩ => by
    simp only [qtNot] at hf
    obtain ⟨⟨k, c1⟩, h1, hf⟩ := map_some hf
    cases hf
    exact ⟨F, env, r, c, k, _, ok, h1, q⟩
theorem qif (hc : PT X k (qT (gx X) O ta)) (ha : PE X a (qV (gx X) O fa)) (hb : PE X b (qV (gx X) O fb)) : PE X (.IfExp k a b pos) (qV (gx X) O (qIf ta fa fb)) :=
  (pe_ifExp hc ha hb).imp fun σ H Q ⟨F, env, r, c, d, c', ok, hf, q⟩ => by
    simp only [qIf] at hf
    obtain ⟨⟨k, c1⟩, h1, hf⟩ := bind_some hf
    refine ⟨F, env, r, c, k, c1, ok, h1, fun F1 H1 g1 => ?_⟩
    cases k with
    | true => exact ⟨F1, env, r, c1, d, c', ok.gr g1, hf, fun v F2 H2 g2 r2 => q v F2 H2 (g1.trans g2) r2⟩
    | false => exact ⟨F1, env, r, c1, d, c', ok.gr g1, hf, fun v F2 H2 g2 r2 => q v F2 H2 (g1.trans g2) r2⟩
/-! arguments, displays, calls -/
theorem qan : PA X [] (qA (gx X) O (qArgs [])) := pa_nil.imp fun σ H Q ⟨F, env, r, c, ds, c', ok, hf, q⟩ => by
  cases hf
  exact q [] F H ok.refl .nil
theorem qac (ha : PE X e (qV (gx X) O fa)) (hr : PA X es (qA (gx X) O (qArgs l))) (hs : starEach (e :: es) X.env = (false, eval e X.env) :: starEach es X.env := by rfl) : PA X (e :: es) (qA (gx X) O (qArgs (fa :: l))) :=
  (pa_cons ha hr hs).imp fun σ H Q ⟨F, env, r, c, ds, c', ok, hf, q⟩ => by
    simp only [qArgs] at hf
    obtain ⟨⟨x, c1⟩, h1, hf⟩ := bind_some hf
    obtain ⟨⟨xs, c2⟩, h2, hf⟩ := map_some hf
    cases hf
    exact ⟨F, env, r, c, x, c1, ok, h1, fun v F1 H1 g1 r1 => ⟨F1, env, r, c1, xs, _, ok.gr g1, h2, fun vs F2 H2 g2 r2 => q (v :: vs) F2 H2 (g1.trans g2) (.cons (r1.mono g2.ff) r2)⟩⟩
theorem qtup {x1} (h : PA X es (qA (gx X) O (qArgs l))) : PE X (.Tuple es x1 pos) (qV (gx X) O (qTup l)) :=
  (pe_tup h).imp fun σ H Q ⟨F, env, r, c, d, c', ok, hf, q⟩ => by
    simp only [qTup] at hf
    obtain ⟨⟨ds, c1⟩, h1, hf⟩ := bind_some hf
    refine ⟨F, env, r, c, ds, c1, ok, h1, fun vs F1 H1 g1 r1 => ?_⟩
    split at hf
    · cases hf
      exact ⟨by rw [r1.length]; assumption, fun p hp => (qend g1 q).newT g1.fh r1 hp⟩
    · cases hf
theorem qlst (h : PA X es (qA (gx X) O (qArgs l))) : PE X (.List es pos) (qV (gx X) O (qLst l)) :=
  (pe_lst h).imp fun σ H Q ⟨F, env, r, c, d, c', ok, hf, q⟩ => by
    simp only [qLst] at hf
    obtain ⟨⟨ds, c1⟩, h1, hf⟩ := bind_some hf
    refine ⟨F, env, r, c, ds, c1, ok, h1, fun vs F1 H1 g1 r1 => ?_⟩
    split at hf
    · cases hf
      exact ⟨by rw [r1.length]; assumption, fun p hp => (qend g1 q).n.newL g1.fh r1 hp⟩
    · cases hf
theorem qix (ha : PE X a (qV (gx X) O fa)) (hb : PE X b (qV (gx X) O fb)) (hs : PlainIx b := by exact fun _ _ => rfl) : PE X (.Subscript a b pos) (qV (gx X) O (q2 ixD fa fb)) :=
  (pe_ix ixV ha hb hs).imp fun σ H Q ⟨F, env, r, c, d, c', ok, hf, q⟩ => by
    obtain ⟨x, c1, y, h1, h2, h3⟩ := qsplit2 hf
    exact qseq2 ok h1 h2 fun v u F' H' g' r1 r2 => ⟨F', x, y, d, g'.fh, r1.b, r2.b, h3, qend g' q⟩
end
/-! ### promises -/
def spQ (G : Gx) (n : Nat) (m : Nat → List D → Int → Option (D × Int)) : Sp := fun vs H Q _ => ∃ F r c ds d c', Fz G F (hid r H) ∧ F r = none ∧ H r = some (.lst [.int c]) ∧ RpAll G F vs ds ∧ ds.length = n ∧ m r ds c = some (d, c') ∧ ∀ v F' H', QGr r c' F H F' H' → Rp G F' v d → Q v H'
section
variable {X : Cx} {O : List Nat} {e : Expr} {es : List Expr} {l : List QE} {p pos : Pos} {x : Str} {k n : Nat} {fa : Addr} {fd : FuncData} {ps : List Str}
theorem qArgs_len {r : Nat} {env : Env} : ∀ {l : List QE} {c c' : Int} {ds : List D}, qArgs l r env c = some (ds, c') → ds.length = l.length
  | [], _, _, _, h => by cases h; rfl
  | a :: l, c, c', ds, h => by
    simp only [qArgs] at h
    obtain ⟨x, _, h⟩ := bind_some h
    obtain ⟨y, h2, h⟩ := map_some h
    cases h
    exact congrArg (· + 1) (qArgs_len h2)
theorem qcallV {m : List D → Option D} (F : FnOk X.prog X.w (gx X).K (gx X).mg X.base CX0 k fa fd ps (spV (gx X) n m)) (hr : Room k X.A) (hg : Gl X x) (hm : X.mg x = some (.ref fa)) (hk : PySem.W.keepIn X.K (.ref fa) = true) (hb : Binds X.K fd ps [])
    (ha : PA X (e :: es) (qA (gx X) O (qArgs l))) (hn : l.length = n := by rfl) (hdb : (x == ("__debug__" : Str)) = false := by decide) (he : starEach (e :: es) X.env = (false, eval e X.env) :: starEach es X.env := by rfl) (hpl : (backTo pos (starEach es X.env)).any (·.1) = false := by rfl) :
    PE X (.Call (.Name x p) (e :: es) [] pos) (qV (gx X) O (qCallV m l)) :=
  (pe_call F hr hg hm hk hb .nil pass0 ha hdb he hpl).imp fun σ H Q ⟨F, env, r, c, d, c', ok, hf, q⟩ => by
    simp only [qCallV] at hf
    obtain ⟨⟨ds, c1⟩, h1, hf⟩ := bind_some hf
    obtain ⟨d', h2, hf⟩ := map_some hf
    cases hf
    refine ⟨F, env, r, c, ds, _, ok, h1, fun vs F1 H1 g1 r1 => ?_⟩
    show spV (gx X) n m (vs ++ []) H1 Q E0
    rw [List.append_nil]
    exact ⟨F1, ds, d, (ok.gr g1).sok.fz, r1, (qArgs_len h1).trans hn, h2, qend g1 q⟩
theorem qcall {m : Nat → List D → Int → Option (D × Int)} (F : FnOk X.prog X.w (gx X).K (gx X).mg X.base CX0 k fa fd ps (spQ (gx X) n m)) (hr : Room k X.A) (hg : Gl X x) (hm : X.mg x = some (.ref fa)) (hk : PySem.W.keepIn X.K (.ref fa) = true) (hb : Binds X.K fd ps [])
    (ha : PA X (e :: es) (qA (gx X) O (qArgs l))) (hn : l.length = n := by rfl) (hdb : (x == ("__debug__" : Str)) = false := by decide) (he : starEach (e :: es) X.env = (false, eval e X.env) :: starEach es X.env := by rfl) (hpl : (backTo pos (starEach es X.env)).any (·.1) = false := by rfl) :
    PE X (.Call (.Name x p) (e :: es) [] pos) (qV (gx X) O (qCall m l)) :=
  (pe_call F hr hg hm hk hb .nil pass0 ha hdb he hpl).imp fun σ H Q ⟨F, env, r, c, d, c', ok, hf, q⟩ => by
    simp only [qCall] at hf
    obtain ⟨⟨ds, c1⟩, h1, hf⟩ := bind_some hf
    refine ⟨F, env, r, c, ds, c1, ok, h1, fun vs F1 H1 g1 r1 => ?_⟩
    show spQ (gx X) n m (vs ++ []) H1 Q E0
    rw [List.append_nil]
    exact ⟨F1, r, c1, ds, d, c', (ok.gr g1).s.fz, g1.fr, g1.hr, r1, (qArgs_len h1).trans hn, hf, fun v F2 H2 g2 r2 => q v F2 H2 (g1.trans g2) r2⟩
end
section
variable {X : Cx} {O : List Nat} {e e' : Expr} {f f' : QE} {p pos : Pos} {x : Str} {g : D → Option D} {id T : String}
theorem qB (hc : CalV X (.builtin id) g) (hg : Gl X x) (hm : X.mg x = none) (hv : bootBuiltins x = some (.builtin id)) (ha : PE X e (qV (gx X) O f)) (hn : x ≠ "__name__" := by decide) (hdb : (x == ("__debug__" : Str)) = false := by decide)
    (hs : starEach [e] X.env = (false, eval e X.env) :: starEach [] X.env := by rfl) : PE X (.Call (.Name x p) [e] [] pos) (qV (gx X) O (q1 g f)) :=
  (pe_callB hc hg hm hv (pa_cons ha pa_nil hs) hn hdb hs rfl).imp fun σ H Q ⟨F, env, r, c, d, c', ok, hf, q⟩ => by
    obtain ⟨x, h1, h3⟩ := qsplit1 hf
    exact ⟨F, env, r, c, x, c', ok, h1, fun v F1 H1 g1 r1 => ⟨F1, v, x, d, rfl, g1.fh, r1.b, h3, qend g1 q⟩⟩
theorem qTy (hc : CalV X (.type T) g) (hg : Gl X x) (hm : X.mg x = none) (hv : bootBuiltins x = some (.type T)) (ha : PE X e (qV (gx X) O f)) (hn : x ≠ "__name__" := by decide) (hdb : (x == ("__debug__" : Str)) = false := by decide)
    (hs : starEach [e] X.env = (false, eval e X.env) :: starEach [] X.env := by rfl) : PE X (.Call (.Name x p) [e] [] pos) (qV (gx X) O (q1 g f)) :=
  (pe_callTy hc hg hm hv (pa_cons ha pa_nil hs) hn hdb hs rfl).imp fun σ H Q ⟨F, env, r, c, d, c', ok, hf, q⟩ => by
    obtain ⟨x, h1, h3⟩ := qsplit1 hf
    exact ⟨F, env, r, c, x, c', ok, h1, fun v F1 H1 g1 r1 => ⟨F1, v, x, d, rfl, g1.fh, r1.b, h3, qend g1 q⟩⟩
theorem qB2 {g : D → D → Option D} (hc : CalV2 X (.builtin id) g) (hg : Gl X x) (hm : X.mg x = none) (hv : bootBuiltins x = some (.builtin id)) (ha : PE X e (qV (gx X) O f)) (hb : PE X e' (qV (gx X) O f')) (hn : x ≠ "__name__" := by decide) (hdb : (x == ("__debug__" : Str)) = false := by decide)
    (hs : starEach [e, e'] X.env = (false, eval e X.env) :: starEach [e'] X.env := by rfl) (hs2 : starEach [e'] X.env = (false, eval e' X.env) :: starEach [] X.env := by rfl) (hpl : (backTo pos (starEach [e'] X.env)).any (·.1) = false := by rfl) : PE X (.Call (.Name x p) [e, e'] [] pos) (qV (gx X) O (q2 g f f')) :=
  (pe_callB hc hg hm hv (pa_cons ha (pa_cons hb pa_nil hs2) hs) hn hdb hs hpl).imp fun σ H Q ⟨F, env, r, c, d, c', ok, hf, q⟩ => by
    obtain ⟨x, c1, y, h1, h2, h3⟩ := qsplit2 hf
    exact ⟨F, env, r, c, x, c1, ok, h1, fun v F1 H1 g1 r1 => ⟨F1, env, r, c1, y, c', ok.gr g1, h2, fun u F2 H2 g2 r2 => ⟨F2, v, u, x, y, d, rfl, g2.fh, (r1.mono g2.ff).b, r2.b, h3, qend (g1.trans g2) q⟩⟩⟩
end
end TL

set_option Elab.async false
set_option linter.all false
set_option maxRecDepth 100000
/-! The tree layer with a pool: statements, loops, defs. -/
namespace TL
open PySem PySem.Spec PyProof.Rows L2
/-! ### pure part -/
@[simp] def qSeq (a b : QS) : QS := fun r env c => (a r env c).bind fun o => match o with
  | .nx e c => b r e c
  | .rt d c => some (.rt d c)
  | .bk e c => some (.bk e c)
  | .ct e c => some (.ct e c)
@[simp] def qNext : QS := fun _ env c => some (.nx env c)
@[simp] def qRet (a : QE) : QS := fun r env c => (a r env c).map fun x => .rt x.1 x.2
@[simp] def qIfS (k : QT) (a b : QS) : QS := fun r env c => (k r env c).bind fun x => if x.1 = true then a r env x.2 else b r env x.2
@[simp] def qAsg (a : QE) (g : SG) : QS := fun r env c => (a r env c).bind fun x => (g x.1 env).map fun e => .nx e x.2
@[simp] def qDrop (a : QE) : QS := fun r env c => (a r env c).map fun x => .nx env x.2
@[simp] def qPar (i j : Nat) (a b : QE) : QS := fun r env c => (a r env c).bind fun x => (b r env x.2).map fun y => .nx ((env.set i (some x.1)).set j (some y.1)) y.2
@[simp] def qApp (i : Nat) (a : QE) : QS := fun r env c => (a r env c).bind fun y => match env.getD i none with
  | some (.list ds) => if ds.length < sizeLine then some (.nx (env.set i (some (.list (ds ++ [y.1])))) y.2) else none
  | _ => none
def qForGo (g : SG) (body : QS) (r : Nat) : List D → Env → Int → Option QOut
  | [], env, c => some (.nx env c)
  | x :: xs, env, c => (g x env).bind fun env1 => (body r env1 c).bind fun o => match o with
    | .nx e c => qForGo g body r xs e c
    | .ct e c => qForGo g body r xs e c
    | .bk e c => some (.nx e c)
    | .rt d c => some (.rt d c)
@[simp] def qFor (it : QA) (g : SG) (body : QS) : QS := fun r env c => (it r env c).bind fun x => qForGo g body r x.1 env x.2
@[simp] def outQ : QOut → Option (D × Int)
  | .rt d c => some (d, c)
  | .nx _ c => some (.none, c)
  | _ => none
def runQ (np nl : Nat) (body : QS) (r : Nat) (ds : List D) (c : Int) : Option (D × Int) :=
  if ds.length = np then (body r (ds.map some ++ List.replicate nl none) c).bind outQ else none
/-! ### the judgement -/
def qPost (G : Gx) (O' Ob : List Nat) (F0 H0 : Hp) (r : Nat) (F : Hp) (D : Ends) : QOut → Prop
  | .nx e c => ∀ σ' F' H', QOk G O' r c F' H' σ' e → Fr F0 (hid r H0) O' F' (hid r H') σ' → Same F F' → D.nx σ' H'
  | .bk e c => ∀ σ' F' H', QOk G Ob r c F' H' σ' e → Fr F0 (hid r H0) Ob F' (hid r H') σ' → Same F F' → D.bk σ' H'
  | .ct e c => ∀ σ' F' H', QOk G Ob r c F' H' σ' e → Fr F0 (hid r H0) Ob F' (hid r H') σ' → Same F F' → D.ct σ' H'
  | .rt d c => ∀ v F' H', QGr r c F0 H0 F' H' → Rp G F' v d → D.rt v H'
theorem qPost.ff {G : Gx} {O' Ob : List Nat} {F0 H0 F F1 : Hp} {r : Nat} {D : Ends} {out : QOut} (q : qPost G O' Ob F0 H0 r F D out) (k : Same F F1) : qPost G O' Ob F0 H0 r F1 D out := by
  cases out with
  | nx e => exact fun σ' F' H' s' f' k' => q σ' F' H' s' f' (k.trans k')
  | bk e => exact fun σ' F' H' s' f' k' => q σ' F' H' s' f' (k.trans k')
  | ct e => exact fun σ' F' H' s' f' k' => q σ' F' H' s' f' (k.trans k')
  | rt d => exact q
def qS (G : Gx) (O O' Ob : List Nat) (f : QS) : TS := fun D σ H => ∃ F0 H0 F env r c out, QOk G O r c F H σ env ∧ Fr F0 (hid r H0) O F (hid r H) σ ∧ f r env c = some out ∧ qPost G O' Ob F0 H0 r F D out
theorem SOk.rehid {G : Gx} {O : List Nat} {F H : Hp} {σ : L2.St} {env : Env} {r : Nat} (s : SOk G O F H σ env) (hf : F r = none) {us : List V} (hr : H r = some (.lst us)) (hn : ∀ i ∈ O, ∀ p, σ[i]? = some (some (.ref p)) → p ≠ r) : SOk G O F (hid r H) σ env :=
  ⟨fun b o e => by rw [hid_ne (fun z => by rw [z, hf] at e; cases e)]; exact s.fh b o e, s.len, s.imm, fun i hi => by
    obtain ⟨p, vs, ds, h1, h2, h3, h4, h5⟩ := s.own i hi
    exact ⟨p, vs, ds, h1, h2, h3, by rw [hid_ne (hn i hi p h1)]; exact h4, h5⟩, s.dj, fun x hx c P e => by
    obtain ⟨h1, ps, h2, h3⟩ := s.tb x hx c P e
    exact ⟨h1, ps, by rw [hid_ne (fun z => by rw [z, hr] at h2; cases h2)]; exact h2, h3⟩⟩
theorem QOk.ne {G : Gx} {O : List Nat} {r : Nat} {c : Int} {F H : Hp} {σ : L2.St} {env : Env} (ok : QOk G O r c F H σ env) : ∀ i ∈ O, ∀ p, σ[i]? = some (some (.ref p)) → p ≠ r := fun i hi p hp => by
  obtain ⟨p', vs, ds, h1, h2, h3, h4, h5⟩ := ok.s.own i hi
  rw [hp] at h1
  cases h1
  exact (hid_some h4).1
section
variable {X : Cx} {O O' O'' Ob : List Nat} {st : Stmt} {rest : List Stmt} {pos : Pos}
/-- a statement that leaves the counter alone -/
theorem qlift_core {G : Gx} {f : SS} {D : Ends} {σ : L2.St} {H : Hp} (h : qS G O O' Ob (qlS f) D σ H) : sV G (oV' G) O O' Ob f D σ H := by
  classical
  obtain ⟨F0, H0, F, env, r, c, out, ok, hf, ho, q⟩ := h
  simp only [qlS] at ho
  obtain ⟨o1, h1, h2⟩ := map_some ho
  subst h2
  let H1 : Hp := fun p => if ∃ i ∈ O, σ[i]? = some (some (.ref p)) then none else H p
  have H1y : ∀ p, (∃ i ∈ O, σ[i]? = some (some (.ref p))) → H1 p = none := fun p e => if_pos e
  have H1n : ∀ p, (¬ ∃ i ∈ O, σ[i]? = some (some (.ref p))) → H1 p = H p := fun p e => if_neg e
  have kr : H1 r = some (.lst [.int c]) := by
    rw [H1n r fun ⟨i, hi, e⟩ => ok.ne i hi r e rfl]
    exact ok.hr
  have le : Same H1 H := fun b o e => by
    by_cases z : ∃ i ∈ O, σ[i]? = some (some (.ref b))
    · rw [H1y b z] at e; cases e
    · rw [H1n b z] at e; exact e
  have key0 : ∀ b o, hid r H0 b = some o → b ≠ r ∧ H1 b = H b := fun b o e => by
    refine ⟨(hid_some e).1, H1n b fun ⟨i, hi, z⟩ => by rw [hf.own i hi b z] at e; cases e⟩
  have key : ∀ F' H', Gr F H1 F' H' → QGr r c F0 H0 F' H' := fun F' H' g => by
    have fr : F' r = none := g.hid r _ kr ok.fr
    refine ⟨⟨hf.gr.ff.trans g.ff, ⟨fun b o e n => ?_, fun b ps e => ?_⟩, fun b o e => ?_, fun p o e n => ?_⟩, fr, g.hh.l kr⟩
    · obtain ⟨k, hb⟩ := key0 b o e
      rw [hid_ne k]
      have e2 := (hid_some (hf.gr.hh.nn b o e n)).2
      rw [← hb] at e2
      exact g.hh.nn b o e2 n
    · obtain ⟨k, hb⟩ := key0 b _ e
      obtain ⟨ps1, e1, t1⟩ := hf.gr.hh.tb b ps e
      have e1 := (hid_some e1).2
      rw [← hb] at e1
      obtain ⟨ps2, e2, t2⟩ := g.hh.tb b ps1 e1
      exact ⟨ps2, by rw [hid_ne k]; exact e2, fun z => t2 (t1 z)⟩
    · rw [hid_ne fun z => by rw [z, fr] at e; cases e]
      exact g.fh b o e
    · obtain ⟨k, hb⟩ := key0 p o e
      obtain ⟨o', e'⟩ := hf.gr.hh.some_ e
      have e' := (hid_some e').2
      rw [← hb] at e'
      exact g.hid p o' e' (hf.gr.hid p o e n)
  have back : ∀ {O2 : List Nat} {σ' F' H' e}, SOk G O2 F' H' σ' e → Fr F H1 O2 F' H' σ' → QOk G O2 r c F' H' σ' e ∧ Fr F0 (hid r H0) O2 F' (hid r H') σ' := fun {O2 σ' F' H' e} s f => by
    have g := key F' H' f.gr
    have ne : ∀ i ∈ O2, ∀ p, σ'[i]? = some (some (.ref p)) → p ≠ r := fun i hi p hp z => by
      have := f.own i hi p hp
      rw [z, kr] at this
      cases this
    refine ⟨⟨s.rehid g.fr g.hr ne, g.fr, g.hr⟩, ⟨g.g, fun i hi p hp => ?_⟩⟩
    cases z : hid r H0 p with
    | none => rfl
    | some o =>
      have := f.own i hi p hp
      obtain ⟨o', e'⟩ := hf.gr.hh.some_ z
      rw [(key0 p o z).2, (hid_some e').2] at this
      cases this
  refine ⟨F, H1, F, env, o1, ok.sok, ⟨⟨Same.refl F, .of le, ok.sok.fh, fun p o e n => n⟩, fun i hi p hp => H1y p ⟨i, hi, hp⟩⟩, h1, ?_⟩
  cases o1 with
  | nx e => exact fun σ' F' H' s' f' k' => q σ' F' H' (back s' f').1 (back s' f').2 k'
  | bk e => exact fun σ' F' H' s' f' k' => q σ' F' H' (back s' f').1 (back s' f').2 k'
  | ct e => exact fun σ' F' H' s' f' k' => q σ' F' H' (back s' f').1 (back s' f').2 k'
  | rt d => exact fun v F' H' g' r' => q v F' H' (key F' H' g') r'
theorem qliftS {f : SS} (h : PS X st (sV (gx X) (oV' (gx X)) O O' Ob f)) : PS X st (qS (gx X) O O' Ob (qlS f)) := h.imp fun D σ H h => qlift_core h
theorem qliftSs {f : SS} {sts : List Stmt} (h : PSs X sts (sV (gx X) (oV' (gx X)) O O' Ob f)) : PSs X sts (qS (gx X) O O' Ob (qlS f)) := h.imp fun D σ H h => qlift_core h
theorem qbn : PSs X [] (qS (gx X) O O Ob qNext) := pss_nil.imp fun D σ H ⟨F0, H0, F, env, r, c, out, ok, hf, ho, q⟩ => by
  cases ho
  exact q σ F H ok hf (Same.refl F)
theorem qbc {f g : QS} (h1 : PS X st (qS (gx X) O O' Ob f)) (h2 : PSs X rest (qS (gx X) O' O'' Ob g)) : PSs X (st :: rest) (qS (gx X) O O'' Ob (qSeq f g)) :=
  (pss_cons h1 h2).imp fun D σ H ⟨F0, H0, F, env, r, c, out, ok, hf, ho, q⟩ => by
    simp only [qSeq] at ho
    obtain ⟨o1, h1, h2⟩ := bind_some ho
    refine ⟨F0, H0, F, env, r, c, o1, ok, hf, h1, ?_⟩
    cases o1 with
    | nx e c1 => exact fun σ' F' H' s' f' k' => ⟨F0, H0, F', e, r, c1, out, s', f', h2, q.ff k'⟩
    | bk e => cases h2; exact q
    | ct e => cases h2; exact q
    | rt d => cases h2; exact q
theorem qbo {f : QS} (h1 : PS X st (qS (gx X) O O' Ob f)) : PSs X [st] (qS (gx X) O O' Ob f) := pss_one h1
/-- fewer open names -/
theorem qless_core {G : Gx} {r : Nat} {c : Int} {F0 H0 F H : Hp} {σ : L2.St} {env : Env} (ok : QOk G O r c F H σ env) (hf : Fr F0 (hid r H0) O F (hid r H) σ) (h : ∀ i ∈ O', i ∈ O) : ∃ F', QOk G O' r c F' H σ env ∧ Fr F0 (hid r H0) O' F' (hid r H) σ ∧ Same F F' := by
  obtain ⟨F2, s2, f2, k2⟩ := SOk.less ok.s hf h
  refine ⟨F2, ⟨s2, ?_, ok.hr⟩, f2, k2⟩
  cases z : F2 r with
  | none => rfl
  | some o =>
    have := s2.fh r o z
    rw [hid_r] at this
    cases this
theorem qsless {f : QS} (hs : PS X st (qS (gx X) O O' Ob f)) (h : ∀ i ∈ O'', i ∈ O' := by decide) : PS X st (qS (gx X) O O'' Ob f) :=
  hs.imp fun D σ H ⟨F0, H0, F, env, r, c, out, ok, hf, ho, q⟩ => ⟨F0, H0, F, env, r, c, out, ok, hf, ho, by
    cases out with
    | nx e => exact fun σ' F' H' s' f' k' => let ⟨F2, s2, f2, k2⟩ := qless_core s' f' h; q σ' F2 H' s2 f2 (k'.trans k2)
    | bk e => exact q
    | ct e => exact q
    | rt d => exact q⟩
theorem qbless {f : QS} {sts : List Stmt} (hs : PSs X sts (qS (gx X) O O' Ob f)) (h : ∀ i ∈ O'', i ∈ O' := by decide) : PSs X sts (qS (gx X) O O'' Ob f) :=
  hs.imp fun D σ H ⟨F0, H0, F, env, r, c, out, ok, hf, ho, q⟩ => ⟨F0, H0, F, env, r, c, out, ok, hf, ho, by
    cases out with
    | nx e => exact fun σ' F' H' s' f' k' => let ⟨F2, s2, f2, k2⟩ := qless_core s' f' h; q σ' F2 H' s2 f2 (k'.trans k2)
    | bk e => exact q
    | ct e => exact q
    | rt d => exact q⟩
theorem qspre {f : QS} (hs : PS X st (qS (gx X) O' O'' Ob f)) (h : ∀ i ∈ O', i ∈ O := by decide) : PS X st (qS (gx X) O O'' Ob f) :=
  hs.imp fun D σ H ⟨F0, H0, F, env, r, c, out, ok, hf, ho, q⟩ => by
    obtain ⟨F2, s2, f2, k2⟩ := qless_core ok hf h
    exact ⟨F0, H0, F2, env, r, c, out, s2, f2, ho, q.ff k2⟩
theorem qbpre {f : QS} {sts : List Stmt} (hs : PSs X sts (qS (gx X) O' O'' Ob f)) (h : ∀ i ∈ O', i ∈ O := by decide) : PSs X sts (qS (gx X) O O'' Ob f) :=
  hs.imp fun D σ H ⟨F0, H0, F, env, r, c, out, ok, hf, ho, q⟩ => by
    obtain ⟨F2, s2, f2, k2⟩ := qless_core ok hf h
    exact ⟨F0, H0, F2, env, r, c, out, s2, f2, ho, q.ff k2⟩
theorem qret {e : Expr} {a : QE} (he : PE X e (qV (gx X) O a)) : PS X (.Return (some e) pos) (qS (gx X) O O' Ob (qRet a)) :=
  (ps_ret he).imp fun D σ H ⟨F0, H0, F, env, r, c, out, ok, hf, ho, q⟩ => by
    simp only [qRet] at ho
    obtain ⟨⟨d, c1⟩, h1, h2⟩ := map_some ho
    subst h2
    exact ⟨F, env, r, c, d, c1, ok, h1, fun v F' H' g r' => q v F' H' ⟨hf.gr.trans g.g, g.fr, g.hr⟩ r'⟩
theorem qif_ {c : Expr} {a b : List Stmt} {fc : QT} {fa fb : QS} (hc : PT X c (qT (gx X) O fc)) (ha : PSs X a (qS (gx X) O O' Ob fa)) (hb : PSs X b (qS (gx X) O O' Ob fb)) : PS X (.If c a b pos) (qS (gx X) O O' Ob (qIfS fc fa fb)) :=
  (ps_if hc ha hb).imp fun D σ H ⟨F0, H0, F, env, r, c, out, ok, hf, ho, q⟩ => by
    simp only [qIfS] at ho
    obtain ⟨⟨k, c1⟩, h1, h2⟩ := bind_some ho
    refine ⟨F, env, r, c, k, c1, ok, h1, fun F1 H1 g1 => ?_⟩
    have q' := q.ff g1.ff
    cases k with
    | true => exact ⟨F0, H0, F1, env, r, c1, out, ok.gr g1, hf.step g1.g, h2, q'⟩
    | false => exact ⟨F0, H0, F1, env, r, c1, out, ok.gr g1, hf.step g1.g, h2, q'⟩
theorem qset {x : Str} {e : Expr} {a : QE} {pos' : Pos} (i : Nat) (hN : X.N.Nodup) (he : PE X e (qV (gx X) O a)) (hO : i ∉ O := by decide) (hi : X.N[i]? = some x := by rfl) (hx : Loc X.env.scope x := by first | exact Or.inl rfl | exact Or.inr rfl) (hs : swapsWith e (some (.Name x pos')) pos.line X.env = pure false := by rfl)
    (hf : X.fn x = true ∨ X.env.scope.names.lookup x = some .local := by first | exact .inl rfl | exact .inr rfl | assumption) : PS X (.Assign [.Name x pos'] e pos) (qS (gx X) O O Ob (qAsg a (TL.gName i))) :=
  (ps_set hN hi hx he hs hf).imp fun D σ H ⟨F0, H0, F, env, r, c, out, ok, hf, ho, q⟩ => by
    simp only [qAsg, TL.gName] at ho
    obtain ⟨⟨d, c1⟩, h1, h2⟩ := bind_some ho
    cases h2
    exact ⟨F, env, r, c, d, c1, ok, h1, fun v F1 H1 g1 r1 => q _ F1 H1 ⟨(ok.s.gr g1.g).set hO r1, g1.fr, g1.hr⟩ (fr_set (hf.step g1.g) hO) g1.ff⟩
theorem qasg {tg e : Expr} {a : QE} {g : SG} {sl : List Nat} (he : PE X e (qV (gx X) O a)) (hg : PG X tg (tG (gx X) O sl g)) (hsl : ∀ i ∈ O, i ∉ sl := by decide) (hs : swapsWithSole [tg] e pos.line X.env = pure false := by rfl) (hw : swappedStores [tg] e X.env = pure none := by rfl)
    (h1 : (assignEach [tg] X.env).map (·.2) = [assign tg X.env] := by rfl) : PS X (.Assign [tg] e pos) (qS (gx X) O O Ob (qAsg a g)) :=
  (ps_asg he hg hs hw h1).imp fun D σ H ⟨F0, H0, F, env, r, c, out, ok, hf, ho, q⟩ => by
    simp only [qAsg] at ho
    obtain ⟨⟨d, c1⟩, h1, h2⟩ := bind_some ho
    obtain ⟨e', h3, h4⟩ := map_some h2
    subst h4
    refine ⟨F, env, r, c, d, c1, ok, h1, fun v F1 H1 g1 r1 => ⟨F1, env, d, e', (ok.gr g1).sok, r1, h3, fun σ' s' l' k' => q σ' F1 H1 ⟨s'.rehid g1.fr g1.hr fun i hi p hp => ok.ne i hi p (by rw [← k' i (hsl i hi)]; exact hp), g1.fr, g1.hr⟩ ⟨hf.gr.trans g1.g, fun i hi p hp => hf.own i hi p ?_⟩ g1.ff⟩⟩
    rw [← k' i (hsl i hi)]
    exact hp
theorem qdrop {e : Expr} {a : QE} (he : PE X e (qV (gx X) O a)) (hs : swapsWith e none pos.line X.env = pure false := by rfl) : PS X (.Expr e pos) (qS (gx X) O O Ob (qDrop a)) :=
  (ps_expr he hs).imp fun D σ H ⟨F0, H0, F, env, r, c, out, ok, hf, ho, q⟩ => by
    simp only [qDrop] at ho
    obtain ⟨⟨d, c1⟩, h1, h2⟩ := map_some ho
    subst h2
    exact ⟨F, env, r, c, d, c1, ok, h1, fun v F1 H1 g1 r1 => q σ F1 H1 (ok.gr g1) (hf.step g1.g) g1.ff⟩
theorem qpar {x y : Str} {a b : Expr} {fa fb : QE} {px py pt : Pos} {kt k2 pt2} (i j : Nat) (hc : X.calm = true) (hN : X.N.Nodup) (ha : PE X a (qV (gx X) O fa)) (hb : PE X b (qV (gx X) O fb)) (hOi : i ∉ O := by decide) (hOj : j ∉ O := by decide) (hi : X.N[i]? = some x := by rfl) (hj : X.N[j]? = some y := by rfl) (hij : i ≠ j := by decide)
    (hx : X.env.scope.names.lookup x = some .local := by rfl) (hy : X.env.scope.names.lookup y = some .local := by rfl)
    (hw : swappedStores [.Tuple [.Name x px, .Name y py] kt pt] (.Tuple [a, b] k2 pt2) X.env = pure (some [x, y]) := by rfl)
    (hs : swapsWithSole [.Tuple [.Name x px, .Name y py] kt pt] (.Tuple [a, b] k2 pt2) pos.line X.env = pure false := by rfl) (hs1 : starEach [a, b] X.env = (false, eval a X.env) :: starEach [b] X.env := by rfl) (hs2 : starEach [b] X.env = (false, eval b X.env) :: starEach [] X.env := by rfl) :
    PS X (.Assign [.Tuple [.Name x px, .Name y py] kt pt] (.Tuple [a, b] k2 pt2) pos) (qS (gx X) O O Ob (qPar i j fa fb)) :=
  (ps_par hc hN hi hj hij hx hy (pa_cons ha (pa_cons hb pa_nil hs2) hs1) hw hs).imp fun D σ H ⟨F0, H0, F, env, r, c, out, ok, hf, ho, q⟩ => by
    simp only [qPar] at ho
    obtain ⟨⟨d, c1⟩, h1, ho⟩ := bind_some ho
    obtain ⟨⟨e, c2⟩, h2, h3⟩ := map_some ho
    subst h3
    refine ⟨F, env, r, c, d, c1, ok, h1, fun v F1 H1 g1 r1 => ⟨F1, env, r, c1, e, c2, ok.gr g1, h2, fun u F2 H2 g2 r2 => ⟨v, u, rfl, ?_⟩⟩⟩
    have g := g1.trans g2
    exact q _ F2 H2 ⟨((ok.s.gr g.g).set hOi (r1.mono g2.ff)).set hOj r2, g.fr, g.hr⟩ (fr_set (fr_set (hf.step g.g) hOi) hOj) g.ff
theorem qapp {x : Str} {e : Expr} {a : QE} {p1 apos cpos : Pos} (i : Nat) (he : PE X e (qV (gx X) O a)) (hi : i ∈ O := by decide) (hN : X.N[i]? = some x := by rfl) (hv : Vis X.env.scope x := by first | exact Or.inl rfl | exact Or.inr (Or.inl rfl) | exact Or.inr (Or.inr rfl)) (hd : (x == ("__debug__" : Str)) = false := by decide)
    (hcd : (x == ("__classdict__" : Str)) = false := by decide)
    (hbase : attributeBase (.Name x p1) "append" X.env (eval (.Name x p1) X.env) = eval (.Name x p1) X.env := by rfl)
    (hfew : ((backTo cpos (starEach [e] X.env)).all (fun x => !x.1) && (backToKw cpos (keywordEach [] X.env)).all (fun x => x.1.isSome)
      && decide ([e].length + ([] : List Keyword).length + (if ([] : List Keyword).isEmpty then 0 else 1) < 30)) = true := by rfl)
    (hline : (apos.endLine == cpos.line) = true := by rfl) (hs1 : starEach [e] X.env = (false, eval e X.env) :: starEach [] X.env := by rfl) (hplain : (backTo cpos (starEach [] X.env)).any (·.1) = false := by rfl)
    (hs : swapsWith (.Call (.Attribute (.Name x p1) "append" apos) [e] [] cpos) none pos.line X.env = pure false := by rfl) :
    PS X (.Expr (.Call (.Attribute (.Name x p1) "append" apos) [e] [] cpos) pos) (qS (gx X) O O Ob (qApp i a)) :=
  (ps_expr (pe_bm PySem.F.plainAttrs_list PySem.F.slot_list_append PySem.F.type_list_append mt_append (pe_var hN hv hd hcd) (pa_cons he pa_nil hs1) hbase hfew hline hs1 hplain) hs).imp fun D σ H ⟨F0, H0, F, env, r, c, out, ok, hf, ho, q⟩ => by
    simp only [qApp] at ho
    obtain ⟨⟨d, c1⟩, h1, ho⟩ := bind_some ho
    obtain ⟨p, vs, ds, h2, h3, h4, h5, h6⟩ := ok.s.own i hi
    rw [show env.getD i none = some (.list ds) by rw [List.getD_eq_getElem?_getD, h3]; rfl] at ho
    simp only at ho
    split at ho
    · rename_i hz
      cases ho
      refine ⟨.ref p, h2, .inl ⟨rfl, vs, .inl (.inl (hid_le _ _ h5))⟩, F, env, r, c, d, c1, ok, h1, fun v F1 H1 g1 r1 => ⟨p, vs, v, rfl, rfl, hid_le _ _ (g1.g.hh.l h5), by rw [h6.length]; exact hz, ?_⟩⟩
      have hne : p ≠ r := (hid_some h5).1
      have eH : hid r (upd H1 p (.lst (vs ++ [v]))) = upd (hid r H1) p (.lst (vs ++ [v])) := by
        funext b
        by_cases hb : b = r
        · subst hb
          rw [hid_r, upd_ne (fun z => hne z.symm), hid_r]
        · rw [hid_ne hb]
          by_cases hp : b = p
          · subst hp
            rw [upd_same, upd_same]
          · rw [upd_ne hp, upd_ne hp, hid_ne hb]
      refine q σ F1 _ ⟨?_, g1.fr, by rw [upd_ne (fun z => hne z.symm)]; exact g1.hr⟩ ?_ g1.ff
      · rw [eH]
        exact (ok.s.gr g1.g).chg hi h2 ((h6.mono g1.ff).append (.cons r1 .nil))
      · rw [eH]
        exact fr_chg (ok.s.gr g1.g) (hf.step g1.g) hi h2
    · cases ho
/-! ### for -/
def qI (G : Gx) (O : List Nat) (f : QA) : TI := fun σ H R => ∃ F env r c ds c', QOk G O r c F H σ env ∧ f r env c = some (ds, c') ∧ ∀ J F' H', QGr r c' F H F' H' → ds.length ≤ sizeLine → ItV G J F' ds → R J H'
theorem qliftI {tg iter : Expr} {f : SI} (h : PI X tg iter (iV (gx X) O f)) : PI X tg iter (qI (gx X) O (qlI f)) := h.imp fun σ H R ⟨F, env, r, c, ds, c', ok, hf, q⟩ => by
  simp only [qlI] at hf
  obtain ⟨x, h1, h2⟩ := map_some hf
  cases h2
  exact ⟨F, env, ds, ok.sok, h1, fun J F' H' g hz hJ => q J F' H' (ok.of g) hz hJ⟩
theorem qfor {tg iter : Expr} {body : List Stmt} {fi : QA} {g : SG} {fb : QS} {sl : List Nat} (hp : PassesOwn (model X.prog X.w) X.A X.env X.xe) (hc : X.calm = true) (hi : PI X tg iter (qI (gx X) O fi)) (hg : PG X tg (tG (gx X) O sl g)) (hb : PSs X body (qS (gx X) O O O fb)) (hsl : ∀ i ∈ O, i ∉ sl := by decide)
    (hs : ∀ x, foldedSetIterable iter X.env x = pure x := by intro _; rfl) : PS X (.For tg iter body [] pos) (qS (gx X) O O Ob (qFor fi g fb)) :=
  (ps_for hp hc hi hg hb hs).imp fun D σ H ⟨F0, H0, F, env, r, c, out, ok, hf, ho, q⟩ => by
    simp only [qFor] at ho
    obtain ⟨⟨ds, c0⟩, h1, ho⟩ := bind_some ho
    refine ⟨F, env, r, c, ds, c0, ok, h1, fun J F1 H1 g1 hz hJ => ?_⟩
    refine ⟨fun i m σ' H' => ∃ F' env' c', QOk (gx X) O r c' F' H' σ' env' ∧ Fr F0 (hid r H0) O F' (hid r H') σ' ∧ Same F1 F' ∧ i ≤ ds.length ∧ m = ds.length - i ∧ qForGo g fb r (ds.drop i) env' c' = some out,
      ⟨ds.length, F1, env, c0, ok.gr g1, hf.step g1.g, Same.refl F1, Nat.zero_le _, by omega, ho⟩, ?_⟩
    rintro i m σ' H' ⟨F', env', c', s', f', k', hi, rfl, hgo⟩
    have hJ' := hJ i F' H' k' s'.sok.fh
    cases hd : ds[i]? with
    | none =>
      have hi' : ds.length ≤ i := List.getElem?_eq_none_iff.mp hd
      rw [List.drop_eq_nil_of_le hi'] at hgo
      cases hgo
      exact .inl ⟨hJ'.2 hd, q σ' F' H' s' f' (g1.ff.trans k')⟩
    | some x =>
      have hi' : i < ds.length := (List.getElem?_eq_some_iff.mp hd).1
      have hx : ds[i] = x := (List.getElem?_eq_some_iff.mp hd).2
      have hdr : ds.drop i = x :: ds.drop (i + 1) := by rw [List.drop_eq_getElem_cons hi', hx]
      rw [hdr] at hgo
      simp only [qForGo] at hgo
      obtain ⟨env1, hg1, hgo⟩ := bind_some hgo
      obtain ⟨o, hb1, hgo⟩ := bind_some hgo
      refine .inr ⟨(hJ'.1 x hd).1, fun σ2 H2 => ∃ F2 env2 c2, QOk (gx X) O r c2 F2 H2 σ2 env2 ∧ Fr F0 (hid r H0) O F2 (hid r H2) σ2 ∧ Same F' F2 ∧ qForGo g fb r (ds.drop (i + 1)) env2 c2 = some out, fun σ2 H2 h => ?_, fun v H2 hy => ?_⟩
      · obtain ⟨F2, env2, c2, s2, f2, k2, hg2⟩ := h
        exact ⟨ds.length - (i + 1), by omega, F2, env2, c2, s2, f2, k'.trans k2, hi', rfl, hg2⟩
      · obtain ⟨rfl, rv⟩ := (hJ'.1 x hd).2 v H2 hy
        refine ⟨F', env', x, env1, s'.sok, rv, hg1, fun σ2 s2 ln kp => ⟨F0, H0, F', env1, r, c', o, ⟨s2.rehid s'.fr s'.hr fun j hj p hp => s'.ne j hj p (by rw [← kp j (hsl j hj)]; exact hp), s'.fr, s'.hr⟩, ⟨f'.gr, fun j hj p hp => f'.own j hj p (by rw [← kp j (hsl j hj)]; exact hp)⟩, hb1, ?_⟩⟩
        cases o with
        | nx e => exact fun σ3 F3 H3 s3 f3 k3 => ⟨F3, e, _, s3, f3, k3, hgo⟩
        | ct e => exact fun σ3 F3 H3 s3 f3 k3 => ⟨F3, e, _, s3, f3, k3, hgo⟩
        | bk e =>
          cases hgo
          exact fun σ3 F3 H3 s3 f3 k3 => q σ3 F3 H3 s3 f3 ((g1.ff.trans k').trans k3)
        | rt d =>
          cases hgo
          exact q
end
section
variable {P : Program} {w : World} {G : Gx} {base : Heap}
theorem fnQ {x qual : Str} {st : Stmt} {f : Addr} {fd : FuncData} {N ps : List Str} {k nl : Nat} {body : QS} (Fn : Fun G.K x qual st f fd) (S : FnScope N ps (defScope st)) (hN : N.length = ps.length + nl) {Oe : List Nat}
    (hb : ∀ (cdv : Value) (A : Around) (outer : List PySem.Env) (s : Shared) (H : Hp) (E : XK), Room k (A.deeper (envOfC qual (defScope st) s.heap.objs.size f cdv)) →
      PSs (cxOf CX0 P w G.K G.mg base N qual (defScope st) f cdv A outer s H E).nox (defBody st) (qS G [] Oe [] body)) : FnOk P w G.K G.mg base CX0 (k + 1) f fd ps (spQ G ps.length (runQ ps.length nl body)) := by
  refine Fn.ok S (fun vs H Q E h => ?_) (fun cdv A outer s H vs Q E hr h => ?_)
  · obtain ⟨F, r, c, ds, d, c', sm, fr, hr, rp, hl, _, _⟩ := h
    rw [rp.length, hl]
  · obtain ⟨F, r, c, ds, d, c', sm, fr, hr', rp, hl, hm, q⟩ := h
    refine ⟨_, hb cdv A outer s H E hr, ?_⟩
    simp only [runQ, hl, if_pos rfl] at hm
    obtain ⟨out, h1, h2⟩ := bind_some hm
    refine ⟨F, H, F, _, r, c, out, ⟨start_ok hN sm rp hl, fr, hr'⟩, ⟨Gr.refl sm.sm, fun i h => by cases h⟩, h1, ?_⟩
    cases out with
    | nx e c1 =>
      cases h2
      exact fun σ' F' H' s' f' k' => q .non F' H' ⟨f'.gr, s'.fr, s'.hr⟩ .non
    | rt d' c1 =>
      cases h2
      exact q
    | bk e => cases h2
    | ct e => cases h2
end
end TL

set_option Elab.async false
set_option linter.all false
set_option maxRecDepth 100000
/-! The tree layer with a pool: the pool itself. -/
namespace TL
open PySem PySem.Spec PyProof.Rows L2
def poolD (r : Nat) (rows : List D) : D := .dict [(.int (r : Int), .list rows)]
def rowsOf : D → Option D
  | .dict [(.int _, .list rows)] => some (.list rows)
  | _ => none
def cellOf : D → Option Int
  | .dict [(.int r, .list _)] => some r
  | _ => none
@[simp] def eRows (i : Nat) : SE := fun env => (env.getD i none).bind rowsOf
@[simp] def qCnt (i : Nat) : QE := fun r env c => (env.getD i none).bind fun d => (cellOf d).bind fun k => if k = (r : Int) then some (.int c, c) else none
/-- pool[1][0] = e -/
@[simp] def qStore (i : Nat) (a : QE) : QS := fun r env c => (a r env c).bind fun x => (toI x.1).bind fun n => (env.getD i none).bind fun d => (cellOf d).bind fun k => if k = (r : Int) then some (.nx env n) else none
theorem rows_of {d e : D} (h : rowsOf d = some e) : ∃ k rows, d = .dict [(.int k, .list rows)] ∧ e = .list rows := by
  unfold rowsOf at h
  split at h
  · exact ⟨_, _, rfl, (Option.some.inj h).symm⟩
  · cases h
theorem cell_of {d : D} {k : Int} (h : cellOf d = some k) : ∃ rows, d = .dict [(.int k, .list rows)] := by
  unfold cellOf at h
  split at h
  · have := Option.some.inj h
    subst this
    exact ⟨_, rfl⟩
  · cases h
section
variable {X : Cx} {O O' Ob : List Nat} {e : Expr} {pos p1 p2 p3 : Pos} {x : Str}
theorem tC_go {v : V} {σ : L2.St} {H : Hp} {Q : VK} (q : Q v H) : tC v σ H Q := q
theorem erows (i : Nat) {k : Nat} (hO : i ∉ O := by decide) (hN : X.N[i]? = some x := by rfl) (hv : Vis X.env.scope x := by first | exact Or.inl rfl | exact Or.inr (Or.inl rfl) | exact Or.inr (Or.inr rfl)) (hd : (x == ("__debug__" : Str)) = false := by decide)
    (hcd : (x == ("__classdict__" : Str)) = false := by decide) : PE X (.Subscript (.Name x p1) (.Constant (.int 0) k p2) pos) (rV (gx X) O (eRows i)) :=
  (pe_ix ix_list (pe_var hN hv hd hcd) pe_int (fun _ _ => rfl)).imp fun σ H Q ⟨F, env, d, hs, hf, q⟩ => by
    simp only [eRows] at hf
    obtain ⟨d0, h1, h2⟩ := bind_some hf
    obtain ⟨k, rows, rfl, rfl⟩ := rows_of h2
    obtain ⟨v, h3, h4⟩ := hs.imm i _ (getD_some h1) hO
    cases h4 with
    | pl s1 s2 ra => exact ⟨_, h3, tC_go ⟨_, _, 0, _, rfl, rfl, hs.fh.seq s1, rfl, q.same hs.fh (.lst s2 ra)⟩⟩
theorem qcnt (i : Nat) {k k2 : Nat} {p4 : Pos} (hO : i ∉ O := by decide) (hN : X.N[i]? = some x := by rfl) (hv : Vis X.env.scope x := by first | exact Or.inl rfl | exact Or.inr (Or.inl rfl) | exact Or.inr (Or.inr rfl)) (hd : (x == ("__debug__" : Str)) = false := by decide)
    (hcd : (x == ("__classdict__" : Str)) = false := by decide) : PE X (.Subscript (.Subscript (.Name x p1) (.Constant (.int 1) k p2) p3) (.Constant (.int 0) k2 p4) pos) (qV (gx X) O (qCnt i)) :=
  (pe_ix ix_list (pe_ix ix_list (pe_var hN hv hd hcd) pe_int (fun _ _ => rfl)) pe_int (fun _ _ => rfl)).imp fun σ H Q ⟨F, env, r, c, d, c', ok, hf, q⟩ => by
    simp only [qCnt] at hf
    obtain ⟨d0, h1, hf⟩ := bind_some hf
    obtain ⟨k, h2, hf⟩ := bind_some hf
    split at hf
    · rename_i hk
      cases hf
      obtain ⟨rows, rfl⟩ := cell_of h2
      obtain ⟨v, h3, h4⟩ := ok.s.imm i _ (getD_some h1) hO
      cases h4 with
      | pl s1 s2 ra =>
        rename_i r' _
        have e : r' = r := by omega
        subst e
        exact ⟨_, h3, tC_go ⟨_, _, 1, _, rfl, rfl, ok.sok.fh.seq s1, rfl, tC_go ⟨_, [.int c], 0, _, rfl, rfl, .inl (.inl ok.hr), rfl, q _ F H ok.refl (.int c)⟩⟩⟩
    · cases hf
theorem qstore (i : Nat) {k k2 : Nat} {p4 : Pos} {a : QE} (he : PE X e (qV (gx X) O a)) (hO : i ∉ O := by decide) (hN : X.N[i]? = some x := by rfl) (hv : Vis X.env.scope x := by first | exact Or.inl rfl | exact Or.inr (Or.inl rfl) | exact Or.inr (Or.inr rfl)) (hd : (x == ("__debug__" : Str)) = false := by decide)
    (hcd : (x == ("__classdict__" : Str)) = false := by decide)
    (hs : swapsWithSole [.Subscript (.Subscript (.Name x p1) (.Constant (.int 1) k p2) p3) (.Constant (.int 0) k2 p4) pos] e pos.line X.env = pure false := by rfl) (hw : swappedStores [.Subscript (.Subscript (.Name x p1) (.Constant (.int 1) k p2) p3) (.Constant (.int 0) k2 p4) pos] e X.env = pure none := by rfl)
    (h1 : (assignEach [.Subscript (.Subscript (.Name x p1) (.Constant (.int 1) k p2) p3) (.Constant (.int 0) k2 p4) pos] X.env).map (·.2) = [assign (.Subscript (.Subscript (.Name x p1) (.Constant (.int 1) k p2) p3) (.Constant (.int 0) k2 p4) pos) X.env] := by rfl) {pos' : Pos}
    (hs' : swapsWithSole [.Subscript (.Subscript (.Name x p1) (.Constant (.int 1) k p2) p3) (.Constant (.int 0) k2 p4) pos] e pos'.line X.env = pure false := by rfl) :
    PS X (.Assign [.Subscript (.Subscript (.Name x p1) (.Constant (.int 1) k p2) p3) (.Constant (.int 0) k2 p4) pos] e pos') (qS (gx X) O O Ob (qStore i a)) :=
  (ps_asg he (pg_sub (pe_ix ix_list (pe_var hN hv hd hcd) pe_int (fun _ _ => rfl)) pe_int set_list) hs' hw h1).imp fun D σ H ⟨F0, H0, F, env, r, c, out, ok, hf, ho, q⟩ => by
    simp only [qStore] at ho
    obtain ⟨⟨d, c1⟩, h1, ho⟩ := bind_some ho
    obtain ⟨n, h2, ho⟩ := bind_some ho
    obtain ⟨d0, h3, ho⟩ := bind_some ho
    obtain ⟨k, h4, ho⟩ := bind_some ho
    split at ho
    · rename_i hk
      cases ho
      obtain ⟨rows, rfl⟩ := cell_of h4
      have e2 := toI_some h2
      simp only at e2
      subst e2
      refine ⟨F, env, r, c, _, c1, ok, h1, fun v F1 H1 g1 r1 => ?_⟩
      cases r1
      obtain ⟨v, h5, h6⟩ := ok.s.imm i _ (getD_some h3) hO
      cases h6 with
      | pl s1 s2 ra =>
        rename_i r' _
        have e : r' = r := by omega
        subst e
        have g1h : Same F H1 := g1.ff.trans g1.fh
        refine ⟨_, h5, tC_go ⟨_, _, 1, _, rfl, rfl, g1h.seq s1, rfl, tC_go ⟨r', [.int c1], 0, 0, rfl, rfl, g1.hr, rfl, ?_⟩⟩⟩
        have eH : hid r' (upd H1 r' (.lst [.int n])) = hid r' H1 := by
          funext b
          by_cases hb : b = r'
          · subst hb; rw [hid_r, hid_r]
          · rw [hid_ne hb, hid_ne hb, upd_ne hb]
        refine q σ F1 (upd H1 r' (.lst [.int n])) ⟨?_, g1.fr, upd_same⟩ ?_ g1.ff
        · rw [eH]
          exact ok.s.gr g1.g
        · rw [eH]
          exact hf.step g1.g
    · cases ho
/-! iterating by a count -/
theorem qirng1 {tg a : Expr} {fa : QE} {p : Pos} (hg : Gl X "range") (hm : X.mg "range" = none) (ha : PE X a (qV (gx X) O fa)) (hs : starEach [a] X.env = [(false, eval a X.env)] := by rfl) : PI X tg (.Call (.Name "range" p) [a] [] pos) (qI (gx X) O (qRng1 fa)) :=
  (pi_range1 hg hm (pa_cons ha pa_nil hs) hs).imp fun σ H R ⟨F, env, r, c, ds, c', ok, hf, q⟩ => by
    simp only [qRng1] at hf
    obtain ⟨⟨x, c1⟩, h1, hf⟩ := bind_some hf
    obtain ⟨n, h2, hf⟩ := bind_some hf
    obtain ⟨d, h3, hf⟩ := map_some hf
    cases hf
    have e2 := toI_some h2
    simp only at e2
    subst e2
    obtain ⟨_, _, z1, z2, z3, e4⟩ := rngSplit h3
    refine ⟨F, env, r, c, _, _, ok, h1, fun v F1 H1 g1 r1 => ?_⟩
    cases r1
    refine ⟨n, rfl, z1, z2, ?_⟩
    rw [Int.sub_zero] at e4 z3
    subst e4
    exact q _ F1 H1 g1 (by rw [range_len]; exact z3) (itv_range 0 _)
end
/-! ### a new pool -/
def spP (G : Gx) (n : Nat) (m : List D → Option D) : Sp := fun vs H Q _ => ∃ F ds rows, Fz G F H ∧ RpAll G F vs ds ∧ ds.length = n ∧ m ds = some (.list [.list rows, .list [.int 0]]) ∧
  ∀ v (r : Nat) F' H', Gr F H F' H' → H r = none → F' r = none → H' r = some (.lst [.int 0]) → Rp G F' v (poolD r rows) → Q v H'
/-- how a def hands back a new pool -/
def oP' (G : Gx) : RK := fun F0 H0 d k => ∃ rows, d = .list [.list rows, .list [.int 0]] ∧ ∀ v (r : Nat) F' H', Gr F0 H0 F' H' → H0 r = none → F' r = none → H' r = some (.lst [.int 0]) → Rp G F' v (poolD r rows) → k v H'
section
variable {X : Cx} {O O' Ob : List Nat} {e : Expr} {pos p1 p2 p3 : Pos} {x : Str}
/-- return [rows, [0]] -/
theorem sretP {a : SE} {k : Nat} (he : PE X e (rV (gx X) O a)) (hs1 : starEach [e, .List [.Constant (.int 0) k p1] p2] X.env = (false, eval e X.env) :: starEach [.List [.Constant (.int 0) k p1] p2] X.env := by rfl)
    (hs2 : starEach [.List [.Constant (.int 0) k p1] p2] X.env = (false, eval (.List [.Constant (.int 0) k p1] p2) X.env) :: starEach [] X.env := by rfl) (hs3 : starEach [.Constant (.int 0) k p1] X.env = (false, eval (.Constant (.int 0) k p1) X.env) :: starEach [] X.env := by rfl) :
    PS X (.Return (some (.List [e, .List [.Constant (.int 0) k p1] p2] p3)) pos) (sV (gx X) (oP' (gx X)) O O' Ob (sRet (eLst [a, eLst [eC (.int 0)]]))) :=
  (ps_ret (pe_lst (pa_cons he (pa_cons (pe_lst (pa_cons pe_int pa_nil hs3)) pa_nil hs2) hs1))).imp fun D σ H ⟨F0, H0, F, env, out, hs, hf, ho, q⟩ => by
    have z1 : (1 : Nat) ≤ sizeLine := by decide
    have z2 : (2 : Nat) ≤ sizeLine := by decide
    simp only [sRet] at ho
    obtain ⟨d, h1, h2⟩ := map_some ho
    subst h2
    obtain ⟨rows, e1, q⟩ := q
    subst e1
    simp only [eLst, eArgs, eC, Option.bind_some, Option.map_some, List.length_cons, List.length_nil] at h1
    rw [if_pos z1] at h1
    obtain ⟨ds, h3, h4⟩ := bind_some h1
    obtain ⟨d0, h5, h6⟩ := bind_some h3
    simp only [Option.bind_some, Option.map_some] at h6
    cases h6
    simp only [List.length_cons, List.length_nil] at h4
    rw [if_pos z2] at h4
    have := Option.some.inj h4
    injection this with this
    injection this with e0 _
    subst e0
    refine ⟨F, env, .list rows, hs, h5, fun v F1 H1 g1 r1 => ?_⟩
    cases r1 with
    | lst sa ra =>
    rename_i aa _
    refine ⟨by rw [List.length_singleton]; exact z1, fun r hr => ?_⟩
    refine ⟨by simpa using z2, fun p hp => ?_⟩
    have hrp : r ≠ p := fun z => by
      rw [← z, upd_same] at hp
      cases hp
    have hp1 : H1 p = none := by rw [upd_ne fun z => hrp z.symm] at hp; exact hp
    have hr0 : H r = none := g1.hh.free hr
    have F1p : F1 p = none := Same.nn g1.fh hp1
    have F1r : F1 r = none := Same.nn g1.fh hr
    have ga := Gr.open_ (o := HO.lst [.int 0]) g1.fh hr
    have gb := Gr.new (o := HO.lst [.ref aa, .ref r]) ga.fh hp
    refine q (.ref p) r _ _ (hf.gr.trans (g1.trans (ga.trans gb))) (hf.gr.hh.free hr0) (by rw [upd_ne hrp]; exact F1r) (by rw [upd_ne hrp]; exact upd_same) ?_
    exact .pl (.inl (.inl upd_same)) (gb.ff.seq sa) (ra.mono gb.ff)
end
section
variable {P : Program} {w : World} {G : Gx} {base : Heap}
theorem fnP {x qual : Str} {st : Stmt} {f : Addr} {fd : FuncData} {N ps : List Str} {k nl : Nat} {body : SS} (Fn : Fun G.K x qual st f fd) (S : FnScope N ps (defScope st)) (hN : N.length = ps.length + nl) {Oe : List Nat}
    (hb : ∀ (cdv : Value) (A : Around) (outer : List PySem.Env) (s : Shared) (H : Hp) (E : XK), Room k (A.deeper (envOfC qual (defScope st) s.heap.objs.size f cdv)) →
      PSs (cxOf CX0 P w G.K G.mg base N qual (defScope st) f cdv A outer s H E).nox (defBody st) (sV G (oP' G) [] Oe [] body)) : FnOk P w G.K G.mg base CX0 (k + 1) f fd ps (spP G ps.length (fun ds => nnD (runF ps.length nl body ds))) := by
  refine Fn.ok S (fun vs H Q E h => ?_) (fun cdv A outer s H vs Q E hr h => ?_)
  · obtain ⟨F, ds, rows, sm, r, hl, _, _⟩ := h
    rw [r.length, hl]
  · obtain ⟨F, ds, rows, sm, r, hl, hm, q⟩ := h
    refine ⟨_, hb cdv A outer s H E hr, ?_⟩
    obtain ⟨d0, hm, hd⟩ := bind_some hm
    simp only [runF, hl, if_pos rfl] at hm
    obtain ⟨out, h1, h2⟩ := bind_some hm
    refine ⟨F, H, F, _, out, start_ok hN sm r hl, ⟨Gr.refl sm.sm, fun i h => by cases h⟩, h1, ?_⟩
    cases out with
    | nx e =>
      cases h2
      cases hd
    | rt d' =>
      cases h2
      have e : d0 = .list [.list rows, .list [.int 0]] := by
        cases d0 <;> first | (cases hd; done) | exact Option.some.inj hd
      subst e
      exact ⟨rows, rfl, q⟩
    | bk e => cases h2
    | ct e => cases h2
end
/-! ### a law that makes a pool first -/
/-- body behind pool = make(args): m makes the rows, i is the pool's slot -/
def runL (np nl : Nat) (m : List D → Option D) (l : List SE) (i : Nat) (body : QS) (ds : List D) (r : Nat) : Option D :=
  if ds.length = np then (eCall m l (ds.map some ++ List.replicate nl none)).bind fun p => match p with
    | .list [.list rows, .list [.int 0]] => ((body r ((ds.map some ++ List.replicate nl none).set i (some (poolD r rows))) 0).bind outQ).map (·.1)
    | _ => none else none
def spL (G : Gx) (n : Nat) (m : List D → Nat → Option D) : Sp := fun vs H Q _ => ∃ F ds d, Fz G F H ∧ RpAll G F vs ds ∧ ds.length = n ∧ (∀ r, m ds r = some d) ∧ kV G F H d Q
def tL (G : Gx) (m : List D → Option D) (l : List SE) (i : Nat) (body : QS) : TS := fun D σ H => ∃ F env d rows, SOk G [] F H σ env ∧ eCall m l env = some (.list [.list rows, .list [.int 0]]) ∧ (∀ r : Nat, ((body r (env.set i (some (poolD r rows))) 0).bind outQ).map (·.1) = some d) ∧ kV G F H d D.rt ∧ (d = .none → kV G F H d fun _ H' => ∀ σ', D.nx σ' H')
section
variable {X : Cx} {e : Expr} {es : List Expr} {rest : List Stmt} {pos p cpos : Pos} {x y : Str} {l : List SE} {k n : Nat} {fa : Addr} {fd : FuncData} {ps : List Str} {m : List D → Option D} {Oe : List Nat} {body : QS} {pos' : Pos}
theorem bpool (i : Nat) (hN : X.N.Nodup) (F : FnOk X.prog X.w (gx X).K (gx X).mg X.base CX0 k fa fd ps (spP (gx X) n m)) (hr : Room k X.A) (hg : Gl X x) (hm : X.mg x = some (.ref fa)) (hk : PySem.W.keepIn X.K (.ref fa) = true) (hb : Binds X.K fd ps [])
    (ha : PA X (e :: es) (aV (gx X) [] (eArgs l))) (hrest : PSs X rest (qS (gx X) [] Oe [] body)) (hn : l.length = n := by rfl) (hdb : (x == ("__debug__" : Str)) = false := by decide) (he : starEach (e :: es) X.env = (false, eval e X.env) :: starEach es X.env := by rfl) (hpl : (backTo cpos (starEach es X.env)).any (·.1) = false := by rfl)
    (hi : X.N[i]? = some y := by rfl) (hy : Loc X.env.scope y := by first | exact Or.inl rfl | exact Or.inr rfl) (hsw : swapsWith (.Call (.Name x p) (e :: es) [] cpos) (some (.Name y pos')) pos.line X.env = pure false := by rfl)
    (hf : X.fn y = true ∨ X.env.scope.names.lookup y = some .local := by first | exact .inl rfl | exact .inr rfl | assumption) :
    PSs X (.Assign [.Name y pos'] (.Call (.Name x p) (e :: es) [] cpos) pos :: rest) (tL (gx X) m l i body) :=
  (pss_cons (ps_set hN hi hy (pe_call F hr hg hm hk hb .nil pass0 ha hdb he hpl) hsw hf) hrest).imp fun D σ H ⟨F, env, d, rows, hs, h1, h2, q, q0⟩ => by
    simp only [eCall] at h1
    obtain ⟨ds, h3, h4⟩ := bind_some h1
    have hl : ∀ (l : List SE) (ds : List PyData), eArgs l env = some ds → ds.length = l.length := by
      intro l
      induction l with
      | nil => intro ds h; cases h; rfl
      | cons a l ih =>
        intro ds h
        simp only [eArgs] at h
        obtain ⟨x, _, h⟩ := bind_some h
        obtain ⟨xs, h2, h⟩ := map_some h
        subst h
        exact congrArg (· + 1) (ih xs h2)
    refine ⟨F, env, ds, hs, h3, fun vs F1 H1 g1 r1 => ?_⟩
    show spP (gx X) n m (vs ++ []) H1 _ E0
    rw [List.append_nil]
    refine ⟨F1, ds, rows, (hs.gr g1).fz, r1, (hl l ds h3).trans hn, h4, fun v r F2 H2 g2 n1 n2 e2 r2 => ?_⟩
    have h2 := h2 r
    obtain ⟨⟨d', c'⟩, h5, h6⟩ := map_some h2
    cases h6
    obtain ⟨out, h6, h7⟩ := bind_some h5
    have g12 := g1.trans g2
    have gh : Gr F H F2 (hid r H2) := by
      have hr0 : H r = none := g1.hh.free n1
      refine ⟨g12.ff, ⟨fun b o e n => ?_, fun b ps e => ?_⟩, fun b o e => ?_, g12.hid⟩
      · rw [hid_ne fun z => by rw [z, hr0] at e; cases e]
        exact g12.hh.nn b o e n
      · rw [hid_ne fun z => by rw [z, hr0] at e; cases e]
        exact g12.hh.tb b ps e
      · rw [hid_ne fun z => by rw [z, n2] at e; cases e]
        exact g12.fh b o e
    have s2 : SOk (gx X) [] F2 (hid r H2) (σ.set i (some v)) (env.set i (some (poolD r rows))) := (hs.gr gh).set (by simp) r2
    have low : ∀ {c F' H'}, QGr r c F2 H2 F' H' → Gr F H F' H' := fun {c F' H'} g => by
      have ga := gh.trans g.g
      exact ⟨ga.ff, ga.hh.trans (.of hid_le), ga.fh.trans hid_le, ga.hid⟩
    refine ⟨F2, H2, F2, _, r, 0, out, ⟨s2, n2, e2⟩, ⟨Gr.refl s2.fh, fun i h => by cases h⟩, h6, ?_⟩
    cases out with
    | nx e c1 =>
      simp only [outQ, Option.some.injEq, Prod.mk.injEq] at h7
      obtain ⟨h7, _⟩ := h7
      subst h7
      exact fun σ' F' H' s' f' k' => q0 rfl .non F' H' (low ⟨f'.gr, s'.fr, s'.hr⟩) .non σ'
    | rt d' c1 =>
      cases h7
      exact fun v F' H' g' r' => q v F' H' (low g') r'
    | bk e => cases h7
    | ct e => cases h7
end
section
variable {P : Program} {w : World} {G : Gx} {base : Heap}
theorem fnL {x qual : Str} {st : Stmt} {f : Addr} {fd : FuncData} {N ps : List Str} {k nl i : Nat} {body : QS} {m : List D → Option D} {l : List SE} (Fn : Fun G.K x qual st f fd) (S : FnScope N ps (defScope st)) (hN : N.length = ps.length + nl)
    (hb : ∀ (cdv : Value) (A : Around) (outer : List PySem.Env) (s : Shared) (H : Hp) (E : XK), Room k (A.deeper (envOfC qual (defScope st) s.heap.objs.size f cdv)) →
      PSs (cxOf CX0 P w G.K G.mg base N qual (defScope st) f cdv A outer s H E).nox (defBody st) (tL G m l i body)) : FnOk P w G.K G.mg base CX0 (k + 1) f fd ps (spL G ps.length (runL ps.length nl m l i body)) := by
  refine Fn.ok S (fun vs H Q E h => ?_) (fun cdv A outer s H vs Q E hr h => ?_)
  · obtain ⟨F, ds, d, sm, r, hl, _, _⟩ := h
    rw [r.length, hl]
  · obtain ⟨F, ds, d, sm, r, hl, hm, q⟩ := h
    refine ⟨_, hb cdv A outer s H E hr, ?_⟩
    simp only [runL, hl, if_pos rfl] at hm
    obtain ⟨p, h1, h2⟩ := bind_some (hm 0)
    split at h2
    · rename_i rows
      refine ⟨F, _, d, rows, start_ok hN sm r hl, h1, fun r => ?_, q, fun e => ?_⟩
      · have := hm r
        rw [h1] at this
        exact this
      · subst e
        exact fun v F' H' g r' σ' => by
          cases r'
          exact q .non F' H' g .non
    · cases h2
end
end TL

set_option Elab.async false
set_option linter.all false
set_option maxRecDepth 100000
/-! The tree layer with a pool: comprehensions whose items count on. -/
namespace TL
open PySem PySem.Spec PyProof.Rows L2
def qLcGo (g : SG) (k : QT) (e : QE) (r : Nat) (env : Env) : List D → Int → Option (List D × Int)
  | [], c => some ([], c)
  | x :: xs, c => (g x env).bind fun env1 => (k r env1 c).bind fun t => if t.1 = true then (e r env1 t.2).bind fun y => (qLcGo g k e r env xs y.2).map fun z => (y.1 :: z.1, z.2) else qLcGo g k e r env xs t.2
@[simp] def qLc (vs : List Nat) (it : QA) (g : SG) (k : QT) (e : QE) : QE := fun r env c => (it r env c).bind fun x => (qLcGo g k e r (wipeE env vs) x.1 x.2).map fun y => (.list y.1, y.2)
theorem hid_upd {r : Nat} {H : Hp} {p : Addr} {o : HO} (h : p ≠ r) : hid r (upd H p o) = upd (hid r H) p o := by
  funext b
  by_cases hb : b = r
  · subst hb
    rw [hid_r, upd_ne (fun z => h z.symm), hid_r]
  · rw [hid_ne hb]
    by_cases hp : b = p
    · subst hp
      rw [upd_same, upd_same]
    · rw [upd_ne hp, upd_ne hp, hid_ne hb]
section
variable {X : Cx} {O : List Nat}
theorem qpT {ifs : List Expr} {f : ST} (h : PTs X ifs (rT (gx X) O f)) : PTs X ifs (qT (gx X) O (qlT f)) := h.imp fun σ H Q ⟨F, env, r, c, d, c', ok, hf, q⟩ => by
  simp only [qlT] at hf
  obtain ⟨x, h1, h2⟩ := map_some hf
  cases h2
  exact ⟨F, env, d, ok.sok, h1, fun F' H' g => q F' H' (ok.of g)⟩
theorem qpone {c : Expr} {f : QT} (h : PT X c (qT (gx X) O f)) : PTs X [c] (qT (gx X) O f) := pts_one h
theorem qlc {elt tg iter : Expr} {ifs : List Expr} {scope : Scope} {own : List (Str × Nat)} {pos : Pos} {fi : QA} {g : SG} {k : QT} {f : QE} {sl : List Nat} (hc : X.calm = true) (hN : X.N.Nodup) (hi : PI X tg iter (qI (gx X) O fi)) (ok : BlkOk X.N X.env.scope scope own)
    (hg : ∀ (s : Shared) (H : Hp) (C : Addr) (cl : List (Str × Addr)) (fp : List Addr), PG (X.blk s H scope (compEnvC scope cl C X.env) fp) tg (tG (gx X) O sl g)) (ht : ∀ (s : Shared) (H : Hp) (C : Addr) (cl : List (Str × Addr)) (fp : List Addr), PTs (X.blk s H scope (compEnvC scope cl C X.env) fp) ifs (qT (gx X) O k))
    (he : ∀ (s : Shared) (H : Hp) (C : Addr) (cl : List (Str × Addr)) (fp : List Addr), PE (X.blk s H scope (compEnvC scope cl C X.env) fp) elt (qV (gx X) O f)) (hsl : ∀ j ∈ sl, j ∈ own.map (·.2) := by decide) (hO : ∀ j ∈ own.map (·.2), j ∉ O := by decide) (hs : ∀ x, foldedSetIterable iter X.env x = pure x := by intro _; rfl) :
    PE X (.ListComp elt [⟨tg, iter, ifs, 0⟩] scope pos) (qV (gx X) O (qLc (own.map (·.2)) fi g k f)) :=
  (pe_lc hc hN hi ok hg ht he hs).imp fun σ H Q ⟨F, env, r, c, d, c', ok, hf, q⟩ => by
    simp only [qLc] at hf
    obtain ⟨⟨ds, c0⟩, h1, hf⟩ := bind_some hf
    obtain ⟨⟨es, ce⟩, h2, h3⟩ := map_some hf
    cases h3
    refine ⟨F, env, r, c, ds, c0, ok, h1, fun J F1 H1 g1 hz hJ D0 hD => ?_⟩
    have ok1 := ok.gr g1
    have hDr : D0 ≠ r := fun z => by rw [z, ok1.hr] at hD; cases hD
    have hD' : hid r H1 D0 = none := by rw [hid_ne hDr]; exact hD
    have hD1 : F1 D0 = none := Same.nn g1.fh hD
    refine ⟨fun i m H' => ∃ F' acc accD rest c1, LcI (gx X) F1 (hid r H1) F' (hid r H') D0 acc accD ∧ F' r = none ∧ H' r = some (.lst [.int c1]) ∧ accD.length ≤ i ∧ i ≤ ds.length ∧ m = ds.length - i ∧ qLcGo g k f r (wipeE env (own.map (·.2))) (ds.drop i) c1 = some (rest, ce) ∧ es = accD ++ rest,
      ⟨ds.length, F1, [], [], es, c0, ⟨by rw [hid_upd hDr]; exact Gr.open_ ok1.s.fh hD', hD1, by rw [hid_ne hDr]; exact upd_same, .nil⟩, ok1.fr, by rw [upd_ne (fun z => hDr z.symm)]; exact ok1.hr, Nat.le_refl _, Nat.zero_le _, by omega, h2, rfl⟩, ?_⟩
    rintro i m H' ⟨F', acc, accD, rest, c1, L, fr, hr, l1, l2, rfl, hgo, ees⟩
    have okw : QOk (gx X) O r c1 F' H' (L2.wipe σ (own.map (·.2))) (wipeE env (own.map (·.2))) := ⟨(ok1.s.gr L.gr).wipe hO, fr, hr⟩
    have hJ' := hJ i F' H' L.gr.ff okw.sok.fh
    cases hd : ds[i]? with
    | none =>
      have hi : ds.length ≤ i := List.getElem?_eq_none_iff.mp hd
      refine .inl ⟨hJ'.2 hd, ?_⟩
      rw [List.drop_eq_nil_of_le hi] at hgo
      cases hgo
      rw [List.append_nil] at ees
      subst ees
      have gc : Gr F1 (hid r H1) (upd F' D0 (.lst acc)) (hid r H') := L.gr.close hD' L.fr L.at_
      exact q (.ref D0) (upd F' D0 (.lst acc)) H' (g1.trans ⟨gc, by rw [upd_ne (fun z => hDr z.symm)]; exact fr, hr⟩) (.lst (.inl (.inl upd_same)) (L.rp.mono (same_upd L.fr)))
    | some x =>
      have hi : i < ds.length := (List.getElem?_eq_some_iff.mp hd).1
      have hx : ds[i] = x := (List.getElem?_eq_some_iff.mp hd).2
      have hdr : ds.drop i = x :: ds.drop (i + 1) := by rw [List.drop_eq_getElem_cons hi, hx]
      rw [hdr] at hgo
      simp only [qLcGo] at hgo
      obtain ⟨env1, hg1, hgo⟩ := bind_some hgo
      obtain ⟨⟨b, c2⟩, hc1, hgo⟩ := bind_some hgo
      refine .inr ⟨(hJ'.1 x hd).1, fun H2 => ∃ F' acc accD rest c1, LcI (gx X) F1 (hid r H1) F' (hid r H2) D0 acc accD ∧ F' r = none ∧ H2 r = some (.lst [.int c1]) ∧ accD.length ≤ i + 1 ∧ qLcGo g k f r (wipeE env (own.map (·.2))) (ds.drop (i + 1)) c1 = some (rest, ce) ∧ es = accD ++ rest, fun H2 h => ?_, fun v H2 hy => ?_⟩
      · obtain ⟨F2, acc2, accD2, rest2, c3, L2, fr2, hr2, l3, hg2, e2⟩ := h
        exact ⟨ds.length - (i + 1), by omega, F2, acc2, accD2, rest2, c3, L2, fr2, hr2, l3, hi, rfl, hg2, e2⟩
      · obtain ⟨rfl, rv⟩ := (hJ'.1 x hd).2 v H2 hy
        refine ⟨F', _, x, env1, okw.sok, rv, hg1, fun σ2 s2 ln kp => ⟨ext_wipe ln kp hsl |>.trans ?_, F', env1, r, c1, b, c2, ⟨s2.rehid fr okw.hr fun j hj p hp => okw.ne j hj p (by rw [← kp j fun z => hO j (hsl j z) hj]; exact hp), fr, hr⟩, hc1, fun F3 H3 g3 => ?_⟩⟩
        · have : ∀ (vs ws : List Nat) (τ : L2.St), (∀ j ∈ ws, j ∈ vs) → L2.wipe (L2.wipe τ ws) vs = L2.wipe τ vs := fun vs ws τ h => ext_wipe (sl := ws) (wipe_length _ _) (fun j hj => wipe_out hj) h
          exact this _ _ _ fun j h => h
        · cases b with
          | true =>
            rw [if_pos rfl] at hgo ⊢
            obtain ⟨⟨y, c3⟩, he1, hgo⟩ := bind_some hgo
            obtain ⟨⟨rest2, c4⟩, hg2, e2⟩ := map_some hgo
            cases e2
            refine ⟨F3, env1, r, c2, y, c3, ⟨(s2.rehid fr okw.hr fun j hj p hp => okw.ne j hj p (by rw [← kp j fun z => hO j (hsl j z) hj]; exact hp)).gr g3.g, g3.fr, g3.hr⟩, he1, fun w F4 H4 g4 r4 => ?_⟩
            have L4 := (L.gr' g3.g).gr' g4.g
            have at4 := L4.at_
            rw [hid_ne hDr] at at4
            refine ⟨acc, at4, ?_, F4, acc ++ [w], accD ++ [y], rest2, c3, by rw [hid_upd hDr]; exact L4.app hD' r4, g4.fr, by rw [upd_ne (fun z => hDr z.symm)]; exact g4.hr, by rw [List.length_append]; exact Nat.succ_le_succ l1, hg2, ?_⟩
            · rw [L.rp.length]
              omega
            · rw [ees, List.append_assoc]
              rfl
          | false =>
            rw [if_neg Bool.false_ne_true] at hgo ⊢
            exact ⟨F3, acc, accD, rest, c2, L.gr' g3.g, g3.fr, g3.hr, by omega, hgo, ees⟩
end
end TL

set_option Elab.async false
set_option linter.all false
set_option maxRecDepth 100000
/-! The tree layer: defs with defaults; a list's place set; a list from an if-expression. -/
namespace TL
open PySem PySem.Spec PyProof.Rows L2
section
variable {P : Program} {w : World} {G : Gx} {base : Heap}
theorem fnVD {x qual : Str} {st : Stmt} {f : Addr} {fd : FuncData} {dvs : List V} {N ps : List Str} {k nl : Nat} {body : SS} (Fn : FunD G.K x qual (defArgs st) (defBody st) (defScope st) dvs [] f fd) (S : FnScope N ps (defScope st)) (hN : N.length = ps.length + nl) {Oe : List Nat}
    (hb : ∀ (cdv : Value) (A : Around) (outer : List PySem.Env) (s : Shared) (H : Hp) (E : XK), Room k (A.deeper (envOfC qual (defScope st) s.heap.objs.size f cdv)) →
      PSs (cxOf CX0 P w G.K G.mg base N qual (defScope st) f cdv A outer s H E).nox (defBody st) (sV G (oV' G) [] Oe [] body)) : FnOk P w G.K G.mg base CX0 (k + 1) f fd ps (spV G ps.length (runF ps.length nl body)) := by
  refine Fn.ok S (fun vs H Q E h => ?_) (fun cdv A outer s H vs Q E hr h => ?_)
  · obtain ⟨F, ds, d, sm, r, hl, _, _⟩ := h
    rw [r.length, hl]
  · obtain ⟨F, ds, d, sm, r, hl, hm, q⟩ := h
    refine ⟨_, (hb cdv A outer s H E hr).nox, ?_⟩
    simp only [runF, hl, if_pos rfl] at hm
    obtain ⟨out, h1, h2⟩ := bind_some hm
    refine ⟨F, H, F, _, out, start_ok hN sm r hl, ⟨Gr.refl sm.sm, fun i h => by cases h⟩, h1, ?_⟩
    cases out with
    | nx e =>
      cases h2
      exact fun σ' F' H' s' f' k' => q .non F' H' f'.gr .non
    | rt d' =>
      cases h2
      exact q
    | bk e => cases h2
    | ct e => cases h2
end
/-- the empty tuple as K holds it -/
def KTup0 (K : PySem.W.Frag) (a : Addr) : Prop := ∃ (o : Obj) (n : Nat), K.lookup a = some o ∧ o.cls = .type "tuple" ∧ o.data = .seq #[] n
theorem KTup0.rp {G : Gx} {F : Hp} {a : Addr} (h : KTup0 G.K a) : Rp G F (.ref a) (.tuple []) := by
  obtain ⟨o, n, h1, h2, h3⟩ := h
  exact .tup (.inr ⟨o, #[], n, h1, h2, h3, Nat.zero_le _, .nil⟩) .nil
section
variable {X : Cx} {O : List Nat} {e : Expr} {es : List Expr} {l : List SE} {p pos : Pos} {x : Str} {k n : Nat} {fa a0 : Addr} {fd : FuncData} {ps : List Str} {m : List D → Option D}
/-- a call that leaves the last argument to its default () -/
@[simp] def eCallD (m : List D → Option D) (l : List SE) : SE := fun env => (eArgs l env).bind fun ds => m (ds ++ [.tuple []])
theorem ecallD (F : FnOk X.prog X.w (gx X).K (gx X).mg X.base CX0 k fa fd ps (spV (gx X) (n + 1) m)) (hr : Room k X.A) (hg : Gl X x) (hm : X.mg x = some (.ref fa)) (hk : PySem.W.keepIn X.K (.ref fa) = true) (hb : ∃ ds, Vals [V.ref a0] ds ∧ Binds X.K fd ps ds) (h0 : KTup0 (gx X).K a0)
    (ha : PA X (e :: es) (aV (gx X) O (eArgs l))) (hn : l.length = n := by rfl) (hdb : (x == ("__debug__" : Str)) = false := by decide) (he : starEach (e :: es) X.env = (false, eval e X.env) :: starEach es X.env := by rfl) (hpl : (backTo pos (starEach es X.env)).any (·.1) = false := by rfl) :
    PE X (.Call (.Name x p) (e :: es) [] pos) (rV (gx X) O (eCallD m l)) := by
  obtain ⟨dd, hv, hb⟩ := hb
  refine (pe_call F hr hg hm hk hb hv pass0 ha hdb he hpl).imp fun σ H Q ⟨F, env, d, hs, hf, q⟩ => ?_
  simp only [eCallD] at hf
  obtain ⟨ds, h1, hf⟩ := bind_some hf
  have hl : ∀ (l : List SE) (ds : List PyData), eArgs l env = some ds → ds.length = l.length := by
    intro l
    induction l with
    | nil => intro ds h; cases h; rfl
    | cons a l ih =>
      intro ds h
      simp only [eArgs] at h
      obtain ⟨x, _, h⟩ := bind_some h
      obtain ⟨xs, h2, h⟩ := map_some h
      subst h
      exact congrArg (· + 1) (ih xs h2)
  refine ⟨F, env, ds, hs, h1, fun vs F1 H1 g1 r1 => ?_⟩
  show spV (gx X) (n + 1) m (vs ++ [V.ref a0]) H1 Q E0
  exact ⟨F1, ds ++ [.tuple []], d, (hs.gr g1).fz, r1.append (.cons h0.rp .nil), by rw [List.length_append, hl l ds h1, hn]; rfl, hf, q.gr g1⟩
end
/-! ### name[e] = e, the list at slot i open -/
@[simp] def sSetIx (i : Nat) (a b : SE) : SS := fun env => (b env).bind fun y => (a env).bind fun x => (toI x).bind fun k => match env.getD i none with
  | some (.list ds) => (L2.ixN ds.length k).map fun j => .nx (env.set i (some (.list (ds.set j y))))
  | _ => none
theorem RpAll.set {G : Gx} {F : Hp} {v : V} {d : D} (h : Rp G F v d) : ∀ {vs : List V} {ds : List D} (j : Nat), RpAll G F vs ds → RpAll G F (vs.set j v) (ds.set j d)
  | _, _, _, .nil => .nil
  | _, _, 0, .cons _ r => .cons h r
  | _, _, j + 1, .cons h0 r => .cons h0 (RpAll.set h j r)
section
variable {X : Cx} {R : RK} {O Ob : List Nat} {ei ev : Expr} {fi fv : SE} {p1 pos pos' : Pos} {x : Str}
theorem ssetIx (i : Nat) (hi : PE X ei (rV (gx X) O fi)) (he : PE X ev (rV (gx X) O fv)) (hO : i ∈ O := by decide) (hN : X.N[i]? = some x := by rfl) (hv : Vis X.env.scope x := by first | exact Or.inl rfl | exact Or.inr (Or.inl rfl) | exact Or.inr (Or.inr rfl)) (hd : (x == ("__debug__" : Str)) = false := by decide)
    (hcd : (x == ("__classdict__" : Str)) = false := by decide)
    (hs : swapsWithSole [.Subscript (.Name x p1) ei pos] ev pos'.line X.env = pure false := by rfl) (hw : swappedStores [.Subscript (.Name x p1) ei pos] ev X.env = pure none := by rfl)
    (h1 : (assignEach [.Subscript (.Name x p1) ei pos] X.env).map (·.2) = [assign (.Subscript (.Name x p1) ei pos) X.env] := by rfl)
    (hass : ∀ v, assign (.Subscript (.Name x p1) ei pos) X.env v = (do
      let ov ← holding [v] (eval (.Name x p1) X.env)
      let iv ← holding [v, ov] (eval ei X.env)
      standAt pos
      holding [v, ov, iv] (setItem ov iv v)
      release [v, ov, iv] []) := by intro _; rfl) :
    PS X (.Assign [.Subscript (.Name x p1) ei pos] ev pos') (sV (gx X) R O O Ob (sSetIx i fi fv)) :=
  (ps_asg he (pg_sub (pe_var hN hv hd hcd) hi set_list hass) hs hw h1).imp fun Dn σ H ⟨F0, H0, F, env, out, hs, hf, ho, q⟩ => by
    simp only [sSetIx] at ho
    obtain ⟨y, h1, ho⟩ := bind_some ho
    obtain ⟨xi, h2, ho⟩ := bind_some ho
    obtain ⟨k, h3, ho⟩ := bind_some ho
    have e3 := toI_some h3
    subst e3
    obtain ⟨p, vs, ds, h4, h5, h6, h7, h8⟩ := hs.own i hO
    rw [show env.getD i none = some (.list ds) by rw [List.getD_eq_getElem?_getD, h5]; rfl] at ho
    simp only at ho
    obtain ⟨j, h9, h10⟩ := map_some ho
    subst h10
    refine ⟨F, env, y, hs, h1, fun v F1 H1 g1 r1 => ⟨_, h4, F1, env, _, hs.gr g1, h2, fun w F2 H2 g2 r2 => ?_⟩⟩
    cases r2
    have g := g1.trans g2
    refine ⟨p, vs, k, j, rfl, rfl, g.hh.l h7, by rw [h8.length]; exact h9, ?_⟩
    exact q σ F2 _ ((hs.gr g).chg hO h4 (RpAll.set (r1.mono g2.ff) j (h8.mono g.ff))) (fr_chg (hs.gr g) (hf.step g) hO h4) g.ff
end
end TL

set_option Elab.async false
set_option linter.all false
set_option maxRecDepth 100000
set_option maxHeartbeats 4000000
/-! The tree layer: (x,) * n; dicts of the module. -/
namespace TL
open PySem PySem.Spec PyProof.Rows L2
theorem tuple_mul1 (l : Addr) (items : Array Value) (n : Nat) (dd : Option Addr) (sl : Array (Option Value)) (u : Tok) :
    Meets (Builtin.«tuple.__mul__» ⟨[.ref l, .int 1 u], []⟩) (fun _ R s => s.heap.get? l = some { cls := .type "tuple", dict := dd, data := .seq items n, slots := sl } ∧ R (.ok (.ret (Value.ref l))) s) :=
  .of_wp fun prog w A R s h => by
    obtain ⟨hp, g, d, tk, os⟩ := s
    obtain ⟨hl, h⟩ := h
    have f1 := AutoSeq1.idx_int
    wp_walk using wpAny_loadPart' hl
    repeat (first
      | (refine wpAny_ite_true (decide_eq_true (by simp)) ?_; wp_walk using wpAny_loadPart' hl)
      | (refine wpAny_ite_false (decide_eq_false (by decide)) ?_; wp_walk using wpAny_loadPart' hl))
    exact ⟨_, rfl, h⟩
theorem tuple_mul0 (l : Addr) (items : Array Value) (n : Nat) (dd : Option Addr) (sl : Array (Option Value)) (x : Int) (u : Tok) (c0 : (decide (x < -(2 ^ 63)) || decide (x ≥ 2 ^ 63)) = false) (c1 : (items.isEmpty || x == 1) = false) (c2 : (decide (x ≤ 0) || items.isEmpty) = true) :
    Meets (Builtin.«tuple.__mul__» ⟨[.ref l, .int x u], []⟩) (fun _ R s => s.heap.get? l = some { cls := .type "tuple", dict := dd, data := .seq items n, slots := sl } ∧
      R (.ok (.ret (Value.ref s.heap.objs.size))) { s with heap := s.heap.push { cls := Value.type "tuple", data := Data.seq #[] }, toks := s.toks }) :=
  .of_wp fun prog w A R s h => by
    obtain ⟨hp, g, d, tk, os⟩ := s
    obtain ⟨hl, h⟩ := h
    have f1 := AutoSeq1.idx_int
    wp_walk using wpAny_loadPart' hl
    repeat (first
      | (refine wpAny_ite_false (decide_eq_false (by rw [c0]; exact Bool.false_ne_true)) ?_; wp_walk using wpAny_loadPart' hl)
      | (refine wpAny_ite_false (decide_eq_false (by rw [c1]; exact Bool.false_ne_true)) ?_; wp_walk using wpAny_loadPart' hl)
      | (refine wpAny_ite_true (decide_eq_true (by rw [c2])) ?_; wp_walk using wpAny_loadPart' hl))
    exact ⟨_, rfl, h⟩
section
variable {X : Cx}
theorem op_repT1 : OpR X (binaryOp .Mult) (fun x y H Q => ∃ l xs, x = .ref l ∧ y = .int 1 ∧ SqT X.K H l xs ∧ Q (.ref l) H) := by
  intro pins s σ H x y v u Q I rx ry h
  obtain ⟨l, xs, rfl, rfl, hT, q⟩ := h
  cases rx
  obtain ⟨t, rfl⟩ := ry
  obtain ⟨its, r, ⟨⟨cls, dd, data, sl⟩, ho, hc, n, hd⟩, hs⟩ := I.tuple hT
  simp only at hc hd
  subst hc hd
  refine wpAny_binaryOp_repeat_ref (T := "tuple") (U := "int") (by decide) ⟨_, ho, rfl⟩ (fun s' => typeIs_int s' 1 t) noFill_tuple_mul F.fills_int_mul F.slot_int_rmul repeat_tuple F.slot_int_index.lookup
    (call_meets F.slot_int_rmul (typeIs_int s 1 t) F.entry_int_rmul (F.args_int_rmul_2 _ _) (int_rmul_tuple 1 t l its.toArray n dd sl)
      ⟨ho, rfl, ⟨_, ho, rfl⟩, call_meets F.slot_tuple_mul ⟨_, ho, rfl⟩ F.entry_tuple_mul (F.args_tuple_mul_2 _ _) (tuple_mul1 l its.toArray n dd sl t) ⟨ho, ?_⟩⟩)
  exact ⟨.ref l, _, I, rfl, q⟩
theorem op_repT0 : OpR X (binaryOp .Mult) (fun x y H Q => ∃ l k xs, x = .ref l ∧ y = .int k ∧ SqT X.K H l xs ∧ xs ≠ [] ∧ k ≤ 0 ∧ -1000 ≤ k ∧ ∀ p, H p = none → Q (.ref p) (upd H p (.tup []))) := by
  intro pins s σ H x y v u Q I rx ry h
  obtain ⟨l, k, xs, rfl, rfl, hT, hne, h1, h2, q⟩ := h
  cases rx
  obtain ⟨t, rfl⟩ := ry
  obtain ⟨its, r, ⟨⟨cls, dd, data, sl⟩, ho, hc, n, hd⟩, hs⟩ := I.tuple hT
  simp only at hc hd
  subst hc hd
  have hle : its.length = xs.length := r.length.symm
  have hn : its ≠ [] := fun e => hne (by
    rw [e] at hle
    exact List.eq_nil_of_length_eq_zero hle.symm)
  have hi : its.toArray.isEmpty = false := by
    cases its with
    | nil => exact absurd rfl hn
    | cons a b => rfl
  have c0 : (decide (k < -(2 ^ 63)) || decide (k ≥ 2 ^ 63)) = false := by
    rw [decide_eq_false (by omega), decide_eq_false (by omega)] <;> rfl
  have c1 : (its.toArray.isEmpty || k == 1) = false := by
    rw [hi, Bool.false_or]
    exact beq_eq_false_iff_ne.mpr (by omega)
  have c2 : (decide (k ≤ 0) || its.toArray.isEmpty) = true := by
    rw [hi, Bool.or_false]
    exact decide_eq_true h1
  refine wpAny_binaryOp_repeat_ref (T := "tuple") (U := "int") (by decide) ⟨_, ho, rfl⟩ (fun s' => typeIs_int s' k t) noFill_tuple_mul F.fills_int_mul F.slot_int_rmul repeat_tuple F.slot_int_index.lookup
    (call_meets F.slot_int_rmul (typeIs_int s k t) F.entry_int_rmul (F.args_int_rmul_2 _ _) (int_rmul_tuple k t l its.toArray n dd sl)
      ⟨ho, rfl, ⟨_, ho, rfl⟩, call_meets F.slot_tuple_mul ⟨_, ho, rfl⟩ F.entry_tuple_mul (F.args_tuple_mul_2 _ _) (tuple_mul0 l its.toArray n dd sl k t c0 c1 c2) ⟨ho, ?_⟩⟩)
  refine ⟨.ref s.heap.objs.size, _, I.laid (t' := s.toks) (o := .tup []) (fun b ob q => Heap.get?_push_of_some _ q) (Nat.le_refl _) ?_, rfl, q _ (I.hok.fresh (Nat.le_refl _))⟩
  exact ⟨Nat.zero_le _, [], .nil, IsTup.new _ _⟩
end
def okRep (n : Nat) (k : Int) : Bool := Nat.ble 1 n && Nat.ble n 1000 && Nat.ble k.natAbs 1000
def mulTD : D → D → Option D
  | .tuple a, .int k => if okRep a.length k = true then some (.tuple (List.replicate k.toNat a).flatten) else none
  | _, _ => none
theorem RpAll.rep {G : Gx} {F : Hp} {vs : List V} {ds : List D} (h : RpAll G F vs ds) : ∀ n : Nat, RpAll G F (List.replicate n vs).flatten (List.replicate n ds).flatten
  | 0 => .nil
  | n + 1 => by
    rw [List.replicate_succ, List.replicate_succ, List.flatten_cons, List.flatten_cons]
    exact h.append (RpAll.rep h n)
theorem o_mulT {X : Cx} : OpV X (binaryOp .Mult) mulTD := by
  intro pins s σ H x y v u Q I rx ry h
  obtain ⟨F, dx, dy, d, sm, bx, by_, hd, q⟩ := h
  cases dx with
  | tuple ds =>
    cases dy with
    | int k =>
      obtain ⟨a, vs, rfl, hF, hH, r⟩ := bx.tup sm
      have e2 := by_.int
      subst e2
      simp only [mulTD] at hd
      split at hd
      · rename_i hz
        cases hd
        simp only [okRep, Bool.and_eq_true, Nat.ble_eq] at hz
        obtain ⟨⟨h1, h2⟩, h4⟩ := hz
        have hl := r.length
        have hne : vs ≠ [] := by
          intro e
          rw [e] at hl
          simp at hl
          omega
        rcases (by omega : k ≤ 0 ∨ k = 1 ∨ 2 ≤ k) with h3 | rfl | h3
        · have e0 : (List.replicate k.toNat ds).flatten = [] := by
            rw [show k.toNat = 0 by omega]
            rfl
          rw [e0] at q
          exact op_repT0 pins s σ H _ _ v u Q I rx ry ⟨a, k, vs, rfl, rfl, hH, hne, h3, by omega, fun p hp => q.newT sm .nil hp⟩
        · have e0 : (List.replicate (1 : Int).toNat ds).flatten = ds := by
            show (List.replicate 1 ds).flatten = ds
            simp
          rw [e0] at q
          exact op_repT1 pins s σ H _ _ v u Q I rx ry ⟨a, vs, rfl, rfl, hH, q.same sm (.tup hF r)⟩
        · exact op_repT pins s σ H _ _ v u Q I rx ry ⟨a, k, vs, rfl, rfl, hH, hne, by omega, by omega, by omega, fun p hp => q.newT sm (r.rep k.toNat) hp⟩
      · cases hd
    | _ => cases hd
  | _ => cases dy <;> cases hd
/-! ### a dict of the module with texts for keys -/
def KTab (G : Gx) (w : World) (a : Addr) (tab : List (Str × D)) : Prop :=
  ∃ es n, G.K.lookup a = some ⟨.type "dict", none, .dict es n, #[]⟩ ∧ PySem.W.KeysLit w.params es.toList ∧ ∀ x d, tab.lookup x = some d → ∃ u v, PySem.W.nsIn G.K a x = some (some u) ∧ RelV v u ∧ ∀ F, Rp G F v d
@[simp] def eTab (tab : List (Str × D)) (a : SE) : SE := fun env => (a env).bind fun d => match d with
  | .str x => tab.lookup x
  | _ => none
theorem etab {X : Cx} {O : List Nat} {e : Expr} {fa : SE} {x : Str} {p : Addr} {tab : List (Str × D)} {p1 pos : Pos} (hg : Gl X x) (hm : X.mg x = some (.ref p)) (ht : KTab (gx X) X.w p tab) (ha : PE X e (rV (gx X) O fa)) (hd : (x == ("__debug__" : Str)) = false := by decide) (hs : PlainIx e := by exact fun _ _ => rfl) :
    PE X (.Subscript (.Name x p1) e pos) (rV (gx X) O (eTab tab fa)) :=
  (pe_ix ix_kdict (pe_glob (v := .ref p) hg hm rfl hd) ha hs).imp fun σ H Q ⟨F, env, d, hs, hf, q⟩ => by
    simp only [eTab] at hf
    obtain ⟨d0, h1, h2⟩ := bind_some hf
    split at h2
    · rename_i z
      obtain ⟨es, n, k1, k2, k3⟩ := ht
      obtain ⟨u, v, n1, n2, n3⟩ := k3 _ _ h2
      refine tC_go ⟨F, env, _, hs, h1, fun y F1 H1 g1 r1 => ?_⟩
      cases r1
      exact ⟨p, z, v, rfl, rfl, ⟨es, n, u, k1, k2, n1, n2⟩, q v F1 H1 g1 (n3 F1)⟩
    · cases h2
theorem ktab_nil {G : Gx} {a : Addr} : ∀ x d, ([] : List (Str × D)).lookup x = some d → ∃ u v, PySem.W.nsIn G.K a x = some (some u) ∧ RelV v u ∧ ∀ F, Rp G F v d := fun x d h => by cases h
theorem ktab_cons {G : Gx} {a : Addr} {y : Str} {e : D} {tab : List (Str × D)} {u : Value} {v : V} (h1 : PySem.W.nsIn G.K a y = some (some u)) (h2 : RelV v u) (h3 : ∀ F, Rp G F v e) (hr : ∀ x d, tab.lookup x = some d → ∃ u v, PySem.W.nsIn G.K a x = some (some u) ∧ RelV v u ∧ ∀ F, Rp G F v d) :
    ∀ x d, ((y, e) :: tab).lookup x = some d → ∃ u v, PySem.W.nsIn G.K a x = some (some u) ∧ RelV v u ∧ ∀ F, Rp G F v d := fun x d h => by
  rw [List.lookup_cons] at h
  split at h
  · rename_i hq
    cases h
    rw [eq_of_beq hq]
    exact ⟨u, v, h1, h2, h3⟩
  · exact hr x d h
end TL
namespace TL
open PySem
theorem keys_cons {P : Params} {e : DictEntry} {r : List DictEntry} {x : Str} {t : Tok} (h1 : e.key = .str x t) (h2 : e.hash = PyData.keyHash P x) (h3 : PySem.W.KeysLit P r) : PySem.W.KeysLit P (e :: r) := ⟨⟨x, t, h1, h2⟩, h3⟩
theorem keys_nil {P : Params} : PySem.W.KeysLit P [] := trivial
end TL

set_option Elab.async false
set_option linter.all false
set_option maxRecDepth 100000
/-! The tree layer: a sign in a text; sep.join of a list of texts. -/
namespace TL
open PySem PySem.Spec PyProof.Rows L2
def inSD : D → D → Option D
  | .str x, .str z => match x.cps.toList with
    | [c] => some (.bool (decide (c ∈ z.cps.toList)))
    | _ => none
  | _, _ => none
theorem str_one {x : Str} {c : Nat} (h : x.cps.toList = [c]) : x = ⟨#[c]⟩ := by
  obtain ⟨a⟩ := x
  have : a = #[c] := Array.toList_inj.mp (by simpa using h)
  rw [this]
theorem o_inS {X : Cx} : OpV X (compareOp .In) inSD := by
  intro pins s σ H x y v u Q I rx ry h
  obtain ⟨F, dx, dy, d, sm, bx, by_, hd, q⟩ := h
  cases dx with
  | str a =>
    cases dy with
    | str z =>
      have e1 := bx.str
      have e2 := by_.str
      subst e1 e2
      simp only [inSD] at hd
      split at hd
      · rename_i c hc
        cases hd
        exact op_in_sign pins s σ H _ _ v u Q I rx ry ⟨c, z, by rw [str_one hc], rfl, q.same sm (.bl _)⟩
      · cases hd
    | _ => cases hd
  | _ => cases dy <;> cases hd
def strsO : List D → Option (List Str)
  | [] => some []
  | .str x :: r => (strsO r).map (x :: ·)
  | _ => none
theorem strsO_vs {G : Gx} {F : Hp} : ∀ {ds : List D} {vs : List V} {ys : List Str}, RpAll G F vs ds → strsO ds = some ys → vs = ys.map V.str
  | _, _, _, .nil, e => by
    cases e
    rfl
  | _ :: ds, _, ys, .cons h r, e => by
    cases h with
    | str i =>
      simp only [strsO] at e
      cases q : strsO ds with
      | none => rw [q] at e; cases e
      | some ms =>
        rw [q] at e
        cases e
        rw [strsO_vs r q]
        rfl
    | _ => cases e
@[simp] def eJoin (a : Str) (f : SE) : SE := fun env => (f env).bind fun d => match d with
  | .list ds => (strsO ds).bind fun ys => if (ys.map (·.length)).sum + ys.length * a.length ≤ 16777216 then some (.str (Txt.join a ys)) else none
  | _ => none
theorem ejoin {X : Cx} {O : List Nat} {a : Str} {e : Expr} {f : SE} {j : Nat} {p1 apos pos : Pos} (he : PE X e (rV (gx X) O f)) (hs : starEach [e] X.env = [(false, eval e X.env)] := by rfl) (hbase : attributeBase (.Constant (.str a) j p1) "join" X.env (eval (.Constant (.str a) j p1) X.env) = eval (.Constant (.str a) j p1) X.env := by rfl) (hline : (apos.endLine == pos.line) = true := by rfl) :
    PE X (.Call (.Attribute (.Constant (.str a) j p1) "join" apos) [e] [] pos) (rV (gx X) O (eJoin a f)) :=
  (pe_join pe_str he hs hbase hline).imp fun σ H Q ⟨F, env, d, hs, hf, q⟩ => by
    simp only [eJoin] at hf
    obtain ⟨d0, h1, h2⟩ := bind_some hf
    split at h2
    · rename_i ds
      obtain ⟨ys, h3, h4⟩ := bind_some h2
      split at h4
      · rename_i hz
        cases h4
        refine tC_go ⟨⟨a, rfl⟩, F, env, _, hs, h1, fun v F1 H1 g1 r1 => ?_⟩
        cases r1 with
        | lst sq ra =>
          have e := strsO_vs ra h3
          subst e
          exact ⟨a, _, ys, rfl, rfl, .inl (g1.fh.seq sq), hz, q _ F1 H1 g1 (.str _)⟩
      · cases h4
    · cases h2
end TL

set_option Elab.async false
set_option linter.all false
set_option maxRecDepth 100000
set_option maxHeartbeats 4000000
/-! The tree layer: sorted(set(list of ints)). The building of the set follows the library's road for a tuple. -/
namespace TL
open PySem PySem.Spec PyProof.Rows L2
section
variable {P : Program} {w : World} {A : Around} {E : Value → Shared → Prop} {s : Shared}
set_option maxRecDepth 100000 in
set_option maxHeartbeats 3200000 in
theorem call_set_listI {l : Addr} {items : Array Value} (ns : List Int) {Q : Value → Shared → Prop} (hh : A.handled = none) (hl : s.heap.IsList l items) (hit : IntsAre items.toList ns) (hb : ns.length + 1 < scanBound)
    (h : ∀ (h' : Heap) (tk c : Nat), SetR w h' s.heap.objs.size (fun j => decide (j ∈ ns)) c → c ≤ ns.length → (∀ b o, s.heap.get? b = some o → h'.get? b = some o) → Q (.ref s.heap.objs.size) { s with heap := h', toks := tk }) :
    wpAny (model P w) A (call (.type "set") [.ref l]) Q E s := by
  have hisz : items.size = ns.length := by
    have q := IntsAre.length hit
    rw [Array.length_toList] at q
    exact q
  obtain ⟨c, tl, hmro⟩ := F.called_set.mro
  have hmade := F.called_set.made
  have hsub := F.called_set.sub
  refine wpAny_call (codeAny_of_tree ?_)
  show wpAny _ _ (callAny (.type "set") _) _ _ _
  refine wpAny_pure ⟨Code.quiet_builtin _ (by decide +kernel), codeAny_builtin F.entry_type_call ?_⟩
  rw [Around.under_plain (weight_type_call_type "set" [.ref l] []) rfl]
  have h1 := F.called_set.notType
  have h2 := F.called_set.canCreate
  have hct := F.typeCall_set_1 (.ref l)
  repeat (any_goals (first | assumption | wp_step))

  refine codeAny_mono (code_set_led1 (.ref l) (E := E) (Q₁ := fun obj s₁ => obj = .ref s.heap.objs.size ∧ s₁ = { s with heap := s.heap.push { cls := .type "set", dict := none, data := .set #[] 0 (.fresh 0 0 (!w.params.followText "set-order")) } }) ⟨rfl, rfl⟩) fun r s₁ hr => ?_
  cases r with
  | error e => exact hr
  | ok fl =>
    cases fl with
    | ret obj =>
      obtain ⟨rfl, rfl⟩ := hr
      have hS : (s.heap.push { cls := .type "set", dict := none, data := .set #[] 0 (.fresh 0 0 (!w.params.followText "set-order")) }).get? s.heap.objs.size = some { cls := .type "set", dict := none, data := .set #[] 0 (.fresh 0 0 (!w.params.followText "set-order")) } := Heap.get?_push_size _ rfl
      have hT : Shared.TypeIs { s with heap := s.heap.push { cls := .type "set", dict := none, data := .set #[] 0 (.fresh 0 0 (!w.params.followText "set-order")) } } (.ref s.heap.objs.size) "set" := ⟨_, hS, rfl⟩
      have hli := F.called_set.init.lookup
      have hbi := F.called_set.init.bind (.ref s.heap.objs.size)
      repeat (any_goals (first | assumption | wp_step))

      refine codeAny_mono (codeAny_call_builtin (R := wants (fun r s₂ => r = .none ∧ ∃ h' tk c, s₂ = { s with heap := h', toks := tk } ∧ SetR w h' s.heap.objs.size (fun j => decide (j ∈ ns)) c ∧ c ≤ ns.length ∧
          (∀ b o, s.heap.get? b = some o → h'.get? b = some o)) E) F.called_set.init.plain F.entry_set_init (check_set_init_1 hT ?_)) fun r₂ s₂ hr₂ => ?_
      · obtain ⟨ol, hol, hol'2⟩ := id hl
        obtain ⟨ocls, odict, odata, oslots⟩ := ol
        obtain ⟨hcl, nl, hdl⟩ := hol'2
        simp only at hcl hdl
        subst hcl; subst hdl
        have hol' : (s.heap.push { cls := .type "set", dict := none, data := .set #[] 0 (.fresh 0 0 (!w.params.followText "set-order")) }).get? l = some { cls := .type "list", dict := odict, data := .seq items nl, slots := oslots } := Heap.get?_push_of_some _ hol
        have hsls := F.sub_list_set
        have hslf := F.sub_list_frozenset
        have hne : (Value.type "list" == Value.type "dict") = false := by decide
        have hl1 : (s.heap.push { cls := .type "set", dict := none, data := .set #[] 0 (.fresh 0 0 (!w.params.followText "set-order")) }).IsList l items := ⟨_, hol', rfl, nl, rfl⟩
        unfold Builtin.«set.__init__» noKeywords Builtin.Frozenset.updateFrom
        generalize hPI : pyIter = PI
        wp_walk
        subst hPI

        refine wpAny_pyIter_list hl1 ?_
        refine wpAny_bind (wpAny_runValue ?_)
        have hlS : l < s.heap.objs.size := Heap.lt_size hol
        have hh3 : A.in1.in1.in1.handled = none := by simp [hh]
        have hneI : l ≠ (s.heap.push { cls := .type "set", dict := none, data := .set #[] 0 (.fresh 0 0 (!w.params.followText "set-order")) }).objs.size := by
          rw [Heap.size_push]; exact Nat.ne_of_lt (Nat.lt_succ_of_lt hlS)
        have hSf : s.heap.objs.size ∉ [(s.heap.push { cls := .type "set", dict := none, data := .set #[] 0 (.fresh 0 0 (!w.params.followText "set-order")) }).objs.size, l] := by
          rw [Heap.size_push]; simp only [List.mem_cons, List.mem_singleton, List.not_mem_nil, or_false, not_or]
          exact ⟨Nat.ne_of_lt (Nat.lt_succ_self _), Nat.ne_of_gt hlS⟩
        have hval : ∀ (i : Nat) (v : Value), items[i]? = some v → ∃ k t, ns[i]? = some k ∧ v = .int k t := fun i v hv => by
          have hi : i < ns.length := by rw [← hisz]; exact (Array.getElem?_eq_some_iff.mp hv).1
          obtain ⟨t, e⟩ := PyProof.Rows.IntsAre.int_at hit i v (by rw [Array.getElem?_toList]; exact hv)
          refine ⟨ns[i], t, List.getElem?_eq_getElem hi, ?_⟩
          rw [e, List.getD_eq_getElem?_getD, List.getElem?_eq_getElem hi] <;> rfl
        refine set_update_ints ((Walks.list hh3 _ l hneI items).toS) s.heap.objs.size
          hSf ns hisz hb hval (items.size - 0) 0 _ (by omega) (Nat.zero_le _)
          ⟨⟨_, Heap.get?_push_size _ rfl, rfl, rfl⟩, (hl1.push _)⟩ ?hS0 ?hR
        case hS0 =>
          have hget : ((s.heap.push { cls := .type "set", dict := none, data := .set #[] 0 (.fresh 0 0 (!w.params.followText "set-order")) }).push { cls := .type "list_iterator", data := .fields #[.ref l, .int 0 0] }).get? s.heap.objs.size
              = some { cls := .type "set", dict := none, data := .set #[] 0 (.fresh 0 0 (!w.params.followText "set-order")) } := Heap.get?_push_of_some _ hS
          exact ⟨0, Nat.le_refl 0, setR_new_at hget⟩
        case hR =>
          intro s' c' hm hc' hS'
          obtain ⟨h', g2, d', tk', os'⟩ := s'
          have eg : g2 = s.gens := hm.gens
          have ed : d' = s.drawn := hm.drawn
          have eo : os' = s.os := hm.os
          subst eg; subst ed; subst eo
          show wpAny _ _ _ _ _ _
          refine wpAny_pure ?_
          show wpAny _ _ (ret Value.none) _ _ _
          rw [hisz] at hc'
          refine wpAny_pure ⟨rfl, h', tk', c', rfl, hS', hc', fun b o e => ?_⟩
          have hb0 : b < s.heap.objs.size := Heap.lt_size e
          have hb1 : b ≠ s.heap.objs.size := Nat.ne_of_lt hb0
          have hb2 : b ≠ (s.heap.push { cls := .type "set", dict := none, data := .set #[] 0 (.fresh 0 0 (!w.params.followText "set-order")) }).objs.size := by
            rw [Heap.size_push]; exact Nat.ne_of_lt (Nat.lt_succ_of_lt hb0)
          exact hm.heap b o (by simp only [List.mem_cons, List.mem_singleton, List.not_mem_nil, or_false, not_or]; exact ⟨hb1, hb2⟩) (Heap.get?_push_of_some _ (Heap.get?_push_of_some _ e))
      · cases r₂ with
        | error e => exact hr₂
        | ok fl₂ =>
          cases fl₂ with
          | ret r =>
            obtain ⟨rfl, h', tk, c', rfl, hS', hc', hk'⟩ := hr₂
            repeat (any_goals (first | assumption | wp_step))
            exact h _ _ _ hS' hc' hk'
          | _ => exact hr₂.elim
    | _ => exact hr.elim
end
end TL

set_option Elab.async false
set_option linter.all false
set_option maxRecDepth 100000
/-! The tree layer: max(list, default=d). The loop follows the library's road for max without a default. -/
namespace TL
open PySem PySem.Spec PyProof.Rows L2
section
variable {prog : Program} {w : World} {A : Around} {R : Result → Shared → Prop} {I : Addr} {fp wr : List Addr} {n : Nat} {P : Nat → Value → Prop} {St : Nat → Heap → Prop} {dv : Value}
theorem max_loopD (W : Walks prog w A.in1 I fp wr n P St) (bt : Nat → Nat → Bool) (hcmp : CmpOf prog w A.in1 .Gt P bt) (S : Addr) (hSf : S ∉ fp) :
    ∀ (k j : Nat) (s : Shared) (vb : Value) (c : Nat), n - (j + 1) = k → j + 1 ≤ n → St (j + 1) s.heap → P (argBest bt j) vb →
    s.heap.get? S = some { cls := .type "list", dict := none, data := .seq #[vb, vb] c, slots := #[] } →
    (∀ v h' tk, P (argBest bt (n - 1)) v → (∀ b o, b ∉ wr → b ≠ S → s.heap.get? b = some o → h'.get? b = some o) → R (.ok (.ret v)) { s with heap := h', toks := tk }) →
    codeAny (model prog w) A (.builtin "max.loop" ⟨[.ref I, .none, .ref S], [("default", dv)]⟩) R s := by
  have hSw : S ∉ wr := fun h => hSf (W.sub _ h)
  have hname : (toString "max" ++ toString ".loop" : String) = "max.loop" := by decide
  intro k
  induction k with
  | zero =>
    intro j s vb c hk hj hst hPb hS hR
    have hin : j + 1 = n := by omega
    refine codeAny_builtin F.entry_max_loop ?_
    rw [Around.under_plainId F.plain_max_loop _]
    show wpAny _ A.in1 (seqItems? (.ref S) >>= _) _ _ s
    refine wpAny_bind (wpAny_seqItems hS rfl ?_)
    show wpAny _ A.in1 (tryCatch (pyNext (.ref I)) _ >>= _) _ _ s
    refine wpAny_bind (wpAny_tryCatch (W.done s _ _ (hin ▸ hst) fun h' tk hk' => ?_))
    have hS' := hk' S _ hSw hS
    show wpAny _ A.in1 (updateSeq S (fun _ => #[]) >>= _) _ _ _
    refine wpAny_bind ?_
    refine wpAny_updateSeq hS' rfl (wpAny_bind (wpAny_letGo (wpAny_pure ?_)))
    refine hR vb _ tk (by rw [← hin]; exact hPb) fun b o hbw hbS e => (Heap.get?_update_other _ _ (Ne.symm hbS)).trans (hk' b o hbw e)
  | succ k ih =>
    intro j s vb c hk hj hst hPb hS hR
    have hlt : j + 1 < n := by omega
    refine codeAny_builtin F.entry_max_loop ?_
    rw [Around.under_plainId F.plain_max_loop _]
    show wpAny _ A.in1 (seqItems? (.ref S) >>= _) _ _ s
    refine wpAny_bind (wpAny_seqItems hS rfl ?_)
    show wpAny _ A.in1 (tryCatch (pyNext (.ref I)) _ >>= _) _ _ s
    refine wpAny_bind (wpAny_tryCatch (W.item (j + 1) s _ _ hlt hst fun v h' tk hP hst' hk' => ?_))
    have hS' := hk' S _ hSw hS
    show wpAny _ A.in1 (tryCatch (holding [v, v] (richCompare .Gt v vb >>= _)) _ >>= _) _ _ _
    refine wpAny_bind (wpAny_tryCatch (wpAny_holding (wpAny_bind (hcmp (j + 1) (argBest bt j) v vb _ _ _ hP hPb ?_))))
    refine wpAny_bind (wpAny_holding (wpAny_truthy_bool ?_))
    refine wpAny_bind (wpAny_letGo (wpAny_pure ?_))
    cases hb : bt (j + 1) (argBest bt j) with
    | true =>
      simp only [if_true]
      refine wpAny_bind ?_
      refine wpAny_updateSeq hS' rfl (wpAny_bind (wpAny_letGo ?_))
      rw [hname]
      refine wpAny_pure ⟨plainId_quiet F.plain_max_loop _, ih (j + 1) _ v _ (by omega) hlt (W.frame _ _ _ hst' fun b hbf o e => ?_) (by simp only [argBest, hb, if_true]; exact hP) (Heap.get?_update_self _ hS' rfl)
        fun v' h'' tk'' hP' hk'' => ?_⟩
      · exact (Heap.get?_update_other _ _ (fun h : S = b => hSf (by rw [h]; exact hbf))).trans e
      · exact hR v' h'' tk'' hP' fun b o hbw hbS e => hk'' b o hbw hbS ((Heap.get?_update_other _ _ (Ne.symm hbS)).trans (hk' b o hbw e))
    | false =>
      simp only [Bool.false_eq_true, if_false]
      refine wpAny_bind (wpAny_letGo ?_)
      rw [hname]
      refine wpAny_pure ⟨plainId_quiet F.plain_max_loop _, ih (j + 1) _ vb c (by omega) hlt hst' (by simp only [argBest, hb, Bool.false_eq_true, if_false]; exact hPb) hS' fun v' h'' tk'' hP' hk'' => ?_⟩
      exact hR v' h'' tk'' hP' fun b o hbw hbS e => hk'' b o hbw hbS (hk' b o hbw e)
/-- from the empty list of the best so far: some item, or the default -/
theorem max_firstD (W : Walks prog w A.in1 I fp wr n P St) (bt : Nat → Nat → Bool) (hcmp : CmpOf prog w A.in1 .Gt P bt) (S : Addr) (hSf : S ∉ fp) {s : Shared} {c : Nat} (hst : St 0 s.heap)
    (hS : s.heap.get? S = some { cls := .type "list", dict := none, data := .seq #[] c, slots := #[] })
    (hR : ∀ v h' tk, (0 < n → P (argBest bt (n - 1)) v) → (n = 0 → v = dv) → (∀ b o, b ∉ wr → b ≠ S → s.heap.get? b = some o → h'.get? b = some o) → R (.ok (.ret v)) { s with heap := h', toks := tk }) :
    codeAny (model prog w) A (.builtin "max.loop" ⟨[.ref I, .none, .ref S], [("default", dv)]⟩) R s := by
  have hSw : S ∉ wr := fun h => hSf (W.sub _ h)
  have hname : (toString "max" ++ toString ".loop" : String) = "max.loop" := by decide
  refine codeAny_builtin F.entry_max_loop ?_
  rw [Around.under_plainId F.plain_max_loop _]
  show wpAny _ A.in1 (seqItems? (.ref S) >>= _) _ _ s
  refine wpAny_bind (wpAny_seqItems hS rfl ?_)
  show wpAny _ A.in1 (tryCatch (pyNext (.ref I)) _ >>= _) _ _ s
  rcases Nat.eq_zero_or_pos n with hn | hn
  · subst hn
    refine wpAny_bind (wpAny_tryCatch (W.done s _ _ hst fun h' tk hk' => ?_))
    refine wpAny_bind (wpAny_rule (wpAny_pure ?_))
    exact hR dv h' tk (fun h => absurd h (Nat.lt_irrefl 0)) (fun _ => rfl) fun b o hbw hbS e => hk' b o hbw e
  · refine wpAny_bind (wpAny_tryCatch (W.item 0 s _ _ hn hst fun v h' tk hP hst' hk' => ?_))
    have hS' := hk' S _ hSw hS
    show wpAny _ A.in1 (updateSeq S (fun _ => #[v, v]) >>= _) _ _ _
    refine wpAny_bind ?_
    refine wpAny_updateSeq hS' rfl ?_
    rw [hname]
    refine wpAny_pure ⟨plainId_quiet F.plain_max_loop _, max_loopD W bt hcmp S hSf _ 0 _ v _ rfl hn (W.frame _ _ _ hst' fun b hbf o e => ?_) hP (Heap.get?_update_self _ hS' rfl) fun v' h'' tk'' hP' hk'' => ?_⟩
    · exact (Heap.get?_update_other _ _ (fun h : S = b => hSf (by rw [h]; exact hbf))).trans e
    · exact hR v' h'' tk'' (fun _ => hP') (fun h => absurd hn (by omega)) fun b o hbw hbS e => hk'' b o hbw hbS ((Heap.get?_update_other _ _ (Ne.symm hbS)).trans (hk' b o hbw e))
end
section
variable {prog : Program} {w : World} {A : Around} {E : Value → Shared → Prop} {s : Shared}
theorem call_fun_kw {id : String} {b : Builtin} {args : List Value} {kw : List (Str × Value)} {Q : Value → Shared → Prop} (hk : builtinKind id = none) (hp : plainId id = true)
    (hb : entryFor table id = some b) (ha : argsOk id ⟨args, kw⟩)
    (hc : wpAny (model prog w) A.in1 (b ⟨args, kw⟩) (fun fin s' => match fin with
      | .done f => (match (Except.ok f : Result) with | .ok (.ret v) => Q v s' | .ok _ => False | .error e => E e s')
      | .again c' => c'.quiet = true ∧ codeAny (model prog w) A c' (fun r s' => match r with | .ok (.ret v) => Q v s' | .ok _ => False | .error e => E e s') s') E s) :
    wpAny (model prog w) A (call (.builtin id) args kw) Q E s := by
  refine wpAny_call (codeAny_call_builtin hp hb ?_)
  simp only [checkBuiltinCall, hk]
  cases hsig : Manifest.signature? id with
  | none => exact wpAny_pure hc
  | some sig =>
    simp only [argsOk, hsig] at ha
    have h2 : Bind.checkArgs id sig ⟨args, kw⟩ = pure () := ha
    show wpAny _ A.in1 (Bind.checkArgs id sig ⟨args, kw⟩) _ _ s
    rw [h2]; exact wpAny_pure hc
theorem args_maxD (a v : Value) : argsOk "max" ⟨[a], [("default", v)]⟩ := by unfold argsOk; kernel_rfl
theorem max_rawD {l : Addr} {its : List Value} {ns : List Int} {dv : Value} {Q : Value → Shared → Prop} (hh : A.handled = none) (hl : s.heap.IsList l its.toArray) (hi : IntsAre its ns)
    (h : ∀ h' tk v, (∀ b o, s.heap.get? b = some o → h'.get? b = some o) → (ns = [] → v = dv) → (ns ≠ [] → ∃ M t', v = .int M t' ∧ M ∈ ns ∧ ∀ a, a ∈ ns → a ≤ M) → Q v { s with heap := h', toks := tk }) : wpAny (model prog w) A (call (.builtin "max") [.ref l] [("default", dv)]) Q E s := by
  obtain ⟨xs, e⟩ := hi.allInts.items
  have hn : numsOf (intItems xs).toList = ns := by rw [← e]; exact hi.numsOf
  rw [nums_intItems] at hn
  subst hn
  rw [e] at hl
  have hname : (toString "max" ++ toString ".loop" : String) = "max.loop" := by decide
  refine call_fun_kw F.kind_max F.plain_max F.entry_max (args_maxD _ _) ?_
  show wpAny _ A.in1 (Builtin.Builtins.bindParams "max" ["key", "default"] 0 ⟨[], [("default", dv)]⟩ >>= _) _ _ s
  refine wpAny_bind (wpAny_of_eq (show Builtin.Builtins.bindParams "max" ["key", "default"] 0 ⟨[], [("default", dv)]⟩ = pure [none, some dv] from by kernel_rfl) ?_)
  refine wpAny_bind (wpAny_pure ?_)
  refine wpAny_bind (iter_intList hl fun s₂ e st hfp hlI => ?_)
  subst e
  refine wpAny_bind (wpAny_newObj_type ?_)
  rw [hname]
  refine wpAny_pure ⟨plainId_quiet F.plain_max_loop _, max_firstD (Walks.list (A := A.in1) hh _ l hlI (intItems xs)) _ (CmpOf.ints_gt (numAt xs) (fun _ _ => intItems_at)) (s.heap.push { cls := .type "list_iterator", data := .fields #[.ref l, .int 0 0] }).objs.size (fun hm => Nat.lt_irrefl _ (hfp _ hm)) ((Walks.list (A := A.in1) (prog := prog) (w := w) hh _ l hlI (intItems xs)).frame _ _ _ st fun b _ o e => Heap.get?_push_of_some _ e) (Heap.get?_push_size _ rfl) fun v h' tk hP hE hk => ?_⟩
  refine h h' tk v (fun b o e => ?_) (fun hz => ?_) (fun hz => ?_)
  · have hb0 : b < s.heap.objs.size := Heap.lt_size e
    refine hk b o ?_ ?_ (Heap.get?_push_of_some _ (Heap.get?_push_of_some _ e))
    · simp only [List.mem_singleton]
      exact Nat.ne_of_lt hb0
    · rw [Heap.size_push]
      exact Nat.ne_of_lt (Nat.lt_succ_of_lt hb0)
  · refine hE ?_
    have : xs.toList = [] := List.map_eq_nil_iff.mp hz
    simp [intItems, Array.toList_eq_nil_iff.mp this]
  · have hsz : 0 < xs.size := by
      rcases Nat.eq_zero_or_pos xs.size with q | q
      · exact absurd (by rw [Array.toList_eq_nil_iff.mpr (Array.eq_empty_of_size_eq_zero q)]; rfl) hz
      · exact q
    have hv := hP (by simpa [intItems] using hsz)
    have hv : (intItems xs)[argBest (fun i j => decide (numAt xs i > numAt xs j)) (xs.size - 1)]? = some v := by simpa [intItems] using hv
    obtain ⟨t, rfl⟩ := intItems_at hv
    obtain ⟨h1, h2⟩ := argBest_gt (numAt xs) (xs.size - 1)
    refine ⟨_, t, rfl, ?_, fun a ha => ?_⟩
    · rw [numAt_eq]; exact PySem.getD_mem (by rw [List.length_map, Array.length_toList]; omega)
    · obtain ⟨j, hj, rfl⟩ := mem_getD ha
      rw [List.length_map, Array.length_toList] at hj
      rw [← numAt_eq]; exact h2 j (by omega)
end
section
variable {X : Cx}
theorem cr_maxD2 (hc : X.calm = true) : CallRK X (.builtin "max") [("default" : Str)] (fun vs zs H Q => ∃ (a : Addr) (ns : List Int) (z : V), vs = [V.ref a] ∧ zs = [z] ∧ SqL X.K H a (ns.map V.int) ∧ (ns = [] → Q z H) ∧ (ns ≠ [] → ∀ m, m ∈ ns → (∀ y, y ∈ ns → y ≤ m) → Q (.int m) H)) := by
  intro pins s σ H vs zs us ws Q I r rz h
  obtain ⟨a, ns, z, rfl, rfl, hs, q0, q1⟩ := h
  obtain rfl := Vals.ref1 r
  obtain ⟨w1, rfl, e1⟩ := vals1 rz
  obtain ⟨its, rv, hl, _⟩ := I.list hs
  refine max_rawD (I.ok.hd hc) hl.isList rv.ints fun h' tk v hk g0 g1 => ?_
  by_cases hz : ns = []
  · rw [g0 hz]
    exact ⟨z, H, I.kept hk, e1, q0 hz⟩
  · obtain ⟨M, t', rfl, h1, h2⟩ := g1 hz
    exact ⟨.int M, H, I.kept hk, ⟨_, rfl⟩, q1 hz M h1 h2⟩
end
end TL

set_option Elab.async false
set_option linter.all false
set_option maxRecDepth 100000
/-! The tree layer: sorted(set(list)), max(list, default=d), a new list by an if-expression. -/
namespace TL
open PySem PySem.Spec PyProof.Rows L2
theorem nodup_le : ∀ (n : Nat) (l : List Int), l.Nodup → (∀ x ∈ l, 0 ≤ x ∧ x < n) → l.length ≤ n
  | 0, l, _, h => by
    cases l with
    | nil => exact Nat.le_refl _
    | cons a l => have := h a List.mem_cons_self; omega
  | n + 1, l, hn, h => by
    by_cases hm : (n : Int) ∈ l
    · have := nodup_le n (l.erase n) (hn.erase _) fun x hx => by
        have h1 := (List.Nodup.mem_erase_iff hn).mp hx
        have h2 := h x h1.2
        have h3 := h1.1
        omega
      rw [List.length_erase_of_mem hm] at this
      omega
    · have := nodup_le n l hn fun x hx => by
        have h2 := h x hx
        have h3 : x ≠ n := fun e => hm (e ▸ hx)
        omega
      omega
theorem asc_ext : ∀ {l m : List Int}, l.Pairwise (· < ·) → m.Pairwise (· < ·) → (∀ x, x ∈ l ↔ x ∈ m) → l = m
  | [], [], _, _, _ => rfl
  | [], b :: m, _, _, h => absurd ((h b).mpr List.mem_cons_self) (by simp)
  | a :: l, [], _, _, h => absurd ((h a).mp List.mem_cons_self) (by simp)
  | a :: l, b :: m, hl, hm, h => by
    have hl1 := List.pairwise_cons.mp hl
    have hm1 := List.pairwise_cons.mp hm
    have hab : a = b := by
      rcases List.mem_cons.mp ((h a).mp List.mem_cons_self) with e | e
      · exact e
      · rcases List.mem_cons.mp ((h b).mpr List.mem_cons_self) with e2 | e2
        · exact e2.symm
        · have h1 := hm1.1 a e
          have h2 := hl1.1 b e2
          omega
    subst hab
    have := asc_ext hl1.2 hm1.2 fun x => by
      constructor
      · intro hx
        rcases List.mem_cons.mp ((h x).mp (List.mem_cons_of_mem _ hx)) with e | e
        · have := hl1.1 x hx
          omega
        · exact e
      · intro hx
        rcases List.mem_cons.mp ((h x).mpr (List.mem_cons_of_mem _ hx)) with e | e
        · have := hm1.1 x hx
          omega
        · exact e
    rw [this]
def sixty (ns : List Int) : List Int := (List.range 60).filterMap fun (k : Nat) => if (k : Int) ∈ ns then some (k : Int) else none
theorem sixty_mem {ns : List Int} (h : ∀ x ∈ ns, 0 ≤ x ∧ x < 60) (x : Int) : x ∈ sixty ns ↔ x ∈ ns := by
  simp only [sixty, List.mem_filterMap, List.mem_range, Option.ite_none_right_eq_some, Option.some.injEq]
  constructor
  · rintro ⟨k, _, h1, rfl⟩
    exact h1
  · intro hx
    have := h x hx
    exact ⟨x.toNat, by omega, by rwa [show ((x.toNat : Nat) : Int) = x by omega], by omega⟩
theorem sixty_asc (ns : List Int) : (sixty ns).Pairwise (· < ·) := by
  unfold sixty
  refine List.Pairwise.filterMap _ ?_ List.pairwise_lt_range
  intro a b hab x hx y hy
  simp only [Option.mem_def, Option.ite_none_right_eq_some, Option.some.injEq] at hx hy
  obtain ⟨_, rfl⟩ := hx
  obtain ⟨_, rfl⟩ := hy
  omega
def okSet (ns : List Int) : Bool := Nat.blt (ns.length + 1) 4096 && ns.all fun x => decide (0 ≤ x) && decide (x < 60)
def sortSetD : D → Option D
  | .list ds => (intsOf ds).bind fun ns => if okSet ns = true then some (.list ((sixty ns).map .int)) else none
  | _ => none
def rSetI (K : PySem.W.Frag) (w : World) : List V → Hp → VK → Prop := fun xs H Q => ∃ (a : Addr) (ns : List Int), xs = [.ref a] ∧ SqL K H a (ns.map V.int) ∧ ns.length + 1 < scanBound ∧ (∀ x ∈ ns, 0 ≤ x ∧ x < 60) ∧ ∀ p c, H p = none → c < 64 → Q (.ref p) (upd H p (SetO w p (fun j => decide (j ∈ ns)) c))
section
variable {X : Cx} {O : List Nat}
theorem cr_setI (hc : X.calm = true) : CallR X (.type "set") (rSetI X.K X.w) := by
  intro pins s σ H vs us Q I r h
  obtain ⟨a, ns, rfl, hs, hb, hr, q⟩ := h
  obtain ⟨its, rv, hl, _⟩ := I.list hs
  rw [Vals.ref1 r]
  have hi : IntsAre its.toArray.toList ns := by
    rw [List.toList_toArray]
    exact rv.ints
  refine call_set_listI ns (I.ok.hd hc) hl.isList hi hb fun h' tk c R hc' k => ?_
  have hc64 : c < 64 := by
    obtain ⟨o, es, ep, t, ho, hex, hdt, g, nd, hm, hb, hf, hn, _⟩ := R
    have := nodup_le 60 (es.toList.map keyOf) nd fun x hx => hr x (by
      have := (hm x).mpr hx
      exact of_decide_eq_true this)
    rw [List.length_map, Array.length_toList] at this
    omega
  exact ⟨.ref s.heap.objs.size, upd H s.heap.objs.size (SetO X.w s.heap.objs.size (fun j => decide (j ∈ ns)) c), I.laid (t' := tk) (fun b u e => k b u e) (Nat.le_refl _) (setO_new R), rfl, q _ _ (I.hok.fresh (Nat.le_refl _)) hc64⟩
theorem esortset {e : Expr} {f : SE} {p p2 pos pos2 : Pos} (hc : X.calm = true) (hg : Gl X "sorted") (hm : X.mg "sorted" = none) (hg2 : Gl X "set") (hm2 : X.mg "set" = none) (he : PE X e (rV (gx X) O f))
    (hs : starEach [e] X.env = (false, eval e X.env) :: starEach [] X.env := by rfl) (hs2 : starEach [.Call (.Name "set" p2) [e] [] pos2] X.env = (false, eval (.Call (.Name "set" p2) [e] [] pos2) X.env) :: starEach [] X.env := by rfl) :
    PE X (.Call (.Name "sorted" p) [.Call (.Name "set" p2) [e] [] pos2] [] pos) (rN (gx X) O (e1 sortSetD f)) :=
  (pe_callB (cr_sortedSet hc) hg hm (by decide +kernel) (pa_cons (pe_callTy (cr_setI hc) hg2 hm2 (by decide +kernel) (pa_cons he pa_nil hs) (by decide) (by decide) hs rfl) pa_nil hs2) (by decide) (by decide) hs2 rfl).imp fun σ H Q ⟨F, env, d, hs, hf, q⟩ => by
    obtain ⟨x, h1, h3⟩ := split1 hf
    refine ⟨F, env, x, hs, h1, fun v F1 H1 g1 r1 => ?_⟩
    cases x with
    | list ds =>
      simp only [sortSetD] at h3
      obtain ⟨ns, h4, h5⟩ := bind_some h3
      split at h5
      · rename_i ok
        cases h5
        simp only [okSet, Bool.and_eq_true, Nat.blt_eq, List.all_eq_true, decide_eq_true_eq] at ok
        cases r1 with
        | lst sq ra =>
          have e1 := RpAll.ints ra h4
          subst e1
          refine ⟨_, ns, rfl, g1.fh.seq sq, ok.1, ok.2, fun p c hp hc => ⟨p, _, c, rfl, upd_same, hc, fun ns' p' asc mem len hp' => ?_⟩⟩
          have e2 : ns' = sixty ns := asc_ext asc (sixty_asc ns) fun k => by
            rw [mem k, sixty_mem ok.2 k]
            exact decide_eq_true_iff
          subst e2
          have ga := Gr.open_ (o := SetO X.w p (fun j => decide (j ∈ ns)) c) g1.fh hp
          have gb := Gr.open_ (o := HO.lst ((sixty ns).map V.int)) ga.fh hp'
          have hF : F1 p' = none := Same.nn ga.fh hp'
          have rp : ∀ l : List Int, RpAll (gx X) F1 (l.map V.int) (l.map PyData.int) := fun l => by
            induction l with
            | nil => exact .nil
            | cons a l ih => exact .cons (.int a) ih
          have hH : H p' = none := (g1.trans ga).hh.free hp'
          exact q p' _ _ F1 _ (g1.trans (ga.trans gb)) hH hF upd_same (rp _) rfl
      · cases h5
    | _ => cases h3
/-! ### max(list, default=d) -/
def maxDD : D → D → Option D
  | .list ds, .int d => (intsOf ds).map fun ns => .int (match ns with | [] => d | a :: r => r.foldl max a)
  | _, _ => none
theorem foldl_mem : ∀ (l : List Int) (a : Int), l.foldl max a ∈ a :: l ∧ ∀ y ∈ a :: l, y ≤ l.foldl max a
  | [], a => ⟨List.mem_cons_self, fun y hy => by rw [List.mem_singleton.mp hy]; exact Int.le_refl _⟩
  | b :: l, a => by
    obtain ⟨h1, h2⟩ := foldl_mem l (max a b)
    rw [List.foldl_cons]
    refine ⟨?_, fun y hy => ?_⟩
    · rcases List.mem_cons.mp h1 with e | e
      · rw [e]
        rcases Int.le_total a b with h | h
        · rw [Int.max_eq_right h]; exact List.mem_cons_of_mem _ List.mem_cons_self
        · rw [Int.max_eq_left h]; exact List.mem_cons_self
      · exact List.mem_cons_of_mem _ (List.mem_cons_of_mem _ e)
    · have h0 := h2 (max a b) List.mem_cons_self
      rcases List.mem_cons.mp hy with rfl | hy
      · omega
      · rcases List.mem_cons.mp hy with rfl | hy
        · omega
        · exact h2 y (List.mem_cons_of_mem _ hy)
theorem emaxD {e d : Expr} {f g : SE} {p pos kp : Pos} (hc : X.calm = true) (hg : Gl X "max") (hm : X.mg "max" = none) (he : PE X e (rV (gx X) O f)) (hd : PE X d (rV (gx X) O g))
    (hs : starEach [e] X.env = (false, eval e X.env) :: starEach [] X.env := by rfl) (hb : backTo pos (starEach [e] X.env) = (false, eval e X.env) :: backTo pos (starEach [] X.env) := by rfl) (hpl : (backTo pos (starEach [e] X.env)).any (·.1) = false := by rfl)
    (hall : (backToKw pos (keywordEach [⟨some "default", d, kp⟩] X.env)).all (·.1.isSome) = true := by rfl) (hnone : (backToKw pos (keywordEach [⟨some "default", d, kp⟩] X.env)).any (·.1.isNone) = false := by rfl) (hks : (backToKw pos (keywordEach [⟨some "default", d, kp⟩] X.env)).filterMap (·.1) = [("default" : Str)] := by rfl) :
    PE X (.Call (.Name "max" p) [e] [⟨some "default", d, kp⟩] pos) (rV (gx X) O (e2 maxDD f g)) :=
  (pe_callBK (cr_maxD2 hc) hg hm (by decide +kernel) (pa_cons he pa_nil hs) (pk_cons hd pk_nil) (by decide) (by decide) hb hpl hall hnone hks).imp fun σ H Q ⟨F, env, dd, hs, hf, q⟩ => by
    obtain ⟨x, y, h1, h2, h3⟩ := split2 hf
    refine ⟨F, env, x, hs, h1, fun v F1 H1 g1 r1 => ⟨F1, env, y, hs.gr g1, h2, fun u F2 H2 g2 r2 => ?_⟩⟩
    cases x with
    | list ds =>
      cases y with
      | int z =>
        simp only [maxDD] at h3
        obtain ⟨ns, h4, h5⟩ := map_some h3
        subst h5
        cases r1 with
        | lst sq ra =>
          cases r2
          have e1 := RpAll.ints ra h4
          subst e1
          refine ⟨_, ns, .int z, rfl, rfl, (g2.hh.seq (g1.fh.seq sq)), fun hz => ?_, fun hz m hm hle => ?_⟩
          · subst hz
            exact q _ F2 H2 (g1.trans g2) (.int z)
          · cases ns with
            | nil => exact absurd rfl hz
            | cons a l =>
              obtain ⟨k1, k2⟩ := foldl_mem l a
              have : m = l.foldl max a := by
                have a1 := hle _ k1
                have a2 := k2 m hm
                omega
              subst this
              exact q _ F2 H2 (g1.trans g2) (.int _)
      | _ => cases h3
    | _ => cases y <;> cases h3
theorem eifN {c a b : Expr} {ta : ST} {fa fb : SE} {pos : Pos} (hc : PT X c (rT (gx X) O ta)) (ha : PE X a (rN (gx X) O fa)) (hb : PE X b (rN (gx X) O fb)) : PE X (.IfExp c a b pos) (rN (gx X) O (eIf ta fa fb)) :=
  (pe_ifExp hc ha hb).imp fun σ H Q ⟨F, env, d, hs, hf, q⟩ => by
    simp only [eIf] at hf
    obtain ⟨k, h1, hf⟩ := bind_some hf
    refine ⟨F, env, k, hs, h1, fun F1 H1 g1 => ?_⟩
    cases k with
    | true => exact ⟨F1, env, d, hs.gr g1, hf, q.gr g1⟩
    | false => exact ⟨F1, env, d, hs.gr g1, hf, q.gr g1⟩
end
end TL

set_option Elab.async false
set_option linter.all false
set_option maxRecDepth 100000
/-! all(..), any(..) over a generator expression whose element is any expression. -/
namespace TL
open PySem PySem.Spec PyProof.Rows L2 GenW
/-- the generator's own context -/
abbrev gX (X : Cx) (A : Around) (s : Shared) (H : Hp) (env : PySem.Env) (fp : List Addr) (pn : List (Addr × Obj)) : Cx :=
  { X with A := A, s_0 := s, H_0 := H, env := env, outer := X.stack, stack := env :: X.stack, ex := fp, fn := fun _ => false, calm := true, pn := pn, xe := fun _ _ => False }
structure GenOk (N : List Str) (sc scope : Scope) (own : List (Str × Nat)) : Prop where
  b : BlkOk N sc scope own
  co : scope.isCoroutine = false
  cell : ∀ y ∈ scope.names, y.2 ≠ .cell
  dot : scope.names.lookup (".0" : Str) = some NameKind.local
theorem over_gen {A : Around} {elt tg iter : Expr} {ifs : List Expr} {scope : Scope} {pos : Pos} {it acc : Value} {env : PySem.Env} :
    A.over (.compLoop (.GeneratorExp elt [⟨tg, iter, ifs, 0⟩] scope pos) 0 it acc env) [] = A.deeper env := by
  first
    | rfl
    | (obtain ⟨hd, d, fr, gs, u⟩ := A; simp [Around.over, Around.deeper, marksOver, frameCount, unitsOf, envsOf, guardsOf, pushEnvs, pushGuards, Code.envs, Code.env?, Code.isFrame, Code.guards, Code.isGuard, Code.weight, Code.frames, Code.isCreation, Code.isCaller, Code.cUnits])
theorem over_gen0 {A : Around} {elt tg iter : Expr} {ifs : List Expr} {scope : Scope} {pos : Pos} {it acc : Value} {env : PySem.Env} :
    A.over (.compStart (.GeneratorExp elt [⟨tg, iter, ifs, 0⟩] scope pos) 0 it acc env) [] = A.deeper env := by
  first
    | rfl
    | (obtain ⟨hd, d, fr, gs, u⟩ := A; simp [Around.over, Around.deeper, marksOver, frameCount, unitsOf, envsOf, guardsOf, pushEnvs, pushGuards, Code.envs, Code.env?, Code.isFrame, Code.guards, Code.isGuard, Code.weight, Code.frames, Code.isCreation, Code.isCaller, Code.cUnits])
section
variable {X : Cx} {pins : List (Addr × Obj)} {σ : L2.St} {H : Hp} {s : Shared}
theorem inv_gens {g : Array GenState} (I : Inv X pins σ H s) (hg : AllBare g) : Inv X pins σ H { s with gens := g } :=
  ⟨I.ok, I.os, hg, I.base, I.loc, I.cell, I.free, I.freeC, I.pin, I.hok, I.len⟩
theorem inv_setGen {g : Nat} {x : GenState} (I : Inv X pins σ H s) (hx : x.bare = true) : Inv X pins σ H (s.setGen g x) := inv_gens I (allBare_setGen I.bare hx)
/-- the generator's own context at its making -/
theorem gen_start {scope : Scope} {own : List (Str × Nat)} {fp : List Addr} {A' : Around} {code : Value} {m : Str → Option Value} {s5 : Shared} {pn : List (Addr × Obj)} (I : Inv X pins σ H s) (ok : GenOk X.N X.env.scope scope own) (hN : X.N.Nodup) (hfp : ∀ b ∈ fp, FpOk X pins H b ∧ b < s.heap.objs.size)
    (hA : A'.frames = some (genEnv scope (cloFrom X.env.cells scope.names []) s.heap.objs.size code builtinsNs X.env :: X.stack)) (hh : A'.handled = none)
    (hk : ∀ b o, s.heap.get? b = some o → s5.heap.get? b = some o) (hns : s5.heap.Ns s.heap.objs.size m) (hos : s5.os = s.os) (hg : AllBare s5.gens)
    (hpn : ∀ p ∈ pn, s5.heap.get? p.1 = some p.2 ∧ s.heap.objs.size < p.1 ∧ ∀ v, p.2.data ≠ .cell v) :
    Inv (gX X A' s H (genEnv scope (cloFrom X.env.cells scope.names []) s.heap.objs.size code builtinsNs X.env) fp pn) [] (wipe σ (own.map (·.2))) H s5 := by
  have hfree : ∀ y ∈ scope.names, y.2 = .free → ∃ c, X.env.cells.lookup y.1 = some c := fun y hy e => by
    rcases ok.b.free y hy e with k | k
    · exact I.ok.has _ (.inl k)
    · exact I.ok.has _ (.inr k)
  generalize hcenv : genEnv scope (cloFrom X.env.cells scope.names []) s.heap.objs.size code builtinsNs X.env = cenv at hA
  have hL : cenv.locals = s.heap.objs.size := by rw [← hcenv]; rfl
  have hcl : cenv.cells = cloFrom X.env.cells scope.names [] := by rw [← hcenv]; rfl
  have hsc : cenv.scope = scope := by rw [← hcenv]; rfl
  have cm : ∀ {y c}, cenv.cells.lookup y = some c → X.env.cells.lookup y = some c ∧ c < s.heap.objs.size := fun {y c} e => by
    rw [hcl] at e
    rcases cloFrom_mem (PySem.mem_of_lookup e) with hm | ⟨h1, rfl⟩
    · cases hm
    · obtain ⟨c, hc⟩ := hfree _ h1 rfl
      rw [hc]
      obtain ⟨w, z⟩ := I.cell _ _ hc
      exact ⟨rfl, z.lt⟩
  have look : ∀ {y}, scope.names.lookup y = some .free → ∃ c, cenv.cells.lookup y = some c ∧ X.env.cells.lookup y = some c := fun {y} hl => by
    have hy : (y, NameKind.free) ∈ scope.names := PySem.mem_of_lookup hl
    obtain ⟨c', e'⟩ := mem_lookup (cloFrom_has (cells := X.env.cells) (acc := []) hy)
    rw [← hcl] at e'
    exact ⟨c', e', (cm e').1⟩
  have okB : (gX X A' s H cenv fp pn).Ok := by
    refine ⟨I.ok.mod, by show cenv.scope.kind = _; rw [hsc]; exact ok.b.kind, by show cenv.globals = _; rw [← hcenv]; exact I.ok.glob, by show cenv.builtins = _; rw [← hcenv]; rfl, by show s.heap.objs.size ≤ cenv.locals; rw [hL]; exact Nat.le_refl _,
      fun y z c e1 e2 => I.ok.inj y z c (cm e1).1 (cm e2).1, fun y hy => ?_, fun y c z e => (by cases z), fun _ => hh, hA, .inr ⟨rfl, by show cenv.frame = some cenv.locals; rw [← hcenv]; rfl⟩, fun b hb => ⟨?_, fun y c e z => (hfp b hb).1.2.2.2.2.1 y c (cm e).1 z⟩, I.bs, Nat.le_trans I.ok.bsz I.sz, fun b o e hb => ?_, fun b hb z => ?_, I.stack, I.stkFree⟩
    · show ∃ c, cenv.cells.lookup y = some c
      rcases hy with hy | hy
      · have hy : cenv.scope.names.lookup y = some .cell := hy
        rw [hsc] at hy
        exact absurd rfl (ok.cell _ (PySem.mem_of_lookup hy))
      · have hy : cenv.scope.names.lookup y = some .free := hy
        rw [hsc] at hy
        obtain ⟨c, h1, _⟩ := look hy
        exact ⟨c, h1⟩
    · show b ≠ cenv.locals
      rw [hL]; exact Nat.ne_of_lt (hfp b hb).2
    · rcases (hfp b hb).1.2.2.2.1 with z | z
      · exact I.ok.noex b o e z
      · exact absurd (Nat.lt_of_lt_of_le (Heap.lt_size e) (Nat.le_trans I.ok.bsz z)) (Nat.lt_irrefl _)
    · rcases List.mem_cons.mp (I.stkSub b z) with z | z
      · exact (hfp b hb).1.2.1 z
      · exact (hfp b hb).1.2.2.1 z
  refine ⟨okB, hos, hg, Un.kept hk, ⟨m, by show s5.heap.Ns cenv.locals m; rw [hL]; exact hns, fun i y av e1 e2 e3 => ?_⟩, fun y c e => ?_, ?_, fun y c e => ?_, fun p hp => ?_, I.hok.kept hk, by rw [wipe_length]; exact I.len⟩
  · obtain ⟨e2, hne⟩ := wipe_some e2
    have hfr : scope.names.lookup y = some .free := by
      have e3 : Vis cenv.scope y := e3
      rw [hsc] at e3
      rcases e3 with e3 | e3 | e3
      · rcases ok.b.own _ (PySem.mem_of_lookup e3) (.inl rfl) with e' | e'
        · obtain ⟨p, hp, hpy⟩ := List.mem_map.mp e'
          have e4 := ok.b.ix p hp
          have : p.1 = y := hpy
          rw [this] at e4
          exact absurd (List.mem_map.mpr ⟨p, hp, nodup_ix hN e4 e1⟩) hne
        · exact absurd (List.mem_of_getElem? e1) e'
      · exact absurd rfl (ok.cell _ (PySem.mem_of_lookup e3))
      · exact e3
    obtain ⟨m0, hn, hl⟩ := I.loc
    have hvis : Vis X.env.scope y := (ok.b.free _ (PySem.mem_of_lookup hfr) rfl).elim (fun k => .inr (.inl k)) (fun k => .inr (.inr k))
    obtain ⟨w, r, q⟩ := hl i y av e1 e2 hvis
    refine ⟨w, r, .inr ⟨.inr (by show cenv.scope.names.lookup y = _; rw [hsc]; exact hfr), ?_⟩⟩
    obtain ⟨c, h1, h2⟩ := look hfr
    rcases q with ⟨k, _⟩ | ⟨_, c', e', z⟩
    · have k : X.env.scope.names.lookup y = some .local := k
      rcases ok.b.free _ (PySem.mem_of_lookup hfr) rfl with k' | k' <;> rw [show X.env.scope.names.lookup y = _ from k'] at k <;> cases k
    · rw [h2] at e'; cases e'
      exact ⟨c, h1, z.keeps hk⟩
  · have e : cenv.cells.lookup y = some c := e
    obtain ⟨w, z⟩ := I.cell y c (cm e).1
    exact ⟨w, z.keeps hk⟩
  · show H cenv.locals = none
    rw [hL]; exact I.hok.fresh (Nat.le_refl _)
  · have e : cenv.cells.lookup y = some c := e
    exact I.freeC y c (cm e).1
  · have hp : p ∈ pn := by
      rcases List.mem_append.mp hp with z | z
      · exact z
      · cases z
    obtain ⟨h1, h2, h3⟩ := hpn p hp
    refine ⟨h1, I.hok.fresh (Nat.le_of_lt h2), ?_, fun z => ?_, h3⟩
    · show p.1 ≠ cenv.locals
      rw [hL]; exact Nat.ne_of_gt h2
    · rcases List.mem_cons.mp (I.stkSub _ z) with z | z
      · rw [z] at h2; exact absurd (Nat.lt_trans h2 I.lt) (Nat.lt_irrefl _)
      · exact I.nofs (Nat.le_of_lt h2) z
end
/-- the state between two turns -/
def gL (X : Cx) (σ0 : L2.St) (fp : List Addr) (tn : Nat → Heap → Prop) (W : Nat → Hp → Prop) (g : Nat) (i : Nat) (s : Shared) : Prop :=
  g < s.gens.size ∧ ∃ H, Inv X [] σ0 H s ∧ tn i s.heap ∧ (∀ b ∈ fp, H b = none) ∧ W i H
/-- it is over, or the consumer stops -/
def gD (X : Cx) (σ0 : L2.St) (g : Nat) (Q : Hp → Prop) (s : Shared) : Prop := g < s.gens.size ∧ ∃ H, Inv X [] σ0 H s ∧ Q H
def gY (X : Cx) (σ0 : L2.St) (fp : List Addr) (tn : Nat → Heap → Prop) (W : Nat → Hp → Prop) (g n : Nat) (cb : Bool) (QF : Hp → Prop) : Protocol := fun m s0 v s kap =>
  ∃ b, v = .bool b ∧ (if b = cb then gL X σ0 fp tn W g (n - m) s else gD X σ0 g QF s) ∧ ∀ s'', gL X σ0 fp tn W g (n - m) s'' → kap (.send .none) s''
abbrev gP (X : Cx) (σ0 : L2.St) (g : Nat) (QT : Hp → Prop) (m : Nat) (s0 s1 : Shared) : Prop := m = 0 ∧ gD X σ0 g QT s1
def gR (X : Cx) (σ0 : L2.St) (g : Nat) (QT : Hp → Prop) : GenEnd := fun m s0 r s1 => r = .ok .next ∧ gP X σ0 g QT m s0 s1
section
variable {X : Cx} {σ0 : L2.St} {fp : List Addr} {tn : Nat → Heap → Prop} {W : Nat → Hp → Prop} {g n : Nat} {cb : Bool} {QF QT : Hp → Prop} {J : It} {gt : TG} {te : TE}
  {elt tg iter : Expr} {scope : Scope} {pos : Pos} {it : Addr} {As : Around} {vs : List Nat}
/-- what a turn does -/
def gTurn (J : It) (σ0 : L2.St) (vs : List Nat) (n : Nat) (cb : Bool) (gt : TG) (te : TE) (W : Nat → Hp → Prop) (QT QF : Hp → Prop) : Prop := ∀ i H, W i H →
  (i = n ∧ J.stop i H ∧ QT H) ∨ (i < n ∧ J.go i H ∧ ∀ y H', J.yld i H y H' → gt y σ0 H' fun σ2 H2 => wipe σ2 vs = σ0 ∧ te σ2 H2 fun v H3 => ∃ b, v = .bl b ∧ if b = cb then W (i + 1) H3 else QF H3)
theorem gL_setGen {i : Nat} {s : Shared} {x : GenState} (h : gL X σ0 fp tn W g i s) (hx : x.bare = true) : gL X σ0 fp tn W g i (s.setGen g x) := by
  obtain ⟨h0, H, I, h1, h2, h3⟩ := h
  exact ⟨by rw [setGen_size]; exact h0, H, inv_setGen I hx, h1, h2, h3⟩
theorem gen_loop (hA : X.A = As.deeper X.env) (hc : X.calm = true) (hco : X.env.scope.isCoroutine = false) (hxe : X.xe = fun _ _ => False) (T : Turn X.prog X.w X.K tg J fp it tn) (stat : ∀ {σ' : L2.St} {H' : Hp} {s' : Shared}, Inv X [] σ' H' s' → (∀ b ∈ fp, H' b = none) → ∀ b ∈ fp, FpOk X [] H' b)
    (hg : PG X tg gt) (he : PE X elt te) (hvs : ∀ σ2 : L2.St, wipe σ2 vs = σ0 → σ0.length = σ2.length) (turn : gTurn J σ0 vs n cb gt te W QT QF) :
    ∀ (k i : Nat) (s0 s : Shared), n - i = k → i ≤ n → gL X σ0 fp tn W g i s →
      Seg (model X.prog X.w) As (gR X σ0 g QT) (gY X σ0 fp tn W g n cb QF) k s0
        (.compLoop (.GeneratorExp elt [⟨tg, iter, [], 0⟩] scope pos) 0 (.ref it) .none X.env)
        ((model X.prog X.w).den (.compLoop (.GeneratorExp elt [⟨tg, iter, [], 0⟩] scope pos) 0 (.ref it) .none X.env)) [] s := by
  intro k
  induction k with
  | zero =>
    intro i s0 s hk hi hL
    obtain ⟨hgs, H, I, st, fr, w⟩ := hL
    rcases turn i H w with ⟨hin, stop, q⟩ | ⟨hlt, _⟩
    · show Seg _ As _ _ _ s0 _ ((compTurn (.GeneratorExp elt [⟨tg, iter, [], 0⟩] scope pos) 0 (.ref it) .none X.env).onRaise (leaving X.env)) [] s
      rw [compTurn_gen, Sem.onRaise_eq_wrap]
      refine seg_bind_wrap (wpAny_standAt ?_)
      refine seg_bind_wrap ?_
      rw [over_gen, ← hA]
      refine wpAny_gsz hgs (thnF (T.done X rfl rfl rfl hc i [] s σ0 H (fun _ _ => False) I (stat I fr) st stop) fun r s1 ⟨hr, I1⟩ hsz => ?_)
      subst hr
      exact seg_end (.ok .next) ⟨rfl, rfl, hsz, H, I1, q⟩
    · omega
  | succ k ih =>
    intro i s0 s hk hi hL
    obtain ⟨hgs, H, I, st, fr, w⟩ := hL
    rcases turn i H w with ⟨hin, _⟩ | ⟨hlt, go, step⟩
    · omega
    · show Seg _ As _ _ _ s0 _ ((compTurn (.GeneratorExp elt [⟨tg, iter, [], 0⟩] scope pos) 0 (.ref it) .none X.env).onRaise (leaving X.env)) [] s
      rw [compTurn_gen, Sem.onRaise_eq_wrap]
      refine seg_bind_wrap (wpAny_standAt ?_)
      refine seg_bind_wrap ?_
      rw [over_gen, ← hA]
      refine wpAny_gsz hgs (thnF (T.item X rfl rfl rfl hc i [] s σ0 H (fun _ _ => False) I (stat I fr) st go) fun r s1 ⟨u, hr, h1⟩ hgs1 => ?_)
      subst hr
      refine seg_bind_wrap ?_
      rw [over_gen, ← hA]
      refine wpAny_gsz hgs1 (thnF h1 fun _ s2 ⟨y, H2, I2, r2, y2, st2, fr2⟩ hgs2 => ?_)
      have I2' := I2.pinned (stat I2 fr2) (T.obj _ _ st2)
      refine seg_bind_wrap ?_
      rw [over_gen, ← hA]
      have hgr := hg.run _ s2 σ0 H2 y u _ I2' r2 (step y H2 y2)
      rw [hxe] at hgr
      refine wpAny_gsz hgs2 (thnF hgr fun _ s3 ⟨σ3, H3, I3, hw3, q3⟩ hgs3 => ?_)
      refine seg_bind_wrap ?_
      rw [over_gen, ← hA]
      simp only [List.forIn_nil]
      refine wpAny_pure ?_
      simp only [if_true]
      have hy : ∀ v, yieldOut X.env v = yieldValue v := fun v => by simp only [yieldOut, hco, Bool.false_eq_true, if_false]
      simp only [hy]
      rw [Sem.bind_eq_wrap', Sem.bind_eq_wrap', Sem.wrap_wrap, Sem.wrap_wrap]
      refine seg_wrap ?_
      rw [over_gen, ← hA]
      have her := he.run _ s3 σ3 H3 _ I3 q3
      rw [hxe] at her
      refine wpAny_gsz hgs3 (thnF her fun v s4 ⟨yv, H4, I4, r4, b, hb, q4⟩ hgs4 => ?_)
      subst hb
      obtain rfl : v = Value.bool b := r4
      have hkn : n - k = i + 1 := by omega
      have hl := hvs σ3 hw3
      have I5 : Inv X [] σ0 H4 s4 := (I4.unpinned (pins := [])).weak hl fun j v e => by
        rw [← hw3] at e
        exact (wipe_some e).1
      have pin' : ∀ b ∈ fp, ∀ o, s2.heap.get? b = some o → s4.heap.get? b = some o ∧ H4 b = none := fun b hb o e =>
        let z := I4.pin (b, o) (List.mem_append_right _ (List.mem_append_right _ (mem_pinsAt hb e)))
        ⟨z.1, z.2.1⟩
      have st4 : tn (i + 1) s4.heap := T.keep _ _ _ st2 fun b hb o e => (pin' b hb o e).1
      have fr4 : ∀ b ∈ fp, H4 b = none := fun b hb => by
        obtain ⟨o, e, _⟩ := T.obj _ _ st2 b hb
        exact (pin' b hb o e).2
      refine seg_at (seg_yield rfl rfl rfl ⟨b, rfl, ?_, fun s'' hL => ?_⟩)
      · rw [hkn]
        split
        · rename_i hb
          rw [if_pos hb] at q4
          exact ⟨hgs4, H4, I5, st4, fr4, q4⟩
        · rename_i hb
          rw [if_neg hb] at q4
          exact ⟨hgs4, H4, I5, q4⟩
      · rw [hkn] at hL
        exact seg_again rfl (ih (i + 1) s'' s'' (by omega) hlt hL)
theorem gen_begin (hA : X.A = As.deeper X.env) (hc : X.calm = true) (hco : X.env.scope.isCoroutine = false) (hxe : X.xe = fun _ _ => False) (T : Turn X.prog X.w X.K tg J fp it tn) (stat : ∀ {σ' : L2.St} {H' : Hp} {s' : Shared}, Inv X [] σ' H' s' → (∀ b ∈ fp, H' b = none) → ∀ b ∈ fp, FpOk X [] H' b)
    (hg : PG X tg gt) (he : PE X elt te) (hvs : ∀ σ2 : L2.St, wipe σ2 vs = σ0 → σ0.length = σ2.length) (turn : gTurn J σ0 vs n cb gt te W QT QF) (s : Shared) (hL : gL X σ0 fp tn W g 0 s) :
      Seg (model X.prog X.w) As (gR X σ0 g QT) (gY X σ0 fp tn W g n cb QF) n s
        (.compStart (.GeneratorExp elt [⟨tg, iter, [], 0⟩] scope pos) 0 (.ref it) .none X.env)
        ((model X.prog X.w).den (.compStart (.GeneratorExp elt [⟨tg, iter, [], 0⟩] scope pos) 0 (.ref it) .none X.env)) [] s := by
  have loop := gen_loop (iter := iter) (scope := scope) (pos := pos) hA hc hco hxe T stat hg he hvs turn n 0 s s (Nat.sub_zero _) (Nat.zero_le _) hL
  obtain ⟨hgs, H, I, st, fr, w⟩ := hL
  show Seg _ As _ _ _ s _ ((compStart (.GeneratorExp elt [⟨tg, iter, [], 0⟩] scope pos) 0 (.ref it) .none X.env).onRaise (leaving X.env)) [] s
  unfold compStart
  rw [Sem.onRaise_eq_wrap]
  show Seg _ As _ _ _ s _ ((ask >>= _).wrap _ _ _ _) [] s
  refine seg_bind_wrap (wpAny_askSetting ?_)
  split
  · exact seg_again rfl loop
  · first
      | exact seg_bind_wrap (wpAny_rule (seg_bind_wrap (wpAny_standAt (seg_bind_wrap (T.self _ 0 s _ _ st (seg_again rfl loop))))))
      | (refine seg_bind_wrap (wpAny_rule ?_); show Seg _ As _ _ _ s _ ((standAt iter.pos >>= _).wrap _ _ _ _) [] s; exact seg_bind_wrap (wpAny_standAt (seg_bind_wrap (T.self _ 0 s _ _ st (seg_again rfl loop)))))
/-- the generator g at a, between two turns -/
def gSt (X : Cx) (As : Around) (σ0 : L2.St) (fp : List Addr) (tn : Nat → Heap → Prop) (W : Nat → Hp → Prop) (a g n : Nat) (cb : Bool) (QT QF : Hp → Prop) (i : Nat) (s : Shared) : Prop :=
  gL X σ0 fp tn W g i s ∧ ∃ gs, s.gens[g]? = some gs ∧ ∀ s'', gL X σ0 fp tn W g i s'' → gs.Goes (model X.prog X.w) As (gR X σ0 g QT) (gY X σ0 fp tn W g n cb QF) (n - i) (.send .none) s''
theorem gD_setGen {Q : Hp → Prop} {s : Shared} {x : GenState} (h : gD X σ0 g Q s) (hx : x.bare = true) : gD X σ0 g Q (s.setGen g x) := by
  obtain ⟨h0, H, I, h1⟩ := h
  exact ⟨by rw [setGen_size]; exact h0, H, inv_setGen I hx, h1⟩
theorem gen_item {A : Around} {a : Addr} {E : Value → Shared → Prop} {i : Nat} {s : Shared} (hh : A.handled = none) (hroom : A.depth < recursionLimit) (hs : ∀ {σ' : L2.St} {H' : Hp} {s' : Shared}, Inv X [] σ' H' s' → s'.heap.IsGen a g) (hi : i < n)
    (h : gSt X A.in1 σ0 fp tn W a g n cb QT QF i s) :
    wpAny (model X.prog X.w) A (pyNext (.ref a)) (fun r s' => ∃ b, r = some (.bool b) ∧ if b = cb then gSt X A.in1 σ0 fp tn W a g n cb QT QF (i + 1) s' else gD X σ0 g QF s') E s := by
  obtain ⟨hL, gs, hgs, hgo⟩ := h
  obtain ⟨m, hm⟩ : ∃ m, n - i = m + 1 := ⟨n - i - 1, by omega⟩
  rw [hm] at hgo
  have hIg : s.heap.IsGen a g := let ⟨_, _, I, _⟩ := hL; hs I
  have hlim : s.heap.NoLimit := let ⟨_, _, I, _⟩ := hL; I.nolimit
  refine wpAny_pyNext_genexpQ (P := gP X σ0 g QT) (Y := gY X σ0 fp tn W g n cb QF) hh hlim hroom hIg hgs (hgo _ (gL_setGen hL rfl)) (fun v s1 gs' hb hv => ?_) (fun s1 hp h' hk => absurd hp.1 (Nat.succ_ne_zero m))
  obtain ⟨b, rfl, hq, hkap⟩ := hv
  have e : n - (m + 1 - 1) = i + 1 := by omega
  rw [e] at hq hkap
  refine ⟨b, rfl, ?_⟩
  split
  · rename_i hbc
    rw [if_pos hbc] at hq
    refine ⟨gL_setGen hq hb, gs', setGen_at hq.1, fun s'' hL'' => ?_⟩
    have e2 : n - (i + 1) = m := by omega
    rw [e2]
    exact hkap s'' hL''
  · rename_i hbc
    rw [if_neg hbc] at hq
    exact gD_setGen hq hb
theorem gen_done {A : Around} {a : Addr} {E : Value → Shared → Prop} {s : Shared} (hh : A.handled = none) (hroom : A.depth < recursionLimit) (hs : ∀ {σ' : L2.St} {H' : Hp} {s' : Shared}, Inv X [] σ' H' s' → s'.heap.IsGen a g)
    (h : gSt X A.in1 σ0 fp tn W a g n cb QT QF n s) :
    wpAny (model X.prog X.w) A (pyNext (.ref a)) (fun r s' => r = none ∧ gD X σ0 g QT s') E s := by
  obtain ⟨hL, gs, hgs, hgo⟩ := h
  rw [Nat.sub_self] at hgo
  have hIg : s.heap.IsGen a g := let ⟨_, _, I, _⟩ := hL; hs I
  have hlim : s.heap.NoLimit := let ⟨_, _, I, _⟩ := hL; I.nolimit
  refine wpAny_pyNext_genexpQ (P := gP X σ0 g QT) (Y := gY X σ0 fp tn W g n cb QF) hh hlim hroom hIg hgs (hgo _ (gL_setGen hL rfl)) (fun v s1 gs' hb hv => ?_) (fun s1 hp h' hk => ?_)
  · obtain ⟨_, _, _, hkap⟩ := hv
    refine False.elim (hkap s (by simpa using hL))
  · obtain ⟨_, hd⟩ := hp
    obtain ⟨h0, H, I, q⟩ := gD_setGen (x := .finished) hd rfl
    exact ⟨rfl, h0, H, I.kept (t' := s1.toks) hk, q⟩
end
section
variable {prog : Program} {w : World} {A : Around} {R : Result → Shared → Prop}
theorem codeAny_all_by {a : Addr} {n : Nat} {St : Nat → Shared → Prop} {DT DF : Shared → Prop} (item : ∀ i s E, i < n → St i s → wpAny (model prog w) A.in1 (pyNext (.ref a)) (fun r s' => ∃ b, r = some (.bool b) ∧ if b = true then St (i + 1) s' else DF s') E s)
    (done : ∀ s E, St n s → wpAny (model prog w) A.in1 (pyNext (.ref a)) (fun r s' => r = none ∧ DT s') E s) (hT : ∀ s, DT s → R (.ok (.ret (.bool true))) s) (hF : ∀ s, DF s → R (.ok (.ret (.bool false))) s) :
    ∀ (k i : Nat) (s : Shared), n - i = k → i ≤ n → St i s → codeAny (model prog w) A (.builtin "all.loop" ⟨[.ref a], []⟩) R s := by
  intro k
  induction k with
  | zero =>
    intro i s hk hi hst
    have hin : i = n := by omega
    subst hin
    refine codeAny_builtin F.entry_all_loop ?_
    rw [Around.under_plainId F.plain_all_loop _]
    show wpAny _ A.in1 (pyNext (.ref a) >>= _) _ _ s
    refine wpAny_bind (wpAny_mono (done s _ hst) (fun r s1 ⟨hr, hd⟩ => ?_) fun _ _ e => e)
    subst hr
    exact wpAny_bind (wpAny_rule (wpAny_pure (hT s1 hd)))
  | succ k ih =>
    intro i s hk hi hst
    refine codeAny_builtin F.entry_all_loop ?_
    rw [Around.under_plainId F.plain_all_loop _]
    show wpAny _ A.in1 (pyNext (.ref a) >>= _) _ _ s
    refine wpAny_bind (wpAny_mono (item i s _ (by omega) hst) (fun r s1 ⟨b, hr, hd⟩ => ?_) fun _ _ e => e)
    subst hr
    refine wpAny_bind (wpAny_holding (wpAny_truthy_bool ?_))
    refine wpAny_bind (wpAny_letGo ?_)
    cases b with
    | true =>
      simp only [if_true] at hd ⊢
      exact wpAny_pure ⟨plainId_quiet F.plain_all_loop _, ih (i + 1) s1 (by omega) (by omega) hd⟩
    | false =>
      simp only [Bool.false_eq_true, if_false] at hd ⊢
      exact wpAny_bind (wpAny_rule (wpAny_pure (hF s1 hd)))
theorem codeAny_any_by {a : Addr} {n : Nat} {St : Nat → Shared → Prop} {DT DF : Shared → Prop} (item : ∀ i s E, i < n → St i s → wpAny (model prog w) A.in1 (pyNext (.ref a)) (fun r s' => ∃ b, r = some (.bool b) ∧ if b = false then St (i + 1) s' else DF s') E s)
    (done : ∀ s E, St n s → wpAny (model prog w) A.in1 (pyNext (.ref a)) (fun r s' => r = none ∧ DT s') E s) (hT : ∀ s, DT s → R (.ok (.ret (.bool false))) s) (hF : ∀ s, DF s → R (.ok (.ret (.bool true))) s) :
    ∀ (k i : Nat) (s : Shared), n - i = k → i ≤ n → St i s → codeAny (model prog w) A (.builtin "any.loop" ⟨[.ref a], []⟩) R s := by
  intro k
  induction k with
  | zero =>
    intro i s hk hi hst
    have hin : i = n := by omega
    subst hin
    refine codeAny_builtin F.entry_any_loop ?_
    rw [Around.under_plainId F.plain_any_loop _]
    show wpAny _ A.in1 (pyNext (.ref a) >>= _) _ _ s
    refine wpAny_bind (wpAny_mono (done s _ hst) (fun r s1 ⟨hr, hd⟩ => ?_) fun _ _ e => e)
    subst hr
    exact wpAny_bind (wpAny_rule (wpAny_pure (hT s1 hd)))
  | succ k ih =>
    intro i s hk hi hst
    refine codeAny_builtin F.entry_any_loop ?_
    rw [Around.under_plainId F.plain_any_loop _]
    show wpAny _ A.in1 (pyNext (.ref a) >>= _) _ _ s
    refine wpAny_bind (wpAny_mono (item i s _ (by omega) hst) (fun r s1 ⟨b, hr, hd⟩ => ?_) fun _ _ e => e)
    subst hr
    refine wpAny_bind (wpAny_holding (wpAny_truthy_bool ?_))
    refine wpAny_bind (wpAny_letGo ?_)
    cases b with
    | false =>
      simp only [if_true] at hd
      simp only [Bool.false_eq_true, if_false]
      exact wpAny_pure ⟨plainId_quiet F.plain_any_loop _, ih (i + 1) s1 (by omega) (by omega) hd⟩
    | true =>
      simp only [Bool.true_eq_false, if_false] at hd
      simp only [if_true]
      exact wpAny_bind (wpAny_rule (wpAny_pure (hF s1 hd)))
end
/-- all(..) (cb: True), any(..) (cb: False) over a generator expression; behind it the def's table may have grown -/
def tAg (P : Addr) (cb : Bool) (wi : TI) (g : TG) (te : TE) (vs : List Nat) : TE := fun σ H Q => wi σ H fun J H1 => GxR.TabG H1 P ∧ ∀ H2, GxR.Tabbed P H1 H2 →
  ∃ (n : Nat) (W : Nat → Hp → Prop), W 0 H2 ∧ gTurn J (wipe σ vs) vs n cb g te W (fun H => Q (.bl cb) H) (fun H => Q (.bl (!cb)) H)
def GReady (X : Cx) (pins : List (Addr × Obj)) (σ : L2.St) (cb : Bool) (Q : VK) (a : Addr) (s5 : Shared) : Prop :=
  ∃ (g n : Nat) (St : Nat → Shared → Prop) (DT DF : Shared → Prop), s5.heap.IsGen a g ∧ St 0 s5 ∧
    (∀ i s E, i < n → St i s → wpAny (model X.prog X.w) X.A.in1 (pyNext (.ref a)) (fun r s' => ∃ b, r = some (.bool b) ∧ if b = cb then St (i + 1) s' else DF s') E s) ∧
    (∀ s E, St n s → wpAny (model X.prog X.w) X.A.in1 (pyNext (.ref a)) (fun r s' => r = none ∧ DT s') E s) ∧
    (∀ s', DT s' → ∃ H', Inv X pins σ H' s' ∧ Q (.bl cb) H') ∧ (∀ s', DF s' → ∃ H', Inv X pins σ H' s' ∧ Q (.bl (!cb)) H')
theorem room_gen {k : Nat} {A : Around} (r : Room (k + 1) A) (env : PySem.Env) : Room k (A.in1.in1.deeper env) :=
  ⟨r.hd, by have := r.dp; show A.depth + 1 + 3 * k + 5 < _; omega, by have := r.un; show A.units + 1 + 1 + 3 + 16 * k + 200 < _; omega⟩
section
variable {X : Cx} {pins : List (Addr × Obj)} {σ : L2.St} {H : Hp} {s : Shared}
theorem gen_made {c P : Addr} {elt tg iter : Expr} {gpos : Pos} {scope : Scope} {own : List (Str × Nat)} {wi : TI} {gt : TG} {te : TE} {k : Nat} {cb : Bool} {Q : VK} {Q' : Value → Shared → Prop}
    (hr : Room (k + 1) X.A) (TB : GxR.TabB X.base X.mg c P) (hcode : X.env.code = .ref c) (hN : X.N.Nodup) (ok : GenOk X.N X.env.scope scope own) (hi : PI X tg iter wi)
    (hg : ∀ (A : Around) (s : Shared) (H : Hp) (C : Addr) (code : Value) (fp : List Addr) (pn : List (Addr × Obj)), PG (gX X A s H (genEnv scope (cloFrom X.env.cells scope.names []) C code builtinsNs X.env) fp pn) tg gt)
    (he : ∀ (A : Around) (s : Shared) (H : Hp) (C : Addr) (code : Value) (fp : List Addr) (pn : List (Addr × Obj)), Room k A → PE (gX X A s H (genEnv scope (cloFrom X.env.cells scope.names []) C code builtinsNs X.env) fp pn) elt te)
    (hs : ∀ v, genFold iter X.env v = pure v) (I : Inv X pins σ H s) (h : tAg P cb wi gt te (own.map (·.2)) σ H Q)
    (hQ : ∀ a s5, GReady X pins σ cb Q a s5 → Q' (.ref a) s5) :
    wpAny (model X.prog X.w) X.A (eval (.GeneratorExp elt [⟨tg, iter, [], 0⟩] scope gpos) X.env) Q' X.xe s := by
  have hfree : ∀ y ∈ scope.names, y.2 = .free → ∃ c, X.env.cells.lookup y.1 = some c := fun y hy e => by
    rcases ok.b.free y hy e with k | k
    · exact I.ok.has _ (.inl k)
    · exact I.ok.has _ (.inr k)
  refine wpAny_GeneratorExp_make ok.co (closure_ok hfree) ok.cell ok.dot ok.b.kind (by have := hr.dp; omega) ?_ hs
  refine thn (hi.run pins s σ H _ I h) fun xv s1 hx => thn hx fun itv s2 h2 => ?_
  obtain ⟨it, fp, tn, J, H2, e, I2, T, st2, f2, ⟨ps, hP, ht⟩, q⟩ := h2
  subst e
  refine ⟨I2.nolimit, ?_⟩
  have hPs : s2.heap.get? P = some { cls := .none, data := .fields ps } := I2.hok P _ hP
  have cd : PySem.W.CodeHd s2.heap c P := TB.code.keeps fun b u e => I2.bk b u e
  have nfpP : ∀ b ∈ fp, b ≠ P := fun b hb z => by
    have := (f2 b hb).1
    rw [z, hP] at this; cases this
  have sz : ∀ b ∈ fp, b < s2.heap.objs.size := fun b hb => by
    obtain ⟨o, e, _⟩ := T.obj _ _ st2 b hb
    exact Heap.lt_size e
  have cont : ∀ (code : Value) (h3 : Heap) (tk : Nat) (more : Array Value), Heap.ExtBut P s2.heap h3 → s2.heap.objs.size ≤ h3.objs.size → h3.get? P = some { cls := .none, data := .fields (ps ++ more) } → TriplesOk (ps ++ more).toList →
      wpAny (model X.prog X.w) X.A (builtinsFor X.env.globals X.env.builtins) (fun bi s₄ =>
        ∀ h', h'.Ns s₄.heap.objs.size (fun y => if y = ".0" then some (.ref it) else none) → Heap.SameBut s₄.heap.objs.size (s₄.heap.push { cls := .type "frame", data := .dict #[] }) h' →
          Q' (.ref h'.objs.size) { s₄ with
            gens := s₄.gens.push (.fresh (.compStart (.GeneratorExp elt [⟨tg, iter, [], 0⟩] scope gpos) 0 (.ref it) .none (genEnv scope (cloFrom X.env.cells scope.names []) s₄.heap.objs.size code bi X.env))),
            toks := s₄.toks + 1 + 1 + 1,
            heap := h'.push { cls := .type "generator", data := .fields #[.int s₄.gens.size 0, .str "<genexpr>" (s₄.toks + 1), .str (X.env.qual ++ "<genexpr>") (s₄.toks + 1 + 1)] } }) X.xe { s2 with heap := h3, toks := tk } := by
    intro code h3 tk more hx hsz hP3 ht3
    have I3 : Inv X pins σ (upd H2 P (.tbl (ps ++ more))) { s2 with heap := h3, toks := tk } := GxR.inv_tab (g' := s2.gens) (d' := s2.drawn) I2 hP (fun b u hb e => hx b u hb e) hP3 I2.bare
    obtain ⟨bm, ob, e1, e2, e3, e4, e5, e6, e7, e8⟩ := TB.bm
    refine wpAny_builtinsFor (m := X.mg) (by rw [I3.ok.glob]; exact I3.mod.glob.keeps I3.bk) e1 e2 (I3.bk _ _ e5) e6 e7 e8 ?_
    generalize hs3 : ({ s2 with heap := h3, toks := tk } : Shared) = s3 at I3 ⊢
    have h3e : s3.heap = h3 := by rw [← hs3]
    intro h' hn' hsb
    generalize hH3 : upd H2 P (.tbl (ps ++ more)) = H3 at I3
    have hT : GxR.Tabbed P H2 H3 := by
      rw [← hH3]
      exact ⟨⟨_, upd_same, ht3⟩, fun b hb => upd_ne hb⟩
    obtain ⟨n, W, w0, turn⟩ := q H3 hT
    have hsz' : h'.objs.size = s3.heap.objs.size + 1 := by rw [hsb.1, Heap.size_push]
    have keep' : ∀ b o, s3.heap.get? b = some o → h'.get? b = some o := fun b o e => hsb.extBut b o (Nat.ne_of_lt (Heap.lt_size e)) (Heap.get?_push_of_some _ e)
    generalize hgo : ({ cls := .type "generator", data := .fields #[.int s3.gens.size 0, .str "<genexpr>" (s3.toks + 1), .str (X.env.qual ++ "<genexpr>") (s3.toks + 1 + 1)] } : Obj) = go
    have keep5 : ∀ b o, s3.heap.get? b = some o → (h'.push go).get? b = some o := fun b o e => Heap.get?_push_of_some _ (keep' b o e)
    generalize hce : genEnv scope (cloFrom X.env.cells scope.names []) s3.heap.objs.size code builtinsNs X.env = ce
    generalize hs5 : ({ s3 with
            gens := s3.gens.push (.fresh (.compStart (.GeneratorExp elt [⟨tg, iter, [], 0⟩] scope gpos) 0 (.ref it) .none ce)),
            toks := s3.toks + 1 + 1 + 1,
            heap := h'.push go } : Shared) = s5
    have h5 : s5.heap = h'.push go := by rw [← hs5]
    have g5 : s5.gens = s3.gens.push (.fresh (.compStart (.GeneratorExp elt [⟨tg, iter, [], 0⟩] scope gpos) 0 (.ref it) .none ce)) := by rw [← hs5]
    have goAt : (h'.push go).get? h'.objs.size = some go := by rw [← hgo]; exact Heap.get?_push_size _ rfl
    have st3 : tn 0 s3.heap := T.keep _ _ _ st2 fun b hb o e => by rw [h3e]; exact hx b o (nfpP b hb) e
    have f3 : ∀ b ∈ fp, FpOk X pins H3 b ∧ b < s3.heap.objs.size := fun b hb => by
      refine ⟨⟨?_, (f2 b hb).2⟩, by rw [h3e]; exact Nat.lt_of_lt_of_le (sz b hb) hsz⟩
      rw [← hH3, upd_ne (nfpP b hb)]
      exact (f2 b hb).1
    have hfr : (X.A.in1.in1.deeper ce).frames = some (ce :: X.stack) := Around.frames_deeper I.ok.frames
    have I5 : Inv (gX X (X.A.in1.in1.deeper ce) s3 H3 ce fp [(h'.objs.size, go)]) [] (wipe σ (own.map (·.2))) H3 s5 := by
      rw [← hce]
      refine gen_start (m := fun y => if y = ".0" then some (.ref it) else none) I3 ok hN f3 (by rw [hce]; exact hfr) hr.hd (fun b o e => by rw [h5]; exact keep5 b o e) ?_ (by rw [← hs5]) ?_ fun p hp => ?_
      · rw [h5]
        exact hn'.push _
      · rw [g5]
        exact AllBare.push I3.bare rfl
      · rw [List.mem_singleton.mp hp]
        refine ⟨by rw [h5]; exact goAt, by rw [hsz']; exact Nat.lt_succ_self _, fun v z => ?_⟩
        rw [← hgo] at z
        cases z
    have hgen : ∀ {σ' : L2.St} {H' : Hp} {s' : Shared}, Inv (gX X (X.A.in1.in1.deeper ce) s3 H3 ce fp [(h'.objs.size, go)]) [] σ' H' s' → s'.heap.IsGen h'.objs.size s3.gens.size := fun {σ' H' s'} I' => by
      have e := (I'.pin (h'.objs.size, go) (List.mem_append_left _ (List.mem_singleton.mpr rfl))).1
      subst hgo
      exact ⟨_, _, _, e, rfl, rfl, rfl⟩
    have stat : ∀ {σ' : L2.St} {H' : Hp} {s' : Shared}, Inv (gX X (X.A.in1.in1.deeper ce) s3 H3 ce fp [(h'.objs.size, go)]) [] σ' H' s' → (∀ b ∈ fp, H' b = none) → ∀ b ∈ fp, FpOk (gX X (X.A.in1.in1.deeper ce) s3 H3 ce fp [(h'.objs.size, go)]) [] H' b := fun {σ' H' s'} I' hn b hb =>
      ⟨hn b hb, (I'.ok.exf b hb).1, I'.ok.exfs b hb, .inl hb, fun x c e => (I'.ok.exf b hb).2 x c e, fun p hp => by
        have hp : p ∈ [(h'.objs.size, go)] := by
          rcases List.mem_append.mp hp with z | z
          · exact z
          · cases z
        rw [List.mem_singleton.mp hp]
        have h7 : b < s3.heap.objs.size := (f3 b hb).2
        show h'.objs.size ≠ b
        rw [hsz']
        exact Nat.ne_of_gt (Nat.lt_succ_of_lt h7)⟩
    have hL5 : gL (gX X (X.A.in1.in1.deeper ce) s3 H3 ce fp [(h'.objs.size, go)]) (wipe σ (own.map (·.2))) fp tn W s3.gens.size 0 s5 :=
      ⟨by rw [g5, Array.size_push]; exact Nat.lt_succ_self _, H3, I5, T.keep _ _ _ st3 fun b _ o e => by rw [h5]; exact keep5 b o e, fun b hb => (f3 b hb).1.1, w0⟩
    have hwl : ∀ σ2 : L2.St, wipe σ2 (own.map (·.2)) = wipe σ (own.map (·.2)) → (wipe σ (own.map (·.2))).length = σ2.length := fun σ2 e => by rw [← e, wipe_length]
    have back : ∀ {Q0 : Hp → Prop} {s' : Shared}, gD (gX X (X.A.in1.in1.deeper ce) s3 H3 ce fp [(h'.objs.size, go)]) (wipe σ (own.map (·.2))) s3.gens.size Q0 s' → ∃ H', Inv X pins σ H' s' ∧ Q0 H' := fun {Q0 s'} ⟨_, H', I', q'⟩ =>
      ⟨H', I3.call' (ch := fp) I'.os I'.base I'.hok I'.bare fun b hb => ⟨(f3 b hb).1.2.2.2.1, (f3 b hb).1.2.1, (f3 b hb).1.2.2.2.2.1, (f3 b hb).1.2.2.2.2.2⟩, q'⟩
    have hco : ce.scope.isCoroutine = false := by rw [← hce]; exact ok.co
    have pg := hg (X.A.in1.in1.deeper ce) s3 H3 s3.heap.objs.size code fp [(h'.objs.size, go)]
    have pe := he (X.A.in1.in1.deeper ce) s3 H3 s3.heap.objs.size code fp [(h'.objs.size, go)] (room_gen hr ce)
    rw [hce] at pg pe
    have hst0 : gSt (gX X (X.A.in1.in1.deeper ce) s3 H3 ce fp [(h'.objs.size, go)]) X.A.in1.in1 (wipe σ (own.map (·.2))) fp tn W h'.objs.size s3.gens.size n cb (fun H => Q (.bl cb) H) (fun H => Q (.bl (!cb)) H) 0 s5 := by
      refine ⟨hL5, GenState.fresh (.compStart (.GeneratorExp elt [⟨tg, iter, [], 0⟩] scope gpos) 0 (.ref it) .none ce), by rw [g5]; exact Array.getElem?_push_size .., fun s'' hL'' => ?_⟩
      show _ = _ ∧ Seg _ _ _ _ _ _ _ _ _ _
      refine ⟨rfl, ?_⟩
      exact gen_begin (X := gX X (X.A.in1.in1.deeper ce) s3 H3 ce fp [(h'.objs.size, go)]) (As := X.A.in1.in1) rfl rfl hco rfl T stat pg pe hwl turn s'' hL''
    have hd1 : X.A.in1.depth < recursionLimit := by have := hr.dp; show X.A.depth < _; omega
    refine hQ h'.objs.size s5 ⟨s3.gens.size, n, _, _, _, hgen I5, hst0, ?_, ?_, fun s' hd => back hd, fun s' hd => back hd⟩
    · exact fun i s E hi hst => gen_item (X := gX X (X.A.in1.in1.deeper ce) s3 H3 ce fp [(h'.objs.size, go)]) (A := X.A.in1) hr.hd hd1 hgen hi hst
    · exact fun s E hst => gen_done (X := gX X (X.A.in1.in1.deeper ce) s3 H3 ce fp [(h'.objs.size, go)]) (A := X.A.in1) hr.hd hd1 hgen hst
  cases hf : codeAmong gpos ps.toList with
  | none =>
    refine wpAny_genexprCodeX hcode (cd.code hPs ht) (cd.tab hPs) hf fun c' h' tk hx hge hlt hco' _ htab' _ => ?_
    obtain ⟨o1, vs, f1, tf, fl, tg, inF, tx, tt, op, _, _, _, _, _, _, _, _, _, htr, _⟩ := hco'
    exact cont _ h' tk _ hx (Nat.le_trans hge (Nat.le_of_lt hlt)) htab'.2 htr
  | some cv =>
    refine wpAny_genexprCode_hit hcode (cd.code hPs ht) hf ?_
    exact cont cv s2.heap s2.toks #[] (Heap.ExtBut.refl _ _) (Nat.le_refl _) (by simpa using hPs) (by simpa using ht)
theorem pe_all {c P : Addr} {elt tg iter : Expr} {gpos p pos : Pos} {scope : Scope} {own : List (Str × Nat)} {wi : TI} {gt : TG} {te : TE} {k : Nat}
    (hr : Room (k + 1) X.A) (hgl : Gl X "all") (hm : X.mg "all" = none) (hb : bootBuiltins "all" = some (.builtin "all")) (TB : GxR.TabB X.base X.mg c P) (hcode : X.env.code = .ref c) (hN : X.N.Nodup) (ok : GenOk X.N X.env.scope scope own) (hi : PI X tg iter wi)
    (hg : ∀ (A : Around) (s : Shared) (H : Hp) (C : Addr) (code : Value) (fp : List Addr) (pn : List (Addr × Obj)), PG (gX X A s H (genEnv scope (cloFrom X.env.cells scope.names []) C code builtinsNs X.env) fp pn) tg gt)
    (he : ∀ (A : Around) (s : Shared) (H : Hp) (C : Addr) (code : Value) (fp : List Addr) (pn : List (Addr × Obj)), Room k A → PE (gX X A s H (genEnv scope (cloFrom X.env.cells scope.names []) C code builtinsNs X.env) fp pn) elt te)
    (hs : ∀ v, genFold iter X.env v = pure v := by intro _; rfl)
    (hst : starEach [.GeneratorExp elt [⟨tg, iter, [], 0⟩] scope gpos] X.env = (false, eval (.GeneratorExp elt [⟨tg, iter, [], 0⟩] scope gpos) X.env) :: starEach [] X.env := by rfl) :
    PE X (.Call (.Name "all" p) [.GeneratorExp elt [⟨tg, iter, [], 0⟩] scope gpos] [] pos) (tAg P true wi gt te (own.map (·.2))) := by
  refine ⟨fun pins s σ H Q I h => ?_⟩
  refine wpAny_Call_Name_kw (ld_blt I hgl hm hb ?_)
  refine PyProof.Rows.callWith_builtin1 ?_ hst (by rfl)
  rw [hst]
  show wpAny _ _ (spliced ((false, eval (.GeneratorExp elt [⟨tg, iter, [], 0⟩] scope gpos) X.env) :: backTo pos (starEach [] X.env))) _ _ s
  refine Calls.spliced_cons (gen_made hr TB hcode hN ok hi hg he hs I h fun a s5 hG => ?_)
  obtain ⟨g, n, St, DT, DF, hgen, st0, item, done, hT, hF⟩ := hG
  refine Calls.spliced_nil ?_
  refine call_function_tree F.kind_all F.plain_all F.entry_all (F.args_all1 _) ?_
  unfold Builtin.«all»
  refine wpAny_bind (m := oneArg "all" _) (wpAny_pure ?_)
  refine wpAny_bind (wpAny_pyIter_gen hgen ?_)
  refine wpAny_pure ⟨plainId_quiet F.plain_all_loop _, codeAny_all_by item done (fun s' hd => ?_) (fun s' hd => ?_) n 0 s5 rfl (Nat.zero_le _) st0⟩
  · obtain ⟨H', I', q'⟩ := hT s' hd
    exact ⟨.bl true, H', I', rfl, q'⟩
  · obtain ⟨H', I', q'⟩ := hF s' hd
    exact ⟨.bl false, H', I', rfl, q'⟩
theorem pe_any {c P : Addr} {elt tg iter : Expr} {gpos p pos : Pos} {scope : Scope} {own : List (Str × Nat)} {wi : TI} {gt : TG} {te : TE} {k : Nat}
    (hr : Room (k + 1) X.A) (hgl : Gl X "any") (hm : X.mg "any" = none) (TB : GxR.TabB X.base X.mg c P) (hcode : X.env.code = .ref c) (hN : X.N.Nodup) (ok : GenOk X.N X.env.scope scope own) (hi : PI X tg iter wi)
    (hg : ∀ (A : Around) (s : Shared) (H : Hp) (C : Addr) (code : Value) (fp : List Addr) (pn : List (Addr × Obj)), PG (gX X A s H (genEnv scope (cloFrom X.env.cells scope.names []) C code builtinsNs X.env) fp pn) tg gt)
    (he : ∀ (A : Around) (s : Shared) (H : Hp) (C : Addr) (code : Value) (fp : List Addr) (pn : List (Addr × Obj)), Room k A → PE (gX X A s H (genEnv scope (cloFrom X.env.cells scope.names []) C code builtinsNs X.env) fp pn) elt te)
    (hs : ∀ v, genFold iter X.env v = pure v := by intro _; rfl)
    (hst : starEach [.GeneratorExp elt [⟨tg, iter, [], 0⟩] scope gpos] X.env = (false, eval (.GeneratorExp elt [⟨tg, iter, [], 0⟩] scope gpos) X.env) :: starEach [] X.env := by rfl) :
    PE X (.Call (.Name "any" p) [.GeneratorExp elt [⟨tg, iter, [], 0⟩] scope gpos] [] pos) (tAg P false wi gt te (own.map (·.2))) := by
  refine ⟨fun pins s σ H Q I h => ?_⟩
  refine wpAny_Call_Name_kw (ld_blt I hgl hm boot_any ?_)
  refine PyProof.Rows.callWith_builtin1 ?_ hst (by rfl)
  rw [hst]
  show wpAny _ _ (spliced ((false, eval (.GeneratorExp elt [⟨tg, iter, [], 0⟩] scope gpos) X.env) :: backTo pos (starEach [] X.env))) _ _ s
  refine Calls.spliced_cons (gen_made hr TB hcode hN ok hi hg he hs I h fun a s5 hG => ?_)
  obtain ⟨g, n, St, DT, DF, hgen, st0, item, done, hT, hF⟩ := hG
  refine Calls.spliced_nil ?_
  refine call_function_tree F.kind_any F.plain_any F.entry_any (F.args_any1 _) ?_
  unfold Builtin.«any»
  refine wpAny_bind (m := oneArg "any" _) (wpAny_pure ?_)
  refine wpAny_bind (wpAny_pyIter_gen hgen ?_)
  refine wpAny_pure ⟨plainId_quiet F.plain_any_loop _, codeAny_any_by item done (fun s' hd => ?_) (fun s' hd => ?_) n 0 s5 rfl (Nat.zero_le _) st0⟩
  · obtain ⟨H', I', q'⟩ := hT s' hd
    exact ⟨.bl false, H', I', rfl, q'⟩
  · obtain ⟨H', I', q'⟩ := hF s' hd
    exact ⟨.bl true, H', I', rfl, q'⟩
end
end TL

set_option Elab.async false
set_option linter.all false
set_option maxRecDepth 100000
/-! The tree layer with a row: a list of numbers and None that defs hand on, write in place and set back. -/
namespace TL
open PySem PySem.Spec PyProof.Rows L2
/-! ### pure part: the row is threaded; it stands at a slot of its own, that the names' trees leave empty -/
abbrev Row := List (Option Int)
abbrev WE := Env → Row → Option (D × Row)
abbrev WT := Env → Row → Option (Bool × Row)
abbrev WA := Env → Row → Option (List D × Row)
inductive WOut where
  | nx (e : Env) (c : Row) | rt (d : D) (c : Row) | bk (e : Env) (c : Row) | ct (e : Env) (c : Row)
abbrev WS := Env → Row → Option WOut
def ofO : Option Int → D
  | none => .none
  | some i => .int i
def toO : D → Option (Option Int)
  | .none => some none
  | .int i => some (some i)
  | _ => none
def toRow : List D → Option Row
  | [] => some []
  | d :: ds => (toO d).bind fun o => (toRow ds).map (o :: ·)
@[simp] def wl (f : SE) : WE := fun env c => (f env).map fun d => (d, c)
@[simp] def wlT (f : ST) : WT := fun env c => (f env).map fun d => (d, c)
@[simp] def toW (c : Row) : Out → WOut
  | .nx e => .nx e c
  | .rt d => .rt d c
  | .bk e => .bk e c
  | .ct e => .ct e c
@[simp] def wlS (f : SS) : WS := fun env c => (f env).map (toW c)
@[simp] def w1 (op : D → Option D) (a : WE) : WE := fun env c => (a env c).bind fun x => (op x.1).map fun d => (d, x.2)
@[simp] def w2 (op : D → D → Option D) (a b : WE) : WE := fun env c => (a env c).bind fun x => (b env x.2).bind fun y => (op x.1 y.1).map fun d => (d, y.2)
@[simp] def wNot (a : WE) : WE := fun env c => (a env c).bind fun x => (toB x.1).map fun k => (.bool (!k), x.2)
@[simp] def wArgs : List WE → WA
  | [] => fun _ c => some ([], c)
  | a :: l => fun env c => (a env c).bind fun x => (wArgs l env x.2).map fun y => (x.1 :: y.1, y.2)
@[simp] def wTup (l : List WE) : WE := fun env c => (wArgs l env c).bind fun x => if x.1.length ≤ sizeLine then some (.tuple x.1, x.2) else none
/-- m(.., row) -/
@[simp] def wCall (m : List D → Row → Option (D × Row)) (l : List SE) : WE := fun env c => (eArgs l env).bind fun x => m x c
/-- row[a] -/
@[simp] def wRow (a : SE) : WE := fun env c => (a env).bind fun x => (toI x).bind fun k => (L2.atI c k).map fun o => (ofO o, c)
def wAgGo (cb : Bool) (g : SG) (f : WE) (env : Env) : List D → Row → Option (D × Row)
  | [], c => some (.bool cb, c)
  | d :: ds, c => (g d env).bind fun e1 => (f e1 c).bind fun x => (toB x.1).bind fun b => if b = cb then wAgGo cb g f env ds x.2 else some (.bool (!cb), x.2)
/-- all (cb: True), any (cb: False) over a generator expression -/
@[simp] def wAg (cb : Bool) (vs : List Nat) (fi : SI) (g : SG) (f : WE) : WE := fun env c => (fi env).bind fun ds => wAgGo cb g f (wipeE env vs) ds c
@[simp] def wSeq (a b : WS) : WS := fun env c => (a env c).bind fun o => match o with
  | .nx e c => b e c
  | .rt d c => some (.rt d c)
  | .bk e c => some (.bk e c)
  | .ct e c => some (.ct e c)
@[simp] def wNext : WS := fun env c => some (.nx env c)
@[simp] def wRet (a : WE) : WS := fun env c => (a env c).map fun x => .rt x.1 x.2
@[simp] def wIfS (k : ST) (a b : WS) : WS := fun env c => (k env).bind fun x => if x = true then a env c else b env c
@[simp] def wAsg (a : WE) (g : SG) : WS := fun env c => (a env c).bind fun x => (g x.1 env).map fun e => .nx e x.2
@[simp] def wAug (op : D → D → Option D) (i : Nat) (a : WE) : WS := fun env c => (env.getD i none).bind fun d => (a env c).bind fun x => (op d x.1).map fun z => .nx (env.set i (some z)) x.2
/-- row[k] = a -/
@[simp] def wStore (k a : SE) : WS := fun env c => (a env).bind fun x => (toO x).bind fun o => (k env).bind fun y => (toI y).bind fun z => (L2.ixN c.length z).map fun j => .nx env (c.set j o)
def wForGo (g : SG) (body : WS) : List D → Env → Row → Option WOut
  | [], env, c => some (.nx env c)
  | x :: xs, env, c => (g x env).bind fun env1 => (body env1 c).bind fun o => match o with
    | .nx e c => wForGo g body xs e c
    | .ct e c => wForGo g body xs e c
    | .bk e c => some (.nx e c)
    | .rt d c => some (.rt d c)
@[simp] def wFor (it : SI) (g : SG) (body : WS) : WS := fun env c => (it env).bind fun x => wForGo g body x env c
@[simp] def outW : WOut → Option (D × Row)
  | .rt d c => some (d, c)
  | .nx _ c => some (.none, c)
  | _ => none
/-- np parameters ahead of the row -/
def runW (np nl : Nat) (body : WS) (ds : List D) (c : Row) : Option (D × Row) :=
  if ds.length = np then (body (ds.map some ++ List.replicate (1 + nl) none) c).bind outW else none
/-! ### the judgements -/
def vO : Option Int → V
  | none => .non
  | some i => .int i
theorem ofO_rp {G : Gx} {F : Hp} (o : Option Int) : Rp G F (vO o) (ofO o) := by
  cases o with
  | none => exact .non
  | some i => exact .int i
theorem toO_rp {G : Gx} {F : Hp} {v : V} {d : D} {o : Option Int} (h : toO d = some o) (r : Rp G F v d) : v = vO o := by
  cases r <;> simp only [toO, Option.some.injEq, reduceCtorEq] at h <;> (subst h; rfl)
structure WOk (G : Gx) (i0 : Nat) (O : List Nat) (r : Nat) (c : Row) (F H : Hp) (σ : L2.St) (env : Env) : Prop where
  s : SOk G O F (hid r H) σ env
  fr : F r = none
  hr : H r = some (.lst (c.map vO))
  rw : σ[i0]? = some (some (.ref r))
structure WGr (r : Nat) (c : Row) (F H F' H' : Hp) : Prop where
  g : Gr F (hid r H) F' (hid r H')
  fr : F' r = none
  hr : H' r = some (.lst (c.map vO))
section
variable {G : Gx} {i0 : Nat} {O O' : List Nat} {r : Nat} {c c' c2 : Row} {F H F' H' F2 H2 : Hp} {σ : L2.St} {env : Env}
theorem WOk.sok (q : WOk G i0 O r c F H σ env) : SOk G O F H σ env := ⟨q.s.fh.trans hid_le, q.s.len, q.s.imm, fun i hi => by
  obtain ⟨p, vs, ds, h1, h2, h3, h4, h5⟩ := q.s.own i hi
  exact ⟨p, vs, ds, h1, h2, h3, hid_le _ _ h4, h5⟩, q.s.dj, q.s.tb.unhid⟩
theorem WOk.gr (q : WOk G i0 O r c F H σ env) (g : WGr r c' F H F' H') : WOk G i0 O r c' F' H' σ env := ⟨q.s.gr g.g, g.fr, g.hr, q.rw⟩
theorem WGr.of (g : Gr F H F' H') (hf : F r = none) (hr : H r = some (.lst (c.map vO))) : WGr r c F H F' H' := by
  have fr : F' r = none := g.hid r _ hr hf
  refine ⟨⟨g.ff, g.hh.hid_, fun b o e => ?_, fun p o e n => ?_⟩, fr, g.hh.l hr⟩
  · have n : b ≠ r := fun z => by rw [z, fr] at e; cases e
    rw [hid_ne n]
    exact g.fh b o e
  · obtain ⟨_, e⟩ := hid_some e
    exact g.hid p o e n
theorem WGr.trans (a : WGr r c F H F' H') (b : WGr r c2 F' H' F2 H2) : WGr r c2 F H F2 H2 := ⟨a.g.trans b.g, b.fr, b.hr⟩
theorem WGr.fh (a : WGr r c F H F' H') : Same F' H' := a.g.fh.trans hid_le
theorem WGr.ff (a : WGr r c F H F' H') : Same F F' := a.g.ff
theorem WOk.of (q : WOk G i0 O r c F H σ env) (g : Gr F H F' H') : WGr r c F H F' H' := .of g q.fr q.hr
theorem WOk.refl (q : WOk G i0 O r c F H σ env) : WGr r c F H F H := q.of (Gr.refl q.sok.fh)
theorem WOk.ne (ok : WOk G i0 O r c F H σ env) : ∀ i ∈ O, ∀ p, σ[i]? = some (some (.ref p)) → p ≠ r := fun i hi p hp => by
  obtain ⟨p', vs, ds, h1, h2, h3, h4, h5⟩ := ok.s.own i hi
  rw [hp] at h1
  cases h1
  exact (hid_some h4).1
theorem WGr.up {g : Row} (h : WGr r c F H F' H') {vs : List V} (e : vs = g.map vO) : WGr r g F H F' (upd H' r (.lst vs)) := by
  have eH : hid r (upd H' r (.lst vs)) = hid r H' := by
    funext b
    by_cases hb : b = r
    · subst hb; rw [hid_r, hid_r]
    · rw [hid_ne hb, hid_ne hb, upd_ne hb]
  exact ⟨by rw [eH]; exact h.g, h.fr, by rw [upd_same, e]⟩
end
def wV (G : Gx) (i0 : Nat) (O : List Nat) (f : WE) : TE := fun σ H Q => ∃ F env r c d c', WOk G i0 O r c F H σ env ∧ f env c = some (d, c') ∧ ∀ v F' H', WGr r c' F H F' H' → Rp G F' v d → Q v H'
def wT (G : Gx) (i0 : Nat) (O : List Nat) (f : WT) : TT := fun σ H Q => ∃ F env r c d c', WOk G i0 O r c F H σ env ∧ f env c = some (d, c') ∧ ∀ F' H', WGr r c' F H F' H' → Q d H'
def wA (G : Gx) (i0 : Nat) (O : List Nat) (f : WA) : TA := fun σ H Q => ∃ F env r c ds c', WOk G i0 O r c F H σ env ∧ f env c = some (ds, c') ∧ ∀ vs F' H', WGr r c' F H F' H' → RpAll G F' vs ds → Q vs H'
section
variable {X : Cx} {i0 : Nat} {O : List Nat} {a b e k : Expr} {es rest : List Expr} {fa fb : WE} {l : List WE} {pos p2 : Pos} {g : D → D → Option D}
theorem wlift {f : SE} (h : PE X e (rV (gx X) O f)) : PE X e (wV (gx X) i0 O (wl f)) := h.imp fun σ H Q ⟨F, env, r, c, d, c', ok, hf, q⟩ => by
  simp only [wl] at hf
  obtain ⟨x, h1, h2⟩ := map_some hf
  cases h2
  exact ⟨F, env, d, ok.sok, h1, fun v F' H' g r => q v F' H' (ok.of g) r⟩
theorem wliftT {f : ST} (h : PT X e (rT (gx X) O f)) : PT X e (wT (gx X) i0 O (wlT f)) := h.imp fun σ H Q ⟨F, env, r, c, d, c', ok, hf, q⟩ => by
  simp only [wlT] at hf
  obtain ⟨x, h1, h2⟩ := map_some hf
  cases h2
  exact ⟨F, env, d, ok.sok, h1, fun F' H' g => q F' H' (ok.of g)⟩
theorem wsplit2 {env : Env} {c c' : Row} {d : D} (h : w2 g fa fb env c = some (d, c')) : ∃ x c1 y, fa env c = some (x, c1) ∧ fb env c1 = some (y, c') ∧ g x y = some d := by
  simp only [w2] at h
  obtain ⟨x, h1, h⟩ := bind_some h
  obtain ⟨y, h2, h⟩ := bind_some h
  obtain ⟨z, h3, h4⟩ := map_some h
  cases h4
  exact ⟨x.1, x.2, y.1, h1, h2, h3⟩
theorem wsplit1 {g : D → Option D} {env : Env} {c c' : Row} {d : D} (h : w1 g fa env c = some (d, c')) : ∃ x, fa env c = some (x, c') ∧ g x = some d := by
  simp only [w1] at h
  obtain ⟨x, h1, h⟩ := bind_some h
  obtain ⟨z, h3, h4⟩ := map_some h
  cases h4
  exact ⟨x.1, h1, h3⟩
theorem wseq2 {R : V → V → Hp → Prop} {F H : Hp} {σ : L2.St} {env : Env} {x y : D} {r : Nat} {c c1 c2 : Row} (ok : WOk (gx X) i0 O r c F H σ env) (ha : fa env c = some (x, c1)) (hb : fb env c1 = some (y, c2))
    (h : ∀ v u F' H', WGr r c2 F H F' H' → Rp (gx X) F' v x → Rp (gx X) F' u y → R v u H') : wV (gx X) i0 O fa σ H fun v H1 => wV (gx X) i0 O fb σ H1 fun u H2 => R v u H2 :=
  ⟨F, env, r, c, x, c1, ok, ha, fun v F1 H1 g1 r1 => ⟨F1, env, r, c1, y, c2, ok.gr g1, hb, fun u F2 H2 g2 r2 => h v u F2 H2 (g1.trans g2) (r1.mono g2.ff) r2⟩⟩
theorem wend {F H F' H' : Hp} {r : Nat} {c : Row} {d : D} {Q : VK} (g : WGr r c F H F' H') (q : ∀ v F' H', WGr r c F H F' H' → Rp (gx X) F' v d → Q v H') : kV (gx X) F' H' d Q :=
  fun v F2 H2 g2 r2 => q v F2 H2 (g.trans (.of g2 g.fr g.hr)) r2
theorem wo {op : Operator} (ho : OpV X (binaryOp op) g) (ha : PE X a (wV (gx X) i0 O fa)) (hb : PE X b (wV (gx X) i0 O fb)) : PE X (.BinOp a op b pos) (wV (gx X) i0 O (w2 g fa fb)) :=
  (pe_op ho ha hb).imp fun σ H Q ⟨F, env, r, c, d, c', ok, hf, q⟩ => by
    obtain ⟨x, c1, y, h1, h2, h3⟩ := wsplit2 hf
    exact wseq2 ok h1 h2 fun v u F' H' g' r1 r2 => ⟨F', x, y, d, g'.fh, r1.b, r2.b, h3, wend g' q⟩
theorem wc {op : CmpOp} (ho : OpV X (compareOp op) g) (ha : PE X a (wV (gx X) i0 O fa)) (hb : PE X b (wV (gx X) i0 O fb)) (hm : behindInMarks op b = false := by first | exact nomark _ | rfl | with_unfolding_all rfl) : PE X (.Compare a [op] [b] pos) (wV (gx X) i0 O (w2 g fa fb)) :=
  (pe_cmpR ho ha hb hm).imp fun σ H Q ⟨F, env, r, c, d, c', ok, hf, q⟩ => by
    obtain ⟨x, c1, y, h1, h2, h3⟩ := wsplit2 hf
    exact wseq2 ok h1 h2 fun v u F' H' g' r1 r2 => ⟨F', x, y, d, g'.fh, r1.b, r2.b, h3, wend g' q⟩
theorem wnot (ha : PE X a (wV (gx X) i0 O fa)) : PE X (.UnaryOp .Not a pos) (wV (gx X) i0 O (wNot fa)) :=
  (pe_not ha).imp fun σ H Q ⟨F, env, r, c, d, c', ok, hf, q⟩ => by
    simp only [wNot] at hf
    obtain ⟨x, h1, hf⟩ := bind_some hf
    obtain ⟨k, h4, hk⟩ := map_some hf
    obtain ⟨x, c1⟩ := x
    have e4 := toB_some h4
    subst e4
    cases hk
    refine ⟨F, env, r, c, _, c1, ok, h1, fun v F1 H1 g1 r1 => ?_⟩
    cases r1
    exact ⟨k, rfl, q _ F1 H1 g1 (.bl _)⟩
theorem wan : PA X [] (wA (gx X) i0 O (wArgs [])) := pa_nil.imp fun σ H Q ⟨F, env, r, c, ds, c', ok, hf, q⟩ => by
  cases hf
  exact q [] F H ok.refl .nil
theorem wac (ha : PE X e (wV (gx X) i0 O fa)) (hr : PA X es (wA (gx X) i0 O (wArgs l))) (hs : starEach (e :: es) X.env = (false, eval e X.env) :: starEach es X.env := by rfl) : PA X (e :: es) (wA (gx X) i0 O (wArgs (fa :: l))) :=
  (pa_cons ha hr hs).imp fun σ H Q ⟨F, env, r, c, ds, c', ok, hf, q⟩ => by
    simp only [wArgs] at hf
    obtain ⟨⟨x, c1⟩, h1, hf⟩ := bind_some hf
    obtain ⟨⟨xs, c2⟩, h2, hf⟩ := map_some hf
    cases hf
    exact ⟨F, env, r, c, x, c1, ok, h1, fun v F1 H1 g1 r1 => ⟨F1, env, r, c1, xs, _, ok.gr g1, h2, fun vs F2 H2 g2 r2 => q (v :: vs) F2 H2 (g1.trans g2) (.cons (r1.mono g2.ff) r2)⟩⟩
theorem wtup {x1} (h : PA X es (wA (gx X) i0 O (wArgs l))) : PE X (.Tuple es x1 pos) (wV (gx X) i0 O (wTup l)) :=
  (pe_tup h).imp fun σ H Q ⟨F, env, r, c, d, c', ok, hf, q⟩ => by
    simp only [wTup] at hf
    obtain ⟨⟨ds, c1⟩, h1, hf⟩ := bind_some hf
    refine ⟨F, env, r, c, ds, c1, ok, h1, fun vs F1 H1 g1 r1 => ?_⟩
    split at hf
    · cases hf
      exact ⟨by rw [r1.length]; assumption, fun p hp => (wend g1 q).newT g1.fh r1 hp⟩
    · cases hf
theorem wTy {x : Str} {p : Pos} {f : WE} {g : D → Option D} {T : String} (hc : CalV X (.type T) g) (hg : Gl X x) (hm : X.mg x = none) (hv : bootBuiltins x = some (.type T)) (ha : PE X e (wV (gx X) i0 O f)) (hn : x ≠ "__name__" := by decide) (hdb : (x == ("__debug__" : Str)) = false := by decide)
    (hs : starEach [e] X.env = (false, eval e X.env) :: starEach [] X.env := by rfl) : PE X (.Call (.Name x p) [e] [] pos) (wV (gx X) i0 O (w1 g f)) :=
  (pe_callTy hc hg hm hv (pa_cons ha pa_nil hs) hn hdb hs rfl).imp fun σ H Q ⟨F, env, r, c, d, c', ok, hf, q⟩ => by
    obtain ⟨x, h1, h3⟩ := wsplit1 hf
    exact ⟨F, env, r, c, x, c', ok, h1, fun v F1 H1 g1 r1 => ⟨F1, v, x, d, rfl, g1.fh, r1.b, h3, wend g1 q⟩⟩
/-- row[a] -/
theorem wrow {x : Str} {p1 : Pos} {f : SE} (ha : PE X a (rV (gx X) O f)) (hs : PlainIx a := by exact fun _ _ => rfl) (hN : X.N[i0]? = some x := by rfl) (hv : Vis X.env.scope x := by first | exact Or.inl rfl | exact Or.inr (Or.inl rfl) | exact Or.inr (Or.inr rfl)) (hd : (x == ("__debug__" : Str)) = false := by decide)
    (hcd : (x == ("__classdict__" : Str)) = false := by decide) : PE X (.Subscript (.Name x p1) a pos) (wV (gx X) i0 O (wRow f)) :=
  (pe_ix ix_list (pe_var hN hv hd hcd) ha hs).imp fun σ H Q ⟨F, env, r, c, d, c', ok, hf, q⟩ => by
    simp only [wRow] at hf
    obtain ⟨d0, h1, hf⟩ := bind_some hf
    obtain ⟨k, h2, hf⟩ := bind_some hf
    obtain ⟨o, h3, h4⟩ := map_some hf
    cases h4
    have e2 := toI_some h2
    subst e2
    refine ⟨_, ok.rw, F, env, _, ok.sok, h1, fun v F1 H1 g1 r1 => ?_⟩
    cases r1
    have g2 := ok.of g1
    refine ⟨r, c.map vO, k, vO o, rfl, rfl, .inl (.inl g2.hr), ?_, q _ F1 H1 g2 (ofO_rp o)⟩
    unfold L2.atI at h3 ⊢
    rw [List.length_map]
    obtain ⟨j, h5, h6⟩ := bind_some h3
    rw [h5]
    show (c.map vO)[j]? = some (vO o)
    rw [List.getElem?_map, h6]
    rfl
end
/-! ### calls that hand the row on -/
def spW (G : Gx) (n : Nat) (m : List D → Row → Option (D × Row)) : Sp := fun vs H Q _ => ∃ F r c us ds d c', vs = us ++ [.ref r] ∧ Fz G F (hid r H) ∧ F r = none ∧ H r = some (.lst (c.map vO)) ∧ RpAll G F us ds ∧ ds.length = n ∧ m ds c = some (d, c') ∧ ∀ v F' H', WGr r c' F H F' H' → Rp G F' v d → Q v H'
/-- the arguments with the row behind them -/
def wAR (G : Gx) (i0 : Nat) (O : List Nat) (f : Env → Option (List D)) : TA := fun σ H Q => ∃ F env r c ds, WOk G i0 O r c F H σ env ∧ f env = some ds ∧ ∀ us F' H', Gr F H F' H' → RpAll G F' us ds → Q (us ++ [.ref r]) H'
section
variable {X : Cx} {i0 : Nat} {O : List Nat} {e : Expr} {es : List Expr} {l : List SE} {p pos : Pos} {x : Str} {k n : Nat} {fa : Addr} {fd : FuncData} {ps : List Str} {a : SE}
theorem wr_end (hN : X.N[i0]? = some x := by rfl) (hv : Vis X.env.scope x := by first | exact Or.inl rfl | exact Or.inr (Or.inl rfl) | exact Or.inr (Or.inr rfl)) (hd : (x == ("__debug__" : Str)) = false := by decide)
    (hcd : (x == ("__classdict__" : Str)) = false := by decide) (hs : starEach [.Name x p] X.env = (false, eval (.Name x p) X.env) :: starEach [] X.env := by rfl) : PA X [.Name x p] (wAR (gx X) i0 O (eArgs [])) :=
  (pa_cons (pe_var hN hv hd hcd) pa_nil hs).imp fun σ H Q ⟨F, env, r, c, ds, ok, hf, q⟩ => by
    cases hf
    exact ⟨_, ok.rw, q [] F H (Gr.refl ok.sok.fh) .nil⟩
theorem wr_cons (ha : PE X e (rV (gx X) O a)) (hr : PA X es (wAR (gx X) i0 O (eArgs l))) (hs : starEach (e :: es) X.env = (false, eval e X.env) :: starEach es X.env := by rfl) : PA X (e :: es) (wAR (gx X) i0 O (eArgs (a :: l))) :=
  (pa_cons ha hr hs).imp fun σ H Q ⟨F, env, r, c, ds, ok, hf, q⟩ => by
    simp only [eArgs] at hf
    obtain ⟨x, h1, hf⟩ := bind_some hf
    obtain ⟨xs, h2, hf⟩ := map_some hf
    subst hf
    exact ⟨F, env, x, ok.sok, h1, fun v F1 H1 g1 r1 => ⟨F1, env, r, c, xs, ok.gr (ok.of g1), h2, fun vs F2 H2 g2 r2 => q (v :: vs) F2 H2 (g1.trans g2) (.cons (r1.mono g2.ff) r2)⟩⟩
theorem eArgs_len {env : Env} : ∀ (l : List SE) (ds : List D), eArgs l env = some ds → ds.length = l.length
  | [], ds, h => by cases h; rfl
  | a :: l, ds, h => by
    simp only [eArgs] at h
    obtain ⟨x, _, h⟩ := bind_some h
    obtain ⟨xs, h2, h⟩ := map_some h
    subst h
    exact congrArg (· + 1) (eArgs_len l xs h2)
theorem wcall {m : List D → Row → Option (D × Row)} (F : FnOk X.prog X.w (gx X).K (gx X).mg X.base CX0 k fa fd ps (spW (gx X) n m)) (hr : Room k X.A) (hg : Gl X x) (hm : X.mg x = some (.ref fa)) (hk : PySem.W.keepIn X.K (.ref fa) = true) (hb : Binds X.K fd ps [])
    (ha : PA X (e :: es) (wAR (gx X) i0 O (eArgs l))) (hn : l.length = n := by rfl) (hdb : (x == ("__debug__" : Str)) = false := by decide) (he : starEach (e :: es) X.env = (false, eval e X.env) :: starEach es X.env := by rfl) (hpl : (backTo pos (starEach es X.env)).any (·.1) = false := by rfl) :
    PE X (.Call (.Name x p) (e :: es) [] pos) (wV (gx X) i0 O (wCall m l)) :=
  (pe_call F hr hg hm hk hb .nil pass0 ha hdb he hpl).imp fun σ H Q ⟨F, env, r, c, d, c', ok, hf, q⟩ => by
    simp only [wCall] at hf
    obtain ⟨ds, h1, hf⟩ := bind_some hf
    refine ⟨F, env, r, c, ds, ok, h1, fun us F1 H1 g1 r1 => ?_⟩
    show spW (gx X) n m ((us ++ [.ref r]) ++ []) H1 Q E0
    rw [List.append_nil]
    have g2 := ok.of g1
    exact ⟨F1, r, c, us, ds, d, c', rfl, (ok.gr g2).s.fz, g2.fr, g2.hr, r1, (eArgs_len l ds h1).trans hn, hf, fun v F2 H2 g3 r2 => q v F2 H2 (g2.trans g3) r2⟩
/-- f(.., a new list), the list a row -/
@[simp] def eRow (m : List D → Row → Option (D × Row)) (l : List SE) (a : SE) : SE := fun env => (eArgs l env).bind fun ds => (a env).bind fun x => match x with
  | .list rs => (toRow rs).bind fun c => (m ds c).map (·.1)
  | _ => none
theorem toRow_rp {G : Gx} {F : Hp} : ∀ {ds : List D} {vs : List V} {c : Row}, toRow ds = some c → RpAll G F vs ds → vs = c.map vO
  | [], _, _, h, .nil => by cases h; rfl
  | d :: ds, _, c, h, .cons r rs => by
    simp only [toRow] at h
    obtain ⟨o, h1, h⟩ := bind_some h
    obtain ⟨c2, h2, h3⟩ := map_some h
    subst h3
    rw [toO_rp h1 r, toRow_rp h2 rs]
    rfl
/-- arguments, the last one a new list -/
def aR (G : Gx) (O : List Nat) (f : Env → Option (List D)) (a : SE) : TA := fun σ H Q => ∃ F env ds rs, SOk G O F H σ env ∧ f env = some ds ∧ a env = some (.list rs) ∧
  ∀ us p vs F' H', Gr F H F' H' → H p = none → F' p = none → H' p = some (.lst vs) → RpAll G F' us ds → RpAll G F' vs rs → Q (us ++ [.ref p]) H'
theorem ar_end (ha : PE X e (rN (gx X) O a)) (hs : starEach [e] X.env = (false, eval e X.env) :: starEach [] X.env := by rfl) : PA X [e] (aR (gx X) O (eArgs []) a) :=
  (pa_cons ha pa_nil hs).imp fun σ H Q ⟨F, env, ds, rs, hs, hf, hl, q⟩ => by
    cases hf
    refine ⟨F, env, _, hs, hl, fun p vs ds F1 H1 g1 e1 e2 e3 r e => ?_⟩
    cases e
    exact q [] p vs F1 H1 g1 e1 e2 e3 .nil r
theorem ar_cons {a0 : SE} (ha : PE X e (rV (gx X) O a0)) (hr : PA X es (aR (gx X) O (eArgs l) a)) (hs : starEach (e :: es) X.env = (false, eval e X.env) :: starEach es X.env := by rfl) : PA X (e :: es) (aR (gx X) O (eArgs (a0 :: l)) a) :=
  (pa_cons ha hr hs).imp fun σ H Q ⟨F, env, ds, rs, hs, hf, hl, q⟩ => by
    simp only [eArgs] at hf
    obtain ⟨x, h1, hf⟩ := bind_some hf
    obtain ⟨xs, h2, hf⟩ := map_some hf
    subst hf
    exact ⟨F, env, x, hs, h1, fun v F1 H1 g1 r1 => ⟨F1, env, xs, rs, hs.gr g1, h2, hl, fun us p vs F2 H2 g2 e1 e2 e3 r2 r3 => q (v :: us) p vs F2 H2 (g1.trans g2) (g1.hh.free e1) e2 e3 (.cons (r1.mono g2.ff) r2) r3⟩⟩
theorem ecallR {m : List D → Row → Option (D × Row)} (F : FnOk X.prog X.w (gx X).K (gx X).mg X.base CX0 k fa fd ps (spW (gx X) n m)) (hr : Room k X.A) (hg : Gl X x) (hm : X.mg x = some (.ref fa)) (hk : PySem.W.keepIn X.K (.ref fa) = true) (hb : Binds X.K fd ps [])
    (ha : PA X (e :: es) (aR (gx X) O (eArgs l) a)) (hn : l.length = n := by rfl) (hdb : (x == ("__debug__" : Str)) = false := by decide) (he : starEach (e :: es) X.env = (false, eval e X.env) :: starEach es X.env := by rfl) (hpl : (backTo pos (starEach es X.env)).any (·.1) = false := by rfl) :
    PE X (.Call (.Name x p) (e :: es) [] pos) (rV (gx X) O (eRow m l a)) :=
  (pe_call F hr hg hm hk hb .nil pass0 ha hdb he hpl).imp fun σ H Q ⟨F, env, d, hs, hf, q⟩ => by
    simp only [eRow] at hf
    obtain ⟨ds, h1, hf⟩ := bind_some hf
    obtain ⟨x, h2, hf⟩ := bind_some hf
    split at hf
    · rename_i rs
      obtain ⟨c, h3, hf⟩ := bind_some hf
      obtain ⟨⟨d', c'⟩, h4, h5⟩ := map_some hf
      simp only at h5
      subst h5
      refine ⟨F, env, ds, rs, hs, h1, h2, fun us p vs F1 H1 g1 e1 e2 e3 r1 r2 => ?_⟩
      show spW (gx X) n m ((us ++ [.ref p]) ++ []) H1 Q E0
      rw [List.append_nil]
      have ev := toRow_rp h3 r2
      subst ev
      have gh : Gr F H F1 (hid p H1) := by
        refine ⟨g1.ff, ⟨fun b o e n => ?_, fun b ps e => ?_⟩, fun b o e => ?_, g1.hid⟩
        · rw [hid_ne fun z => by rw [z, e1] at e; cases e]
          exact g1.hh.nn b o e n
        · rw [hid_ne fun z => by rw [z, e1] at e; cases e]
          exact g1.hh.tb b ps e
        · rw [hid_ne fun z => by rw [z, e2] at e; cases e]
          exact g1.fh b o e
      refine ⟨F1, p, c, us, ds, d', c', rfl, (hs.gr gh).fz, e2, e3, r1, (eArgs_len l ds h1).trans hn, h4, fun v F2 H2 g2 rv => q v F2 H2 ?_ rv⟩
      have ga := gh.trans g2.g
      exact ⟨ga.ff, ga.hh.trans (.of hid_le), ga.fh.trans hid_le, ga.hid⟩
    · cases hf
end
end TL

set_option Elab.async false
set_option linter.all false
set_option maxRecDepth 100000
/-! The tree layer with a row: generator expressions, statements, loops, defs. -/
namespace TL
open PySem PySem.Spec PyProof.Rows L2
theorem SOk.rehid' {G : Gx} {O : List Nat} {F H : Hp} {σ : L2.St} {env : Env} {r : Nat} (s : SOk G O F H σ env) (hf : F r = none) {us : List V} (hr : H r = some (.lst us)) (hn : ∀ i ∈ O, ∀ p, σ[i]? = some (some (.ref p)) → p ≠ r) : SOk G O F (hid r H) σ env := s.rehid hf hr hn
theorem wipe_idem (vs : List Nat) (τ : L2.St) : L2.wipe (L2.wipe τ vs) vs = L2.wipe τ vs := ext_wipe (sl := vs) (wipe_length _ _) (fun j hj => wipe_out hj) fun j h => h
section
variable {X : Cx} {i0 : Nat} {O : List Nat}
theorem ag_read {x : Str} {cc P : Addr} (hx : x ∈ tabNames) (ht : PySem.W.tabIn (gx X).K x = some (cc, P)) {cb : Bool} {fi : SI} {g : SG} {f : WE} {sl vs : List Nat} (hsl : ∀ j ∈ sl, j ∈ vs) (hO : ∀ j ∈ vs, j ∉ O) (h0 : i0 ∉ vs) {σ : L2.St} {H : Hp} {Q : VK} (h : wV (gx X) i0 O (wAg cb vs fi g f) σ H Q) :
    tAg P cb (iV (gx X) O fi) (tG (gx X) O sl g) (wV (gx X) i0 O f) vs σ H Q := by
  obtain ⟨F, env, r, c, d, c', ok, hf, q⟩ := h
  simp only [wAg] at hf
  obtain ⟨ds, h1, hf⟩ := bind_some hf
  refine ⟨F, env, ds, ok.sok, h1, fun J F1 H1 g1 hz hJ => ⟨((ok.sok.gr g1).tb x hx cc P ht).2, fun H2 hT => ?_⟩⟩
  obtain ⟨⟨ps', e', t'⟩, hk⟩ := hT
  obtain ⟨n1, ps, e1, t1⟩ := (ok.sok.gr g1).tb x hx cc P ht
  have gT : Gr F1 H1 F1 H2 := by
    refine ⟨Same.refl F1, ⟨fun b o e n => ?_, fun b qs e => ?_⟩, fun b o e => ?_, fun _ _ _ n => n⟩
    · rw [hk b fun z => by rw [z, e1] at e; cases e; cases n]; exact e
    · by_cases hb : b = P
      · subst hb; exact ⟨ps', e', fun _ => t'⟩
      · exact ⟨qs, by rw [hk b hb]; exact e, id⟩
    · rw [hk b fun z => by rw [z, n1] at e; cases e]; exact g1.fh b o e
  have w0 := ok.of (g1.trans gT)
  refine ⟨ds.length, fun i H' => ∃ F' c1, WGr r c1 F H F' H' ∧ Same F1 F' ∧ i ≤ ds.length ∧ wAgGo cb g f (wipeE env vs) (ds.drop i) c1 = some (d, c'), ⟨F1, c, w0, Same.refl F1, Nat.zero_le _, hf⟩, ?_⟩
  rintro i H' ⟨F', c1, gr, sm, hi, hgo⟩
  have hJ' := hJ i F' H' sm gr.fh
  have okw := ok.gr gr
  have s' := okw.sok.wipe hO
  cases hd : ds[i]? with
  | none =>
    have hi' : ds.length ≤ i := List.getElem?_eq_none_iff.mp hd
    rw [List.drop_eq_nil_of_le hi'] at hgo
    cases hgo
    exact .inl ⟨Nat.le_antisymm hi hi', hJ'.2 hd, q _ F' H' gr (.bl cb)⟩
  | some x =>
    have hi' : i < ds.length := (List.getElem?_eq_some_iff.mp hd).1
    have hx : ds[i] = x := (List.getElem?_eq_some_iff.mp hd).2
    have hdr : ds.drop i = x :: ds.drop (i + 1) := by rw [List.drop_eq_getElem_cons hi', hx]
    rw [hdr] at hgo
    simp only [wAgGo] at hgo
    obtain ⟨env1, hg1, hgo⟩ := bind_some hgo
    obtain ⟨⟨y, c2⟩, he1, hgo⟩ := bind_some hgo
    obtain ⟨b, hb, hgo⟩ := bind_some hgo
    have hb := toB_some hb
    simp only at hb
    subst hb
    refine .inr ⟨hi', (hJ'.1 x hd).1, fun v H3 hy => ?_⟩
    obtain ⟨rfl, rv⟩ := (hJ'.1 x hd).2 v H3 hy
    refine ⟨F', _, x, env1, s', rv, hg1, fun σ2 s2 ln kp => ⟨(ext_wipe ln kp hsl).trans (wipe_idem vs σ), F', env1, r, c1, .bool b, c2, ⟨s2.rehid gr.fr gr.hr fun j hj p hp => okw.ne j hj p ?_, gr.fr, gr.hr, ?_⟩, he1, fun w F4 H4 g4 r4 => ?_⟩⟩
    · rw [← wipe_out (σ := σ) (fun z => hO j z hj), ← kp j fun z => hO j (hsl j z) hj]
      exact hp
    · rw [kp i0 fun z => h0 (hsl i0 z), wipe_out h0]
      exact ok.rw
    · cases r4
      refine ⟨b, rfl, ?_⟩
      split
      · rename_i hbc
        rw [if_pos hbc] at hgo
        exact ⟨F4, c2, gr.trans g4, sm.trans g4.ff, hi', hgo⟩
      · rename_i hbc
        rw [if_neg hbc] at hgo
        cases hgo
        exact q _ F4 H4 (gr.trans g4) (.bl _)
theorem wall {x : Str} {cc P : Addr} {elt tg iter : Expr} {gpos p pos : Pos} {scope : Scope} {own : List (Str × Nat)} {fi : SI} {g : SG} {f : WE} {sl : List Nat} {k : Nat}
    (ht : PySem.W.tabIn (gx X).K x = some (cc, P)) (TB : GxR.TabB X.base X.mg cc P) (hcode : X.env.code = .ref cc) (hr : Room (k + 1) X.A) (hgl : Gl X "all") (hm : X.mg "all" = none) (hN : X.N.Nodup) (ok : GenOk X.N X.env.scope scope own) (hi : PI X tg iter (iV (gx X) O fi))
    (hg : ∀ (A : Around) (s : Shared) (H : Hp) (C : Addr) (code : Value) (fp : List Addr) (pn : List (Addr × Obj)), PG (gX X A s H (genEnv scope (cloFrom X.env.cells scope.names []) C code builtinsNs X.env) fp pn) tg (tG (gx X) O sl g))
    (he : ∀ (A : Around) (s : Shared) (H : Hp) (C : Addr) (code : Value) (fp : List Addr) (pn : List (Addr × Obj)), Room k A → PE (gX X A s H (genEnv scope (cloFrom X.env.cells scope.names []) C code builtinsNs X.env) fp pn) elt (wV (gx X) i0 O f))
    (hx : x ∈ tabNames := by decide) (hsl : ∀ j ∈ sl, j ∈ own.map (·.2) := by decide) (hO : ∀ j ∈ own.map (·.2), j ∉ O := by decide) (h0 : i0 ∉ own.map (·.2) := by decide) (hs : ∀ v, genFold iter X.env v = pure v := by intro _; rfl)
    (hst : starEach [.GeneratorExp elt [⟨tg, iter, [], 0⟩] scope gpos] X.env = (false, eval (.GeneratorExp elt [⟨tg, iter, [], 0⟩] scope gpos) X.env) :: starEach [] X.env := by rfl) :
    PE X (.Call (.Name "all" p) [.GeneratorExp elt [⟨tg, iter, [], 0⟩] scope gpos] [] pos) (wV (gx X) i0 O (wAg true (own.map (·.2)) fi g f)) :=
  (pe_all hr hgl hm (by decide +kernel) TB hcode hN ok hi hg he hs hst).imp fun σ H Q h => ag_read hx ht hsl hO h0 h
theorem wany {x : Str} {cc P : Addr} {elt tg iter : Expr} {gpos p pos : Pos} {scope : Scope} {own : List (Str × Nat)} {fi : SI} {g : SG} {f : WE} {sl : List Nat} {k : Nat}
    (ht : PySem.W.tabIn (gx X).K x = some (cc, P)) (TB : GxR.TabB X.base X.mg cc P) (hcode : X.env.code = .ref cc) (hr : Room (k + 1) X.A) (hgl : Gl X "any") (hm : X.mg "any" = none) (hN : X.N.Nodup) (ok : GenOk X.N X.env.scope scope own) (hi : PI X tg iter (iV (gx X) O fi))
    (hg : ∀ (A : Around) (s : Shared) (H : Hp) (C : Addr) (code : Value) (fp : List Addr) (pn : List (Addr × Obj)), PG (gX X A s H (genEnv scope (cloFrom X.env.cells scope.names []) C code builtinsNs X.env) fp pn) tg (tG (gx X) O sl g))
    (he : ∀ (A : Around) (s : Shared) (H : Hp) (C : Addr) (code : Value) (fp : List Addr) (pn : List (Addr × Obj)), Room k A → PE (gX X A s H (genEnv scope (cloFrom X.env.cells scope.names []) C code builtinsNs X.env) fp pn) elt (wV (gx X) i0 O f))
    (hx : x ∈ tabNames := by decide) (hsl : ∀ j ∈ sl, j ∈ own.map (·.2) := by decide) (hO : ∀ j ∈ own.map (·.2), j ∉ O := by decide) (h0 : i0 ∉ own.map (·.2) := by decide) (hs : ∀ v, genFold iter X.env v = pure v := by intro _; rfl)
    (hst : starEach [.GeneratorExp elt [⟨tg, iter, [], 0⟩] scope gpos] X.env = (false, eval (.GeneratorExp elt [⟨tg, iter, [], 0⟩] scope gpos) X.env) :: starEach [] X.env := by rfl) :
    PE X (.Call (.Name "any" p) [.GeneratorExp elt [⟨tg, iter, [], 0⟩] scope gpos] [] pos) (wV (gx X) i0 O (wAg false (own.map (·.2)) fi g f)) :=
  (pe_any hr hgl hm TB hcode hN ok hi hg he hs hst).imp fun σ H Q h => ag_read hx ht hsl hO h0 h
end
/-! ### statements -/
def wPost (G : Gx) (i0 : Nat) (O' Ob : List Nat) (F0 H0 : Hp) (r : Nat) (F : Hp) (D : Ends) : WOut → Prop
  | .nx e c => ∀ σ' F' H', WOk G i0 O' r c F' H' σ' e → Fr F0 (hid r H0) O' F' (hid r H') σ' → Same F F' → D.nx σ' H'
  | .bk e c => ∀ σ' F' H', WOk G i0 Ob r c F' H' σ' e → Fr F0 (hid r H0) Ob F' (hid r H') σ' → Same F F' → D.bk σ' H'
  | .ct e c => ∀ σ' F' H', WOk G i0 Ob r c F' H' σ' e → Fr F0 (hid r H0) Ob F' (hid r H') σ' → Same F F' → D.ct σ' H'
  | .rt d c => ∀ v F' H', WGr r c F0 H0 F' H' → Rp G F' v d → D.rt v H'
theorem wPost.ff {G : Gx} {i0 : Nat} {O' Ob : List Nat} {F0 H0 F F1 : Hp} {r : Nat} {D : Ends} {out : WOut} (q : wPost G i0 O' Ob F0 H0 r F D out) (k : Same F F1) : wPost G i0 O' Ob F0 H0 r F1 D out := by
  cases out with
  | nx e => exact fun σ' F' H' s' f' k' => q σ' F' H' s' f' (k.trans k')
  | bk e => exact fun σ' F' H' s' f' k' => q σ' F' H' s' f' (k.trans k')
  | ct e => exact fun σ' F' H' s' f' k' => q σ' F' H' s' f' (k.trans k')
  | rt d => exact q
def wS (G : Gx) (i0 : Nat) (O O' Ob : List Nat) (f : WS) : TS := fun D σ H => ∃ F0 H0 F env r c out, WOk G i0 O r c F H σ env ∧ Fr F0 (hid r H0) O F (hid r H) σ ∧ f env c = some out ∧ wPost G i0 O' Ob F0 H0 r F D out
section
variable {X : Cx} {i0 : Nat} {O O' O'' Ob : List Nat} {st : Stmt} {rest : List Stmt} {pos : Pos}
theorem wbn : PSs X [] (wS (gx X) i0 O O Ob wNext) := pss_nil.imp fun D σ H ⟨F0, H0, F, env, r, c, out, ok, hf, ho, q⟩ => by
  cases ho
  exact q σ F H ok hf (Same.refl F)
theorem wbc {f g : WS} (h1 : PS X st (wS (gx X) i0 O O' Ob f)) (h2 : PSs X rest (wS (gx X) i0 O' O'' Ob g)) : PSs X (st :: rest) (wS (gx X) i0 O O'' Ob (wSeq f g)) :=
  (pss_cons h1 h2).imp fun D σ H ⟨F0, H0, F, env, r, c, out, ok, hf, ho, q⟩ => by
    simp only [wSeq] at ho
    obtain ⟨o1, h1, h2⟩ := bind_some ho
    refine ⟨F0, H0, F, env, r, c, o1, ok, hf, h1, ?_⟩
    cases o1 with
    | nx e c1 => exact fun σ' F' H' s' f' k' => ⟨F0, H0, F', e, r, c1, out, s', f', h2, q.ff k'⟩
    | bk e => cases h2; exact q
    | ct e => cases h2; exact q
    | rt d => cases h2; exact q
theorem wbo {f : WS} (h1 : PS X st (wS (gx X) i0 O O' Ob f)) : PSs X [st] (wS (gx X) i0 O O' Ob f) := pss_one h1
theorem wret {e : Expr} {a : WE} (he : PE X e (wV (gx X) i0 O a)) : PS X (.Return (some e) pos) (wS (gx X) i0 O O' Ob (wRet a)) :=
  (ps_ret he).imp fun D σ H ⟨F0, H0, F, env, r, c, out, ok, hf, ho, q⟩ => by
    simp only [wRet] at ho
    obtain ⟨⟨d, c1⟩, h1, h2⟩ := map_some ho
    subst h2
    exact ⟨F, env, r, c, d, c1, ok, h1, fun v F' H' g r' => q v F' H' ⟨hf.gr.trans g.g, g.fr, g.hr⟩ r'⟩
theorem wif_ {c : Expr} {a b : List Stmt} {fc : ST} {fa fb : WS} (hc : PT X c (rT (gx X) O fc)) (ha : PSs X a (wS (gx X) i0 O O' Ob fa)) (hb : PSs X b (wS (gx X) i0 O O' Ob fb)) : PS X (.If c a b pos) (wS (gx X) i0 O O' Ob (wIfS fc fa fb)) :=
  (ps_if hc ha hb).imp fun D σ H ⟨F0, H0, F, env, r, c, out, ok, hf, ho, q⟩ => by
    simp only [wIfS] at ho
    obtain ⟨k, h1, h2⟩ := bind_some ho
    refine ⟨F, env, k, ok.sok, h1, fun F1 H1 g => ?_⟩
    have g1 := ok.of g
    have q' := q.ff g1.ff
    cases k with
    | true => exact ⟨F0, H0, F1, env, r, c, out, ok.gr g1, hf.step g1.g, h2, q'⟩
    | false => exact ⟨F0, H0, F1, env, r, c, out, ok.gr g1, hf.step g1.g, h2, q'⟩
theorem wset {x : Str} {e : Expr} {a : WE} {pos' : Pos} (i : Nat) (hN : X.N.Nodup) (he : PE X e (wV (gx X) i0 O a)) (hO : i ∉ O := by decide) (h0 : i ≠ i0 := by decide) (hi : X.N[i]? = some x := by rfl) (hx : Loc X.env.scope x := by first | exact Or.inl rfl | exact Or.inr rfl) (hs : swapsWith e (some (.Name x pos')) pos.line X.env = pure false := by rfl)
    (hf : X.fn x = true ∨ X.env.scope.names.lookup x = some .local := by first | exact .inl rfl | exact .inr rfl | assumption) : PS X (.Assign [.Name x pos'] e pos) (wS (gx X) i0 O O Ob (wAsg a (TL.gName i))) :=
  (ps_set hN hi hx he hs hf).imp fun D σ H ⟨F0, H0, F, env, r, c, out, ok, hf, ho, q⟩ => by
    simp only [wAsg, TL.gName] at ho
    obtain ⟨⟨d, c1⟩, h1, h2⟩ := bind_some ho
    cases h2
    exact ⟨F, env, r, c, d, c1, ok, h1, fun v F1 H1 g1 r1 => q _ F1 H1 ⟨(ok.s.gr g1.g).set hO r1, g1.fr, g1.hr, (List.getElem?_set_ne h0).trans ok.rw⟩ (fr_set (hf.step g1.g) hO) g1.ff⟩
/-- name op= e -/
theorem waug {x : Str} {e : Expr} {a : WE} {op : Operator} {g : D → D → Option D} {pos' : Pos} (i : Nat) (hN : X.N.Nodup) (ho : OpV X (inplaceOp op) g) (he : PE X e (wV (gx X) i0 O a)) (hO : i ∉ O := by decide) (h0 : i ≠ i0 := by decide) (hi : X.N[i]? = some x := by rfl) (hx : Loc X.env.scope x := by first | exact Or.inl rfl | exact Or.inr rfl)
    (hf : X.fn x = true ∨ X.env.scope.names.lookup x = some .local := by first | exact .inl rfl | exact .inr rfl | assumption) : PS X (.AugAssign (.Name x pos') op e pos) (wS (gx X) i0 O O Ob (wAug g i a)) :=
  (ps_aug hN hi hx he ho hf).imp fun D σ H ⟨F0, H0, F, env, r, c, out, ok, hf, ho, q⟩ => by
    simp only [wAug] at ho
    obtain ⟨d, h1, ho⟩ := bind_some ho
    obtain ⟨⟨e, c1⟩, h2, ho⟩ := bind_some ho
    obtain ⟨d3, h3, h4⟩ := map_some ho
    subst h4
    obtain ⟨v, h5, h6⟩ := ok.s.imm i d (getD_some h1) hO
    refine ⟨v, h5, F, env, r, c, e, c1, ok, h2, fun u F1 H1 g1 r1 => ⟨F1, d, e, d3, g1.fh, (h6.mono g1.ff).b, r1.b, h3, fun w F2 H2 g2 r2 => ?_⟩⟩
    have g := g1.trans (.of g2 g1.fr g1.hr)
    exact q _ F2 H2 ⟨(ok.s.gr g.g).set hO r2, g.fr, g.hr, (List.getElem?_set_ne h0).trans ok.rw⟩ (fr_set (hf.step g.g) hO) g.ff
/-- row[i] = e -/
theorem wstore {ei ev : Expr} {fi fv : SE} {p1 pos' : Pos} {x : Str} (hi : PE X ei (rV (gx X) O fi)) (he : PE X ev (rV (gx X) O fv)) (hN : X.N[i0]? = some x := by rfl) (hv : Vis X.env.scope x := by first | exact Or.inl rfl | exact Or.inr (Or.inl rfl) | exact Or.inr (Or.inr rfl)) (hd : (x == ("__debug__" : Str)) = false := by decide)
    (hcd : (x == ("__classdict__" : Str)) = false := by decide)
    (hs : swapsWithSole [.Subscript (.Name x p1) ei pos] ev pos'.line X.env = pure false := by rfl) (hw : swappedStores [.Subscript (.Name x p1) ei pos] ev X.env = pure none := by rfl)
    (h1 : (assignEach [.Subscript (.Name x p1) ei pos] X.env).map (·.2) = [assign (.Subscript (.Name x p1) ei pos) X.env] := by rfl)
    (hass : ∀ v, assign (.Subscript (.Name x p1) ei pos) X.env v = (do
      let ov ← holding [v] (eval (.Name x p1) X.env)
      let iv ← holding [v, ov] (eval ei X.env)
      standAt pos
      holding [v, ov, iv] (setItem ov iv v)
      release [v, ov, iv] []) := by intro _; rfl) :
    PS X (.Assign [.Subscript (.Name x p1) ei pos] ev pos') (wS (gx X) i0 O O Ob (wStore fi fv)) :=
  (ps_asg he (pg_sub (pe_var hN hv hd hcd) hi set_list hass) hs hw h1).imp fun Dn σ H ⟨F0, H0, F, env, r, c, out, ok, hf, ho, q⟩ => by
    simp only [wStore] at ho
    obtain ⟨y, h1, ho⟩ := bind_some ho
    obtain ⟨o, h2, ho⟩ := bind_some ho
    obtain ⟨xi, h3, ho⟩ := bind_some ho
    obtain ⟨k, h4, ho⟩ := bind_some ho
    have e4 := toI_some h4
    subst e4
    obtain ⟨j, h9, h10⟩ := map_some ho
    subst h10
    refine ⟨F, env, y, ok.sok, h1, fun v F1 H1 g1 r1 => ⟨_, ok.rw, F1, env, _, ok.sok.gr g1, h3, fun w F2 H2 g2 r2 => ?_⟩⟩
    cases r2
    have gw := ok.of (g1.trans g2)
    refine ⟨r, c.map vO, k, j, rfl, rfl, gw.hr, by rw [List.length_map]; exact h9, ?_⟩
    have gu := gw.up (g := c.set j o) (vs := (c.map vO).set j v) (by rw [toO_rp h2 r1, List.map_set])
    exact q σ F2 _ (ok.gr gu) (hf.step gu.g) gu.ff
theorem wfor {tg iter : Expr} {body : List Stmt} {fi : SI} {g : SG} {fb : WS} {sl : List Nat} (hp : PassesOwn (model X.prog X.w) X.A X.env X.xe) (hc : X.calm = true) (hi : PI X tg iter (iV (gx X) O fi)) (hg : PG X tg (tG (gx X) O sl g)) (hb : PSs X body (wS (gx X) i0 O O O fb)) (hsl : ∀ i ∈ O, i ∉ sl := by decide) (h0 : i0 ∉ sl := by decide)
    (hs : ∀ x, foldedSetIterable iter X.env x = pure x := by intro _; rfl) : PS X (.For tg iter body [] pos) (wS (gx X) i0 O O Ob (wFor fi g fb)) :=
  (ps_for hp hc hi hg hb hs).imp fun D σ H ⟨F0, H0, F, env, r, c, out, ok, hf, ho, q⟩ => by
    simp only [wFor] at ho
    obtain ⟨ds, h1, ho⟩ := bind_some ho
    refine ⟨F, env, ds, ok.sok, h1, fun J F1 H1 gq hz hJ => ?_⟩
    have g1 := ok.of gq
    refine ⟨fun i m σ' H' => ∃ F' env' c', WOk (gx X) i0 O r c' F' H' σ' env' ∧ Fr F0 (hid r H0) O F' (hid r H') σ' ∧ Same F1 F' ∧ i ≤ ds.length ∧ m = ds.length - i ∧ wForGo g fb (ds.drop i) env' c' = some out,
      ⟨ds.length, F1, env, c, ok.gr g1, hf.step g1.g, Same.refl F1, Nat.zero_le _, by omega, ho⟩, ?_⟩
    rintro i m σ' H' ⟨F', env', c', s', f', k', hi, rfl, hgo⟩
    have hJ' := hJ i F' H' k' s'.sok.fh
    cases hd : ds[i]? with
    | none =>
      have hi' : ds.length ≤ i := List.getElem?_eq_none_iff.mp hd
      rw [List.drop_eq_nil_of_le hi'] at hgo
      cases hgo
      exact .inl ⟨hJ'.2 hd, q σ' F' H' s' f' (g1.ff.trans k')⟩
    | some x =>
      have hi' : i < ds.length := (List.getElem?_eq_some_iff.mp hd).1
      have hx : ds[i] = x := (List.getElem?_eq_some_iff.mp hd).2
      have hdr : ds.drop i = x :: ds.drop (i + 1) := by rw [List.drop_eq_getElem_cons hi', hx]
      rw [hdr] at hgo
      simp only [wForGo] at hgo
      obtain ⟨env1, hg1, hgo⟩ := bind_some hgo
      obtain ⟨o, hb1, hgo⟩ := bind_some hgo
      refine .inr ⟨(hJ'.1 x hd).1, fun σ2 H2 => ∃ F2 env2 c2, WOk (gx X) i0 O r c2 F2 H2 σ2 env2 ∧ Fr F0 (hid r H0) O F2 (hid r H2) σ2 ∧ Same F' F2 ∧ wForGo g fb (ds.drop (i + 1)) env2 c2 = some out, fun σ2 H2 h => ?_, fun v H2 hy => ?_⟩
      · obtain ⟨F2, env2, c2, s2, f2, k2, hg2⟩ := h
        exact ⟨ds.length - (i + 1), by omega, F2, env2, c2, s2, f2, k'.trans k2, hi', rfl, hg2⟩
      · obtain ⟨rfl, rv⟩ := (hJ'.1 x hd).2 v H2 hy
        refine ⟨F', env', x, env1, s'.sok, rv, hg1, fun σ2 s2 ln kp => ⟨F0, H0, F', env1, r, c', o, ⟨s2.rehid s'.fr s'.hr fun j hj p hp => s'.ne j hj p (by rw [← kp j (hsl j hj)]; exact hp), s'.fr, s'.hr, (kp i0 h0).trans s'.rw⟩, ⟨f'.gr, fun j hj p hp => f'.own j hj p (by rw [← kp j (hsl j hj)]; exact hp)⟩, hb1, ?_⟩⟩
        cases o with
        | nx e => exact fun σ3 F3 H3 s3 f3 k3 => ⟨F3, e, _, s3, f3, k3, hgo⟩
        | ct e => exact fun σ3 F3 H3 s3 f3 k3 => ⟨F3, e, _, s3, f3, k3, hgo⟩
        | bk e =>
          cases hgo
          exact fun σ3 F3 H3 s3 f3 k3 => q σ3 F3 H3 s3 f3 ((g1.ff.trans k').trans k3)
        | rt d =>
          cases hgo
          exact q
end
/-! ### defs -/
/-- a def whose code object is known -/
structure FunC (K : PySem.W.Frag) (x qual : Str) (st : Stmt) (f : Addr) (fd : FuncData) (cc : Addr) : Prop where
  ex : ∃ (oc : Value) (od : Option Addr) (kV doc pm : Value) (an : Option Addr) (ct : Value) (osl : Array (Option Value)),
    fd = PySem.W.fnOf x qual (defArgs st) (defBody st) (defScope st) .none kV doc pm an (.ref cc) ct ∧ K.lookup f = some ⟨oc, od, .func fd, osl⟩ ∧ PySem.W.codeIn K (.ref cc) qual = true
  kp : PySem.W.keepIn K (.ref f) = true
theorem FunC.f {K : PySem.W.Frag} {x qual : Str} {st : Stmt} {f : Addr} {fd : FuncData} {cc : Addr} (F : FunC K x qual st f fd cc) : Fun K x qual st f fd :=
  ⟨let ⟨oc, od, kV, doc, pm, an, ct, osl, h⟩ := F.ex; ⟨oc, od, kV, doc, pm, an, .ref cc, ct, osl, h⟩, F.kp⟩
theorem funC_mk {K : PySem.W.Frag} {x qual : Str} {st : Stmt} {f cc : Addr} {oc : Value} {od an : Option Addr} {osl : Array (Option Value)} {kV doc pm ct : Value} (l : K.lookup f = some ⟨oc, od, .func (PySem.W.fnOf x qual (defArgs st) (defBody st) (defScope st) .none kV doc pm an (.ref cc) ct), osl⟩)
    (c : PySem.W.codeIn K (.ref cc) qual = true) (k : PySem.W.keepIn K (.ref f) = true) : FunC K x qual st f (PySem.W.fnOf x qual (defArgs st) (defBody st) (defScope st) .none kV doc pm an (.ref cc) ct) cc := ⟨⟨oc, od, kV, doc, pm, an, ct, osl, rfl, l, c⟩, k⟩
section
variable {P : Program} {w : World} {G : Gx} {base : Heap}
theorem startW {N ps : List Str} {us : List V} {r : Addr} {ds : List D} {F H : Hp} {nl : Nat} (hN : N.length = ps.length + nl) (hps : ps.length = ds.length + 1) (sm : Fz G F H) (rp : RpAll G F us ds) : SOk G [] F H (L2.start N (us ++ [.ref r])) (ds.map some ++ List.replicate (1 + nl) none) := by
  have lv := rp.length
  refine ⟨sm.sm, ?_, fun i d e _ => ?_, fun i h => (by cases h), fun i h => (by cases h), sm.tb⟩
  · unfold L2.start
    simp only [List.length_append, List.length_map, List.length_replicate, List.length_singleton]
    omega
  · have hi : i < ds.length := by
      by_cases h : i < ds.length
      · exact h
      · rw [List.getElem?_append_right (by simpa using h), List.getElem?_replicate] at e
        split at e <;> cases e
    rw [List.getElem?_append_left (by simpa using hi), List.getElem?_map] at e
    cases q : ds[i]? with
    | none => rw [q] at e; cases e
    | some d' =>
      rw [q] at e
      cases e
      obtain ⟨v, h1, h2⟩ := rp.get q
      refine ⟨v, ?_, h2⟩
      unfold L2.start
      rw [List.getElem?_append_left (by simp; omega), List.getElem?_map, List.getElem?_append_left (by omega), h1]
      rfl
theorem runW_go {N ps : List Str} {n nl : Nat} {body : WS} {X : Cx} {vs : List V} {H : Hp} {Q : VK} {E : XK} (hN : N.length = ps.length + nl) (hps : ps.length = n + 1) (h : spW G n (runW n nl body) vs H Q E) : wS G n [] [] [] body { nx := fun _ H' => Q .non H', rt := Q } (L2.start N vs) H := by
  obtain ⟨F, r, c, us, ds, d, c', rfl, sm, fr, hr, rp, hl, hm, q⟩ := h
  simp only [runW, hl, if_pos rfl] at hm
  obtain ⟨out, h1, h2⟩ := bind_some hm
  have lu := rp.length
  refine ⟨F, H, F, _, r, c, out, ⟨startW hN (by omega) sm rp, fr, hr, ?_⟩, ⟨Gr.refl sm.sm, fun i h => by cases h⟩, h1, ?_⟩
  · unfold L2.start
    rw [List.getElem?_append_left (by simp; omega), List.getElem?_map, List.getElem?_append_right (by omega), lu, hl, Nat.sub_self]
    rfl
  · cases out with
    | nx e c1 =>
      cases h2
      exact fun σ' F' H' s' f' k' => q .non F' H' ⟨f'.gr, s'.fr, s'.hr⟩ .non
    | rt d' c1 =>
      cases h2
      exact q
    | bk e => cases h2
    | ct e => cases h2
theorem fnW {x qual : Str} {st : Stmt} {f : Addr} {fd : FuncData} {N ps : List Str} {k n nl : Nat} {body : WS} (Fn : Fun G.K x qual st f fd) (S : FnScope N ps (defScope st)) (hN : N.length = ps.length + nl) (hps : ps.length = n + 1)
    (hb : ∀ (cdv : Value) (A : Around) (outer : List PySem.Env) (s : Shared) (H : Hp) (E : XK), Room k (A.deeper (envOfC qual (defScope st) s.heap.objs.size f cdv)) →
      PSs (cxOf CX0 P w G.K G.mg base N qual (defScope st) f cdv A outer s H E).nox (defBody st) (wS G n [] [] [] body)) : FnOk P w G.K G.mg base CX0 (k + 1) f fd ps (spW G n (runW n nl body)) := by
  refine Fn.ok S (fun vs H Q E h => ?_) (fun cdv A outer s H vs Q E hr h => ⟨_, hb cdv A outer s H E hr, runW_go (X := cxOf CX0 P w G.K G.mg base N qual (defScope st) f cdv A outer s H E) hN hps h⟩)
  obtain ⟨F, r, c, us, ds, d, c', rfl, sm, fr, hr, rp, hl, _, _⟩ := h
  rw [List.length_append, rp.length, hl, hps]
  rfl
theorem fnWC {x qual : Str} {st : Stmt} {f cc : Addr} {fd : FuncData} {N ps : List Str} {k n nl : Nat} {body : WS} (Fn : FunC G.K x qual st f fd cc) (S : FnScope N ps (defScope st)) (hN : N.length = ps.length + nl) (hps : ps.length = n + 1)
    (hb : ∀ (A : Around) (outer : List PySem.Env) (s : Shared) (H : Hp) (E : XK), Room k (A.deeper (envOfC qual (defScope st) s.heap.objs.size f (.ref cc))) →
      PSs (cxOf CX0 P w G.K G.mg base N qual (defScope st) f (.ref cc) A outer s H E).nox (defBody st) (wS G n [] [] [] body)) : FnOk P w G.K G.mg base CX0 (k + 1) f fd ps (spW G n (runW n nl body)) := by
  obtain ⟨oc, od, kV, doc, pm, an, ct, osl, rfl, lk, hcd⟩ := Fn.ex
  refine fn_of lk hcd S (fun vs H Q E h => ?_) fun A outer s H vs Q E hr h => ⟨_, (hb A outer s H E hr).nox, runW_go (X := cxOf CX0 P w G.K G.mg base N qual (defScope st) f (.ref cc) A outer s H E) hN hps h⟩
  obtain ⟨F, r, c, us, ds, d, c', rfl, sm, fr, hr, rp, hl, _, _⟩ := h
  rw [List.length_append, rp.length, hl, hps]
  rfl
end
end TL

set_option Elab.async false
set_option linter.all false
set_option maxRecDepth 100000
/-! The tree layer: [x] * n; the end of a law whose defs hold generator expressions. -/
namespace TL
open PySem PySem.Spec PyProof.Rows L2
def okRepL (n : Nat) (k : Int) : Bool := Nat.ble n 1000 && Nat.ble k.natAbs 1000
def mulLD : D → D → Option D
  | .list a, .int k => if okRepL a.length k = true then some (.list (List.replicate k.toNat a).flatten) else none
  | _, _ => none
def iaddD : D → D → Option D
  | .int i, .int j => some (.int (i + j))
  | _, _ => none
theorem o_iaddI {X : Cx} : OpV X (inplaceOp .Add) iaddD := by
  intro pins s σ H x y v u Q I rx ry h
  obtain ⟨F, dx, dy, d, sm, bx, by_, hd, q⟩ := h
  cases dx <;> cases dy <;> first | (cases hd; done) | skip
  · have e1 := bx.int
    have e2 := by_.int
    subst e1 e2
    cases hd
    exact iop_add pins s σ H _ _ v u Q I rx ry ⟨_, _, rfl, rfl, q.same sm (.int _)⟩
section
variable {X : Cx} {O : List Nat} {a b : Expr} {fa fb : SE} {pos : Pos}
theorem emulL (ha : PE X a (rN (gx X) O fa)) (hb : PE X b (rV (gx X) O fb)) : PE X (.BinOp a .Mult b pos) (rN (gx X) O (e2 mulLD fa fb)) :=
  (pe_op op_rep ha hb).imp fun σ H Q ⟨F, env, d, hs, hf, q⟩ => by
    obtain ⟨x, y, h1, h2, h3⟩ := split2 hf
    refine ⟨F, env, x, hs, h1, fun p vs ds F1 H1 g1 e1 e2 e3 r e => ?_⟩
    subst e
    refine ⟨F1, env, y, hs.gr g1, h2, fun v F2 H2 g2 r2 => ?_⟩
    cases y with
    | int k =>
      cases r2
      simp only [mulLD] at h3
      split at h3
      · rename_i hz
        cases h3
        simp only [okRepL, Bool.and_eq_true, Nat.ble_eq] at hz
        have hl := r.length
        have hsz : (List.replicate k.toNat vs).flatten.length ≤ 1000000 := by
          rw [PyProof.Rows.lm_len_rep_flat, hl]
          have a1 : k.toNat * ds.length ≤ 1000 * 1000 := Nat.mul_le_mul (by omega) hz.1
          omega
        refine ⟨p, k, vs, rfl, rfl, g2.hh.l e3, by omega, by omega, ?_, fun p' hp => ?_⟩
        · have a1 : vs.length * k.toNat ≤ 1000 * 1000 := Nat.mul_le_mul (by omega) (by omega)
          rw [sizeLine_eq]
          omega
        · exact (q.gr (g1.trans g2)).newL g2.fh ((r.mono g2.ff).rep k.toNat) hp
      · cases h3
    | _ => cases h3
end
/-! ### generator expressions' scopes, by computing -/
theorem genOk_by {N : List Str} {sc scope : Scope} {own : List (Str × Nat)} (h : blkC N sc scope own = true) (h1 : scope.isCoroutine = false) (h2 : (scope.names.all fun y => match y.2 with | .cell => false | _ => true) = true)
    (h3 : (match scope.names.lookup (".0" : Str) with | some .local => true | _ => false) = true) : GenOk N sc scope own := by
  refine ⟨blkOk_by h, h1, fun y hy e => ?_, ?_⟩
  · have q := List.all_eq_true.mp h2 y hy
    rw [e] at q
    cases q
  · split at h3
    · assumption
    · cases h3
/-! ### the end -/
def noT (H : Hp) : Hp := fun p => match H p with
  | some (.tbl _) => none
  | o => o
theorem noT_le {H : Hp} : Same (noT H) H := fun b o e => by
  unfold noT at e
  split at e
  · cases e
  · exact e
theorem noT_seq {K : PySem.W.Frag} {H : Hp} {a : Addr} {xs : List V} (h : SqL K H a xs) : SqL K (noT H) a xs := by
  rcases h with (h | ⟨o, h⟩) | h
  · exact .inl (.inl (by unfold noT; rw [h]))
  · exact .inl (.inr ⟨o, by unfold noT; rw [h]⟩)
  · exact .inr h
theorem noT_tbl {H : Hp} {P : Addr} {ps : Array Value} (h : H P = some (.tbl ps)) : noT H P = none := by unfold noT; rw [h]
theorem tabIn_of {K : PySem.W.Frag} {x : Str} {f c P : Addr} {oc e : Value} {od dd : Option Addr} {fd : FuncData} {sl sl2 : Array (Option Value)} {vs : Array Value} (a : PySem.W.nsIn K mainGlobals x = some (some (.ref f))) (l : K.lookup f = some ⟨oc, od, .func fd, sl⟩) (hc : fd.code = .ref c)
    (z : K.lookup c = some ⟨e, dd, .fields vs, sl2⟩) (h11 : (vs[11]? : Option Value) = some (.ref P)) : PySem.W.tabIn K x = some (c, P) := by
  unfold PySem.W.tabIn
  simp only [a, l, hc, z, h11]
theorem tabIn_none {K : PySem.W.Frag} {x : Str} (a : PySem.W.nsIn K mainGlobals x = some none) : PySem.W.tabIn K x = none := by
  unfold PySem.W.tabIn
  simp only [a]
def TabsAtH (K : PySem.W.Frag) (names : List Str) (h : Heap) : Prop := ∀ y ∈ names, ∀ c P, PySem.W.tabIn K y = some (c, P) → PySem.W.CodeHd h c P ∧ h.get? P = some { cls := .none, data := .fields #[] }
theorem walk_tabs {l : PySem.W.OpenLaw} {n k : Nat} {q : Program} {loose : List Str} {XP : (Str → Option Value) → Heap → Prop} {YP : World → Heap → Prop} {d : DefRec} {K : Params → PySem.W.Frag} {CX : World → CXT} {x : Str} (names : List Str)
    (hn : l.most = some n) (hn2 : n ≤ sizeLine) (hdf : d.params.defaults = []) (hr : Room k callerA) (hrec : (names.all fun y => ((recsOf q).find? (fun e => e.name == y)).isSome) = true) (hY : ∀ (w : World) (h : Heap), YP w h → (K w.params).In h)
    (F : ∀ (w : World) (mg : Str → Option Value) (fa : Addr) (h : Heap), (K w.params).In h → h.Ns mainGlobals mg → mg d.name = some (.ref fa) → TabsAtH (K w.params) names h → LamX.LawAtS l w (K w.params) (CX w) k n x mg fa h)
    (hCX : ∀ (w : World) (H : Hp) (s : Shared) (e : Value) (s' : Shared), CX w [] H s (fun _ _ _ => False) e s' → False) :
    PySem.W.WalkO q loose XP YP l.row.toRowW d [] (fun f vs => PySem.call f vs) := by
  refine Att.attach_callB hn hdf fun w s₀ s₁ mg mb fa o pm cd doc a vs ns G Y ho hd hcd hmg hobj hints hlen hbits hg => ?_
  have KX := hY w _ Y
  have hT : TabsAtH (K w.params) names s₁.heap := fun y hy c P e => by
    have h1 := List.all_eq_true.mp hrec y hy
    obtain ⟨dL, h2⟩ := Option.isSome_iff_exists.mp h1
    exact PySem.W.tab_of G.T KX h2 e
  obtain ⟨fd, cs, sp, hT, nT, C, hb, hsp, hF⟩ := F w mg fa _ KX G.T.g hmg hT
  exact LamX.law_callTs KX G.T.g G.T.b G.T.builtins G.T.nolimit hg hT nT C G.T.bmain hobj hints (Nat.le_trans hlen hn2) hr hF hb (fun H hH hS => hsp H a ns hlen hbits hH hS) fun H e s' => hCX w H s₁ e s'
end TL

set_option Elab.async false
set_option linter.all false
set_option maxRecDepth 100000
/-! The tree layer: name = [.. for .. for ..] on one line. -/
namespace TL
open PySem PySem.Spec PyProof.Rows L2
section
variable {X : Cx} {O Ob : List Nat} {R : RK}
theorem ssetLN2 {y : Str} {py : Pos} {elt tg iter tg1 iter1 : Expr} {ifs ifs1 : List Expr} {scope : Scope} {own : List (Str × Nat)} {vs1 : List Nat} {pos spos : Pos} {fi fi1 : SI} {g g1 : SG} {c c1 : ST} {f : SE} {sl sl1 : List Nat} (i : Nat) (hc : X.calm = true) (hN : X.N.Nodup) (hsw : swapsWith (.ListComp elt [⟨tg, iter, ifs, 0⟩, ⟨tg1, iter1, ifs1, 0⟩] scope pos) (some (.Name y py)) spos.line X.env = pure true)
    (hi : PI X tg iter (iB (gx X) O fi)) (ok : BlkOk X.N X.env.scope scope own) (hv : ∀ i ∈ vs1, i ∈ own.map (·.2))
    (hg : ∀ (s : Shared) (H : Hp) (C : Addr) (cl : List (Str × Addr)) (fp : List Addr), PG (X.blk s H scope (compEnvC scope cl C X.env) fp) tg (tG (gx X) O sl g)) (ht : ∀ (s : Shared) (H : Hp) (C : Addr) (cl : List (Str × Addr)) (fp : List Addr), PTs (X.blk s H scope (compEnvC scope cl C X.env) fp) ifs (rT (gx X) O c))
    (hi1 : ∀ (s : Shared) (H : Hp) (C : Addr) (cl : List (Str × Addr)) (fp : List Addr), PI (X.blk s H scope (compEnvC scope cl C X.env) fp) tg1 iter1 (iV (gx X) O fi1))
    (hg1 : ∀ (s : Shared) (H : Hp) (C : Addr) (cl : List (Str × Addr)) (fp : List Addr), PG (X.blk s H scope (compEnvC scope cl C X.env) fp) tg1 (tG (gx X) O sl1 g1)) (ht1 : ∀ (s : Shared) (H : Hp) (C : Addr) (cl : List (Str × Addr)) (fp : List Addr), PTs (X.blk s H scope (compEnvC scope cl C X.env) fp) ifs1 (rT (gx X) O c1))
    (he : ∀ (s : Shared) (H : Hp) (C : Addr) (cl : List (Str × Addr)) (fp : List Addr), PE (X.blk s H scope (compEnvC scope cl C X.env) fp) elt (rV (gx X) O f)) (hO' : i ∉ O := by decide) (hy : X.N[i]? = some y := by rfl) (hyl : X.env.scope.names.lookup y = some .local := by rfl) (hsl : ∀ j ∈ sl, j ∈ own.map (·.2) := by decide) (hsl1 : ∀ j ∈ sl1, j ∈ vs1 := by decide) (hO : ∀ j ∈ own.map (·.2), j ∉ O := by decide) (hO1 : ∀ j ∈ vs1, j ∉ O := by decide)
    (hs : ∀ x, foldedSetIterable iter X.env x = pure x := by intro _; rfl) (hs1 : ∀ env x, foldedSetIterable iter1 env x = pure x := by intro _ _; rfl) :
    PS X (.Assign [.Name y py] (.ListComp elt [⟨tg, iter, ifs, 0⟩, ⟨tg1, iter1, ifs1, 0⟩] scope pos) spos) (sV (gx X) R O (i :: O) Ob (sAsg (eLc2 (own.map (·.2)) fi g c vs1 fi1 g1 c1 f) (TL.gName i))) :=
  (ps_ln (ps_setLc2 hc hN hy hyl hsw hi ok hv hg ht hi1 hg1 ht1 he hs hs1)).imp fun D σ H h hl => tAsg_new (fun Q q => lc2_read hsl hsl1 hO hO1 q) hO' (fun _ _ _ => ix_lt hl hy) h
end
end TL

set_option Elab.async false
set_option linter.all false
set_option maxRecDepth 100000
/-! The tree layer: sorted of tuples of ints, of tuples of tuples of ints, and so on. -/
namespace TL
open PySem PySem.Spec PyProof.Rows L2
/-- what k layers of tuples over ints hold -/
def TK : Nat → Type
  | 0 => Int
  | k + 1 => List (TK k)
instance decTK : (k : Nat) → DecidableEq (TK k)
  | 0 => inferInstanceAs (DecidableEq Int)
  | k + 1 => have := decTK k; inferInstanceAs (DecidableEq (List (TK k)))
def lexL {α : Type} (lt : α → α → Bool) : List α → List α → Bool
  | _, [] => false
  | [], _ :: _ => true
  | x :: xs, y :: ys => if lt x y = true then true else if lt y x = true then false else lexL lt xs ys
def ltT : (k : Nat) → TK k → TK k → Bool
  | 0 => fun (a b : Int) => decide (a < b)
  | k + 1 => lexL (ltT k)
def toT : (k : Nat) → TK k → D
  | 0 => fun i => .int i
  | k + 1 => fun l => .tuple (List.map (toT k) l)
def allO {α : Type} (f : D → Option α) : List D → Option (List α)
  | [] => some []
  | d :: ds => (f d).bind fun t => (allO f ds).map fun ts => t :: ts
def ofT : (k : Nat) → D → Option (TK k)
  | 0 => fun d => match d with | .int i => some i | _ => none
  | k + 1 => fun d => match d with | .tuple ds => allO (ofT k) ds | _ => none
def fullT (k : Nat) (ts : List (TK (k + 1))) : Bool := ts.all fun t => !@List.isEmpty (TK k) t
def sortK (k : Nat) (ds : List D) : Option (List D) := (allO (ofT (k + 1)) ds).bind fun ts => if (decide (ts.length < 2) || fullT k ts) = true then some ((isort (ltT (k + 1)) ts).map (toT (k + 1))) else none
def orO {α : Type} : Option α → Option α → Option α
  | some a, _ => some a
  | none, b => b
def sortKL (ds : List D) : Option (List D) := orO (sortL ds) (orO (sortK 0 ds) (orO (sortK 1 ds) (sortK 2 ds)))
def sortedKD : D → Option D
  | .list ds => (sortKL ds).map .list
  | .tuple ds => (sortKL ds).map .list
  | _ => none
theorem allO_get {k : Nat} (ih : ∀ {d : D} {t : TK k}, ofT k d = some t → d = toT k t) : ∀ {ds : List D} {ts : List (TK k)}, allO (ofT k) ds = some ts → ds = ts.map (toT k)
  | [], _, h => by cases h; rfl
  | d :: ds, ts, h => by
    simp only [allO] at h
    obtain ⟨t, h1, h2⟩ := bind_some h
    obtain ⟨ts', h3, h4⟩ := map_some h2
    subst h4
    rw [ih h1, allO_get ih h3]
    rfl
theorem ofT_get : ∀ {k : Nat} {d : D} {t : TK k}, ofT k d = some t → d = toT k t
  | 0, d, t, h => by
    cases d <;> first | (cases h; done) | skip
    cases h
    rfl
  | k + 1, d, t, h => by
    cases d <;> first | (cases h; done) | skip
    rename_i ds
    show PyData.tuple ds = .tuple (List.map (toT k) t)
    rw [allO_get ofT_get h]
theorem allO_map {α : Type} {f : D → Option α} {g : α → D} (h : ∀ a, f (g a) = some a) : ∀ l : List α, allO f (l.map g) = some l
  | [] => rfl
  | a :: l => by
    simp only [List.map_cons, allO, h a, allO_map h l, Option.bind_some, Option.map_some]
theorem ofT_to : ∀ (k : Nat) (t : TK k), ofT k (toT k t) = some t
  | 0, _ => rfl
  | k + 1, t => allO_map (ofT_to k) t
/-! order -/
theorem swo_lexL {α : Type} {lt : α → α → Bool} (O : SrtO.Swo lt) (anti : ∀ x y, lt x y = false → lt y x = false → x = y) : SrtO.Swo (lexL lt) := by
  have head : ∀ x y (xs ys : List α), lexL lt (x :: xs) (y :: ys) = true → lt x y = true ∨ (x = y ∧ lexL lt xs ys = true) := fun x y xs ys h => by
    simp only [lexL] at h
    by_cases h1 : lt x y = true
    · exact .inl h1
    · rw [if_neg h1] at h
      by_cases h2 : lt y x = true
      · rw [if_pos h2] at h; cases h
      · rw [if_neg h2] at h
        exact .inr ⟨anti x y (by simpa using h1) (by simpa using h2), h⟩
  have nohead : ∀ x y (xs ys : List α), lexL lt (x :: xs) (y :: ys) = false → lt y x = true ∨ (x = y ∧ lexL lt xs ys = false) := fun x y xs ys h => by
    simp only [lexL] at h
    by_cases h1 : lt x y = true
    · rw [if_pos h1] at h; cases h
    · rw [if_neg h1] at h
      by_cases h2 : lt y x = true
      · exact .inl h2
      · rw [if_neg h2] at h
        exact .inr ⟨anti x y (by simpa using h1) (by simpa using h2), h⟩
  have lt_no : ∀ x y (xs ys : List α), lt y x = true → lexL lt (x :: xs) (y :: ys) = false := fun x y xs ys h => by
    simp only [lexL]
    rw [if_neg (by rw [O.asym _ _ h]; decide), if_pos h]
  refine ⟨fun x => ?_, fun x => ?_⟩
  · induction x with
    | nil => intro y h; cases y <;> rfl
    | cons a x ih =>
      intro y h
      cases y with
      | nil => cases h
      | cons b y =>
        rcases head _ _ _ _ h with h1 | ⟨rfl, h1⟩
        · exact lt_no _ _ _ _ h1
        · simp only [lexL]
          rw [if_neg (by rw [O.refl]; decide), if_neg (by rw [O.refl]; decide)]
          exact ih _ h1
  · induction x with
    | nil =>
      intro y z h1 h2
      cases z <;> rfl
    | cons a x ih =>
      intro y z h1 h2
      cases y with
      | nil => cases h1
      | cons b y =>
        cases z with
        | nil => cases h2
        | cons c z =>
          rcases nohead _ _ _ _ h1 with q1 | ⟨rfl, q1⟩
          · rcases nohead _ _ _ _ h2 with q2 | ⟨rfl, q2⟩
            · exact lt_no _ _ _ _ (O.ltle q1 (O.asym _ _ q2))
            · exact lt_no _ _ _ _ q1
          · rcases nohead _ _ _ _ h2 with q2 | ⟨rfl, q2⟩
            · exact lt_no _ _ _ _ q2
            · simp only [lexL]
              rw [if_neg (by rw [O.refl]; decide), if_neg (by rw [O.refl]; decide)]
              exact ih _ _ q1 q2
theorem anti_lexL {α : Type} {lt : α → α → Bool} (anti : ∀ x y, lt x y = false → lt y x = false → x = y) : ∀ xs ys : List α, lexL lt xs ys = false → lexL lt ys xs = false → xs = ys
  | [], [], _, _ => rfl
  | [], _ :: _, h, _ => by cases h
  | _ :: _, [], _, h => by cases h
  | x :: xs, y :: ys, h1, h2 => by
    simp only [lexL] at h1 h2
    by_cases e1 : lt x y = true
    · rw [if_pos e1] at h1; cases h1
    by_cases e2 : lt y x = true
    · rw [if_pos e2] at h2; cases h2
    rw [if_neg e1, if_neg e2] at h1
    rw [if_neg e2, if_neg e1] at h2
    rw [anti x y (by simpa using e1) (by simpa using e2), anti_lexL anti xs ys h1 h2]
theorem swo0 : SrtO.Swo (fun (x y : Int) => decide (x < y)) ∧ ∀ x y : Int, decide (x < y) = false → decide (y < x) = false → x = y :=
  ⟨⟨fun x y h => decide_eq_false (by have := of_decide_eq_true h; omega), fun x y z h1 h2 => decide_eq_false (by
      have := of_decide_eq_false h1
      have := of_decide_eq_false h2
      omega)⟩, fun x y h1 h2 => by
      have := of_decide_eq_false h1
      have := of_decide_eq_false h2
      omega⟩
theorem swoT : ∀ k, SrtO.Swo (ltT k) ∧ ∀ x y, ltT k x y = false → ltT k y x = false → x = y
  | 0 => swo0
  | k + 1 => ⟨swo_lexL (swoT k).1 (swoT k).2, anti_lexL (swoT k).2⟩
theorem sorted_K {k : Nat} {ts : List (TK (k + 1))} (hk : k ≤ 2) (h : ts.length < 2 ∨ fullT k ts = true) : sortK k (ts.map (toT (k + 1))) = some ((isort (ltT (k + 1)) ts).map (toT (k + 1))) := by
  unfold sortK
  rw [allO_map (ofT_to (k + 1)), Option.bind_some, if_pos (by
    rcases h with h | h
    · rw [decide_eq_true h]; rfl
    · rw [h, Bool.or_true])]
/-! values -/
def eqT (k : Nat) (x y : TK k) : Bool := decide (x = y)
theorem eqT_iff {k : Nat} {x y : TK k} : eqT k x y = true ↔ x = y := decide_eq_true_iff
theorem eqT_no {k : Nat} {x y : TK k} : eqT k x y = false ↔ ¬ x = y := decide_eq_false_iff_not
theorem eqT_refl {k : Nat} (x : TK k) : eqT k x x = true := eqT_iff.mpr rfl
def rdT (h : Heap) : (k : Nat) → Value → TK k
  | 0 => fun v => match v with | .int i _ => i | _ => (0 : Int)
  | k + 1 => fun v => match v with
    | .ref a => match h.get? a with
      | some o => match o.data with
        | .seq its _ => List.map (rdT h k) its.toList
        | _ => ([] : List (TK k))
      | none => ([] : List (TK k))
    | _ => ([] : List (TK k))
def IsTK (h : Heap) : Nat → Value → Prop
  | 0, v => ∃ i t, v = .int i t
  | k + 1, v => ∃ a its, v = .ref a ∧ h.IsTuple a its ∧ ∀ u ∈ its.toList, IsTK h k u
theorem rdT_tup {h : Heap} {k : Nat} {a : Addr} {its : Array Value} (ht : h.IsTuple a its) : rdT h (k + 1) (.ref a) = List.map (rdT h k) its.toList := by
  obtain ⟨o, h1, h2, n, h3⟩ := ht
  simp only [rdT, h1, h3]
  rfl
theorem IsTK.keeps {h h' : Heap} (kp : ∀ b o, h.get? b = some o → o.cls = .type "tuple" → h'.get? b = some o) : ∀ {k : Nat} {v : Value}, IsTK h k v → IsTK h' k v ∧ rdT h' k v = rdT h k v
  | 0, _, ⟨i, t, e⟩ => ⟨⟨i, t, e⟩, by rw [e]; rfl⟩
  | k + 1, _, ⟨a, its, e, ht, hu⟩ => by
    have ht' : h'.IsTuple a its := by
      obtain ⟨o, h1, h2, n, h3⟩ := ht
      exact ⟨o, kp _ _ h1 h2, h2, n, h3⟩
    subst e
    refine ⟨⟨a, its, rfl, ht', fun u m => (IsTK.keeps kp (hu u m)).1⟩, ?_⟩
    rw [rdT_tup ht, rdT_tup ht']
    exact List.map_congr_left fun u m => (IsTK.keeps kp (hu u m)).2
theorem lexAt_lexL {k : Nat} : ∀ (m i : Nat) (xs ys : List (TK k)), min xs.length ys.length - i = m → i ≤ min xs.length ys.length →
    Ob.lexAt (fun j => decide (xs[j]? = ys[j]?)) (fun j => match xs[j]?, ys[j]? with | some x, some y => ltT k x y | _, _ => false) (decide (xs.length < ys.length)) i m = lexL (ltT k) (xs.drop i) (ys.drop i)
  | 0, i, xs, ys, h, hi => by
    rw [Ob.lexAt_zero]
    by_cases hx : i < xs.length
    · have hy : ys.length ≤ i := by omega
      rw [List.drop_eq_nil_of_le hy, decide_eq_false (by omega)]
      cases xs.drop i <;> rfl
    · rw [List.drop_eq_nil_of_le (Nat.le_of_not_lt hx)]
      by_cases hy : i < ys.length
      · rw [List.drop_eq_getElem_cons hy, decide_eq_true (by omega)]
        rfl
      · rw [List.drop_eq_nil_of_le (Nat.le_of_not_lt hy), decide_eq_false (by omega)]
        rfl
  | m + 1, i, xs, ys, h, hi => by
    have hx : i < xs.length := by omega
    have hy : i < ys.length := by omega
    rw [Ob.lexAt_succ, lexAt_lexL m (i + 1) xs ys (by omega) (by omega), List.drop_eq_getElem_cons hx, List.drop_eq_getElem_cons hy]
    simp only [List.getElem?_eq_getElem hx, List.getElem?_eq_getElem hy, lexL, Option.some.injEq, decide_eq_true_eq]
    obtain ⟨O, anti⟩ := swoT k
    by_cases e : xs[i] = ys[i]
    · rw [if_pos e, e, if_neg (by rw [O.refl]; decide), if_neg (by rw [O.refl]; decide)]
    · rw [if_neg e]
      by_cases h1 : ltT k xs[i] ys[i] = true
      · rw [if_pos h1, h1]
      · rw [if_neg h1]
        by_cases h2 : ltT k ys[i] xs[i] = true
        · rw [if_pos h2]
          simpa using h1
        · exact absurd (anti _ _ (by simpa using h1) (by simpa using h2)) e
theorem range_eq {k : Nat} {xs ys : List (TK k)} : ((List.range (min xs.length ys.length)).all (fun j => decide (xs[j]? = ys[j]?)) && xs.length == ys.length) = eqT (k + 1) xs ys := by
  rw [Bool.eq_iff_iff, Bool.and_eq_true, List.all_eq_true, beq_iff_eq]
  refine Iff.trans ?_ (eqT_iff (k := k + 1)).symm
  refine ⟨fun ⟨h1, h2⟩ => List.ext_getElem? fun i => ?_, fun e => by subst e; exact ⟨fun j _ => decide_eq_true rfl, rfl⟩⟩
  by_cases hi : i < xs.length
  · exact of_decide_eq_true (h1 i (List.mem_range.mpr (by omega)))
  · rw [List.getElem?_eq_none (by omega), List.getElem?_eq_none (by omega)]
theorem cmpT {s : Shared} : ∀ {k : Nat} {A : Around} {v u : Value}, A.units + k < cLine → IsTK s.heap k v → IsTK s.heap k u → SeqAt.EqAt A s v u (eqT k (rdT s.heap k v) (rdT s.heap k u)) ∧ Ob.RcOp .Lt A s v u (ltT k (rdT s.heap k v) (rdT s.heap k u))
  | 0, A, v, u, hu, ⟨i, t, e⟩, ⟨j, t', e'⟩ => by
    subst e e'
    have z : (i == j) = eqT 0 (rdT s.heap 0 (.int i t)) (rdT s.heap 0 (.int j t')) := by
      rw [Bool.eq_iff_iff, beq_iff_eq, eqT_iff]
      exact Iff.rfl
    rw [← z]
    have y : ltT 0 (rdT s.heap 0 (.int i t)) (rdT s.heap 0 (.int j t')) = decide (i < j) := rfl
    rw [y]
    exact ⟨SeqAt.EqAt.int_int _ _ _ _, Ob.RcOp.lt_int i j t t'⟩
  | k + 1, A, v, u, hu, ⟨a, its, e, ht, hi⟩, ⟨b, its2, e', ht', hi'⟩ => by
    subst e e'
    rw [rdT_tup ht, rdT_tup ht']
    have hu1 : A.in1.units + k < cLine := by show A.units + 1 + k < cLine; omega
    have hz1 : (List.map (rdT s.heap k) its.toList).length = its.size := by simp
    have hz2 : (List.map (rdT s.heap k) its2.toList).length = its2.size := by simp
    have at1 : ∀ j (h1 : j < its.size), (List.map (rdT s.heap k) its.toList)[j]? = some (rdT s.heap k its[j]) := fun j h1 => by
      rw [List.getElem?_map, List.getElem?_eq_getElem (by simpa using h1)]
      simp
    have at2 : ∀ j (h1 : j < its2.size), (List.map (rdT s.heap k) its2.toList)[j]? = some (rdT s.heap k its2[j]) := fun j h1 => by
      rw [List.getElem?_map, List.getElem?_eq_getElem (by simpa using h1)]
      simp
    have c : ∀ j (h1 : j < its.size) (h2 : j < its2.size), SeqAt.EqAt A.in1 s its[j] its2[j] (eqT k (rdT s.heap k its[j]) (rdT s.heap k its2[j])) ∧ Ob.RcOp .Lt A.in1 s its[j] its2[j] (ltT k (rdT s.heap k its[j]) (rdT s.heap k its2[j])) := fun j h1 h2 =>
      cmpT hu1 (hi _ (by simp)) (hi' _ (by simp))
    have he : ∀ j (h1 : j < its.size) (h2 : j < its2.size), SeqAt.EqAt A.in1 s its[j] its2[j] (decide ((List.map (rdT s.heap k) its.toList)[j]? = (List.map (rdT s.heap k) its2.toList)[j]?)) := fun j h1 h2 => by
      rw [at1 j h1, at2 j h2]
      have z : decide (some (rdT s.heap k its[j]) = some (rdT s.heap k its2[j])) = eqT k (rdT s.heap k its[j]) (rdT s.heap k its2[j]) := decide_eq_decide.mpr ⟨fun e => Option.some.inj e, fun e => by rw [e]⟩
      rw [z]
      exact (c j h1 h2).1
    refine ⟨?_, ?_⟩
    · by_cases hab : a = b
      · subst hab
        have : its = its2 := by
          obtain ⟨o, h1, _, n, h3⟩ := ht
          obtain ⟨o', h1', _, n', h3'⟩ := ht'
          rw [h1] at h1'
          cases h1'
          rw [h3] at h3'
          cases h3'
          rfl
        subst this
        have z := eqT_refl (k := k + 1) (List.map (rdT s.heap k) its.toList)
        exact z.symm ▸ SeqAt.EqAt.same _
      · refine SeqAt.EqAt.of_refs hab ?_
        have R := SeqAt.RcAt.tuples ht ht' (show A.units < cLine by omega) he
        rw [← hz1, ← hz2, range_eq] at R
        exact R
    · have R := Ob.RcOp.tuples_lt (r := fun j => match (List.map (rdT s.heap k) its.toList)[j]?, (List.map (rdT s.heap k) its2.toList)[j]? with | some x, some y => ltT k x y | _, _ => false) ht ht' (show A.units < cLine by omega) he fun j h1 h2 _ => by
        rw [at1 j h1, at2 j h2]
        exact (c j h1 h2).2
      rw [← hz1, ← hz2, lexAt_lexL _ 0 _ _ (by omega) (by omega)] at R
      exact R
/-! the sort's own comparison -/
theorem lex_T {prog : Program} {w : World} {A : Around} {s : Shared} {b : Bool} {k : Nat} (hu : A.units + k < cLine) (hb : b = true → k = 0) {Q : Bool → Shared → Prop} : ∀ (i : Nat) {xs ys : List Value}, (∀ v ∈ xs, IsTK s.heap k v) → (∀ v ∈ ys, IsTK s.heap k v) →
    Q (lexL (ltT k) (xs.map (rdT s.heap k)) (ys.map (rdT s.heap k))) s → PySem.W.KatLex prog w A b (decide (xs.length < ys.length)) Q (xs.zip ys) i s
  | i, [], [], _, _, h => PySem.W.kat_nil h
  | i, [], _ :: _, _, _, h => PySem.W.kat_nil (by rw [decide_eq_true (by simp)]; exact h)
  | i, _ :: _, [], _, _, h => PySem.W.kat_nil (by rw [decide_eq_false (by simp)]; exact h)
  | i, x :: xs, y :: ys, h1, h2, h => by
    obtain ⟨O, anti⟩ := swoT k
    have hx := h1 x List.mem_cons_self
    have hy := h2 y List.mem_cons_self
    have c := cmpT hu hx hy
    simp only [List.map_cons, lexL] at h
    refine PySem.W.kat_cons (c.1 prog w _ _ ?_)
    refine PySem.W.kat_go (fun e => ?_) (fun e => ?_)
    · have e := eqT_iff.mp e
      rw [e, if_neg (by rw [O.refl]; decide), if_neg (by rw [O.refl]; decide)] at h
      refine PySem.W.kat_yes ?_
      have : decide ((x :: xs).length < (y :: ys).length) = decide (xs.length < ys.length) := decide_eq_decide.mpr (by simp)
      rw [this]
      exact lex_T hu hb (i + 1) (fun v m => h1 v (List.mem_cons_of_mem _ m)) (fun v m => h2 v (List.mem_cons_of_mem _ m)) h
    · have e := eqT_no.mp e
      have hq : Q (ltT k (rdT s.heap k x) (rdT s.heap k y)) s := by
        by_cases q1 : ltT k (rdT s.heap k x) (rdT s.heap k y) = true
        · rw [if_pos q1] at h
          rw [q1]
          exact h
        · rw [if_neg q1] at h
          by_cases q2 : ltT k (rdT s.heap k y) (rdT s.heap k x) = true
          · rw [if_pos q2] at h
            have : ltT k (rdT s.heap k x) (rdT s.heap k y) = false := by simpa using q1
            rw [this]
            exact h
          · exact absurd (anti _ _ (by simpa using q1) (by simpa using q2)) e
      refine PySem.W.kat_no ?_
      cases b with
      | false =>
        rw [Bool.false_and]
        exact PySem.W.kat_one _ _ (c.2 prog w _ _ hq)
      | true =>
        have hk := hb rfl
        subst hk
        obtain ⟨i1, t1, rfl⟩ := hx
        obtain ⟨i2, t2, rfl⟩ := hy
        exact TS.oneLt_ints _ hq
theorem kind_T {k : Nat} : (Value.type (if k = 0 then "int" else "tuple") != Value.type "tuple") = decide (k = 0) := by
  by_cases h : k = 0
  · subst h
    first | decide +kernel | rfl
  · rw [if_neg h, decide_eq_false h]
    first | decide +kernel | rfl
theorem firsts_T {h : Heap} {k : Nat} : ∀ {vs : List Value}, (∀ v ∈ vs, IsTK h (k + 1) v) → (∀ v ∈ vs, rdT h (k + 1) v ≠ ([] : List (TK k))) → ∃ fs, PySem.W.KatTups h vs fs ∧ fs.length = vs.length ∧ ∀ f ∈ fs, IsTK h k f
  | [], _, _ => ⟨[], PySem.W.KatTups.nil, rfl, fun f h => by cases h⟩
  | v :: vs, h1, h2 => by
    obtain ⟨fs, k1, k2, k3⟩ := firsts_T (vs := vs) (fun u m => h1 u (List.mem_cons_of_mem _ m)) fun u m => h2 u (List.mem_cons_of_mem _ m)
    obtain ⟨a, its, rfl, ht, hi⟩ := h1 v List.mem_cons_self
    have hne := h2 _ List.mem_cons_self
    rw [rdT_tup ht] at hne
    obtain ⟨o, ho, hc, n, hd⟩ := ht
    cases hl : its.toList with
    | nil => exact absurd (by rw [hl]; rfl) hne
    | cons y ys =>
      refine ⟨y :: fs, PySem.W.KatTups.cons ho hc hd ?_ k1, by rw [List.length_cons, List.length_cons, k2], fun f hf => ?_⟩
      · have z := congrArg (fun l : List Value => l[0]?) hl
        simpa using z
      · rcases List.mem_cons.mp hf with rfl | hf
        · exact hi _ (by rw [hl]; exact List.mem_cons_self)
        · exact k3 f hf
theorem sortable_T {prog : Program} {w : World} {A : Around} {s : Shared} {a : Addr} {vs : List Value} {k : Nat} (hu : A.units + k < cLine) (h0 : 0 < vs.length) (hp : ∀ v ∈ vs, IsTK s.heap (k + 1) v) (hn : ∀ v ∈ vs, rdT s.heap (k + 1) v ≠ ([] : List (TK k))) (ha : ∀ o, s.heap.get? a = some o → o.cls ≠ .type "tuple") : SrtO.SortableO prog w A s a vs fun v u => ltT (k + 1) (rdT s.heap (k + 1) v) (rdT s.heap (k + 1) u) := by
  intro h' keep
  have kp : ∀ b o, s.heap.get? b = some o → o.cls = .type "tuple" → h'.get? b = some o := fun b o e c => keep b o (fun z => by subst z; exact ha o e c) e
  have hp' : ∀ v ∈ vs, IsTK h' (k + 1) v := fun v hm => ((hp v hm).keeps kp).1
  have hr' : ∀ v ∈ vs, rdT h' (k + 1) v = rdT s.heap (k + 1) v := fun v hm => ((hp v hm).keeps kp).2
  obtain ⟨fs, h1, h2, h3⟩ := firsts_T hp' fun v hm => by rw [hr' v hm]; exact hn v hm
  refine ⟨tuples' (decide (k = 0)), fun Q E hq => ?_, fun p q hm hm' => ?_⟩
  · refine PySem.W.kat_kind (T := .type (if k = 0 then "int" else "tuple")) h1 (by omega) (fun f hm => ?_) (by by_cases hk : k = 0 <;> simp [hk]) (by rw [kind_T]; exact hq)
    have hf := h3 f hm
    match k, hf with
    | 0, hf =>
      obtain ⟨x, t, rfl⟩ := hf
      exact PySem.W.Looks.now
    | k + 1, hf =>
      obtain ⟨b, its, rfl, ⟨o, ho, hc, _⟩, _⟩ := hf
      rw [if_neg (by omega), ← hc]
      exact (PySem.W.Looks.ld ho).andThen .now
  · obtain ⟨b, its, e, ⟨o, ho, hc, n, hd⟩, hi⟩ := hp' _ hm
    obtain ⟨b', its', e', ⟨o', ho', hc', n', hd'⟩, hi'⟩ := hp' _ hm'
    have q1 := hr' _ hm
    have q2 := hr' _ hm'
    show wpAny (model prog w) A (keyLt' (tuples' (decide (k = 0))) p.1 q.1) (fun r s' => s' = _ ∧ r = ltT (k + 1) (rdT s.heap (k + 1) p.1) (rdT s.heap (k + 1) q.1)) (fun _ _ => False) _
    rw [← q1, ← q2, e, e']
    refine PySem.W.kat_lt ho hd ho' hd' ?_
    have sz : decide (its.size < its'.size) = decide (its.toList.length < its'.toList.length) := by simp
    rw [sz]
    refine lex_T (k := k) hu (fun hb => of_decide_eq_true hb) 0 hi hi' ⟨rfl, ?_⟩
    rw [rdT_tup ⟨o, ho, hc, n, hd⟩, rdT_tup ⟨o', ho', hc', n', hd'⟩]
    rfl
section
variable {X : Cx}
theorem rp_vals {pins : List (Addr × Obj)} {s : Shared} {σ : L2.St} {F H : Hp} (I : Inv X pins σ H s) (sm : Same F H) : ∀ {k : Nat} {t : TK k} {v : V} {u : Value}, Rp (gx X) F v (toT k t) → RelV v u → IsTK s.heap k u ∧ rdT s.heap k u = t
  | 0, t, v, u, h, rv => by
    cases h
    obtain ⟨tk, rfl⟩ := rv
    exact ⟨⟨_, _, rfl⟩, rfl⟩
  | k + 1, t, v, u, h, rv => by
    have aux : ∀ {ts : List (TK k)} {xs : List V} {its : List Value}, RpAll (gx X) F xs (ts.map (toT k)) → Vals xs its → (∀ w ∈ its, IsTK s.heap k w) ∧ its.map (rdT s.heap k) = ts := by
      intro ts
      induction ts with
      | nil =>
        intro xs its r w
        cases r
        cases w
        exact ⟨fun w h => (by cases h), rfl⟩
      | cons t ts ih =>
        intro xs its r w
        cases r with
        | cons r1 r2 =>
          cases w with
          | cons w1 w2 =>
            obtain ⟨a1, a2⟩ := rp_vals I sm r1 w1
            obtain ⟨b1, b2⟩ := ih r2 w2
            refine ⟨fun z hz => ?_, by rw [List.map_cons, a2, b2]⟩
            rcases List.mem_cons.mp hz with rfl | hz
            · exact a1
            · exact b1 z hz
    have h : Rp (gx X) F v (.tuple (List.map (toT k) t)) := h
    cases h with
    | @tup a xs _ hs ha =>
      cases rv
      obtain ⟨its, r2, ht, _⟩ := I.tuple (sameT sm hs)
      obtain ⟨h1, h2⟩ := aux ha r2
      have ht' : s.heap.IsTuple a its.toArray := ht
      refine ⟨⟨a, its.toArray, rfl, ht', by simpa using h1⟩, ?_⟩
      rw [rdT_tup ht', show its.toArray.toList = its by simp]
      exact h2
theorem rps_vals {pins : List (Addr × Obj)} {s : Shared} {σ : L2.St} {F H : Hp} (I : Inv X pins σ H s) (sm : Same F H) {k : Nat} : ∀ {ts : List (TK k)} {xs : List V} {its : List Value}, RpAll (gx X) F xs (ts.map (toT k)) → Vals xs its →
    its.map (rdT s.heap k) = ts ∧ (∀ w ∈ its, IsTK s.heap k w) ∧ ∀ w ∈ its, ∃ v, RelV v w ∧ Rp (gx X) F v (toT k (rdT s.heap k w))
  | [], _, _, .nil, .nil => ⟨rfl, fun w h => (by cases h), fun w h => (by cases h)⟩
  | t :: ts, _, _, .cons r1 r2, .cons w1 w2 => by
    obtain ⟨a1, a2⟩ := rp_vals I sm r1 w1
    obtain ⟨b1, b2, b3⟩ := rps_vals I sm r2 w2
    refine ⟨by rw [List.map_cons, a2, b1], fun z hz => ?_, fun z hz => ?_⟩
    · rcases List.mem_cons.mp hz with rfl | hz
      · exact a1
      · exact b2 z hz
    · rcases List.mem_cons.mp hz with rfl | hz
      · exact ⟨_, w1, by rw [a2]; exact r1⟩
      · exact b3 z hz
theorem sorted_coreK {pins : List (Addr × Obj)} {s : Shared} {σ : L2.St} {F H : Hp} {p : Addr} {vs : List V} {its : List Value} {ds es : List D} {Q : VK} {T : String} {o : Obj} {n k : Nat} (hu : X.A.units + 64 < cLine) (hk : k ≤ 2) (I : Inv X pins σ H s) (sm : Same F H) (hT : T = "list" ∨ T = "tuple") (ho : s.heap.get? p = some o) (hc : o.cls = .type T) (hd : o.data = .seq its.toArray n)
    (rv : Vals vs its) (hz : vs.length ≤ sizeLine) (r' : RpAll (gx X) F vs ds) (hs : sortK k ds = some es) (q : kN (gx X) F H (.list es) Q) : wpAny (model X.prog X.w) X.A (call (.builtin "sorted") [.ref p]) (EP X pins σ Q) X.xe s := by
  unfold sortK at hs
  obtain ⟨ts, h1, h2⟩ := bind_some hs
  have ed := allO_get (k := k + 1) ofT_get h1
  subst ed
  split at h2
  case isFalse => cases h2
  rename_i hfull
  cases h2
  obtain ⟨k1, k2, k3⟩ := rps_vals I sm r' rv
  obtain ⟨O, anti⟩ := swoT (k + 1)
  have Ov : SrtO.Swo fun v u : Value => ltT (k + 1) (rdT s.heap (k + 1) v) (rdT s.heap (k + 1) u) := ⟨fun x y h => O.asym _ _ h, fun x y z h1 h2 => O.tr _ _ _ h1 h2⟩
  have hlen : its.length = ts.length := by rw [← k1, List.length_map]
  refine SX.sorted_seq Ov hT ho hc hd (by rw [← rv.length]; exact hz) (fun h2 h₁ a ha kk => ?_) fun out h1 h2 => ?_
  · have kp : ∀ b o, s.heap.get? b = some o → o.cls = .type "tuple" → h₁.get? b = some o := fun b o e _ => (kk b o e).2
    have hr : ∀ v ∈ its, rdT h₁ (k + 1) v = rdT s.heap (k + 1) v := fun v hm => ((k2 v hm).keeps kp).2
    have S := sortable_T (prog := X.prog) (w := X.w) (A := X.A.in1.in1) (s := { s with heap := h₁ }) (a := a) (vs := its) (k := k) (by show X.A.units + 1 + 1 + k < cLine; omega) (by omega) (fun v hm => ((k2 v hm).keeps kp).1) (fun v hm => by
      rw [hr v hm]
      have hf : fullT k ts = true := by
        rcases Bool.or_eq_true_iff.mp hfull with z | z
        · have := of_decide_eq_true z
          omega
        · exact z
      have m : rdT s.heap (k + 1) v ∈ ts := by rw [← k1]; exact List.mem_map_of_mem hm
      have := List.all_eq_true.mp hf _ m
      intro e
      rw [e] at this
      cases this) (fun o e => by
      have e' : some o = some (seqObj "list" its.toArray 0) := e.symm.trans ha
      cases e'
      intro c
      exact absurd (Value.type.inj c) (by decide))
    intro h' keep
    obtain ⟨κ, s1, s2⟩ := S h' keep
    refine ⟨κ, s1, fun p q hm hm' => ?_⟩
    have := s2 p q hm hm'
    simp only [SrtO.lt2] at this ⊢
    rw [hr _ hm, hr _ hm'] at this
    exact this
  · have hmem : ∀ u ∈ out, u ∈ its := fun u hu => h2.perm.mem_iff.mp hu
    have rel : ∀ l : List Value, (∀ u ∈ l, u ∈ its) → ∃ ws, Vals ws l ∧ RpAll (gx X) F ws ((l.map (rdT s.heap (k + 1))).map (toT (k + 1))) := by
      intro l
      induction l with
      | nil => exact fun _ => ⟨[], .nil, .nil⟩
      | cons u l ih =>
        intro hu
        obtain ⟨ws, w1, w2⟩ := ih fun v hv => hu v (List.mem_cons_of_mem _ hv)
        obtain ⟨v, v1, v2⟩ := k3 u (hu u List.mem_cons_self)
        exact ⟨v :: ws, .cons v1 w1, .cons v2 w2⟩
    obtain ⟨ws, w1, w2⟩ := rel out hmem
    have e : out.map (rdT s.heap (k + 1)) = isort (ltT (k + 1)) ts := by
      refine asc_uniq anti ?_ ?_ (isort_asc O ts)
      · have := h2.perm.map (rdT s.heap (k + 1))
        rw [k1] at this
        exact this.trans (isort_perm ts).symm
      · exact List.pairwise_map.mpr (h1.imp fun h => h)
    rw [e] at w2
    obtain ⟨ep, he'⟩ := PyProof.Rows.sortedAll_at s.heap its out.toArray
    refine ⟨.ref _, upd H (s.heap.objs.size + 1) (.lst ws), I.laid (t' := s.toks) (fun _ _ => PyProof.Rows.sortedAll_old) (Nat.le_succ _) ⟨?_, out, ep, w1, he'⟩, rfl, q.newL sm w2 (I.hok.fresh (Nat.le_succ _))⟩
    rw [w1.length, h2.perm.length_eq, ← rv.length]
    exact hz
theorem orO_of {α : Type} {a b : Option α} {c : α} (h : orO a b = some c) : a = some c ∨ b = some c := by
  cases a with
  | none => exact .inr h
  | some x => cases h; exact .inl rfl
theorem c_sortedK (hu : X.A.units + 64 < cLine) : CalN X (.builtin "sorted") sortedKD := by
  intro pins s σ H xs us Q I r h
  obtain ⟨F, x, dx, d, rfl, sm, bx, hd, q⟩ := h
  have split : ∀ {ds es : List D}, sortKL ds = some es → sortL ds = some es ∨ ∃ k, k ≤ 2 ∧ sortK k ds = some es := fun h => by
    rcases orO_of h with h | h
    · exact .inl h
    · rcases orO_of h with h | h
      · exact .inr ⟨0, by decide, h⟩
      · rcases orO_of h with h | h
        · exact .inr ⟨1, by decide, h⟩
        · exact .inr ⟨2, by decide, h⟩
  cases dx with
  | list ds =>
    obtain ⟨p, vs, rfl, hl, r'⟩ := bx.lst sm
    obtain ⟨es, h1, h2⟩ := map_some hd
    subst h2
    obtain ⟨its, rv, hL, hz⟩ := I.list hl
    obtain ⟨o, ho, hc, n, hd'⟩ := hL.isList
    rw [Vals.ref1 r]
    rcases split h1 with h1 | ⟨k, hk, h1⟩
    · exact sorted_core I sm (.inl rfl) ho hc hd' rv hz r' h1 q
    · exact sorted_coreK hu hk I sm (.inl rfl) ho hc hd' rv hz r' h1 q
  | tuple ds =>
    obtain ⟨p, vs, rfl, _, hl, r'⟩ := bx.tup sm
    obtain ⟨es, h1, h2⟩ := map_some hd
    subst h2
    obtain ⟨its, rv, hT, hz⟩ := I.tuple hl
    obtain ⟨o, ho, hc, n, hd'⟩ := hT
    rw [Vals.ref1 r]
    rcases split h1 with h1 | ⟨k, hk, h1⟩
    · exact sorted_core I sm (.inr rfl) ho hc hd' rv hz r' h1 q
    · exact sorted_coreK hu hk I sm (.inr rfl) ho hc hd' rv hz r' h1 q
  | _ => cases hd
end
end TL

set_option Elab.async false
set_option linter.all false
set_option maxRecDepth 100000
/-! The tree layer: min of a list of ints, of tuples of ints, and so on. -/
namespace TL
open PySem PySem.Spec PyProof.Rows L2
def minK (k : Nat) (ds : List D) : Option D := (allO (ofT k) ds).bind fun ts => match ts with
  | [] => none
  | t :: r => some (toT k (r.foldl (fun a y => if ltT k y a = true then y else a) t))
def minKD : D → Option D
  | .list ds => orO (minK 0 ds) (orO (minK 1 ds) (orO (minK 2 ds) (minK 3 ds)))
  | _ => none
theorem min_K {k : Nat} (t : TK k) (r : List (TK k)) : minK k ((t :: r).map (toT k)) = some (toT k (r.foldl (fun a y => if ltT k y a = true then y else a) t)) := by
  unfold minK
  rw [allO_map (ofT_to k), Option.bind_some]
def dflT : (k : Nat) → TK k
  | 0 => (0 : Int)
  | _ + 1 => []
section
variable {X : Cx}
theorem min_coreK {pins : List (Addr × Obj)} {s : Shared} {σ : L2.St} {F H : Hp} {p : Addr} {vs : List V} {its : List Value} {ds : List D} {d : D} {Q : VK} {k : Nat} (hc : X.calm = true) (hu : X.A.units + 64 < cLine) (hk : k ≤ 3) (I : Inv X pins σ H s) (sm : Same F H) (hl : s.heap.IsList p its.toArray)
    (rv : Vals vs its) (r' : RpAll (gx X) F vs ds) (hs : minK k ds = some d) (hf : ∀ p o, F p = some o → H p = some o) (q : kV (gx X) F H d Q) : wpAny (model X.prog X.w) X.A (call (.builtin "min") [.ref p]) (EP X pins σ Q) X.xe s := by
  unfold minK at hs
  obtain ⟨ts, h1, h2⟩ := bind_some hs
  have ed := allO_get (k := k) ofT_get h1
  subst ed
  cases ts with
  | nil => cases h2
  | cons t r =>
    cases h2
    obtain ⟨k1, k2, k3⟩ := rps_vals I sm r' rv
    have hlen : its.length = r.length + 1 := by
      have := congrArg List.length k1
      rwa [List.length_map, List.length_cons] at this
    have hsz : its.toArray.size = r.length + 1 := by simpa using hlen
    have at_ : ∀ i v, its.toArray[i]? = some v → v ∈ its ∧ rdT s.heap k v = (t :: r).getD i (dflT k) := fun i v e => by
      have e : its[i]? = some v := by simpa using e
      refine ⟨List.mem_of_getElem? e, ?_⟩
      rw [← k1, List.getD_eq_getElem?_getD, List.getElem?_map, e]
      rfl
    refine PySem.call_min_walkH (PySem.W.iter_listW (A := X.A.in1) (I.ok.hd hc) hl fun s₂ e W st hfp hw hkk => ?_)
    refine ⟨_, _, _, _, _, _, _, s.heap, fun i j => ltT k ((t :: r).getD i (dflT k)) ((t :: r).getD j (dflT k)), rfl, W, st, hfp, by omega, hw, hkk, fun i j vi vj s' Q' E' keep hi hj hq => ?_, fun v s' hP m => ?_⟩
    · obtain ⟨mi, ri⟩ := at_ i vi hi
      obtain ⟨mj, rj⟩ := at_ j vj hj
      have kp : ∀ b o, s.heap.get? b = some o → o.cls = .type "tuple" → s'.heap.get? b = some o := fun b o e _ => keep b o e
      obtain ⟨ti, ei⟩ := (k2 vi mi).keeps kp
      obtain ⟨tj, ej⟩ := (k2 vj mj).keeps kp
      have c := (cmpT (s := s') (A := X.A.in1) (by show X.A.units + 1 + k < cLine; omega) ti tj).2
      rw [ei, ej, ri, rj] at c
      exact c X.prog X.w E' Q' hq
    · obtain ⟨h', tk, rfl, hk'⟩ := PySem.W.moved_old e rfl m
      obtain ⟨mi, ri⟩ := at_ _ v hP
      obtain ⟨x, x1, x2⟩ := k3 v mi
      have e1 : its.toArray.size - 1 = r.length := by omega
      have e2 := (PySem.W.argBest_fold (ltT k) (dflT k) t r r.length (Nat.le_refl _)).2
      rw [List.take_length] at e2
      rw [e1, e2] at ri
      rw [ri] at x2
      exact ⟨x, H, I.kept hk', x1, q x F H (Gr.refl hf) x2⟩
theorem c_minK (hc : X.calm = true) (hu : X.A.units + 64 < cLine) : CalV X (.builtin "min") minKD := by
  intro pins s σ H xs us Q I r h
  obtain ⟨F, x, dx, d, rfl, sm, bx, hd, q⟩ := h
  cases dx with
  | list ds =>
    obtain ⟨p, vs, rfl, hl, r'⟩ := bx.lst sm
    obtain ⟨its, rv, hL, hz⟩ := I.list hl
    rw [Vals.ref1 r]
    rcases orO_of hd with h1 | h1
    · exact min_coreK hc hu (by decide) I sm hL.isList rv r' h1 sm q
    · rcases orO_of h1 with h1 | h1
      · exact min_coreK hc hu (by decide) I sm hL.isList rv r' h1 sm q
      · rcases orO_of h1 with h1 | h1
        · exact min_coreK hc hu (by decide) I sm hL.isList rv r' h1 sm q
        · exact min_coreK hc hu (by decide) I sm hL.isList rv r' h1 sm q
  | _ => cases hd
end
end TL

set_option Elab.async false
set_option linter.all false
set_option maxRecDepth 100000
/-! The tree layer: a call of a name that holds a def. -/
namespace TL
open PySem PySem.Spec PyProof.Rows L2
/-- the tree of a def -/
def fnD (x : Str) : D := .dict [(.str x, .none)]
def isFn (x : Str) : D → Bool
  | .dict [(.str y, .none)] => decide (y = x)
  | _ => false
@[simp] def eCallL (x : Str) (m : List D → Option D) (i : Nat) (l : List SE) : SE := fun env => (env.getD i none).bind fun d => if isFn x d = true then (eArgs l env).bind m else none
@[simp] def eAlt (a b : SE) : SE := fun env => orO (a env) (b env)
theorem isFn_of {x : Str} : ∀ {d : D}, isFn x d = true → d = fnD x
  | .dict [(.str y, .none)], h => by
    have e : y = x := of_decide_eq_true h
    rw [e]
    rfl
  | .none, h => by cases h
  | .bool _, h => by cases h
  | .int _, h => by cases h
  | .str _, h => by cases h
  | .list _, h => by cases h
  | .tuple _, h => by cases h
  | .dict [], h => by cases h
  | .dict (_ :: _ :: _), h => by simp [isFn] at h
  | .dict [(.none, _)], h => by simp [isFn] at h
  | .dict [(.bool _, _)], h => by simp [isFn] at h
  | .dict [(.int _, _)], h => by simp [isFn] at h
  | .dict [(.list _, _)], h => by simp [isFn] at h
  | .dict [(.tuple _, _)], h => by simp [isFn] at h
  | .dict [(.dict _, _)], h => by simp [isFn] at h
  | .dict [(.str _, .bool _)], h => by simp [isFn] at h
  | .dict [(.str _, .int _)], h => by simp [isFn] at h
  | .dict [(.str _, .str _)], h => by simp [isFn] at h
  | .dict [(.str _, .list _)], h => by simp [isFn] at h
  | .dict [(.str _, .tuple _)], h => by simp [isFn] at h
  | .dict [(.str _, .dict _)], h => by simp [isFn] at h
section
variable {X : Cx} {O : List Nat} {e : Expr} {es : List Expr} {l : List SE} {p pos : Pos} {x y : Str} {k n : Nat} {fa : Addr} {fd : FuncData} {ps : List Str} {m : List D → Option D}
/-- the name of a def -/
theorem efn (hg : Gl X y) (hm : X.mg y = some (.ref fa)) (hd : (y == ("__debug__" : Str)) = false := by decide) : PE X (.Name y pos) (rV (gx X) O (eC (fnD y))) :=
  eg (v := .ref fa) hg hm rfl (fun F => .fn hm) hd
theorem ecallL1 (i : Nat) (F : FnOk X.prog X.w (gx X).K (gx X).mg X.base CX0 k fa fd ps (spV (gx X) n m)) (hr : Room k X.A) (hm : X.mg y = some (.ref fa)) (hk : PySem.W.keepIn X.K (.ref fa) = true) (hb : Binds X.K fd ps [])
    (ha : PA X (e :: es) (aV (gx X) O (eArgs l))) (hO : i ∉ O := by decide) (hN : X.N[i]? = some x := by rfl) (hv : Vis X.env.scope x := by first | exact Or.inl rfl | exact Or.inr (Or.inl rfl) | exact Or.inr (Or.inr rfl)) (hn : l.length = n := by rfl)
    (hdb : (x == ("__debug__" : Str)) = false := by decide) (hcd : (x == ("__classdict__" : Str)) = false := by decide) (he : starEach (e :: es) X.env = (false, eval e X.env) :: starEach es X.env := by rfl) (hpl : (backTo pos (starEach es X.env)).any (·.1) = false := by rfl) :
    PE X (.Call (.Name x p) (e :: es) [] pos) (rV (gx X) O (eCallL y m i l)) :=
  (pe_callL (i := i) F hr hN hv hk hb .nil pass0 ha hdb hcd he hpl).imp fun σ H Q ⟨F0, env, d, hs, hf, q⟩ => by
    simp only [eCallL] at hf
    obtain ⟨f, h1, hf⟩ := bind_some hf
    split at hf
    case isFalse => cases hf
    rename_i hx
    have ef := isFn_of hx
    subst ef
    obtain ⟨ds, h2, hf⟩ := bind_some hf
    obtain ⟨v, h3, h4⟩ := hs.imm i _ (getD_some h1) hO
    cases h4 with
    | @fn a _ hma =>
      have ea : a = fa := by
        have e2 : X.mg y = some (.ref a) := hma
        rw [hm] at e2
        cases e2
        rfl
      subst ea
      refine ⟨h3, F0, env, ds, hs, h2, fun vs F1 H1 g1 r1 => ?_⟩
      show spV (gx X) n m (vs ++ []) H1 Q E0
      rw [List.append_nil]
      exact ⟨F1, ds, d, (hs.gr g1).fz, r1, (eArgs_len l ds h2).trans hn, hf, q.gr g1⟩
theorem ealt {a b : SE} (ha : PE X e (rV (gx X) O a)) (hb : PE X e (rV (gx X) O b)) : PE X e (rV (gx X) O (eAlt a b)) :=
  (ha.or hb).imp fun σ H Q ⟨F0, env, d, hs, hf, q⟩ => by
    simp only [eAlt] at hf
    rcases orO_of hf with h | h
    · exact .inl ⟨F0, env, d, hs, h, q⟩
    · exact .inr ⟨F0, env, d, hs, h, q⟩
end
end TL

set_option Elab.async false
set_option linter.all false
set_option maxRecDepth 100000
/-! Dicts whose keys are nested tuples: the dict's object alone, the keys' trees beside it. -/
namespace TL
open PySem PySem.Spec PyProof.Rows L2
mutual
def keyD : D → Option NestedKey
  | .none => some .none
  | .bool b => some (.num (if b = true then 1 else 0))
  | .int i => some (.num i)
  | .str x => some (.text x)
  | .tuple ds => (keyAll ds).map .tup
  | .list _ => none
  | .dict _ => none
def keyAll : List D → Option (List NestedKey)
  | [] => some []
  | d :: r => (keyD d).bind fun k => (keyAll r).map (k :: ·)
end
abbrev KEnt := NestedKey × Addr × V
abbrev KEnt' := NestedKey × Addr × Value
abbrev KRel : KEnt → KEnt' → Prop := fun x u => x.1 = u.1 ∧ x.2.1 = u.2.1 ∧ RelV x.2.2 u.2.2
def rawO (P : Program) (w : World) (r : Addr) (xs : List KEnt) : HO := .ext fun h => ∃ o es ep us, h.get? r = some o ∧ o.ExactDict ∧ o.data = .dict es ep ∧ es.toList = us.map (entryOfKey (nestedKind P w)) ∧ Paired KRel xs us
def atV (xs : List KEnt) (k : NestedKey) : Option V := (xs.find? fun x => decide (x.1 = k)).map (·.2.2)
def putR (xs : List KEnt) (k : NestedKey) (b : Addr) (v : V) : List KEnt := if (atV xs k).isSome then xs.map fun x => if x.1 = k then (x.1, x.2.1, v) else x else xs ++ [(k, b, v)]
structure KDat (P : Program) (w : World) (G : Gx) (F H : Hp) (r : Addr) (xs : List KEnt) : Prop where
  ns : (r == sysModules) = false
  at_ : H r = some (rawO P w r xs)
  nd : (xs.map (·.1)).Nodup
  ln : xs.length < sizeLine
  ks : ∀ x ∈ xs, ∃ kd, keyD kd = some x.1 ∧ x.1.depth ≤ 8 ∧ Rp G F (.ref x.2.1) kd
section
variable {X : Cx} {pins : List (Addr × Obj)} {σ : L2.St} {F H : Hp} {s : Shared}
mutual
theorem Rp.nested (I : Inv X pins σ H s) (sm : Same F H) : ∀ {d : D} {v : V} {k : NestedKey} {u : Value}, Rp (gx X) F v d → keyD d = some k → RelV v u → NestedIs s.heap k u
  | _, _, _, _, .non, e, r => by
    cases r
    cases Option.some.inj e
    exact .none
  | _, _, _, _, .bl b, e, r => by
    cases r
    cases Option.some.inj e
    exact .bool rfl
  | _, _, _, _, .int i, e, r => by
    obtain ⟨t, rfl⟩ := r
    cases Option.some.inj e
    exact .int _ _
  | _, _, _, _, .str x, e, r => by
    obtain ⟨t, rfl⟩ := r
    cases Option.some.inj e
    exact .text _ _
  | _, _, _, _, .lst _ _, e, _ => by cases e
  | _, _, _, _, .tup h a, e, r => by
    cases r
    simp only [keyD] at e
    obtain ⟨ks, h1, rfl⟩ := Option.map_eq_some_iff.mp e
    obtain ⟨its, hv, ⟨o, ho, hc, n, hd⟩, _⟩ := I.tuple (sameT sm h)
    exact .tup ho hc hd (by simpa using RpAll.nested I sm a h1 hv)
  | _, _, _, _, .fn _, e, _ => by cases e
  | _, _, _, _, .pl _ _ _, e, _ => by cases e
  | _, _, _, _, .rng _, e, _ => by cases e
theorem RpAll.nested (I : Inv X pins σ H s) (sm : Same F H) : ∀ {ds : List D} {vs : List V} {ks : List NestedKey} {us : List Value}, RpAll (gx X) F vs ds → keyAll ds = some ks → Vals vs us → NestedAll s.heap ks us
  | _, _, _, _, .nil, e, r => by
    cases r
    cases Option.some.inj e
    exact .nil
  | _, _, _, _, .cons h a, e, r => by
    simp only [keyAll] at e
    obtain ⟨k, h1, e⟩ := Option.bind_eq_some_iff.mp e
    obtain ⟨ks, h2, rfl⟩ := Option.map_eq_some_iff.mp e
    cases r with
    | cons r1 r2 => exact .cons (Rp.nested I sm h h1 r1) (RpAll.nested I sm a h2 r2)
end
theorem paired_mem {α β : Type} {G : α → β → Prop} : ∀ {l₁ : List α} {l₂ : List β}, Paired G l₁ l₂ → ∀ b ∈ l₂, ∃ a ∈ l₁, G a b
  | _, _, .nil, _, h => by cases h
  | _, _, .cons r t, b, h => by
    rcases List.mem_cons.mp h with rfl | h
    · exact ⟨_, List.mem_cons_self, r⟩
    · obtain ⟨a, h1, h2⟩ := paired_mem t b h
      exact ⟨a, List.mem_cons_of_mem _ h1, h2⟩
theorem krel_keys : ∀ {xs : List KEnt} {us : List KEnt'}, Paired KRel xs us → xs.map (·.1) = us.map (·.1)
  | _, _, .nil => rfl
  | _, _, .cons r t => by rw [List.map_cons, List.map_cons, krel_keys t, r.1]
theorem krel_at {k : NestedKey} : ∀ {xs : List KEnt} {us : List KEnt'}, Paired KRel xs us → (atV xs k = none ∧ atKey us k = none) ∨ ∃ v p, atV xs k = some v ∧ atKey us k = some p ∧ RelV v p.2
  | _, _, .nil => .inl ⟨rfl, rfl⟩
  | x :: xs, u :: us, .cons r t => by
    have r1 := r.1
    by_cases h : x.1 = k
    · refine .inr ⟨x.2.2, u.2, ?_, ?_, r.2.2⟩
      · simp [atV, List.find?_cons, h]
      · simp [atKey, List.find?_cons, ← r1, h]
    · have e1 : atV (x :: xs) k = atV xs k := by simp [atV, List.find?_cons, h]
      have e2 : atKey (u :: us) k = atKey us k := by simp [atKey, List.find?_cons, ← r1, h]
      rw [e1, e2]
      exact krel_at t
theorem krel_map {k : NestedKey} {v : V} {w : Value} (rv : RelV v w) : ∀ {xs : List KEnt} {us : List KEnt'}, Paired KRel xs us → Paired KRel (xs.map fun x => if x.1 = k then (x.1, x.2.1, v) else x) (us.map (putAt k w))
  | _, _, .nil => .nil
  | x :: xs, u :: us, .cons r t => by
    refine .cons ?_ (krel_map rv t)
    show KRel (if x.1 = k then (x.1, x.2.1, v) else x) (putAt k w u)
    unfold putAt
    by_cases h : x.1 = k
    · rw [if_pos h, if_pos (by rw [← r.1]; exact h)]
      exact ⟨r.1, r.2.1, rv⟩
    · rw [if_neg h, if_neg (by rw [← r.1]; exact h)]
      exact r
theorem krel_put {k : NestedKey} {b : Addr} {v : V} {w : Value} (rv : RelV v w) {xs : List KEnt} {us : List KEnt'} (t : Paired KRel xs us) : Paired KRel (putR xs k b v) (storedH us k b w) := by
  rcases krel_at (k := k) t with ⟨h1, h2⟩ | ⟨u, p, h1, h2, h3⟩
  · rw [storedH_new h2]
    unfold putR
    rw [h1]
    exact t.snoc ⟨rfl, rfl, rv⟩
  · rw [storedH_old h2]
    unfold putR
    rw [h1]
    exact krel_map rv t
theorem putR_len (xs : List KEnt) (k : NestedKey) (b : Addr) (v : V) : (putR xs k b v).length ≤ xs.length + 1 := by
  unfold putR
  split <;> simp
theorem putR_mem {xs : List KEnt} {k : NestedKey} {b : Addr} {v : V} {x : KEnt} (h : x ∈ putR xs k b v) : x = (k, b, v) ∨ x ∈ xs ∨ ∃ y ∈ xs, y.1 = k ∧ x = (y.1, y.2.1, v) := by
  unfold putR at h
  split at h
  · obtain ⟨y, hy, e⟩ := List.mem_map.mp h
    by_cases hk : y.1 = k
    · rw [if_pos hk] at e
      exact .inr (.inr ⟨y, hy, hk, e.symm⟩)
    · rw [if_neg hk] at e
      exact .inr (.inl (e ▸ hy))
  · rcases List.mem_append.mp h with h | h
    · exact .inr (.inl h)
    · exact .inl (List.mem_singleton.mp h)
theorem atV_none {xs : List KEnt} {k : NestedKey} (h : atV xs k = none) : k ∉ xs.map (·.1) := by
  intro hm
  obtain ⟨x, hx, e⟩ := List.mem_map.mp hm
  unfold atV at h
  rw [Option.map_eq_none_iff, List.find?_eq_none] at h
  exact h x hx (by simpa using e)
theorem atV_some {xs : List KEnt} {k : NestedKey} {v : V} (h : atV xs k = some v) : ∃ x ∈ xs, x.1 = k ∧ x.2.2 = v := by
  unfold atV at h
  obtain ⟨x, hx, e⟩ := Option.map_eq_some_iff.mp h
  have := List.find?_some hx
  exact ⟨x, List.mem_of_find?_eq_some hx, by simpa using this, e⟩
theorem putR_nd {xs : List KEnt} {k : NestedKey} {b : Addr} {v : V} (h : (xs.map (·.1)).Nodup) : ((putR xs k b v).map (·.1)).Nodup := by
  unfold putR
  split
  · have e : (xs.map fun x => if x.1 = k then (x.1, x.2.1, v) else x).map (·.1) = xs.map (·.1) := by
      rw [List.map_map]
      refine List.map_congr_left fun x _ => ?_
      show (if x.1 = k then (x.1, x.2.1, v) else x).1 = x.1
      split <;> rfl
    rw [e]
    exact h
  · rename_i hn
    have hn : atV xs k = none := by
      cases e : atV xs k with
      | none => rfl
      | some _ => rw [e] at hn; exact absurd rfl hn
    rw [List.map_append]
    refine List.nodup_append.mpr ⟨h, by simp, fun a ha b' hb e => ?_⟩
    rw [List.map_singleton, List.mem_singleton] at hb
    exact atV_none hn (by have hb : b' = k := hb; rw [← hb, ← e]; exact ha)
theorem KDat.heap {r : Addr} {xs : List KEnt} (d : KDat X.prog X.w (gx X) F H r xs) (I : Inv X pins σ H s) (sm : Same F H) : ∃ us, Paired KRel xs us ∧ s.heap.DictOfH (nestedKind X.prog X.w) r us := by
  obtain ⟨⟨o, es, ep, us, h1, h2, h3, h4, h5⟩, _⟩ := (show ObjOk X.prog X.w H s.heap r (rawO X.prog X.w r xs) from I.hok r _ d.at_)
  refine ⟨us, h5, o, es, ep, h1, h2, h3, h4, fun u hu => ?_, by rw [← krel_keys h5]; exact d.nd⟩
  obtain ⟨x, hx, e1, e2, _⟩ := paired_mem h5 u hu
  obtain ⟨kd, k1, k2, k3⟩ := d.ks x hx
  rw [← e1, ← e2]
  exact ⟨k3.nested I sm k1 rfl, k2⟩
theorem rawO_ok {H' : Hp} {h' : Heap} {r : Addr} {xs : List KEnt} {o : Obj} {es : Array DictEntry} {ep : Nat} {us : List KEnt'} (h1 : h'.get? r = some o) (h2 : o.ExactDict) (h3 : o.data = .dict es ep) (h4 : es.toList = us.map (entryOfKey (nestedKind X.prog X.w))) (h5 : Paired KRel xs us) :
    ObjOk X.prog X.w H' h' r (rawO X.prog X.w r xs) :=
  ⟨⟨o, es, ep, us, h1, h2, h3, h4, h5⟩, ⟨o, h1⟩, fun _ _ ⟨o, es, ep, us, q1, q⟩ z => ⟨o, es, ep, us, z o q1, q⟩⟩
/-- y is a key -/
structure IsK (G : Gx) (F : Hp) (y : V) (kd : D) (k : NestedKey) : Prop where
  ref : ∃ b, y = .ref b
  rp : Rp G F y kd
  ke : keyD kd = some k
  dp : k.depth ≤ 8
def rNotInK (X : Cx) : R2 := fun y x H Q => ∃ F r xs kd k, x = .ref r ∧ Same F H ∧ KDat X.prog X.w (gx X) F H r xs ∧ IsK (gx X) F y kd k ∧ Q (.bl (!(atV xs k).isSome)) H
def rInK (X : Cx) : R2 := fun y x H Q => ∃ F r xs kd k, x = .ref r ∧ Same F H ∧ KDat X.prog X.w (gx X) F H r xs ∧ IsK (gx X) F y kd k ∧ Q (.bl (atV xs k).isSome) H
def rIxK (X : Cx) : R2 := fun x y H Q => ∃ F r xs kd k v, x = .ref r ∧ Same F H ∧ KDat X.prog X.w (gx X) F H r xs ∧ IsK (gx X) F y kd k ∧ atV xs k = some v ∧ Q v H
def rSetK (X : Cx) : V → V → V → Hp → (Hp → Prop) → Prop := fun x y v H Q => ∃ F r xs kd k b, x = .ref r ∧ Same F H ∧ KDat X.prog X.w (gx X) F H r xs ∧ y = .ref b ∧ IsK (gx X) F y kd k ∧ Q (upd H r (rawO X.prog X.w r (putR xs k b v)))
theorem room_k (hu : X.A.units + 64 < cLine) : (nestedKind X.prog X.w).room X.A.in1 := by
  show X.A.units + 1 + 8 < cLine
  omega
theorem o_ninK (hu : X.A.units + 64 < cLine) : OpR X (compareOp .NotIn) (rNotInK X) := by
  intro pins s σ H y x u v Q I ry rx ⟨F, r, xs, kd, k, e, sm, d, ik, q⟩
  subst e
  cases rx
  obtain ⟨b, rfl⟩ := ik.ref
  cases ry
  obtain ⟨us, rel, dd⟩ := d.heap I sm
  refine wpAny_notIn_heap (room_k hu) ⟨ik.rp.nested I sm ik.ke rfl, ik.dp⟩ d.ns dd ?_
  refine ⟨_, H, I.tok _, ?_, q⟩
  rcases krel_at (k := k) rel with ⟨h1, h2⟩ | ⟨v, p, h1, h2, h3⟩ <;> rw [h1, h2] <;> rfl
theorem o_inK (hu : X.A.units + 64 < cLine) : OpR X (compareOp .In) (rInK X) := by
  intro pins s σ H y x u v Q I ry rx ⟨F, r, xs, kd, k, e, sm, d, ik, q⟩
  subst e
  cases rx
  obtain ⟨b, rfl⟩ := ik.ref
  cases ry
  obtain ⟨us, rel, dd⟩ := d.heap I sm
  refine wpAny_in_heap (room_k hu) ⟨ik.rp.nested I sm ik.ke rfl, ik.dp⟩ d.ns dd ?_
  refine ⟨_, H, I.tok _, ?_, q⟩
  rcases krel_at (k := k) rel with ⟨h1, h2⟩ | ⟨v, p, h1, h2, h3⟩ <;> rw [h1, h2] <;> rfl
theorem ix_K (hu : X.A.units + 64 < cLine) : IxR X (rIxK X) := by
  intro value slice pins s σ H x y v u Q I rx ry ⟨F, r, xs, kd, k, z, e, sm, d, ik, hz, q⟩ hs
  subst e
  cases rx
  obtain ⟨b, rfl⟩ := ik.ref
  cases ry
  obtain ⟨us, rel, dd⟩ := d.heap I sm
  rcases krel_at (k := k) rel with ⟨h1, h2⟩ | ⟨v', p, h1, h2, h3⟩
  · rw [h1] at hz
    cases hz
  · rw [h1] at hz
    cases hz
    exact subscriptTail_builtinR (x := p.2) dd.typeIs PySem.F.slot_dict_getitem.lookup
      (wpAny_getItem_heap (Q := fun w' s' => w' = p.2 ∧ EP X pins σ Q w' s') (room_k hu) ⟨ik.rp.nested I sm ik.ke rfl, ik.dp⟩ dd h2 ⟨rfl, z, H, I.tok _, h3, q⟩) hs
theorem set_K (hu : X.A.units + 64 < cLine) : PSet X (rSetK X) := by
  intro pins s σ H x y v ov iv u Q I rx ry rv ⟨F, r, xs, kd, k, b, e, sm, d, e2, ik, q⟩
  subst e
  cases rx
  subst e2
  cases ry
  obtain ⟨us, rel, dd⟩ := d.heap I sm
  have hz : us.length ≤ sizeLine := by rw [← Paired.length rel]; exact Nat.le_of_lt d.ln
  refine wpAny_setItem_heap (hsz := hz) (room_k hu) ⟨ik.rp.nested I sm ik.ke rfl, ik.dp⟩ dd fun h' dd' hs => ?_
  obtain ⟨o, es, ep, h1, h2, h3, h4, _, h5⟩ := dd'
  exact ⟨_, d_write I (by rw [d.at_]; exact True.intro) hs ⟨o, h1⟩ (rawO_ok h1 h2 h3 h4 (krel_put rv rel)), q⟩
/-- {}, to be such a dict -/
def tDNewR (X : Cx) : TE := fun _ H Q => ∀ p : Addr, (p == sysModules) = false → H p = none → Q (.ref p) (upd H p (rawO X.prog X.w p []))
theorem pe_dnewR {pos : Pos} : PE X (.Dict [] [] pos) (tDNewR X) := ⟨fun pins s σ H Q I h =>
  wpAny_Dict_empty ⟨.ref s.heap.objs.size, _, I.laid (a := s.heap.objs.size) (o := rawO X.prog X.w s.heap.objs.size []) (t' := s.toks) (fun _ _ q => Heap.get?_push_of_some _ q) (Nat.le_refl _)
    (rawO_ok (us := []) (Heap.get?_push_size _ rfl) ⟨rfl, rfl, rfl⟩ rfl rfl .nil), rfl, h _ (beq_eq_false_iff_ne.mpr (Ne.symm (Nat.ne_of_lt I.big))) (I.hok.fresh (Nat.le_refl _))⟩⟩
end
end TL

set_option Elab.async false
set_option linter.all false
set_option maxRecDepth 100000
/-! The tree layer with a dict that remembers: functions that keep what they found are told as if they did not. -/
namespace TL
open PySem PySem.Spec PyProof.Rows L2
/-! ### the dict: its keys u, its values sp one two key -/
structure MC where
  P : Program
  w : World
  G : Gx
  u : D → Bool
  sp : D → D → D → D
abbrev mc (X : Cx) (u : D → Bool) (sp : D → D → D → D) : MC := ⟨X.prog, X.w, gx X, u, sp⟩
/-- the slots of the dict, of one and of two -/
structure Sl where
  i0 : Nat
  i1 : Nat
  i2 : Nat
structure UOk (u : D → Bool) : Prop where
  fin : ∃ L : List NestedKey, L.length < 16000000 ∧ ∀ kd, u kd = true → ∃ k ∈ L, keyD kd = some k ∧ k.depth ≤ 8
  inj : ∀ kd kd', u kd = true → u kd' = true → keyD kd = keyD kd' → kd = kd'
  tup : ∀ kd, u kd = true → ∃ ds, kd = .tuple ds
def Cel (U : MC) (F H : Hp) (r : Addr) (a b : D) : Prop := ∃ xs : List KEnt, (r == sysModules) = false ∧ H r = some (rawO U.P U.w r xs) ∧ (xs.map (·.1)).Nodup ∧
  ∀ x ∈ xs, ∃ kd, U.u kd = true ∧ keyD kd = some x.1 ∧ Rp U.G F (.ref x.2.1) kd ∧ Rp U.G F x.2.2 (U.sp a b kd)
structure MOk (U : MC) (S : Sl) (O : List Nat) (r : Addr) (a b : D) (F H : Hp) (σ : L2.St) (env : Env) : Prop where
  s : SOk U.G O F (hid r H) σ env
  fr : F r = none
  ce : Cel U F H r a b
  sg : σ[S.i0]? = some (some (.ref r))
  e1 : env.getD S.i1 none = some a
  e2 : env.getD S.i2 none = some b
structure MGr (U : MC) (r : Addr) (a b : D) (F H F' H' : Hp) : Prop where
  g : Gr F (hid r H) F' (hid r H')
  fr : F' r = none
  ce : Cel U F' H' r a b
theorem nodup_leM {α : Type} [DecidableEq α] : ∀ {l m : List α}, l.Nodup → (∀ x ∈ l, x ∈ m) → l.length ≤ m.length
  | [], _, _, _ => Nat.zero_le _
  | x :: l, m, h, s => by
    rw [List.nodup_cons] at h
    have hx := s x List.mem_cons_self
    have := nodup_leM (m := m.erase x) h.2 fun y hy => (List.mem_erase_of_ne fun e => h.1 (by rw [← e]; exact hy)).mpr (s y (List.mem_cons_of_mem _ hy))
    rw [List.length_erase_of_mem hx] at this
    have : 0 < m.length := List.length_pos_of_mem hx
    rw [List.length_cons]
    omega
section
variable {U : MC} {S : Sl} {O O' : List Nat} {r : Addr} {a b : D} {F H F' H' F2 H2 : Hp} {σ : L2.St} {env : Env}
theorem Cel.nt (c : Cel U F H r a b) : ∀ ps, H r ≠ some (.tbl ps) := fun ps e => by
  obtain ⟨xs, _, h, _⟩ := c
  rw [e] at h
  cases h
theorem Cel.mono (c : Cel U F H r a b) (k : Same F F') (h : H' r = H r) : Cel U F' H' r a b := by
  obtain ⟨xs, h1, h2, h3, h4⟩ := c
  exact ⟨xs, h1, by rw [h]; exact h2, h3, fun x hx => let ⟨kd, q1, q2, q3, q4⟩ := h4 x hx; ⟨kd, q1, q2, q3.mono k, q4.mono k⟩⟩
theorem celx_dat {xs : List KEnt} (uk : UOk U.u) (h1 : (r == sysModules) = false) (h2 : H r = some (rawO U.P U.w r xs)) (h3 : (xs.map (·.1)).Nodup)
    (h4 : ∀ x ∈ xs, ∃ kd, U.u kd = true ∧ keyD kd = some x.1 ∧ Rp U.G F (.ref x.2.1) kd ∧ Rp U.G F x.2.2 (U.sp a b kd)) : KDat U.P U.w U.G F H r xs := by
  obtain ⟨L, hL, hk⟩ := uk.fin
  have key : ∀ x ∈ xs, x.1 ∈ L ∧ x.1.depth ≤ 8 := fun x hx => by
    obtain ⟨kd, q1, q2, _⟩ := h4 x hx
    obtain ⟨k, z1, z2, z3⟩ := hk kd q1
    rw [q2] at z2
    cases z2
    exact ⟨z1, z3⟩
  refine ⟨h1, h2, h3, ?_, fun x hx => ?_⟩
  · have := nodup_leM h3 fun k hm => by
      obtain ⟨x, hx, e⟩ := List.mem_map.mp hm
      rw [← e]
      exact (key x hx).1
    rw [List.length_map] at this
    rw [sizeLine_eq]
    omega
  · obtain ⟨kd, q1, q2, q3, _⟩ := h4 x hx
    exact ⟨kd, q2, (key x hx).2, q3⟩
theorem Cel.dat (c : Cel U F H r a b) (uk : UOk U.u) : ∃ xs : List KEnt, KDat U.P U.w U.G F H r xs ∧ ∀ x ∈ xs, ∃ kd, U.u kd = true ∧ keyD kd = some x.1 ∧ Rp U.G F (.ref x.2.1) kd ∧ Rp U.G F x.2.2 (U.sp a b kd) := by
  obtain ⟨xs, h1, h2, h3, h4⟩ := c
  exact ⟨xs, celx_dat uk h1 h2 h3 h4, h4⟩
theorem TbOk.hid2 {G : Gx} (t : TbOk G F H) (hr : ∀ ps, H r ≠ some (.tbl ps)) : TbOk G F (hid r H) := fun x hx c P e =>
  let ⟨h1, ps, h2, h3⟩ := t x hx c P e
  ⟨h1, ps, by rw [hid_ne (fun z => hr ps (by rw [← z]; exact h2))]; exact h2, h3⟩
theorem MOk.sok (q : MOk U S O r a b F H σ env) : SOk U.G O F H σ env := ⟨q.s.fh.trans hid_le, q.s.len, q.s.imm, fun i hi => by
  obtain ⟨p, vs, ds, h1, h2, h3, h4, h5⟩ := q.s.own i hi
  exact ⟨p, vs, ds, h1, h2, h3, hid_le _ _ h4, h5⟩, q.s.dj, q.s.tb.unhid⟩
theorem MOk.gr (q : MOk U S O r a b F H σ env) (g : MGr U r a b F H F' H') : MOk U S O r a b F' H' σ env := ⟨q.s.gr g.g, g.fr, g.ce, q.sg, q.e1, q.e2⟩
theorem MGr.of (g : Gr F H F' H') (hf : F r = none) (ce : Cel U F H r a b) : MGr U r a b F H F' H' := by
  obtain ⟨xs, h1, h2, h3, h4⟩ := id ce
  have fr : F' r = none := g.hid r _ h2 hf
  have hr : H' r = H r := by rw [g.hh.nn r _ h2 rfl, h2]
  refine ⟨⟨g.ff, g.hh.hid_, fun c o e => ?_, fun p o e n => ?_⟩, fr, ce.mono g.ff hr⟩
  · have n : c ≠ r := fun z => by rw [z, fr] at e; cases e
    rw [hid_ne n]
    exact g.fh c o e
  · obtain ⟨_, e⟩ := hid_some e
    exact g.hid p o e n
theorem MGr.trans (x : MGr U r a b F H F' H') (y : MGr U r a b F' H' F2 H2) : MGr U r a b F H F2 H2 := ⟨x.g.trans y.g, y.fr, y.ce⟩
theorem MGr.fh (x : MGr U r a b F H F' H') : Same F' H' := x.g.fh.trans hid_le
theorem MGr.ff (x : MGr U r a b F H F' H') : Same F F' := x.g.ff
theorem MOk.of (q : MOk U S O r a b F H σ env) (g : Gr F H F' H') : MGr U r a b F H F' H' := .of g q.fr q.ce
theorem MOk.refl (q : MOk U S O r a b F H σ env) : MGr U r a b F H F H := q.of (Gr.refl q.sok.fh)
theorem MOk.ne (ok : MOk U S O r a b F H σ env) : ∀ i ∈ O, ∀ p, σ[i]? = some (some (.ref p)) → p ≠ r := fun i hi p hp => by
  obtain ⟨p', vs, ds, h1, h2, h3, h4, h5⟩ := ok.s.own i hi
  rw [hp] at h1
  cases h1
  exact (hid_some h4).1
theorem SOk.rehid2 {G : Gx} (s : SOk G O F H σ env) (hf : F r = none) (hr : ∀ ps, H r ≠ some (.tbl ps)) (hn : ∀ i ∈ O, ∀ p, σ[i]? = some (some (.ref p)) → p ≠ r) : SOk G O F (hid r H) σ env :=
  ⟨fun b o e => by rw [hid_ne (fun z => by rw [z, hf] at e; cases e)]; exact s.fh b o e, s.len, s.imm, fun i hi => by
    obtain ⟨p, vs, ds, h1, h2, h3, h4, h5⟩ := s.own i hi
    exact ⟨p, vs, ds, h1, h2, h3, by rw [hid_ne (hn i hi p h1)]; exact h4, h5⟩, s.dj, s.tb.hid2 hr⟩
end
/-! ### the judgements -/
def mV (U : MC) (S : Sl) (O : List Nat) (f : SE) : TE := fun σ H Q => ∃ F env r a b d, MOk U S O r a b F H σ env ∧ f env = some d ∧ ∀ v F' H', MGr U r a b F H F' H' → Rp U.G F' v d → Q v H'
def mT (U : MC) (S : Sl) (O : List Nat) (f : ST) : TT := fun σ H Q => ∃ F env r a b d, MOk U S O r a b F H σ env ∧ f env = some d ∧ ∀ F' H', MGr U r a b F H F' H' → Q d H'
def mA (U : MC) (S : Sl) (O : List Nat) (f : SI) : TA := fun σ H Q => ∃ F env r a b ds, MOk U S O r a b F H σ env ∧ f env = some ds ∧ ∀ vs F' H', MGr U r a b F H F' H' → RpAll U.G F' vs ds → Q vs H'
section
variable {X : Cx} {u : D → Bool} {sp : D → D → D → D} {S : Sl} {O : List Nat} {a b e k : Expr} {es rest : List Expr} {fa fb : SE} {ta tb : ST} {l : List SE} {pos p2 : Pos} {g : D → D → Option D}
theorem mlift {f : SE} (h : PE X e (rV (gx X) O f)) : PE X e (mV (mc X u sp) S O f) := h.imp fun σ H Q ⟨F, env, r, a, b, d, ok, hf, q⟩ =>
  ⟨F, env, d, ok.sok, hf, fun v F' H' g r => q v F' H' (ok.of g) r⟩
theorem mliftT {f : ST} (h : PT X e (rT (gx X) O f)) : PT X e (mT (mc X u sp) S O f) := h.imp fun σ H Q ⟨F, env, r, a, b, d, ok, hf, q⟩ =>
  ⟨F, env, d, ok.sok, hf, fun F' H' g => q F' H' (ok.of g)⟩
theorem mend {F H F' H' : Hp} {U : MC} {r : Addr} {a b d : D} {Q : VK} (g : MGr U r a b F H F' H') (q : ∀ v F' H', MGr U r a b F H F' H' → Rp U.G F' v d → Q v H') : kV U.G F' H' d Q :=
  fun v F2 H2 g2 r2 => q v F2 H2 (g.trans (.of g2 g.fr g.ce)) r2
theorem mseq2 {R : V → V → Hp → Prop} {F H : Hp} {σ : L2.St} {env : Env} {x y a b : D} {r : Addr} (ok : MOk (mc X u sp) S O r a b F H σ env) (ha : fa env = some x) (hb : fb env = some y)
    (h : ∀ v z F' H', MGr (mc X u sp) r a b F H F' H' → Rp (gx X) F' v x → Rp (gx X) F' z y → R v z H') : mV (mc X u sp) S O fa σ H fun v H1 => mV (mc X u sp) S O fb σ H1 fun z H2 => R v z H2 :=
  ⟨F, env, r, a, b, x, ok, ha, fun v F1 H1 g1 r1 => ⟨F1, env, r, a, b, y, ok.gr g1, hb, fun z F2 H2 g2 r2 => h v z F2 H2 (g1.trans g2) (r1.mono g2.ff) r2⟩⟩
theorem msplit2 {env : Env} {d : D} (h : e2 g fa fb env = some d) : ∃ x y, fa env = some x ∧ fb env = some y ∧ g x y = some d := by
  simp only [TL.e2] at h
  obtain ⟨x, h1, h⟩ := bind_some h
  obtain ⟨y, h2, h⟩ := bind_some h
  exact ⟨x, y, h1, h2, h⟩
theorem mo {op : Operator} (ho : OpV X (binaryOp op) g) (ha : PE X a (mV (mc X u sp) S O fa)) (hb : PE X b (mV (mc X u sp) S O fb)) : PE X (.BinOp a op b pos) (mV (mc X u sp) S O (e2 g fa fb)) :=
  (pe_op ho ha hb).imp fun σ H Q ⟨F, env, r, a, b, d, ok, hf, q⟩ => by
    obtain ⟨x, y, h1, h2, h3⟩ := msplit2 hf
    exact mseq2 ok h1 h2 fun v z F' H' g' r1 r2 => ⟨F', x, y, d, g'.fh, r1.b, r2.b, h3, mend g' q⟩
theorem mcm {op : CmpOp} (ho : OpV X (compareOp op) g) (ha : PE X a (mV (mc X u sp) S O fa)) (hb : PE X b (mV (mc X u sp) S O fb)) (hm : behindInMarks op b = false := by first | exact nomark _ | rfl | with_unfolding_all rfl) : PE X (.Compare a [op] [b] pos) (mV (mc X u sp) S O (e2 g fa fb)) :=
  (pe_cmpR ho ha hb hm).imp fun σ H Q ⟨F, env, r, a, b, d, ok, hf, q⟩ => by
    obtain ⟨x, y, h1, h2, h3⟩ := msplit2 hf
    exact mseq2 ok h1 h2 fun v z F' H' g' r1 r2 => ⟨F', x, y, d, g'.fh, r1.b, r2.b, h3, mend g' q⟩
theorem mtvSplit {f : SE} {env : Env} {k : Bool} (h : tV f env = some k) : f env = some (.bool k) := by
  simp only [tV] at h
  obtain ⟨x, h1, h⟩ := bind_some h
  rw [h1, toB_some h]
theorem mtv (h : PE X a (mV (mc X u sp) S O fa)) (he : ∀ whole, isTrue a X.env whole = (do let v ← whole; standAt a.pos; holding [v] (truthy v)) := by intro _; rfl) : PT X a (mT (mc X u sp) S O (tV fa)) :=
  (pt_val h he).imp fun σ H Q ⟨F, env, r, a, b, d, ok, hf, q⟩ => ⟨F, env, r, a, b, .bool d, ok, mtvSplit hf, fun v F' H' g' r => by
    cases r
    exact ⟨d, rfl, q F' H' g'⟩⟩
theorem mone {op} (h : PE X a (mV (mc X u sp) S O fa)) : PE X (.BoolOp op [a] pos) (mV (mc X u sp) S O fa) := pe_one h
theorem mand (ha : PE X a (mV (mc X u sp) S O fa)) (hb : PE X (.BoolOp .And (b :: rest) pos) (mV (mc X u sp) S O fb)) : PE X (.BoolOp .And (a :: b :: rest) pos) (mV (mc X u sp) S O (eAnd fa fb)) :=
  (pe_and ha hb).imp fun σ H Q ⟨F, env, r, a, b, d, ok, hf, q⟩ => by
    simp only [eAnd] at hf
    obtain ⟨x, h1, hf⟩ := bind_some hf
    obtain ⟨k, h4, hk⟩ := bind_some hf
    have e4 := toB_some h4
    subst e4
    refine ⟨F, env, r, a, b, _, ok, h1, fun v F1 H1 g1 r1 => ?_⟩
    cases r1
    refine ⟨k, rfl, ?_⟩
    cases k with
    | true => exact ⟨F1, env, r, a, b, d, ok.gr g1, hk, fun v F2 H2 g2 r2 => q v F2 H2 (g1.trans g2) r2⟩
    | false =>
      cases hk
      exact q _ F1 H1 g1 (.bl false)
theorem mor (ha : PE X a (mV (mc X u sp) S O fa)) (hb : PE X (.BoolOp .Or (b :: rest) pos) (mV (mc X u sp) S O fb)) : PE X (.BoolOp .Or (a :: b :: rest) pos) (mV (mc X u sp) S O (eOr fa fb)) :=
  (pe_or ha hb).imp fun σ H Q ⟨F, env, r, a, b, d, ok, hf, q⟩ => by
    simp only [eOr] at hf
    obtain ⟨x, h1, hf⟩ := bind_some hf
    obtain ⟨k, h4, hk⟩ := bind_some hf
    have e4 := toB_some h4
    subst e4
    refine ⟨F, env, r, a, b, _, ok, h1, fun v F1 H1 g1 r1 => ?_⟩
    cases r1
    refine ⟨k, rfl, ?_⟩
    cases k with
    | false => exact ⟨F1, env, r, a, b, d, ok.gr g1, hk, fun v F2 H2 g2 r2 => q v F2 H2 (g1.trans g2) r2⟩
    | true =>
      cases hk
      exact q _ F1 H1 g1 (.bl true)
theorem mnot (ha : PE X a (mV (mc X u sp) S O fa)) : PE X (.UnaryOp .Not a pos) (mV (mc X u sp) S O (eNot fa)) :=
  (pe_not ha).imp fun σ H Q ⟨F, env, r, a, b, d, ok, hf, q⟩ => by
    simp only [eNot] at hf
    obtain ⟨x, h1, hf⟩ := bind_some hf
    obtain ⟨k, h4, hk⟩ := map_some hf
    have e4 := toB_some h4
    subst e4
    cases hk
    refine ⟨F, env, r, a, b, _, ok, h1, fun v F1 H1 g1 r1 => ?_⟩
    cases r1
    exact ⟨k, rfl, q _ F1 H1 g1 (.bl _)⟩
theorem mtone1 (h : PT X a (mT (mc X u sp) S O ta)) : PW X (.BoolOp .And [a] pos) (mT (mc X u sp) S O ta) := pw_and1 h
theorem mtone2 (h : PT X a (mT (mc X u sp) S O ta)) : PW X (.BoolOp .Or [a] pos) (mT (mc X u sp) S O ta) := pw_or1 h
theorem mtand (ha : PT X a (mT (mc X u sp) S O ta)) (hb : PW X (.BoolOp .And (b :: rest) pos) (mT (mc X u sp) S O tb)) : PW X (.BoolOp .And (a :: b :: rest) pos) (mT (mc X u sp) S O (TL.tAnd ta tb)) :=
  (pw_and ha hb).imp fun σ H Q ⟨F, env, r, a, b, d, ok, hf, q⟩ => by
    simp only [TL.tAnd] at hf
    obtain ⟨k, h1, hf⟩ := bind_some hf
    refine ⟨F, env, r, a, b, k, ok, h1, fun F1 H1 g1 => ?_⟩
    cases k with
    | true => exact ⟨F1, env, r, a, b, d, ok.gr g1, hf, fun F2 H2 g2 => q F2 H2 (g1.trans g2)⟩
    | false =>
      cases hf
      exact q F1 H1 g1
theorem mtor (ha : PT X a (mT (mc X u sp) S O ta)) (hb : PW X (.BoolOp .Or (b :: rest) pos) (mT (mc X u sp) S O tb)) : PW X (.BoolOp .Or (a :: b :: rest) pos) (mT (mc X u sp) S O (TL.tOr ta tb)) :=
  (pw_or ha hb).imp fun σ H Q ⟨F, env, r, a, b, d, ok, hf, q⟩ => by
    simp only [TL.tOr] at hf
    obtain ⟨k, h1, hf⟩ := bind_some hf
    refine ⟨F, env, r, a, b, k, ok, h1, fun F1 H1 g1 => ?_⟩
    cases k with
    | false => exact ⟨F1, env, r, a, b, d, ok.gr g1, hf, fun F2 H2 g2 => q F2 H2 (g1.trans g2)⟩
    | true =>
      cases hf
      exact q F1 H1 g1
theorem mtw (h : PW X a (mT (mc X u sp) S O ta)) : PT X a (mT (mc X u sp) S O ta) := h.pt
theorem mtnot (ha : PT X a (mT (mc X u sp) S O ta)) : PT X (.UnaryOp .Not a pos) (mT (mc X u sp) S O (TL.tNot ta)) :=
  (pt_not ha).imp fun σ H Q ⟨F, env, r, a, b, d, ok, hf, q⟩ => by
    simp only [TL.tNot] at hf
    obtain ⟨k, h1, hf⟩ := map_some hf
    cases hf
    exact ⟨F, env, r, a, b, k, ok, h1, q⟩
theorem mif (hc : PT X k (mT (mc X u sp) S O ta)) (ha : PE X a (mV (mc X u sp) S O fa)) (hb : PE X b (mV (mc X u sp) S O fb)) : PE X (.IfExp k a b pos) (mV (mc X u sp) S O (eIf ta fa fb)) :=
  (pe_ifExp hc ha hb).imp fun σ H Q ⟨F, env, r, a, b, d, ok, hf, q⟩ => by
    simp only [eIf] at hf
    obtain ⟨k, h1, hf⟩ := bind_some hf
    refine ⟨F, env, r, a, b, k, ok, h1, fun F1 H1 g1 => ?_⟩
    cases k with
    | true => exact ⟨F1, env, r, a, b, d, ok.gr g1, hf, fun v F2 H2 g2 r2 => q v F2 H2 (g1.trans g2) r2⟩
    | false => exact ⟨F1, env, r, a, b, d, ok.gr g1, hf, fun v F2 H2 g2 r2 => q v F2 H2 (g1.trans g2) r2⟩
/-! arguments, displays -/
theorem man : PA X [] (mA (mc X u sp) S O (eArgs [])) := pa_nil.imp fun σ H Q ⟨F, env, r, a, b, ds, ok, hf, q⟩ => by
  cases hf
  exact q [] F H ok.refl .nil
theorem mac (ha : PE X e (mV (mc X u sp) S O fa)) (hr : PA X es (mA (mc X u sp) S O (eArgs l))) (hs : starEach (e :: es) X.env = (false, eval e X.env) :: starEach es X.env := by rfl) : PA X (e :: es) (mA (mc X u sp) S O (eArgs (fa :: l))) :=
  (pa_cons ha hr hs).imp fun σ H Q ⟨F, env, r, a, b, ds, ok, hf, q⟩ => by
    simp only [eArgs] at hf
    obtain ⟨x, h1, hf⟩ := bind_some hf
    obtain ⟨xs, h2, hf⟩ := map_some hf
    cases hf
    exact ⟨F, env, r, a, b, x, ok, h1, fun v F1 H1 g1 r1 => ⟨F1, env, r, a, b, xs, ok.gr g1, h2, fun vs F2 H2 g2 r2 => q (v :: vs) F2 H2 (g1.trans g2) (.cons (r1.mono g2.ff) r2)⟩⟩
theorem mtup {x1} (h : PA X es (mA (mc X u sp) S O (eArgs l))) : PE X (.Tuple es x1 pos) (mV (mc X u sp) S O (eTup l)) :=
  (pe_tup h).imp fun σ H Q ⟨F, env, r, a, b, d, ok, hf, q⟩ => by
    simp only [eTup] at hf
    obtain ⟨ds, h1, hf⟩ := bind_some hf
    refine ⟨F, env, r, a, b, ds, ok, h1, fun vs F1 H1 g1 r1 => ?_⟩
    split at hf
    · cases hf
      exact ⟨by rw [r1.length]; assumption, fun p hp => (mend g1 q).newT g1.fh r1 hp⟩
    · cases hf
theorem mix (ha : PE X a (mV (mc X u sp) S O fa)) (hb : PE X b (mV (mc X u sp) S O fb)) (hs : PlainIx b := by exact fun _ _ => rfl) : PE X (.Subscript a b pos) (mV (mc X u sp) S O (e2 ixD fa fb)) :=
  (pe_ix ixV ha hb hs).imp fun σ H Q ⟨F, env, r, a, b, d, ok, hf, q⟩ => by
    obtain ⟨x, y, h1, h2, h3⟩ := msplit2 hf
    exact mseq2 ok h1 h2 fun v z F' H' g' r1 r2 => ⟨F', x, y, d, g'.fh, r1.b, r2.b, h3, mend g' q⟩
/-! calls of defs that do not know the dict; of builtins -/
theorem mcallV {m : List D → Option D} {x : Str} {p : Pos} {fa : Addr} {fd : FuncData} {ps : List Str} {k n : Nat} (F : FnOk X.prog X.w (gx X).K (gx X).mg X.base CX0 k fa fd ps (spV (gx X) n m)) (hr : Room k X.A) (hg : Gl X x) (hm : X.mg x = some (.ref fa)) (hk : PySem.W.keepIn X.K (.ref fa) = true) (hb : Binds X.K fd ps [])
    (ha : PA X (e :: es) (mA (mc X u sp) S O (eArgs l))) (hn : l.length = n := by rfl) (hdb : (x == ("__debug__" : Str)) = false := by decide) (he : starEach (e :: es) X.env = (false, eval e X.env) :: starEach es X.env := by rfl) (hpl : (backTo pos (starEach es X.env)).any (·.1) = false := by rfl) :
    PE X (.Call (.Name x p) (e :: es) [] pos) (mV (mc X u sp) S O (eCall m l)) :=
  (pe_call F hr hg hm hk hb .nil pass0 ha hdb he hpl).imp fun σ H Q ⟨F, env, r, a, b, d, ok, hf, q⟩ => by
    simp only [eCall] at hf
    obtain ⟨ds, h1, hf⟩ := bind_some hf
    refine ⟨F, env, r, a, b, ds, ok, h1, fun vs F1 H1 g1 r1 => ?_⟩
    show spV (gx X) n m (vs ++ []) H1 Q E0
    rw [List.append_nil]
    exact ⟨F1, ds, d, (ok.gr g1).sok.fz, r1, (eArgs_len l ds h1).trans hn, hf, mend g1 q⟩
theorem mB {id : String} {x : Str} {p : Pos} {g : D → Option D} (hc : CalV X (.builtin id) g) (hg : Gl X x) (hm : X.mg x = none) (hv : bootBuiltins x = some (.builtin id)) (ha : PE X e (mV (mc X u sp) S O fa)) (hn : x ≠ "__name__" := by decide) (hdb : (x == ("__debug__" : Str)) = false := by decide)
    (hs : starEach [e] X.env = (false, eval e X.env) :: starEach [] X.env := by rfl) : PE X (.Call (.Name x p) [e] [] pos) (mV (mc X u sp) S O (e1 g fa)) :=
  (pe_callB hc hg hm hv (pa_cons ha pa_nil hs) hn hdb hs rfl).imp fun σ H Q ⟨F, env, r, a, b, d, ok, hf, q⟩ => by
    simp only [TL.e1] at hf
    obtain ⟨x, h1, h3⟩ := bind_some hf
    exact ⟨F, env, r, a, b, x, ok, h1, fun v F1 H1 g1 r1 => ⟨F1, v, x, d, rfl, g1.fh, r1.b, h3, mend g1 q⟩⟩
theorem mTy {T : String} {x : Str} {p : Pos} {g : D → Option D} (hc : CalV X (.type T) g) (hg : Gl X x) (hm : X.mg x = none) (hv : bootBuiltins x = some (.type T)) (ha : PE X e (mV (mc X u sp) S O fa)) (hn : x ≠ "__name__" := by decide) (hdb : (x == ("__debug__" : Str)) = false := by decide)
    (hs : starEach [e] X.env = (false, eval e X.env) :: starEach [] X.env := by rfl) : PE X (.Call (.Name x p) [e] [] pos) (mV (mc X u sp) S O (e1 g fa)) :=
  (pe_callTy hc hg hm hv (pa_cons ha pa_nil hs) hn hdb hs rfl).imp fun σ H Q ⟨F, env, r, a, b, d, ok, hf, q⟩ => by
    simp only [TL.e1] at hf
    obtain ⟨x, h1, h3⟩ := bind_some hf
    exact ⟨F, env, r, a, b, x, ok, h1, fun v F1 H1 g1 r1 => ⟨F1, v, x, d, rfl, g1.fh, r1.b, h3, mend g1 q⟩⟩
end
/-! ### calls that hand the dict on -/
def spM (U : MC) (n j c1 c2 : Nat) (m : List D → Option D) : Sp := fun vs H Q _ => ∃ F r us ds a b d, vs = us.take j ++ .ref r :: us.drop j ∧ Fz U.G F (hid r H) ∧ F r = none ∧ Cel U F H r a b ∧ RpAll U.G F us ds ∧ ds.length = n ∧
  ds[c1]? = some a ∧ ds[c2]? = some b ∧ m ds = some d ∧ ∀ v F' H', MGr U r a b F H F' H' → Rp U.G F' v d → Q v H'
/-- the arguments with the dict among them at j -/
def mAK (U : MC) (S : Sl) (O : List Nat) (j : Nat) (f : SI) : TA := fun σ H Q => ∃ F env r a b ds, MOk U S O r a b F H σ env ∧ f env = some ds ∧ ∀ us F' H', MGr U r a b F H F' H' → RpAll U.G F' us ds → Q (us.take j ++ .ref r :: us.drop j) H'
section
variable {X : Cx} {u : D → Bool} {sp : D → D → D → D} {S : Sl} {O : List Nat} {e : Expr} {es : List Expr} {l : List SE} {p pos : Pos} {x : Str} {k n j c1 c2 : Nat} {fa : Addr} {fd : FuncData} {ps : List Str} {a : SE}
theorem mk_here (hr : PA X es (mA (mc X u sp) S O (eArgs l))) (hN : X.N[S.i0]? = some x := by rfl) (hv : Vis X.env.scope x := by first | exact Or.inl rfl | exact Or.inr (Or.inl rfl) | exact Or.inr (Or.inr rfl)) (hd : (x == ("__debug__" : Str)) = false := by decide)
    (hcd : (x == ("__classdict__" : Str)) = false := by decide) (hs : starEach (.Name x p :: es) X.env = (false, eval (.Name x p) X.env) :: starEach es X.env := by rfl) : PA X (.Name x p :: es) (mAK (mc X u sp) S O 0 (eArgs l)) :=
  (pa_cons (pe_var hN hv hd hcd) hr hs).imp fun σ H Q ⟨F, env, r, a, b, ds, ok, hf, q⟩ =>
    ⟨_, ok.sg, F, env, r, a, b, ds, ok, hf, fun vs F' H' g r1 => q vs F' H' g r1⟩
theorem mk_cons (ha : PE X e (mV (mc X u sp) S O a)) (hr : PA X es (mAK (mc X u sp) S O j (eArgs l))) (hs : starEach (e :: es) X.env = (false, eval e X.env) :: starEach es X.env := by rfl) : PA X (e :: es) (mAK (mc X u sp) S O (j + 1) (eArgs (a :: l))) :=
  (pa_cons ha hr hs).imp fun σ H Q ⟨F, env, r, a, b, ds, ok, hf, q⟩ => by
    simp only [eArgs] at hf
    obtain ⟨x, h1, hf⟩ := bind_some hf
    obtain ⟨xs, h2, hf⟩ := map_some hf
    subst hf
    exact ⟨F, env, r, a, b, x, ok, h1, fun v F1 H1 g1 r1 => ⟨F1, env, r, a, b, xs, ok.gr g1, h2, fun us F2 H2 g2 r2 => q (v :: us) F2 H2 (g1.trans g2) (.cons (r1.mono g2.ff) r2)⟩⟩
theorem eArgs_at {env : Env} : ∀ {l : List SE} {ds : List D} {c i : Nat}, eArgs l env = some ds → l[c]? = some (eVar i) → ds[c]? = env.getD i none
  | a :: l, ds, 0, i, h, e => by
    cases Option.some.inj e
    simp only [eArgs] at h
    obtain ⟨x, h1, h⟩ := bind_some h
    obtain ⟨xs, h2, h⟩ := map_some h
    subst h
    exact h1.symm
  | a :: l, ds, c + 1, i, h, e => by
    simp only [eArgs] at h
    obtain ⟨x, h1, h⟩ := bind_some h
    obtain ⟨xs, h2, h⟩ := map_some h
    subst h
    exact eArgs_at (c := c) h2 e
  | [], _, 0, _, _, e => by cases e
  | [], _, _ + 1, _, _, e => by cases e
theorem mcall {m : List D → Option D} (F : FnOk X.prog X.w (gx X).K (gx X).mg X.base CX0 k fa fd ps (spM (mc X u sp) n j c1 c2 m)) (hr : Room k X.A) (hg : Gl X x) (hm : X.mg x = some (.ref fa)) (hk : PySem.W.keepIn X.K (.ref fa) = true) (hb : Binds X.K fd ps [])
    (ha : PA X (e :: es) (mAK (mc X u sp) S O j (eArgs l))) (hn : l.length = n := by rfl) (hc1 : l[c1]? = some (eVar S.i1) := by rfl) (hc2 : l[c2]? = some (eVar S.i2) := by rfl) (hdb : (x == ("__debug__" : Str)) = false := by decide) (he : starEach (e :: es) X.env = (false, eval e X.env) :: starEach es X.env := by rfl) (hpl : (backTo pos (starEach es X.env)).any (·.1) = false := by rfl) :
    PE X (.Call (.Name x p) (e :: es) [] pos) (mV (mc X u sp) S O (eCall m l)) :=
  (pe_call F hr hg hm hk hb .nil pass0 ha hdb he hpl).imp fun σ H Q ⟨F, env, r, a, b, d, ok, hf, q⟩ => by
    simp only [eCall] at hf
    obtain ⟨ds, h1, hf⟩ := bind_some hf
    refine ⟨F, env, r, a, b, ds, ok, h1, fun us F1 H1 g1 r1 => ?_⟩
    show spM (mc X u sp) n j c1 c2 m ((us.take j ++ .ref r :: us.drop j) ++ []) H1 Q E0
    rw [List.append_nil]
    exact ⟨F1, r, us, ds, a, b, d, rfl, (ok.gr g1).s.fz, g1.fr, g1.ce, r1, (eArgs_len l ds h1).trans hn, (eArgs_at h1 hc1).trans ok.e1, (eArgs_at h1 hc2).trans ok.e2, hf, fun v F2 H2 g2 r2 => q v F2 H2 (g1.trans g2) r2⟩
end
/-! ### f(.., {}) -/
/-- arguments, the last one a new dict -/
def aK (X : Cx) (G : Gx) (O : List Nat) (f : SI) : TA := fun σ H Q => ∃ F env ds, SOk G O F H σ env ∧ f env = some ds ∧
  ∀ us p F' H', Gr F H F' H' → (p == sysModules) = false → H' p = none → RpAll G F' us ds → Q (us ++ [.ref p]) (upd H' p (rawO X.prog X.w p []))
section
variable {X : Cx} {u : D → Bool} {sp : D → D → D → D} {O : List Nat} {e : Expr} {es : List Expr} {l : List SE} {p pos : Pos} {x : Str} {k n c1 c2 : Nat} {fa : Addr} {fd : FuncData} {ps : List Str} {a : SE}
theorem ak_end (hs : starEach [.Dict [] [] p] X.env = (false, eval (.Dict [] [] p) X.env) :: starEach [] X.env := by rfl) : PA X [.Dict [] [] p] (aK X (gx X) O (eArgs [])) :=
  (pa_cons pe_dnewR pa_nil hs).imp fun σ H Q ⟨F, env, ds, hs, hf, q⟩ => by
    cases hf
    exact fun p hp hn => q [] p F H (Gr.refl hs.fh) hp hn .nil
theorem ak_cons (ha : PE X e (rV (gx X) O a)) (hr : PA X es (aK X (gx X) O (eArgs l))) (hs : starEach (e :: es) X.env = (false, eval e X.env) :: starEach es X.env := by rfl) : PA X (e :: es) (aK X (gx X) O (eArgs (a :: l))) :=
  (pa_cons ha hr hs).imp fun σ H Q ⟨F, env, ds, hs, hf, q⟩ => by
    simp only [eArgs] at hf
    obtain ⟨x, h1, hf⟩ := bind_some hf
    obtain ⟨xs, h2, hf⟩ := map_some hf
    subst hf
    exact ⟨F, env, x, hs, h1, fun v F1 H1 g1 r1 => ⟨F1, env, xs, hs.gr g1, h2, fun us p F2 H2 g2 e1 e2 r2 => q (v :: us) p F2 H2 (g1.trans g2) e1 e2 (.cons (r1.mono g2.ff) r2)⟩⟩
theorem hid_fresh {r : Addr} {H : Hp} {o : HO} (h : H r = none) : hid r (upd H r o) = H := by
  funext b
  by_cases hb : b = r
  · subst hb; rw [hid_r, h]
  · rw [hid_ne hb, upd_ne hb]
theorem cel_new {U : MC} {F H : Hp} {r : Addr} {a b : D} (h : (r == sysModules) = false) : Cel U F (upd H r (rawO U.P U.w r [])) r a b := ⟨[], h, upd_same, List.nodup_nil, fun x hx => by cases hx⟩
/-- behind the dict's life -/
theorem mgr_out {U : MC} {r : Addr} {a b : D} {F H F' H' : Hp} {o : HO} (hn : H r = none) (g : MGr U r a b F (upd H r o) F' H') : Gr F H F' H' := by
  have g1 := g.g
  rw [hid_fresh hn] at g1
  exact ⟨g1.ff, g1.hh.trans (.of hid_le), g1.fh.trans hid_le, g1.hid⟩
theorem ecallM {m : List D → Option D} (F : FnOk X.prog X.w (gx X).K (gx X).mg X.base CX0 k fa fd ps (spM (mc X u sp) n n c1 c2 m)) (hr : Room k X.A) (hg : Gl X x) (hm : X.mg x = some (.ref fa)) (hk : PySem.W.keepIn X.K (.ref fa) = true) (hb : Binds X.K fd ps [])
    (ha : PA X (e :: es) (aK X (gx X) O (eArgs l))) (hn : l.length = n := by rfl) (h1 : c1 < n := by decide) (h2 : c2 < n := by decide) (hdb : (x == ("__debug__" : Str)) = false := by decide) (he : starEach (e :: es) X.env = (false, eval e X.env) :: starEach es X.env := by rfl) (hpl : (backTo pos (starEach es X.env)).any (·.1) = false := by rfl) :
    PE X (.Call (.Name x p) (e :: es) [] pos) (rV (gx X) O (eCall m l)) :=
  (pe_call F hr hg hm hk hb .nil pass0 ha hdb he hpl).imp fun σ H Q ⟨F, env, d, hs, hf, q⟩ => by
    simp only [eCall] at hf
    obtain ⟨ds, h3, hf⟩ := bind_some hf
    refine ⟨F, env, ds, hs, h3, fun us p F1 H1 g1 hp hnew r1 => ?_⟩
    show spM (mc X u sp) n n c1 c2 m ((us ++ [.ref p]) ++ []) _ Q E0
    rw [List.append_nil]
    have hl := (eArgs_len l ds h3).trans hn
    have hl2 := r1.length
    have hf1 : F1 p = none := Same.nn g1.fh hnew
    obtain ⟨a, ea⟩ : ∃ a, ds[c1]? = some a := ⟨_, List.getElem?_eq_getElem (by omega)⟩
    obtain ⟨b, eb⟩ : ∃ b, ds[c2]? = some b := ⟨_, List.getElem?_eq_getElem (by omega)⟩
    refine ⟨F1, p, us, ds, a, b, d, ?_, ?_, hf1, cel_new hp, r1, hl, ea, eb, hf, fun v F2 H2 g2 rv => q v F2 H2 (g1.trans (mgr_out hnew g2)) rv⟩
    · rw [List.take_of_length_le (by omega), List.drop_of_length_le (by omega)]
    · rw [hid_fresh hnew]
      exact (hs.gr g1).fz
end
end TL

set_option Elab.async false
set_option linter.all false
set_option maxRecDepth 100000
/-! The tree layer with a dict that remembers: comprehensions, generator expressions, statements, defs. -/
namespace TL
open PySem PySem.Spec PyProof.Rows L2
/-! ### pure: all(..), any(..) over a generator expression -/
def agGo (cb : Bool) (g : SG) (e : SE) (env : Env) : List D → Option D
  | [] => some (.bool cb)
  | x :: xs => (g x env).bind fun env1 => (e env1).bind fun y => (toB y).bind fun b => if b = cb then agGo cb g e env xs else some (.bool (!cb))
@[simp] def eAg (cb : Bool) (vs : List Nat) (it : SI) (g : SG) (e : SE) : SE := fun env => (it env).bind fun ds => agGo cb g e (wipeE env vs) ds
theorem wipeE_out : ∀ {vs : List Nat} {env : Env} {i : Nat}, i ∉ vs → (wipeE env vs).getD i none = env.getD i none
  | [], _, _, _ => rfl
  | v :: vs, env, i, h => by
    simp only [wipeE]
    rw [List.getD_eq_getElem?_getD, List.getElem?_set_ne (fun z => h (by rw [z]; exact List.mem_cons_self)), ← List.getD_eq_getElem?_getD]
    exact wipeE_out fun z => h (List.mem_cons_of_mem _ z)
/-- targets leave the other slots alone -/
def SgKeep (g : SG) (sl : List Nat) : Prop := ∀ d env e, g d env = some e → ∀ i, i ∉ sl → e.getD i none = env.getD i none
theorem keep_name (i : Nat) : SgKeep (TL.gName i) [i] := fun d env e h j hj => by
  cases h
  rw [List.getD_eq_getElem?_getD, List.getElem?_set_ne (fun z => hj (by rw [z]; exact List.mem_singleton.mpr rfl)), ← List.getD_eq_getElem?_getD]
def SgsKeep (gs : List SG) (sl : List Nat) : Prop := ∀ ds env e, gAll gs ds env = some e → ∀ i, i ∉ sl → e.getD i none = env.getD i none
theorem keep_nil : SgsKeep [] [] := fun ds env e h i hi => by
  cases ds with
  | nil => cases h; rfl
  | cons => cases h
theorem keep_cons {g : SG} {gs : List SG} {s1 s2 : List Nat} (h1 : SgKeep g s1) (h2 : SgsKeep gs s2) : SgsKeep (g :: gs) (s1 ++ s2) := fun ds env e h i hi => by
  cases ds with
  | nil => cases h
  | cons d ds =>
    simp only [gAll] at h
    obtain ⟨e1, h3, h4⟩ := bind_some h
    rw [h2 ds e1 e h4 i fun z => hi (List.mem_append_right _ z), h1 d env e1 h3 i fun z => hi (List.mem_append_left _ z)]
theorem keep_tup {gs : List SG} {sl : List Nat} (h : SgsKeep gs sl) : SgKeep (TL.gTup gs) sl := fun d env e he i hi => by
  simp only [TL.gTup] at he
  split at he
  · exact h _ _ _ he i hi
  · cases he
section
variable {X : Cx} {u : D → Bool} {sp : D → D → D → D} {S : Sl} {O : List Nat}
/-- the three slots are not among these -/
abbrev Sl.off (S : Sl) (vs : List Nat) : Prop := S.i0 ∉ vs ∧ S.i1 ∉ vs ∧ S.i2 ∉ vs
theorem mag_read {x : Str} {cc P : Addr} (hx : x ∈ tabNames) (ht : PySem.W.tabIn (gx X).K x = some (cc, P)) {cb : Bool} {fi : SI} {g : SG} {f : SE} {sl vs : List Nat} (hk : SgKeep g sl) (hsl : ∀ j ∈ sl, j ∈ vs) (hO : ∀ j ∈ vs, j ∉ O) (h0 : S.off vs) {σ : L2.St} {H : Hp} {Q : VK} (h : mV (mc X u sp) S O (eAg cb vs fi g f) σ H Q) :
    tAg P cb (iV (gx X) O fi) (tG (gx X) O sl g) (mV (mc X u sp) S O f) vs σ H Q := by
  obtain ⟨F, env, r, a, b, d, ok, hf, q⟩ := h
  simp only [eAg] at hf
  obtain ⟨ds, h1, hf⟩ := bind_some hf
  refine ⟨F, env, ds, ok.sok, h1, fun J F1 H1 g1 hz hJ => ⟨((ok.sok.gr g1).tb x hx cc P ht).2, fun H2 hT => ?_⟩⟩
  obtain ⟨⟨ps', e', t'⟩, hk2⟩ := hT
  obtain ⟨n1, ps, e1, t1⟩ := (ok.sok.gr g1).tb x hx cc P ht
  have gT : Gr F1 H1 F1 H2 := by
    refine ⟨Same.refl F1, ⟨fun b o e n => ?_, fun b qs e => ?_⟩, fun b o e => ?_, fun _ _ _ n => n⟩
    · rw [hk2 b fun z => by rw [z, e1] at e; cases e; cases n]; exact e
    · by_cases hb : b = P
      · subst hb; exact ⟨ps', e', fun _ => t'⟩
      · exact ⟨qs, by rw [hk2 b hb]; exact e, id⟩
    · rw [hk2 b fun z => by rw [z, n1] at e; cases e]; exact g1.fh b o e
  have w0 := ok.of (g1.trans gT)
  refine ⟨ds.length, fun i H' => ∃ F', MGr (mc X u sp) r a b F H F' H' ∧ Same F1 F' ∧ i ≤ ds.length ∧ agGo cb g f (wipeE env vs) (ds.drop i) = some d, ⟨F1, w0, Same.refl F1, Nat.zero_le _, hf⟩, ?_⟩
  rintro i H' ⟨F', gr, sm, hi, hgo⟩
  have hJ' := hJ i F' H' sm gr.fh
  have okw := ok.gr gr
  have s' := okw.sok.wipe hO
  cases hd : ds[i]? with
  | none =>
    have hi' : ds.length ≤ i := List.getElem?_eq_none_iff.mp hd
    rw [List.drop_eq_nil_of_le hi'] at hgo
    cases hgo
    exact .inl ⟨Nat.le_antisymm hi hi', hJ'.2 hd, q _ F' H' gr (.bl cb)⟩
  | some x =>
    have hi' : i < ds.length := (List.getElem?_eq_some_iff.mp hd).1
    have hx : ds[i] = x := (List.getElem?_eq_some_iff.mp hd).2
    have hdr : ds.drop i = x :: ds.drop (i + 1) := by rw [List.drop_eq_getElem_cons hi', hx]
    rw [hdr] at hgo
    simp only [agGo] at hgo
    obtain ⟨env1, hg1, hgo⟩ := bind_some hgo
    obtain ⟨y, he1, hgo⟩ := bind_some hgo
    obtain ⟨b', hb, hgo2⟩ := bind_some hgo
    have hb := toB_some hb
    subst hb
    clear hgo
    refine .inr ⟨hi', (hJ'.1 x hd).1, fun v H3 hy => ?_⟩
    obtain ⟨rfl, rv⟩ := (hJ'.1 x hd).2 v H3 hy
    refine ⟨F', _, x, env1, s', rv, hg1, fun σ2 s2 ln kp => ⟨(ext_wipe ln kp hsl).trans (wipe_idem vs σ), F', env1, r, a, b, .bool b', ⟨s2.rehid2 gr.fr gr.ce.nt fun j hj p hp => okw.ne j hj p ?_, gr.fr, gr.ce, ?_, ?_, ?_⟩, he1, fun w F4 H4 g4 r4 => ?_⟩⟩
    · rw [← wipe_out (σ := σ) (fun z => hO j z hj), ← kp j fun z => hO j (hsl j z) hj]
      exact hp
    · rw [kp S.i0 fun z => h0.1 (hsl _ z), wipe_out h0.1]
      exact ok.sg
    · rw [hk _ _ _ hg1 _ fun z => h0.2.1 (hsl _ z), wipeE_out h0.2.1]
      exact ok.e1
    · rw [hk _ _ _ hg1 _ fun z => h0.2.2 (hsl _ z), wipeE_out h0.2.2]
      exact ok.e2
    · cases r4
      refine ⟨b', rfl, ?_⟩
      split
      · rename_i hbc
        rw [if_pos hbc] at hgo2
        exact ⟨F4, gr.trans g4, sm.trans g4.ff, hi', hgo2⟩
      · rename_i hbc
        rw [if_neg hbc] at hgo2
        cases hgo2
        exact q _ F4 H4 (gr.trans g4) (.bl _)
theorem mall {x : Str} {cc P : Addr} {elt tg iter : Expr} {gpos p pos : Pos} {scope : Scope} {own : List (Str × Nat)} {fi : SI} {g : SG} {f : SE} {sl : List Nat} {k : Nat}
    (ht : PySem.W.tabIn (gx X).K x = some (cc, P)) (TB : GxR.TabB X.base X.mg cc P) (hcode : X.env.code = .ref cc) (hr : Room (k + 1) X.A) (hgl : Gl X "all") (hm : X.mg "all" = none) (hN : X.N.Nodup) (ok : GenOk X.N X.env.scope scope own) (hi : PI X tg iter (iV (gx X) O fi))
    (hg : ∀ (A : Around) (s : Shared) (H : Hp) (C : Addr) (code : Value) (fp : List Addr) (pn : List (Addr × Obj)), PG (gX X A s H (genEnv scope (cloFrom X.env.cells scope.names []) C code builtinsNs X.env) fp pn) tg (tG (gx X) O sl g))
    (he : ∀ (A : Around) (s : Shared) (H : Hp) (C : Addr) (code : Value) (fp : List Addr) (pn : List (Addr × Obj)), Room k A → PE (gX X A s H (genEnv scope (cloFrom X.env.cells scope.names []) C code builtinsNs X.env) fp pn) elt (mV (mc X u sp) S O f))
    (hk : SgKeep g sl) (hx : x ∈ tabNames := by decide) (hsl : ∀ j ∈ sl, j ∈ own.map (·.2) := by decide) (hO : ∀ j ∈ own.map (·.2), j ∉ O := by decide) (h0 : S.off (own.map (·.2)) := by decide) (hs : ∀ v, genFold iter X.env v = pure v := by intro _; rfl)
    (hst : starEach [.GeneratorExp elt [⟨tg, iter, [], 0⟩] scope gpos] X.env = (false, eval (.GeneratorExp elt [⟨tg, iter, [], 0⟩] scope gpos) X.env) :: starEach [] X.env := by rfl) :
    PE X (.Call (.Name "all" p) [.GeneratorExp elt [⟨tg, iter, [], 0⟩] scope gpos] [] pos) (mV (mc X u sp) S O (eAg true (own.map (·.2)) fi g f)) :=
  (pe_all hr hgl hm (by decide +kernel) TB hcode hN ok hi hg he hs hst).imp fun σ H Q h => mag_read hx ht hk hsl hO h0 h
theorem many {x : Str} {cc P : Addr} {elt tg iter : Expr} {gpos p pos : Pos} {scope : Scope} {own : List (Str × Nat)} {fi : SI} {g : SG} {f : SE} {sl : List Nat} {k : Nat}
    (ht : PySem.W.tabIn (gx X).K x = some (cc, P)) (TB : GxR.TabB X.base X.mg cc P) (hcode : X.env.code = .ref cc) (hr : Room (k + 1) X.A) (hgl : Gl X "any") (hm : X.mg "any" = none) (hN : X.N.Nodup) (ok : GenOk X.N X.env.scope scope own) (hi : PI X tg iter (iV (gx X) O fi))
    (hg : ∀ (A : Around) (s : Shared) (H : Hp) (C : Addr) (code : Value) (fp : List Addr) (pn : List (Addr × Obj)), PG (gX X A s H (genEnv scope (cloFrom X.env.cells scope.names []) C code builtinsNs X.env) fp pn) tg (tG (gx X) O sl g))
    (he : ∀ (A : Around) (s : Shared) (H : Hp) (C : Addr) (code : Value) (fp : List Addr) (pn : List (Addr × Obj)), Room k A → PE (gX X A s H (genEnv scope (cloFrom X.env.cells scope.names []) C code builtinsNs X.env) fp pn) elt (mV (mc X u sp) S O f))
    (hk : SgKeep g sl) (hx : x ∈ tabNames := by decide) (hsl : ∀ j ∈ sl, j ∈ own.map (·.2) := by decide) (hO : ∀ j ∈ own.map (·.2), j ∉ O := by decide) (h0 : S.off (own.map (·.2)) := by decide) (hs : ∀ v, genFold iter X.env v = pure v := by intro _; rfl)
    (hst : starEach [.GeneratorExp elt [⟨tg, iter, [], 0⟩] scope gpos] X.env = (false, eval (.GeneratorExp elt [⟨tg, iter, [], 0⟩] scope gpos) X.env) :: starEach [] X.env := by rfl) :
    PE X (.Call (.Name "any" p) [.GeneratorExp elt [⟨tg, iter, [], 0⟩] scope gpos] [] pos) (mV (mc X u sp) S O (eAg false (own.map (·.2)) fi g f)) :=
  (pe_any hr hgl hm TB hcode hN ok hi hg he hs hst).imp fun σ H Q h => mag_read hx ht hk hsl hO h0 h
/-! ### comprehensions -/
theorem mpT {ifs : List Expr} {f : ST} (h : PTs X ifs (rT (gx X) O f)) : PTs X ifs (mT (mc X u sp) S O f) := h.imp fun σ H Q ⟨F, env, r, a, b, d, ok, hf, q⟩ =>
  ⟨F, env, d, ok.sok, hf, fun F' H' g => q F' H' (ok.of g)⟩
theorem mpone {c : Expr} {f : ST} (h : PT X c (mT (mc X u sp) S O f)) : PTs X [c] (mT (mc X u sp) S O f) := pts_one h
theorem mlc_read {fi : SI} {g : SG} {k : ST} {f : SE} {sl vs : List Nat} (hk : SgKeep g sl) (hsl : ∀ j ∈ sl, j ∈ vs) (hO : ∀ j ∈ vs, j ∉ O) (h0 : S.off vs) {σ : L2.St} {H : Hp} {Q : VK} (h : mV (mc X u sp) S O (eLc vs fi g k f) σ H Q) :
    tLc (iV (gx X) O fi) (tG (gx X) O sl g) (mT (mc X u sp) S O k) (mV (mc X u sp) S O f) vs σ H Q := by
    obtain ⟨F, env, r, a, b, d, ok, hf, q⟩ := h
    simp only [eLc] at hf
    obtain ⟨ds, h1, hf⟩ := bind_some hf
    obtain ⟨es, h2, h3⟩ := map_some hf
    cases h3
    refine ⟨F, env, ds, ok.sok, h1, fun J F1 H1 gq hz hJ D0 hD => ?_⟩
    have g1 := ok.of gq
    have ok1 := ok.gr g1
    have hDr : D0 ≠ r := fun z => by
      obtain ⟨xs, _, e, _⟩ := ok1.ce
      rw [← z, hD] at e
      cases e
    have hD' : hid r H1 D0 = none := by rw [hid_ne hDr]; exact hD
    have hD1 : F1 D0 = none := Same.nn g1.fh hD
    refine ⟨fun i m H' => ∃ F' acc accD rest, LcI (gx X) F1 (hid r H1) F' (hid r H') D0 acc accD ∧ F' r = none ∧ Cel (mc X u sp) F' H' r a b ∧ accD.length ≤ i ∧ i ≤ ds.length ∧ m = ds.length - i ∧ lcGo g k f (wipeE env vs) (ds.drop i) = some rest ∧ es = accD ++ rest,
      ⟨ds.length, F1, [], [], es, ⟨by rw [hid_upd hDr]; exact Gr.open_ ok1.s.fh hD', hD1, by rw [hid_ne hDr]; exact upd_same, .nil⟩, ok1.fr, ok1.ce.mono (Same.refl _) (upd_ne (fun z => hDr z.symm)), Nat.le_refl _, Nat.zero_le _, by omega, h2, rfl⟩, ?_⟩
    rintro i m H' ⟨F', acc, accD, rest, L, fr, hr, l1, l2, rfl, hgo, ees⟩
    have okw : MOk (mc X u sp) S O r a b F' H' (L2.wipe σ vs) (wipeE env vs) := ⟨(ok1.s.gr L.gr).wipe hO, fr, hr, by rw [wipe_out h0.1]; exact ok.sg, by rw [wipeE_out h0.2.1]; exact ok.e1, by rw [wipeE_out h0.2.2]; exact ok.e2⟩
    have hJ' := hJ i F' H' L.gr.ff okw.sok.fh
    cases hd : ds[i]? with
    | none =>
      have hi : ds.length ≤ i := List.getElem?_eq_none_iff.mp hd
      refine .inl ⟨hJ'.2 hd, ?_⟩
      rw [List.drop_eq_nil_of_le hi] at hgo
      cases hgo
      rw [List.append_nil] at ees
      subst ees
      have gc : Gr F1 (hid r H1) (upd F' D0 (.lst acc)) (hid r H') := L.gr.close hD' L.fr L.at_
      exact q (.ref D0) (upd F' D0 (.lst acc)) H' (g1.trans ⟨gc, by rw [upd_ne (fun z => hDr z.symm)]; exact fr, hr.mono (same_upd L.fr) rfl⟩) (.lst (.inl (.inl upd_same)) (L.rp.mono (same_upd L.fr)))
    | some x =>
      have hi : i < ds.length := (List.getElem?_eq_some_iff.mp hd).1
      have hx : ds[i] = x := (List.getElem?_eq_some_iff.mp hd).2
      have hdr : ds.drop i = x :: ds.drop (i + 1) := by rw [List.drop_eq_getElem_cons hi, hx]
      rw [hdr] at hgo
      simp only [lcGo] at hgo
      obtain ⟨env1, hg1, hgo⟩ := bind_some hgo
      obtain ⟨b', hc1, hgo⟩ := bind_some hgo
      refine .inr ⟨(hJ'.1 x hd).1, fun H2 => ∃ F' acc accD rest, LcI (gx X) F1 (hid r H1) F' (hid r H2) D0 acc accD ∧ F' r = none ∧ Cel (mc X u sp) F' H2 r a b ∧ accD.length ≤ i + 1 ∧ lcGo g k f (wipeE env vs) (ds.drop (i + 1)) = some rest ∧ es = accD ++ rest, fun H2 h => ?_, fun v H2 hy => ?_⟩
      · obtain ⟨F2, acc2, accD2, rest2, L2, fr2, hr2, l3, hg2, e2⟩ := h
        exact ⟨ds.length - (i + 1), by omega, F2, acc2, accD2, rest2, L2, fr2, hr2, l3, hi, rfl, hg2, e2⟩
      · obtain ⟨rfl, rv⟩ := (hJ'.1 x hd).2 v H2 hy
        have mk : ∀ σ2, SOk (gx X) O F' H2 σ2 env1 → (∀ j, j ∉ sl → σ2[j]? = (L2.wipe σ vs)[j]?) → MOk (mc X u sp) S O r a b F' H2 σ2 env1 := fun σ2 s2 kp =>
          ⟨s2.rehid2 fr okw.ce.nt fun j hj p hp => okw.ne j hj p (by rw [← kp j fun z => hO j (hsl j z) hj]; exact hp), fr, hr, (kp _ fun z => h0.1 (hsl _ z)).trans okw.sg, (hk _ _ _ hg1 _ fun z => h0.2.1 (hsl _ z)).trans okw.e1, (hk _ _ _ hg1 _ fun z => h0.2.2 (hsl _ z)).trans okw.e2⟩
        refine ⟨F', _, x, env1, okw.sok, rv, hg1, fun σ2 s2 ln kp => ⟨ext_wipe ln kp hsl |>.trans ?_, F', env1, r, a, b, b', mk σ2 s2 kp, hc1, fun F3 H3 g3 => ?_⟩⟩
        · have : ∀ (vs ws : List Nat) (τ : L2.St), (∀ j ∈ ws, j ∈ vs) → L2.wipe (L2.wipe τ ws) vs = L2.wipe τ vs := fun vs ws τ h => ext_wipe (sl := ws) (wipe_length _ _) (fun j hj => wipe_out hj) h
          exact this _ _ _ fun j h => h
        · cases b' with
          | true =>
            rw [if_pos rfl] at hgo ⊢
            obtain ⟨y, he1, hgo⟩ := bind_some hgo
            obtain ⟨rest2, hg2, e2⟩ := map_some hgo
            subst e2
            refine ⟨F3, env1, r, a, b, y, (mk σ2 s2 kp).gr g3, he1, fun w F4 H4 g4 r4 => ?_⟩
            have L4 := (L.gr' g3.g).gr' g4.g
            have at4 := L4.at_
            rw [hid_ne hDr] at at4
            refine ⟨acc, at4, ?_, F4, acc ++ [w], accD ++ [y], rest2, by rw [hid_upd hDr]; exact L4.app hD' r4, g4.fr, g4.ce.mono (Same.refl _) (upd_ne (fun z => hDr z.symm)), by rw [List.length_append]; exact Nat.succ_le_succ l1, hg2, ?_⟩
            · rw [L.rp.length]
              omega
            · rw [ees, List.append_assoc]
              rfl
          | false =>
            rw [if_neg Bool.false_ne_true] at hgo ⊢
            exact ⟨F3, acc, accD, rest, L.gr' g3.g, g3.fr, g3.ce, by omega, hgo, ees⟩
theorem mlc {elt tg iter : Expr} {ifs : List Expr} {scope : Scope} {own : List (Str × Nat)} {pos : Pos} {fi : SI} {g : SG} {k : ST} {f : SE} {sl : List Nat} (hc : X.calm = true) (hN : X.N.Nodup) (hi : PI X tg iter (iV (gx X) O fi)) (ok : BlkOk X.N X.env.scope scope own)
    (hg : ∀ (s : Shared) (H : Hp) (C : Addr) (cl : List (Str × Addr)) (fp : List Addr), PG (X.blk s H scope (compEnvC scope cl C X.env) fp) tg (tG (gx X) O sl g)) (ht : ∀ (s : Shared) (H : Hp) (C : Addr) (cl : List (Str × Addr)) (fp : List Addr), PTs (X.blk s H scope (compEnvC scope cl C X.env) fp) ifs (mT (mc X u sp) S O k))
    (he : ∀ (s : Shared) (H : Hp) (C : Addr) (cl : List (Str × Addr)) (fp : List Addr), PE (X.blk s H scope (compEnvC scope cl C X.env) fp) elt (mV (mc X u sp) S O f)) (hk : SgKeep g sl) (hsl : ∀ j ∈ sl, j ∈ own.map (·.2) := by decide) (hO : ∀ j ∈ own.map (·.2), j ∉ O := by decide) (h0 : S.off (own.map (·.2)) := by decide) (hs : ∀ x, foldedSetIterable iter X.env x = pure x := by intro _; rfl) :
    PE X (.ListComp elt [⟨tg, iter, ifs, 0⟩] scope pos) (mV (mc X u sp) S O (eLc (own.map (·.2)) fi g k f)) :=
  (pe_lc hc hN hi ok hg ht he hs).imp fun σ H Q h => mlc_read hk hsl hO h0 h
end
/-! ### statements -/
def mPost (U : MC) (S : Sl) (O' Ob : List Nat) (F0 H0 : Hp) (r : Addr) (a b : D) (F : Hp) (D : Ends) : Out → Prop
  | .nx e => ∀ σ' F' H', MOk U S O' r a b F' H' σ' e → Fr F0 (hid r H0) O' F' (hid r H') σ' → Same F F' → D.nx σ' H'
  | .bk e => ∀ σ' F' H', MOk U S Ob r a b F' H' σ' e → Fr F0 (hid r H0) Ob F' (hid r H') σ' → Same F F' → D.bk σ' H'
  | .ct e => ∀ σ' F' H', MOk U S Ob r a b F' H' σ' e → Fr F0 (hid r H0) Ob F' (hid r H') σ' → Same F F' → D.ct σ' H'
  | .rt d => ∀ v F' H', MGr U r a b F0 H0 F' H' → Rp U.G F' v d → D.rt v H'
theorem mPost.ff {U : MC} {S : Sl} {O' Ob : List Nat} {F0 H0 F F1 : Hp} {r : Addr} {a b : D} {D : Ends} {out : Out} (q : mPost U S O' Ob F0 H0 r a b F D out) (k : Same F F1) : mPost U S O' Ob F0 H0 r a b F1 D out := by
  cases out with
  | nx e => exact fun σ' F' H' s' f' k' => q σ' F' H' s' f' (k.trans k')
  | bk e => exact fun σ' F' H' s' f' k' => q σ' F' H' s' f' (k.trans k')
  | ct e => exact fun σ' F' H' s' f' k' => q σ' F' H' s' f' (k.trans k')
  | rt d => exact q
def mS (U : MC) (S : Sl) (O O' Ob : List Nat) (f : SS) : TS := fun D σ H => ∃ F0 H0 F env r a b out, MOk U S O r a b F H σ env ∧ Fr F0 (hid r H0) O F (hid r H) σ ∧ f env = some out ∧ mPost U S O' Ob F0 H0 r a b F D out
section
variable {X : Cx} {u : D → Bool} {sp : D → D → D → D} {S : Sl} {O O' O'' Ob : List Nat} {st : Stmt} {rest : List Stmt} {pos : Pos}
theorem mbn : PSs X [] (mS (mc X u sp) S O O Ob sNext) := pss_nil.imp fun D σ H ⟨F0, H0, F, env, r, a, b, out, ok, hf, ho, q⟩ => by
  cases ho
  exact q σ F H ok hf (Same.refl F)
theorem mbc {f g : SS} (h1 : PS X st (mS (mc X u sp) S O O' Ob f)) (h2 : PSs X rest (mS (mc X u sp) S O' O'' Ob g)) : PSs X (st :: rest) (mS (mc X u sp) S O O'' Ob (sSeq f g)) :=
  (pss_cons h1 h2).imp fun D σ H ⟨F0, H0, F, env, r, a, b, out, ok, hf, ho, q⟩ => by
    simp only [sSeq] at ho
    obtain ⟨o1, h1, h2⟩ := bind_some ho
    refine ⟨F0, H0, F, env, r, a, b, o1, ok, hf, h1, ?_⟩
    cases o1 with
    | nx e => exact fun σ' F' H' s' f' k' => ⟨F0, H0, F', e, r, a, b, out, s', f', h2, q.ff k'⟩
    | bk e => cases h2; exact q
    | ct e => cases h2; exact q
    | rt d => cases h2; exact q
theorem mbo {f : SS} (h1 : PS X st (mS (mc X u sp) S O O' Ob f)) : PSs X [st] (mS (mc X u sp) S O O' Ob f) := pss_one h1
theorem mbreak : PS X (.Break pos) (mS (mc X u sp) S O O' O sBreak) := ps_break.imp fun D σ H ⟨F0, H0, F, env, r, a, b, out, ok, hf, ho, q⟩ => by
  cases ho
  exact q σ F H ok hf (Same.refl F)
theorem mless_core {U : MC} {r : Addr} {a b : D} {F0 H0 F H : Hp} {σ : L2.St} {env : Env} (ok : MOk U S O r a b F H σ env) (hf : Fr F0 (hid r H0) O F (hid r H) σ) (h : ∀ i ∈ O', i ∈ O) : ∃ F', MOk U S O' r a b F' H σ env ∧ Fr F0 (hid r H0) O' F' (hid r H) σ ∧ Same F F' := by
  obtain ⟨F2, s2, f2, k2⟩ := SOk.less ok.s hf h
  refine ⟨F2, ⟨s2, ?_, ok.ce.mono k2 rfl, ok.sg, ok.e1, ok.e2⟩, f2, k2⟩
  cases z : F2 r with
  | none => rfl
  | some o =>
    have := s2.fh r o z
    rw [hid_r] at this
    cases this
theorem mspre {f : SS} (hs : PS X st (mS (mc X u sp) S O' O'' Ob f)) (h : ∀ i ∈ O', i ∈ O := by decide) : PS X st (mS (mc X u sp) S O O'' Ob f) :=
  hs.imp fun D σ H ⟨F0, H0, F, env, r, a, b, out, ok, hf, ho, q⟩ => by
    obtain ⟨F2, s2, f2, k2⟩ := mless_core ok hf h
    exact ⟨F0, H0, F2, env, r, a, b, out, s2, f2, ho, q.ff k2⟩
theorem mbless {f : SS} {sts : List Stmt} (hs : PSs X sts (mS (mc X u sp) S O O' Ob f)) (h : ∀ i ∈ O'', i ∈ O' := by decide) : PSs X sts (mS (mc X u sp) S O O'' Ob f) :=
  hs.imp fun D σ H ⟨F0, H0, F, env, r, a, b, out, ok, hf, ho, q⟩ => ⟨F0, H0, F, env, r, a, b, out, ok, hf, ho, by
    cases out with
    | nx e => exact fun σ' F' H' s' f' k' => let ⟨F2, s2, f2, k2⟩ := mless_core s' f' h; q σ' F2 H' s2 f2 (k'.trans k2)
    | bk e => exact q
    | ct e => exact q
    | rt d => exact q⟩
theorem msless {f : SS} (hs : PS X st (mS (mc X u sp) S O O' Ob f)) (h : ∀ i ∈ O'', i ∈ O' := by decide) : PS X st (mS (mc X u sp) S O O'' Ob f) :=
  hs.imp fun D σ H ⟨F0, H0, F, env, r, a, b, out, ok, hf, ho, q⟩ => ⟨F0, H0, F, env, r, a, b, out, ok, hf, ho, by
    cases out with
    | nx e => exact fun σ' F' H' s' f' k' => let ⟨F2, s2, f2, k2⟩ := mless_core s' f' h; q σ' F2 H' s2 f2 (k'.trans k2)
    | bk e => exact q
    | ct e => exact q
    | rt d => exact q⟩
theorem mret {e : Expr} {f : SE} (he : PE X e (mV (mc X u sp) S O f)) : PS X (.Return (some e) pos) (mS (mc X u sp) S O O' Ob (sRet f)) :=
  (ps_ret he).imp fun D σ H ⟨F0, H0, F, env, r, a, b, out, ok, hf, ho, q⟩ => by
    simp only [sRet] at ho
    obtain ⟨d, h1, h2⟩ := map_some ho
    subst h2
    exact ⟨F, env, r, a, b, d, ok, h1, fun v F' H' g r' => q v F' H' ⟨hf.gr.trans g.g, g.fr, g.ce⟩ r'⟩
theorem mif_ {c : Expr} {sa sb : List Stmt} {fc : ST} {fa fb : SS} (hc : PT X c (mT (mc X u sp) S O fc)) (ha : PSs X sa (mS (mc X u sp) S O O' Ob fa)) (hb : PSs X sb (mS (mc X u sp) S O O' Ob fb)) : PS X (.If c sa sb pos) (mS (mc X u sp) S O O' Ob (sIf fc fa fb)) :=
  (ps_if hc ha hb).imp fun D σ H ⟨F0, H0, F, env, r, a, b, out, ok, hf, ho, q⟩ => by
    simp only [sIf] at ho
    obtain ⟨k, h1, h2⟩ := bind_some ho
    refine ⟨F, env, r, a, b, k, ok, h1, fun F1 H1 g1 => ?_⟩
    have q' := q.ff g1.ff
    cases k with
    | true => exact ⟨F0, H0, F1, env, r, a, b, out, ok.gr g1, hf.step g1.g, h2, q'⟩
    | false => exact ⟨F0, H0, F1, env, r, a, b, out, ok.gr g1, hf.step g1.g, h2, q'⟩
theorem setD_ne {env : Env} {i j : Nat} {d : Option D} (h : i ≠ j) : (env.set i d).getD j none = env.getD j none := by
  rw [List.getD_eq_getElem?_getD, List.getElem?_set_ne h, ← List.getD_eq_getElem?_getD]
theorem MOk.set {U : MC} {r : Addr} {a b : D} {F H : Hp} {σ : L2.St} {env : Env} (ok : MOk U S O r a b F H σ env) {i : Nat} {v : V} {d : D} (hO : i ∉ O) (h0 : S.off [i]) (rv : Rp U.G F v d) : MOk U S O r a b F H (σ.set i (some v)) (env.set i (some d)) := by
  have n0 : i ≠ S.i0 := fun z => h0.1 (by rw [z]; exact List.mem_singleton.mpr rfl)
  have n1 : i ≠ S.i1 := fun z => h0.2.1 (by rw [z]; exact List.mem_singleton.mpr rfl)
  have n2 : i ≠ S.i2 := fun z => h0.2.2 (by rw [z]; exact List.mem_singleton.mpr rfl)
  exact ⟨ok.s.set hO rv, ok.fr, ok.ce, by rw [List.getElem?_set_ne n0]; exact ok.sg, by rw [setD_ne n1]; exact ok.e1, by rw [setD_ne n2]; exact ok.e2⟩
theorem mset {x : Str} {e : Expr} {f : SE} {pos' : Pos} (i : Nat) (hN : X.N.Nodup) (he : PE X e (mV (mc X u sp) S O f)) (hO : i ∉ O := by decide) (h0 : S.off [i] := by decide) (hi : X.N[i]? = some x := by rfl) (hx : Loc X.env.scope x := by first | exact Or.inl rfl | exact Or.inr rfl) (hs : swapsWith e (some (.Name x pos')) pos.line X.env = pure false := by rfl)
    (hf : X.fn x = true ∨ X.env.scope.names.lookup x = some .local := by first | exact .inl rfl | exact .inr rfl | assumption) : PS X (.Assign [.Name x pos'] e pos) (mS (mc X u sp) S O O Ob (sAsg f (TL.gName i))) :=
  (ps_set hN hi hx he hs hf).imp fun D σ H ⟨F0, H0, F, env, r, a, b, out, ok, hf, ho, q⟩ => by
    simp only [sAsg, TL.gName] at ho
    obtain ⟨d, h1, h2⟩ := bind_some ho
    cases h2
    exact ⟨F, env, r, a, b, d, ok, h1, fun v F1 H1 g1 r1 => q _ F1 H1 ((ok.gr g1).set hO h0 r1) (fr_set (hf.step g1.g) hO) g1.ff⟩
/-- a list that stays open: name = [] -/
theorem mapp {x : Str} {e : Expr} {f : SE} {p1 apos cpos : Pos} (i : Nat) (he : PE X e (mV (mc X u sp) S O f)) (hi : i ∈ O := by decide) (h0 : S.off [i] := by decide) (hN : X.N[i]? = some x := by rfl) (hv : Vis X.env.scope x := by first | exact Or.inl rfl | exact Or.inr (Or.inl rfl) | exact Or.inr (Or.inr rfl)) (hd : (x == ("__debug__" : Str)) = false := by decide)
    (hcd : (x == ("__classdict__" : Str)) = false := by decide)
    (hbase : attributeBase (.Name x p1) "append" X.env (eval (.Name x p1) X.env) = eval (.Name x p1) X.env := by rfl)
    (hfew : ((backTo cpos (starEach [e] X.env)).all (fun x => !x.1) && (backToKw cpos (keywordEach [] X.env)).all (fun x => x.1.isSome)
      && decide ([e].length + ([] : List Keyword).length + (if ([] : List Keyword).isEmpty then 0 else 1) < 30)) = true := by rfl)
    (hline : (apos.endLine == cpos.line) = true := by rfl) (hs1 : starEach [e] X.env = (false, eval e X.env) :: starEach [] X.env := by rfl) (hplain : (backTo cpos (starEach [] X.env)).any (·.1) = false := by rfl)
    (hs : swapsWith (.Call (.Attribute (.Name x p1) "append" apos) [e] [] cpos) none pos.line X.env = pure false := by rfl) :
    PS X (.Expr (.Call (.Attribute (.Name x p1) "append" apos) [e] [] cpos) pos) (mS (mc X u sp) S O O Ob (sApp i f)) :=
  (ps_expr (pe_bm PySem.F.plainAttrs_list PySem.F.slot_list_append PySem.F.type_list_append mt_append (pe_var hN hv hd hcd) (pa_cons he pa_nil hs1) hbase hfew hline hs1 hplain) hs).imp fun D σ H ⟨F0, H0, F, env, r, a, b, out, ok, hf, ho, q⟩ => by
    simp only [sApp] at ho
    obtain ⟨d, h1, ho⟩ := bind_some ho
    obtain ⟨p, vs, ds, h2, h3, h4, h5, h6⟩ := ok.s.own i hi
    rw [show env.getD i none = some (.list ds) by rw [List.getD_eq_getElem?_getD, h3]; rfl] at ho
    simp only at ho
    split at ho
    · rename_i hz
      cases ho
      refine ⟨.ref p, h2, .inl ⟨rfl, vs, .inl (.inl (hid_le _ _ h5))⟩, F, env, r, a, b, d, ok, h1, fun v F1 H1 g1 r1 => ⟨p, vs, v, rfl, rfl, hid_le _ _ (g1.g.hh.l h5), by rw [h6.length]; exact hz, ?_⟩⟩
      have hne : p ≠ r := (hid_some h5).1
      have eH : hid r (upd H1 p (.lst (vs ++ [v]))) = upd (hid r H1) p (.lst (vs ++ [v])) := hid_upd hne
      have n0 : i ≠ S.i0 := fun z => h0.1 (by rw [z]; exact List.mem_singleton.mpr rfl)
      have n1 : i ≠ S.i1 := fun z => h0.2.1 (by rw [z]; exact List.mem_singleton.mpr rfl)
      have n2 : i ≠ S.i2 := fun z => h0.2.2 (by rw [z]; exact List.mem_singleton.mpr rfl)
      refine q σ F1 _ ⟨?_, g1.fr, g1.ce.mono (Same.refl _) (upd_ne (fun z => hne z.symm)), ok.sg, by rw [setD_ne n1]; exact ok.e1, by rw [setD_ne n2]; exact ok.e2⟩ ?_ g1.ff
      · rw [eH]
        exact (ok.s.gr g1.g).chg hi h2 ((h6.mono g1.ff).append (.cons r1 .nil))
      · rw [eH]
        exact fr_chg (ok.s.gr g1.g) (hf.step g1.g) hi h2
    · cases ho
theorem mfor {tg iter : Expr} {body : List Stmt} {fi : SI} {g : SG} {fb : SS} {sl : List Nat} (hp : PassesOwn (model X.prog X.w) X.A X.env X.xe) (hc : X.calm = true) (hi : PI X tg iter (iV (gx X) O fi)) (hg : PG X tg (tG (gx X) O sl g)) (hb : PSs X body (mS (mc X u sp) S O O O fb)) (hk : SgKeep g sl) (hsl : ∀ i ∈ O, i ∉ sl := by decide) (h0 : S.off sl := by decide)
    (hs : ∀ x, foldedSetIterable iter X.env x = pure x := by intro _; rfl) : PS X (.For tg iter body [] pos) (mS (mc X u sp) S O O Ob (sFor fi g fb)) :=
  (ps_for hp hc hi hg hb hs).imp fun D σ H ⟨F0, H0, F, env, r, a, b, out, ok, hf, ho, q⟩ => by
    simp only [sFor] at ho
    obtain ⟨ds, h1, ho⟩ := bind_some ho
    refine ⟨F, env, ds, ok.sok, h1, fun J F1 H1 gq hz hJ => ?_⟩
    have g1 := ok.of gq
    refine ⟨fun i m σ' H' => ∃ F' env', MOk (mc X u sp) S O r a b F' H' σ' env' ∧ Fr F0 (hid r H0) O F' (hid r H') σ' ∧ Same F1 F' ∧ i ≤ ds.length ∧ m = ds.length - i ∧ forGo g fb (ds.drop i) env' = some out,
      ⟨ds.length, F1, env, ok.gr g1, hf.step g1.g, Same.refl F1, Nat.zero_le _, by omega, ho⟩, ?_⟩
    rintro i m σ' H' ⟨F', env', s', f', k', hi, rfl, hgo⟩
    have hJ' := hJ i F' H' k' s'.sok.fh
    cases hd : ds[i]? with
    | none =>
      have hi' : ds.length ≤ i := List.getElem?_eq_none_iff.mp hd
      rw [List.drop_eq_nil_of_le hi'] at hgo
      cases hgo
      exact .inl ⟨hJ'.2 hd, q σ' F' H' s' f' (g1.ff.trans k')⟩
    | some x =>
      have hi' : i < ds.length := (List.getElem?_eq_some_iff.mp hd).1
      have hx : ds[i] = x := (List.getElem?_eq_some_iff.mp hd).2
      have hdr : ds.drop i = x :: ds.drop (i + 1) := by rw [List.drop_eq_getElem_cons hi', hx]
      rw [hdr] at hgo
      simp only [forGo] at hgo
      obtain ⟨env1, hg1, hgo⟩ := bind_some hgo
      obtain ⟨o, hb1, hgo⟩ := bind_some hgo
      refine .inr ⟨(hJ'.1 x hd).1, fun σ2 H2 => ∃ F2 env2, MOk (mc X u sp) S O r a b F2 H2 σ2 env2 ∧ Fr F0 (hid r H0) O F2 (hid r H2) σ2 ∧ Same F' F2 ∧ forGo g fb (ds.drop (i + 1)) env2 = some out, fun σ2 H2 h => ?_, fun v H2 hy => ?_⟩
      · obtain ⟨F2, env2, s2, f2, k2, hg2⟩ := h
        exact ⟨ds.length - (i + 1), by omega, F2, env2, s2, f2, k'.trans k2, hi', rfl, hg2⟩
      · obtain ⟨rfl, rv⟩ := (hJ'.1 x hd).2 v H2 hy
        refine ⟨F', env', x, env1, s'.sok, rv, hg1, fun σ2 s2 ln kp => ⟨F0, H0, F', env1, r, a, b, o, ⟨s2.rehid2 s'.fr s'.ce.nt fun j hj p hp => s'.ne j hj p (by rw [← kp j (hsl j hj)]; exact hp), s'.fr, s'.ce, (kp _ h0.1).trans s'.sg, (hk _ _ _ hg1 _ h0.2.1).trans s'.e1, (hk _ _ _ hg1 _ h0.2.2).trans s'.e2⟩, ⟨f'.gr, fun j hj p hp => f'.own j hj p (by rw [← kp j (hsl j hj)]; exact hp)⟩, hb1, ?_⟩⟩
        cases o with
        | nx e => exact fun σ3 F3 H3 s3 f3 k3 => ⟨F3, e, s3, f3, k3, hgo⟩
        | ct e => exact fun σ3 F3 H3 s3 f3 k3 => ⟨F3, e, s3, f3, k3, hgo⟩
        | bk e =>
          cases hgo
          exact fun σ3 F3 H3 s3 f3 k3 => q σ3 F3 H3 s3 f3 ((g1.ff.trans k').trans k3)
        | rt d =>
          cases hgo
          exact q
end
end TL

set_option Elab.async false
set_option linter.all false
set_option maxRecDepth 100000
/-! The tree layer with a dict that remembers: the look-up, defs, a dict of one's own. -/
namespace TL
open PySem PySem.Spec PyProof.Rows L2
/-! ### equality of trees, decided -/
mutual
def deq : D → D → Bool
  | .none, .none => true
  | .bool a, .bool b => decide (a = b)
  | .int a, .int b => decide (a = b)
  | .str a, .str b => decide (a = b)
  | .tuple a, .tuple b => deqs a b
  | .list a, .list b => deqs a b
  | _, _ => false
def deqs : List D → List D → Bool
  | [], [] => true
  | a :: l, b :: m => deq a b && deqs l m
  | _, _ => false
end
mutual
theorem deq_eq : ∀ {a b : D}, deq a b = true → a = b
  | .none, b, h => by cases b <;> simp [deq] at h ⊢
  | .bool x, b, h => by cases b <;> simp [deq] at h ⊢; exact h
  | .int x, b, h => by cases b <;> simp [deq] at h ⊢; exact h
  | .str x, b, h => by cases b <;> simp [deq] at h ⊢; exact h
  | .tuple l, b, h => by
    cases b with
    | tuple m =>
      simp only [deq] at h
      rw [deqs_eq h]
    | _ => simp [deq] at h
  | .list l, b, h => by
    cases b with
    | list m =>
      simp only [deq] at h
      rw [deqs_eq h]
    | _ => simp [deq] at h
  | .dict l, b, h => by cases b <;> simp [deq] at h
theorem deqs_eq : ∀ {l m : List D}, deqs l m = true → l = m
  | [], m, h => by cases m <;> simp [deqs] at h ⊢
  | a :: l, m, h => by
    cases m with
    | nil => simp [deqs] at h
    | cons b m =>
      simp only [deqs, Bool.and_eq_true] at h
      rw [deq_eq h.1, deqs_eq h.2]
end
mutual
def noDict : D → Bool
  | .dict _ => false
  | .tuple l => noDicts l
  | .list l => noDicts l
  | _ => true
def noDicts : List D → Bool
  | [] => true
  | a :: l => noDict a && noDicts l
end
mutual
theorem deq_refl : ∀ {a : D}, noDict a = true → deq a a = true
  | .none, _ => rfl
  | .bool x, _ => by simp [deq]
  | .int x, _ => by simp [deq]
  | .str x, _ => by simp [deq]
  | .tuple l, h => by
    simp only [noDict] at h
    simp only [deq]
    exact deqs_refl h
  | .list l, h => by
    simp only [noDict] at h
    simp only [deq]
    exact deqs_refl h
  | .dict l, h => by simp [noDict] at h
theorem deqs_refl : ∀ {l : List D}, noDicts l = true → deqs l l = true
  | [], _ => rfl
  | a :: l, h => by
    simp only [noDicts, Bool.and_eq_true] at h
    simp only [deqs, deq_refl h.1, deqs_refl h.2, Bool.and_self]
end
/-- .. known[KEY] = E, at the end of the block -/
@[simp] def sEnd (u : D → Bool) (sp : D → D → D → D) (i1 i2 : Nat) (fk e : SE) : SS := fun env => (fk env).bind fun kd => (e env).bind fun d => (env.getD i1 none).bind fun a => (env.getD i2 none).bind fun b => if (u kd && deq d (sp a b kd)) = true then some (.rt d) else none
@[simp] def sSeqN (f g : SS) : SS := fun env => (f env).bind fun o => match o with
  | .nx e => g e
  | _ => none
/-- if KEY not in known: BODY; return known[KEY], told without the dict -/
@[simp] def sMemo (u : D → Bool) (sp : D → D → D → D) (i1 i2 : Nat) (fk : SE) (blk : SS) : SS := fun env => (fk env).bind fun kd => (blk env).bind fun o => match o with
  | .rt d => (env.getD i1 none).bind fun a => (env.getD i2 none).bind fun b => if (u kd && deq d (sp a b kd)) = true then some (.rt d) else none
  | _ => none
/-- at the key's place stands d -/
def Has (U : MC) (F H : Hp) (r : Addr) (kd d : D) : Prop := ∃ xs k v, KDat U.P U.w U.G F H r xs ∧ keyD kd = some k ∧ atV xs k = some v ∧ Rp U.G F v d
def mBk (U : MC) (S : Sl) (O : List Nat) (fk : SE) (f : SS) : TS := fun D σ H => ∃ F0 H0 F env r a b d, MOk U S O r a b F H σ env ∧ Fr F0 (hid r H0) O F (hid r H) σ ∧ f env = some (.rt d) ∧
  ∀ σ' F' H' env' kd, MOk U S O r a b F' H' σ' env' → Fr F0 (hid r H0) O F' (hid r H') σ' → Same F F' → fk env' = some kd → U.u kd = true → Has U F' H' r kd d → D.nx σ' H'
theorem atV_put {xs : List KEnt} {k : NestedKey} {b : Addr} {v : V} : atV (putR xs k b v) k = some v := by
  unfold putR
  split
  · rename_i h
    revert h
    induction xs with
    | nil => intro h; cases h
    | cons x xs ih =>
      intro h
      by_cases hk : x.1 = k
      · simp [atV, List.find?_cons, hk]
      · have e : atV (x :: xs) k = atV xs k := by simp [atV, List.find?_cons, hk]
        rw [e] at h
        rw [List.map_cons, if_neg hk]
        have e2 : atV (x :: xs.map fun x => if x.1 = k then (x.1, x.2.1, v) else x) k = atV (xs.map fun x => if x.1 = k then (x.1, x.2.1, v) else x) k := by simp [atV, List.find?_cons, hk]
        rw [e2]
        exact ih h
  · rename_i h
    have h : atV xs k = none := by
      cases e : atV xs k with
      | none => rfl
      | some _ => rw [e] at h; exact absurd rfl h
    unfold atV at h ⊢
    rw [List.find?_append, Option.map_eq_none_iff.mp h]
    simp
section
variable {X : Cx} {u : D → Bool} {sp : D → D → D → D} {S : Sl} {O O' Ob : List Nat}
theorem isK_of {U : MC} {F : Hp} {v : V} {kd : D} (uk : UOk U.u) (hu : U.u kd = true) (r : Rp U.G F v kd) : ∃ k, IsK U.G F v kd k := by
  obtain ⟨L, _, h⟩ := uk.fin
  obtain ⟨k, _, h1, h2⟩ := h kd hu
  obtain ⟨ds, e⟩ := uk.tup kd hu
  subst e
  cases r with
  | tup h3 h4 => exact ⟨k, ⟨_, rfl⟩, .tup h3 h4, h1, h2⟩
theorem upd_hid {r : Addr} {H : Hp} {o : HO} : hid r (upd H r o) = hid r H := by
  funext b
  by_cases hb : b = r
  · subst hb; rw [hid_r, hid_r]
  · rw [hid_ne hb, hid_ne hb, upd_ne hb]
theorem mbk_end {x : Str} {k2 ve : Expr} {fk e : SE} {p2 q1 q2 : Pos} (uk : UOk u) (hu : X.A.units + 64 < cLine) (hk2 : PE X k2 (rV (gx X) O fk)) (hv : PE X ve (mV (mc X u sp) S O e)) (hN : X.N[S.i0]? = some x := by rfl) (hvi : Vis X.env.scope x := by first | exact Or.inl rfl | exact Or.inr (Or.inl rfl) | exact Or.inr (Or.inr rfl)) (hd : (x == ("__debug__" : Str)) = false := by decide)
    (hcd : (x == ("__classdict__" : Str)) = false := by decide)
    (hs : swapsWithSole [.Subscript (.Name x p2) k2 q1] ve q2.line X.env = pure false := by rfl) (hw : swappedStores [.Subscript (.Name x p2) k2 q1] ve X.env = pure none := by rfl)
    (h1 : (assignEach [.Subscript (.Name x p2) k2 q1] X.env).map (·.2) = [assign (.Subscript (.Name x p2) k2 q1) X.env] := by rfl)
    (ha : ∀ v, assign (.Subscript (.Name x p2) k2 q1) X.env v = (do
      let ov ← holding [v] (eval (.Name x p2) X.env)
      let iv ← holding [v, ov] (eval k2 X.env)
      standAt q1
      holding [v, ov, iv] (setItem ov iv v)
      release [v, ov, iv] []) := by intro _; rfl) :
    PSs X [.Assign [.Subscript (.Name x p2) k2 q1] ve q2] (mBk (mc X u sp) S O fk (sEnd u sp S.i1 S.i2 fk e)) :=
  pss_one ((ps_asg hv (pg_sub (pe_var hN hvi hd hcd) hk2 (set_K hu) ha) hs hw h1).imp fun D σ H ⟨F0, H0, F, env, r, a, b, d, ok, hf, ho, q⟩ => by
    simp only [sEnd] at ho
    obtain ⟨kd, h2, ho⟩ := bind_some ho
    obtain ⟨d', h3, ho⟩ := bind_some ho
    obtain ⟨a', h4, ho⟩ := bind_some ho
    obtain ⟨b', h5, ho⟩ := bind_some ho
    rw [ok.e1] at h4
    rw [ok.e2] at h5
    cases h4
    cases h5
    split at ho
    · rename_i hz
      cases ho
      rw [Bool.and_eq_true] at hz
      have ed := deq_eq hz.2
      refine ⟨F, env, r, a, b, d, ok, h3, fun v F1 H1 g1 r1 => ⟨_, ok.sg, F1, env, kd, (ok.gr g1).sok, h2, fun y F2 H2 g2 r2 => ?_⟩⟩
      have gm := (ok.gr g1).of g2
      have ok2 := (ok.gr g1).gr gm
      obtain ⟨xs, kdat, hxs⟩ := ok2.ce.dat uk
      obtain ⟨k, ik⟩ := isK_of (U := mc X u sp) uk hz.1 r2
      obtain ⟨c, rfl⟩ := ik.ref
      refine ⟨F2, r, xs, kd, k, c, rfl, ok2.sok.fh, kdat, rfl, ik, ?_⟩
      have rv : Rp (gx X) F2 v d := r1.mono g2.ff
      have cel4 : ∀ x ∈ putR xs k c v, ∃ kd, (mc X u sp).u kd = true ∧ keyD kd = some x.1 ∧ Rp (gx X) F2 (.ref x.2.1) kd ∧ Rp (gx X) F2 x.2.2 ((mc X u sp).sp a b kd) := fun z hz2 => by
        rcases putR_mem hz2 with e | hm | ⟨y, hy, hy2, e⟩
        · subst e
          exact ⟨kd, hz.1, ik.ke, ik.rp, by rw [show (mc X u sp).sp a b kd = d from ed.symm]; exact rv⟩
        · exact hxs z hm
        · subst e
          obtain ⟨kd', t1, t2, t3, t4⟩ := hxs y hy
          have : kd' = kd := uk.inj kd' kd t1 hz.1 (by rw [t2, hy2, ik.ke])
          subst this
          exact ⟨kd', t1, t2, t3, by rw [show (mc X u sp).sp a b kd' = d from ed.symm]; exact rv⟩
      have cel : Cel (mc X u sp) F2 (upd H2 r (rawO X.prog X.w r (putR xs k c v))) r a b := ⟨_, kdat.ns, upd_same, putR_nd kdat.nd, cel4⟩
      refine q σ F2 _ env kd ⟨?_, gm.fr, cel, ok.sg, ok.e1, ok.e2⟩ ?_ (g1.ff.trans g2.ff) h2 hz.1 ⟨putR xs k c v, k, v, ?_, ik.ke, atV_put, rv⟩
      · rw [upd_hid]; exact ok2.s
      · rw [upd_hid]; exact (hf.step g1.g).step gm.g
      · exact celx_dat uk kdat.ns upd_same (putR_nd kdat.nd) cel4
    · cases ho)
theorem mbk_cons {f g : SS} {fk : SE} {st : Stmt} {rest : List Stmt} (h1 : PS X st (mS (mc X u sp) S O O [] f)) (h2 : PSs X rest (mBk (mc X u sp) S O fk g)) : PSs X (st :: rest) (mBk (mc X u sp) S O fk (sSeqN f g)) :=
  (pss_cons h1 h2).imp fun D σ H ⟨F0, H0, F, env, r, a, b, d, ok, hf, ho, q⟩ => by
    simp only [sSeqN] at ho
    obtain ⟨o1, h1, h2⟩ := bind_some ho
    cases o1 with
    | nx e => exact ⟨F0, H0, F, env, r, a, b, .nx e, ok, hf, h1, fun σ' F' H' s' f' k' => ⟨F0, H0, F', e, r, a, b, d, s', f', h2, fun σ2 F2 H2 env2 kd s2 f2 k2 => q σ2 F2 H2 env2 kd s2 f2 (k'.trans k2)⟩⟩
    | rt d => cases h2
    | bk e => cases h2
    | ct e => cases h2
theorem Has.mono {U : MC} {F H F' H' : Hp} {r : Addr} {kd d : D} (h : Has U F H r kd d) (k : Same F F') (e : H' r = H r) : Has U F' H' r kd d := by
  obtain ⟨xs, k', v, ⟨h1, h2, h3, h4, h5⟩, hk, ha, rp⟩ := h
  exact ⟨xs, k', v, ⟨h1, by rw [e]; exact h2, h3, h4, fun x hx => let ⟨kd, a1, a2, a3⟩ := h5 x hx; ⟨kd, a1, a2, a3.mono k⟩⟩, hk, ha, rp.mono k⟩
theorem mmemo {x : Str} {k1 k3 : Expr} {blk : List Stmt} {fk : SE} {f : SS} {p1 p3 q3 q4 q5 q6 : Pos} (uk : UOk u) (hu : X.A.units + 64 < cLine) (hk1 : PE X k1 (rV (gx X) O fk)) (hk3 : PE X k3 (rV (gx X) O fk))
    (hb : PSs X blk (mBk (mc X u sp) S O fk f)) (hN : X.N[S.i0]? = some x := by rfl) (hvi : Vis X.env.scope x := by first | exact Or.inl rfl | exact Or.inr (Or.inl rfl) | exact Or.inr (Or.inr rfl)) (hd : (x == ("__debug__" : Str)) = false := by decide)
    (hcd : (x == ("__classdict__" : Str)) = false := by decide) (hm : behindInMarks .NotIn (.Name x p1) = false := by first | exact nomark _ | rfl | with_unfolding_all rfl) (hx3 : PlainIx k3 := by exact fun _ _ => rfl) :
    PSs X [.If (.Compare k1 [.NotIn] [.Name x p1] q3) blk [] q4, .Return (some (.Subscript (.Name x p3) k3 q5)) q6] (mS (mc X u sp) S O O' Ob (sMemo u sp S.i1 S.i2 fk f)) :=
  (pss_cons (ps_if (pt_cmpR (o_ninK hu) hk1 (pe_var hN hvi hd hcd) hm) hb pss_nil) (pss_one (ps_ret (pe_ix (ix_K hu) (pe_var hN hvi hd hcd) hk3 hx3)))).imp fun D σ H ⟨F0, H0, F, env, r, a, b, out, ok, hf, ho, q⟩ => by
    simp only [sMemo] at ho
    obtain ⟨kd, h1, ho⟩ := bind_some ho
    obtain ⟨o1, h2, ho⟩ := bind_some ho
    cases o1 with
    | nx e => cases ho
    | bk e => cases ho
    | ct e => cases ho
    | rt d =>
      simp only at ho
      obtain ⟨a', h4, ho⟩ := bind_some ho
      obtain ⟨b', h5, ho⟩ := bind_some ho
      rw [ok.e1] at h4
      rw [ok.e2] at h5
      cases h4
      cases h5
      split at ho
      · rename_i hz
        cases ho
        rw [Bool.and_eq_true] at hz
        have ed := deq_eq hz.2
        -- the end: known[KEY]
        have fin : ∀ σ' F' H' env' kd', MOk (mc X u sp) S O r a b F' H' σ' env' → Fr F0 (hid r H0) O F' (hid r H') σ' → Same F F' → fk env' = some kd' → u kd' = true → Has (mc X u sp) F' H' r kd' d →
            tOp (rIxK X) (tVar S.i0) (rV (gx X) O fk) σ' H' D.rt := fun σ' F' H' env' kd' ok' hf' sm' hk' hu' has => by
          refine ⟨_, ok'.sg, F', env', kd', ok'.sok, hk', fun y F2 H2 g2 r2 => ?_⟩
          have gm := ok'.of g2
          obtain ⟨xs, _, h2', _⟩ := ok'.ce
          have has2 := has.mono g2.ff (show H2 r = H' r by rw [g2.hh.nn r _ h2' rfl, h2'])
          obtain ⟨xs, k, v, kdat, ke, hat, rv⟩ := has2
          obtain ⟨k2, ik⟩ := isK_of (U := mc X u sp) uk hu' r2
          have ek : k2 = k := by
            have := ik.ke
            rw [ke] at this
            exact (Option.some.inj this).symm
          subst ek
          exact ⟨F2, r, xs, kd', k2, v, rfl, (ok'.gr gm).sok.fh, kdat, ik, hat, q v F2 H2 ⟨hf'.gr.trans gm.g, gm.fr, gm.ce⟩ rv⟩
        refine ⟨F, env, kd, ok.sok, h1, fun y F1 H1 g1 r1 => ⟨_, ok.sg, ?_⟩⟩
        have gm := ok.of g1
        have ok1 := ok.gr gm
        obtain ⟨xs, kdat, hxs⟩ := ok1.ce.dat uk
        obtain ⟨k, ik⟩ := isK_of (U := mc X u sp) uk hz.1 r1
        refine ⟨F1, r, xs, kd, k, rfl, ok1.sok.fh, kdat, ik, ?_⟩
        cases hat : atV xs k with
        | none => exact ⟨true, rfl, F0, H0, F1, env, r, a, b, d, ok1, hf.step gm.g, h2, fun σ' F' H' env' kd' s' f' k' hk' hu' has => fin σ' F' H' env' kd' s' f' (g1.ff.trans k') hk' hu' has⟩
        | some v =>
          obtain ⟨z, hz1, hz2, hz3⟩ := atV_some hat
          obtain ⟨kd', t1, t2, t3, t4⟩ := hxs z hz1
          have e : kd' = kd := uk.inj kd' kd t1 hz.1 (by rw [t2, hz2, ik.ke])
          subst e
          exact ⟨false, rfl, fin σ F1 H1 env kd' ok1 (hf.step gm.g) g1.ff h1 hz.1 ⟨xs, k, v, kdat, ik.ke, hat, by rw [← hz3, ed]; exact t4⟩⟩
      · cases ho
end
end TL

set_option Elab.async false
set_option linter.all false
set_option maxRecDepth 100000
/-! Ranges as values, reversed ranges. -/
namespace TL
open PySem PySem.Spec PyProof.Rows L2
def rngD (lo hi : Int) : D := .dict [(.bool true, .tuple [.int lo, .int hi])]
def rngItems : D → Option (List D)
  | .dict [(.bool true, .tuple [.int lo, .int hi])] => rangeD lo hi
  | _ => none
@[simp] def eRngV (a b : SE) : SE := fun env => (a env).bind fun x => (b env).bind fun y => (toI x).bind fun n => (toI y).map fun m => rngD n m
@[simp] def iRngO (a : SE) : SI := fun env => (a env).bind rngItems
@[simp] def iRev2 (a b : SE) : SI := fun env => (a env).bind fun x => (b env).bind fun y => (toI x).bind fun n => (toI y).bind fun m => (rangeD n m).map List.reverse
section
variable {X : Cx} {O : List Nat} {a b e tg : Expr} {fa fb : SE} {p pos : Pos}
theorem cr_range1 : CallR X (.type "range") (fun vs H Q => ∃ j, vs = [V.int j] ∧ ∀ p, H p = none → Q (.ref p) (upd H p (.rng 0 j))) := by
  intro pins s σ H vs us Q I r h
  obtain ⟨j, rfl, q⟩ := h
  cases r with
  | cons r rr =>
    cases rr
    obtain ⟨t, rfl⟩ := r
    refine call_range_1 ⟨.ref s.heap.objs.size, upd H s.heap.objs.size (.rng 0 j), I.laid (t' := _) (fun b o e => Heap.get?_push_of_some _ e) (Nat.le_refl _) ?_, rfl, q _ (I.hok.fresh (Nat.le_refl _))⟩
    exact ⟨_, _, _, Heap.get?_push_size _ rfl⟩
theorem erngV1 (hg : Gl X "range") (hm : X.mg "range" = none) (ha : PE X a (rV (gx X) O fa)) (hs : starEach [a] X.env = (false, eval a X.env) :: starEach [] X.env := by rfl) :
    PE X (.Call (.Name "range" p) [a] [] pos) (rV (gx X) O (eRngV (eC (.int 0)) fa)) :=
  (pe_callTy cr_range1 hg hm (by decide +kernel) (pa_cons ha pa_nil hs) (by decide) (by decide) hs rfl).imp fun σ H Q ⟨F, env, d, hs, hf, q⟩ => by
    simp only [eRngV, eC, Option.bind_some, toI] at hf
    obtain ⟨x, h1, hf⟩ := bind_some hf
    obtain ⟨n, h2, hf⟩ := map_some hf
    subst hf
    have e2 := toI_some h2
    subst e2
    refine ⟨F, env, _, hs, h1, fun v F1 H1 g1 r1 => ?_⟩
    cases r1
    refine ⟨n, rfl, fun p hp => ?_⟩
    have g2 : Gr F1 H1 (upd F1 p (.rng 0 n)) (upd H1 p (.rng 0 n)) := Gr.new g1.fh hp
    exact q _ _ _ (g1.trans g2) (.rng upd_same)
theorem erngV2 (hg : Gl X "range") (hm : X.mg "range" = none) (ha : PE X a (rV (gx X) O fa)) (hb : PE X b (rV (gx X) O fb)) (hs : starEach [a, b] X.env = (false, eval a X.env) :: starEach [b] X.env := by rfl) (hs2 : starEach [b] X.env = (false, eval b X.env) :: starEach [] X.env := by rfl)
    (hpl : (backTo pos (starEach [b] X.env)).any (·.1) = false := by rfl) : PE X (.Call (.Name "range" p) [a, b] [] pos) (rV (gx X) O (eRngV fa fb)) :=
  (pe_callTy cr_range2 hg hm (by decide +kernel) (pa_cons ha (pa_cons hb pa_nil hs2) hs) (by decide) (by decide) hs hpl).imp fun σ H Q ⟨F, env, d, hs, hf, q⟩ => by
    simp only [eRngV] at hf
    obtain ⟨x, h1, hf⟩ := bind_some hf
    obtain ⟨y, h2, hf⟩ := bind_some hf
    obtain ⟨n, h3, hf⟩ := bind_some hf
    obtain ⟨m, h4, hf⟩ := map_some hf
    subst hf
    have e3 := toI_some h3
    have e4 := toI_some h4
    subst e3 e4
    refine ⟨F, env, _, hs, h1, fun v F1 H1 g1 r1 => ⟨F1, env, _, hs.gr g1, h2, fun w F2 H2 g2 r2 => ?_⟩⟩
    cases r1
    cases r2
    refine ⟨n, m, rfl, fun p hp => ?_⟩
    have g3 : Gr F2 H2 (upd F2 p (.rng n m)) (upd H2 p (.rng n m)) := Gr.new g2.fh hp
    exact q _ _ _ ((g1.trans g2).trans g3) (.rng upd_same)
/-! walking a range that stands -/
def iRngS (tl : TE) : TI := fun σ H R => tl σ H fun x H1 => ∃ a lo hi, x = .ref a ∧ H1 a = some (.rng lo hi) ∧ (-(2 ^ 62) ≤ lo ∧ lo < 2 ^ 62 ∧ -(2 ^ 62) ≤ hi ∧ hi < 2 ^ 62) ∧ R (Itr lo (hi - lo).toNat) H1
theorem pi_rngO {tl : TE} (hl : PE X e tl) : PI X tg e (iRngS tl) := by
  refine ⟨fun pins s σ H R I h => ?_⟩
  refine thn (hl.run pins s σ H _ I h) fun v s1 ⟨x, H1, I1, r1, q1⟩ => ?_
  obtain ⟨a, lo, hi, e, ha, ⟨h1, h2, h3, h4⟩, q⟩ := q1
  subst e
  cases r1
  obtain ⟨t, u, v, ho⟩ := (show ObjOk X.prog X.w H1 s1.heap a (.rng lo hi) from I1.hok a _ ha)
  refine wpAny_pyIter_range (show IsRange s1.heap a lo hi 1 t u v from ho) (small_one h1 h2 h3 h4) ?_
  refine ⟨s1.heap.objs.size, [s1.heap.objs.size], _, _, H1, rfl, I1.kept (t' := s1.toks) fun b o e => Heap.get?_push_of_some _ e, turn_range _ lo (hi - lo).toNat, ?_, fun b hb => ?_, q⟩
  · have e1 : lo + ((0 : Nat) : Int) * 1 = lo := by simp
    have e2 : (((hi - lo).toNat : Nat) : Int) - ((0 : Nat) : Int) = Builtin.Range.rangeSize lo hi 1 := by rw [rangeSize_one]; split <;> omega
    show IsRangeIter _ _ (lo + ((0 : Nat) : Int) * 1) ((((hi - lo).toNat : Nat) : Int) - ((0 : Nat) : Int)) 1
    rw [e1, e2]
    exact Heap.get?_push_size _ rfl
  · have e : b = s1.heap.objs.size := by simpa using hb
    subst e
    exact I1.fpOk (Nat.le_refl _) (I1.hok.fresh (Nat.le_refl _))
theorem irngO (ha : PE X a (rV (gx X) O fa)) : PI X tg a (iV (gx X) O (iRngO fa)) :=
  (pi_rngO ha).imp fun σ H R ⟨F, env, ds, hs, hf, q⟩ => by
    simp only [iRngO] at hf
    obtain ⟨x, h1, h2⟩ := bind_some hf
    refine ⟨F, env, x, hs, h1, fun v F1 H1 g1 r1 => ?_⟩
    unfold rngItems at h2
    split at h2
    · rename_i lo hi
      obtain ⟨z0, z00, z1, z2, z3, e4⟩ := rngSplit h2
      subst e4
      cases r1 with
      | rng h => exact ⟨_, lo, hi, rfl, g1.fh _ _ h, ⟨by omega, by omega, by omega, by omega⟩, q _ F1 H1 g1 (by rw [range_len]; exact z3) (itv_range lo _)⟩
    · cases h2
end
section
variable {X : Cx} {O : List Nat} {a b e tg : Expr} {fa fb : SE} {p pos p2 pos2 : Pos}
theorem rev_get (lo : Int) (n i : Nat) : (rangeL lo n).reverse[i]? = if i < n then some (.int (lo + n - 1 + (i : Nat) * (-1))) else none := by
  by_cases h : i < n
  · rw [if_pos h, List.getElem?_reverse (by rw [range_len]; exact h), range_len, range_get, if_pos (by omega)]
    congr 2
    omega
  · rw [if_neg h, List.getElem?_eq_none (by rw [List.length_reverse, range_len]; omega)]
theorem itv_rev {G : Gx} {F : Hp} (lo hi : Int) : ItV G (Itc (lo + (((hi - lo).toNat : Nat) : Int) - 1) (-1) (hi - lo).toNat) F (rangeL lo (hi - lo).toNat).reverse := fun i F2 H2 _ _ => by
  rw [rev_get]
  refine ⟨fun d e => ?_, fun e => ?_⟩
  · by_cases h : i < (hi - lo).toNat
    · rw [if_pos h] at e
      cases e
      exact ⟨h, fun v H3 ⟨h1, h2⟩ => by subst h2; exact ⟨h1, .int _⟩⟩
    · rw [if_neg h] at e; cases e
  · by_cases h : i < (hi - lo).toNat
    · rw [if_pos h] at e; cases e
    · exact Nat.le_of_not_lt h
theorem irev1 (hg : Gl X "reversed") (hm : X.mg "reversed" = none) (hg2 : Gl X "range") (hm2 : X.mg "range" = none) (ha : PE X a (rV (gx X) O fa)) (na : starEach [a] X.env = (false, eval a X.env) :: starEach [] X.env := by rfl)
    (hs : starEach [.Call (.Name "range" p2) [a] [] pos2] X.env = (false, eval (.Call (.Name "range" p2) [a] [] pos2) X.env) :: starEach [] X.env := by rfl) : PI X tg (.Call (.Name "reversed" p) [.Call (.Name "range" p2) [a] [] pos2] [] pos) (iV (gx X) O (iRev2 (eC (.int 0)) fa)) :=
  (pi_revR hg hm (prg_1 hg2 hm2 ha na) hs).imp fun σ H R ⟨F, env, ds, hs, hf, q⟩ => by
    simp only [iRev2, eC, Option.bind_some] at hf
    obtain ⟨x, h1, hf⟩ := bind_some hf
    obtain ⟨n, h3, hf⟩ := bind_some hf
    obtain ⟨m, h4, hf⟩ := bind_some hf
    cases h3
    have e4 := toI_some h4
    subst e4
    obtain ⟨l, h5, h6⟩ := map_some hf
    subst h6
    obtain ⟨z0, z00, z1, z2, z3, e4⟩ := rngSplit h5
    subst e4
    refine ⟨F, env, _, hs, h1, fun v F1 H1 g1 r1 => ?_⟩
    cases r1
    exact ⟨m, rfl, by omega, by omega, by omega, by omega, q _ F1 H1 g1 (by rw [List.length_reverse, range_len]; exact z3) (itv_rev 0 m)⟩
theorem irev2 (hg : Gl X "reversed") (hm : X.mg "reversed" = none) (hg2 : Gl X "range") (hm2 : X.mg "range" = none) (ha : PE X a (rV (gx X) O fa)) (hb : PE X b (rV (gx X) O fb)) (na : starEach [a, b] X.env = (false, eval a X.env) :: starEach [b] X.env := by rfl) (nb : starEach [b] X.env = (false, eval b X.env) :: starEach [] X.env := by rfl) (hp : (backTo pos2 (starEach [b] X.env)).any (·.1) = false := by rfl)
    (hs : starEach [.Call (.Name "range" p2) [a, b] [] pos2] X.env = (false, eval (.Call (.Name "range" p2) [a, b] [] pos2) X.env) :: starEach [] X.env := by rfl) : PI X tg (.Call (.Name "reversed" p) [.Call (.Name "range" p2) [a, b] [] pos2] [] pos) (iV (gx X) O (iRev2 fa fb)) :=
  (pi_revR hg hm (prg_2 hg2 hm2 ha hb na nb hp) hs).imp fun σ H R ⟨F, env, ds, hs, hf, q⟩ => by
    simp only [iRev2] at hf
    obtain ⟨x, h1, hf⟩ := bind_some hf
    obtain ⟨y, h2, hf⟩ := bind_some hf
    obtain ⟨n, h3, hf⟩ := bind_some hf
    obtain ⟨m, h4, hf⟩ := bind_some hf
    have e3 := toI_some h3
    have e4 := toI_some h4
    subst e3 e4
    obtain ⟨l, h5, h6⟩ := map_some hf
    subst h6
    obtain ⟨z0, z00, z1, z2, z3, e4⟩ := rngSplit h5
    subst e4
    refine ⟨F, env, _, hs, h1, fun v F1 H1 g1 r1 => ⟨F1, env, _, hs.gr g1, h2, fun w F2 H2 g2 r2 => ?_⟩⟩
    cases r1
    cases r2
    exact ⟨n, m, rfl, rfl, by omega, by omega, by omega, by omega, q _ F2 H2 (g1.trans g2) (by rw [List.length_reverse, range_len]; exact z3) (itv_rev n m)⟩
end
/-! one open list behind another -/
@[simp] def sExtO (i j : Nat) : SS := fun env => match env.getD i none, env.getD j none with
  | some (.list ds), some (.list es) => if ds.length + es.length ≤ sizeLine then some (.nx (env.set i (some (.list (ds ++ es))))) else none
  | _, _ => none
section
variable {X : Cx} {R : RK} {O O' Ob : List Nat} {pos : Pos}
theorem sextO {x y : Str} {p1 p2 apos cpos : Pos} (i j : Nat) (hi : i ∈ O := by decide) (hj : j ∈ O := by decide) (hN : X.N[i]? = some x := by rfl) (hNj : X.N[j]? = some y := by rfl) (hv : Vis X.env.scope x := by first | exact Or.inl rfl | exact Or.inr (Or.inl rfl) | exact Or.inr (Or.inr rfl)) (hvj : Vis X.env.scope y := by first | exact Or.inl rfl | exact Or.inr (Or.inl rfl) | exact Or.inr (Or.inr rfl))
    (hd : (x == ("__debug__" : Str)) = false := by decide) (hcd : (x == ("__classdict__" : Str)) = false := by decide) (hdj : (y == ("__debug__" : Str)) = false := by decide) (hcdj : (y == ("__classdict__" : Str)) = false := by decide)
    (hbase : attributeBase (.Name x p1) "extend" X.env (eval (.Name x p1) X.env) = eval (.Name x p1) X.env := by rfl)
    (hfew : ((backTo cpos (starEach [.Name y p2] X.env)).all (fun x => !x.1) && (backToKw cpos (keywordEach [] X.env)).all (fun x => x.1.isSome)
      && decide ([Expr.Name y p2].length + ([] : List Keyword).length + (if ([] : List Keyword).isEmpty then 0 else 1) < 30)) = true := by rfl)
    (hline : (apos.endLine == cpos.line) = true := by rfl) (hs1 : starEach [.Name y p2] X.env = (false, eval (.Name y p2) X.env) :: starEach [] X.env := by rfl) (hplain : (backTo cpos (starEach [] X.env)).any (·.1) = false := by rfl)
    (hs : swapsWith (.Call (.Attribute (.Name x p1) "extend" apos) [.Name y p2] [] cpos) none pos.line X.env = pure false := by rfl) :
    PS X (.Expr (.Call (.Attribute (.Name x p1) "extend" apos) [.Name y p2] [] cpos) pos) (sV (gx X) R O O Ob (sExtO i j)) :=
  (ps_expr (pe_bm PySem.F.plainAttrs_list PySem.F.slot_list_extend PySem.F.type_list_extend mt_extend (pe_var hN hv hd hcd) (pa_cons (pe_var hNj hvj hdj hcdj) pa_nil hs1) hbase hfew hline hs1 hplain) hs).imp fun D σ H ⟨F0, H0, F, env, out, hs, hf, ho, q⟩ => by
    obtain ⟨p, vs, ds, h2, h3, h4, h5, h6⟩ := hs.own i hi
    obtain ⟨p', us, es, k2, k3, k4, k5, k6⟩ := hs.own j hj
    simp only [sExtO] at ho
    rw [show env.getD i none = some (.list ds) by rw [List.getD_eq_getElem?_getD, h3]; rfl, show env.getD j none = some (.list es) by rw [List.getD_eq_getElem?_getD, k3]; rfl] at ho
    simp only at ho
    split at ho
    · rename_i hz
      cases ho
      refine ⟨.ref p, h2, .inl ⟨rfl, vs, .inl (.inl h5)⟩, .ref p', k2, ?_⟩
      refine ⟨p, p', vs, us, rfl, rfl, h5, k5, by rw [h6.length, k6.length]; exact hz, ?_⟩
      exact q σ F _ (hs.chg hi h2 (h6.append k6)) (fr_chg hs hf hi h2) (Same.refl F)
    · cases ho
end
end TL

set_option Elab.async false
set_option linter.all false
set_option maxRecDepth 100000
/-! The tree layer with a dict that remembers: defs, statements that do not know the dict, a dict of one's own. -/
namespace TL
open PySem PySem.Spec PyProof.Rows L2
/-- np parameters beside the dict at j -/
def runM (np j nl : Nat) (body : SS) (ds : List D) : Option D :=
  if ds.length = np then (body ((ds.take j).map some ++ none :: ((ds.drop j).map some ++ List.replicate nl none))).bind outD else none
def EnvR (G : Gx) (F : Hp) (env : Env) (σ : L2.St) : Prop := env.length = σ.length ∧ ∀ (i : Nat) (d : D), env[i]? = some (some d) → ∃ v, σ[i]? = some (some v) ∧ Rp G F v d
theorem envr_app {G : Gx} {F : Hp} {e1 e2 : Env} {s1 s2 : L2.St} (a : EnvR G F e1 s1) (b : EnvR G F e2 s2) : EnvR G F (e1 ++ e2) (s1 ++ s2) := by
  refine ⟨by rw [List.length_append, List.length_append, a.1, b.1], fun i d h => ?_⟩
  by_cases hi : i < e1.length
  · rw [List.getElem?_append_left hi] at h
    obtain ⟨v, h1, h2⟩ := a.2 i d h
    exact ⟨v, by rw [List.getElem?_append_left (by rw [← a.1]; exact hi)]; exact h1, h2⟩
  · rw [List.getElem?_append_right (by omega)] at h
    obtain ⟨v, h1, h2⟩ := b.2 _ d h
    exact ⟨v, by rw [List.getElem?_append_right (by rw [← a.1]; omega), ← a.1]; exact h1, h2⟩
theorem envr_some {G : Gx} {F : Hp} {us : List V} {ds : List D} (r : RpAll G F us ds) : EnvR G F (ds.map some) (us.map some) := by
  refine ⟨by rw [List.length_map, List.length_map, r.length], fun i d h => ?_⟩
  rw [List.getElem?_map] at h
  cases q : ds[i]? with
  | none => rw [q] at h; cases h
  | some d' =>
    rw [q] at h
    cases h
    obtain ⟨v, h1, h2⟩ := r.get q
    exact ⟨v, by rw [List.getElem?_map, h1]; rfl, h2⟩
theorem envr_none {G : Gx} {F : Hp} {v : Option V} : EnvR G F [none] [v] := ⟨rfl, fun i d h => by
  cases i with
  | zero => cases h
  | succ i => simp at h⟩
theorem envr_rep {G : Gx} {F : Hp} (n : Nat) : EnvR G F (List.replicate n none) (List.replicate n none) := ⟨by simp, fun i d h => by
  rw [List.getElem?_replicate] at h
  split at h <;> cases h⟩
theorem startM {N : List Str} {us : List V} {r : Addr} {ds : List D} {F H : Hp} {j nl : Nat} {G : Gx} (hN : N.length = ds.length + 1 + nl) (sm : Fz G F H) (rp : RpAll G F us ds) :
    SOk G [] F H (L2.start N (us.take j ++ .ref r :: us.drop j)) ((ds.take j).map some ++ none :: ((ds.drop j).map some ++ List.replicate nl none)) := by
  have hl : (us.take j ++ V.ref r :: us.drop j).length = ds.length + 1 := by
    rw [List.length_append, List.length_cons, List.length_take, List.length_drop, rp.length]
    omega
  have e : L2.start N (us.take j ++ .ref r :: us.drop j) = (us.take j).map some ++ ([some (V.ref r)] ++ ((us.drop j).map some ++ List.replicate nl none)) := by
    unfold L2.start
    rw [List.map_append, List.map_cons, hl, hN]
    rw [show ds.length + 1 + nl - (ds.length + 1) = nl by omega]
    simp
  have er := envr_app (envr_some (rp.take j)) (envr_app (e1 := [none]) (envr_none (v := some (V.ref r))) (envr_app (envr_some (rp.drop j)) (envr_rep (G := G) (F := F) nl)))
  rw [← e] at er
  exact ⟨sm.sm, er.1, fun i d h _ => er.2 i d h, fun i h => (by cases h), fun i h => (by cases h), sm.tb⟩
theorem env_at {ds : List D} {j c i nl : Nat} {a : D} (h : ds[c]? = some a) (hi : (c < j ∧ i = c) ∨ (j ≤ c ∧ i = c + 1)) : ((ds.take j).map some ++ none :: ((ds.drop j).map some ++ List.replicate nl none)).getD i none = some a := by
  have hc : c < ds.length := (List.getElem?_eq_some_iff.mp h).1
  rw [List.getD_eq_getElem?_getD]
  rcases hi with ⟨h1, rfl⟩ | ⟨h1, rfl⟩
  · rw [List.getElem?_append_left (by rw [List.length_map, List.length_take]; omega), List.getElem?_map, List.getElem?_take, if_pos h1, h]
    rfl
  · have hl : ((ds.take j).map some).length = j := by rw [List.length_map, List.length_take]; omega
    rw [List.getElem?_append_right (by omega), hl, show c + 1 - j = (c - j) + 1 by omega, List.getElem?_cons_succ,
      List.getElem?_append_left (by rw [List.length_map, List.length_drop]; omega), List.getElem?_map, List.getElem?_drop, show j + (c - j) = c by omega, h]
    rfl
section
variable {P : Program} {w : World} {G : Gx} {base : Heap} {u : D → Bool} {sp : D → D → D → D} {S : Sl}
theorem runM_go {N ps : List Str} {n j nl c1 c2 : Nat} {body : SS} {vs : List V} {H : Hp} {Q : VK} {E : XK} {U : MC} (hN : N.length = ps.length + nl) (hps : ps.length = n + 1) (h0 : S.i0 = j ∧ j ≤ n) (h1 : (c1 < j ∧ S.i1 = c1) ∨ (j ≤ c1 ∧ S.i1 = c1 + 1)) (h2 : (c2 < j ∧ S.i2 = c2) ∨ (j ≤ c2 ∧ S.i2 = c2 + 1))
    (h : spM U n j c1 c2 (runM n j nl body) vs H Q E) : mS U S [] [] [] body { nx := fun _ H' => Q .non H', rt := Q } (L2.start N vs) H := by
  obtain ⟨F, r, us, ds, a, b, d, rfl, sm, fr, ce, rp, hl, ha, hb, hm, q⟩ := h
  simp only [runM, hl, if_pos rfl] at hm
  obtain ⟨out, h3, h4⟩ := bind_some hm
  have lu := rp.length
  refine ⟨F, H, F, _, r, a, b, out, ⟨startM (by omega) sm rp, fr, ce, ?_, env_at ha h1, env_at hb h2⟩, ⟨Gr.refl sm.sm, fun i h => by cases h⟩, h3, ?_⟩
  · unfold L2.start
    have hlt : (us.take j).length = j := by rw [List.length_take]; omega
    rw [h0.1, List.getElem?_append_left (by rw [List.length_map, List.length_append, hlt, List.length_cons]; omega), List.getElem?_map, List.getElem?_append_right (by omega), hlt, Nat.sub_self]
    rfl
  · cases out with
    | nx e =>
      cases h4
      exact fun σ' F' H' s' f' k' => q .non F' H' ⟨f'.gr, s'.fr, s'.ce⟩ .non
    | rt d' =>
      cases h4
      exact q
    | bk e => cases h4
    | ct e => cases h4
theorem fnM {x qual : Str} {st : Stmt} {f : Addr} {fd : FuncData} {N ps : List Str} {k n j nl c1 c2 : Nat} {body : SS} (Fn : Fun G.K x qual st f fd) (Sc : FnScope N ps (defScope st)) (hN : N.length = ps.length + nl) (hps : ps.length = n + 1) (h0 : S.i0 = j ∧ j ≤ n) (h1 : (c1 < j ∧ S.i1 = c1) ∨ (j ≤ c1 ∧ S.i1 = c1 + 1)) (h2 : (c2 < j ∧ S.i2 = c2) ∨ (j ≤ c2 ∧ S.i2 = c2 + 1))
    (hb : ∀ (cdv : Value) (A : Around) (outer : List PySem.Env) (s : Shared) (H : Hp) (E : XK), Room k (A.deeper (envOfC qual (defScope st) s.heap.objs.size f cdv)) →
      PSs (cxOf CX0 P w G.K G.mg base N qual (defScope st) f cdv A outer s H E).nox (defBody st) (mS ⟨P, w, G, u, sp⟩ S [] [] [] body)) : FnOk P w G.K G.mg base CX0 (k + 1) f fd ps (spM ⟨P, w, G, u, sp⟩ n j c1 c2 (runM n j nl body)) := by
  refine Fn.ok Sc (fun vs H Q E h => ?_) (fun cdv A outer s H vs Q E hr h => ⟨_, hb cdv A outer s H E hr, runM_go hN hps h0 h1 h2 h⟩)
  obtain ⟨F, r, us, ds, a, b, d, rfl, sm, fr, ce, rp, hl, _, _⟩ := h
  rw [List.length_append, List.length_cons, List.length_take, List.length_drop, rp.length, hps]
  omega
theorem fnMC {x qual : Str} {st : Stmt} {f cc : Addr} {fd : FuncData} {N ps : List Str} {k n j nl c1 c2 : Nat} {body : SS} (Fn : FunC G.K x qual st f fd cc) (Sc : FnScope N ps (defScope st)) (hN : N.length = ps.length + nl) (hps : ps.length = n + 1) (h0 : S.i0 = j ∧ j ≤ n) (h1 : (c1 < j ∧ S.i1 = c1) ∨ (j ≤ c1 ∧ S.i1 = c1 + 1)) (h2 : (c2 < j ∧ S.i2 = c2) ∨ (j ≤ c2 ∧ S.i2 = c2 + 1))
    (hb : ∀ (A : Around) (outer : List PySem.Env) (s : Shared) (H : Hp) (E : XK), Room k (A.deeper (envOfC qual (defScope st) s.heap.objs.size f (.ref cc))) →
      PSs (cxOf CX0 P w G.K G.mg base N qual (defScope st) f (.ref cc) A outer s H E).nox (defBody st) (mS ⟨P, w, G, u, sp⟩ S [] [] [] body)) : FnOk P w G.K G.mg base CX0 (k + 1) f fd ps (spM ⟨P, w, G, u, sp⟩ n j c1 c2 (runM n j nl body)) := by
  obtain ⟨oc, od, kV, doc, pm, an, ct, osl, rfl, lk, hcd⟩ := Fn.ex
  refine fn_of lk hcd Sc (fun vs H Q E h => ?_) fun A outer s H vs Q E hr h => ⟨_, (hb A outer s H E hr).nox, runM_go hN hps h0 h1 h2 h⟩
  obtain ⟨F, r, us, ds, a, b, d, rfl, sm, fr, ce, rp, hl, _, _⟩ := h
  rw [List.length_append, List.length_cons, List.length_take, List.length_drop, rp.length, hps]
  omega
end
/-! ### statements that do not know the dict -/
section
variable {X : Cx} {u : D → Bool} {sp : D → D → D → D} {S : Sl} {O O' O'' Ob : List Nat} {st : Stmt} {rest : List Stmt} {pos : Pos}
/-- the slots keep what they hold -/
def SKeep (S : Sl) (f : SS) : Prop := ∀ env out, f env = some out → match out with
  | .nx e => e.getD S.i1 none = env.getD S.i1 none ∧ e.getD S.i2 none = env.getD S.i2 none
  | _ => True
/-- known = {}, and what follows -/
@[simp] def sKnown (i0 i1 i2 : Nat) (f : SS) : SS := fun env => (env.getD i1 none).bind fun _ => (env.getD i2 none).bind fun _ => f (env.set i0 none)
theorem mknown {x : Str} {p1 p2 : Pos} {f : SS} (hN : X.N.Nodup) (hb : PSs X rest (mS (mc X u sp) S O O' Ob f)) (h0 : S.i0 ∉ O ∧ S.i0 ≠ S.i1 ∧ S.i0 ≠ S.i2 := by decide) (hi : X.N[S.i0]? = some x := by rfl) (hx : Loc X.env.scope x := by first | exact Or.inl rfl | exact Or.inr rfl)
    (hs : swapsWith (.Dict [] [] p2) (some (.Name x p1)) pos.line X.env = pure false := by rfl) (hf : X.fn x = true ∨ X.env.scope.names.lookup x = some .local := by first | exact .inl rfl | exact .inr rfl | assumption) :
    PSs X (.Assign [.Name x p1] (.Dict [] [] p2) pos :: rest) (sV (gx X) (oV' (gx X)) O O' Ob (sKnown S.i0 S.i1 S.i2 f)) :=
  (pss_cons (ps_ln (ps_set hN hi hx pe_dnewR hs hf)) hb).imp fun D σ H ⟨F0, H0, F, env, out, ok, hf, ho, q⟩ hlen => by
    simp only [sKnown] at ho
    obtain ⟨a, h1, ho⟩ := bind_some ho
    obtain ⟨b, h2, ho⟩ := bind_some ho
    intro r hr hn
    have hn0 : H0 r = none := hf.gr.hh.free hn
    have fr : F r = none := Same.nn ok.fh hn
    have eH : hid r (upd H r (rawO X.prog X.w r [])) = H := hid_fresh hn
    have eH0 : hid r H0 = H0 := by
      funext c
      by_cases hc : c = r
      · subst hc; rw [hid_r, hn0]
      · rw [hid_ne hc]
    have sne : ∀ i ∈ O, S.i0 ≠ i := fun i hi z => h0.1 (by rw [z]; exact hi)
    have out' : ∀ F' H', Gr F0 (hid r H0) F' (hid r H') → Gr F0 H0 F' H' := fun F' H' g => by
      rw [eH0] at g
      exact ⟨g.ff, g.hh.trans (.of hid_le), g.fh.trans hid_le, g.hid⟩
    refine ⟨F0, H0, F, env.set S.i0 none, r, a, b, out, ⟨?_, fr, cel_new (U := mc X u sp) hr, ?_, ?_, ?_⟩, ⟨?_, fun i hi p hp => ?_⟩, ho, ?_⟩
    · rw [eH]
      refine ⟨ok.fh, by rw [List.length_set, List.length_set]; exact ok.len, fun i d e ni => ?_, fun i hi => ?_, fun i hi j hj e => ?_, ok.tb⟩
      · by_cases hz : S.i0 = i
        · subst hz
          rw [List.getElem?_set] at e
          split at e
          · split at e <;> cases e
          · rename_i z; exact absurd rfl z
        · rw [List.getElem?_set_ne hz] at e
          obtain ⟨v, e1, e2⟩ := ok.imm i d e ni
          exact ⟨v, by rw [List.getElem?_set_ne hz]; exact e1, e2⟩
      · rw [List.getElem?_set_ne (sne i hi), List.getElem?_set_ne (sne i hi)]
        exact ok.own i hi
      · rw [List.getElem?_set_ne (sne i hi), List.getElem?_set_ne (sne j hj)] at e
        exact ok.dj i hi j hj e
    · rw [List.getElem?_set_self (ix_lt hlen hi)]
    · rw [setD_ne h0.2.1]; exact h1
    · rw [setD_ne h0.2.2]; exact h2
    · rw [eH0, eH]; exact hf.gr
    · rw [eH0]
      rw [List.getElem?_set_ne (sne i hi)] at hp
      exact hf.own i hi p hp
    · cases out with
      | nx e => exact fun σ' F' H' s' f' k' => q σ' F' H' s'.sok ⟨out' _ _ f'.gr, fun i hi p hp => by have := f'.own i hi p hp; rw [eH0] at this; exact this⟩ k'
      | bk e => exact fun σ' F' H' s' f' k' => q σ' F' H' s'.sok ⟨out' _ _ f'.gr, fun i hi p hp => by have := f'.own i hi p hp; rw [eH0] at this; exact this⟩ k'
      | ct e => exact fun σ' F' H' s' f' k' => q σ' F' H' s'.sok ⟨out' _ _ f'.gr, fun i hi p hp => by have := f'.own i hi p hp; rw [eH0] at this; exact this⟩ k'
      | rt d => exact fun v F' H' g r' => q v F' H' (out' _ _ g.g) r'
theorem mAsg_set {a : SE} {i : Nat} {te : TE} {D : Ends} {σ : L2.St} {H : Hp} (hte : ∀ Q, mV (mc X u sp) S O a σ H Q → te σ H Q) (hO : i ∉ O) (h0 : S.off [i]) (h : mS (mc X u sp) S O O Ob (sAsg a (TL.gName i)) D σ H) : tAsg te (L2.gName i) D σ H := by
  obtain ⟨F0, H0, F, env, r, a, b, out, ok, hf, ho, q⟩ := h
  simp only [sAsg, TL.gName] at ho
  obtain ⟨d, h1, h2⟩ := bind_some ho
  cases h2
  exact hte _ ⟨F, env, r, a, b, d, ok, h1, fun v F1 H1 g1 r1 => q _ F1 H1 ((ok.gr g1).set hO h0 r1) (fr_set (hf.step g1.g) hO) g1.ff⟩
/-- name = [..], a comprehension on one line -/
theorem msetL {y : Str} {py : Pos} {elt tg iter : Expr} {ifs : List Expr} {scope : Scope} {own : List (Str × Nat)} {spos : Pos} {fi : SI} {g : SG} {c : ST} {f : SE} {sl : List Nat} (i : Nat) (hc : X.calm = true) (hN : X.N.Nodup) (hsw : swapsWith (.ListComp elt [⟨tg, iter, ifs, 0⟩] scope pos) (some (.Name y py)) spos.line X.env = pure true)
    (hi : PI X tg iter (iV (gx X) O fi)) (ok : BlkOk X.N X.env.scope scope own)
    (hg : ∀ (s : Shared) (H : Hp) (C : Addr) (cl : List (Str × Addr)) (fp : List Addr), PG (X.blk s H scope (compEnvC scope cl C X.env) fp) tg (tG (gx X) O sl g)) (ht : ∀ (s : Shared) (H : Hp) (C : Addr) (cl : List (Str × Addr)) (fp : List Addr), PTs (X.blk s H scope (compEnvC scope cl C X.env) fp) ifs (mT (mc X u sp) S O c))
    (he : ∀ (s : Shared) (H : Hp) (C : Addr) (cl : List (Str × Addr)) (fp : List Addr), PE (X.blk s H scope (compEnvC scope cl C X.env) fp) elt (mV (mc X u sp) S O f)) (hk : SgKeep g sl) (hO' : i ∉ O := by decide) (h0' : S.off [i] := by decide) (hy : X.N[i]? = some y := by rfl) (hyl : X.env.scope.names.lookup y = some .local := by rfl) (hsl : ∀ j ∈ sl, j ∈ own.map (·.2) := by decide) (hO : ∀ j ∈ own.map (·.2), j ∉ O := by decide) (h0 : S.off (own.map (·.2)) := by decide) (hs : ∀ x, foldedSetIterable iter X.env x = pure x := by intro _; rfl) :
    PS X (.Assign [.Name y py] (.ListComp elt [⟨tg, iter, ifs, 0⟩] scope pos) spos) (mS (mc X u sp) S O O Ob (sAsg (eLc (own.map (·.2)) fi g c f) (TL.gName i))) :=
  (ps_setLc hc hN hy hyl hsw hi ok hg ht he hs).imp fun D σ H h => mAsg_set (fun Q q => mlc_read hk hsl hO h0 q) hO' h0' h
/-- name = a new list: the name is open -/
theorem msetN {x : Str} {e : Expr} {f : SE} {pos' : Pos} (i : Nat) (hN : X.N.Nodup) (he : PE X e (rN (gx X) O f)) (hO : i ∉ O := by decide) (h0 : S.off [i] := by decide) (hi : X.N[i]? = some x := by rfl) (hx : Loc X.env.scope x := by first | exact Or.inl rfl | exact Or.inr rfl) (hs : swapsWith e (some (.Name x pos')) pos.line X.env = pure false := by rfl)
    (hf : X.fn x = true ∨ X.env.scope.names.lookup x = some .local := by first | exact .inl rfl | exact .inr rfl | assumption) : PS X (.Assign [.Name x pos'] e pos) (mS (mc X u sp) S O (i :: O) Ob (sAsg f (TL.gName i))) :=
  (ps_ln (ps_set hN hi hx he hs hf)).imp fun D σ H ⟨F0, H0, F, env, r, a, b, out, ok, hf, ho, q⟩ hlen => by
    simp only [sAsg, TL.gName] at ho
    obtain ⟨d, h1, h2⟩ := bind_some ho
    cases h2
    have hl := ix_lt hlen hi
    refine ⟨F, env, d, ok.sok, h1, fun p vs ds F1 H1 g1 e1 e2 e3 rp e => ?_⟩
    subst e
    have gm := ok.of g1
    have hpr : p ≠ r := fun z => by
      obtain ⟨xs, _, h, _⟩ := ok.ce
      rw [← z, e1] at h
      cases h
    have e1' : hid r H p = none := by rw [hid_ne hpr]; exact e1
    have e3' : hid r H1 p = some (.lst vs) := by rw [hid_ne hpr]; exact e3
    have n0 : i ≠ S.i0 := fun z => h0.1 (by rw [z]; exact List.mem_singleton.mpr rfl)
    have n1 : i ≠ S.i1 := fun z => h0.2.1 (by rw [z]; exact List.mem_singleton.mpr rfl)
    have n2 : i ≠ S.i2 := fun z => h0.2.2 (by rw [z]; exact List.mem_singleton.mpr rfl)
    exact q _ F1 H1 ⟨ok.s.open_ gm.g hl hO e1' e2 e3' rp, gm.fr, gm.ce, by rw [List.getElem?_set_ne n0]; exact ok.sg, by rw [setD_ne n1]; exact ok.e1, by rw [setD_ne n2]; exact ok.e2⟩ (fr_open hf gm.g hl hO e1') g1.ff
end
end TL

set_option Elab.async false
set_option linter.all false
set_option maxRecDepth 100000
/-! What the functions that remember compute, plain; which keys they have. -/
namespace LB
open PySem TL
structure Wd where
  n : Int
  m0 : List Int
  m1 : List Int
  ar : List (Int × Int)
def tI (l : List Int) : D := .tuple (l.map .int)
def tP (l : List (Int × Int)) : D := .tuple (l.map prD)
def Wd.d (w : Wd) : D := .tuple [.int w.n, .tuple [tI w.m0, tI w.m1], tP w.ar]
/-- a world's tree read -/
def inOf (d : D) : List Int := match d with
  | .tuple l => (intsOf l).getD []
  | _ => []
def prOf (d : D) : List (Int × Int) := match d with
  | .tuple l => (prsOf l).getD []
  | _ => []
def wdOf : D → Wd
  | .tuple [.int n, .tuple [a, b], c] => ⟨n, inOf a, inOf b, prOf c⟩
  | _ => ⟨0, [], [], []⟩
theorem intsOf_map : ∀ l : List Int, intsOf (l.map .int) = some l
  | [] => rfl
  | i :: l => by rw [List.map_cons, intsOf, intsOf_map l]; rfl
theorem prsOf_map : ∀ l : List (Int × Int), prsOf (l.map prD) = some l
  | [] => rfl
  | (i, j) :: l => by
    rw [List.map_cons]
    show (prsOf (l.map prD)).map ((i, j) :: ·) = _
    rw [prsOf_map l]; rfl
theorem inOf_tI (l : List Int) : inOf (tI l) = l := by
  show (intsOf (l.map .int)).getD [] = l
  rw [intsOf_map]; rfl
theorem prOf_tP (l : List (Int × Int)) : prOf (tP l) = l := by
  show (prsOf (l.map prD)).getD [] = l
  rw [prsOf_map]; rfl
theorem wdOf_d (w : Wd) : wdOf w.d = w := by
  show (⟨w.n, inOf (tI w.m0), inOf (tI w.m1), prOf (tP w.ar)⟩ : Wd) = w
  rw [inOf_tI, inOf_tI, prOf_tP]
/-! ### maps that go back and forth -/
def fitB (w u : Wd) (p q : Int × Int) : Bool :=
  decide (decide (p.1 = q.1) = decide (p.2 = q.2)) && (decide (decide (p.1 ∈ w.m0) = decide (p.2 ∈ u.m0)) && decide (decide (p.1 ∈ w.m1) = decide (p.2 ∈ u.m1)))
  && (decide (decide ((p.1, q.1) ∈ w.ar) = decide ((p.2, q.2) ∈ u.ar)) && decide (decide ((q.1, p.1) ∈ w.ar) = decide ((q.2, p.2) ∈ u.ar)))
def growB (w u : Wd) (ps : List (Int × Int)) (p : Int × Int) : Bool := fitB w u p p && ps.all fun q => fitB w u p q
def putP (ps : List (Int × Int)) (p : Int × Int) : List (Int × Int) := if p ∈ ps then ps else isort ltPr (ps ++ [p])
def canB (w u : Wd) : Nat → List (Int × Int) → Bool
  | 0, _ => true
  | k + 1, ps => ((rangeI 0 w.n.toNat).all fun a => (rangeI 0 u.n.toNat).any fun b => growB w u ps (a, b) && canB w u k (putP ps (a, b))) &&
    (rangeI 0 u.n.toNat).all fun b => (rangeI 0 w.n.toNat).any fun a => growB w u ps (a, b) && canB w u k (putP ps (a, b))
def spGo (one two key : D) : D := match key with
  | .tuple [ps, .int k] => .bool (canB (wdOf one) (wdOf two) k.toNat (prOf ps))
  | _ => .none
def inR (n : Int) (p : Int × Int) : Bool := decide (0 ≤ p.1) && decide (p.1 < n) && decide (0 ≤ p.2) && decide (p.2 < n)
def ascF : List (Int × Int) → Bool
  | [] => true
  | [_] => true
  | p :: q :: r => decide (p.1 < q.1) && ascF (q :: r)
def okGo (ps : List (Int × Int)) (k : Int) : Bool := decide (0 ≤ k) && ((ps.all (inR 8) && Nat.ble (ps.length + k.toNat) 3) || (ps.all (inR 6) && (ascF ps && Nat.ble k.toNat 6)))
def uGo : D → Bool
  | .tuple [.tuple l, .int k] => match prsOf l with
    | some ps => okGo ps k
    | none => false
  | _ => false
/-! all such keys -/
def upto {α : Type} (A : List α) : Nat → List (List α)
  | 0 => [[]]
  | n + 1 => [] :: A.flatMap fun a => (upto A n).map (a :: ·)
theorem flat_lenM {α β : Type} (f : α → List β) (m : Nat) : ∀ l : List α, (∀ a ∈ l, (f a).length = m) → (l.flatMap f).length = l.length * m
  | [], _ => by simp
  | a :: l, h => by
    rw [List.flatMap_cons, List.length_append, flat_lenM f m l fun b hb => h b (List.mem_cons_of_mem _ hb), h a List.mem_cons_self, List.length_cons, Nat.succ_mul, Nat.add_comm]
theorem upto_len {α : Type} (A : List α) (n : Nat) : (upto A (n + 1)).length = 1 + A.length * (upto A n).length := by
  show ([] :: A.flatMap fun a => (upto A n).map (a :: ·)).length = _
  rw [List.length_cons, flat_lenM _ (upto A n).length A fun a _ => by rw [List.length_map], Nat.add_comm]
theorem upto_mem {α : Type} {A : List α} : ∀ {n : Nat} {l : List α}, l.length ≤ n → (∀ a ∈ l, a ∈ A) → l ∈ upto A n
  | 0, l, h, _ => by
    have : l = [] := List.length_eq_zero_iff.mp (by omega)
    subst this
    exact List.mem_cons_self
  | n + 1, [], _, _ => List.mem_cons_self
  | n + 1, a :: l, h, ha => List.mem_cons_of_mem _ (List.mem_flatMap.mpr ⟨a, ha a List.mem_cons_self, List.mem_map.mpr ⟨l, upto_mem (by simpa using h) fun b hb => ha b (List.mem_cons_of_mem _ hb), rfl⟩⟩)
def sq (n : Nat) : List (Int × Int) := (rangeI 0 n).flatMap fun a => (rangeI 0 n).map fun b => (a, b)
theorem sq_len (n : Nat) : (sq n).length = n * n := by
  unfold sq
  rw [flat_lenM _ n _ fun a _ => by rw [List.length_map, rangeI_len], rangeI_len]
theorem sq_mem {n : Nat} {p : Int × Int} (h : inR n p = true) : p ∈ sq n := by
  simp only [inR, Bool.and_eq_true, decide_eq_true_eq] at h
  exact List.mem_flatMap.mpr ⟨p.1, rangeI_mem.mpr (by omega), List.mem_map.mpr ⟨p.2, rangeI_mem.mpr (by omega), rfl⟩⟩
def ascL : Nat → Int → List (List (Int × Int))
  | 0, _ => [[]]
  | n + 1, lo => ascL n (lo + 1) ++ (rangeI 0 6).flatMap fun b => (ascL n (lo + 1)).map ((lo, b) :: ·)
theorem ascL_len : ∀ (n : Nat) (lo : Int), (ascL n lo).length = 7 ^ n
  | 0, _ => rfl
  | n + 1, lo => by
    rw [ascL, List.length_append, flat_lenM _ (7 ^ n) _ fun b _ => by rw [List.length_map, ascL_len], ascL_len, rangeI_len, Nat.pow_succ]
    omega
theorem ascF_lt : ∀ {p : Int × Int} {l : List (Int × Int)}, ascF (p :: l) = true → ∀ q ∈ l, p.1 < q.1
  | _, [], _, _, h => by cases h
  | p, q :: r, h, x, hx => by
    simp only [ascF, Bool.and_eq_true, decide_eq_true_eq] at h
    rcases List.mem_cons.mp hx with rfl | hx
    · exact h.1
    · have := ascF_lt h.2 x hx
      omega
theorem ascF_tail {p : Int × Int} {l : List (Int × Int)} (h : ascF (p :: l) = true) : ascF l = true := by
  cases l with
  | nil => rfl
  | cons q r =>
    simp only [ascF, Bool.and_eq_true] at h
    exact h.2
theorem ascL_nil : ∀ (n : Nat) (lo : Int), [] ∈ ascL n lo
  | 0, _ => List.mem_cons_self
  | n + 1, lo => List.mem_append_left _ (ascL_nil n (lo + 1))
theorem ascL_mem : ∀ {n : Nat} {lo : Int} {l : List (Int × Int)}, ascF l = true → (∀ p ∈ l, lo ≤ p.1 ∧ p.1 < lo + n ∧ 0 ≤ p.2 ∧ p.2 < 6) → l ∈ ascL n lo
  | n, lo, [], _, _ => ascL_nil n lo
  | 0, lo, p :: l, _, h => by have := h p List.mem_cons_self; omega
  | n + 1, lo, p :: l, ha, h => by
    have hp := h p List.mem_cons_self
    have hl := ascF_lt ha
    rw [ascL]
    by_cases e : p.1 = lo
    · refine List.mem_append_right _ (List.mem_flatMap.mpr ⟨p.2, rangeI_mem.mpr (by omega), List.mem_map.mpr ⟨l, ascL_mem (ascF_tail ha) fun q hq => ?_, ?_⟩⟩)
      · have := h q (List.mem_cons_of_mem _ hq)
        have := hl q hq
        omega
      · rw [← e]
    · refine List.mem_append_left _ (ascL_mem ha fun q hq => ?_)
      have := h q hq
      rcases List.mem_cons.mp hq with rfl | hq
      · omega
      · have := hl q hq
        omega
def kPr (p : Int × Int) : NestedKey := .tup [.num p.1, .num p.2]
def kGo (x : List (Int × Int) × Int) : NestedKey := .tup [.tup (x.1.map kPr), .num x.2]
theorem keyD_pr (p : Int × Int) : keyD (prD p) = some (kPr p) := rfl
theorem keyAll_prs : ∀ ps : List (Int × Int), keyAll (ps.map prD) = some (ps.map kPr)
  | [] => rfl
  | p :: ps => by
    rw [List.map_cons, keyAll, keyD_pr, keyAll_prs ps]
    rfl
theorem keyD_go (ps : List (Int × Int)) (k : Int) : keyD (.tuple [.tuple (ps.map prD), .int k]) = some (kGo (ps, k)) := by
  simp only [keyD, keyAll, keyAll_prs]
  rfl
theorem kPr_inj : ∀ {l m : List (Int × Int)}, l.map kPr = m.map kPr → l = m
  | [], [], _ => rfl
  | [], _ :: _, h => by cases h
  | _ :: _, [], h => by cases h
  | (a, b) :: l, (c, d) :: m, h => by
    rw [List.map_cons, List.map_cons] at h
    injection h with h1 h2
    simp only [kPr, NestedKey.tup.injEq, List.cons.injEq, NestedKey.num.injEq, and_true] at h1
    rw [kPr_inj h2, h1.1, h1.2]
theorem depth_prs : ∀ ps : List (Int × Int), NestedKey.depthAll (ps.map kPr) ≤ 1
  | [] => Nat.zero_le _
  | p :: ps => by
    rw [List.map_cons, NestedKey.depthAll]
    have := depth_prs ps
    have e : (kPr p).depth = 1 := rfl
    rw [e]
    exact Nat.max_le.mpr ⟨Nat.le_refl _, this⟩
theorem depth_go (x : List (Int × Int) × Int) : (kGo x).depth ≤ 8 := by
  have := depth_prs x.1
  simp only [kGo, NestedKey.depth, NestedKey.depthAll]
  omega
theorem uGo_inv {kd : D} (h : uGo kd = true) : ∃ ps k, kd = .tuple [.tuple (ps.map prD), .int k] ∧ okGo ps k = true := by
  unfold uGo at h
  split at h
  · rename_i l k
    split at h
    · rename_i ps e
      exact ⟨ps, k, by rw [prs_get e], h⟩
    · cases h
  · cases h
theorem uGo_of {ps : List (Int × Int)} {k : Int} (h : okGo ps k = true) : uGo (.tuple [.tuple (ps.map prD), .int k]) = true := by
  show (match prsOf (ps.map prD) with
    | some ps => okGo ps k
    | none => false) = true
  rw [prsOf_map]
  exact h
def keysGo : List (List (Int × Int) × Int) := ((upto (sq 8) 3).flatMap fun l => (rangeI 0 4).map fun k => (l, k)) ++ (ascL 6 0).flatMap fun l => (rangeI 0 7).map fun k => (l, k)
theorem upto3 {α : Type} (A : List α) (h : A.length = 64) : (upto A 3).length = 266305 := by
  have h0 : (upto A 0).length = 1 := rfl
  have h1 := upto_len A 0
  have h2 := upto_len A 1
  have h3 := upto_len A 2
  simp only [Nat.zero_add, Nat.reduceAdd, h0, h] at h1 h2 h3
  omega
theorem keysGo_len : keysGo.length < 16000000 := by
  have h1 : ((upto (sq 8) 3).flatMap fun l => (rangeI 0 4).map fun k => (l, k)).length = (upto (sq 8) 3).length * 4 := flat_lenM _ 4 _ fun l _ => by rw [List.length_map, rangeI_len]
  have h2 : ((ascL 6 0).flatMap fun l => (rangeI 0 7).map fun k => (l, k)).length = (ascL 6 0).length * 7 := flat_lenM _ 7 _ fun l _ => by rw [List.length_map, rangeI_len]
  have h3 := upto3 (sq 8) (sq_len 8)
  have h4 : (ascL 6 0).length = 7 ^ 6 := ascL_len 6 0
  unfold keysGo
  rw [List.length_append, h1, h2, h3, h4]
  omega
theorem keysGo_mem {ps : List (Int × Int)} {k : Int} (h : okGo ps k = true) : (ps, k) ∈ keysGo := by
  simp only [okGo, Bool.and_eq_true, Bool.or_eq_true, decide_eq_true_eq, Nat.ble_eq, List.all_eq_true] at h
  rcases h with ⟨hk, ⟨h1, h2⟩ | ⟨h1, h2, h3⟩⟩
  · refine List.mem_append_left _ (List.mem_flatMap.mpr ⟨ps, upto_mem (by omega) fun p hp => sq_mem (n := 8) (h1 p hp), List.mem_map.mpr ⟨k, rangeI_mem.mpr (by omega), rfl⟩⟩)
  · refine List.mem_append_right _ (List.mem_flatMap.mpr ⟨ps, ascL_mem h2 fun p hp => ?_, List.mem_map.mpr ⟨k, rangeI_mem.mpr (by omega), rfl⟩⟩)
    have := h1 p hp
    simp only [inR, Bool.and_eq_true, decide_eq_true_eq] at this
    omega
theorem ok_uGo : UOk uGo where
  fin := ⟨keysGo.map kGo, by rw [List.length_map]; exact keysGo_len, fun kd h => by
    obtain ⟨ps, k, rfl, h2⟩ := uGo_inv h
    exact ⟨kGo (ps, k), List.mem_map.mpr ⟨_, keysGo_mem h2, rfl⟩, keyD_go ps k, depth_go _⟩⟩
  inj := fun kd kd' h h' e => by
    obtain ⟨ps, k, rfl, _⟩ := uGo_inv h
    obtain ⟨ps', k', rfl, _⟩ := uGo_inv h'
    rw [keyD_go, keyD_go] at e
    have e := Option.some.inj e
    simp only [kGo, NestedKey.tup.injEq, List.cons.injEq, NestedKey.num.injEq, and_true] at e
    rw [kPr_inj e.1, e.2]
  tup := fun kd h => by
    obtain ⟨ps, k, rfl, _⟩ := uGo_inv h
    exact ⟨_, rfl⟩
/-! ### single sayings that tell items apart -/
inductive Say where
  | mark (i : Int) (x : Nat) | same (x y : Nat) | arrow (x y : Nat)
def Say.d : Say → D
  | .mark i x => .tuple [.str "mark", .int i, .int x]
  | .same x y => .tuple [.str "same", .int x, .int y]
  | .arrow x y => .tuple [.str "arrow", .int x, .int y]
def Say.holds (w : Wd) (a : List Int) : Say → Bool
  | .mark i x => decide (a.getD x 0 ∈ if i = 0 then w.m0 else w.m1)
  | .same x y => decide (a.getD x 0 = a.getD y 0)
  | .arrow x y => decide ((a.getD x 0, a.getD y 0) ∈ w.ar)
def says (n : Nat) : List Say := (List.range n).flatMap fun x => [.mark 0 x, .mark 1 x] ++ ((List.range x).map fun y => .same x y) ++ (List.range (x + 1)).flatMap fun y => [.arrow x y, .arrow y x]
def difO (w u : Wd) (a b : List Int) : Option D := ((says a.length).find? fun s => s.holds w a != s.holds u b).map fun s => if s.holds w a = true then s.d else .tuple [.str "not", s.d]
def unlikeD (l : List D) : List D := l.foldl (fun acc f => if acc.any (fun z => PyData.eqv z f) = true then acc else acc ++ [f]) []
def difB (w u : Wd) : Nat → List Int → List Int → Option D
  | 0, a, b => difO w u a b
  | k + 1, a, b => match difO w u a b with
    | some d => some d
    | none => match (rangeI 0 w.n.toNat).findSome? fun i => if ((rangeI 0 u.n.toNat).all fun j => (difB w u k (a ++ [i]) (b ++ [j])).isSome) = true then
        some (PyData.tuple [.str "some", .int a.length, .tuple [.str "and", .tuple (unlikeD ((rangeI 0 u.n.toNat).filterMap fun j => difB w u k (a ++ [i]) (b ++ [j])))]]) else none with
      | some d => some d
      | none => (rangeI 0 u.n.toNat).findSome? fun j => if ((rangeI 0 w.n.toNat).all fun i => (difB w u k (a ++ [i]) (b ++ [j])).isSome) = true then
        some (PyData.tuple [.str "all", .int a.length, .tuple [.str "or", .tuple (unlikeD ((rangeI 0 w.n.toNat).filterMap fun i => difB w u k (a ++ [i]) (b ++ [j])))]]) else none
def spDif (one two key : D) : D := match key with
  | .tuple [a, b, .int k] => (difB (wdOf one) (wdOf two) k.toNat (inOf a) (inOf b)).getD .none
  | _ => .none
def okDif (a b : List Int) (k : Int) : Bool := decide (0 ≤ k) && decide (a.length = b.length) && (((a.zip b).all (inR 8) && Nat.ble (a.length + k.toNat) 3) || ((a.zip b).all (inR 5) && (Nat.beq (a.length + k.toNat) 4 || Nat.beq (a.length + k.toNat) 5)))
def uDif : D → Bool
  | .tuple [.tuple a, .tuple b, .int k] => match intsOf a, intsOf b with
    | some x, some y => okDif x y k
    | _, _ => false
  | _ => false
def keysDif : List (List (Int × Int) × Int) := ((upto (sq 8) 3).flatMap fun l => (rangeI 0 4).map fun k => (l, k)) ++ ((upto (sq 5) 4).map (fun l => (l, 4 - (l.length : Int))) ++ (upto (sq 5) 5).map fun l => (l, 5 - (l.length : Int)))
def kDif (x : List (Int × Int) × Int) : NestedKey := .tup [.tup (x.1.map fun p => .num p.1), .tup (x.1.map fun p => .num p.2), .num x.2]
theorem keyAll_ints : ∀ l : List Int, keyAll (l.map .int) = some (l.map .num)
  | [] => rfl
  | i :: l => by
    rw [List.map_cons, keyAll, keyAll_ints l]
    rfl
theorem num_inj : ∀ {l m : List Int}, l.map NestedKey.num = m.map NestedKey.num → l = m
  | [], [], _ => rfl
  | [], _ :: _, h => by cases h
  | _ :: _, [], h => by cases h
  | a :: l, b :: m, h => by
    rw [List.map_cons, List.map_cons] at h
    injection h with h1 h2
    rw [num_inj h2, NestedKey.num.inj h1]
theorem depth_nums {α : Type} (f : α → Int) : ∀ l : List α, NestedKey.depthAll (l.map fun x => .num (f x)) = 0
  | [] => rfl
  | p :: ps => by
    rw [List.map_cons, NestedKey.depthAll, depth_nums f ps]
    rfl
theorem depth_dif (x : List (Int × Int) × Int) : (kDif x).depth ≤ 8 := by
  simp only [kDif, NestedKey.depth, NestedKey.depthAll, depth_nums]
  omega
theorem zip_fst {α β : Type} : ∀ {a : List α} {b : List β}, a.length = b.length → (a.zip b).map (·.1) = a ∧ (a.zip b).map (·.2) = b
  | [], [], _ => ⟨rfl, rfl⟩
  | [], _ :: _, h => by cases h
  | _ :: _, [], h => by cases h
  | x :: a, y :: b, h => by
    have := zip_fst (a := a) (b := b) (by simpa using h)
    simp [this.1, this.2]
theorem ints_getM : ∀ {ds : List D} {l : List Int}, intsOf ds = some l → ds = l.map .int
  | [], l, h => by cases h; rfl
  | d :: ds, l, h => by
    cases d with
    | int i =>
      simp only [intsOf] at h
      obtain ⟨m, h1, rfl⟩ := Option.map_eq_some_iff.mp h
      rw [ints_getM h1]; rfl
    | _ => cases h
theorem uDif_inv {kd : D} (h : uDif kd = true) : ∃ a b k, kd = .tuple [tI a, tI b, .int k] ∧ okDif a b k = true := by
  unfold uDif at h
  split at h
  · rename_i x y k
    split at h
    · rename_i a b e1 e2
      exact ⟨a, b, k, by rw [ints_getM e1, ints_getM e2]; rfl, h⟩
    · cases h
  · cases h
theorem uDif_of {a b : List Int} {k : Int} (h : okDif a b k = true) : uDif (.tuple [tI a, tI b, .int k]) = true := by
  show (match intsOf (a.map .int), intsOf (b.map .int) with
    | some x, some y => okDif x y k
    | _, _ => false) = true
  rw [intsOf_map, intsOf_map]
  exact h
theorem keyD_dif {a b : List Int} (h : a.length = b.length) (k : Int) : keyD (.tuple [tI a, tI b, .int k]) = some (kDif (a.zip b, k)) := by
  obtain ⟨h1, h2⟩ := zip_fst h
  have e1 : (a.zip b).map (fun p => NestedKey.num p.1) = a.map .num := by
    conv => rhs; rw [← h1]
    rw [List.map_map]; rfl
  have e2 : (a.zip b).map (fun p => NestedKey.num p.2) = b.map .num := by
    conv => rhs; rw [← h2]
    rw [List.map_map]; rfl
  simp only [keyD, keyAll, tI, keyAll_ints, kDif, e1, e2]
  rfl
theorem upto4 {α : Type} (A : List α) (h : A.length = 25) : (upto A 4).length = 406901 ∧ (upto A 5).length = 10172526 := by
  have h0 : (upto A 0).length = 1 := rfl
  have h1 := upto_len A 0
  have h2 := upto_len A 1
  have h3 := upto_len A 2
  have h4 := upto_len A 3
  have h5 := upto_len A 4
  simp only [Nat.zero_add, Nat.reduceAdd, h0, h] at h1 h2 h3 h4 h5
  omega
theorem keysDif_len : keysDif.length < 16000000 := by
  have h1 : ((upto (sq 8) 3).flatMap fun l => (rangeI 0 4).map fun k => (l, k)).length = (upto (sq 8) 3).length * 4 := flat_lenM _ 4 _ fun l _ => by rw [List.length_map, rangeI_len]
  have h3 := upto3 (sq 8) (sq_len 8)
  obtain ⟨h4, h5⟩ := upto4 (sq 5) (sq_len 5)
  unfold keysDif
  rw [List.length_append, List.length_append, List.length_map, List.length_map, h1, h3, h4, h5]
  omega
theorem okDif_inv {a b : List Int} {k : Int} (h : okDif a b k = true) : a.length = b.length ∧ (a.zip b, k) ∈ keysDif := by
  simp only [okDif, Bool.and_eq_true, Bool.or_eq_true, decide_eq_true_eq, Nat.ble_eq, Nat.beq_eq, List.all_eq_true] at h
  obtain ⟨⟨hk, hl⟩, h⟩ := h
  have hz : (a.zip b).length = a.length := by rw [List.length_zip]; omega
  refine ⟨hl, ?_⟩
  rcases h with ⟨h1, h2⟩ | ⟨h1, h2 | h2⟩
  · exact List.mem_append_left _ (List.mem_flatMap.mpr ⟨a.zip b, upto_mem (by omega) fun p hp => sq_mem (n := 8) (h1 p hp), List.mem_map.mpr ⟨k, rangeI_mem.mpr (by omega), rfl⟩⟩)
  · refine List.mem_append_right _ (List.mem_append_left _ (List.mem_map.mpr ⟨a.zip b, upto_mem (by omega) fun p hp => sq_mem (n := 5) (h1 p hp), ?_⟩))
    rw [hz]
    congr 1
    omega
  · refine List.mem_append_right _ (List.mem_append_right _ (List.mem_map.mpr ⟨a.zip b, upto_mem (by omega) fun p hp => sq_mem (n := 5) (h1 p hp), ?_⟩))
    rw [hz]
    congr 1
    omega
theorem ok_uDif : UOk uDif where
  fin := ⟨keysDif.map kDif, by rw [List.length_map]; exact keysDif_len, fun kd h => by
    obtain ⟨a, b, k, rfl, h2⟩ := uDif_inv h
    obtain ⟨h3, h4⟩ := okDif_inv h2
    exact ⟨kDif (a.zip b, k), List.mem_map.mpr ⟨_, h4, rfl⟩, keyD_dif h3 k, depth_dif _⟩⟩
  inj := fun kd kd' h h' e => by
    obtain ⟨a, b, k, rfl, h2⟩ := uDif_inv h
    obtain ⟨a', b', k', rfl, h2'⟩ := uDif_inv h'
    obtain ⟨h3, _⟩ := okDif_inv h2
    obtain ⟨h3', _⟩ := okDif_inv h2'
    simp only [keyD, keyAll, tI, keyAll_ints, Option.map_some, Option.bind_some] at e
    have e := Option.some.inj e
    simp only [NestedKey.tup.injEq, List.cons.injEq, NestedKey.num.injEq, and_true] at e
    rw [num_inj e.1, num_inj e.2.1, e.2.2]
  tup := fun kd h => by
    obtain ⟨a, b, k, rfl, _⟩ := uDif_inv h
    exact ⟨_, rfl⟩
end LB

set_option linter.all false
set_option maxRecDepth 100000
namespace LB
open PySem TL
def m_is_whole : List D → Option D := runF 1 0 ((sRet (eAnd (e1 (isiD .int) (eVar 0)) (eNot (e1 (isiD .bool) (eVar 0))))))
def m_is_numbers : List D → Option D := runF 1 1 ((sRet (eAnd (e1 (isiD .tuple) (eVar 0)) (e1 allD (eLc [1] (iSeq (eVar 0)) (TL.gName 1) cYes (eCall m_is_whole [(eVar 1)]))))))
def m_is_from : List D → Option D := runF 3 0 ((sRet (eAnd (eCall m_is_whole [(eVar 0)]) (eChain leD leD (eVar 1) (eVar 0) (eVar 2)))))
def m_rises : List D → Option D := runF 1 1 ((sRet (e1 allD (eLc [1] (iRng1 (e2 subD (e1 lenD (eVar 0)) (eC (.int 1)))) (TL.gName 1) cYes (e2 ltD (e2 ixD (eVar 0) (eVar 1)) (e2 ixD (eVar 0) (e2 addD (eVar 1) (eC (.int 1)))))))))
def m_is_items : List D → Option D := runF 2 1 ((sRet (eAnd (eCall m_is_numbers [(eVar 0)]) (eAnd (eCall m_rises [(eVar 0)]) (e1 allD (eLc [2] (iSeq (eVar 0)) (TL.gName 2) cYes (eChain leD ltD (eC (.int 0)) (eVar 2) (eVar 1))))))))
def m_is_pairs : List D → Option D := runF 1 1 ((sSeq (sIf (TL.tOr (TL.tNot (tV (e1 (isiD .tuple) (eVar 0)))) (TL.tNot (tV (e1 allD (eLc [1] (iSeq (eVar 0)) (TL.gName 1) cYes (eAnd (eCall m_is_numbers [(eVar 1)]) (e2 eqD (e1 lenD (eVar 1)) (eC (.int 2)))))))))
      (sRet (eC (.bool false)))
      sNext)
      (sRet (eCall m_rises [(eVar 0)]))))
def m_is_world : List D → Option D := runF 1 6 ((sSeq (sIf (TL.tOr (TL.tNot (tV (e1 (isiD .tuple) (eVar 0)))) (TL.tOr (tV (e2 neD (e1 lenD (eVar 0)) (eC (.int 3)))) (TL.tNot (tV (eCall m_is_from [(e2 ixD (eVar 0) (eC (.int 0))), (eC (.int 1)), (eC (.int 8))])))))
      (sRet (eC (.bool false)))
      sNext)
      (sSeq (sAsg (eVar 0) (TL.gTup [(TL.gName 1), (TL.gName 2), (TL.gName 3)]))
      (sSeq (sIf (TL.tOr (TL.tNot (tV (e1 (isiD .tuple) (eVar 2)))) (TL.tOr (tV (e2 neD (e1 lenD (eVar 2)) (eC (.int 2)))) (TL.tNot (tV (e1 allD (eLc [6] (iSeq (eVar 2)) (TL.gName 6) cYes (eCall m_is_items [(eVar 6), (eVar 1)])))))))
      (sRet (eC (.bool false)))
      sNext)
      (sRet (eAnd (eCall m_is_pairs [(eVar 3)]) (e1 allD (eLc2 [4, 5] (iSeq (eVar 3)) (TL.gName 4) cYes [5] (iSeq (eVar 4)) (TL.gName 5) cYes (eChain leD ltD (eC (.int 0)) (eVar 5) (eVar 1))))))))))
def m__law_cell : List D → Option D := runF 2 0 ((sSeq (sIf (tV (e2 ltD (eVar 1) (e1 lenD (eVar 0))))
      (sRet (e2 ixD (eVar 0) (eVar 1)))
      sNext)
      (sRet (eC (.int 0)))))
def m__law_draws : List D → Option D := runF 2 4 ((sSeq (sAsg (eLst []) (TL.gName 2))
      (sSeq (sAsg (eVar 0) (TL.gName 3))
      (sSeq (sFor (iRng1 (eVar 1)) (TL.gName 4)
      (sIf (TL.tAnd (tV (e2 geD (eVar 0) (e2 powD (eC (.int 10)) (eC (.int 18))))) (tV (e2 gtD (eVar 3) (eC (.int 0)))))
      (sSeq (sApp 2 (e2 modD (e1 intD (eVar 3)) (eC (.int 4096))))
      (sAsg (e2 fdivD (eVar 3) (eC (.int 4096))) (TL.gName 3)))
      (sSeq (sAsg (e2 modD (e1 intD (e2 addD (e2 mulD (eVar 0) (eC (.int 48271))) (e2 mulD (e2 addD (eVar 4) (eC (.int 1))) (eC (.int 69621))))) (eC (.int 2147483647))) (TL.gName 5))
      (sSeq (sAsg (e2 modD (e1 intD (e2 addD (e2 addD (e2 mulD (eVar 5) (eVar 5)) (e2 mulD (eVar 5) (eC (.int 16807)))) (e2 mulD (eVar 4) (eC (.int 7919))))) (eC (.int 2147483629))) (TL.gName 5))
      (sSeq (sAsg (e2 modD (e1 intD (e2 addD (e2 addD (e2 mulD (eVar 5) (eVar 5)) (eVar 0)) (e2 mulD (eC (.int 13)) (eVar 4)))) (eC (.int 2147483587))) (TL.gName 5))
      (sApp 2 (e2 modD (e2 fdivD (eVar 5) (eC (.int 7))) (eC (.int 4096)))))))))
      (sRet (eVar 2))))))
def m__law_is_int : List D → Option D := runF 1 0 ((sRet (eAnd (e1 (isiD .int) (eVar 0)) (eNot (e1 (isiD .bool) (eVar 0))))))
def m__law_is_bool : List D → Option D := runF 2 0 ((sSeq (sIf (tV (eVar 1))
      (sRet (e2 isD (eVar 0) (eC (.bool true))))
      sNext)
      (sRet (e2 isD (eVar 0) (eC (.bool false))))))
def m__law_numbers_in : List D → Option D := runF 2 1 ((sSeq (sIf (TL.tOr (TL.tNot (tV (e1 (isiD .tuple) (eVar 0)))) (tV (e2 neD (e1 lenD (eVar 0)) (eVar 1))))
      (sRet (eC (.bool false)))
      sNext)
      (sRet (e2 eqD (e1 lenD (eLc [2] (iSeq (eVar 0)) (TL.gName 2) (TL.tNot (tV (eCall m__law_is_int [(eVar 2)]))) (eVar 2))) (eC (.int 0))))))
def m__law_bend : Nat → List D → Option D
  | 0 => fun _ => none
  | n + 1 => runF 3 3 ((sSeq (sAsg (e1 intD (e2 ixD (eVar 1) (e2 modD (eVar 2) (e1 lenD (eVar 1))))) (TL.gName 3))
      (sSeq (sIf (TL.tAnd (tV (e1 (isiD .tuple) (eVar 0))) (TL.tAnd (tV (e2 gtD (e1 lenD (eVar 0)) (eC (.int 0)))) (tV (e2 gtD (e2 modD (eVar 3) (eC (.int 5))) (eC (.int 0))))))
      (sSeq (sAsg (e2 modD (e2 fdivD (eVar 3) (eC (.int 5))) (e1 lenD (eVar 0))) (TL.gName 5))
      (sRet (e2 addD (e2 addD (eSlice (eVar 0) none (some (eVar 5))) (eTup [(eCall (m__law_bend n) [(e2 ixD (eVar 0) (eVar 5)), (eVar 1), (e2 addD (eVar 2) (eC (.int 1)))])])) (eSlice (eVar 0) (some (e2 addD (eVar 5) (eC (.int 1)))) none))))
      sNext)
      (sSeq (sAsg (e2 modD (e2 fdivD (eVar 3) (eC (.int 5))) (eC (.int 7))) (TL.gName 4))
      (sSeq (sIf (tV (e1 (isiD .tuple) (eVar 0)))
      (sRet (e2 ixD (eLst [(e2 addD (eVar 0) (eTup [(eC (.int 0))])), (eSlice (eVar 0) none (some (e1 negD (eC (.int 1))))), (e1 listD (eVar 0)), (e1 revD (eVar 0)), (eC .none), (e2 addD (eVar 0) (eSlice (eVar 0) (some (e1 negD (eC (.int 1)))) none)), (eTup [(eVar 0)])]) (eVar 4)))
      sNext)
      (sSeq (sIf (tV (e1 (isiD .str) (eVar 0)))
      (sRet (e2 ixD (eLst [(e2 addD (eVar 0) (eC (.str "s"))), (eC (.str "")), (eC (.int 0)), (eC (.str "kept")), (eC (.str "parted")), (eC (.str "some")), (eC .none)]) (eVar 4)))
      sNext)
      (sSeq (sIf (TL.tOr (tV (e1 (isiD .bool) (eVar 0))) (TL.tNot (tV (e1 (isiD .int) (eVar 0)))))
      (sRet (eC (.int 0)))
      sNext)
      (sRet (e2 ixD (eLst [(e2 addD (eVar 0) (eC (.int 1))), (e2 subD (eVar 0) (eC (.int 1))), (e2 addD (eVar 0) (eC (.int 2))), (e2 eqD (eVar 0) (eC (.int 1))), (e1 strD (eVar 0)), (e1 negD (eVar 0)), (e2 addD (eVar 0) (eC (.int 9)))]) (eVar 4))))))))))
def m__law_line : List D → Option D := runF 1 3 ((sSeq (sAsg (eTup []) (TL.gName 1))
      (sSeq (sFor (iRng1 (eVar 0)) (TL.gName 2)
      (sAsg (e2 addD (eVar 1) (e1 tupleD (eLc [3] (iRng2 (e2 addD (eVar 2) (eC (.int 1))) (eVar 0)) (TL.gName 3) cYes (eTup [(eVar 2), (eVar 3)])))) (TL.gName 1)))
      (sRet (eTup [(eVar 0), (eTup [(eTup []), (eTup [])]), (eVar 1)])))))
def m__law_ring : List D → Option D := runF 1 1 ((sRet (eTup [(eVar 0), (eTup [(eTup []), (eTup [])]), (e1 tupleD (e1 sortedD (eLc [1] (iRng1 (eVar 0)) (TL.gName 1) cYes (eTup [(eVar 1), (e2 modD (e2 addD (eVar 1) (eC (.int 1))) (eVar 0))]))))])))
def m__law_both_ways : List D → Option D := runF 2 3 ((sRet (eTup [(eVar 0), (eTup [(eTup []), (eTup [])]), (e1 tupleD (e1 sortedD (e2 addD (eLc [2] (iSeq (eVar 1)) (TL.gName 2) cYes (eVar 2)) (eLc [3, 4] (iSeq (eVar 1)) (TL.gTup [(TL.gName 3), (TL.gName 4)]) cYes (eTup [(eVar 4), (eVar 3)])))))])))
def m__law_special : List D → Option D := runF 1 1 ((sSeq (sAsg (eLst [(eCall m__law_line [(eC (.int 3))]), (eCall m__law_line [(eC (.int 4))]), (eCall m__law_ring [(eC (.int 3))]), (eCall m__law_ring [(eC (.int 4))]), (eTup [(eC (.int 2)), (eTup [(eTup []), (eTup [])]), (eTup [])]), (eTup [(eC (.int 3)), (eTup [(eTup []), (eTup [])]), (eTup [])]), (eTup [(eC (.int 4)), (eTup [(eTup []), (eTup [])]), (eTup [])])]) (TL.gName 1))
      (sSeq (sAsg (e2 addD (eVar 1) (eLst [(eCall m__law_both_ways [(eC (.int 4)), (eTup [(eTup [(eC (.int 0)), (eC (.int 1))]), (eTup [(eC (.int 1)), (eC (.int 2))]), (eTup [(eC (.int 2)), (eC (.int 3))])])]), (eCall m__law_both_ways [(eC (.int 4)), (eTup [(eTup [(eC (.int 0)), (eC (.int 1))]), (eTup [(eC (.int 1)), (eC (.int 2))]), (eTup [(eC (.int 2)), (eC (.int 3))]), (eTup [(eC (.int 0)), (eC (.int 3))])])]), (eCall m__law_both_ways [(eC (.int 3)), (eTup [(eTup [(eC (.int 0)), (eC (.int 1))]), (eTup [(eC (.int 1)), (eC (.int 2))]), (eTup [(eC (.int 0)), (eC (.int 2))])])])])) (TL.gName 1))
      (sRet (e2 ixD (eVar 1) (e2 modD (eVar 0) (e1 lenD (eVar 1))))))))
def m__law_world : List D → Option D := runF 2 9 ((sSeq (sAsg (e2 addD (eC (.int 1)) (e2 modD (e1 intD (e2 ixD (eVar 0) (eC (.int 0)))) (eVar 1))) (TL.gName 2))
      (sSeq (sIf (TL.tAnd (tV (e2 eqD (e2 modD (e2 ixD (eVar 0) (eC (.int 1))) (eC (.int 6))) (eC (.int 1)))) (tV (e2 leD (e2 ixD (eCall m__law_special [(e1 intD (e2 ixD (eVar 0) (eC (.int 2))))]) (eC (.int 0))) (eVar 1))))
      (sRet (eCall m__law_special [(e1 intD (e2 ixD (eVar 0) (eC (.int 2))))]))
      sNext)
      (sSeq (sAsg (e2 ixD (eLst [(eC (.int 2)), (eC (.int 3)), (eC (.int 5)), (eC (.int 3))]) (e2 modD (e2 fdivD (e1 intD (e2 ixD (eVar 0) (eC (.int 1)))) (eC (.int 6))) (eC (.int 4)))) (TL.gName 3))
      (sSeq (sAsg (e2 ixD (eLst [(eC (.int 2)), (eC (.int 9999)), (eC (.int 3)), (eC (.int 9999))]) (e2 modD (e2 fdivD (e1 intD (e2 ixD (eVar 0) (eC (.int 1)))) (eC (.int 24))) (eC (.int 4)))) (TL.gName 4))
      (sSeq (sAsg (eTup []) (TL.gName 5))
      (sSeq (sFor (iRng1 (eC (.int 2))) (TL.gName 6)
      (sAsg (e2 addD (eVar 5) (eTup [(e1 tupleD (eLc [9] (iRng1 (eVar 2)) (TL.gName 9) (tV (e2 eqD (e2 modD (e2 fdivD (e1 intD (e2 ixD (eVar 0) (e2 addD (eC (.int 3)) (eVar 9)))) (e2 addD (eC (.int 1)) (eVar 6))) (eVar 4)) (eC (.int 0)))) (eVar 9)))])) (TL.gName 5)))
      (sSeq (sAsg (eLst []) (TL.gName 7))
      (sSeq (sAsg (eC (.int 11)) (TL.gName 8))
      (sSeq (sFor (iRng1 (eVar 2)) (TL.gName 9)
      (sFor (iRng1 (eVar 2)) (TL.gName 10)
      (sSeq (sIf (tV (e2 eqD (e2 modD (e2 fdivD (e1 intD (e2 ixD (eVar 0) (e2 modD (eVar 8) (e1 lenD (eVar 0))))) (e2 addD (eC (.int 1)) (e2 fdivD (eVar 8) (e1 lenD (eVar 0))))) (eVar 3)) (eC (.int 0))))
      (sApp 7 (eTup [(eVar 9), (eVar 10)]))
      sNext)
      (sAsg (e2 addD (eVar 8) (eC (.int 1))) (TL.gName 8)))))
      (sSeq (sIf (tV (e2 eqD (e2 modD (e2 ixD (eVar 0) (eC (.int 2))) (eC (.int 5))) (eC (.int 1))))
      (sSeq (sAsg (e2 addLD (eVar 7) (eLc [9, 10] (iSeq (eVar 7)) (TL.gTup [(TL.gName 9), (TL.gName 10)]) (tV (e2 ninD (eTup [(eVar 10), (eVar 9)]) (eVar 7))) (eTup [(eVar 10), (eVar 9)]))) (TL.gName 7))
      (sAsg (eLc [9, 10] (iSeq (eVar 7)) (TL.gTup [(TL.gName 9), (TL.gName 10)]) (tV (e2 neD (eVar 9) (eVar 10))) (eTup [(eVar 9), (eVar 10)])) (TL.gName 7)))
      sNext)
      (sRet (eTup [(eVar 2), (eVar 5), (e1 tupleD (e1 sortedD (eVar 7)))])))))))))))))
def m__law_items : List D → Option D := runF 2 2 ((sSeq (sIf (TL.tOr (TL.tNot (tV (e1 (isiD .tuple) (eVar 0)))) (tV (e2 gtD (e1 lenD (eLc [3] (iSeq (eVar 0)) (TL.gName 3) (TL.tOr (TL.tNot (tV (eCall m__law_is_int [(eVar 3)]))) (TL.tNot (tV (eChain leD ltD (eC (.int 0)) (eVar 3) (eVar 1))))) (eVar 3))) (eC (.int 0)))))
      (sRet (eC (.bool false)))
      sNext)
      (sRet (e2 eqD (e1 lenD (eLc [2] (iRng1 (e2 subD (e1 lenD (eVar 0)) (eC (.int 1)))) (TL.gName 2) (tV (e2 geD (e2 ixD (eVar 0) (eVar 2)) (e2 ixD (eVar 0) (e2 addD (eVar 2) (eC (.int 1)))))) (eVar 2))) (eC (.int 0))))))
def m__law_pairs : List D → Option D := runF 3 2 ((sSeq (sIf (TL.tNot (tV (e1 (isiD .tuple) (eVar 0))))
      (sRet (eC (.bool false)))
      sNext)
      (sSeq (sFor (iSeq (eVar 0)) (TL.gName 3)
      (sIf (TL.tOr (TL.tNot (tV (eCall m__law_numbers_in [(eVar 3), (eC (.int 2))]))) (TL.tOr (TL.tNot (tV (eChain leD ltD (eC (.int 0)) (e2 ixD (eVar 3) (eC (.int 0))) (eVar 1)))) (TL.tNot (tV (eChain leD ltD (eC (.int 0)) (e2 ixD (eVar 3) (eC (.int 1))) (eVar 2))))))
      (sRet (eC (.bool false)))
      sNext))
      (sRet (e2 eqD (e1 lenD (eLc [4] (iRng1 (e2 subD (e1 lenD (eVar 0)) (eC (.int 1)))) (TL.gName 4) (tV (e2 geD (e2 ixD (eVar 0) (eVar 4)) (e2 ixD (eVar 0) (e2 addD (eVar 4) (eC (.int 1)))))) (eVar 4))) (eC (.int 0)))))))
def m__law_is_world : List D → Option D := runF 1 1 ((sSeq (sIf (TL.tOr (TL.tNot (tV (e1 (isiD .tuple) (eVar 0)))) (TL.tOr (tV (e2 neD (e1 lenD (eVar 0)) (eC (.int 3)))) (TL.tOr (TL.tNot (tV (eCall m__law_is_int [(e2 ixD (eVar 0) (eC (.int 0)))]))) (TL.tNot (tV (eChain leD leD (eC (.int 1)) (e2 ixD (eVar 0) (eC (.int 0))) (eC (.int 8))))))))
      (sRet (eC (.bool false)))
      sNext)
      (sSeq (sIf (TL.tOr (TL.tNot (tV (e1 (isiD .tuple) (e2 ixD (eVar 0) (eC (.int 1)))))) (TL.tOr (tV (e2 neD (e1 lenD (e2 ixD (eVar 0) (eC (.int 1)))) (eC (.int 2)))) (tV (e2 gtD (e1 lenD (eLc [1] (iSeq (e2 ixD (eVar 0) (eC (.int 1)))) (TL.gName 1) (TL.tNot (tV (eCall m__law_items [(eVar 1), (e2 ixD (eVar 0) (eC (.int 0)))]))) (eVar 1))) (eC (.int 0))))))
      (sRet (eC (.bool false)))
      sNext)
      (sRet (eCall m__law_pairs [(e2 ixD (eVar 0) (eC (.int 2))), (e2 ixD (eVar 0) (eC (.int 0))), (e2 ixD (eVar 0) (eC (.int 0)))])))))
def m__law_names : List D → Option D := runF 3 3 ((sSeq (sAsg (eRngL (eVar 2)) (TL.gName 3))
      (sSeq (sAsg (eTup []) (TL.gName 4))
      (sSeq (sFor (iRng1 (eVar 2)) (TL.gName 5)
      (sPopAdd 4 3 (e2 modD (e1 intD (e2 ixD (eVar 0) (e2 modD (e2 addD (eVar 1) (eVar 5)) (e1 lenD (eVar 0))))) (e1 lenD (eVar 3)))))
      (sRet (eVar 4))))))
def m__law_renamed : List D → Option D := runF 2 4 ((sSeq (sAsg (e1 tupleD (eLc [3] (iSeq (e2 ixD (eVar 0) (eC (.int 1)))) (TL.gName 3) cYes (e1 tupleD (e1 sortedD (eLc [4] (iSeq (eVar 3)) (TL.gName 4) cYes (e2 ixD (eVar 1) (eVar 4))))))) (TL.gName 2))
      (sRet (eTup [(e2 ixD (eVar 0) (eC (.int 0))), (eVar 2), (e1 tupleD (e1 sortedD (eLc [4, 5] (iSeq (e2 ixD (eVar 0) (eC (.int 2)))) (TL.gTup [(TL.gName 4), (TL.gName 5)]) cYes (eTup [(e2 ixD (eVar 1) (eVar 4)), (e2 ixD (eVar 1) (eVar 5))]))))]))))
def m_is_formula : Nat → List D → Option D
  | 0 => fun _ => none
  | n + 1 => runF 1 3 ((sSeq (sIf (TL.tOr (TL.tNot (tV (e1 (isiD .tuple) (eVar 0)))) (TL.tOr (tV (e2 eqD (e1 lenD (eVar 0)) (eC (.int 0)))) (TL.tNot (tV (e1 (isiD .str) (e2 ixD (eVar 0) (eC (.int 0))))))))
      (sRet (eC (.bool false)))
      sNext)
      (sSeq (sPar 1 2 (e2 ixD (eVar 0) (eC (.int 0))) (e1 lenD (eVar 0)))
      (sSeq (sIf (tV (e2 inD (eVar 1) (eTup [(eC (.str "true")), (eC (.str "false"))])))
      (sRet (e2 eqD (eVar 2) (eC (.int 1))))
      sNext)
      (sSeq (sIf (tV (e2 inD (eVar 1) (eTup [(eC (.str "same")), (eC (.str "arrow"))])))
      (sRet (eAnd (e2 eqD (eVar 2) (eC (.int 3))) (eAnd (eCall m_is_from [(e2 ixD (eVar 0) (eC (.int 1))), (eC (.int 0)), (eC (.int 5))]) (eCall m_is_from [(e2 ixD (eVar 0) (eC (.int 2))), (eC (.int 0)), (eC (.int 5))]))))
      sNext)
      (sSeq (sIf (tV (e2 eqD (eVar 1) (eC (.str "mark"))))
      (sRet (eAnd (e2 eqD (eVar 2) (eC (.int 3))) (eAnd (eCall m_is_from [(e2 ixD (eVar 0) (eC (.int 1))), (eC (.int 0)), (eC (.int 1))]) (eCall m_is_from [(e2 ixD (eVar 0) (eC (.int 2))), (eC (.int 0)), (eC (.int 5))]))))
      sNext)
      (sSeq (sIf (tV (e2 eqD (eVar 1) (eC (.str "not"))))
      (sRet (eAnd (e2 eqD (eVar 2) (eC (.int 2))) (eCall (m_is_formula n) [(e2 ixD (eVar 0) (eC (.int 1)))])))
      sNext)
      (sSeq (sIf (tV (e2 inD (eVar 1) (eTup [(eC (.str "and")), (eC (.str "or"))])))
      (sRet (eAnd (e2 eqD (eVar 2) (eC (.int 2))) (eAnd (e1 (isiD .tuple) (e2 ixD (eVar 0) (eC (.int 1)))) (e1 allD (eLc [3] (iSeq (e2 ixD (eVar 0) (eC (.int 1)))) (TL.gName 3) cYes (eCall (m_is_formula n) [(eVar 3)]))))))
      sNext)
      (sSeq (sIf (tV (e2 inD (eVar 1) (eTup [(eC (.str "some")), (eC (.str "all"))])))
      (sRet (eAnd (e2 eqD (eVar 2) (eC (.int 3))) (eAnd (eCall m_is_from [(e2 ixD (eVar 0) (eC (.int 1))), (eC (.int 0)), (eC (.int 5))]) (eCall (m_is_formula n) [(e2 ixD (eVar 0) (eC (.int 2)))]))))
      sNext)
      (sSeq (sIf (TL.tOr (tV (e2 neD (eVar 1) (eC (.str "least")))) (TL.tOr (tV (e2 neD (eVar 2) (eC (.int 4)))) (TL.tNot (tV (eCall m_is_from [(e2 ixD (eVar 0) (eC (.int 1))), (eC (.int 1)), (eC (.int 8))])))))
      (sRet (eC (.bool false)))
      sNext)
      (sRet (eAnd (eCall m_is_from [(e2 ixD (eVar 0) (eC (.int 2))), (eC (.int 0)), (eC (.int 5))]) (eCall (m_is_formula n) [(e2 ixD (eVar 0) (eC (.int 3)))])))))))))))))
def m__law_pool : List D → Option D := fun ds => nnD (runF 1 2 ((sSeq (sAsg (eLst []) (TL.gName 1))
      (sSeq (sFor (iRng1 (e2 min2D (eC (.int 4)) (e2 max2D (eC (.int 1)) (e1 lenD (eVar 0))))) (TL.gName 2)
      (sAsg (e2 addD (eVar 1) (eCall m__law_draws [(e2 addD (eCall m__law_cell [(eVar 0), (eVar 2)]) (e2 mulD (eC (.int 7)) (eVar 2))), (eC (.int 20))])) (TL.gName 1)))
      (sRet (eLst [(eVar 1), eLst [eC (.int 0)]]))))) ds)
def m__law_pick : Nat → List D → Int → Option (D × Int) := runQ 2 2 ((qSeq (qAsg (qCnt 0) (TL.gName 2))
      (qSeq (qStore 0 (ql (e2 addD (eVar 2) (eC (.int 1)))))
      (qSeq (qlS (sAsg (e2 fdivD (eVar 2) (e1 lenD (eRows 0))) (TL.gName 3)))
      (qlS (sRet (e2 modD (e1 intD (e2 addD (e2 addD (e2 ixD (eRows 0) (e2 modD (eVar 2) (e1 lenD (eRows 0)))) (e2 mulD (eVar 3) (eC (.int 1009)))) (e2 mulD (eVar 3) (eVar 2)))) (eVar 1))))))))
def m__law_is_name : List D → Option D := runF 1 0 ((sRet (eAnd (eCall m__law_is_int [(eVar 0)]) (eChain leD leD (eC (.int 0)) (eVar 0) (eC (.int 5))))))
def m__law_is_formula : Nat → List D → Option D
  | 0 => fun _ => none
  | n + 1 => runF 1 2 ((sSeq (sIf (TL.tOr (TL.tNot (tV (e1 (isiD .tuple) (eVar 0)))) (TL.tOr (tV (e2 eqD (e1 lenD (eVar 0)) (eC (.int 0)))) (TL.tNot (tV (e1 (isiD .str) (e2 ixD (eVar 0) (eC (.int 0))))))))
      (sRet (eC (.bool false)))
      sNext)
      (sSeq (sAsg (e2 ixD (eVar 0) (eC (.int 0))) (TL.gName 1))
      (sSeq (sIf (tV (e2 inD (eVar 1) (eTup [(eC (.str "true")), (eC (.str "false"))])))
      (sRet (e2 eqD (e1 lenD (eVar 0)) (eC (.int 1))))
      sNext)
      (sSeq (sIf (tV (e2 inD (eVar 1) (eTup [(eC (.str "same")), (eC (.str "arrow"))])))
      (sRet (eAnd (e2 eqD (e1 lenD (eVar 0)) (eC (.int 3))) (eAnd (eCall m__law_is_name [(e2 ixD (eVar 0) (eC (.int 1)))]) (eCall m__law_is_name [(e2 ixD (eVar 0) (eC (.int 2)))]))))
      sNext)
      (sSeq (sIf (tV (e2 eqD (eVar 1) (eC (.str "mark"))))
      (sRet (eAnd (e2 eqD (e1 lenD (eVar 0)) (eC (.int 3))) (eAnd (eCall m__law_is_int [(e2 ixD (eVar 0) (eC (.int 1)))]) (eAnd (eChain leD leD (eC (.int 0)) (e2 ixD (eVar 0) (eC (.int 1))) (eC (.int 1))) (eCall m__law_is_name [(e2 ixD (eVar 0) (eC (.int 2)))])))))
      sNext)
      (sSeq (sIf (tV (e2 eqD (eVar 1) (eC (.str "not"))))
      (sRet (eAnd (e2 eqD (e1 lenD (eVar 0)) (eC (.int 2))) (eCall (m__law_is_formula n) [(e2 ixD (eVar 0) (eC (.int 1)))])))
      sNext)
      (sSeq (sIf (tV (e2 inD (eVar 1) (eTup [(eC (.str "and")), (eC (.str "or"))])))
      (sRet (eAnd (e2 eqD (e1 lenD (eVar 0)) (eC (.int 2))) (eAnd (e1 (isiD .tuple) (e2 ixD (eVar 0) (eC (.int 1)))) (e2 eqD (e1 lenD (eLc [2] (iSeq (e2 ixD (eVar 0) (eC (.int 1)))) (TL.gName 2) (TL.tNot (tV (eCall (m__law_is_formula n) [(eVar 2)]))) (eVar 2))) (eC (.int 0))))))
      sNext)
      (sSeq (sIf (tV (e2 inD (eVar 1) (eTup [(eC (.str "some")), (eC (.str "all"))])))
      (sRet (eAnd (e2 eqD (e1 lenD (eVar 0)) (eC (.int 3))) (eAnd (eCall m__law_is_name [(e2 ixD (eVar 0) (eC (.int 1)))]) (eCall (m__law_is_formula n) [(e2 ixD (eVar 0) (eC (.int 2)))]))))
      sNext)
      (sSeq (sIf (TL.tOr (tV (e2 neD (eVar 1) (eC (.str "least")))) (TL.tOr (tV (e2 neD (e1 lenD (eVar 0)) (eC (.int 4)))) (TL.tOr (TL.tNot (tV (eCall m__law_is_int [(e2 ixD (eVar 0) (eC (.int 1)))]))) (TL.tNot (tV (eChain leD leD (eC (.int 1)) (e2 ixD (eVar 0) (eC (.int 1))) (eC (.int 8))))))))
      (sRet (eC (.bool false)))
      sNext)
      (sRet (eAnd (eCall m__law_is_name [(e2 ixD (eVar 0) (eC (.int 2)))]) (eCall (m__law_is_formula n) [(e2 ixD (eVar 0) (eC (.int 3)))])))))))))))))
def m__law_formula : Nat → Nat → List D → Int → Option (D × Int)
  | 0 => fun _ _ _ => none
  | n + 1 => runQ 4 7 ((qSeq (qAsg (qCall m__law_pick [(ql (eVar 0)), (ql (eC (.int 9)))]) (TL.gName 4))
      (qSeq (qIfS (qlT (TL.tOr (tV (e2 eqD (eVar 2) (eC (.int 0)))) (tV (e2 ltD (eVar 4) (eC (.int 2))))))
      (qSeq (qAsg (qCall m__law_pick [(ql (eVar 0)), (ql (eVar 1))]) (TL.gName 7))
      (qSeq (qAsg (qCall m__law_pick [(ql (eVar 0)), (ql (eVar 1))]) (TL.gName 8))
      (qRet (q2 ixD (qLst [(ql (eTup [(eC (.str "arrow")), (eVar 7), (eVar 8)])), (ql (eTup [(eC (.str "arrow")), (eVar 8), (eVar 7)])), (ql (eTup [(eC (.str "same")), (eVar 7), (eVar 8)])), (qTup [(ql (eC (.str "mark"))), (qCall m__law_pick [(ql (eVar 0)), (ql (eC (.int 2)))]), (ql (eVar 7))]), (ql (eTup [(eC (.str "true"))])), (ql (eTup [(eC (.str "false"))]))]) (q2 min2D (ql (eC (.int 5))) (qCall m__law_pick [(ql (eVar 0)), (ql (eC (.int 9)))]))))))
      qNext)
      (qSeq (qAsg (q2 ixD (ql (eVar 3)) (qCall m__law_pick [(ql (eVar 0)), (ql (e1 lenD (eVar 3)))])) (TL.gName 5))
      (qSeq (qIfS (qlT (tV (e2 eqD (eVar 5) (eC (.str "not")))))
      (qRet (qTup [(ql (eC (.str "not"))), (qCall (m__law_formula n) [(ql (eVar 0)), (ql (eVar 1)), (ql (e2 subD (eVar 2) (eC (.int 1)))), (ql (eVar 3))])]))
      qNext)
      (qSeq (qIfS (qlT (tV (e2 inD (eVar 5) (eTup [(eC (.str "and")), (eC (.str "or"))]))))
      (qSeq (qlS (sAsg (eTup []) (TL.gName 9)))
      (qSeq (qFor (qRng1 (qCall m__law_pick [(ql (eVar 0)), (ql (eC (.int 4)))])) (TL.gName 10)
      (qAsg (q2 addD (ql (eVar 9)) (qTup [(qCall (m__law_formula n) [(ql (eVar 0)), (ql (eVar 1)), (ql (e2 subD (eVar 2) (eC (.int 1)))), (ql (eVar 3))])])) (TL.gName 9)))
      (qlS (sRet (eTup [(eVar 5), (eVar 9)])))))
      qNext)
      (qSeq (qAsg (qCall m__law_pick [(ql (eVar 0)), (ql (eVar 1))]) (TL.gName 6))
      (qSeq (qIfS (qlT (tV (e2 eqD (eVar 5) (eC (.str "least")))))
      (qRet (qTup [(ql (eC (.str "least"))), (q2 addD (ql (eC (.int 1))) (qCall m__law_pick [(ql (eVar 0)), (ql (eC (.int 3)))])), (ql (eVar 6)), (qCall (m__law_formula n) [(ql (eVar 0)), (ql (eVar 1)), (ql (e2 subD (eVar 2) (eC (.int 1)))), (ql (eVar 3))])]))
      qNext)
      (qRet (qTup [(ql (eVar 5)), (ql (eVar 6)), (qCall (m__law_formula n) [(ql (eVar 0)), (ql (eVar 1)), (ql (e2 subD (eVar 2) (eC (.int 1)))), (ql (eVar 3))])]))))))))))
def m_is_map : List D → Option D := runF 3 3 ((sSeq (sIf (TL.tOr (TL.tNot (tV (eCall m_is_pairs [(eVar 2)]))) (TL.tNot (tV (e1 allD (eLc [4, 5] (iSeq (eVar 2)) (TL.gTup [(TL.gName 4), (TL.gName 5)]) cYes (eAnd (eChain leD ltD (eC (.int 0)) (eVar 4) (e2 ixD (eVar 0) (eC (.int 0)))) (eChain leD ltD (eC (.int 0)) (eVar 5) (e2 ixD (eVar 1) (eC (.int 0))))))))))
      (sRet (eC (.bool false)))
      sNext)
      (sRet (e1 allD (eLc [3] (iRng1 (e2 subD (e1 lenD (eVar 2)) (eC (.int 1)))) (TL.gName 3) cYes (e2 neD (e2 ixD (e2 ixD (eVar 2) (eVar 3)) (eC (.int 0))) (e2 ixD (e2 ixD (eVar 2) (e2 addD (eVar 3) (eC (.int 1)))) (eC (.int 0)))))))))
def m_goes : List D → Option D := runF 4 5 ((sSeq (sAsg (eVar 2) (TL.gTup [(TL.gName 4), (TL.gName 5)]))
      (sSeq (sAsg (eVar 3) (TL.gTup [(TL.gName 6), (TL.gName 7)]))
      (sSeq (sIf (tV (e2 neD (e2 eqD (eVar 4) (eVar 6)) (e2 eqD (eVar 5) (eVar 7))))
      (sRet (eC (.bool false)))
      sNext)
      (sSeq (sIf (tV (e1 anyD (eLc [8] (iSeq (eTup [(eC (.int 0)), (eC (.int 1))])) (TL.gName 8) cYes (e2 neD (e2 inD (eVar 4) (e2 ixD (e2 ixD (eVar 0) (eC (.int 1))) (eVar 8))) (e2 inD (eVar 5) (e2 ixD (e2 ixD (eVar 1) (eC (.int 1))) (eVar 8)))))))
      (sRet (eC (.bool false)))
      sNext)
      (sRet (eAnd (e2 eqD (e2 inD (eTup [(eVar 4), (eVar 6)]) (e2 ixD (eVar 0) (eC (.int 2)))) (e2 inD (eTup [(eVar 5), (eVar 7)]) (e2 ixD (eVar 1) (eC (.int 2))))) (e2 eqD (e2 inD (eTup [(eVar 6), (eVar 4)]) (e2 ixD (eVar 0) (eC (.int 2)))) (e2 inD (eTup [(eVar 7), (eVar 5)]) (e2 ixD (eVar 1) (eC (.int 2))))))))))))
def m_is_local : List D → Option D := runF 3 2 ((sRet (eAnd (eCall m_is_map [(eVar 0), (eVar 1), (eVar 2)]) (e1 allD (eLc2 [3, 4] (iSeq (eVar 2)) (TL.gName 3) cYes [4] (iSeq (eVar 2)) (TL.gName 4) cYes (eCall m_goes [(eVar 0), (eVar 1), (eVar 3), (eVar 4)]))))))
def m__law_pair : List D → Option D := runF 2 9 ((sSeq (sAsg (eCall m__law_world [(eVar 0), (eVar 1)]) (TL.gName 2))
      (sSeq (sAsg (e2 ixD (eVar 2) (eC (.int 0))) (TL.gName 3))
      (sSeq (sAsg (e2 modD (e1 intD (e2 ixD (eVar 0) (e2 subD (e1 lenD (eVar 0)) (eC (.int 1))))) (eC (.int 8))) (TL.gName 4))
      (sSeq (sIf (tV (e2 eqD (eVar 4) (eC (.int 0))))
      (sRet (eTup [(eVar 2), (eCall m__law_world [(eSlice (eVar 0) (some (eC (.int 7))) none), (eVar 1)])]))
      sNext)
      (sSeq (sIf (tV (e2 eqD (eVar 4) (eC (.int 1))))
      (sSeq (sAsg (eLst [(eTup [(eCall m__law_line [(eC (.int 3))]), (eCall m__law_line [(eC (.int 4))])]), (eTup [(eCall m__law_line [(eC (.int 2))]), (eCall m__law_line [(eC (.int 3))])]), (eTup [(eTup [(eC (.int 3)), (eTup [(eTup []), (eTup [])]), (eTup [])]), (eTup [(eC (.int 4)), (eTup [(eTup []), (eTup [])]), (eTup [])])]), (eTup [(eCall m__law_ring [(eC (.int 3))]), (eCall m__law_ring [(eC (.int 4))])]), (eTup [(eCall m__law_ring [(eC (.int 4))]), (eCall m__law_line [(eC (.int 4))])])]) (TL.gName 8))
      (sSeq (sAsg (e2 ixD (eVar 8) (e2 modD (e1 intD (e2 ixD (eVar 0) (e2 subD (e1 lenD (eVar 0)) (eC (.int 2))))) (eC (.int 5)))) (TL.gName 9))
      (sIf (tV (e2 leD (e2 max2D (e2 ixD (e2 ixD (eVar 9) (eC (.int 0))) (eC (.int 0))) (e2 ixD (e2 ixD (eVar 9) (eC (.int 1))) (eC (.int 0)))) (eVar 1)))
      (sRet (eVar 9))
      sNext)))
      sNext)
      (sSeq (sAsg (eCall m__law_renamed [(eVar 2), (eCall m__law_names [(eVar 0), (e2 subD (e1 lenD (eVar 0)) (eC (.int 12))), (eVar 3)])]) (TL.gName 5))
      (sSeq (sIf (tV (e2 ltD (eVar 4) (eC (.int 4))))
      (sRet (eTup [(eVar 2), (eVar 5)]))
      sNext)
      (sSeq (sAsg (e2 modD (e1 intD (e2 ixD (eVar 0) (e2 subD (e1 lenD (eVar 0)) (eC (.int 3))))) (eVar 3)) (TL.gName 6))
      (sSeq (sAsg (e2 modD (e1 intD (e2 ixD (eVar 0) (e2 subD (e1 lenD (eVar 0)) (eC (.int 4))))) (eVar 3)) (TL.gName 7))
      (sSeq (sIf (tV (e2 ltD (eVar 4) (eC (.int 7))))
      (sSeq (sIf (tV (e2 inD (eTup [(eVar 6), (eVar 7)]) (e2 ixD (eVar 5) (eC (.int 2)))))
      (sRet (eTup [(eVar 2), (eTup [(eVar 3), (e2 ixD (eVar 5) (eC (.int 1))), (e1 tupleD (eLc [9] (iSeq (e2 ixD (eVar 5) (eC (.int 2)))) (TL.gName 9) (tV (e2 neD (eVar 9) (eTup [(eVar 6), (eVar 7)]))) (eVar 9)))])]))
      sNext)
      (sRet (eTup [(eVar 2), (eTup [(eVar 3), (e2 ixD (eVar 5) (eC (.int 1))), (e1 tupleD (e1 sortedD (e2 addD (e2 ixD (eVar 5) (eC (.int 2))) (eTup [(eTup [(eVar 6), (eVar 7)])]))))])])))
      sNext)
      (sSeq (sIf (tV (e2 inD (eVar 6) (e2 ixD (e2 ixD (eVar 5) (eC (.int 1))) (eC (.int 0)))))
      (sRet (eTup [(eVar 2), (eTup [(eVar 3), (eTup [(e1 tupleD (eLc [10] (iSeq (e2 ixD (e2 ixD (eVar 5) (eC (.int 1))) (eC (.int 0)))) (TL.gName 10) (tV (e2 neD (eVar 10) (eVar 6))) (eVar 10))), (e2 ixD (e2 ixD (eVar 5) (eC (.int 1))) (eC (.int 1)))]), (e2 ixD (eVar 5) (eC (.int 2)))])]))
      sNext)
      (sRet (eTup [(eVar 2), (eTup [(eVar 3), (eTup [(e1 tupleD (e1 sortedD (e2 addD (e2 ixD (e2 ixD (eVar 5) (eC (.int 1))) (eC (.int 0))) (eTup [(eVar 6)])))), (e2 ixD (e2 ixD (eVar 5) (eC (.int 1))) (eC (.int 1)))]), (e2 ixD (eVar 5) (eC (.int 2)))])]))))))))))))))
def m__law_fit : List D → Option D := runF 4 4 ((sSeq (sAsg (eVar 2) (TL.gTup [(TL.gName 4), (TL.gName 5)]))
      (sSeq (sAsg (eVar 3) (TL.gTup [(TL.gName 6), (TL.gName 7)]))
      (sSeq (sIf (tV (e2 neD (e2 eqD (eVar 4) (eVar 6)) (e2 eqD (eVar 5) (eVar 7))))
      (sRet (eC (.bool false)))
      sNext)
      (sSeq (sIf (TL.tOr (tV (e2 neD (e2 inD (eVar 4) (e2 ixD (e2 ixD (eVar 0) (eC (.int 1))) (eC (.int 0)))) (e2 inD (eVar 5) (e2 ixD (e2 ixD (eVar 1) (eC (.int 1))) (eC (.int 0)))))) (tV (e2 neD (e2 inD (eVar 4) (e2 ixD (e2 ixD (eVar 0) (eC (.int 1))) (eC (.int 1)))) (e2 inD (eVar 5) (e2 ixD (e2 ixD (eVar 1) (eC (.int 1))) (eC (.int 1)))))))
      (sRet (eC (.bool false)))
      sNext)
      (sRet (eAnd (e2 eqD (e2 inD (eTup [(eVar 4), (eVar 6)]) (e2 ixD (eVar 0) (eC (.int 2)))) (e2 inD (eTup [(eVar 5), (eVar 7)]) (e2 ixD (eVar 1) (eC (.int 2))))) (e2 eqD (e2 inD (eTup [(eVar 6), (eVar 4)]) (e2 ixD (eVar 0) (eC (.int 2)))) (e2 inD (eTup [(eVar 7), (eVar 5)]) (e2 ixD (eVar 1) (eC (.int 2))))))))))))
def m__law_carry : List D → Option D := runF 4 4 ((sSeq (sAsg (eVar 2) (TL.gTup [(TL.gName 4), (TL.gName 5)]))
      (sSeq (sAsg (eVar 3) (TL.gTup [(TL.gName 6), (TL.gName 7)]))
      (sSeq (sIf (TL.tOr (TL.tAnd (tV (e2 eqD (eVar 4) (eVar 6))) (tV (e2 neD (eVar 5) (eVar 7)))) (TL.tOr (TL.tAnd (tV (e2 inD (eVar 4) (e2 ixD (e2 ixD (eVar 0) (eC (.int 1))) (eC (.int 0))))) (tV (e2 ninD (eVar 5) (e2 ixD (e2 ixD (eVar 1) (eC (.int 1))) (eC (.int 0)))))) (TL.tAnd (tV (e2 inD (eVar 4) (e2 ixD (e2 ixD (eVar 0) (eC (.int 1))) (eC (.int 1))))) (tV (e2 ninD (eVar 5) (e2 ixD (e2 ixD (eVar 1) (eC (.int 1))) (eC (.int 1))))))))
      (sRet (eC (.bool false)))
      sNext)
      (sRet (eAnd (eNot (eAnd (e2 inD (eTup [(eVar 4), (eVar 6)]) (e2 ixD (eVar 0) (eC (.int 2)))) (e2 ninD (eTup [(eVar 5), (eVar 7)]) (e2 ixD (eVar 1) (eC (.int 2)))))) (eNot (eAnd (e2 inD (eTup [(eVar 6), (eVar 4)]) (e2 ixD (eVar 0) (eC (.int 2)))) (e2 ninD (eTup [(eVar 7), (eVar 5)]) (e2 ixD (eVar 1) (eC (.int 2))))))))))))
def m__law_goes : List D → Option D := runF 4 2 ((sSeq (sFor (iSeq (eVar 2)) (TL.gName 4)
      (sSeq (sIf (TL.tAnd (tV (e2 eqD (eVar 3) (eC (.int 0)))) (tV (e2 gtD (e1 lenD (eLc [5] (iSeq (eVar 2)) (TL.gName 5) (TL.tNot (tV (eCall m__law_fit [(eVar 0), (eVar 1), (eVar 4), (eVar 5)]))) (eVar 5))) (eC (.int 0)))))
      (sRet (eC (.bool false)))
      sNext)
      (sIf (TL.tAnd (tV (e2 eqD (eVar 3) (eC (.int 1)))) (tV (e2 gtD (e1 lenD (eLc [5] (iSeq (eVar 2)) (TL.gName 5) (TL.tNot (tV (eCall m__law_carry [(eVar 0), (eVar 1), (eVar 4), (eVar 5)]))) (eVar 5))) (eC (.int 0)))))
      (sRet (eC (.bool false)))
      sNext)))
      (sRet (eC (.bool true)))))
def m__law_is_map : List D → Option D := runF 4 1 ((sSeq (sIf (TL.tNot (tV (eCall m__law_pairs [(eVar 2), (e2 ixD (eVar 0) (eC (.int 0))), (e2 ixD (eVar 1) (eC (.int 0)))])))
      (sRet (eC (.bool false)))
      sNext)
      (sSeq (sIf (tV (e2 gtD (e1 lenD (eLc [4] (iRng1 (e2 subD (e1 lenD (eVar 2)) (eC (.int 1)))) (TL.gName 4) (tV (e2 eqD (e2 ixD (e2 ixD (eVar 2) (eVar 4)) (eC (.int 0))) (e2 ixD (e2 ixD (eVar 2) (e2 addD (eVar 4) (eC (.int 1)))) (eC (.int 0))))) (eVar 4))) (eC (.int 0))))
      (sRet (eC (.bool false)))
      sNext)
      (sRet (eCall m__law_goes [(eVar 0), (eVar 1), (eVar 2), (eVar 3)])))))
def m_grows : List D → Option D := runF 4 1 ((sRet (eAnd (eCall m_goes [(eVar 0), (eVar 1), (eVar 3), (eVar 3)]) (e1 allD (eLc [4] (iSeq (eVar 2)) (TL.gName 4) cYes (eCall m_goes [(eVar 0), (eVar 1), (eVar 3), (eVar 4)]))))))
def m_put : List D → Option D := runF 2 0 ((sRet (eIf (tV (e2 inD (eVar 1) (eVar 0))) (eVar 0) (e1 tupleD (e1 sortedD (e2 addD (eVar 0) (eTup [(eVar 1)])))))))
def m_can_answer_2 : (List D → Option D) → List D → Option D := fun R => runM 6 4 4 ((sSeq (sAsg (eRngV (eC (.int 0)) (eIf (tV (e2 eqD (eVar 6) (eC (.int 0)))) (e2 ixD (eVar 1) (eC (.int 0))) (e2 ixD (eVar 0) (eC (.int 0))))) (TL.gName 7))
      (sSeq (sAsg (eLc [10] (iRngO (eVar 7)) (TL.gName 10) cYes (eIf (tV (e2 eqD (eVar 6) (eC (.int 0)))) (eTup [(eVar 5), (eVar 10)]) (eTup [(eVar 10), (eVar 5)]))) (TL.gName 8))
      (sSeq (sFor (iSeq (eVar 8)) (TL.gName 9)
      (sIf (TL.tAnd (tV (eCall m_grows [(eVar 0), (eVar 1), (eVar 2), (eVar 9)])) (tV (eCall R [(eVar 0), (eVar 1), (eCall m_put [(eVar 2), (eVar 9)]), (eVar 3)])))
      (sRet (eC (.bool true)))
      sNext))
      (sRet (eC (.bool false)))))))
def m_can_go_2 : Nat → List D → Option D
  | 0 => fun _ => none
  | n + 1 => runM 4 4 3 ((sSeq (sIf (tV (e2 eqD (eVar 3) (eC (.int 0))))
      (sRet (eC (.bool true)))
      sNext)
      (sMemo LB.uGo LB.spGo 0 1 (eTup [(eVar 2), (eVar 3)])
      (sSeqN (sAsg (eAg true [6] (iRng1 (e2 ixD (eVar 0) (eC (.int 0)))) (TL.gName 6) (eCall (m_can_answer_2 (m_can_go_2 n)) [(eVar 0), (eVar 1), (eVar 2), (e2 subD (eVar 3) (eC (.int 1))), (eVar 6), (eC (.int 0))])) (TL.gName 5))
      (sEnd LB.uGo LB.spGo 0 1 (eTup [(eVar 2), (eVar 3)]) (eAnd (eVar 5) (eAg true [7] (iRng1 (e2 ixD (eVar 1) (eC (.int 0)))) (TL.gName 7) (eCall (m_can_answer_2 (m_can_go_2 n)) [(eVar 0), (eVar 1), (eVar 2), (e2 subD (eVar 3) (eC (.int 1))), (eVar 7), (eC (.int 1))]))))))))
def m__law_can : Nat → List D → Option D
  | 0 => fun _ => none
  | n + 1 => runF 4 6 ((sSeq (sIf (tV (e2 eqD (eVar 3) (eC (.int 0))))
      (sRet (eC (.bool true)))
      sNext)
      (sSeq (sFor (iRng1 (eC (.int 2))) (TL.gName 4)
      (sFor (iRng1 (e2 ixD (eLst [(e2 ixD (eVar 0) (eC (.int 0))), (e2 ixD (eVar 1) (eC (.int 0)))]) (eVar 4))) (TL.gName 5)
      (sSeq (sAsg (eC (.bool false)) (TL.gName 6))
      (sSeq (sFor (iRng1 (e2 ixD (eLst [(e2 ixD (eVar 1) (eC (.int 0))), (e2 ixD (eVar 0) (eC (.int 0)))]) (eVar 4))) (TL.gName 7)
      (sSeq (sAsg (e2 ixD (eLst [(eTup [(eVar 5), (eVar 7)]), (eTup [(eVar 7), (eVar 5)])]) (eVar 4)) (TL.gName 8))
      (sIf (TL.tAnd (TL.tNot (tV (eVar 6))) (tV (e2 eqD (e1 lenD (eLc [9] (iSeq (e2 addD (eVar 2) (eTup [(eVar 8)]))) (TL.gName 9) (TL.tNot (tV (eCall m__law_fit [(eVar 0), (eVar 1), (eVar 8), (eVar 9)]))) (eVar 9))) (eC (.int 0)))))
      (sAsg (eCall (m__law_can n) [(eVar 0), (eVar 1), (e2 addD (eVar 2) (eTup [(eVar 8)])), (e2 subD (eVar 3) (eC (.int 1)))]) (TL.gName 6))
      sNext)))
      (sIf (TL.tNot (tV (eVar 6)))
      (sRet (eC (.bool false)))
      sNext)))))
      (sRet (eC (.bool true))))))
def m__law_agree : List D → Option D := runF 3 0 ((sRet (eCall (m__law_can 60) [(eVar 0), (eVar 1), (eTup []), (eVar 2)])))
def m_agree_2 : List D → Option D := runF 3 0 ((sRet (eCall (m_can_go_2 8) [(eVar 0), (eVar 1), (eTup []), (eVar 2)])))
def m_law_k18 : List D → Option D := runF 1 6 ((sSeq (sFor (iRng1 (eC (.int 2))) (TL.gName 1)
      (sSeq (sAsg (eCall m__law_draws [(eCall m__law_cell [(eVar 0), (eVar 1)]), (eC (.int 80))]) (TL.gName 2))
      (sSeq (sAsg (eCall m__law_pair [(eVar 2), (eC (.int 5))]) (TL.gTup [(TL.gName 5), (TL.gName 6)]))
      (sSeq (sAsg (e2 modD (e2 ixD (eVar 2) (eC (.int 60))) (eC (.int 4))) (TL.gName 3))
      (sSeq (sIf (tV (e2 gtD (e2 max2D (e2 ixD (eVar 5) (eC (.int 0))) (e2 ixD (eVar 6) (eC (.int 0)))) (eC (.int 4))))
      (sAsg (e2 min2D (eVar 3) (eC (.int 2))) (TL.gName 3))
      sNext)
      (sSeq (sAsg (eCall m__law_agree [(eVar 5), (eVar 6), (eVar 3)]) (TL.gName 4))
      (sIf (TL.tOr (TL.tNot (tV (eCall m__law_is_bool [(eCall m_agree_2 [(eVar 5), (eVar 6), (eVar 3)]), (eVar 4)]))) (TL.tOr (TL.tNot (tV (eCall m__law_is_bool [(eCall m_agree_2 [(eVar 6), (eVar 5), (eVar 3)]), (eVar 4)]))) (tV (e2 isntD (eCall m_agree_2 [(eVar 5), (eVar 5), (eVar 3)]) (eC (.bool true))))))
      (sRet (eC (.bool false)))
      sNext)))))))
      (sRet (eC (.bool true)))))
end LB

set_option Elab.async false
set_option linter.all false
set_option maxRecDepth 100000
/-! What the laws' own helpers compute: cells, draws, worlds. -/
namespace LB
open PySem TL
theorem cell_ok (ns : List Int) (k : Nat) : ∃ c : Int, m__law_cell [.list (ns.map .int), .int k] = some (.int c) := by
  by_cases h : k < ns.length
  · refine ⟨ns[k], ?_⟩
    simp [m__law_cell, runF, ltD, lenD, ixD, h, L2.atI, L2.ixN]
  · refine ⟨0, ?_⟩
    simp [m__law_cell, runF, ltD, lenD, ixD, h, L2.atI, L2.ixN]
theorem isbool_ok (x : Bool) (y : Bool) : m__law_is_bool [.bool x, .bool y] = some (.bool (decide (x = y))) := by
  cases x <;> cases y <;> rfl
theorem draws_ok (c : Int) (n : Nat) (hn : n ≤ 1000) : ∃ rs : List Int, m__law_draws [.int c, .int n] = some (.list (rs.map .int)) ∧ rs.length = n ∧ ∀ r ∈ rs, 0 ≤ r ∧ r < 4096 := by
  have hrng : rangeD 0 n = some (rangeL 0 n) := by
    have := rng_n (lo := 0) (hi := n) (by decide) (by decide) (by omega) (by omega)
    simpa using this
  have h18 := pow_18
  simp only [m__law_draws, runF, List.length_cons, List.length_nil, if_true, List.map_cons, List.map_nil, List.replicate, List.cons_append, List.nil_append, sSeq, sAsg, eLst, eArgs, Option.bind_some, Option.map_some, eVar, TL.gName, List.getD_cons_zero, List.set_cons_zero, List.set_cons_succ, sFor, iRng1, toI, List.getD_cons_succ, hrng, Nat.zero_le]
  generalize hb : (sIf _ _ _ : SS) = body
  obtain ⟨e, h1, rs, left, k, b, he, hl, hr⟩ := for_rng (g := TL.gName 4) (body := body)
    (lo := 0) (n := n) (env := [some (.int c), some (.int n), some (.list []), some (.int c), none, none])
    (fun i env => ∃ (rs : List Int) (left : Int) (k b : Option D), env = [some (.int c), some (.int n), some (.list (rs.map .int)), some (.int left), k, b] ∧ rs.length = i ∧ ∀ r ∈ rs, 0 ≤ r ∧ r < 4096)
    ⟨[], c, none, none, rfl, rfl, fun r h => (by cases h)⟩ (by
      rintro j env hj ⟨rs, left, k, b, rfl, hl, hr⟩
      refine ⟨_, rfl, ?_⟩
      have hs2 : rs.length < sizeLine := small' (by omega)
      subst hb
      by_cases hc : (1000000000000000000 : Int) ≤ c ∧ 0 < left
      · refine ⟨[some (.int c), some (.int n), some (.list ((rs ++ [left % 4096]).map .int)), some (.int (left / 4096)), some (.int (0 + j)), b], .inl ?_, rs ++ [left % 4096], left / 4096, _, b, rfl, by simp [hl], ?_⟩
        · simp [h18, hc.1, hc.2, mod_n, fdiv_n, hs2]
        · intro r hr'
          rcases List.mem_append.mp hr' with h | h
          · exact hr r h
          · rw [List.mem_singleton.mp h]; omega
      · have m1 : mulD (.int c) (.int 48271) = some (.int (c * 48271)) := mul_r (by decide) (by decide)
        have m2 : mulD (.int (j + 1)) (.int 69621) = some (.int ((j + 1) * 69621)) := mul_r (by decide) (by decide)
        generalize hb1 : (c * 48271 + (j + 1) * 69621) % 2147483647 = b1
        have r1 : 0 ≤ b1 ∧ b1 < 2147483647 := by omega
        have m3 : mulD (.int b1) (.int b1) = some (.int (b1 * b1)) := mul_r (by omega) (by omega)
        have m4 : mulD (.int b1) (.int 16807) = some (.int (b1 * 16807)) := mul_r (by decide) (by decide)
        have m5 : mulD (.int j) (.int 7919) = some (.int (j * 7919)) := mul_r (by decide) (by decide)
        generalize hb2 : (b1 * b1 + b1 * 16807 + j * 7919) % 2147483629 = b2
        have r2 : 0 ≤ b2 ∧ b2 < 2147483629 := by omega
        have m6 : mulD (.int b2) (.int b2) = some (.int (b2 * b2)) := mul_r (by omega) (by omega)
        have m7 : mulD (.int 13) (.int j) = some (.int (13 * j)) := mul_l (by decide) (by decide)
        generalize hb3 : (b2 * b2 + c + 13 * j) % 2147483587 = b3
        refine ⟨[some (.int c), some (.int n), some (.list ((rs ++ [b3 / 7 % 4096]).map .int)), some (.int left), some (.int (0 + j)), some (.int b3)], .inl ?_, rs ++ [b3 / 7 % 4096], left, _, _, rfl, by simp [hl], ?_⟩
        · have hc2 : ¬ ((1000000000000000000 : Int) ≤ c) ∨ ¬ (0 < left) := Classical.not_and_iff_not_or_not.mp hc
          rcases hc2 with hc2 | hc2
          · simp [h18, hc2, m1, m2, m3, m4, m5, m6, m7, mod_n, fdiv_n, hs2, hb1, hb2, hb3]
          · by_cases hc3 : (1000000000000000000 : Int) ≤ c
            · simp [h18, hc2, hc3, m1, m2, m3, m4, m5, m6, m7, mod_n, fdiv_n, hs2, hb1, hb2, hb3]
            · simp [h18, hc3, m1, m2, m3, m4, m5, m6, m7, mod_n, fdiv_n, hs2, hb1, hb2, hb3]
        · intro r hr'
          rcases List.mem_append.mp hr' with h | h
          · exact hr r h
          · rw [List.mem_singleton.mp h]; omega)
  subst he
  refine ⟨rs, ?_, hl, hr⟩
  simp only [h1, Option.bind_some, sRet, eVar, List.getD_cons_zero, List.getD_cons_succ, Option.map_some, outD]
/-! ### worlds -/
structure Asc1 (n : Int) (l : List Int) : Prop where
  asc : l.Pairwise (· < ·)
  rng : ∀ a ∈ l, 0 ≤ a ∧ a < n
structure Asc2 (n : Int) (l : List (Int × Int)) : Prop where
  asc : l.Pairwise fun p q => ltPr p q = true
  rng : ∀ p ∈ l, 0 ≤ p.1 ∧ p.1 < n ∧ 0 ≤ p.2 ∧ p.2 < n
structure Wd.Ok (w : Wd) : Prop where
  lo : 1 ≤ w.n
  hi : w.n ≤ 8
  a0 : Asc1 w.n w.m0
  a1 : Asc1 w.n w.m1
  ar : Asc2 w.n w.ar
theorem Asc2.nodup {n : Int} {l : List (Int × Int)} (h : Asc2 n l) : l.Nodup := h.asc.imp fun {a b} hab e => by
  subst e
  have := SrtO.lexB_iff.mp hab
  omega
theorem asc2_of {n : Int} {l : List (Int × Int)} (hn : l.Nodup) (hr : ∀ p ∈ l, 0 ≤ p.1 ∧ p.1 < n ∧ 0 ≤ p.2 ∧ p.2 < n) : Asc2 n (isort ltPr l) :=
  ⟨isort_lt swoP antiP hn, fun p hp => hr p ((isort_perm l).mem_iff.mp hp)⟩
def special (k : Int) : Wd := match k.toNat with
  | 0 => ⟨3, [], [], [(0, 1), (0, 2), (1, 2)]⟩
  | 1 => ⟨4, [], [], [(0, 1), (0, 2), (0, 3), (1, 2), (1, 3), (2, 3)]⟩
  | 2 => ⟨3, [], [], [(0, 1), (1, 2), (2, 0)]⟩
  | 3 => ⟨4, [], [], [(0, 1), (1, 2), (2, 3), (3, 0)]⟩
  | 4 => ⟨2, [], [], []⟩
  | 5 => ⟨3, [], [], []⟩
  | 6 => ⟨4, [], [], []⟩
  | 7 => ⟨4, [], [], [(0, 1), (1, 0), (1, 2), (2, 1), (2, 3), (3, 2)]⟩
  | 8 => ⟨4, [], [], [(0, 1), (0, 3), (1, 0), (1, 2), (2, 1), (2, 3), (3, 0), (3, 2)]⟩
  | _ => ⟨3, [], [], [(0, 1), (0, 2), (1, 0), (1, 2), (2, 0), (2, 1)]⟩
theorem special_ok (k : Int) : m__law_special [.int k] = some (special (k % 10)).d := by
  have l3 : m__law_line [.int 3] = some (special 0).d := by kernel_rfl
  have l4 : m__law_line [.int 4] = some (special 1).d := by kernel_rfl
  have r3 : m__law_ring [.int 3] = some (special 2).d := by kernel_rfl
  have r4 : m__law_ring [.int 4] = some (special 3).d := by kernel_rfl
  have b1 : m__law_both_ways [.int 4, .tuple [.tuple [.int 0, .int 1], .tuple [.int 1, .int 2], .tuple [.int 2, .int 3]]] = some (special 7).d := by kernel_rfl
  have b2 : m__law_both_ways [.int 4, .tuple [.tuple [.int 0, .int 1], .tuple [.int 1, .int 2], .tuple [.int 2, .int 3], .tuple [.int 0, .int 3]]] = some (special 8).d := by kernel_rfl
  have b3 : m__law_both_ways [.int 3, .tuple [.tuple [.int 0, .int 1], .tuple [.int 1, .int 2], .tuple [.int 0, .int 2]]] = some (special 9).d := by kernel_rfl
  have hs : ∀ n : Nat, n ≤ 100 → n ≤ sizeLine := fun n h => small (by omega)
  have q : 0 ≤ k % 10 ∧ k % 10 < 10 := by omega
  have z : k % 10 = 0 ∨ k % 10 = 1 ∨ k % 10 = 2 ∨ k % 10 = 3 ∨ k % 10 = 4 ∨ k % 10 = 5 ∨ k % 10 = 6 ∨ k % 10 = 7 ∨ k % 10 = 8 ∨ k % 10 = 9 := by omega
  have fin : ∀ d, ixD (.list [(special 0).d, (special 1).d, (special 2).d, (special 3).d, (special 4).d, (special 5).d, (special 6).d, (special 7).d, (special 8).d, (special 9).d]) (.int (k % 10)) = some d → m__law_special [.int k] = some d := by
    intro d hd
    simp only [m__law_special, runF, List.length_cons, List.length_nil, if_true, List.map_cons, List.map_nil, List.replicate, List.cons_append, List.nil_append, sSeq, sAsg, eLst, eTup, eArgs, Option.bind_some, Option.map_some, eC, eCall, TL.gName, l3, l4, r3, r4, b1, b2, b3, hs _ (show 0 ≤ 100 by decide), hs _ (show 0 + 1 ≤ 100 by decide), hs _ (show 0 + 1 + 1 ≤ 100 by decide), hs _ (show 0 + 1 + 1 + 1 ≤ 100 by decide), hs _ (show 0 + 1 + 1 + 1 + 1 ≤ 100 by decide), hs _ (show 0 + 1 + 1 + 1 + 1 + 1 + 1 + 1 ≤ 100 by decide), List.set_cons_zero, List.set_cons_succ, e2, e1, eVar, List.getD_cons_zero, List.getD_cons_succ, sRet]
    rw [cat_l (small (by simp))]
    simp only [Option.bind_some, Option.map_some, List.set_cons_zero, List.set_cons_succ, eVar, List.getD_cons_zero, List.getD_cons_succ, List.cons_append, List.nil_append, len_l, List.length_cons, List.length_nil]
    rw [mod_n (by decide)]
    simp only [Option.bind_some]
    have e : ((0 + 1 + 1 + 1 + 1 + 1 + 1 + 1 + 1 + 1 + 1 : Nat) : Int) = 10 := rfl
    rw [e]
    have hd' : ixD (.list [(special 0).d, (special 1).d, (special 2).d, (special 3).d, .tuple [.int 2, .tuple [.tuple [], .tuple []], .tuple []], .tuple [.int 3, .tuple [.tuple [], .tuple []], .tuple []], .tuple [.int 4, .tuple [.tuple [], .tuple []], .tuple []], (special 7).d, (special 8).d, (special 9).d]) (.int (k % 10)) = some d := hd
    rw [hd']
    rfl
  rcases z with z | z | z | z | z | z | z | z | z | z <;> (refine fin _ ?_; rw [z]; rfl)
theorem special_wd (k : Int) : (special k).Ok := by
  have all : ∀ w : Wd, (decide (1 ≤ w.n) && decide (w.n ≤ 8) && decide (w.m0 = []) && decide (w.m1 = []) && decide (w.ar.Pairwise fun p q => ltPr p q = true) && w.ar.all fun p => decide (0 ≤ p.1) && decide (p.1 < w.n) && decide (0 ≤ p.2) && decide (p.2 < w.n)) = true → w.Ok := by
    intro w h
    simp only [Bool.and_eq_true, decide_eq_true_eq, List.all_eq_true] at h
    obtain ⟨⟨⟨⟨⟨h1, h2⟩, h3⟩, h4⟩, h5⟩, h6⟩ := h
    refine ⟨h1, h2, ?_, ?_, ⟨h5, fun p hp => ?_⟩⟩
    · rw [h3]; exact ⟨List.Pairwise.nil, fun a h => by cases h⟩
    · rw [h4]; exact ⟨List.Pairwise.nil, fun a h => by cases h⟩
    · obtain ⟨⟨⟨q1, q2⟩, q3⟩, q4⟩ := h6 p hp
      exact ⟨q1, q2, q3, q4⟩
  refine all _ ?_
  unfold special
  split <;> decide
end LB

set_option Elab.async false
set_option linter.all false
set_option maxRecDepth 100000
/-! The laws' worlds. -/
namespace LB
open PySem TL
local macro_rules | `(tactic| walk_at "ev") => `(tactic| simp only [List.length_cons, List.length_nil, if_true, List.map_cons, List.map_nil, List.replicate, List.cons_append, List.nil_append, sSeq, sAsg, eLst, eTup, eArgs, Option.bind_some, Option.map_some, eC, eVar, eCall, e1, e2, eIf, eAnd, eOr, eNot, eChain, TL.gName, TL.gTup, gAll, List.getD_cons_zero, List.getD_cons_succ, List.set_cons_zero, List.set_cons_succ, sFor, iRng1, iRng2, iSeq, itemsD, toI, toB, sIf, sRet, sNext, tV, TL.tAnd, TL.tOr, TL.tNot, add_i, sub_i, lt_i, le_i, gt_i, ge_i, eq_i, ne_i, int_i, len_l, len_t, tuple_l, tuple_t, list_l, list_t, outD, Bool.false_eq_true, if_false, sApp, Nat.zero_le])
theorem wdn (w : Wd) : ixD w.d (.int 0) = some (.int w.n) := rfl
theorem world_ok (rs : List Int) (hl : 12 ≤ rs.length) (hl2 : rs.length ≤ 1000) (hr : ∀ r ∈ rs, 0 ≤ r ∧ r < 4096) (most : Int) (h1 : 1 ≤ most) (h8 : most ≤ 8) :
    ∃ w : Wd, m__law_world [.list (rs.map .int), .int most] = some w.d ∧ w.Ok ∧ w.n ≤ most := by
  have hx : ∀ i : Nat, i < rs.length → 0 ≤ rs.getD i 0 ∧ rs.getD i 0 < 4096 := fun i hi => hr _ (TL.getD_mem hi)
  have ixc : ∀ i : Int, 0 ≤ i → i < rs.length → ixD (.list (rs.map .int)) (.int i) = some (.int (rs.getD i.toNat 0)) := fun i h0 hi => ix_ints h0 hi
  have i0 : ixD (.list (rs.map .int)) (.int 0) = some (.int (rs.getD 0 0)) := ixc 0 (by omega) (by omega)
  have i1 : ixD (.list (rs.map .int)) (.int 1) = some (.int (rs.getD 1 0)) := ixc 1 (by omega) (by omega)
  have i2 : ixD (.list (rs.map .int)) (.int 2) = some (.int (rs.getD 2 0)) := ixc 2 (by omega) (by omega)
  have x0 := hx 0 (by omega)
  have x1 := hx 1 (by omega)
  have x2 := hx 2 (by omega)
  generalize hn : 1 + rs.getD 0 0 % most = n
  have n1 : 1 ≤ n ∧ n ≤ most := by
    have h := Int.emod_nonneg (rs.getD 0 0) (show most ≠ 0 by omega)
    have h' := Int.emod_lt_of_pos (rs.getD 0 0) (show 0 < most by omega)
    omega
  unfold m__law_world
  by_cases hsp : rs.getD 1 0 % 6 = 1 ∧ (special (rs.getD 2 0 % 10)).n ≤ most
  · refine ⟨special (rs.getD 2 0 % 10), run_rt rfl ?_, special_wd _, hsp.2⟩
    refine seq_go (e := [some (.list (rs.map .int)), some (.int most), some (.int n), none, none, none, none, none, none, none, none]) ?_ (seq_rt ?_)
    · walk_at "ev"
      simp only [i0, Option.bind_some, mod_n (show 0 < most by omega), add_i, hn, int_i]
    · walk_at "ev"
      simp only [i1, i2, special_ok, Option.bind_some, wdn, mod_n (show (0 : Int) < 6 by decide), eq_i, int_i, toB, hsp.1, hsp.2, decide_true, if_true, le_i, Option.map_some]
  generalize hdn : (match (rs.getD 1 0 / 6 % 4).toNat with | 0 => (2 : Int) | 1 => 3 | 2 => 5 | _ => 3) = dense
  generalize hmk : (match (rs.getD 1 0 / 24 % 4).toNat with | 0 => (2 : Int) | 1 => 9999 | 2 => 3 | _ => 9999) = marked
  have dpos : 0 < dense := by
    rw [← hdn]; split <;> decide
  have mpos : 0 < marked := by
    rw [← hmk]; split <;> decide
  have four : ∀ (x : Int) (a b c d : Int), 0 ≤ x → ixD (.list [.int a, .int b, .int c, .int d]) (.int (x % 4)) = some (.int (match (x % 4).toNat with | 0 => a | 1 => b | 2 => c | _ => d)) := by
    intro x a b c d h
    have : x % 4 = 0 ∨ x % 4 = 1 ∨ x % 4 = 2 ∨ x % 4 = 3 := by omega
    rcases this with z | z | z | z <;> (rw [z]; rfl)
  have mk : ∀ i : Int, 0 ≤ i → i ≤ 1 → ∃ m : List Int, Asc1 n m ∧ ∀ (e3 e5 e7 e8 e9 e10 : Option D), eLc [9] (iRng1 (eVar 2)) (TL.gName 9) (tV (e2 eqD (e2 modD (e2 fdivD (e1 intD (e2 ixD (eVar 0) (e2 addD (eC (.int 3)) (eVar 9)))) (e2 addD (eC (.int 1)) (eVar 6))) (eVar 4)) (eC (.int 0)))) (eVar 9)
      [some (.list (rs.map .int)), some (.int most), some (.int n), e3, some (.int marked), e5, some (.int i), e7, e8, e9, e10] = some (.list (m.map .int)) := by
    intro i hi0 hi1
    let p : Int → Bool := fun a => decide (rs.getD (3 + a).toNat 0 / (1 + i) % marked = 0)
    refine ⟨(rangeI 0 n.toNat).filter p, ⟨(rangeI_asc 0 n.toNat).filter _, fun a ha => ?_⟩, fun e3 e5 e7 e8 e9 e10 => ?_⟩
    · have := rangeI_mem.mp (List.mem_filter.mp ha).1
      omega
    · refine lc_go (ds := (rangeI 0 n.toNat).map .int) ?_ ?_
      · walk_at "ev"
        exact rng_0 (by omega) (by omega)
      · have := lc_filter (g := TL.gName 9) (c := tV (e2 eqD (e2 modD (e2 fdivD (e1 intD (e2 ixD (eVar 0) (e2 addD (eC (.int 3)) (eVar 9)))) (e2 addD (eC (.int 1)) (eVar 6))) (eVar 4)) (eC (.int 0)))) (e := eVar 9) (env := wipeE [some (.list (rs.map .int)), some (.int most), some (.int n), e3, some (.int marked), e5, some (.int i), e7, e8, e9, e10] [9]) PyData.int PyData.int p id (zs := rangeI 0 n.toNat) fun a ha => ?_
        · rw [List.map_id] at this
          exact this
        · have ha := rangeI_mem.mp ha
          refine ⟨_, rfl, ?_, fun _ => rfl⟩
          simp only [wipeE]
          walk_at "ev"
          simp only [ixc (3 + a) (by omega) (by omega), Option.bind_some, int_i, fdiv_n (show 0 < 1 + i by omega) (by omega), mod_n mpos, eq_i, toB]
          rfl
  obtain ⟨m0, am0, e0⟩ := mk 0 (by omega) (by omega)
  obtain ⟨m1, am1, e1'⟩ := mk 1 (by omega) (by omega)
  -- the arrows
  generalize hL : (rs.length : Int) = L
  have hLb : 12 ≤ L ∧ L ≤ 1000 := by omega
  have arr : ∀ (e5 e6 e9 e10 : Option D), ∃ (ps : List (Int × Int)) (at_ : Int) (e9' e10' : Option D), ps.Nodup ∧ ps.length ≤ 64 ∧ (∀ p ∈ ps, 0 ≤ p.1 ∧ p.1 < n ∧ 0 ≤ p.2 ∧ p.2 < n) ∧
      sFor (iRng1 (eVar 2)) (TL.gName 9) (sFor (iRng1 (eVar 2)) (TL.gName 10)
      (sSeq (sIf (tV (e2 eqD (e2 modD (e2 fdivD (e1 intD (e2 ixD (eVar 0) (e2 modD (eVar 8) (e1 lenD (eVar 0))))) (e2 addD (eC (.int 1)) (e2 fdivD (eVar 8) (e1 lenD (eVar 0))))) (eVar 3)) (eC (.int 0))))
      (sApp 7 (eTup [(eVar 9), (eVar 10)]))
      sNext)
      (sAsg (e2 addD (eVar 8) (eC (.int 1))) (TL.gName 8))))
      [some (.list (rs.map .int)), some (.int most), some (.int n), some (.int dense), some (.int marked), e5, e6, some (.list []), some (.int 11), e9, e10]
      = some (.nx [some (.list (rs.map .int)), some (.int most), some (.int n), some (.int dense), some (.int marked), e5, e6, some (.list (ps.map prD)), some (.int at_), e9', e10']) := by
    intro e5 e6 e9 e10
    let E := fun (ps : List (Int × Int)) (at_ : Int) (e9 e10 : Option D) => [some (.list (rs.map .int)), some (.int most), some (.int n), some (.int dense), some (.int marked), e5, e6, some (.list (ps.map prD)), some (.int at_), e9, e10]
    obtain ⟨e, h2, ps, at_, e9', e10', rfl, hnd, hrg, hat, _, hlen⟩ := for_range (g := TL.gName 9) (body := sFor (iRng1 (eVar 2)) (TL.gName 10)
      (sSeq (sIf (tV (e2 eqD (e2 modD (e2 fdivD (e1 intD (e2 ixD (eVar 0) (e2 modD (eVar 8) (e1 lenD (eVar 0))))) (e2 addD (eC (.int 1)) (e2 fdivD (eVar 8) (e1 lenD (eVar 0))))) (eVar 3)) (eC (.int 0))))
      (sApp 7 (eTup [(eVar 9), (eVar 10)]))
      sNext)
      (sAsg (e2 addD (eVar 8) (eC (.int 1))) (TL.gName 8))))
      (fun a env => ∃ ps at_ e9 e10, env = E ps at_ e9 e10 ∧ ps.Nodup ∧ (∀ p ∈ ps, 0 ≤ p.1 ∧ p.1 < a ∧ 0 ≤ p.2 ∧ p.2 < n) ∧ 11 ≤ at_ ∧ at_ ≤ 11 + 8 * a ∧ (ps.length : Int) ≤ 8 * a) (lo := 0) (n := n.toNat) (env := E [] 11 e9 e10)
      ⟨[], 11, e9, e10, rfl, List.nodup_nil, fun p h => (by cases h), by omega, by omega, by simp⟩ (by
      rintro a env ha0 ha1 ⟨ps, at_, e9, e10, rfl, hnd, hrg, hat1, hat2, hln⟩
      refine ⟨E ps at_ (some (.int a)) e10, rfl, ?_⟩
      obtain ⟨e, h2, ps', at', e10', rfl, hnd', hrg', hat1', hat2', hln'⟩ := for_range (g := TL.gName 10) (body := (sSeq (sIf (tV (e2 eqD (e2 modD (e2 fdivD (e1 intD (e2 ixD (eVar 0) (e2 modD (eVar 8) (e1 lenD (eVar 0))))) (e2 addD (eC (.int 1)) (e2 fdivD (eVar 8) (e1 lenD (eVar 0))))) (eVar 3)) (eC (.int 0))))
        (sApp 7 (eTup [(eVar 9), (eVar 10)]))
        sNext)
        (sAsg (e2 addD (eVar 8) (eC (.int 1))) (TL.gName 8))))
        (fun b env => ∃ ps at_ e10, env = E ps at_ (some (.int a)) e10 ∧ ps.Nodup ∧ (∀ p ∈ ps, 0 ≤ p.1 ∧ (p.1 < a ∨ (p.1 = a ∧ p.2 < b)) ∧ 0 ≤ p.2 ∧ p.2 < n) ∧ 11 ≤ at_ ∧ at_ ≤ 11 + 8 * a + b ∧ (ps.length : Int) ≤ 8 * a + b) (lo := 0) (n := n.toNat) (env := E ps at_ (some (.int a)) e10)
        ⟨ps, at_, e10, rfl, hnd, fun p hp => (by have := hrg p hp; omega), hat1, by omega, by omega⟩ (by
        rintro b env hb0 hb1 ⟨ps, at_, e10, rfl, hnd, hrg, hat1, hat2, hln⟩
        refine ⟨E ps at_ (some (.int a)) (some (.int b)), rfl, ?_⟩
        have hsz : (ps.map prD).length < sizeLine := by rw [List.length_map]; exact small' (by omega)
        have q1 : 0 ≤ at_ % L := Int.emod_nonneg _ (by omega)
        have q2 : at_ % L < L := Int.emod_lt_of_pos _ (by omega)
        have q3 : 0 ≤ at_ / L := Int.ediv_nonneg (by omega) (by omega)
        have q4 : at_ / L ≤ at_ := Int.ediv_le_self _ (by omega)
        by_cases hc : rs.getD (at_ % L).toNat 0 / (1 + at_ / L) % dense = 0
        · refine ⟨E (ps ++ [(a, b)]) (at_ + 1) (some (.int a)) (some (.int b)), .inl ?_, ps ++ [(a, b)], at_ + 1, _, rfl, ?_, ?_, by omega, by omega, ?_⟩
          · refine seq_go (e := E (ps ++ [(a, b)]) at_ (some (.int a)) (some (.int b))) (if_t ?_ ?_) ?_
            · simp only [E]
              walk_at "ev"
              simp only [List.length_map, hL, mod_n (show 0 < L by omega), fdiv_n (show 0 < L by omega) (show L < 1073741824 by omega), Option.bind_some, ixc _ q1 (show at_ % L < (rs.length : Int) by omega), int_i, add_i, fdiv_n (show 0 < 1 + at_ / L by omega) (show 1 + at_ / L < 1073741824 by omega), mod_n dpos, eq_i, hc, decide_true, toB]
            · simp only [E]
              walk_at "ev"
              rw [if_pos (small (by decide))]
              simp only [Option.bind_some, hsz, if_true, List.map_append, List.map_cons, List.map_nil, prD]
            · simp only [E]
              walk_at "ev"
          · rw [List.nodup_append]
            refine ⟨hnd, List.nodup_cons.mpr ⟨by simp, List.nodup_nil⟩, fun p hp q hq e => ?_⟩
            rw [List.mem_singleton] at hq
            subst e hq
            have := hrg _ hp
            simp only at this
            omega
          · intro p hp
            rcases List.mem_append.mp hp with hp | hp
            · have := hrg p hp; omega
            · rw [List.mem_singleton] at hp
              subst hp
              exact ⟨ha0, .inr ⟨rfl, by omega⟩, hb0, by omega⟩
          · simp only [List.length_append, List.length_singleton]
            omega
        · refine ⟨E ps (at_ + 1) (some (.int a)) (some (.int b)), .inl ?_, ps, at_ + 1, _, rfl, hnd, fun p hp => (by have := hrg p hp; omega), by omega, by omega, by omega⟩
          refine seq_go (e := E ps at_ (some (.int a)) (some (.int b))) (if_f ?_ rfl) ?_
          · simp only [E]
            walk_at "ev"
            simp only [List.length_map, hL, mod_n (show 0 < L by omega), fdiv_n (show 0 < L by omega) (show L < 1073741824 by omega), Option.bind_some, ixc _ q1 (show at_ % L < (rs.length : Int) by omega), int_i, add_i, fdiv_n (show 0 < 1 + at_ / L by omega) (show 1 + at_ / L < 1073741824 by omega), mod_n dpos, eq_i, hc, decide_false, toB]
          · simp only [E]
            walk_at "ev")
      refine ⟨_, .inl (for_go (ds := (rangeI 0 n.toNat).map .int) ?_ h2), ps', at', _, _, rfl, hnd', fun p hp => ?_, by omega, by omega, by omega⟩
      · simp only [E]
        walk_at "ev"
        exact rng_0 (by omega) (by omega)
      · have := hrg' p hp
        omega)
    refine ⟨ps, at_, e9', e10', hnd, by omega, fun p hp => ?_, for_go (ds := (rangeI 0 n.toNat).map .int) ?_ h2⟩
    · have := hrg p hp
      omega
    · walk_at "ev"
      exact rng_0 (by omega) (by omega)
  obtain ⟨ps, at_, e9', e10', hnd, hsz, hrg, harr⟩ := arr (some (.tuple [tI m0, tI m1])) (some (.int 1)) none none
  -- the arrows both ways
  have fin : ∃ qs : List (Int × Int), qs.Nodup ∧ (∀ p ∈ qs, 0 ≤ p.1 ∧ p.1 < n ∧ 0 ≤ p.2 ∧ p.2 < n) ∧ ∃ e9 e10 : Option D,
      sIf (tV (e2 eqD (e2 modD (e2 ixD (eVar 0) (eC (.int 2))) (eC (.int 5))) (eC (.int 1))))
      (sSeq (sAsg (e2 addLD (eVar 7) (eLc [9, 10] (iSeq (eVar 7)) (TL.gTup [(TL.gName 9), (TL.gName 10)]) (tV (e2 ninD (eTup [(eVar 10), (eVar 9)]) (eVar 7))) (eTup [(eVar 10), (eVar 9)]))) (TL.gName 7))
      (sAsg (eLc [9, 10] (iSeq (eVar 7)) (TL.gTup [(TL.gName 9), (TL.gName 10)]) (tV (e2 neD (eVar 9) (eVar 10))) (eTup [(eVar 9), (eVar 10)])) (TL.gName 7)))
      sNext [some (.list (rs.map .int)), some (.int most), some (.int n), some (.int dense), some (.int marked), some (.tuple [tI m0, tI m1]), some (.int 1), some (.list (ps.map prD)), some (.int at_), e9', e10']
      = some (.nx [some (.list (rs.map .int)), some (.int most), some (.int n), some (.int dense), some (.int marked), some (.tuple [tI m0, tI m1]), some (.int 1), some (.list (qs.map prD)), some (.int at_), e9, e10]) := by
    by_cases hc : rs.getD 2 0 % 5 = 1
    · let sw : List (Int × Int) := (ps.filter fun p => !decide ((p.2, p.1) ∈ ps)).map fun p => (p.2, p.1)
      have hsw : ∀ p ∈ sw, p ∉ ps ∧ (p.2, p.1) ∈ ps := by
        intro p hp
        obtain ⟨q, hq, rfl⟩ := List.mem_map.mp hp
        obtain ⟨h1, h2⟩ := List.mem_filter.mp hq
        have h2 : (!decide ((q.2, q.1) ∈ ps)) = true := h2
        rw [Bool.not_eq_true', decide_eq_false_iff_not] at h2
        exact ⟨h2, h1⟩
      have nsw : sw.Nodup := by
        refine List.pairwise_map.mpr ((hnd.filter _).imp fun {a b} h e => h ?_)
        have e1 := (Prod.mk.inj e).1
        have e2 := (Prod.mk.inj e).2
        exact Prod.ext e2 e1
      have nap : (ps ++ sw).Nodup := by
        rw [List.nodup_append]
        exact ⟨hnd, nsw, fun p hp q hq e => (hsw q hq).1 (e ▸ hp)⟩
      have hsz2 : sw.length ≤ 64 := by
        simp only [sw, List.length_map]
        exact Nat.le_trans (List.length_filter_le _ _) hsz
      refine ⟨(ps ++ sw).filter fun p => !decide (p.1 = p.2), nap.filter _, fun p hp => ?_, e9', e10', if_t ?_ (seq_go (e := [some (.list (rs.map .int)), some (.int most), some (.int n), some (.int dense), some (.int marked), some (.tuple [tI m0, tI m1]), some (.int 1), some (.list ((ps ++ sw).map prD)), some (.int at_), e9', e10']) (asg_go (e2_go rfl (lc_go (ds := ps.map prD) (rs := sw.map prD) rfl ?_) ?_)) (asg_go (lc_go (ds := (ps ++ sw).map prD) rfl ?_)))⟩
      · have hp := (List.mem_filter.mp hp).1
        rcases List.mem_append.mp hp with hp | hp
        · exact hrg p hp
        · have := hrg _ (hsw p hp).2
          simp only at this
          omega
      · walk_at "ev"
        simp only [i2, Option.bind_some, mod_n (show (0 : Int) < 5 by decide), eq_i, hc, decide_true, toB]
      · refine lc_filter (c := tV (e2 ninD (eTup [(eVar 10), (eVar 9)]) (eVar 7))) prD prD (fun p => !decide ((p.2, p.1) ∈ ps)) (fun p => (p.2, p.1)) fun p hp => ⟨_, rfl, ?_, fun _ => ?_⟩
        · have hin : ninD (.tuple [.int p.2, .int p.1]) (.list (ps.map prD)) = some (.bool (!decide ((p.2, p.1) ∈ ps))) := nin_of (in_lp (p.2, p.1) ps)
          simp only [wipeE]
          walk_at "ev"
          rw [if_pos (small (by decide))]
          simp only [Option.bind_some, hin, toB]
        · simp only [wipeE]
          walk_at "ev"
          rw [if_pos (small (by decide))]
          rfl
      · rw [List.map_append]
        exact cat_l (small (by simp only [List.length_map]; omega))
      · refine (lc_filter (c := tV (e2 neD (eVar 9) (eVar 10))) prD prD (fun p => !decide (p.1 = p.2)) id fun p hp => ⟨_, rfl, ?_, fun _ => ?_⟩).trans ?_
        · simp only [wipeE]
          walk_at "ev"
        · simp only [wipeE]
          walk_at "ev"
          rw [if_pos (small (by decide))]
          rfl
        · rw [List.map_id]
    · refine ⟨ps, hnd, hrg, e9', e10', if_f ?_ rfl⟩
      walk_at "ev"
      simp only [i2, Option.bind_some, mod_n (show (0 : Int) < 5 by decide), eq_i, hc, decide_false, toB]
  obtain ⟨qs, hnq, hrq, e9, e10, hfin⟩ := fin
  refine ⟨⟨n, m0, m1, isort ltPr qs⟩, run_rt rfl ?_, ⟨n1.1, (show n ≤ 8 by omega), am0, am1, asc2_of hnq hrq⟩, n1.2⟩
  have s4 : (4 : Nat) ≤ sizeLine := small (by decide)
  have s0 : (0 : Nat) ≤ sizeLine := Nat.zero_le _
  refine seq_go (e := [some (.list (rs.map .int)), some (.int most), some (.int n), none, none, none, none, none, none, none, none]) ?_ ?_
  · walk_at "ev"
    simp only [i0, Option.bind_some, mod_n (show 0 < most by omega), add_i, hn, int_i]
  refine seq_go (if_f ?_ rfl) ?_
  · walk_at "ev"
    simp only [i1, i2, special_ok, Option.bind_some, wdn, mod_n (show (0 : Int) < 6 by decide), eq_i, int_i, toB, le_i, Option.map_some]
    by_cases h6 : rs.getD 1 0 % 6 = 1
    · have h7 : ¬ (special (rs.getD 2 0 % 10)).n ≤ most := fun h => hsp ⟨h6, h⟩
      simp only [h6, h7, decide_true, decide_false, if_true, toB]
    · simp only [h6, decide_false, Bool.false_eq_true, if_false]
  refine seq_go (e := [some (.list (rs.map .int)), some (.int most), some (.int n), some (.int dense), none, none, none, none, none, none, none]) ?_ ?_
  · walk_at "ev"
    rw [if_pos (small (by decide))]
    simp only [i1, Option.bind_some, int_i, fdiv_n (show (0 : Int) < 6 by decide) (by decide), mod_n (show (0 : Int) < 4 by decide), four _ 2 3 5 3 (show 0 ≤ rs.getD 1 0 / 6 by omega), hdn]
  refine seq_go (e := [some (.list (rs.map .int)), some (.int most), some (.int n), some (.int dense), some (.int marked), none, none, none, none, none, none]) ?_ ?_
  · walk_at "ev"
    rw [if_pos (small (by decide))]
    simp only [i1, Option.bind_some, int_i, fdiv_n (show (0 : Int) < 24 by decide) (by decide), mod_n (show (0 : Int) < 4 by decide), four _ 2 9999 3 9999 (show 0 ≤ rs.getD 1 0 / 24 by omega), hmk]
  refine seq_go (e := [some (.list (rs.map .int)), some (.int most), some (.int n), some (.int dense), some (.int marked), some (.tuple []), none, none, none, none, none]) ?_ ?_
  · walk_at "ev"
  refine seq_go (e := [some (.list (rs.map .int)), some (.int most), some (.int n), some (.int dense), some (.int marked), some (.tuple [tI m0, tI m1]), some (.int 1), none, none, none, none]) ?_ ?_
  · refine for_go (ds := [.int 0, .int 1]) (by rfl) ?_
    refine for_cons rfl (asg_go (e2_go rfl (tup1_go (e1_go (e0 _ _ _ _ _ _) rfl)) (cat_t (small (by simp))))) ?_
    refine for_cons rfl (asg_go (e2_go rfl (tup1_go (e1_go (e1' _ _ _ _ _ _) rfl)) (cat_t (small (by simp))))) ?_
    rfl
  refine seq_go (e := [some (.list (rs.map .int)), some (.int most), some (.int n), some (.int dense), some (.int marked), some (.tuple [tI m0, tI m1]), some (.int 1), some (.list []), none, none, none]) ?_ ?_
  · walk_at "ev"
  refine seq_go (e := [some (.list (rs.map .int)), some (.int most), some (.int n), some (.int dense), some (.int marked), some (.tuple [tI m0, tI m1]), some (.int 1), some (.list []), some (.int 11), none, none]) ?_ ?_
  · walk_at "ev"
  refine seq_go harr (seq_go hfin (ret_go ?_))
  walk_at "ev"
  simp only [sorted_prs, Option.bind_some, tuple_l, Option.map_some]
  rw [if_pos (small (by simp))]
  rfl
end LB

set_option Elab.async false
set_option linter.all false
set_option maxRecDepth 100000
/-! Pools and what is drawn of them. -/
namespace LB
open PySem TL
theorem qseq_go {a b : QS} {r : Nat} {env e : TL.Env} {c c1 : Int} {o : Option QOut} (h1 : a r env c = some (.nx e c1)) (h2 : b r e c1 = o) : qSeq a b r env c = o := by
  simp only [qSeq, h1, Option.bind_some]
  exact h2
theorem qseq_rt {a b : QS} {r : Nat} {env : TL.Env} {c c1 : Int} {d : D} (h1 : a r env c = some (.rt d c1)) : qSeq a b r env c = some (.rt d c1) := by
  simp only [qSeq, h1, Option.bind_some]
theorem qrun_rt {np nl : Nat} {body : QS} {r : Nat} {ds : List D} {c c1 : Int} {d : D} (hl : ds.length = np) (h : body r (ds.map some ++ List.replicate nl none) c = some (.rt d c1)) : runQ np nl body r ds c = some (d, c1) := by
  simp only [runQ, hl, if_true, h, Option.bind_some, outQ]
theorem qasg_go {a : QE} {i : Nat} {r : Nat} {env : TL.Env} {c c1 : Int} {d : D} (h : a r env c = some (d, c1)) : qAsg a (TL.gName i) r env c = some (.nx (env.set i (some d)) c1) := by
  simp only [qAsg, h, Option.bind_some, TL.gName, Option.map_some]
theorem qret_go {a : QE} {r : Nat} {env : TL.Env} {c c1 : Int} {d : D} (h : a r env c = some (d, c1)) : qRet a r env c = some (.rt d c1) := by
  simp only [qRet, h, Option.map_some]
theorem ql_go {f : SE} {r : Nat} {env : TL.Env} {c : Int} {d : D} (h : f env = some d) : ql f r env c = some (d, c) := by
  simp only [ql, h, Option.map_some]
theorem qlS_nx {f : SS} {r : Nat} {env e : TL.Env} {c : Int} (h : f env = some (.nx e)) : qlS f r env c = some (.nx e c) := by
  simp only [qlS, h, Option.map_some, toQ]
theorem qlS_rt {f : SS} {r : Nat} {env : TL.Env} {c : Int} {d : D} (h : f env = some (.rt d)) : qlS f r env c = some (.rt d c) := by
  simp only [qlS, h, Option.map_some, toQ]
theorem q2_go {op : D → D → Option D} {a b : QE} {r : Nat} {env : TL.Env} {c c1 c2 : Int} {x y z : D} (h1 : a r env c = some (x, c1)) (h2 : b r env c1 = some (y, c2)) (h3 : op x y = some z) : q2 op a b r env c = some (z, c2) := by
  simp only [q2, h1, h2, h3, Option.bind_some, Option.map_some]
theorem qif_tt {k : QT} {a b : QS} {r : Nat} {env : TL.Env} {c c1 : Int} {o : Option QOut} (h1 : k r env c = some (true, c1)) (h2 : a r env c1 = o) : qIfS k a b r env c = o := by
  simp only [qIfS, h1, Option.bind_some, if_true]
  exact h2
theorem qif_ff {k : QT} {a b : QS} {r : Nat} {env : TL.Env} {c c1 : Int} {o : Option QOut} (h1 : k r env c = some (false, c1)) (h2 : b r env c1 = o) : qIfS k a b r env c = o := by
  simp only [qIfS, h1, Option.bind_some, Bool.false_eq_true, if_false]
  exact h2
theorem qargs_n {r : Nat} {env : TL.Env} {c : Int} : qArgs [] r env c = some ([], c) := rfl
theorem qargs_c {a : QE} {l : List QE} {r : Nat} {env : TL.Env} {c c1 c2 : Int} {d : D} {ds : List D} (h1 : a r env c = some (d, c1)) (h2 : qArgs l r env c1 = some (ds, c2)) : qArgs (a :: l) r env c = some (d :: ds, c2) := by
  simp only [qArgs, h1, h2, Option.bind_some, Option.map_some]
theorem qcall_go {m : Nat → List D → Int → Option (D × Int)} {l : List QE} {r : Nat} {env : TL.Env} {c c1 : Int} {ds : List D} {o : Option (D × Int)} (h1 : qArgs l r env c = some (ds, c1)) (h2 : m r ds c1 = o) : qCall m l r env c = o := by
  simp only [qCall, h1, Option.bind_some]
  exact h2
theorem qtup_go {l : List QE} {r : Nat} {env : TL.Env} {c c1 : Int} {ds : List D} (h1 : qArgs l r env c = some (ds, c1)) (h2 : ds.length ≤ 1000) : qTup l r env c = some (.tuple ds, c1) := by
  simp only [qTup, h1, Option.bind_some]
  rw [if_pos (small (by omega))]
theorem qlst_go {l : List QE} {r : Nat} {env : TL.Env} {c c1 : Int} {ds : List D} (h1 : qArgs l r env c = some (ds, c1)) (h2 : ds.length ≤ 1000) : qLst l r env c = some (.list ds, c1) := by
  simp only [qLst, h1, Option.bind_some]
  rw [if_pos (small (by omega))]
theorem qfor_go {it : QA} {g : SG} {b : QS} {r : Nat} {env : TL.Env} {c c1 : Int} {ds : List D} {o : Option QOut} (h1 : it r env c = some (ds, c1)) (h2 : qForGo g b r ds env c1 = o) : qFor it g b r env c = o := by
  simp only [qFor, h1, Option.bind_some]
  exact h2
/-- a loop with an invariant by the number of turns done -/
theorem qfor_inv {g : SG} {body : QS} {r : Nat} (I : Nat → TL.Env → Int → Prop) : ∀ (xs : List D) (i : Nat) (env : TL.Env) (c : Int), I i env c →
    (∀ j x env c, xs[j]? = some x → I (i + j) env c → ∃ e1, g x env = some e1 ∧ ∃ e2 c2, body r e1 c = some (.nx e2 c2) ∧ I (i + j + 1) e2 c2) → ∃ e c', qForGo g body r xs env c = some (.nx e c') ∧ I (i + xs.length) e c'
  | [], i, env, c, h, _ => ⟨env, c, rfl, h⟩
  | x :: xs, i, env, c, h, step => by
    obtain ⟨e1, h1, e2, c2, h2, h3⟩ := step 0 x env c rfl h
    obtain ⟨e, c', h4, h5⟩ := qfor_inv I xs (i + 1) e2 c2 h3 fun j y env' c hy hI => by
      have := step (j + 1) y env' c hy (by rw [show i + (j + 1) = i + 1 + j by omega]; exact hI)
      rwa [show i + (j + 1) + 1 = i + 1 + j + 1 by omega] at this
    refine ⟨e, c', ?_, by rw [show i + (x :: xs).length = i + 1 + xs.length by simp only [List.length_cons]; omega]; exact h5⟩
    simp only [qForGo, h1, h2, Option.bind_some]
    exact h4
/-! ### picks -/
structure PoolOk (rows : List Int) : Prop where
  lo : 0 < rows.length
  hi : rows.length ≤ 1000
  rng : ∀ x ∈ rows, 0 ≤ x ∧ x < 4096
theorem pick_ok {r : Nat} {rows : List Int} (P : PoolOk rows) {n c : Int} (hc : 0 ≤ c) (hc2 : c < 1000000000) (hn : 0 < n) : ∃ v, m__law_pick r [poolD r (rows.map .int), .int n] c = some (.int v, c + 1) ∧ 0 ≤ v ∧ v < n := by
  have hl : (0 : Int) < (rows.length : Int) := by have := P.lo; omega
  have hh := P.hi
  have q0 : 0 ≤ c % (rows.length : Int) := Int.emod_nonneg _ (by omega)
  have q1 : c % (rows.length : Int) < rows.length := Int.emod_lt_of_pos _ hl
  have ix := ix_ints q0 q1
  have t0 : 0 ≤ c / (rows.length : Int) := Int.ediv_nonneg hc (by omega)
  have t1 : c / (rows.length : Int) ≤ c := Int.ediv_le_self _ hc
  have m1 : mulD (.int (c / (rows.length : Int))) (.int 1009) = some (.int (c / (rows.length : Int) * 1009)) := mul_r (by decide) (by decide)
  have m2 : mulD (.int (c / (rows.length : Int))) (.int c) = some (.int (c / (rows.length : Int) * c)) := mul_r (by omega) (by omega)
  refine ⟨(rows.getD (c % (rows.length : Int)).toNat 0 + c / (rows.length : Int) * 1009 + c / (rows.length : Int) * c) % n, ?_, Int.emod_nonneg _ (by omega), Int.emod_lt_of_pos _ hn⟩
  have hrow : ∀ e2 e3 : Option D, eRows 0 [some (poolD r (rows.map .int)), some (.int n), e2, e3] = some (.list (rows.map .int)) := fun _ _ => rfl
  have hlen : ∀ e2 e3 : Option D, e1 lenD (eRows 0) [some (poolD r (rows.map .int)), some (.int n), e2, e3] = some (.int rows.length) := fun e2 e3 => by
    refine e1_go (hrow e2 e3) ?_
    rw [len_l, List.length_map]
  refine qrun_rt rfl (qseq_go (e := [some (poolD r (rows.map .int)), some (.int n), some (.int c), none]) (c1 := c) (qasg_go ?_) (qseq_go (e := [some (poolD r (rows.map .int)), some (.int n), some (.int c), none]) (c1 := c + 1) ?_ (qseq_go (e := [some (poolD r (rows.map .int)), some (.int n), some (.int c), some (.int (c / (rows.length : Int)))]) (qlS_nx (asg_go (e2_go rfl (hlen _ _) (fdiv_n hl (by omega))))) (qlS_rt (ret_go ?_)))))
  · simp only [qCnt, poolD, List.map_cons, List.map_nil, List.replicate, List.cons_append, List.nil_append, List.getD_cons_zero, Option.bind_some, TL.cellOf, if_true]
  · simp only [qStore, ql, e2, eVar, eC, poolD, List.getD_cons_zero, List.getD_cons_succ, Option.bind_some, Option.map_some, add_i, toI, TL.cellOf, if_true]
  · refine e2_go (e1_go (e2_go (e2_go (e2_go (hrow _ _) (e2_go rfl (hlen _ _) (mod_n hl)) ix) (e2_go rfl rfl m1) (add_i _ _)) (e2_go rfl rfl m2) (add_i _ _)) (int_i _)) rfl (mod_n hn)
theorem pool_ok (ns : List Int) (hns : ns.length ≤ 63) : ∃ rows : List Int, PoolOk rows ∧ m__law_pool [.list (ns.map .int)] = some (.list [.list (rows.map .int), .list [.int 0]]) := by
  obtain ⟨k, hk0, hk4, hk⟩ : ∃ k : Nat, 1 ≤ k ∧ k ≤ 4 ∧ (e2 min2D (eC (.int 4)) (e2 max2D (eC (.int 1)) (e1 lenD (eVar 0)))) [some (.list (ns.map .int)), some (.list []), none] = some (.int k) := by
    by_cases h1 : 1 < ns.length
    · by_cases h4 : ns.length < 4
      · refine ⟨ns.length, by omega, by omega, ?_⟩
        have a : (1 : Int) < (ns.length : Int) := by omega
        have b : (ns.length : Int) < 4 := by omega
        simp [max2D, min2D, a, b]
      · refine ⟨4, by omega, by omega, ?_⟩
        have a : (1 : Int) < (ns.length : Int) := by omega
        have b : ¬ (ns.length : Int) < 4 := by omega
        simp [max2D, min2D, a, b]
    · refine ⟨1, by omega, by omega, ?_⟩
      have a : ¬ (1 : Int) < (ns.length : Int) := by omega
      simp [max2D, min2D, a]
  obtain ⟨e, he, rows, e2', rfl, h1, h2, h3⟩ := for_range (g := TL.gName 2) (body := (sAsg (e2 addD (eVar 1) (eCall m__law_draws [(e2 addD (eCall m__law_cell [(eVar 0), (eVar 2)]) (e2 mulD (eC (.int 7)) (eVar 2))), (eC (.int 20))])) (TL.gName 1)))
    (fun a env => ∃ (rows : List Int) (e2' : Option D), env = [some (.list (ns.map .int)), some (.list (rows.map .int)), e2'] ∧ (rows.length : Int) = 20 * a ∧ 0 ≤ a ∧ ∀ x ∈ rows, 0 ≤ x ∧ x < 4096) (lo := 0) (n := k) (env := [some (.list (ns.map .int)), some (.list []), none]) ⟨[], none, rfl, by simp, by decide, fun x h => (by cases h)⟩ (by
      rintro a env ha0 ha1 ⟨rows, e2', rfl, h1, h2, h3⟩
      obtain ⟨c, hc⟩ := cell_ok ns a.toNat
      rw [show ((a.toNat : Nat) : Int) = a by omega] at hc
      obtain ⟨rs, hd, hl, hr⟩ := draws_ok (c + 7 * a) 20 (by decide)
      have hd : m__law_draws [.int (c + 7 * a), .int 20] = some (.list (rs.map .int)) := hd
      have m1 : mulD (.int 7) (.int a) = some (.int (7 * a)) := mul_l (by decide) (by decide)
      refine ⟨[some (.list (ns.map .int)), some (.list (rows.map .int)), some (.int a)], rfl, [some (.list (ns.map .int)), some (.list ((rows ++ rs).map .int)), some (.int a)], .inl (asg_go (e2_go (x := .list (rows.map .int)) (y := .list (rs.map .int)) rfl ?_ ?_)), rows ++ rs, _, rfl, by rw [List.length_append]; omega, by omega, fun x hx => ?_⟩
      · simp only [eCall, eArgs, e2, eVar, eC, List.getD_cons_zero, List.getD_cons_succ, Option.bind_some, Option.map_some, hc, m1, add_i, hd]
      · rw [List.map_append]
        exact cat_l (small (by simp only [List.length_map]; omega))
      · rcases List.mem_append.mp hx with hx | hx
        · exact h3 x hx
        · exact hr x hx)
  refine ⟨rows, ⟨by omega, by omega, h3⟩, ?_⟩
  have hrun : runF 1 2 ((sSeq (sAsg (eLst []) (TL.gName 1))
      (sSeq (sFor (iRng1 (e2 min2D (eC (.int 4)) (e2 max2D (eC (.int 1)) (e1 lenD (eVar 0))))) (TL.gName 2)
      (sAsg (e2 addD (eVar 1) (eCall m__law_draws [(e2 addD (eCall m__law_cell [(eVar 0), (eVar 2)]) (e2 mulD (eC (.int 7)) (eVar 2))), (eC (.int 20))])) (TL.gName 1)))
      (sRet (eLst [(eVar 1), eLst [eC (.int 0)]]))))) [.list (ns.map .int)] = some (.list [.list (rows.map .int), .list [.int 0]]) := by
    refine run_rt rfl (seq_go (e := [some (.list (ns.map .int)), some (.list []), none]) (asg_go ?_) (seq_go (for_go (ds := (rangeI 0 k).map .int) ?_ he) (ret_go ?_)))
    · simp only [eLst, eArgs, Option.bind_some, List.length_nil, Nat.zero_le, if_true]
    · simp only [iRng1, hk, Option.bind_some, toI]
      have := rng_0 (n := (k : Int)) (by omega) (by omega)
      rwa [Int.toNat_natCast] at this
    · have z1 : (0 + 1 : Nat) ≤ sizeLine := small (by decide)
      have z2 : (0 + 1 + 1 : Nat) ≤ sizeLine := small (by decide)
      simp only [eLst, eArgs, eVar, eC, List.getD_cons_zero, List.getD_cons_succ, Option.bind_some, Option.map_some, List.length_cons, List.length_nil, z1, z2, if_true]
  show nnD (runF 1 2 _ _) = _
  rw [hrun]
  rfl
end LB

set_option Elab.async false
set_option linter.all false
set_option maxRecDepth 100000
/-! Drawn orders of the items; renamed worlds. -/
namespace LB
open PySem TL
theorem erase_perm {α : Type} : ∀ {l : List α} {i : Nat} (h : i < l.length), (l[i] :: l.eraseIdx i).Perm l
  | a :: l, 0, _ => List.Perm.refl _
  | a :: l, i + 1, h => by
    have := erase_perm (l := l) (i := i) (by simpa using h)
    rw [List.getElem_cons_succ, List.eraseIdx_cons_succ]
    exact (List.Perm.swap _ _ _).trans (this.cons a)
theorem erase_map {α β : Type} (f : α → β) : ∀ (l : List α) (i : Nat), (l.map f).eraseIdx i = (l.eraseIdx i).map f
  | [], _ => rfl
  | a :: l, 0 => rfl
  | a :: l, i + 1 => by
    rw [List.map_cons, List.eraseIdx_cons_succ, List.eraseIdx_cons_succ, List.map_cons, erase_map f l i]
theorem pop_ok {l : List Int} {i : Nat} (h : i < l.length) (hi : i ≤ 1000000) : popD (l.map .int) (i : Int) = some (.int l[i], (l.eraseIdx i).map .int) := by
  unfold popD
  have h1 : Nat.ble (i : Int).natAbs 1000000000 = true := Nat.ble_eq_true_of_le (by omega)
  have h2 : seqIndex? (i : Int) (l.map PyData.int).length = some i := by
    rw [List.length_map]
    unfold seqIndex?
    have a : ¬ (i : Int) < 0 := by omega
    have b : (0 : Int) ≤ i := by omega
    have c : (i : Int) < (l.length : Int) := by omega
    simp only [a, if_false, b, c, decide_true, Bool.and_self, if_true, Int.toNat_natCast]
  rw [if_pos h1, h2, Option.bind_some, List.getElem?_map, List.getElem?_eq_getElem h, Option.map_some, Option.map_some, erase_map]
theorem names_ok (rs : List Int) (hl : 0 < rs.length) (hr : ∀ r ∈ rs, 0 ≤ r ∧ r < 4096) (at_ : Int) (h0 : 0 ≤ at_) (n : Int) (n0 : 0 ≤ n) (n1 : n ≤ 1000) :
    ∃ ps : List Int, m__law_names [.list (rs.map .int), .int at_, .int n] = some (tI ps) ∧ ps.Perm (rangeI 0 n.toNat) := by
  let E := fun (l f : List Int) (k : Option D) => [some (PyData.list (rs.map .int)), some (.int at_), some (.int n), some (.list (l.map .int)), some (tI f), k]
  have hrng : rangeD 0 n = some ((rangeI 0 n.toNat).map .int) := rng_0 n0 (by omega)
  obtain ⟨e, he, l, f, k, rfl, hp, hf⟩ := for_range (g := TL.gName 5) (body := (sPopAdd 4 3 (e2 modD (e1 intD (e2 ixD (eVar 0) (e2 modD (e2 addD (eVar 1) (eVar 5)) (e1 lenD (eVar 0))))) (e1 lenD (eVar 3)))))
    (fun a env => ∃ (l f : List Int) (k : Option D), env = E l f k ∧ (f ++ l).Perm (rangeI 0 n.toNat) ∧ (f.length : Int) = a) (lo := 0) (n := n.toNat) (env := E (rangeI 0 n.toNat) [] none) ⟨_, _, _, rfl, List.Perm.refl _, rfl⟩ (by
      rintro a env a0 a1 ⟨l, f, k, rfl, hp, hf⟩
      have hlen := hp.length_eq
      rw [List.length_append, rangeI_len] at hlen
      have hl0 : 0 < l.length := by omega
      have q0 : 0 ≤ (at_ + a) % (rs.length : Int) := Int.emod_nonneg _ (by omega)
      have q1 : (at_ + a) % (rs.length : Int) < rs.length := Int.emod_lt_of_pos _ (by omega)
      have hix := ix_ints q0 q1
      have hmem := hr _ (TL.getD_mem (rs := rs) (i := ((at_ + a) % (rs.length : Int)).toNat) (by omega))
      generalize rs.getD ((at_ + a) % (rs.length : Int)).toNat 0 = v at hix hmem
      have i0 : 0 ≤ v % (l.length : Int) := Int.emod_nonneg _ (by omega)
      have i1 : v % (l.length : Int) < l.length := Int.emod_lt_of_pos _ (by omega)
      obtain ⟨i, hi⟩ : ∃ i : Nat, v % (l.length : Int) = (i : Int) := ⟨(v % (l.length : Int)).toNat, by omega⟩
      have hil : i < l.length := by omega
      have hev : (e2 modD (e1 intD (e2 ixD (eVar 0) (e2 modD (e2 addD (eVar 1) (eVar 5)) (e1 lenD (eVar 0))))) (e1 lenD (eVar 3))) (E l f (some (.int a))) = some (.int (i : Int)) := by
        refine e2_go (e1_go (e2_go rfl (e2_go (r := some (.int ((at_ + a) % (rs.length : Int)))) (e2_go rfl rfl (add_i _ _)) (e1_go rfl (len_l _)) ?_) hix) (int_i _)) (e1_go rfl (len_l _)) ?_
        · rw [List.length_map]
          exact mod_n (by omega)
        · rw [List.length_map, mod_n (by omega), hi]
      refine ⟨E l f (some (.int a)), rfl, E (l.eraseIdx i) (f ++ [l[i]]) (some (.int a)), .inl ?_, _, _, _, rfl, ?_, ?_⟩
      · simp only [sPopAdd]
        rw [show (E l f (some (.int a))).getD 4 none = some (.tuple (f.map .int)) from rfl, show (E l f (some (.int a))).getD 3 none = some (.list (l.map .int)) from rfl, hev]
        simp only [Option.bind_some, toI, pop_ok hil (by omega)]
        rw [if_pos (small (by rw [List.length_map]; omega))]
        simp only [E, tI, List.map_append, List.map_cons, List.map_nil]
        rfl
      · refine List.Perm.trans ?_ hp
        rw [List.append_assoc]
        exact (erase_perm hil).append_left f
      · rw [List.length_append, List.length_singleton]
        omega)
  refine ⟨f, run_rt rfl (seq_go (e := [some (PyData.list (rs.map .int)), some (.int at_), some (.int n), some (.list ((rangeI 0 n.toNat).map .int)), none, none]) (asg_go ?_) (seq_go (e := E (rangeI 0 n.toNat) [] none) (asg_go rfl) (seq_go (for_go (ds := (rangeI 0 n.toNat).map .int) ?_ he) (ret_go rfl)))), ?_⟩
  · simp only [eRngL]
    show (Option.bind (some (PyData.int n)) _) = _
    simp only [Option.bind_some, toI, hrng, Option.map_some]
  · simp only [iRng1]
    show (Option.bind (some (PyData.int n)) _) = _
    simp only [Option.bind_some, toI, hrng]
  · have hlen := hp.length_eq
    rw [List.length_append, rangeI_len] at hlen
    have : l = [] := List.eq_nil_of_length_eq_zero (by omega)
    rw [this, List.append_nil] at hp
    exact hp
/-! ### renamed worlds -/
theorem ix_tI {ps : List Int} {i : Int} (h0 : 0 ≤ i) (h : i < ps.length) : ixD (tI ps) (.int i) = some (.int (ps.getD i.toNat 0)) := by
  refine ix_ti h0 ?_
  have h' : i.toNat < ps.length := by omega
  rw [List.getElem?_map, List.getD_eq_getElem?_getD, List.getElem?_eq_getElem h']
  rfl
theorem asc1_of {n : Int} {l : List Int} (hn : l.Nodup) (hr : ∀ a ∈ l, 0 ≤ a ∧ a < n) : Asc1 n (isort ltI l) :=
  ⟨(isort_lt swoI antiI hn).imp fun h => of_decide_eq_true h, fun a ha => hr a ((isort_perm l).mem_iff.mp ha)⟩
def nmI (ps : List Int) (a : Int) : Int := ps.getD a.toNat 0
theorem nm_rng {ps : List Int} {n : Int} (n0 : 0 ≤ n) (hp : ps.Perm (rangeI 0 n.toNat)) {a : Int} (h0 : 0 ≤ a) (h1 : a < n) : 0 ≤ nmI ps a ∧ nmI ps a < n := by
  have hlen := hp.length_eq
  rw [rangeI_len] at hlen
  have := rangeI_mem.mp (hp.mem_iff.mp (TL.getD_mem (rs := ps) (i := a.toNat) (by omega)))
  unfold nmI
  omega
theorem nm_inj {ps : List Int} {n : Int} (n0 : 0 ≤ n) (hp : ps.Perm (rangeI 0 n.toNat)) {a b : Int} (a0 : 0 ≤ a) (a1 : a < n) (b0 : 0 ≤ b) (b1 : b < n) (e : nmI ps a = nmI ps b) : a = b := by
  have hlen := hp.length_eq
  rw [rangeI_len] at hlen
  have nd : ps.Nodup := hp.symm.nodup ((rangeI_asc 0 n.toNat).imp fun h e => by omega)
  unfold nmI at e
  have ha : a.toNat < ps.length := by omega
  have hb : b.toNat < ps.length := by omega
  rw [List.getD_eq_getElem?_getD, List.getElem?_eq_getElem ha, List.getD_eq_getElem?_getD, List.getElem?_eq_getElem hb] at e
  have e : ps[a.toNat] = ps[b.toNat] := e
  rcases Nat.lt_trichotomy a.toNat b.toNat with h | h | h
  · exact absurd e (List.pairwise_iff_getElem.mp nd _ _ ha hb h)
  · omega
  · exact absurd e.symm (List.pairwise_iff_getElem.mp nd _ _ hb ha h)
def Wd.ren (w : Wd) (ps : List Int) : Wd := ⟨w.n, isort ltI (w.m0.map (nmI ps)), isort ltI (w.m1.map (nmI ps)), isort ltPr (w.ar.map fun p => (nmI ps p.1, nmI ps p.2))⟩
theorem map_nodup {α β : Type} {f : α → β} : ∀ {l : List α}, (∀ a ∈ l, ∀ b ∈ l, f a = f b → a = b) → l.Nodup → (l.map f).Nodup
  | [], _, _ => List.nodup_nil
  | a :: l, h, hn => by
    have hn := List.nodup_cons.mp hn
    refine List.nodup_cons.mpr ⟨fun hm => ?_, map_nodup (fun x hx y hy => h x (List.mem_cons_of_mem _ hx) y (List.mem_cons_of_mem _ hy)) hn.2⟩
    obtain ⟨b, hb, e⟩ := List.mem_map.mp hm
    have := h b (List.mem_cons_of_mem _ hb) a List.mem_cons_self e
    exact hn.1 (this ▸ hb)
theorem Wd.ren_ok {w : Wd} (ok : w.Ok) {ps : List Int} (hp : ps.Perm (rangeI 0 w.n.toNat)) : (w.ren ps).Ok := by
  have lo := ok.lo
  have hi := ok.hi
  have one : ∀ l : List Int, Asc1 w.n l → Asc1 w.n (isort ltI (l.map (nmI ps))) := fun l h => asc1_of (map_nodup (fun a ha b hb e => nm_inj (by omega) hp (h.rng a ha).1 (h.rng a ha).2 (h.rng b hb).1 (h.rng b hb).2 e) (h.asc.imp fun h e => by omega)) fun x hx => by
    obtain ⟨a, ha, rfl⟩ := List.mem_map.mp hx
    exact nm_rng (by omega) hp (h.rng a ha).1 (h.rng a ha).2
  refine ⟨lo, hi, one _ ok.a0, one _ ok.a1, asc2_of (map_nodup (fun p hp1 q hq e => ?_) ok.ar.nodup) fun x hx => ?_⟩
  · have r1 := ok.ar.rng p hp1
    have r2 := ok.ar.rng q hq
    have e1 := nm_inj (by omega) hp r1.1 r1.2.1 r2.1 r2.2.1 (Prod.mk.inj e).1
    have e2 := nm_inj (by omega) hp r1.2.2.1 r1.2.2.2 r2.2.2.1 r2.2.2.2 (Prod.mk.inj e).2
    exact Prod.ext e1 e2
  · obtain ⟨p, hp1, rfl⟩ := List.mem_map.mp hx
    have r1 := ok.ar.rng p hp1
    have a := nm_rng (by omega) hp r1.1 r1.2.1
    have b := nm_rng (by omega) hp r1.2.2.1 r1.2.2.2
    exact ⟨a.1, a.2, b.1, b.2⟩
theorem renamed_ok {w : Wd} (ok : w.Ok) {ps : List Int} (hp : ps.Perm (rangeI 0 w.n.toNat)) : m__law_renamed [w.d, tI ps] = some (w.ren ps).d := by
  have hlen := hp.length_eq
  rw [rangeI_len] at hlen
  have lo := ok.lo
  have w0 : ixD w.d (.int 0) = some (.int w.n) := rfl
  have w1 : ixD w.d (.int 1) = some (.tuple [tI w.m0, tI w.m1]) := rfl
  have w2 : ixD w.d (.int 2) = some (tP w.ar) := rfl
  have mk : ∀ l : List Int, Asc1 w.n l → (e1 tupleD (e1 sortedD (eLc [4] (iSeq (eVar 3)) (TL.gName 4) cYes (e2 ixD (eVar 1) (eVar 4))))) [some w.d, some (tI ps), none, some (tI l), none, none] = some (tI (isort ltI (l.map (nmI ps)))) := fun l h => by
    refine e1_go (e1_go (lc_go (ds := l.map .int) rfl (lc_map .int .int (nmI ps) fun a ha => ⟨_, rfl, e2_go rfl rfl (ix_tI (h.rng a ha).1 (by have := (h.rng a ha).2; omega))⟩)) (sorted_ints _)) rfl
  have ml : eLc [3] (iSeq (e2 ixD (eVar 0) (eC (.int 1)))) (TL.gName 3) cYes (e1 tupleD (e1 sortedD (eLc [4] (iSeq (eVar 3)) (TL.gName 4) cYes (e2 ixD (eVar 1) (eVar 4))))) [some w.d, some (tI ps), none, none, none, none] = some (.list [tI (isort ltI (w.m0.map (nmI ps))), tI (isort ltI (w.m1.map (nmI ps)))]) := by
    refine lc_go (ds := [tI w.m0, tI w.m1]) rfl ?_
    simp only [lcGo, TL.gName, wipeE, List.set_cons_zero, List.set_cons_succ, Option.bind_some, cYes, if_true, mk w.m0 ok.a0, mk w.m1 ok.a1, Option.map_some]
  refine run_rt rfl (seq_go (e := [some w.d, some (tI ps), some (.tuple [tI (isort ltI (w.m0.map (nmI ps))), tI (isort ltI (w.m1.map (nmI ps)))]), none, none, none]) (asg_go (e1_go ml rfl)) (ret_go ?_))
  have al : (e1 tupleD (e1 sortedD (eLc [4, 5] (iSeq (e2 ixD (eVar 0) (eC (.int 2)))) (TL.gTup [(TL.gName 4), (TL.gName 5)]) cYes (eTup [(e2 ixD (eVar 1) (eVar 4)), (e2 ixD (eVar 1) (eVar 5))])))) [some w.d, some (tI ps), some (.tuple [tI (isort ltI (w.m0.map (nmI ps))), tI (isort ltI (w.m1.map (nmI ps)))]), none, none, none] = some (tP (isort ltPr (w.ar.map fun p => (nmI ps p.1, nmI ps p.2)))) := by
    refine e1_go (e1_go (lc_go (ds := w.ar.map prD) rfl (lc_map prD prD (fun p => (nmI ps p.1, nmI ps p.2)) fun p hp1 => ⟨_, rfl, ?_⟩)) (sorted_prs _)) rfl
    have r1 := ok.ar.rng p hp1
    simp only [eTup, eArgs]
    rw [e2_go rfl rfl (ix_tI r1.1 (by omega)), e2_go rfl rfl (ix_tI r1.2.2.1 (by omega))]
    simp only [Option.bind_some, Option.map_some, List.length_cons, List.length_nil]
    rw [if_pos (small (by decide))]
    rfl
  simp only [eTup, eArgs]
  rw [al, e2_go rfl rfl w0]
  simp only [Option.bind_some, Option.map_some, eVar, List.getD_cons_zero, List.getD_cons_succ, List.length_cons, List.length_nil]
  rw [if_pos (small (by decide))]
  rfl
end LB

set_option Elab.async false
set_option linter.all false
set_option maxRecDepth 100000
/-! Pairs of worlds. -/
namespace LB
open PySem TL
theorem asc1_filter {n : Int} {l : List Int} (h : Asc1 n l) (p : Int → Bool) : Asc1 n (l.filter p) := ⟨h.asc.filter _, fun a ha => h.rng a (List.mem_filter.mp ha).1⟩
theorem asc2_filter {n : Int} {l : List (Int × Int)} (h : Asc2 n l) (p : Int × Int → Bool) : Asc2 n (l.filter p) := ⟨h.asc.filter _, fun a ha => h.rng a (List.mem_filter.mp ha).1⟩
theorem ne_pr (p q : Int × Int) : neD (prD p) (prD q) = some (.bool (!decide (p = q))) := by
  unfold neD
  rw [if_pos ⟨shaped_pr p, shaped_pr q⟩, eqv_pr]
def spec2 (k : Int) : Wd × Wd := match k.toNat with
  | 0 => (special 0, special 1)
  | 1 => (⟨2, [], [], [(0, 1)]⟩, special 0)
  | 2 => (special 5, special 6)
  | 3 => (special 2, special 3)
  | _ => (special 3, special 1)
theorem spec2_wd (k : Int) : (spec2 k).1.Ok ∧ (spec2 k).2.Ok := by
  have hs := special_wd
  have h1 : (⟨2, [], [], [(0, 1)]⟩ : Wd).Ok := ⟨by decide, by decide, ⟨List.Pairwise.nil, fun a h => (by cases h)⟩, ⟨List.Pairwise.nil, fun a h => (by cases h)⟩, ⟨by simp, fun p hp => by
    rw [List.mem_singleton.mp hp]; decide⟩⟩
  unfold spec2
  split
  · exact ⟨hs 0, hs 1⟩
  · exact ⟨h1, hs 0⟩
  · exact ⟨hs 5, hs 6⟩
  · exact ⟨hs 2, hs 3⟩
  · exact ⟨hs 3, hs 1⟩
theorem sortedT_ints (ns : List Int) : sortedD (.tuple (ns.map .int)) = some (.list ((isort ltI ns).map .int)) := sorted_ints ns
theorem sortedT_prs (ps : List (Int × Int)) : sortedD (.tuple (ps.map prD)) = some (.list ((isort ltPr ps).map prD)) := sorted_prs ps
theorem tup2D {a b : SE} {env : TL.Env} {x y : D} (h1 : a env = some x) (h2 : b env = some y) : eTup [a, b] env = some (.tuple [x, y]) := by
  simp only [eTup, eArgs, h1, h2, Option.bind_some, Option.map_some, List.length_cons, List.length_nil]
  rw [if_pos (small (by decide))]
theorem tup3D {a b c : SE} {env : TL.Env} {x y z : D} (h1 : a env = some x) (h2 : b env = some y) (h3 : c env = some z) : eTup [a, b, c] env = some (.tuple [x, y, z]) := by
  simp only [eTup, eArgs, h1, h2, h3, Option.bind_some, Option.map_some, List.length_cons, List.length_nil]
  rw [if_pos (small (by decide))]
theorem call2D {m : List D → Option D} {a b : SE} {env : TL.Env} {x y : D} {o : Option D} (h1 : a env = some x) (h2 : b env = some y) (h4 : m [x, y] = o) : eCall m [a, b] env = o := by
  simp only [eCall, eArgs, h1, h2, Option.bind_some, Option.map_some]
  exact h4
theorem call3D {m : List D → Option D} {a b c : SE} {env : TL.Env} {x y z : D} {o : Option D} (h1 : a env = some x) (h2 : b env = some y) (h3 : c env = some z) (h4 : m [x, y, z] = o) : eCall m [a, b, c] env = o := by
  simp only [eCall, eArgs, h1, h2, h3, Option.bind_some, Option.map_some]
  exact h4
theorem tVD {a : SE} {env : TL.Env} {b : Bool} (h : a env = some (.bool b)) : tV a env = some b := by
  simp only [tV, h, Option.bind_some, toB]
theorem pair_ok (rs : List Int) (hl : 20 ≤ rs.length) (hl2 : rs.length ≤ 1000) (hr : ∀ r ∈ rs, 0 ≤ r ∧ r < 4096) (most : Int) (h1 : 1 ≤ most) (h8 : most ≤ 8) :
    ∃ w u : Wd, m__law_pair [.list (rs.map .int), .int most] = some (.tuple [w.d, u.d]) ∧ w.Ok ∧ u.Ok ∧ w.n ≤ most := by
  obtain ⟨w, hw, ok, hwn⟩ := world_ok rs (by omega) hl2 hr most h1 h8
  have lo := ok.lo
  let R : D := .list (rs.map .int)
  have dk : ∀ {env : TL.Env} {k : Int}, env.getD 0 none = some R → 1 ≤ k → k ≤ rs.length → ∃ v, (e1 intD (e2 ixD (eVar 0) (e2 subD (e1 lenD (eVar 0)) (eC (.int k))))) env = some (.int v) ∧ 0 ≤ v ∧ v < 4096 := fun {env k} he k1 k2 => by
    refine ⟨rs.getD ((rs.length : Int) - k).toNat 0, e1_go (e2_go he (e2_go (r := some (.int ((rs.length : Int) - k))) (e1_go he (len_l _)) rfl (by rw [List.length_map]; rfl)) (ix_ints (by omega) (by omega))) (int_i _), ?_⟩
    exact hr _ (TL.getD_mem (by omega))
  have w0 : ixD w.d (.int 0) = some (.int w.n) := rfl
  obtain ⟨v, hv, v0, v1⟩ := dk (env := [some R, some (.int most), some w.d, some (.int w.n), none, none, none, none, none, none, none]) (k := 1) rfl (by decide) (by omega)
  obtain ⟨way, hway⟩ : ∃ way, v % 8 = way := ⟨_, rfl⟩
  have way0 : 0 ≤ way ∧ way < 8 := by omega
  let E := fun (e5 e6 e7 e8 e9 e10 : Option D) => [some R, some (.int most), some w.d, some (.int w.n), some (.int way), e5, e6, e7, e8, e9, e10]
  have eqw : ∀ {k : Int} {q : Bool} {e5 e6 e7 e8 e9 e10}, decide (way = k) = q → tV (e2 eqD (eVar 4) (eC (.int k))) (E e5 e6 e7 e8 e9 e10) = some q := fun hq => hq ▸ tVD (e2_go rfl rfl (eq_i _ _))
  have ltw : ∀ {k : Int} {q : Bool} {e5 e6 e7 e8 e9 e10}, decide (way < k) = q → tV (e2 ltD (eVar 4) (eC (.int k))) (E e5 e6 e7 e8 e9 e10) = some q := fun hq => hq ▸ tVD (e2_go rfl rfl (lt_i _ _))
  suffices h : ∃ u : Wd, u.Ok ∧ ∃ x : Wd, x.Ok ∧ x.n ≤ most ∧ _ = some (Out.rt (.tuple [x.d, u.d])) from by
    obtain ⟨u, hu, x, hx, hxn, hh⟩ := h
    exact ⟨x, u, run_rt rfl (seq_go (e := [some R, some (.int most), some w.d, none, none, none, none, none, none, none, none]) (asg_go (call2D rfl rfl hw)) (seq_go (e := [some R, some (.int most), some w.d, some (.int w.n), none, none, none, none, none, none, none]) (asg_go (e2_go rfl rfl w0)) (seq_go (e := E none none none none none none) (asg_go (e2_go hv rfl (by rw [mod_n (by decide), hway]))) hh))), hx, hu, hxn⟩
  cases c0 : decide (way = 0) with
  | true =>
    have hcut : cutT (rs.map PyData.int) (some 7) none = (rs.drop 7).map .int := by
      unfold cutT
      rw [List.length_map, show (some (7 : Int)) = some ((7 : Nat) : Int) from rfl, HT.sIx_nat, HT.sIx_none, Nat.min_eq_left (by omega), List.map_drop]
      exact List.take_of_length_le (by rw [List.length_drop, List.length_map]; omega)
    obtain ⟨u, hu, oku, hun⟩ := world_ok (rs.drop 7) (by rw [List.length_drop]; omega) (by rw [List.length_drop]; omega) (fun r hr' => hr r (List.mem_of_mem_drop hr')) most h1 h8
    refine ⟨u, oku, w, ok, hwn, seq_rt (if_t (eqw c0) (ret_go (tup2D rfl (call2D (x := .list ((rs.drop 7).map .int)) ?_ rfl hu))))⟩
    simp only [eSlice, ePart]
    show (Option.bind (some R) _) = _
    simp only [Option.bind_some, eC, toI, Option.map_some, cutD, R, hcut]
  | false =>
  suffices h : ∃ u : Wd, u.Ok ∧ ∃ x : Wd, x.Ok ∧ x.n ≤ most ∧ _ = some (Out.rt (.tuple [x.d, u.d])) from by
    obtain ⟨u, hu, x, hx, hxn, hh⟩ := h
    exact ⟨u, hu, x, hx, hxn, seq_go (if_f (eqw c0) rfl) hh⟩
  -- the rest behind the second if, at any rows and pair
  have rest : ∀ e8 e9 : Option D, ∃ u : Wd, u.Ok ∧ ∃ x : Wd, x.Ok ∧ x.n ≤ most ∧ (sSeq (sAsg (eCall m__law_renamed [(eVar 2), (eCall m__law_names [(eVar 0), (e2 subD (e1 lenD (eVar 0)) (eC (.int 12))), (eVar 3)])]) (TL.gName 5))
      (sSeq (sIf (tV (e2 ltD (eVar 4) (eC (.int 4))))
      (sRet (eTup [(eVar 2), (eVar 5)]))
      sNext)
      (sSeq (sAsg (e2 modD (e1 intD (e2 ixD (eVar 0) (e2 subD (e1 lenD (eVar 0)) (eC (.int 3))))) (eVar 3)) (TL.gName 6))
      (sSeq (sAsg (e2 modD (e1 intD (e2 ixD (eVar 0) (e2 subD (e1 lenD (eVar 0)) (eC (.int 4))))) (eVar 3)) (TL.gName 7))
      (sSeq (sIf (tV (e2 ltD (eVar 4) (eC (.int 7))))
      (sSeq (sIf (tV (e2 inD (eTup [(eVar 6), (eVar 7)]) (e2 ixD (eVar 5) (eC (.int 2)))))
      (sRet (eTup [(eVar 2), (eTup [(eVar 3), (e2 ixD (eVar 5) (eC (.int 1))), (e1 tupleD (eLc [9] (iSeq (e2 ixD (eVar 5) (eC (.int 2)))) (TL.gName 9) (tV (e2 neD (eVar 9) (eTup [(eVar 6), (eVar 7)]))) (eVar 9)))])]))
      sNext)
      (sRet (eTup [(eVar 2), (eTup [(eVar 3), (e2 ixD (eVar 5) (eC (.int 1))), (e1 tupleD (e1 sortedD (e2 addD (e2 ixD (eVar 5) (eC (.int 2))) (eTup [(eTup [(eVar 6), (eVar 7)])]))))])])))
      sNext)
      (sSeq (sIf (tV (e2 inD (eVar 6) (e2 ixD (e2 ixD (eVar 5) (eC (.int 1))) (eC (.int 0)))))
      (sRet (eTup [(eVar 2), (eTup [(eVar 3), (eTup [(e1 tupleD (eLc [10] (iSeq (e2 ixD (e2 ixD (eVar 5) (eC (.int 1))) (eC (.int 0)))) (TL.gName 10) (tV (e2 neD (eVar 10) (eVar 6))) (eVar 10))), (e2 ixD (e2 ixD (eVar 5) (eC (.int 1))) (eC (.int 1)))]), (e2 ixD (eVar 5) (eC (.int 2)))])]))
      sNext)
      (sRet (eTup [(eVar 2), (eTup [(eVar 3), (eTup [(e1 tupleD (e1 sortedD (e2 addD (e2 ixD (e2 ixD (eVar 5) (eC (.int 1))) (eC (.int 0))) (eTup [(eVar 6)])))), (e2 ixD (e2 ixD (eVar 5) (eC (.int 1))) (eC (.int 1)))]), (e2 ixD (eVar 5) (eC (.int 2)))])]))))))))
      (E none none none e8 e9 none) = some (Out.rt (.tuple [x.d, u.d])) := by
    intro e8 e9
    obtain ⟨ps, hps, pp⟩ := names_ok rs (by omega) hr ((rs.length : Int) - 12) (by omega) w.n (by omega) (by have := ok.hi; omega)
    have hu := renamed_ok ok pp
    have oku := Wd.ren_ok ok pp
    have hun : (w.ren ps).n = w.n := rfl
    generalize w.ren ps = u at hu oku hun
    have u1 : ixD u.d (.int 1) = some (.tuple [tI u.m0, tI u.m1]) := rfl
    have u2 : ixD u.d (.int 2) = some (tP u.ar) := rfl
    have u10 : ixD (.tuple [tI u.m0, tI u.m1]) (.int 0) = some (tI u.m0) := rfl
    have u11 : ixD (.tuple [tI u.m0, tI u.m1]) (.int 1) = some (tI u.m1) := rfl
    suffices h : ∃ u' : Wd, u'.Ok ∧ _ = some (Out.rt (.tuple [w.d, u'.d])) from by
      obtain ⟨u', h1, h2⟩ := h
      exact ⟨u', h1, w, ok, hwn, seq_go (e := E (some u.d) none none e8 e9 none) (asg_go (call2D rfl (call3D rfl (e2_go (e1_go rfl (len_l _)) rfl (by rw [List.length_map]; rfl)) rfl hps) hu)) h2⟩
    cases c4 : decide (way < 4) with
    | true => exact ⟨u, oku, seq_rt (if_t (ltw c4) (ret_go (tup2D rfl rfl)))⟩
    | false =>
    obtain ⟨x3, hx3, _, _⟩ := dk (env := E (some u.d) none none e8 e9 none) (k := 3) rfl (by decide) (by omega)
    have a0 : 0 ≤ x3 % w.n := Int.emod_nonneg _ (by omega)
    have a1 : x3 % w.n < w.n := Int.emod_lt_of_pos _ (by omega)
    have ha : (e2 modD (e1 intD (e2 ixD (eVar 0) (e2 subD (e1 lenD (eVar 0)) (eC (.int 3))))) (eVar 3)) (E (some u.d) none none e8 e9 none) = some (.int (x3 % w.n)) := e2_go hx3 rfl (mod_n (by omega))
    generalize x3 % w.n = a at a0 a1 ha
    obtain ⟨x4, hx4, _, _⟩ := dk (env := E (some u.d) (some (.int a)) none e8 e9 none) (k := 4) rfl (by decide) (by omega)
    have b0 : 0 ≤ x4 % w.n := Int.emod_nonneg _ (by omega)
    have b1 : x4 % w.n < w.n := Int.emod_lt_of_pos _ (by omega)
    have hb : (e2 modD (e1 intD (e2 ixD (eVar 0) (e2 subD (e1 lenD (eVar 0)) (eC (.int 4))))) (eVar 3)) (E (some u.d) (some (.int a)) none e8 e9 none) = some (.int (x4 % w.n)) := e2_go hx4 rfl (mod_n (by omega))
    generalize x4 % w.n = b at b0 b1 hb
    have hla : u.ar.length ≤ 1000 := by
      have hx : ∀ (l : List Int) {lo hi : Int}, l.Pairwise (· < ·) → (∀ a ∈ l, lo ≤ a ∧ a < hi) → lo ≤ hi → (l.length : Int) ≤ hi - lo := by
        intro l
        induction l with
        | nil => intro lo hi _ _ h; simp only [List.length_nil]; omega
        | cons x r ih =>
          intro lo hi hp hr h
          have hp := List.pairwise_cons.mp hp
          have hx := hr x List.mem_cons_self
          have := ih (lo := x + 1) (hi := hi) hp.2 (fun a ha => ⟨by have := hp.1 a ha; omega, (hr a (List.mem_cons_of_mem _ ha)).2⟩) (by omega)
          simp only [List.length_cons]
          omega
      have hi := oku.hi
      have := hx (u.ar.map fun p => 8 * p.1 + p.2) (lo := 0) (hi := 64) (List.pairwise_map.mpr (oku.ar.asc.imp_of_mem fun {a b} ha hb hab => by
        have r1 := oku.ar.rng a ha
        have r2 := oku.ar.rng b hb
        have := SrtO.lexB_iff.mp hab
        omega)) (fun a ha => by
          obtain ⟨p, hp, rfl⟩ := List.mem_map.mp ha
          have := oku.ar.rng p hp
          omega) (by decide)
      rw [List.length_map] at this
      omega
    let G := E (some u.d) (some (.int a)) (some (.int b)) e8 e9 none
    suffices h : ∃ u' : Wd, u'.Ok ∧ _ = some (Out.rt (.tuple [w.d, u'.d])) from by
      obtain ⟨u', h1, h2⟩ := h
      exact ⟨u', h1, seq_go (if_f (ltw c4) rfl) (seq_go (e := E (some u.d) (some (.int a)) none e8 e9 none) (asg_go ha) (seq_go (e := G) (asg_go hb) h2))⟩
    cases c7 : decide (way < 7) with
    | true =>
      have hin : tV (e2 inD (eTup [(eVar 6), (eVar 7)]) (e2 ixD (eVar 5) (eC (.int 2)))) G = some (decide ((a, b) ∈ u.ar)) := tVD (e2_go (tup2D rfl rfl) (e2_go rfl rfl u2) (in_tp (a, b) u.ar))
      cases cm : decide ((a, b) ∈ u.ar) with
      | true =>
        rw [cm] at hin
        refine ⟨⟨u.n, u.m0, u.m1, u.ar.filter fun p => !decide (p = (a, b))⟩, ⟨oku.lo, oku.hi, oku.a0, oku.a1, asc2_filter oku.ar _⟩, seq_rt (if_t (ltw c7) (seq_rt (if_t hin (ret_go (tup2D rfl (tup3D (x := .int u.n) (by rw [hun]; rfl) (e2_go rfl rfl u1) (e1_go (lc_go (ds := u.ar.map prD) ?_ (lc_filter (c := (tV (e2 neD (eVar 9) (eTup [(eVar 6), (eVar 7)])))) prD prD (fun p => !decide (p = (a, b))) id fun p hp => ⟨_, rfl, tVD (e2_go rfl (tup2D rfl rfl) (ne_pr p (a, b))), fun _ => rfl⟩)) (by rw [tuple_l, List.map_id]; rfl)))))))) ⟩
        simp only [iSeq]
        rw [e2_go rfl rfl u2]
        rfl
      | false =>
        rw [cm] at hin
        have hnm := of_decide_eq_false cm
        refine ⟨⟨u.n, u.m0, u.m1, isort ltPr (u.ar ++ [(a, b)])⟩, ⟨oku.lo, oku.hi, oku.a0, oku.a1, asc2_of ?_ ?_⟩, seq_rt (if_t (ltw c7) (seq_go (if_f hin rfl) (ret_go (tup2D rfl (tup3D (x := .int u.n) (by rw [hun]; rfl) (e2_go rfl rfl u1) (e1_go (e1_go (e2_go (x := tP u.ar) (y := .tuple [prD (a, b)]) (e2_go rfl rfl u2) (tup1_go (tup2D rfl rfl)) (cat_t (small (by simp only [List.length_map, List.length_cons, List.length_nil]; omega)))) ?_) (tuple_l _)))))))⟩
        · rw [List.nodup_append]
          exact ⟨oku.ar.nodup, List.nodup_cons.mpr ⟨by simp, List.nodup_nil⟩, fun p hp q hq e => by
            rw [List.mem_singleton] at hq
            subst e hq
            exact hnm hp⟩
        · intro p hp
          rcases List.mem_append.mp hp with hp | hp
          · exact oku.ar.rng p hp
          · rw [List.mem_singleton] at hp
            subst hp
            exact ⟨a0, by rw [hun]; exact a1, b0, by rw [hun]; exact b1⟩
        · have := sortedT_prs (u.ar ++ [(a, b)])
          rw [List.map_append] at this
          exact this
    | false =>
      have hin : tV (e2 inD (eVar 6) (e2 ixD (e2 ixD (eVar 5) (eC (.int 1))) (eC (.int 0)))) G = some (decide (a ∈ u.m0)) := tVD (e2_go rfl (e2_go (e2_go rfl rfl u1) rfl u10) (in_ti a u.m0))
      have hl0 : u.m0.length ≤ 1000 := by
        have hx : ∀ (l : List Int) {lo hi : Int}, l.Pairwise (· < ·) → (∀ a ∈ l, lo ≤ a ∧ a < hi) → lo ≤ hi → (l.length : Int) ≤ hi - lo := by
          intro l
          induction l with
          | nil => intro lo hi _ _ h; simp only [List.length_nil]; omega
          | cons x r ih =>
            intro lo hi hp hr h
            have hp := List.pairwise_cons.mp hp
            have hx := hr x List.mem_cons_self
            have := ih (lo := x + 1) (hi := hi) hp.2 (fun a ha => ⟨by have := hp.1 a ha; omega, (hr a (List.mem_cons_of_mem _ ha)).2⟩) (by omega)
            simp only [List.length_cons]
            omega
        have := hx u.m0 oku.a0.asc oku.a0.rng (by have := oku.lo; omega)
        have := oku.hi
        omega
      cases cm : decide (a ∈ u.m0) with
      | true =>
        rw [cm] at hin
        refine ⟨⟨u.n, u.m0.filter fun x => !decide (x = a), u.m1, u.ar⟩, ⟨oku.lo, oku.hi, asc1_filter oku.a0 _, oku.a1, oku.ar⟩, seq_go (if_f (ltw c7) rfl) (seq_rt (if_t hin (ret_go (tup2D rfl (tup3D (x := .int u.n) (by rw [hun]; rfl) (tup2D (e1_go (lc_go (ds := u.m0.map .int) ?_ (lc_filter (c := (tV (e2 neD (eVar 10) (eVar 6)))) PyData.int PyData.int (fun x => !decide (x = a)) id fun x hx => ⟨_, rfl, tVD (e2_go rfl rfl (ne_i x a)), fun _ => rfl⟩)) (by rw [tuple_l, List.map_id]; rfl)) (e2_go (e2_go rfl rfl u1) rfl u11)) (e2_go rfl rfl u2))))))⟩
        simp only [iSeq]
        rw [e2_go (e2_go rfl rfl u1) rfl u10]
        rfl
      | false =>
        rw [cm] at hin
        have hnm := of_decide_eq_false cm
        refine ⟨⟨u.n, isort ltI (u.m0 ++ [a]), u.m1, u.ar⟩, ⟨oku.lo, oku.hi, asc1_of ?_ ?_, oku.a1, oku.ar⟩, seq_go (if_f (ltw c7) rfl) (seq_go (if_f hin rfl) (ret_go (tup2D rfl (tup3D (x := .int u.n) (by rw [hun]; rfl) (tup2D (e1_go (e1_go (e2_go (x := tI u.m0) (y := .tuple [.int a]) (e2_go (e2_go rfl rfl u1) rfl u10) (tup1_go rfl) (cat_t (small (by simp only [List.length_map, List.length_cons, List.length_nil]; omega)))) ?_) (tuple_l _)) (e2_go (e2_go rfl rfl u1) rfl u11)) (e2_go rfl rfl u2)))))⟩
        · rw [List.nodup_append]
          exact ⟨oku.a0.asc.imp fun h e => by omega, List.nodup_cons.mpr ⟨by simp, List.nodup_nil⟩, fun p hp q hq e => by
            rw [List.mem_singleton] at hq
            subst e hq
            exact hnm hp⟩
        · intro p hp
          rcases List.mem_append.mp hp with hp | hp
          · exact oku.a0.rng p hp
          · rw [List.mem_singleton] at hp
            subst hp
            exact ⟨a0, by rw [hun]; exact a1⟩
        · have := sortedT_ints (u.m0 ++ [a])
          rw [List.map_append] at this
          exact this
  cases c1 : decide (way = 1) with
  | false =>
    obtain ⟨u, hu, x, hx, hxn, hh⟩ := rest none none
    exact ⟨u, hu, x, hx, hxn, seq_go (if_f (eqw c1) rfl) hh⟩
  | true =>
    obtain ⟨y, hy, y0, y1⟩ := dk (env := E none none none (some (.list [.tuple [(spec2 0).1.d, (spec2 0).2.d], .tuple [(spec2 1).1.d, (spec2 1).2.d], .tuple [(spec2 2).1.d, (spec2 2).2.d], .tuple [(spec2 3).1.d, (spec2 3).2.d], .tuple [(spec2 4).1.d, (spec2 4).2.d]])) none none) (k := 2) rfl (by decide) (by omega)
    have z : y % 5 = 0 ∨ y % 5 = 1 ∨ y % 5 = 2 ∨ y % 5 = 3 ∨ y % 5 = 4 := by omega
    have hix : ixD (.list [.tuple [(spec2 0).1.d, (spec2 0).2.d], .tuple [(spec2 1).1.d, (spec2 1).2.d], .tuple [(spec2 2).1.d, (spec2 2).2.d], .tuple [(spec2 3).1.d, (spec2 3).2.d], .tuple [(spec2 4).1.d, (spec2 4).2.d]]) (.int (y % 5)) = some (.tuple [(spec2 (y % 5)).1.d, (spec2 (y % 5)).2.d]) := by
      rcases z with h | h | h | h | h <;> rw [h] <;> rfl
    obtain ⟨ok1, ok2⟩ := spec2_wd (y % 5)
    generalize spec2 (y % 5) = sp at hix ok1 ok2
    obtain ⟨s1, s2⟩ := sp
    let PR : D := .tuple [s1.d, s2.d]
    let RW : D := .list [.tuple [(spec2 0).1.d, (spec2 0).2.d], .tuple [(spec2 1).1.d, (spec2 1).2.d], .tuple [(spec2 2).1.d, (spec2 2).2.d], .tuple [(spec2 3).1.d, (spec2 3).2.d], .tuple [(spec2 4).1.d, (spec2 4).2.d]]
    obtain ⟨mx, hmx⟩ : ∃ mx : Int, mx = (if s2.n > s1.n then s2.n else s1.n) := ⟨_, rfl⟩
    have htst : ∀ {q : Bool}, decide (mx ≤ most) = q → tV (e2 leD (e2 max2D (e2 ixD (e2 ixD (eVar 9) (eC (.int 0))) (eC (.int 0))) (e2 ixD (e2 ixD (eVar 9) (eC (.int 1))) (eC (.int 0)))) (eVar 1)) (E none none none (some RW) (some PR) none) = some q := fun hq => hq ▸ tVD (e2_go (e2_go (e2_go (e2_go (x := PR) rfl rfl rfl) rfl rfl) (e2_go (e2_go (x := PR) rfl rfl rfl) rfl rfl) (by rw [hmx]; rfl)) rfl (le_i _ _))
    have pre : ∀ {o : Option Out}, (sIf (tV (e2 leD (e2 max2D (e2 ixD (e2 ixD (eVar 9) (eC (.int 0))) (eC (.int 0))) (e2 ixD (e2 ixD (eVar 9) (eC (.int 1))) (eC (.int 0)))) (eVar 1))) (sRet (eVar 9)) sNext) (E none none none (some RW) (some PR) none) = o → (sIf (tV (e2 eqD (eVar 4) (eC (.int 1))))
      (sSeq (sAsg (eLst [(eTup [(eCall m__law_line [(eC (.int 3))]), (eCall m__law_line [(eC (.int 4))])]), (eTup [(eCall m__law_line [(eC (.int 2))]), (eCall m__law_line [(eC (.int 3))])]), (eTup [(eTup [(eC (.int 3)), (eTup [(eTup []), (eTup [])]), (eTup [])]), (eTup [(eC (.int 4)), (eTup [(eTup []), (eTup [])]), (eTup [])])]), (eTup [(eCall m__law_ring [(eC (.int 3))]), (eCall m__law_ring [(eC (.int 4))])]), (eTup [(eCall m__law_ring [(eC (.int 4))]), (eCall m__law_line [(eC (.int 4))])])]) (TL.gName 8))
      (sSeq (sAsg (e2 ixD (eVar 8) (e2 modD (e1 intD (e2 ixD (eVar 0) (e2 subD (e1 lenD (eVar 0)) (eC (.int 2))))) (eC (.int 5)))) (TL.gName 9))
      (sIf (tV (e2 leD (e2 max2D (e2 ixD (e2 ixD (eVar 9) (eC (.int 0))) (eC (.int 0))) (e2 ixD (e2 ixD (eVar 9) (eC (.int 1))) (eC (.int 0)))) (eVar 1)))
      (sRet (eVar 9))
      sNext)))
      sNext) (E none none none none none none) = o := fun h => if_t (eqw c1) (seq_go (e := E none none none (some RW) none none) (asg_go (d := RW) (by kernel_rfl)) (seq_go (e := E none none none (some RW) (some PR) none) (asg_go (d := PR) (e2_go rfl (e2_go hy rfl (mod_n (by decide))) hix)) h))
    cases cx : decide (mx ≤ most) with
    | true =>
      have hm := of_decide_eq_true cx
      exact ⟨s2, ok2, s1, ok1, by
        rw [hmx] at hm
        split at hm <;> omega, seq_rt (pre (if_t (htst cx) (ret_go rfl)))⟩
    | false =>
      obtain ⟨u, hu, x, hx, hxn, hh⟩ := rest (some RW) (some PR)
      exact ⟨u, hu, x, hx, hxn, seq_go (pre (if_f (htst cx) rfl)) hh⟩
end LB

set_option Elab.async false
set_option linter.all false
set_option maxRecDepth 100000
/-! Drawn formulas. -/
namespace LB
open PySem TL
inductive IsFm (top : Int) (W : List Str) : Nat → D → Prop
  | arrow {d : Nat} {x y : Int} : 0 ≤ x → x < top → 0 ≤ y → y < top → IsFm top W d (.tuple [.str "arrow", .int x, .int y])
  | same {d : Nat} {x y : Int} : 0 ≤ x → x < top → 0 ≤ y → y < top → IsFm top W d (.tuple [.str "same", .int x, .int y])
  | mark {d : Nat} {i x : Int} : 0 ≤ i → i < 2 → 0 ≤ x → x < top → IsFm top W d (.tuple [.str "mark", .int i, .int x])
  | tru {d : Nat} : IsFm top W d (.tuple [.str "true"])
  | fls {d : Nat} : IsFm top W d (.tuple [.str "false"])
  | not {d : Nat} {f : D} : Str.ofString "not" ∈ W → IsFm top W d f → IsFm top W (d + 1) (.tuple [.str "not", f])
  | and {d : Nat} {l : List D} : Str.ofString "and" ∈ W → l.length ≤ 3 → (∀ x ∈ l, IsFm top W d x) → IsFm top W (d + 1) (.tuple [.str "and", .tuple l])
  | or {d : Nat} {l : List D} : Str.ofString "or" ∈ W → l.length ≤ 3 → (∀ x ∈ l, IsFm top W d x) → IsFm top W (d + 1) (.tuple [.str "or", .tuple l])
  | some {d : Nat} {n : Int} {f : D} : Str.ofString "some" ∈ W → 0 ≤ n → n < top → IsFm top W d f → IsFm top W (d + 1) (.tuple [.str "some", .int n, f])
  | all {d : Nat} {n : Int} {f : D} : Str.ofString "all" ∈ W → 0 ≤ n → n < top → IsFm top W d f → IsFm top W (d + 1) (.tuple [.str "all", .int n, f])
  | least {d : Nat} {k n : Int} {f : D} : Str.ofString "least" ∈ W → 1 ≤ k → k ≤ 3 → 0 ≤ n → n < top → IsFm top W d f → IsFm top W (d + 1) (.tuple [.str "least", .int k, .int n, f])
theorem tup2_go {a b : SE} {env : TL.Env} {x y : D} (h1 : a env = some x) (h2 : b env = some y) : eTup [a, b] env = some (.tuple [x, y]) := by
  simp only [eTup, eArgs, h1, h2, Option.bind_some, Option.map_some, List.length_cons, List.length_nil]
  rw [if_pos (small (by decide))]
theorem tup3_go {a b c : SE} {env : TL.Env} {x y z : D} (h1 : a env = some x) (h2 : b env = some y) (h3 : c env = some z) : eTup [a, b, c] env = some (.tuple [x, y, z]) := by
  simp only [eTup, eArgs, h1, h2, h3, Option.bind_some, Option.map_some, List.length_cons, List.length_nil]
  rw [if_pos (small (by decide))]
theorem pick_of {P : D → Prop} {l : List D} {w : Int} (hw : 0 ≤ w) (hl : w < l.length) (h : ∀ x ∈ l, P x) : ∃ x, ixD (.list l) (.int w) = some x ∧ P x := by
  have h' : w.toNat < l.length := by omega
  exact ⟨l[w.toNat], ix_li hw (List.getElem?_eq_getElem h'), h _ (List.getElem_mem h')⟩
/-- the six words -/
def Six (W : List Str) : Prop := ∀ w ∈ W, w = Str.ofString "not" ∨ w = Str.ofString "and" ∨ w = Str.ofString "or" ∨ w = Str.ofString "some" ∨ w = Str.ofString "all" ∨ w = Str.ofString "least"
theorem leaf_ok {r : Nat} {rows : List Int} (P : PoolOk rows) {top c : Int} {W : List Str} {d : Nat} (ht : 0 < top) {e2' e3 e4 e5 e6 e9 e10 : Option D} (hc : 0 ≤ c) (hc2 : c + 4 < 1000000000) : ∃ f c', (qSeq (qAsg (qCall m__law_pick [(ql (eVar 0)), (ql (eVar 1))]) (TL.gName 7))
      (qSeq (qAsg (qCall m__law_pick [(ql (eVar 0)), (ql (eVar 1))]) (TL.gName 8))
      (qRet (q2 ixD (qLst [(ql (eTup [(eC (.str "arrow")), (eVar 7), (eVar 8)])), (ql (eTup [(eC (.str "arrow")), (eVar 8), (eVar 7)])), (ql (eTup [(eC (.str "same")), (eVar 7), (eVar 8)])), (qTup [(ql (eC (.str "mark"))), (qCall m__law_pick [(ql (eVar 0)), (ql (eC (.int 2)))]), (ql (eVar 7))]), (ql (eTup [(eC (.str "true"))])), (ql (eTup [(eC (.str "false"))]))]) (q2 min2D (ql (eC (.int 5))) (qCall m__law_pick [(ql (eVar 0)), (ql (eC (.int 9)))])))))) r [some (poolD r (rows.map .int)), some (.int top), e2', e3, e4, e5, e6, none, none, e9, e10] c = some (.rt f c') ∧ IsFm top W d f ∧ c ≤ c' ∧ c' ≤ c + 4 := by
  obtain ⟨x, hx, x0, x1⟩ := pick_ok (r := r) P (n := top) hc (by omega) ht
  obtain ⟨y, hy, y0, y1⟩ := pick_ok (r := r) P (n := top) (c := c + 1) (by omega) (by omega) ht
  obtain ⟨i, hi, i0, i1⟩ := pick_ok (r := r) P (n := 2) (c := c + 1 + 1) (by omega) (by omega) (by decide)
  obtain ⟨v, hv, v0, v1⟩ := pick_ok (r := r) P (n := 9) (c := c + 1 + 1 + 1) (by omega) (by omega) (by decide)
  obtain ⟨f, hf, ff⟩ := pick_of (P := IsFm top W d) (w := if v < 5 then v else 5) (l := [.tuple [.str "arrow", .int x, .int y], .tuple [.str "arrow", .int y, .int x], .tuple [.str "same", .int x, .int y], .tuple [.str "mark", .int i, .int x], .tuple [.str "true"], .tuple [.str "false"]]) (by split <;> omega) (by simp only [List.length_cons, List.length_nil]; split <;> omega) (by
    intro z hz
    rcases List.mem_cons.mp hz with rfl | hz
    · exact .arrow x0 x1 y0 y1
    rcases List.mem_cons.mp hz with rfl | hz
    · exact .arrow y0 y1 x0 x1
    rcases List.mem_cons.mp hz with rfl | hz
    · exact .same x0 x1 y0 y1
    rcases List.mem_cons.mp hz with rfl | hz
    · exact .mark i0 i1 x0 x1
    rcases List.mem_cons.mp hz with rfl | hz
    · exact .tru
    · rw [List.mem_singleton.mp hz]
      exact .fls)
  refine ⟨f, c + 1 + 1 + 1 + 1, qseq_go (qasg_go (qcall_go (qargs_c (ql_go rfl) (qargs_c (ql_go rfl) qargs_n)) hx)) (qseq_go (qasg_go (qcall_go (qargs_c (ql_go rfl) (qargs_c (ql_go rfl) qargs_n)) hy)) (qret_go (q2_go (qlst_go (qargs_c (ql_go (tup3_go rfl rfl rfl)) (qargs_c (ql_go (tup3_go rfl rfl rfl)) (qargs_c (ql_go (tup3_go rfl rfl rfl)) (qargs_c (qtup_go (qargs_c (ql_go rfl) (qargs_c (qcall_go (qargs_c (ql_go rfl) (qargs_c (ql_go rfl) qargs_n)) hi) (qargs_c (ql_go rfl) qargs_n))) (Nat.le_of_ble_eq_true rfl)) (qargs_c (ql_go (tup1_go rfl)) (qargs_c (ql_go (tup1_go rfl)) qargs_n)))))) (Nat.le_of_ble_eq_true rfl)) (q2_go (ql_go rfl) (qcall_go (qargs_c (ql_go rfl) (qargs_c (ql_go rfl) qargs_n)) hv) rfl) hf))), ff, by omega, by omega⟩
theorem qtV_go {a : QE} {r : Nat} {env : TL.Env} {c c1 : Int} {b : Bool} (h : a r env c = some (.bool b, c1)) : qtV a r env c = some (b, c1) := by
  simp only [qtV, h, Option.bind_some, toB, Option.map_some]
theorem qlT_go {f : ST} {r : Nat} {env : TL.Env} {c : Int} {b : Bool} (h : f env = some b) : qlT f r env c = some (b, c) := by
  simp only [qlT, h, Option.map_some]
theorem tV_go {a : SE} {env : TL.Env} {b : Bool} (h : a env = some (.bool b)) : tV a env = some b := by
  simp only [tV, h, Option.bind_some, toB]
theorem tOr_t {a b : ST} {env : TL.Env} (h : a env = some true) : TL.tOr a b env = some true := by
  simp only [TL.tOr, h, Option.bind_some, if_true]
theorem tOr_f {a b : ST} {env : TL.Env} {o : Option Bool} (h : a env = some false) (h2 : b env = o) : TL.tOr a b env = o := by
  simp only [TL.tOr, h, Option.bind_some, Bool.false_eq_true, if_false]
  exact h2
theorem formula_ok {r : Nat} {rows : List Int} (P : PoolOk rows) {top : Int} {W : List Str} (ht : 0 < top) (hW : Six W) (hW0 : 0 < W.length) (hW1 : W.length ≤ 1000) : ∀ (d : Nat) {fuel : Nat} {c : Int}, d < fuel → 0 ≤ c → c + 10 * 4 ^ d < 1000000000 →
    ∃ f c', m__law_formula fuel r [poolD r (rows.map .int), .int top, .int (d : Nat), .list (W.map .str)] c = some (f, c') ∧ IsFm top W d f ∧ c ≤ c' ∧ c' ≤ c + 10 * 4 ^ d := by
  intro d
  induction d with
  | zero =>
    intro fuel c hf hc hc2
    obtain ⟨n, rfl⟩ : ∃ n, fuel = n + 1 := ⟨fuel - 1, by omega⟩
    obtain ⟨w, hw, w0, w1⟩ := pick_ok (r := r) P (n := 9) hc (by omega) (by decide)
    obtain ⟨f, c', hf2, ff, l1, l2⟩ := leaf_ok (r := r) P (top := top) (c := c + 1) (W := W) (d := 0) (e2' := some (.int (0 : Nat))) (e3 := some (.list (W.map .str))) (e4 := some (.int w)) (e5 := none) (e6 := none) (e9 := none) (e10 := none) ht (by omega) (by omega)
    refine ⟨f, c', ?_, ff, by omega, by omega⟩
    rw [m__law_formula]
    refine qrun_rt rfl (qseq_go (qasg_go (qcall_go (qargs_c (ql_go rfl) (qargs_c (ql_go rfl) qargs_n)) hw)) (qseq_rt (qif_tt (qlT_go (tOr_t (tV_go (e2_go rfl rfl (eq_i _ _))))) hf2)))
  | succ d ih =>
    intro fuel c hf hc hc2
    obtain ⟨n, rfl⟩ : ∃ n, fuel = n + 1 := ⟨fuel - 1, by omega⟩
    have hp : (4 : Int) ^ (d + 1) = 4 ^ d * 4 := by rw [Int.pow_succ]
    have hp0 : (0 : Int) < 4 ^ d := Int.pow_pos (by decide)
    generalize hq : (4 : Int) ^ d = q at *
    rw [hp] at hc2
    obtain ⟨w, hw, w0, w1⟩ := pick_ok (r := r) P (n := 9) hc (by omega) (by decide)
    let E := fun (e5 e6 e9 e10 : Option D) => [some (poolD r (rows.map .int)), some (.int top), some (.int ((d + 1 : Nat) : Int)), some (.list (W.map .str)), some (.int w), e5, e6, none, none, e9, e10]
    have hz : e2 eqD (eVar 2) (eC (.int 0)) (E none none none none) = some (.bool false) := by
      refine e2_go rfl rfl ((eq_i _ _).trans ?_)
      rw [decide_eq_false (by omega)]
    by_cases hw2 : w < 2
    · obtain ⟨f, c', hf2, ff, l1, l2⟩ := leaf_ok (r := r) P (top := top) (c := c + 1) (W := W) (d := d + 1) (e2' := some (.int ((d + 1 : Nat) : Int))) (e3 := some (.list (W.map .str))) (e4 := some (.int w)) (e5 := none) (e6 := none) (e9 := none) (e10 := none) ht (by omega) (by omega)
      refine ⟨f, c', ?_, ff, by omega, by rw [hp]; omega⟩
      rw [m__law_formula]
      refine qrun_rt rfl (qseq_go (qasg_go (qcall_go (qargs_c (ql_go rfl) (qargs_c (ql_go rfl) qargs_n)) hw)) (qseq_rt (qif_tt (qlT_go (tOr_f (tV_go hz) (tV_go (e2_go rfl rfl (by rw [lt_i, decide_eq_true hw2]))))) hf2)))
    · have ht1 : TL.tOr (tV (e2 eqD (eVar 2) (eC (.int 0)))) (tV (e2 ltD (eVar 4) (eC (.int 2)))) (E none none none none) = some false := tOr_f (tV_go hz) (tV_go (e2_go rfl rfl (by rw [lt_i, decide_eq_false hw2])))
      obtain ⟨k, hk, k0, k1⟩ := pick_ok (r := r) P (n := W.length) (c := c + 1) (by omega) (by omega) (by omega)
      have hkl : k.toNat < W.length := by omega
      obtain ⟨u, hu⟩ : ∃ u, W[k.toNat] = u := ⟨_, rfl⟩
      have huW : u ∈ W := hu ▸ List.getElem_mem hkl
      have hix : ixD (.list (W.map .str)) (.int k) = some (.str u) := by
        refine ix_li k0 ?_
        rw [List.getElem?_map, List.getElem?_eq_getElem hkl, hu]
        rfl
      have hsub : ∀ e5 e6 e9 e10, e2 subD (eVar 2) (eC (.int 1)) (E e5 e6 e9 e10) = some (.int (d : Nat)) := fun _ _ _ _ => e2_go rfl rfl (by rw [sub_i]; congr 2; omega)
      have start : ∀ {f c'}, (qSeq (qIfS (qlT (tV (e2 eqD (eVar 5) (eC (.str "not")))))
      (qRet (qTup [(ql (eC (.str "not"))), (qCall (m__law_formula n) [(ql (eVar 0)), (ql (eVar 1)), (ql (e2 subD (eVar 2) (eC (.int 1)))), (ql (eVar 3))])]))
      qNext)
      (qSeq (qIfS (qlT (tV (e2 inD (eVar 5) (eTup [(eC (.str "and")), (eC (.str "or"))]))))
      (qSeq (qlS (sAsg (eTup []) (TL.gName 9)))
      (qSeq (qFor (qRng1 (qCall m__law_pick [(ql (eVar 0)), (ql (eC (.int 4)))])) (TL.gName 10)
      (qAsg (q2 addD (ql (eVar 9)) (qTup [(qCall (m__law_formula n) [(ql (eVar 0)), (ql (eVar 1)), (ql (e2 subD (eVar 2) (eC (.int 1)))), (ql (eVar 3))])])) (TL.gName 9)))
      (qlS (sRet (eTup [(eVar 5), (eVar 9)])))))
      qNext)
      (qSeq (qAsg (qCall m__law_pick [(ql (eVar 0)), (ql (eVar 1))]) (TL.gName 6))
      (qSeq (qIfS (qlT (tV (e2 eqD (eVar 5) (eC (.str "least")))))
      (qRet (qTup [(ql (eC (.str "least"))), (q2 addD (ql (eC (.int 1))) (qCall m__law_pick [(ql (eVar 0)), (ql (eC (.int 3)))])), (ql (eVar 6)), (qCall (m__law_formula n) [(ql (eVar 0)), (ql (eVar 1)), (ql (e2 subD (eVar 2) (eC (.int 1)))), (ql (eVar 3))])]))
      qNext)
      (qRet (qTup [(ql (eVar 5)), (ql (eVar 6)), (qCall (m__law_formula n) [(ql (eVar 0)), (ql (eVar 1)), (ql (e2 subD (eVar 2) (eC (.int 1)))), (ql (eVar 3))])])))))) r (E (some (.str u)) none none none) (c + 1 + 1) = some (.rt f c') → m__law_formula (n + 1) r [poolD r (rows.map .int), .int top, .int ((d + 1 : Nat) : Int), .list (W.map .str)] c = some (f, c') := by
        intro f c' h
        rw [m__law_formula]
        refine qrun_rt rfl (qseq_go (qasg_go (qcall_go (qargs_c (ql_go rfl) (qargs_c (ql_go rfl) qargs_n)) hw)) (qseq_go (qif_ff (qlT_go ht1) rfl) (qseq_go (qasg_go (q2_go (ql_go rfl) (qcall_go (qargs_c (ql_go rfl) (qargs_c (ql_go (e1_go rfl (len_l _))) qargs_n)) (by rw [List.length_map]; exact hk)) hix)) h)))
      have rcur : ∀ {e5 e6 e9 e10 c}, 0 ≤ c → c + 10 * q < 1000000000 → ∃ f c', (qCall (m__law_formula n) [(ql (eVar 0)), (ql (eVar 1)), (ql (e2 subD (eVar 2) (eC (.int 1)))), (ql (eVar 3))]) r (E e5 e6 e9 e10) c = some (f, c') ∧ IsFm top W d f ∧ c ≤ c' ∧ c' ≤ c + 10 * q := fun {e5 e6 e9 e10 c} h1 h2 => by
        obtain ⟨f, c', g1, g2, g3, g4⟩ := ih (fuel := n) (by omega) h1 h2
        exact ⟨f, c', qcall_go (qargs_c (ql_go rfl) (qargs_c (ql_go rfl) (qargs_c (ql_go (hsub _ _ _ _)) (qargs_c (ql_go rfl) qargs_n)))) g1, g2, g3, g4⟩
      have tst : ∀ {a b : Str} {e6 e9 e10} {o : Bool} {c : Int}, eqD (.str a) (.str b) = some (.bool o) → (qlT (tV (e2 eqD (eVar 5) (eC (.str b))))) r (E (some (.str a)) e6 e9 e10) c = some (o, c) := fun h => qlT_go (tV_go (e2_go rfl rfl h))
      have conn : ∀ {a : Str} {o : Bool} {c : Int}, inD (.str a) (.tuple [.str "and", .str "or"]) = some (.bool o) → (qlT (tV (e2 inD (eVar 5) (eTup [(eC (.str "and")), (eC (.str "or"))])))) r (E (some (.str a)) none none none) c = some (o, c) := fun h => qlT_go (tV_go (e2_go rfl (tup2_go rfl rfl) h))
      have loop : ∀ u : Str, ∃ l c', (qSeq (qlS (sAsg (eTup []) (TL.gName 9)))
      (qSeq (qFor (qRng1 (qCall m__law_pick [(ql (eVar 0)), (ql (eC (.int 4)))])) (TL.gName 10)
      (qAsg (q2 addD (ql (eVar 9)) (qTup [(qCall (m__law_formula n) [(ql (eVar 0)), (ql (eVar 1)), (ql (e2 subD (eVar 2) (eC (.int 1)))), (ql (eVar 3))])])) (TL.gName 9)))
      (qlS (sRet (eTup [(eVar 5), (eVar 9)]))))) r (E (some (.str u)) none none none) (c + 1 + 1) = some (.rt (.tuple [.str u, .tuple l]) c') ∧ l.length ≤ 3 ∧ (∀ x ∈ l, IsFm top W d x) ∧ c ≤ c' ∧ c' ≤ c + 10 * (q * 4) := by
        intro u
        obtain ⟨m, hm, m0, m1⟩ := pick_ok (r := r) P (n := 4) (c := c + 1 + 1) (by omega) (by omega) (by decide)
        obtain ⟨e, c', hl, l, e10, rfl, l1, l2, l3, l4⟩ := qfor_inv (g := TL.gName 10) (r := r) (body := (qAsg (q2 addD (ql (eVar 9)) (qTup [(qCall (m__law_formula n) [(ql (eVar 0)), (ql (eVar 1)), (ql (e2 subD (eVar 2) (eC (.int 1)))), (ql (eVar 3))])])) (TL.gName 9)))
          (fun j env c' => ∃ (l : List D) (e10 : Option D), env = E (some (.str u)) none (some (.tuple l)) e10 ∧ l.length = j ∧ (∀ x ∈ l, IsFm top W d x) ∧ c + 3 ≤ c' ∧ c' ≤ c + 3 + (j : Int) * (10 * q)) ((rangeI 0 m.toNat).map .int) 0 (E (some (.str u)) none (some (.tuple [])) none) (c + 1 + 1 + 1) ⟨[], none, rfl, rfl, fun x h => (by cases h), by omega, by simp; omega⟩ (by
            rintro j x env c1 hx ⟨l, e10, rfl, l1, l2, l3, l4⟩
            rw [Nat.zero_add] at l1 l4
            have hj : j < m.toNat := by
              have := (List.getElem?_eq_some_iff.mp hx).1
              rwa [List.length_map, rangeI_len] at this
            have h2 : (j : Int) * (10 * q) ≤ 2 * (10 * q) := Int.mul_le_mul_of_nonneg_right (by omega) (by omega)
            obtain ⟨f, c2, g1, g2, g3, g4⟩ := rcur (e5 := some (.str u)) (e6 := none) (e9 := some (.tuple l)) (e10 := some x) (c := c1) (by omega) (by omega)
            refine ⟨E (some (.str u)) none (some (.tuple l)) (some x), rfl, E (some (.str u)) none (some (.tuple (l ++ [f]))) (some x), c2, qasg_go (q2_go (ql_go rfl) (qtup_go (qargs_c g1 qargs_n) (Nat.le_of_ble_eq_true rfl)) (cat_t (small (by simp only [List.length_cons, List.length_nil]; omega)))), l ++ [f], _, rfl, by rw [List.length_append, l1, Nat.zero_add]; rfl, fun y hy => ?_, by omega, ?_⟩
            · rcases List.mem_append.mp hy with hy | hy
              · exact l2 y hy
              · rw [List.mem_singleton.mp hy]
                exact g2
            · rw [Nat.zero_add, show ((j + 1 : Nat) : Int) = (j : Int) + 1 by omega, Int.add_mul]
              omega)
        rw [Nat.zero_add, List.length_map, rangeI_len] at l1 l4
        have h3 : (m.toNat : Int) * (10 * q) ≤ 3 * (10 * q) := Int.mul_le_mul_of_nonneg_right (by omega) (by omega)
        refine ⟨l, c', qseq_go (e := E (some (.str u)) none (some (.tuple [])) none) (qlS_nx rfl) (qseq_go (qfor_go (ds := (rangeI 0 m.toNat).map .int) ?_ hl) (qlS_rt (ret_go (tup2_go rfl rfl)))), by omega, l2, by omega, by omega⟩
        simp only [qRng1]
        rw [qcall_go (qargs_c (ql_go rfl) (qargs_c (ql_go rfl) qargs_n)) hm]
        simp only [Option.bind_some, toI, rng_0 (n := m) (by omega) (by omega), Option.map_some]
      have name : ∃ v, (qCall m__law_pick [(ql (eVar 0)), (ql (eVar 1))]) r (E (some (.str u)) none none none) (c + 1 + 1) = some (.int v, c + 1 + 1 + 1) ∧ 0 ≤ v ∧ v < top := by
        obtain ⟨v, hv, v0, v1⟩ := pick_ok (r := r) P (n := top) (c := c + 1 + 1) (by omega) (by omega) ht
        exact ⟨v, qcall_go (qargs_c (ql_go rfl) (qargs_c (ql_go rfl) qargs_n)) hv, v0, v1⟩
      rw [hp]
      rcases hW u huW with rfl | rfl | rfl | rfl | rfl | rfl
      · obtain ⟨f, c', g1, g2, g3, g4⟩ := rcur (e5 := some (.str "not")) (e6 := none) (e9 := none) (e10 := none) (c := c + 1 + 1) (by omega) (by omega)
        exact ⟨_, c', start (qseq_rt (qif_tt (tst (by kernel_rfl)) (qret_go (qtup_go (qargs_c (ql_go rfl) (qargs_c g1 qargs_n)) (Nat.le_of_ble_eq_true rfl))))), .not huW g2, by omega, by omega⟩
      · obtain ⟨l, c', g1, g2, g3, g4, g5⟩ := loop "and"
        exact ⟨_, c', start (qseq_go (qif_ff (tst (by kernel_rfl)) rfl) (qseq_rt (qif_tt (conn (by kernel_rfl)) g1))), .and huW g2 g3, g4, g5⟩
      · obtain ⟨l, c', g1, g2, g3, g4, g5⟩ := loop "or"
        exact ⟨_, c', start (qseq_go (qif_ff (tst (by kernel_rfl)) rfl) (qseq_rt (qif_tt (conn (by kernel_rfl)) g1))), .or huW g2 g3, g4, g5⟩
      · obtain ⟨v, hv, v0, v1⟩ := name
        obtain ⟨f, c', g1, g2, g3, g4⟩ := rcur (e5 := some (.str "some")) (e6 := some (.int v)) (e9 := none) (e10 := none) (c := c + 1 + 1 + 1) (by omega) (by omega)
        exact ⟨_, c', start (qseq_go (qif_ff (tst (by kernel_rfl)) rfl) (qseq_go (qif_ff (conn (by kernel_rfl)) rfl) (qseq_go (qasg_go hv) (qseq_go (qif_ff (tst (by kernel_rfl)) rfl) (qret_go (qtup_go (qargs_c (ql_go rfl) (qargs_c (ql_go rfl) (qargs_c g1 qargs_n))) (Nat.le_of_ble_eq_true rfl))))))), .some huW v0 v1 g2, by omega, by omega⟩
      · obtain ⟨v, hv, v0, v1⟩ := name
        obtain ⟨f, c', g1, g2, g3, g4⟩ := rcur (e5 := some (.str "all")) (e6 := some (.int v)) (e9 := none) (e10 := none) (c := c + 1 + 1 + 1) (by omega) (by omega)
        exact ⟨_, c', start (qseq_go (qif_ff (tst (by kernel_rfl)) rfl) (qseq_go (qif_ff (conn (by kernel_rfl)) rfl) (qseq_go (qasg_go hv) (qseq_go (qif_ff (tst (by kernel_rfl)) rfl) (qret_go (qtup_go (qargs_c (ql_go rfl) (qargs_c (ql_go rfl) (qargs_c g1 qargs_n))) (Nat.le_of_ble_eq_true rfl))))))), .all huW v0 v1 g2, by omega, by omega⟩
      · obtain ⟨v, hv, v0, v1⟩ := name
        obtain ⟨i, hi, i0, i1⟩ := pick_ok (r := r) P (n := 3) (c := c + 1 + 1 + 1) (by omega) (by omega) (by decide)
        obtain ⟨f, c', g1, g2, g3, g4⟩ := rcur (e5 := some (.str "least")) (e6 := some (.int v)) (e9 := none) (e10 := none) (c := c + 1 + 1 + 1 + 1) (by omega) (by omega)
        exact ⟨_, c', start (qseq_go (qif_ff (tst (by kernel_rfl)) rfl) (qseq_go (qif_ff (conn (by kernel_rfl)) rfl) (qseq_go (qasg_go hv) (qseq_rt (qif_tt (tst (by kernel_rfl)) (qret_go (qtup_go (qargs_c (ql_go rfl) (qargs_c (q2_go (ql_go rfl) (qcall_go (qargs_c (ql_go rfl) (qargs_c (ql_go rfl) qargs_n)) hi) (add_i _ _)) (qargs_c (ql_go rfl) (qargs_c g1 qargs_n)))) (Nat.le_of_ble_eq_true rfl)))))))), .least huW (by omega) (by omega) v0 v1 g2, by omega, by omega⟩
end LB

set_option Elab.async false
set_option linter.all false
set_option maxRecDepth 100000
/-! Law k01: is_world of any value against the law's own reading. -/
namespace LB
open PySem TL
local macro_rules | `(tactic| walk_at "ev") => `(tactic| simp only [List.length_cons, List.length_nil, if_true, List.map_cons, List.map_nil, List.replicate, List.cons_append, List.nil_append, sSeq, sAsg, eLst, eTup, eArgs, Option.bind_some, Option.map_some, eC, eVar, eCall, e1, e2, eIf, eAnd, eOr, eNot, eChain, TL.gName, TL.gTup, gAll, List.getD_cons_zero, List.getD_cons_succ, List.set_cons_zero, List.set_cons_succ, sFor, iRng1, iRng2, iSeq, itemsD, toI, toB, sIf, sRet, sNext, tV, TL.tAnd, TL.tOr, TL.tNot, add_i, sub_i, lt_i, le_i, gt_i, ge_i, eq_i, ne_i, int_i, len_l, len_t, tuple_l, tuple_t, list_l, list_t, outD, Bool.false_eq_true, if_false, sApp, Nat.zero_le, wipeE, cYes, eSlice, ePart])
inductive Nice (b : Nat) : Nat → D → Prop
  | int {d : Nat} {i : Int} : i.natAbs ≤ b → Nice b d (.int i)
  | bool {d : Nat} (c : Bool) : Nice b d (.bool c)
  | str {d : Nat} {s : Str} : s.length ≤ b → PyData.strOk s = true → Nice b d (.str s)
  | none {d : Nat} : Nice b d .none
  | list {d : Nat} (ds : List D) : Nice b d (.list ds)
  | tup {d : Nat} {ds : List D} : ds.length ≤ b → (∀ x ∈ ds, Nice b d x) → Nice b (d + 1) (.tuple ds)
theorem Nice.mono {b b' d d' : Nat} {v : D} (h : Nice b d v) (hb : b ≤ b') (hd : d ≤ d') : Nice b' d' v := by
  induction h generalizing d' with
  | int h => exact .int (by omega)
  | bool c => exact .bool c
  | str h ho => exact .str (by omega) ho
  | none => exact .none
  | list ds => exact .list ds
  | tup h1 h2 ih =>
    obtain ⟨e, rfl⟩ : ∃ e, d' = e + 1 := ⟨d' - 1, by omega⟩
    exact .tup (by omega) fun x hx => ih x hx (by omega)
def isI : D → Bool
  | .int _ => true
  | _ => false
theorem whole_ok {b d : Nat} {v : D} (h : Nice b d v) : m_is_whole [v] = some (.bool (isI v)) := by
  cases h <;> rfl
theorem lint_ok {b d : Nat} {v : D} (h : Nice b d v) : m__law_is_int [v] = some (.bool (isI v)) := by
  cases h <;> rfl
theorem isI_all : ∀ {ds : List D}, ds.all isI = true → ∃ l : List Int, ds = l.map .int
  | [], _ => ⟨[], rfl⟩
  | x :: r, h => by
    have h := List.all_cons ▸ h
    rw [Bool.and_eq_true] at h
    obtain ⟨l, rfl⟩ := isI_all h.2
    cases x <;> simp [isI] at h
    exact ⟨_ :: l, rfl⟩
theorem bools_of (l : List Bool) : boolsOf (l.map .bool) = some l := by
  induction l with
  | nil => rfl
  | cons n r ih => simp only [List.map_cons, boolsOf, ih, Option.map_some]
theorem all_b (l : List Bool) : allD (.list (l.map .bool)) = some (.bool (l.all id)) := by
  simp only [allD, bools_of, Option.map_some]
theorem none_of {α β γ : Type} (p : α → Bool) (f : α → β) (g : β → γ) : ∀ zs : List α, decide (((((zs.filter fun a => !p a).map f).map g).length : Int) = 0) = zs.all p
  | [] => rfl
  | a :: zs => by
    have ih := none_of p f g zs
    cases q : p a
    · simp [q]
      omega
    · simpa [q] using ih
theorem some_of {α β γ : Type} (p : α → Bool) (f : α → β) (g : β → γ) (zs : List α) : decide ((0 : Int) < ((((zs.filter fun a => !p a).map f).map g).length : Int)) = !zs.all p := by
  rw [← none_of p f g zs]
  generalize ((((zs.filter fun a => !p a).map f).map g).length : Nat) = n
  by_cases h : n = 0
  · subst h; rfl
  · have h1 : ¬ ((n : Int) = 0) := by omega
    have h2 : (0 : Int) < n := by omega
    rw [decide_eq_true h2, decide_eq_false h1]
    rfl
/-! ### rising -/
def upB {α : Type} (lt : α → α → Bool) (z : α) (l : List α) : Bool := (rangeI 0 (((l.length : Int) - 1 - 0).toNat)).all fun k => lt (l.getD k.toNat z) (l.getD (k + 1).toNat z)
theorem ix_at {α : Type} (ι : α → D) (z : α) {l : List α} {i : Int} (h0 : 0 ≤ i) (h : i < l.length) : ixD (.tuple (l.map ι)) (.int i) = some (ι (l.getD i.toNat z)) := by
  refine ix_ti h0 ?_
  have h' : i.toNat < l.length := by omega
  rw [List.getElem?_map, List.getD_eq_getElem?_getD, List.getElem?_eq_getElem h']
  rfl
section
variable {α : Type} (ι : α → D) (lt : α → α → Bool) (z : α) (l : List α) (hl : l.length ≤ 1000)
include hl
theorem rises_ok (hlt : ∀ a b, ltD (ι a) (ι b) = some (.bool (lt a b))) : m_rises [.tuple (l.map ι)] = some (.bool (upB lt z l)) := by
  have hr : rangeD 0 ((l.length : Int) - 1) = some ((rangeI 0 (((l.length : Int) - 1 - 0).toNat)).map .int) := rng_ab (by decide) (by decide) (by omega) (by omega)
  refine run_rt rfl (ret_go (e1_go (x := .list (((rangeI 0 (((l.length : Int) - 1 - 0).toNat)).map fun k => lt (l.getD k.toNat z) (l.getD (k + 1).toNat z)).map .bool)) (lc_go (ds := (rangeI 0 (((l.length : Int) - 1 - 0).toNat)).map .int) ?_ ?_) ?_))
  · walk_at "ev"
    rw [List.length_map]
    exact hr
  · refine lc_map .int .bool _ fun k hk => ?_
    have hk := rangeI_mem.mp hk
    refine ⟨_, rfl, ?_⟩
    walk_at "ev"
    simp only [ix_at ι z (l := l) (i := k) (by omega) (by omega), ix_at ι z (l := l) (i := k + 1) (by omega) (by omega), Option.bind_some, hlt]
  · rw [all_b, List.all_map]
    rfl
theorem falls_ok (hge : ∀ a b, geD (ι a) (ι b) = some (.bool (!lt a b))) {env : TL.Env} {vs : List Nat} {i j : Nat} (hj : ∀ d, ((wipeE env vs).set j (some d)).getD j none = some d) (h0 : env.getD i none = some (.tuple (l.map ι))) (hi : ∀ d, ((wipeE env vs).set j (some d)).getD i none = some (.tuple (l.map ι))) :
    (e2 eqD (e1 lenD (eLc vs (iRng1 (e2 subD (e1 lenD (eVar i)) (eC (.int 1)))) (TL.gName j) (tV (e2 geD (e2 ixD (eVar i) (eVar j)) (e2 ixD (eVar i) (e2 addD (eVar j) (eC (.int 1)))))) (eVar j))) (eC (.int 0))) env = some (.bool (upB lt z l)) := by
  have hr : rangeD 0 ((l.length : Int) - 1) = some ((rangeI 0 (((l.length : Int) - 1 - 0).toNat)).map .int) := rng_ab (by decide) (by decide) (by omega) (by omega)
  refine e2_go (e1_go (lc_go (ds := (rangeI 0 (((l.length : Int) - 1 - 0).toNat)).map .int) ?_ (lc_filter .int .int (fun k => !lt (l.getD k.toNat z) (l.getD (k + 1).toNat z)) id fun k hk => ?_)) (len_l _)) rfl ?_
  · simp only [iRng1, e2, e1, eVar, h0, Option.bind_some, len_t, List.length_map, eC, sub_i, toI]
    exact hr
  · have hk := rangeI_mem.mp hk
    refine ⟨_, rfl, ?_, fun _ => ?_⟩
    · simp only [tV, e2, eVar, hi, hj, Option.bind_some, ix_at ι z (l := l) (i := k) (by omega) (by omega), eC, add_i, ix_at ι z (l := l) (i := k + 1) (by omega) (by omega), hge, toB]
    · exact hj _
  · rw [eq_i]
    exact congrArg (fun q => some (PyData.bool q)) (none_of (fun k : Int => lt (l.getD k.toNat z) (l.getD (k + 1).toNat z)) id PyData.int _)
end
/-! ### rows of numbers -/
def numB : D → Bool
  | .tuple ds => ds.all isI
  | _ => false
theorem numbers_ok {b d : Nat} {v : D} (h : Nice b d v) : m_is_numbers [v] = some (.bool (numB v)) := by
  cases h with
  | tup h1 h2 =>
    rename_i d ds
    refine run_rt rfl (ret_go ?_)
    simp only [eAnd]
    rw [show e1 (isiD .tuple) (eVar 0) (List.map some [PyData.tuple ds] ++ List.replicate 1 none) = some (.bool true) from rfl]
    simp only [Option.bind_some, toB, if_true]
    refine e1_go (x := .list ((ds.map isI).map .bool)) (lc_go (ds := ds) rfl ?_) ?_
    · have := lc_map (g := TL.gName 1) (e := eCall m_is_whole [(eVar 1)]) (env := wipeE (List.map some [PyData.tuple ds] ++ List.replicate 1 none) [1]) id PyData.bool isI (zs := ds) fun x hx => ⟨_, rfl, by
        walk_at "ev"
        exact whole_ok (h2 x hx)⟩
      rwa [List.map_id] at this
    · rw [all_b, List.all_map]
      rfl
  | _ => rfl
theorem ltI_up (a b : Int) : ltD (.int a) (.int b) = some (.bool (ltI a b)) := rfl
theorem geI_up (a b : Int) : geD (.int a) (.int b) = some (.bool (!ltI a b)) := by
  rw [ge_i]
  congr 2
  unfold ltI
  by_cases h : a < b
  · have h' : ¬ b ≤ a := by omega
    simp [h, h']
  · have h' : b ≤ a := by omega
    simp [h, h']
def inB (n a : Int) : Bool := decide (0 ≤ a) && decide (a < n)
theorem chain_in {env : TL.Env} {i j : Nat} {a n : Int} (h1 : env.getD i none = some (.int a)) (h2 : env.getD j none = some (.int n)) : eChain leD ltD (eC (.int 0)) (eVar i) (eVar j) env = some (.bool (inB n a)) := by
  simp only [eChain, eC, eVar, h1, h2, Option.bind_some, le_i, toB, lt_i, inB]
  by_cases h : 0 ≤ a <;> simp [h]
theorem items_ok {b d : Nat} {v : D} (hb : b ≤ 1000) (h : Nice b d v) (n : Int) : ∃ k, m_is_items [v, .int n] = some (.bool k) ∧ m__law_items [v, .int n] = some (.bool k) := by
  have hnum := numbers_ok h
  cases h with
  | tup h1 h2 =>
    rename_i d ds
    by_cases q : ds.all isI = true
    · obtain ⟨l, rfl⟩ := isI_all q
      rw [List.length_map] at h1
      have hup := rises_ok .int ltI 0 l (by omega) ltI_up
      have e1' : m_is_items [.tuple (l.map .int), .int n] = some (.bool (upB ltI 0 l && l.all (inB n))) := by
        refine run_rt rfl (ret_go ?_)
        have ha : (e1 allD (eLc [2] (iSeq (eVar 0)) (TL.gName 2) cYes (eChain leD ltD (eC (.int 0)) (eVar 2) (eVar 1)))) [some (.tuple (l.map .int)), some (.int n), none] = some (.bool (l.all (inB n))) := by
          refine e1_go (lc_go rfl (lc_map .int .bool (inB n) fun a ha => ⟨_, rfl, chain_in rfl rfl⟩)) ?_
          rw [all_b, List.all_map]
          rfl
        simp only [eAnd, eCall, eArgs, eVar, List.map_cons, List.map_nil, List.replicate, List.cons_append, List.nil_append, List.getD_cons_zero, Option.bind_some, Option.map_some, hnum, numB, q, toB, if_true, hup]
        cases upB ltI 0 l
        · rfl
        · simp only [if_true, Bool.true_and]
          exact ha
      refine ⟨_, e1', ?_⟩
      have hc : ∀ a : Int, (TL.tOr (TL.tNot (tV (eCall m__law_is_int [(eVar 3)]))) (TL.tNot (tV (eChain leD ltD (eC (.int 0)) (eVar 3) (eVar 1))))) [some (.tuple (l.map .int)), some (.int n), none, some (.int a)] = some (!inB n a) := by
        intro a
        have hi : m__law_is_int [.int a] = some (.bool true) := rfl
        have hch := chain_in (env := [some (.tuple (l.map .int)), some (.int n), none, some (.int a)]) (i := 3) (j := 1) rfl rfl
        simp only [TL.tOr, TL.tNot, tV, hch, eCall, eArgs, eVar, List.getD_cons_zero, List.getD_cons_succ, Option.bind_some, Option.map_some, hi, toB, Bool.not_true, Bool.false_eq_true, if_false]
      have hlc := lc_go (vs := [3]) (it := iSeq (eVar 0)) (env := [some (.tuple (l.map .int)), some (.int n), none, none]) rfl (lc_filter (g := TL.gName 3) (e := eVar 3) .int .int (fun a => !inB n a) id fun a ha => ⟨_, rfl, hc a, fun _ => rfl⟩)
      have hg := some_of (inB n) id PyData.int l
      refine run_rt rfl ?_
      cases q2 : l.all (inB n)
      · refine seq_rt (if_t ?_ (ret_go (by rw [Bool.and_false]; rfl)))
        rw [q2] at hg
        simp only [TL.tOr, TL.tNot, tV, e2, e1, eVar, List.map_cons, List.map_nil, List.replicate, List.cons_append, List.nil_append, List.getD_cons_zero, Option.bind_some, isiD, isTy, toB, Option.map_some, Bool.not_true, Bool.false_eq_true, if_false, hlc, len_l, eC, gt_i, hg, Bool.not_false]
      · refine seq_go (if_f ?_ rfl) (ret_go ?_)
        · rw [q2] at hg
          simp only [TL.tOr, TL.tNot, tV, e2, e1, eVar, List.map_cons, List.map_nil, List.replicate, List.cons_append, List.nil_append, List.getD_cons_zero, Option.bind_some, isiD, isTy, toB, Option.map_some, Bool.not_true, Bool.false_eq_true, if_false, hlc, len_l, eC, gt_i, hg, Bool.not_false]
        · rw [Bool.and_true]
          exact falls_ok .int ltI 0 l (by omega) geI_up (fun d => rfl) rfl (fun d => rfl)
    · have q' : ds.all isI = false := by simpa using q
      refine ⟨false, ?_, ?_⟩
      · refine run_rt rfl (ret_go ?_)
        simp only [eAnd, eCall, eArgs, eVar, List.map_cons, List.map_nil, List.replicate, List.cons_append, List.nil_append, List.getD_cons_zero, Option.bind_some, Option.map_some, hnum, numB, q', toB, Bool.false_eq_true, if_false]
      · -- some item is no number
        let bad : D → Bool := fun x => match x with | .int a => !inB n a | _ => true
        have hlc := lc_go (vs := [3]) (it := iSeq (eVar 0)) (env := [some (.tuple ds), some (.int n), none, none]) (ds := ds.map id) (by rw [List.map_id]; rfl) (lc_filter (g := TL.gName 3) (c := TL.tOr (TL.tNot (tV (eCall m__law_is_int [(eVar 3)]))) (TL.tNot (tV (eChain leD ltD (eC (.int 0)) (eVar 3) (eVar 1))))) (e := eVar 3) id id bad id fun x hx => ⟨_, rfl, by
          have hi := lint_ok (h2 x hx)
          simp only [TL.tOr, TL.tNot, tV, eCall, eArgs, eVar, wipeE, id, List.set_cons_zero, List.set_cons_succ, List.getD_cons_zero, List.getD_cons_succ, Option.bind_some, Option.map_some, hi, toB]
          cases h2 x hx <;> simp only [isI, bad, Bool.not_true, Bool.not_false, Bool.false_eq_true, if_false, if_true]
          rename_i a _
          rw [chain_in (a := a) (n := n) rfl rfl]
          rfl, fun _ => rfl⟩)
        have hne : ∃ x ∈ ds, bad x = true := by
          have : ∃ x ∈ ds, ¬ isI x = true := by simpa using q
          obtain ⟨x, hx, hi⟩ := this
          refine ⟨x, hx, ?_⟩
          cases x <;> first | rfl | exact absurd rfl hi
        have hg : (0 : Int) < ((((ds.filter bad).map id).map id).length : Int) := by
          obtain ⟨x, hx, hi⟩ := hne
          rw [List.map_id, List.map_id]
          have : 0 < (ds.filter bad).length := List.length_pos_of_mem (List.mem_filter.mpr ⟨hx, hi⟩)
          omega
        refine run_rt rfl (seq_rt (if_t ?_ (ret_go rfl)))
        simp only [TL.tOr, TL.tNot, tV, e2, e1, eVar, List.map_cons, List.map_nil, List.replicate, List.cons_append, List.nil_append, List.getD_cons_zero, Option.bind_some, isiD, isTy, toB, Option.map_some, Bool.not_true, Bool.false_eq_true, if_false, hlc, len_l, eC, gt_i, decide_eq_true hg]
  | _ => exact ⟨false, rfl, rfl⟩
end LB

set_option Elab.async false
set_option linter.all false
set_option maxRecDepth 100000
/-! Law k01: is_world of any value against the law's own reading. -/
namespace LB
open PySem TL
local macro_rules | `(tactic| walk_at "ev") => `(tactic| simp only [List.length_cons, List.length_nil, if_true, List.map_cons, List.map_nil, List.replicate, List.cons_append, List.nil_append, sSeq, sAsg, eLst, eTup, eArgs, Option.bind_some, Option.map_some, eC, eVar, eCall, e1, e2, eIf, eAnd, eOr, eNot, eChain, TL.gName, TL.gTup, gAll, List.getD_cons_zero, List.getD_cons_succ, List.set_cons_zero, List.set_cons_succ, sFor, iRng1, iRng2, iSeq, itemsD, toI, toB, sIf, sRet, sNext, tV, TL.tAnd, TL.tOr, TL.tNot, add_i, sub_i, lt_i, le_i, gt_i, ge_i, eq_i, ne_i, int_i, len_l, len_t, tuple_l, tuple_t, list_l, list_t, outD, Bool.false_eq_true, if_false, sApp, Nat.zero_le, wipeE, cYes, eSlice, ePart])
def isPr : D → Bool
  | .tuple ds => ds.all isI && decide ((ds.length : Int) = 2)
  | _ => false
theorem isPr_of {x : D} (h : isPr x = true) : ∃ p : Int × Int, x = prD p := by
  cases x with
  | tuple ds =>
    have h : (ds.all isI && decide ((ds.length : Int) = 2)) = true := h
    rw [Bool.and_eq_true] at h
    obtain ⟨l, rfl⟩ := isI_all h.1
    have h2 := of_decide_eq_true h.2
    rw [List.length_map] at h2
    match l, h2 with
    | [a, b], _ => exact ⟨(a, b), rfl⟩
    | [], h2 => exact absurd h2 (by decide)
    | [_], h2 => exact absurd h2 (by simp)
    | _ :: _ :: _ :: _, h2 => simp only [List.length_cons] at h2; omega
  | _ => simp [isPr] at h
theorem isPr_all : ∀ {ds : List D}, ds.all isPr = true → ∃ l : List (Int × Int), ds = l.map prD
  | [], _ => ⟨[], rfl⟩
  | x :: r, h => by
    have h := List.all_cons ▸ h
    rw [Bool.and_eq_true] at h
    obtain ⟨l, rfl⟩ := isPr_all h.2
    obtain ⟨p, rfl⟩ := isPr_of h.1
    exact ⟨p :: l, rfl⟩
theorem isPr_prD (p : Int × Int) : isPr (prD p) = true := rfl
theorem isPr_allD (l : List (Int × Int)) : (l.map prD).all isPr = true := by
  rw [List.all_map]
  exact List.all_eq_true.mpr fun _ _ => rfl
def ltQ (p q : Int × Int) : Bool := lexLt [p.1, p.2] [q.1, q.2]
theorem ltQ_up (p q : Int × Int) : ltD (prD p) (prD q) = some (.bool (ltQ p q)) := rfl
theorem geQ_up (p q : Int × Int) : geD (prD p) (prD q) = some (.bool (!ltQ p q)) := rfl
theorem is_pairs_ok {b d : Nat} {v : D} (hb : b ≤ 1000) (h : Nice b d v) : (∀ l : List (Int × Int), v = .tuple (l.map prD) → m_is_pairs [v] = some (.bool (upB ltQ (0, 0) l))) ∧ ((∀ l : List (Int × Int), v ≠ .tuple (l.map prD)) → m_is_pairs [v] = some (.bool false)) := by
  cases h with
  | tup h1 h2 =>
    rename_i d ds
    have hq : (TL.tOr (TL.tNot (tV (e1 (isiD .tuple) (eVar 0)))) (TL.tNot (tV (e1 allD (eLc [1] (iSeq (eVar 0)) (TL.gName 1) cYes (eAnd (eCall m_is_numbers [(eVar 1)]) (e2 eqD (e1 lenD (eVar 1)) (eC (.int 2))))))))) [some (.tuple ds), none] = some (!ds.all isPr) := by
      have hlc := lc_map (g := TL.gName 1) (e := eAnd (eCall m_is_numbers [(eVar 1)]) (e2 eqD (e1 lenD (eVar 1)) (eC (.int 2)))) (env := wipeE [some (.tuple ds), none] [1]) id PyData.bool isPr (zs := ds) fun x hx => ⟨_, rfl, by
        have hn := numbers_ok (h2 x hx)
        simp only [eAnd, eCall, eArgs, eVar, wipeE, List.set_cons_zero, List.set_cons_succ, List.getD_cons_zero, List.getD_cons_succ, Option.bind_some, Option.map_some, id, hn]
        cases h2 x hx with
        | tup h3 h4 =>
          rename_i es
          simp only [numB, isPr, toB, Option.bind_some]
          cases es.all isI
          · simp
          · simp only [if_true, e2, e1, eVar, List.getD_cons_zero, List.getD_cons_succ, Option.bind_some, len_t, eC, eq_i, Bool.true_and]
        | _ => rfl⟩
      rw [List.map_id] at hlc
      have hl2 := lc_go (vs := [1]) (it := iSeq (eVar 0)) rfl hlc
      have ha : allD (.list ((ds.map isPr).map .bool)) = some (.bool (ds.all isPr)) := by
        rw [all_b, List.all_map]
        rfl
      simp only [TL.tOr, TL.tNot, tV, e1, eVar, List.getD_cons_zero, Option.bind_some, isiD, isTy, toB, Option.map_some, Bool.not_true, Bool.false_eq_true, if_false, hl2, ha]
    refine ⟨fun l e => ?_, fun hn => ?_⟩
    · injection e with e
      subst e
      rw [List.length_map] at h1
      rw [isPr_allD] at hq
      refine run_rt rfl (seq_go (if_f hq rfl) (ret_go ?_))
      walk_at "ev"
      exact rises_ok prD ltQ (0, 0) l (by omega) ltQ_up
    · have : ds.all isPr = false := by
        cases q : ds.all isPr with
        | false => rfl
        | true =>
          obtain ⟨l, rfl⟩ := isPr_all q
          exact absurd rfl (hn l)
      rw [this] at hq
      exact run_rt rfl (seq_rt (if_t hq (ret_go rfl)))
  | _ => exact ⟨fun l e => (by cases e), fun _ => rfl⟩
theorem numbers_in_ok {b d : Nat} {v : D} (h : Nice b d v) : m__law_numbers_in [v, .int 2] = some (.bool (isPr v)) := by
  cases h with
  | tup h1 h2 =>
    rename_i d ds
    by_cases q : (ds.length : Int) = 2
    · have hlc := lc_go (vs := [2]) (it := iSeq (eVar 0)) (env := [some (.tuple ds), some (.int 2), none]) (ds := ds.map id) (by rw [List.map_id]; rfl) (lc_filter (g := TL.gName 2) (c := TL.tNot (tV (eCall m__law_is_int [(eVar 2)]))) (e := eVar 2) id id (fun x => !isI x) id fun x hx => ⟨_, rfl, by
        have hi := lint_ok (h2 x hx)
        simp only [TL.tNot, tV, eCall, eArgs, eVar, wipeE, id, List.set_cons_zero, List.set_cons_succ, List.getD_cons_zero, List.getD_cons_succ, Option.bind_some, Option.map_some, hi, toB], fun _ => rfl⟩)
      refine run_rt rfl (seq_go (if_f ?_ rfl) (ret_go (e2_go (e1_go hlc (len_l _)) rfl ?_)))
      · walk_at "ev"
        simp only [isiD, isTy, Option.bind_some, toB, Option.map_some, Bool.not_true, Bool.false_eq_true, if_false, q, decide_true]
      · rw [eq_i]
        have := none_of isI id (id : D → D) ds
        rw [this]
        simp only [isPr, q, decide_true, Bool.and_true]
    · refine run_rt rfl (seq_rt (if_t ?_ (ret_go ?_)))
      · walk_at "ev"
        simp only [isiD, isTy, Option.bind_some, toB, Option.map_some, Bool.not_true, Bool.false_eq_true, if_false, q, decide_false, Bool.not_false]
      · simp only [isPr, q, decide_false, Bool.and_false, eC]
  | _ => rfl
/-- a loop that answers False at the first item that is no good -/
theorem for_all {g : SG} {body : SS} (I : TL.Env → Prop) (P : D → Bool) (r : D) : ∀ (xs : List D) (env : TL.Env), I env →
    (∀ x ∈ xs, ∀ env, I env → ∃ e1, g x env = some e1 ∧ ((P x = true ∧ ∃ e2, body e1 = some (.nx e2) ∧ I e2) ∨ (P x = false ∧ body e1 = some (.rt r)))) →
    (xs.all P = true ∧ ∃ e, forGo g body xs env = some (.nx e) ∧ I e) ∨ (xs.all P = false ∧ forGo g body xs env = some (.rt r))
  | [], env, h, _ => .inl ⟨rfl, env, rfl, h⟩
  | x :: xs, env, h, step => by
    obtain ⟨e1, h1, h2⟩ := step x List.mem_cons_self env h
    rcases h2 with ⟨hp, e2, h3, h4⟩ | ⟨hp, h3⟩
    · rcases for_all I P r xs e2 h4 fun y hy => step y (List.mem_cons_of_mem _ hy) with ⟨ha, e, h5, h6⟩ | ⟨ha, h5⟩
      · exact .inl ⟨by rw [List.all_cons, hp, ha]; rfl, e, by simp only [forGo, h1, Option.bind_some, h3, h5], h6⟩
      · exact .inr ⟨by rw [List.all_cons, hp, ha]; rfl, by simp only [forGo, h1, Option.bind_some, h3, h5]⟩
    · exact .inr ⟨by rw [List.all_cons, hp]; rfl, by simp only [forGo, h1, Option.bind_some, h3]⟩
def prIn (n : Int) (p : Int × Int) : Bool := inB n p.1 && inB n p.2
def goodPr (n : Int) : D → Bool
  | .tuple [.int a, .int b] => prIn n (a, b)
  | _ => false
theorem chain_ix {env : TL.Env} {i j : Nat} {a n k : Int} {v : D} (h1 : env.getD i none = some v) (h0 : ixD v (.int k) = some (.int a)) (h2 : env.getD j none = some (.int n)) : eChain leD ltD (eC (.int 0)) (e2 ixD (eVar i) (eC (.int k))) (eVar j) env = some (.bool (inB n a)) := by
  simp only [eChain, e2, eC, eVar, h1, h2, h0, Option.bind_some, le_i, toB, lt_i, inB]
  by_cases h : 0 ≤ a <;> simp [h]
theorem law_pairs_ok {b d : Nat} {v : D} (hb : b ≤ 1000) (h : Nice b d v) (n : Int) : (∀ l : List (Int × Int), v = .tuple (l.map prD) → m__law_pairs [v, .int n, .int n] = some (.bool (l.all (prIn n) && upB ltQ (0, 0) l))) ∧ ((∀ l : List (Int × Int), v ≠ .tuple (l.map prD)) → m__law_pairs [v, .int n, .int n] = some (.bool false)) := by
  cases h with
  | tup h1 h2 =>
    rename_i d ds
    have hfor := for_all (g := TL.gName 3) (body := (sIf (TL.tOr (TL.tNot (tV (eCall m__law_numbers_in [(eVar 3), (eC (.int 2))]))) (TL.tOr (TL.tNot (tV (eChain leD ltD (eC (.int 0)) (e2 ixD (eVar 3) (eC (.int 0))) (eVar 1)))) (TL.tNot (tV (eChain leD ltD (eC (.int 0)) (e2 ixD (eVar 3) (eC (.int 1))) (eVar 2))))))
      (sRet (eC (.bool false)))
      sNext)) (fun env => ∃ e3, env = [some (.tuple ds), some (.int n), some (.int n), e3, none]) (goodPr n) (.bool false) ds [some (.tuple ds), some (.int n), some (.int n), none, none] ⟨_, rfl⟩ (by
      rintro x hx env ⟨e3, rfl⟩
      refine ⟨[some (.tuple ds), some (.int n), some (.int n), some x, none], rfl, ?_⟩
      have hn := numbers_in_ok (h2 x hx)
      cases q : isPr x with
      | false =>
        rw [q] at hn
        refine .inr ⟨?_, if_t ?_ (ret_go rfl)⟩
        · cases e : goodPr n x with
          | false => rfl
          | true =>
            unfold goodPr at e
            split at e
            · rename_i a c
              exact Bool.noConfusion ((isPr_prD (a, c)).symm.trans q)
            · exact absurd e (by decide)
        · simp only [TL.tOr, TL.tNot, tV, eCall, eArgs, eVar, eC, List.getD_cons_zero, List.getD_cons_succ, Option.bind_some, Option.map_some, hn, toB, Bool.not_false, if_true]
      | true =>
        rw [q] at hn
        obtain ⟨⟨a, c⟩, rfl⟩ := isPr_of q
        have hg : goodPr n (prD (a, c)) = (inB n a && inB n c) := rfl
        have ht : (TL.tOr (TL.tNot (tV (eCall m__law_numbers_in [(eVar 3), (eC (.int 2))]))) (TL.tOr (TL.tNot (tV (eChain leD ltD (eC (.int 0)) (e2 ixD (eVar 3) (eC (.int 0))) (eVar 1)))) (TL.tNot (tV (eChain leD ltD (eC (.int 0)) (e2 ixD (eVar 3) (eC (.int 1))) (eVar 2)))))) [some (.tuple ds), some (.int n), some (.int n), some (prD (a, c)), none] = some (!(inB n a && inB n c)) := by
          have c1 := chain_ix (env := [some (.tuple ds), some (.int n), some (.int n), some (prD (a, c)), none]) (i := 3) (j := 1) (k := 0) (a := a) (n := n) rfl rfl rfl
          have c2 := chain_ix (env := [some (.tuple ds), some (.int n), some (.int n), some (prD (a, c)), none]) (i := 3) (j := 2) (k := 1) (a := c) (n := n) rfl rfl rfl
          simp only [TL.tOr, TL.tNot, tV, c1, c2, eCall, eArgs, eVar, eC, List.getD_cons_zero, List.getD_cons_succ, Option.bind_some, Option.map_some, hn, toB, Bool.not_true, Bool.false_eq_true, if_false]
          cases inB n a <;> cases inB n c <;> rfl
        cases e : inB n a && inB n c with
        | true =>
          rw [e] at ht
          exact .inl ⟨by rw [hg, e], _, if_f ht rfl, _, rfl⟩
        | false =>
          rw [e] at ht
          exact .inr ⟨by rw [hg, e], if_t ht (ret_go rfl)⟩)
    have hif : ∀ k, sIf (TL.tNot (tV (e1 (isiD .tuple) (eVar 0)))) (sRet (eC (.bool false))) sNext [some (.tuple ds), some (.int n), some (.int n), k, none] = some (.nx [some (.tuple ds), some (.int n), some (.int n), k, none]) := fun k => if_f rfl rfl
    refine ⟨fun l e => ?_, fun hn => ?_⟩
    · injection e with e
      subst e
      rw [List.length_map] at h1
      have hall : (l.map prD).all (goodPr n) = l.all (prIn n) := by
        rw [List.all_map]
        rfl
      rw [hall] at hfor
      rcases hfor with ⟨ha, e, hf, e3, rfl⟩ | ⟨ha, hf⟩
      · refine run_rt rfl (seq_go (hif _) (seq_go (for_go rfl hf) (ret_go ?_)))
        rw [ha, Bool.true_and]
        exact falls_ok prD ltQ (0, 0) l (by omega) geQ_up (fun d => rfl) rfl (fun d => rfl)
      · refine run_rt rfl (seq_go (hif _) (seq_rt (for_go rfl ?_)))
        rw [ha, Bool.false_and]
        exact hf
    · rcases hfor with ⟨ha, _⟩ | ⟨ha, hf⟩
      · obtain ⟨l, e⟩ := isPr_all (ds := ds) (List.all_eq_true.mpr fun x hx => by
          have := List.all_eq_true.mp ha x hx
          unfold goodPr at this
          split at this
          · rfl
          · exact absurd this (by decide))
        exact absurd (congrArg PyData.tuple e) (hn l)
      · exact run_rt rfl (seq_go (hif _) (seq_rt (for_go rfl hf)))
  | _ => exact ⟨fun l e => (by cases e), fun _ => rfl⟩
/-- both items of each pair -/
theorem lc2_ok {n : Int} {m v : D} (ev : Option D) : ∀ l : List (Int × Int), ∃ bs : List Bool, lcGo2 (TL.gName 4) cYes (iSeq (eVar 4)) [5] (TL.gName 5) cYes (eChain leD ltD (eC (.int 0)) (eVar 5) (eVar 1)) [some v, some (.int n), some m, ev, none, none, none] (l.map prD) = some (bs.map .bool) ∧ bs.length = 2 * l.length ∧ bs.all id = l.all (prIn n)
  | [] => ⟨[], rfl, rfl, rfl⟩
  | (a, c) :: r => by
    obtain ⟨bs, h1, h2, h3⟩ := lc2_ok (n := n) (m := m) (v := v) ev r
    refine ⟨inB n a :: inB n c :: bs, ?_, by simp only [List.length_cons, h2]; omega, by rw [List.all_cons, List.all_cons, List.all_cons, h3, ← Bool.and_assoc]; rfl⟩
    have c1 : ∀ x : Int, eChain leD ltD (eC (.int 0)) (eVar 5) (eVar 1) [some v, some (.int n), some m, ev, some (prD (a, c)), some (.int x), none] = some (.bool (inB n x)) := fun x => chain_in rfl rfl
    have c2 : lcGo (TL.gName 5) cYes (eChain leD ltD (eC (.int 0)) (eVar 5) (eVar 1)) [some v, some (.int n), some m, ev, some (prD (a, c)), none, none] [.int a, .int c] = some [.bool (inB n a), .bool (inB n c)] := by
      have := lc_map (g := TL.gName 5) (e := eChain leD ltD (eC (.int 0)) (eVar 5) (eVar 1)) (env := [some v, some (.int n), some m, ev, some (prD (a, c)), none, none]) PyData.int PyData.bool (inB n) (zs := [a, c]) fun x _ => ⟨_, rfl, c1 x⟩
      exact this
    have c3 : iSeq (eVar 4) [some v, some (.int n), some m, ev, some (prD (a, c)), none, none] = some [.int a, .int c] := rfl
    have c4 : wipeE [some v, some (.int n), some m, ev, some (prD (a, c)), none, none] [5] = [some v, some (.int n), some m, ev, some (prD (a, c)), none, none] := rfl
    have c5 : TL.gName 4 (prD (a, c)) [some v, some (.int n), some m, ev, none, none, none] = some [some v, some (.int n), some m, ev, some (prD (a, c)), none, none] := rfl
    rw [List.map_cons, lcGo2, c5, Option.bind_some, c3]
    simp only [Option.bind_some, cYes, if_true]
    rw [c4, c2]
    simp only [Option.bind_some, h1, Option.map_some]
    rfl
end LB

set_option Elab.async false
set_option linter.all false
set_option maxRecDepth 100000
/-! Law k01: is_world of any value against the law's own reading. -/
namespace LB
open PySem TL
local macro_rules | `(tactic| walk_at "ev") => `(tactic| simp only [List.length_cons, List.length_nil, if_true, List.map_cons, List.map_nil, List.replicate, List.cons_append, List.nil_append, sSeq, sAsg, eLst, eTup, eArgs, Option.bind_some, Option.map_some, eC, eVar, eCall, e1, e2, eIf, eAnd, eOr, eNot, eChain, TL.gName, TL.gTup, gAll, List.getD_cons_zero, List.getD_cons_succ, List.set_cons_zero, List.set_cons_succ, sFor, iRng1, iRng2, iSeq, itemsD, toI, toB, sIf, sRet, sNext, tV, TL.tAnd, TL.tOr, TL.tNot, add_i, sub_i, lt_i, le_i, gt_i, ge_i, eq_i, ne_i, int_i, len_l, len_t, tuple_l, tuple_t, list_l, list_t, outD, Bool.false_eq_true, if_false, sApp, Nat.zero_le, wipeE, cYes, eSlice, ePart])
theorem from_ok (n : Int) : m_is_from [.int n, .int 1, .int 8] = some (.bool (decide (1 ≤ n) && decide (n ≤ 8))) := by
  refine run_rt rfl (ret_go ?_)
  simp only [eAnd, eCall, eArgs, eVar, List.map_cons, List.map_nil, List.replicate, List.cons_append, List.nil_append, List.getD_cons_zero, Option.bind_some, Option.map_some, whole_ok (.int (Nat.le_refl _) : Nice n.natAbs 0 (.int n)), isI, toB, if_true, eChain, List.getD_cons_succ, le_i]
  by_cases h : 1 ≤ n <;> simp [h]
theorem from_no {b d : Nat} {v : D} (h : Nice b d v) (q : isI v = false) : m_is_from [v, .int 1, .int 8] = some (.bool false) := by
  refine run_rt rfl (ret_go ?_)
  simp only [eAnd, eCall, eArgs, eVar, List.map_cons, List.map_nil, List.replicate, List.cons_append, List.nil_append, List.getD_cons_zero, Option.bind_some, Option.map_some, whole_ok h, q, toB, Bool.false_eq_true, if_false]
theorem two_of {α : Type} {l : List α} (h : (l.length : Int) = 2) : ∃ x y, l = [x, y] := by
  match l, h with
  | [x, y], _ => exact ⟨x, y, rfl⟩
  | [], h => exact absurd h (by simp)
  | [_], h => exact absurd h (by simp)
  | _ :: _ :: _ :: _, h => simp only [List.length_cons] at h; omega
theorem three_of {α : Type} {l : List α} (h : (l.length : Int) = 3) : ∃ x y z, l = [x, y, z] := by
  match l, h with
  | [x, y, z], _ => exact ⟨x, y, z, rfl⟩
  | [], h => exact absurd h (by simp)
  | [_], h => exact absurd h (by simp)
  | [_, _], h => exact absurd h (by simp)
  | _ :: _ :: _ :: _ :: _, h => simp only [List.length_cons] at h; omega
theorem told {b d : Nat} {v : D} (hb : b ≤ 1000) (h : Nice b d v) : ∃ k, m_is_world [v] = some (.bool k) ∧ m__law_is_world [v] = some (.bool k) := by
  cases h with
  | tup h1 h2 =>
    rename_i d ds
    by_cases q3 : (ds.length : Int) = 3
    · obtain ⟨a, m, r, rfl⟩ := three_of q3
      have na := h2 a (by simp)
      have nm := h2 m (by simp)
      have nr := h2 r (by simp)
      have x0 : ixD (.tuple [a, m, r]) (.int 0) = some a := rfl
      have x1 : ixD (.tuple [a, m, r]) (.int 1) = some m := rfl
      have x2 : ixD (.tuple [a, m, r]) (.int 2) = some r := rfl
      have ty : isiD .tuple (.tuple [a, m, r]) = some (.bool true) := rfl
      have l3 : ((0 + 1 + 1 + 1 : Nat) : Int) = 3 := rfl
      cases qa : isI a with
      | false =>
        refine ⟨false, run_rt rfl (seq_rt (if_t ?_ (ret_go rfl))), run_rt rfl (seq_rt (if_t ?_ (ret_go rfl)))⟩
        · walk_at "ev"
          simp only [ty, Option.bind_some, toB, Option.map_some, Bool.not_true, Bool.false_eq_true, if_false, l3, decide_true, x0, from_no na qa, Bool.not_false]
        · walk_at "ev"
          simp only [ty, Option.bind_some, toB, Option.map_some, Bool.not_true, Bool.false_eq_true, if_false, l3, decide_true, x0, lint_ok na, qa, Bool.not_false, if_true]
      | true =>
        obtain ⟨n, rfl⟩ : ∃ n, a = .int n := by cases a <;> first | exact ⟨_, rfl⟩ | exact Bool.noConfusion qa
        by_cases qn : 1 ≤ n ∧ n ≤ 8
        · have s1 : ∀ rest : SS, sSeq (sIf (TL.tOr (TL.tNot (tV (e1 (isiD .tuple) (eVar 0)))) (TL.tOr (tV (e2 neD (e1 lenD (eVar 0)) (eC (.int 3)))) (TL.tNot (tV (eCall m_is_from [(e2 ixD (eVar 0) (eC (.int 0))), (eC (.int 1)), (eC (.int 8))])))))
              (sRet (eC (.bool false))) sNext) rest [some (.tuple [.int n, m, r]), none, none, none, none, none, none] = rest [some (.tuple [.int n, m, r]), none, none, none, none, none, none] := fun rest => seq_go (if_f (by
            walk_at "ev"
            simp only [ty, Option.bind_some, toB, Option.map_some, Bool.not_true, Bool.false_eq_true, if_false, l3, decide_true, x0, from_ok, decide_eq_true qn.1, decide_eq_true qn.2, Bool.and_self]) rfl) rfl
          have s2 : ∀ rest : SS, sSeq (sIf (TL.tOr (TL.tNot (tV (e1 (isiD .tuple) (eVar 0)))) (TL.tOr (tV (e2 neD (e1 lenD (eVar 0)) (eC (.int 3)))) (TL.tOr (TL.tNot (tV (eCall m__law_is_int [(e2 ixD (eVar 0) (eC (.int 0)))]))) (TL.tNot (tV (eChain leD leD (eC (.int 1)) (e2 ixD (eVar 0) (eC (.int 0))) (eC (.int 8))))))))
              (sRet (eC (.bool false))) sNext) rest [some (.tuple [.int n, m, r]), none] = rest [some (.tuple [.int n, m, r]), none] := fun rest => seq_go (if_f (by
            walk_at "ev"
            simp only [ty, Option.bind_some, toB, Option.map_some, Bool.not_true, Bool.false_eq_true, if_false, l3, decide_true, x0, lint_ok na, isI, if_true, le_i, decide_eq_true qn.1, decide_eq_true qn.2]) rfl) rfl
          let E := [some (PyData.tuple [.int n, m, r]), some (.int n), some m, some r, none, none, none]
          have a1 : sAsg (eVar 0) (TL.gTup [(TL.gName 1), (TL.gName 2), (TL.gName 3)]) [some (.tuple [.int n, m, r]), none, none, none, none, none, none] = some (.nx E) := rfl
          -- a test that the marks are good, then the arrows
          have fin : ∀ k : Bool, (TL.tOr (TL.tNot (tV (e1 (isiD .tuple) (eVar 2)))) (TL.tOr (tV (e2 neD (e1 lenD (eVar 2)) (eC (.int 2)))) (TL.tNot (tV (e1 allD (eLc [6] (iSeq (eVar 2)) (TL.gName 6) cYes (eCall m_is_items [(eVar 6), (eVar 1)]))))))) E = some (!k) →
              (TL.tOr (TL.tNot (tV (e1 (isiD .tuple) (e2 ixD (eVar 0) (eC (.int 1)))))) (TL.tOr (tV (e2 neD (e1 lenD (e2 ixD (eVar 0) (eC (.int 1)))) (eC (.int 2)))) (tV (e2 gtD (e1 lenD (eLc [1] (iSeq (e2 ixD (eVar 0) (eC (.int 1)))) (TL.gName 1) (TL.tNot (tV (eCall m__law_items [(eVar 1), (e2 ixD (eVar 0) (eC (.int 0)))]))) (eVar 1))) (eC (.int 0)))))) [some (.tuple [.int n, m, r]), none] = some (!k) →
              ∃ k, m_is_world [.tuple [.int n, m, r]] = some (.bool k) ∧ m__law_is_world [.tuple [.int n, m, r]] = some (.bool k) := by
            intro k t1 t2
            cases k with
            | false => exact ⟨false, run_rt rfl ((s1 _).trans (seq_go a1 (seq_rt (if_t t1 (ret_go rfl))))), run_rt rfl ((s2 _).trans (seq_rt (if_t t2 (ret_go rfl))))⟩
            | true =>
              have p1 := is_pairs_ok hb nr
              have p2 := law_pairs_ok hb nr n
              by_cases ql : ∃ l : List (Int × Int), r = .tuple (l.map prD)
              · obtain ⟨l, rfl⟩ := ql
                have hlen : l.length ≤ 1000 := by
                  cases nr with
                  | tup h3 h4 => rw [List.length_map] at h3; omega
                refine ⟨upB ltQ (0, 0) l && l.all (prIn n), run_rt rfl ((s1 _).trans (seq_go a1 (seq_go (if_f t1 rfl) (ret_go ?_)))), run_rt rfl ((s2 _).trans (seq_go (if_f t2 rfl) (ret_go ?_)))⟩
                · have e0 : eCall m_is_pairs [(eVar 3)] E = some (.bool (upB ltQ (0, 0) l)) := p1.1 l rfl
                  obtain ⟨bs, b1, b2, b3⟩ := lc2_ok (n := n) (m := m) (v := .tuple [.int n, m, .tuple (l.map prD)]) (some (.tuple (l.map prD))) l
                  have e1' : (e1 allD (eLc2 [4, 5] (iSeq (eVar 3)) (TL.gName 4) cYes [5] (iSeq (eVar 4)) (TL.gName 5) cYes (eChain leD ltD (eC (.int 0)) (eVar 5) (eVar 1)))) E = some (.bool (l.all (prIn n))) := by
                    refine e1_go (x := .list (bs.map .bool)) ?_ (by rw [all_b, b3])
                    simp only [eLc2]
                    rw [show iSeq (eVar 3) E = some (l.map prD) from rfl, Option.bind_some]
                    rw [show wipeE E [4, 5] = [some (.tuple [.int n, m, .tuple (l.map prD)]), some (.int n), some m, some (.tuple (l.map prD)), none, none, none] from rfl, b1, Option.bind_some, if_pos]
                    rw [List.length_map, b2]
                    exact small (by omega)
                  simp only [eAnd]
                  rw [e0]
                  simp only [Option.bind_some, toB]
                  cases upB ltQ (0, 0) l
                  · rfl
                  · simp only [if_true, Bool.true_and]
                    exact e1'
                · simp only [eCall, eArgs, e2, eVar, eC, List.getD_cons_zero, Option.bind_some, Option.map_some, x0, x2]
                  rw [p2.1 l rfl, Bool.and_comm]
              · have hn : ∀ l : List (Int × Int), r ≠ .tuple (l.map prD) := fun l e => ql ⟨l, e⟩
                refine ⟨false, run_rt rfl ((s1 _).trans (seq_go a1 (seq_go (if_f t1 rfl) (ret_go ?_)))), run_rt rfl ((s2 _).trans (seq_go (if_f t2 rfl) (ret_go ?_)))⟩
                · have e0 : eCall m_is_pairs [(eVar 3)] E = some (.bool false) := p1.2 hn
                  simp only [eAnd]
                  rw [e0]
                  rfl
                · simp only [eCall, eArgs, e2, eVar, eC, List.getD_cons_zero, Option.bind_some, Option.map_some, x0, x2]
                  exact p2.2 hn
          cases nm with
          | tup h3 h4 =>
            rename_i d ms
            by_cases q2 : (ms.length : Int) = 2
            · obtain ⟨x, y, rfl⟩ := two_of q2
              obtain ⟨kx, i1, i2⟩ := items_ok hb (h4 x (by simp)) n
              obtain ⟨ky, j1, j2⟩ := items_ok hb (h4 y (by simp)) n
              refine fin (kx && ky) ?_ ?_
              · have hl : eLc [6] (iSeq (eVar 2)) (TL.gName 6) cYes (eCall m_is_items [(eVar 6), (eVar 1)]) E = some (.list ([kx, ky].map .bool)) := by
                  refine lc_go (ds := [x, y]) rfl ?_
                  simp only [E, lcGo]
                  walk_at "ev"
                  simp only [i1, j1, Option.bind_some, Option.map_some]
                have ha : allD (.list ([kx, ky].map .bool)) = some (.bool (kx && ky)) := by
                  rw [all_b]
                  simp
                simp only [TL.tOr, TL.tNot, tV, e1, e2, hl, ha, Option.bind_some]
                rfl
              · have hl : eLc [1] (iSeq (e2 ixD (eVar 0) (eC (.int 1)))) (TL.gName 1) (TL.tNot (tV (eCall m__law_items [(eVar 1), (e2 ixD (eVar 0) (eC (.int 0)))]))) (eVar 1) [some (.tuple [.int n, .tuple [x, y], r]), none] = some (.list ((if kx then [] else [x]) ++ (if ky then [] else [y]))) := by
                  refine lc_go (ds := [x, y]) rfl ?_
                  simp only [lcGo]
                  walk_at "ev"
                  simp only [x0, i2, j2, Option.bind_some, Option.map_some, toB]
                  cases kx <;> cases ky <;> rfl
                simp only [TL.tOr, TL.tNot, tV, e1, e2, hl, Option.bind_some]
                cases kx <;> cases ky <;> rfl
            · refine fin false ?_ ?_
              · simp only [E]
                walk_at "ev"
                simp only [isiD, isTy, Option.bind_some, toB, Option.map_some, Bool.not_true, Bool.false_eq_true, if_false, q2, decide_false, Bool.not_false, if_true]
              · walk_at "ev"
                simp only [x1, isiD, isTy, Option.bind_some, toB, Option.map_some, Bool.not_true, Bool.false_eq_true, if_false, len_t, ne_i, q2, decide_false, Bool.not_false, if_true]
          | _ => exact fin false rfl rfl
        · refine ⟨false, run_rt rfl (seq_rt (if_t ?_ (ret_go rfl))), run_rt rfl (seq_rt (if_t ?_ (ret_go rfl)))⟩
          · have e : (decide (1 ≤ n) && decide (n ≤ 8)) = false := by
              cases q : decide (1 ≤ n) && decide (n ≤ 8) with
              | false => rfl
              | true =>
                rw [Bool.and_eq_true, decide_eq_true_eq, decide_eq_true_eq] at q
                exact absurd q qn
            walk_at "ev"
            simp only [ty, Option.bind_some, toB, Option.map_some, Bool.not_true, Bool.false_eq_true, if_false, l3, decide_true, x0, from_ok, e, Bool.not_false]
          · walk_at "ev"
            simp only [ty, Option.bind_some, toB, Option.map_some, Bool.not_true, Bool.false_eq_true, if_false, l3, decide_true, x0, lint_ok na, isI, if_true, le_i]
            by_cases q1 : 1 ≤ n
            · have q2 : ¬ n ≤ 8 := fun h => qn ⟨q1, h⟩
              simp only [q1, q2, decide_true, decide_false, if_true, Option.bind_some, toB, Option.map_some, Bool.not_false]
            · simp only [q1, decide_false, Bool.false_eq_true, if_false, Option.bind_some, toB, Option.map_some, Bool.not_false]
    · refine ⟨false, run_rt rfl (seq_rt (if_t ?_ (ret_go rfl))), run_rt rfl (seq_rt (if_t ?_ (ret_go rfl)))⟩ <;>
      · walk_at "ev"
        simp only [isiD, isTy, Option.bind_some, toB, Option.map_some, Bool.not_true, Bool.false_eq_true, if_false, q3, decide_false, Bool.not_false, if_true]
  | _ => exact ⟨false, rfl, rfl⟩
end LB

set_option Elab.async false
set_option linter.all false
set_option maxRecDepth 100000
/-! Law k01: bent values. -/
namespace LB
open PySem TL
local macro_rules | `(tactic| walk_at "ev") => `(tactic| simp only [List.length_cons, List.length_nil, if_true, List.map_cons, List.map_nil, List.replicate, List.cons_append, List.nil_append, sSeq, sAsg, eLst, eTup, eArgs, Option.bind_some, Option.map_some, eC, eVar, eCall, e1, e2, eIf, eAnd, eOr, eNot, eChain, TL.gName, TL.gTup, gAll, List.getD_cons_zero, List.getD_cons_succ, List.set_cons_zero, List.set_cons_succ, sFor, iRng1, iRng2, iSeq, itemsD, toI, toB, sIf, sRet, sNext, tV, TL.tAnd, TL.tOr, TL.tNot, add_i, sub_i, lt_i, le_i, gt_i, ge_i, eq_i, ne_i, int_i, len_l, len_t, tuple_l, tuple_t, list_l, list_t, outD, Bool.false_eq_true, if_false, sApp, Nat.zero_le, wipeE, cYes, eSlice, ePart])
theorem str_len {i : Int} (h1 : -1000 ≤ i) (h2 : i ≤ 1000) : ((toString i : Str)).length ≤ 10 := by
  have h : (List.range 2001).all (fun n => Nat.ble ((toString ((n:Int)-1000) : Str)).length 10) = true := by kernel_rfl
  have := List.all_eq_true.mp h (i + 1000).toNat (List.mem_range.mpr (by omega))
  rw [show (((i + 1000).toNat : Nat) : Int) - 1000 = i by omega] at this
  exact Nat.le_of_ble_eq_true this
theorem str_ok {i : Int} (h1 : -1000 ≤ i) (h2 : i ≤ 1000) : PyData.strOk (toString i : Str) = true := by
  have h : (List.range 2001).all (fun n => PyData.strOk (toString ((n:Int)-1000) : Str)) = true := by kernel_rfl
  have := List.all_eq_true.mp h (i + 1000).toNat (List.mem_range.mpr (by omega))
  rwa [show (((i + 1000).toNat : Nat) : Int) - 1000 = i by omega] at this
theorem str_i {i : Int} (h1 : -1000 ≤ i) (h2 : i ≤ 1000) : strD (.int i) = some (.str (toString i)) := by
  have h : Nat.blt i.natAbs.log2 1920 = true := by
    rw [Nat.blt_eq]
    have : i.natAbs.log2 < 11 := by
      by_cases h0 : i.natAbs = 0
      · rw [h0]; decide
      · exact (Nat.log2_lt h0).mpr (by omega)
    omega
  simp only [strD, h, if_true]
/-- one of seven -/
theorem pick7 {P : D → Prop} {l : List D} {w : Int} (hw : 0 ≤ w) (hl : w < l.length) (h : ∀ x ∈ l, P x) : ∃ x, ixD (.list l) (.int w) = some x ∧ P x := by
  have h' : w.toNat < l.length := by omega
  exact ⟨l[w.toNat], ix_li hw (List.getElem?_eq_getElem h'), h _ (List.getElem_mem h')⟩
theorem cut_mem {ds : List D} {lo hi : Option Int} {x : D} (h : x ∈ cutT ds lo hi) : x ∈ ds := List.mem_of_mem_drop (List.mem_of_mem_take h)
theorem cut_len {ds : List D} {lo hi : Option Int} : (cutT ds lo hi).length ≤ ds.length := by
  unfold cutT
  rw [List.length_take, List.length_drop]
  omega
theorem bend_step {rs : List Int} (hr : ∀ r ∈ rs, 0 ≤ r ∧ r < 4096) (hl : 0 < rs.length) {d n b : Nat} {v : D} {at_ : Int} (hb : 1 ≤ b) (hb2 : b ≤ 400) (h : Nice b d v) (ha : 0 ≤ at_)
    (rec : ∀ ds, v = .tuple ds → ∀ x ∈ ds, ∃ w, m__law_bend n [x, .list (rs.map .int), .int (at_ + 1)] = some w ∧ Nice (2 * b + 10) d w) : ∃ w, m__law_bend (n + 1) [v, .list (rs.map .int), .int at_] = some w ∧ Nice (2 * b + 10) (d + 1) w := by
  have q0 : 0 ≤ at_ % (rs.length : Int) := Int.emod_nonneg _ (by omega)
  have q1 : at_ % (rs.length : Int) < rs.length := Int.emod_lt_of_pos _ (by omega)
  have hix := ix_ints q0 q1
  obtain ⟨dr, hdr⟩ : ∃ dr, rs.getD (at_ % (rs.length : Int)).toNat 0 = dr := ⟨_, rfl⟩
  have hd0 : 0 ≤ dr := by
    rw [← hdr]
    exact (hr _ (TL.getD_mem (by omega))).1
  rw [hdr] at hix
  have up : ∀ {x : D}, Nice b d x → Nice (2 * b + 10) (d + 1) x := fun h => h.mono (by omega) (by omega)
  have s1 : (sAsg (e1 intD (e2 ixD (eVar 1) (e2 modD (eVar 2) (e1 lenD (eVar 1))))) (TL.gName 3)) [some v, some (.list (rs.map .int)), some (.int at_), none, none, none] = some (.nx [some v, some (.list (rs.map .int)), some (.int at_), some (.int dr), none, none]) := by
    refine asg_go (e1_go (e2_go rfl (e2_go (r := some (.int (at_ % (rs.length : Int)))) rfl (e1_go rfl (len_l _)) ?_) ?_) (int_i dr))
    · rw [List.length_map]
      exact mod_n (by omega)
    · exact hix
  have five : fdivD (.int dr) (.int 5) = some (.int (dr / 5)) := fdiv_n (by decide) (by decide)
  have way0 : 0 ≤ dr / 5 % 7 := by omega
  have way7 : dr / 5 % 7 < 7 := by omega
  have s2 : (sAsg (e2 modD (e2 fdivD (eVar 3) (eC (.int 5))) (eC (.int 7))) (TL.gName 4)) [some v, some (.list (rs.map .int)), some (.int at_), some (.int dr), none, none] = some (.nx [some v, some (.list (rs.map .int)), some (.int at_), some (.int dr), some (.int (dr / 5 % 7)), none]) := asg_go (e2_go (e2_go rfl rfl five) rfl (mod_n (by decide)))
  -- where no part of it is bent
  have c0 : (¬ ∃ ds, v = .tuple ds ∧ 0 < ds.length ∧ 0 < dr % 5) → (TL.tAnd (tV (e1 (isiD .tuple) (eVar 0))) (TL.tAnd (tV (e2 gtD (e1 lenD (eVar 0)) (eC (.int 0)))) (tV (e2 gtD (e2 modD (eVar 3) (eC (.int 5))) (eC (.int 0)))))) [some v, some (.list (rs.map .int)), some (.int at_), some (.int dr), none, none] = some false := by
    intro hn
    cases h with
    | tup h1 h2 =>
      rename_i d ds
      walk_at "ev"
      simp only [isiD, isTy, Option.bind_some, toB, if_true, len_t, gt_i]
      by_cases g : (0 : Int) < (ds.length : Int)
      · have g2 : ¬ 0 < dr % 5 := fun g2 => hn ⟨ds, rfl, by omega, g2⟩
        simp only [decide_eq_true g, if_true, mod_n (show (0 : Int) < 5 by decide), Option.bind_some, gt_i, toB, decide_eq_false g2]
      · simp only [decide_eq_false g, Bool.false_eq_true, if_false]
    | _ => rfl
  have str1 : (Str.ofString "s").length = 1 := by kernel_rfl
  have s7 : (0 + 1 + 1 + 1 + 1 + 1 + 1 + 1 : Nat) ≤ sizeLine := small (by decide)
  have s1' : (0 + 1 : Nat) ≤ sizeLine := small (by decide)
  by_cases hp : ∃ ds, v = .tuple ds ∧ 0 < ds.length ∧ 0 < dr % 5
  · obtain ⟨ds, rfl, g1, g2⟩ := hp
    cases h with
    | tup h1 h2 =>
    rename_i d
    have k0 : 0 ≤ dr / 5 % (ds.length : Int) := Int.emod_nonneg _ (by omega)
    have k1 : dr / 5 % (ds.length : Int) < ds.length := Int.emod_lt_of_pos _ (by omega)
    have hk := mod_n (a := dr / 5) (b := (ds.length : Int)) (by omega)
    generalize dr / 5 % (ds.length : Int) = k at k0 k1 hk
    have hkl : k.toNat < ds.length := by omega
    have hx : ixD (.tuple ds) (.int k) = some ds[k.toNat] := ix_ti k0 (List.getElem?_eq_getElem hkl)
    obtain ⟨w, hw, nw⟩ := rec ds rfl ds[k.toNat] (List.getElem_mem hkl)
    have L1 : (cutT ds none (some k)).length ≤ ds.length := cut_len
    have L2 : (cutT ds (some (k + 1)) none).length ≤ ds.length := cut_len
    refine ⟨.tuple (cutT ds none (some k) ++ [w] ++ cutT ds (some (k + 1)) none), ?_, .tup (by simp only [List.length_append, List.length_cons, List.length_nil]; omega) fun x hx => ?_⟩
    · rw [m__law_bend]
      refine run_rt rfl (seq_go s1 (seq_rt (if_t ?_ (seq_go (asg_go (e2_go (e2_go rfl rfl five) (e1_go rfl (len_t ds)) hk)) (ret_go ?_)))))
      · walk_at "ev"
        have g1' : (0 : Int) < (ds.length : Int) := by omega
        simp only [isiD, isTy, Option.bind_some, toB, if_true, len_t, gt_i, decide_eq_true g1', mod_n (show (0 : Int) < 5 by decide), decide_eq_true g2]
      · refine e2_go (x := .tuple (cutT ds none (some k) ++ [w])) (e2_go (x := .tuple (cutT ds none (some k))) (y := .tuple [w]) rfl (tup1_go ?_) (cat_t (small ?_))) (y := .tuple (cutT ds (some (k + 1)) none)) rfl (cat_t (small ?_))
        · walk_at "ev"
          simp only [hx, Option.bind_some, Option.map_some, hw]
        · simp only [List.length_cons, List.length_nil]
          omega
        · simp only [List.length_append, List.length_cons, List.length_nil]
          omega
    · rcases List.mem_append.mp hx with hx | hx
      · rcases List.mem_append.mp hx with hx | hx
        · exact (h2 x (cut_mem hx)).mono (by omega) (by omega)
        · rw [List.mem_singleton.mp hx]
          exact nw
      · exact (h2 x (cut_mem hx)).mono (by omega) (by omega)
  · specialize c0 hp
    have fin : ∀ {w : D}, ((sSeq (sIf (tV (e1 (isiD .tuple) (eVar 0)))
      (sRet (e2 ixD (eLst [(e2 addD (eVar 0) (eTup [(eC (.int 0))])), (eSlice (eVar 0) none (some (e1 negD (eC (.int 1))))), (e1 listD (eVar 0)), (e1 revD (eVar 0)), (eC .none), (e2 addD (eVar 0) (eSlice (eVar 0) (some (e1 negD (eC (.int 1)))) none)), (eTup [(eVar 0)])]) (eVar 4)))
      sNext)
      (sSeq (sIf (tV (e1 (isiD .str) (eVar 0)))
      (sRet (e2 ixD (eLst [(e2 addD (eVar 0) (eC (.str "s"))), (eC (.str "")), (eC (.int 0)), (eC (.str "kept")), (eC (.str "parted")), (eC (.str "some")), (eC .none)]) (eVar 4)))
      sNext)
      (sSeq (sIf (TL.tOr (tV (e1 (isiD .bool) (eVar 0))) (TL.tNot (tV (e1 (isiD .int) (eVar 0)))))
      (sRet (eC (.int 0)))
      sNext)
      (sRet (e2 ixD (eLst [(e2 addD (eVar 0) (eC (.int 1))), (e2 subD (eVar 0) (eC (.int 1))), (e2 addD (eVar 0) (eC (.int 2))), (e2 eqD (eVar 0) (eC (.int 1))), (e1 strD (eVar 0)), (e1 negD (eVar 0)), (e2 addD (eVar 0) (eC (.int 9)))]) (eVar 4))))))) [some v, some (.list (rs.map .int)), some (.int at_), some (.int dr), some (.int (dr / 5 % 7)), none] = some (.rt w) → m__law_bend (n + 1) [v, .list (rs.map .int), .int at_] = some w := by
      intro w hw
      rw [m__law_bend]
      exact run_rt rfl (seq_go s1 (seq_go (if_f c0 rfl) (seq_go s2 hw)))
    generalize dr / 5 % 7 = way at way0 way7 fin
    cases h with
    | tup h1 h2 =>
      rename_i d ds
      have L1 : ∀ {lo hi}, (cutT ds lo hi).length ≤ ds.length := cut_len
      obtain ⟨w, hw, nw⟩ := pick7 (P := Nice (2 * b + 10) (d + 1 + 1)) (l := [.tuple (ds ++ [.int 0]), .tuple (cutT ds none (some (-1))), .list ds, .tuple ds.reverse, .none, .tuple (ds ++ cutT ds (some (-1)) none), .tuple [.tuple ds]]) way0 way7 (by
        have m : ∀ {x}, x ∈ ds → Nice (2 * b + 10) (d + 1) x := fun hx => (h2 _ hx).mono (by omega) (by omega)
        intro x hx
        rcases List.mem_cons.mp hx with rfl | hx
        · exact .tup (by simp only [List.length_append, List.length_cons, List.length_nil]; omega) fun y hy => by
            rcases List.mem_append.mp hy with hy | hy
            · exact m hy
            · rw [List.mem_singleton.mp hy]; exact .int (by omega)
        rcases List.mem_cons.mp hx with rfl | hx
        · exact .tup (by have := L1 (lo := none) (hi := some (-1)); omega) fun y hy => m (cut_mem hy)
        rcases List.mem_cons.mp hx with rfl | hx
        · exact .list _
        rcases List.mem_cons.mp hx with rfl | hx
        · exact .tup (by rw [List.length_reverse]; omega) fun y hy => m (List.mem_reverse.mp hy)
        rcases List.mem_cons.mp hx with rfl | hx
        · exact .none
        rcases List.mem_cons.mp hx with rfl | hx
        · exact .tup (by have := L1 (lo := some (-1)) (hi := none); rw [List.length_append]; omega) fun y hy => by
            rcases List.mem_append.mp hy with hy | hy
            · exact m hy
            · exact m (cut_mem hy)
        · rw [List.mem_singleton.mp hx]
          exact .tup (by simp only [List.length_cons, List.length_nil]; omega) fun y hy => by
            rw [List.mem_singleton.mp hy]
            exact (Nice.tup h1 h2).mono (by omega) (by omega))
      refine ⟨w, fin (seq_rt (if_t rfl (ret_go (e2_go ?_ rfl hw)))), nw⟩
      have k1 : addD (.tuple ds) (.tuple [.int 0]) = some (.tuple (ds ++ [.int 0])) := cat_t (small (by simp only [List.length_cons, List.length_nil]; omega))
      have k2 : addD (.tuple ds) (.tuple (cutT ds (some (-1)) none)) = some (.tuple (ds ++ cutT ds (some (-1)) none)) := cat_t (small (by have := L1 (lo := some (-1)) (hi := none); omega))
      have ng : negD (.int 1) = some (.int (-1)) := rfl
      have ct : ∀ lo hi, cutD lo hi (.tuple ds) = some (.tuple (cutT ds lo hi)) := fun _ _ => rfl
      have rv : revD (.tuple ds) = some (.tuple ds.reverse) := rfl
      walk_at "ev"
      simp only [s7, s1', if_true, Option.bind_some, Option.map_some, k1, k2, ng, toI, ct, rv]
      exact if_pos (small (by simp only [List.length_cons, List.length_nil]; omega))
    | str hs ho =>
      rename_i s
      obtain ⟨w, hw, nw⟩ := pick7 (P := Nice (2 * b + 10) (d + 1)) (l := [.str (s ++ "s"), .str "", .int 0, .str "kept", .str "parted", .str "some", .none]) way0 way7 (by
        have e1 : (Str.ofString "").length = 0 := by kernel_rfl
        have e2 : (Str.ofString "kept").length = 4 := by kernel_rfl
        have e3 : (Str.ofString "parted").length = 6 := by kernel_rfl
        have e4 : (Str.ofString "some").length = 4 := by kernel_rfl
        intro x hx
        rcases List.mem_cons.mp hx with rfl | hx
        · have : (s ++ Str.ofString "s").length = s.length + (Str.ofString "s").length := Array.size_append
          refine .str (by rw [this]; omega) ?_
          have ho : s.cps.all (· < 0x110000) = true := ho
          show (s.cps ++ (Str.ofString "s").cps).all (· < 0x110000) = true
          rw [Array.all_append, ho]
          kernel_rfl
        rcases List.mem_cons.mp hx with rfl | hx
        · exact .str (by omega) (by kernel_rfl)
        rcases List.mem_cons.mp hx with rfl | hx
        · exact .int (by omega)
        rcases List.mem_cons.mp hx with rfl | hx
        · exact .str (by omega) (by kernel_rfl)
        rcases List.mem_cons.mp hx with rfl | hx
        · exact .str (by omega) (by kernel_rfl)
        rcases List.mem_cons.mp hx with rfl | hx
        · exact .str (by omega) (by kernel_rfl)
        · rw [List.mem_singleton.mp hx]
          exact .none)
      refine ⟨w, fin (seq_go (if_f rfl rfl) (seq_rt (if_t rfl (ret_go (e2_go ?_ rfl hw))))), nw⟩
      have k1 : addD (.str s) (.str "s") = some (.str (s ++ "s")) := by
        show (if s.length + (Str.ofString "s").length ≤ sizeLine then _ else _) = _
        rw [if_pos (small (by omega))]
      walk_at "ev"
      simp only [s7, if_true, Option.bind_some, Option.map_some, k1]
      exact if_pos (small (by simp only [List.length_cons, List.length_nil]; omega))
    | int hi =>
      rename_i i
      obtain ⟨w, hw, nw⟩ := pick7 (P := Nice (2 * b + 10) (d + 1)) (l := [.int (i + 1), .int (i - 1), .int (i + 2), .bool (decide (i = 1)), .str (toString i), .int (-i), .int (i + 9)]) way0 way7 (by
        have e1 := str_len (i := i) (by omega) (by omega)
        intro x hx
        rcases List.mem_cons.mp hx with rfl | hx
        · exact .int (by omega)
        rcases List.mem_cons.mp hx with rfl | hx
        · exact .int (by omega)
        rcases List.mem_cons.mp hx with rfl | hx
        · exact .int (by omega)
        rcases List.mem_cons.mp hx with rfl | hx
        · exact .bool _
        rcases List.mem_cons.mp hx with rfl | hx
        · exact .str (by omega) (str_ok (by omega) (by omega))
        rcases List.mem_cons.mp hx with rfl | hx
        · exact .int (by omega)
        · rw [List.mem_singleton.mp hx]
          exact .int (by omega))
      refine ⟨w, fin (seq_go (if_f rfl rfl) (seq_go (if_f rfl rfl) (seq_go (if_f rfl rfl) (ret_go (e2_go ?_ rfl hw))))), nw⟩
      have ng : negD (.int i) = some (.int (-i)) := rfl
      walk_at "ev"
      simp only [s7, if_true, Option.bind_some, Option.map_some, ng, str_i (i := i) (by omega) (by omega)]
      exact if_pos (small (by simp only [List.length_cons, List.length_nil]; omega))
    | bool c => exact ⟨.int 0, fin (by rfl), .int (by omega)⟩
    | none => exact ⟨.int 0, fin (by rfl), .int (by omega)⟩
    | list ds => exact ⟨.int 0, fin (by rfl), .int (by omega)⟩
theorem bend_ok {rs : List Int} (hr : ∀ r ∈ rs, 0 ≤ r ∧ r < 4096) (hl : 0 < rs.length) : ∀ (d : Nat) {f : Nat} {b : Nat} {v : D} {at_ : Int}, d < f → 1 ≤ b → b ≤ 400 → Nice b d v → 0 ≤ at_ → ∃ w, m__law_bend f [v, .list (rs.map .int), .int at_] = some w ∧ Nice (2 * b + 10) (d + 1) w := by
  intro d
  induction d with
  | zero =>
    intro f b v at_ hf hb hb2 h ha
    obtain ⟨n, rfl⟩ : ∃ n, f = n + 1 := ⟨f - 1, by omega⟩
    exact bend_step hr hl hb hb2 h ha fun ds e => by
      subst e
      cases h
  | succ d ih =>
    intro f b v at_ hf hb hb2 h ha
    obtain ⟨n, rfl⟩ : ∃ n, f = n + 1 := ⟨f - 1, by omega⟩
    refine bend_step hr hl hb hb2 h ha fun ds e x hx => ?_
    subst e
    cases h with
    | tup h1 h2 => exact ih (by omega) hb hb2 (h2 x hx) (by omega)
end LB

set_option Elab.async false
set_option linter.all false
set_option maxRecDepth 100000
/-! is_formula of any value against the law's own reading. -/
namespace LB
open PySem TL
theorem shaped_s {w : Str} (h : PyData.strOk w = true) : SeqAt.shaped (.str w) = true := by simp [SeqAt.shaped, PyData.canLay0, PyData.depth, h]
theorem eqv_s (a b : Str) : PyData.eqv (.str a) (.str b) = decide (a = b) := by
  simp [PyData.eqv]
  by_cases h : a = b <;> simp [h]
theorem eq_s {a b : Str} (ha : PyData.strOk a = true) (hb : PyData.strOk b = true) : eqD (.str a) (.str b) = some (.bool (decide (a = b))) := by
  unfold eqD
  rw [if_pos ⟨shaped_s ha, shaped_s hb⟩, eqv_s]
theorem ne_s {a b : Str} (ha : PyData.strOk a = true) (hb : PyData.strOk b = true) : neD (.str a) (.str b) = some (.bool (!decide (a = b))) := by
  unfold neD
  rw [if_pos ⟨shaped_s ha, shaped_s hb⟩, eqv_s]
theorem lay_ss : ∀ {l : List Str}, l.all PyData.strOk = true → PyData.canLayAll0 (l.map .str) = true
  | [], _ => by simp [PyData.canLayAll0]
  | i :: r, h => by
    rw [List.all_cons, Bool.and_eq_true] at h
    simp [PyData.canLayAll0, PyData.canLay0, lay_ss h.2, h.1]
theorem dep_ss : ∀ l : List Str, PyData.depthAll (l.map .str) = 0
  | [] => by simp [PyData.depthAll]
  | i :: r => by simp [PyData.depthAll, PyData.depth, dep_ss r]
theorem any_ss (w : Str) : ∀ l : List Str, ((l.map PyData.str).any fun z => PyData.eqv z (.str w)) = decide (w ∈ l)
  | [] => by simp
  | a :: r => by
    simp only [List.map_cons, List.any_cons, any_ss w r, eqv_s]
    by_cases h : a = w
    · simp [h]
    · have h' : ¬ w = a := fun e => h e.symm
      simp [h, h']
theorem in_ts {w : Str} {l : List Str} (hw : PyData.strOk w = true) (hl : l.all PyData.strOk = true) : inD (.str w) (.tuple (l.map .str)) = some (.bool (decide (w ∈ l))) := by
  have h : SeqAt.shaped (.tuple (l.map .str)) = true := shaped_of (by simp [PyData.canLay0, lay_ss hl]) (by simp [PyData.depth, dep_ss l])
  simp only [inD, shaped_s hw, h, and_self, if_true, any_ss]
theorem in_ls {w : Str} {l : List Str} (hw : PyData.strOk w = true) (hl : l.all PyData.strOk = true) : inD (.str w) (.list (l.map .str)) = some (.bool (decide (w ∈ l))) := by
  have h : SeqAt.shaped (.list (l.map .str)) = true := shaped_of (by simp [PyData.canLay0, lay_ss hl]) (by simp [PyData.depth, dep_ss l])
  simp only [inD, shaped_s hw, h, and_self, if_true, any_ss]
/-- an int within bounds -/
def inI (lo hi : Int) : D → Bool
  | .int i => decide (lo ≤ i) && decide (i ≤ hi)
  | _ => false
theorem from_b {b d : Nat} {v : D} (h : Nice b d v) (lo hi : Int) : m_is_from [v, .int lo, .int hi] = some (.bool (inI lo hi v)) := by
  refine run_rt rfl (ret_go ?_)
  simp only [eAnd, eCall, eArgs, eVar, List.map_cons, List.map_nil, List.replicate, List.cons_append, List.nil_append, List.getD_cons_zero, Option.bind_some, Option.map_some, whole_ok h, toB]
  cases h with
  | int =>
    rename_i i _
    simp only [isI, if_true, eChain, eVar, List.getD_cons_zero, List.getD_cons_succ, Option.bind_some, le_i, toB, inI]
    by_cases q : lo ≤ i <;> simp [q]
  | _ => rfl
theorem chain_le {env : TL.Env} {a : SE} {lo hi i : Int} (h : a env = some (.int i)) : eChain leD leD (eC (.int lo)) a (eC (.int hi)) env = some (.bool (decide (lo ≤ i) && decide (i ≤ hi))) := by
  simp only [eChain, eC, h, Option.bind_some, le_i, toB]
  by_cases q : lo ≤ i <;> simp [q]
theorem and_go {a b : SE} {env : TL.Env} {x y : Bool} (h1 : a env = some (.bool x)) (h2 : x = true → b env = some (.bool y)) : eAnd a b env = some (.bool (x && y)) := by
  simp only [eAnd, h1, Option.bind_some, toB]
  cases x with
  | true => rw [if_pos rfl, h2 rfl]; rfl
  | false => rfl
theorem and_no {a b : SE} {env : TL.Env} (h1 : a env = some (.bool false)) : eAnd a b env = some (.bool false) := by
  simp only [eAnd, h1, Option.bind_some, toB]
  rfl
theorem name_b {b d : Nat} {v : D} (h : Nice b d v) : m__law_is_name [v] = some (.bool (inI 0 5 v)) := by
  refine run_rt rfl (ret_go ?_)
  cases h with
  | int =>
    rename_i i _
    exact and_go (x := true) (y := decide (0 ≤ i) && decide (i ≤ 5)) rfl fun _ => chain_le rfl
  | _ => rfl
theorem call1_go {m : List D → Option D} {a : SE} {env : TL.Env} {x : D} {o : Option D} (h1 : a env = some x) (h2 : m [x] = o) : eCall m [a] env = o := by
  simp only [eCall, eArgs, h1, Option.bind_some, Option.map_some]
  exact h2
theorem call3_go {m : List D → Option D} {a b c : SE} {env : TL.Env} {x y z : D} {o : Option D} (h1 : a env = some x) (h2 : b env = some y) (h3 : c env = some z) (h4 : m [x, y, z] = o) : eCall m [a, b, c] env = o := by
  simp only [eCall, eArgs, h1, h2, h3, Option.bind_some, Option.map_some]
  exact h4
theorem len_of {α : Type} {l : List α} {n : Nat} (h : l.length = n) : (l.length : Int) = (n : Int) := by rw [h]
theorem four_of {α : Type} {l : List α} (h : (l.length : Int) = 4) : ∃ x y z w, l = [x, y, z, w] := by
  match l, h with
  | [x, y, z, w], _ => exact ⟨x, y, z, w, rfl⟩
  | [], h => exact absurd h (by simp)
  | [_], h => exact absurd h (by simp)
  | [_, _], h => exact absurd h (by simp)
  | [_, _, _], h => exact absurd h (by simp)
  | _ :: _ :: _ :: _ :: _ :: _, h => simp only [List.length_cons] at h; omega
theorem told_f {b : Nat} (hb : b ≤ 1000) : ∀ (d : Nat) {v : D} {f1 f2 : Nat}, d < f1 → d < f2 → Nice b d v → ∃ k, m_is_formula f1 [v] = some (.bool k) ∧ m__law_is_formula f2 [v] = some (.bool k) := by
  intro d
  induction d with
  | zero =>
    intro v f1 f2 h1 h2 h
    obtain ⟨n, rfl⟩ : ∃ n, f1 = n + 1 := ⟨f1 - 1, by omega⟩
    obtain ⟨m, rfl⟩ : ∃ n, f2 = n + 1 := ⟨f2 - 1, by omega⟩
    cases h <;> exact ⟨false, rfl, rfl⟩
  | succ d ih =>
    intro v f1 f2 h1 h2 h
    obtain ⟨n, rfl⟩ : ∃ n, f1 = n + 1 := ⟨f1 - 1, by omega⟩
    obtain ⟨m, rfl⟩ : ∃ n, f2 = n + 1 := ⟨f2 - 1, by omega⟩
    cases h with
    | tup g1 g2 =>
      rename_i ds
      cases ds with
      | nil => exact ⟨false, rfl, rfl⟩
      | cons s ds =>
        have ns := g2 s List.mem_cons_self
        by_cases qs : ∃ w, s = .str w
        · obtain ⟨w, rfl⟩ := qs
          have ow : PyData.strOk w = true := by cases ns; assumption
          have hds : ds.length ≤ 1000 := by simp only [List.length_cons] at g1; omega
          obtain ⟨L, hL⟩ : ∃ L : D, L = .tuple (.str w :: ds) := ⟨_, rfl⟩
          obtain ⟨len, hlen⟩ : ∃ len : Int, len = ((ds.length + 1 : Nat) : Int) := ⟨_, rfl⟩
          have x0 : ixD L (.int 0) = some (.str w) := by rw [hL]; exact ix_ti (by decide) rfl
          have ln : lenD L = some (.int len) := by rw [hL, hlen]; rfl
          have ty : isiD .tuple L = some (.bool true) := by rw [hL]; rfl
          have at1 : 0 < ds.length → ixD L (.int 1) = some (ds.getD 0 .none) ∧ Nice b d (ds.getD 0 .none) := fun h => by
            rw [List.getD_eq_getElem?_getD, List.getElem?_eq_getElem h, hL]
            exact ⟨ix_ti (by decide) (List.getElem?_eq_getElem (l := PyData.str w :: ds) (i := 1) (by simp only [List.length_cons]; omega)), g2 _ (List.mem_cons_of_mem _ (List.getElem_mem h))⟩
          have at2 : 1 < ds.length → ixD L (.int 2) = some (ds.getD 1 .none) ∧ Nice b d (ds.getD 1 .none) := fun h => by
            rw [List.getD_eq_getElem?_getD, List.getElem?_eq_getElem h, hL]
            exact ⟨ix_ti (by decide) (List.getElem?_eq_getElem (l := PyData.str w :: ds) (i := 2) (by simp only [List.length_cons]; omega)), g2 _ (List.mem_cons_of_mem _ (List.getElem_mem h))⟩
          have at3 : 2 < ds.length → ixD L (.int 3) = some (ds.getD 2 .none) ∧ Nice b d (ds.getD 2 .none) := fun h => by
            rw [List.getD_eq_getElem?_getD, List.getElem?_eq_getElem h, hL]
            exact ⟨ix_ti (by decide) (List.getElem?_eq_getElem (l := PyData.str w :: ds) (i := 3) (by simp only [List.length_cons]; omega)), g2 _ (List.mem_cons_of_mem _ (List.getElem_mem h))⟩
          rw [← hL]
          have hl0 : ¬ len = 0 := by omega
          clear hL g1 g2 ns
          have t0 : ∀ {env : TL.Env}, env.getD 0 none = some L → (TL.tOr (TL.tNot (tV (e1 (isiD .tuple) (eVar 0)))) (TL.tOr (tV (e2 eqD (e1 lenD (eVar 0)) (eC (.int 0)))) (TL.tNot (tV (e1 (isiD .str) (e2 ixD (eVar 0) (eC (.int 0)))))))) env = some false := fun {env} he => by
            have a1 : TL.tNot (tV (e1 (isiD .tuple) (eVar 0))) env = some false := by
              simp only [TL.tNot]
              rw [tV_go (b := true) (e1_go he ty)]
              rfl
            have a2 : tV (e2 eqD (e1 lenD (eVar 0)) (eC (.int 0))) env = some false := by
              refine tV_go (e2_go (e1_go he ln) rfl ((eq_i _ _).trans ?_))
              rw [decide_eq_false hl0]
            have a3 : TL.tNot (tV (e1 (isiD .str) (e2 ixD (eVar 0) (eC (.int 0))))) env = some false := by
              simp only [TL.tNot]
              rw [tV_go (b := true) (e1_go (e2_go he rfl x0) rfl)]
              rfl
            exact tOr_f a1 (tOr_f a2 a3)
          let E1 := fun e3 : Option D => [some L, some (.str w), some (.int len), e3]
          let E2 := fun e2 : Option D => [some L, some (.str w), e2]
          have p1 : ∀ rest : SS, sSeq (sIf (TL.tOr (TL.tNot (tV (e1 (isiD .tuple) (eVar 0)))) (TL.tOr (tV (e2 eqD (e1 lenD (eVar 0)) (eC (.int 0)))) (TL.tNot (tV (e1 (isiD .str) (e2 ixD (eVar 0) (eC (.int 0)))))))) (sRet (eC (.bool false))) sNext)
              (sSeq (sPar 1 2 (e2 ixD (eVar 0) (eC (.int 0))) (e1 lenD (eVar 0))) rest) [some L, none, none, none] = rest (E1 none) := fun rest => seq_go (if_f (t0 rfl) rfl) (seq_go (e := E1 none) (by
                simp only [sPar]
                rw [e2_go rfl rfl x0, e1_go rfl ln]
                rfl) rfl)
          have p2 : ∀ rest : SS, sSeq (sIf (TL.tOr (TL.tNot (tV (e1 (isiD .tuple) (eVar 0)))) (TL.tOr (tV (e2 eqD (e1 lenD (eVar 0)) (eC (.int 0)))) (TL.tNot (tV (e1 (isiD .str) (e2 ixD (eVar 0) (eC (.int 0)))))))) (sRet (eC (.bool false))) sNext)
              (sSeq (sAsg (e2 ixD (eVar 0) (eC (.int 0))) (TL.gName 1)) rest) [some L, none, none] = rest (E2 none) := fun rest => seq_go (if_f (t0 rfl) rfl) (seq_go (e := E2 none) (asg_go (e2_go rfl rfl x0)) rfl)
          have mem : ∀ {env : TL.Env} {a b : Str} {k : Bool}, PyData.strOk a = true → PyData.strOk b = true → env.getD 1 none = some (.str w) → decide (w ∈ [a, b]) = k → tV (e2 inD (eVar 1) (eTup [(eC (.str a)), (eC (.str b))])) env = some k := fun ha hb he hk => hk ▸ tV_go (e2_go he (tup2_go rfl rfl) (in_ts (l := [_, _]) ow (by simp only [List.all_cons, ha, hb, List.all_nil, Bool.and_self])))
          have eqw : ∀ {env : TL.Env} {a : Str} {k : Bool}, PyData.strOk a = true → env.getD 1 none = some (.str w) → decide (w = a) = k → tV (e2 eqD (eVar 1) (eC (.str a))) env = some k := fun ha he hk => hk ▸ tV_go (e2_go he rfl (eq_s ow ha))
          have new : ∀ {env : TL.Env} {a : Str} {k : Bool}, PyData.strOk a = true → env.getD 1 none = some (.str w) → decide (w = a) = k → tV (e2 neD (eVar 1) (eC (.str a))) env = some (!k) := fun ha he hk => hk ▸ tV_go (e2_go he rfl (ne_s ow ha))
          have size1 : ∀ {k : Int} {e3} {q : Bool}, decide (len = k) = q → e2 eqD (eVar 2) (eC (.int k)) (E1 e3) = some (.bool q) := fun h => h ▸ e2_go rfl rfl (eq_i _ _)
          have size2 : ∀ {k : Int} {e2'} {q : Bool}, decide (len = k) = q → e2 eqD (e1 lenD (eVar 0)) (eC (.int k)) (E2 e2') = some (.bool q) := fun h => h ▸ e2_go (e1_go rfl ln) rfl (eq_i _ _)
          have otru : PyData.strOk "true" = true := by kernel_rfl
          have ofls : PyData.strOk "false" = true := by kernel_rfl
          have osam : PyData.strOk "same" = true := by kernel_rfl
          have oarr : PyData.strOk "arrow" = true := by kernel_rfl
          have omar : PyData.strOk "mark" = true := by kernel_rfl
          have onot : PyData.strOk "not" = true := by kernel_rfl
          have oand : PyData.strOk "and" = true := by kernel_rfl
          have oor : PyData.strOk "or" = true := by kernel_rfl
          have osom : PyData.strOk "some" = true := by kernel_rfl
          have oall : PyData.strOk "all" = true := by kernel_rfl
          have olea : PyData.strOk "least" = true := by kernel_rfl
          rw [m_is_formula, m__law_is_formula]
          suffices h : ∃ k, _ = some (Out.rt (.bool k)) ∧ _ = some (Out.rt (.bool k)) from by
            obtain ⟨k, h1, h2⟩ := h
            exact ⟨k, run_rt rfl ((p1 _).trans h1), run_rt rfl ((p2 _).trans h2)⟩
          cases c1 : decide (w ∈ [Str.ofString "true", Str.ofString "false"]) with
          | true => exact ⟨_, seq_rt (if_t (mem otru ofls rfl c1) (ret_go (size1 rfl))), seq_rt (if_t (mem otru ofls rfl c1) (ret_go (size2 rfl)))⟩
          | false =>
          suffices h : ∃ k, _ = some (Out.rt (.bool k)) ∧ _ = some (Out.rt (.bool k)) from by
            obtain ⟨k, h1, h2⟩ := h
            exact ⟨k, seq_go (if_f (mem otru ofls rfl c1) rfl) h1, seq_go (if_f (mem otru ofls rfl c1) rfl) h2⟩
          cases c2 : decide (w ∈ [Str.ofString "same", Str.ofString "arrow"]) with
          | true =>
            cases q : decide (len = 3) with
            | false => exact ⟨_, seq_rt (if_t (mem osam oarr rfl c2) (ret_go (and_no (size1 q)))), seq_rt (if_t (mem osam oarr rfl c2) (ret_go (and_no (size2 q))))⟩
            | true =>
              have q' := of_decide_eq_true q
              obtain ⟨a1, n1⟩ := at1 (by omega)
              obtain ⟨a2, n2⟩ := at2 (by omega)
              exact ⟨_, seq_rt (if_t (mem osam oarr rfl c2) (ret_go (and_go (size1 q) fun _ => and_go (call3_go (e2_go rfl rfl a1) rfl rfl (from_b n1 0 5)) fun _ => call3_go (e2_go rfl rfl a2) rfl rfl (from_b n2 0 5)))),
                seq_rt (if_t (mem osam oarr rfl c2) (ret_go (and_go (size2 q) fun _ => and_go (call1_go (e2_go rfl rfl a1) (name_b n1)) fun _ => call1_go (e2_go rfl rfl a2) (name_b n2))))⟩
          | false =>
          suffices h : ∃ k, _ = some (Out.rt (.bool k)) ∧ _ = some (Out.rt (.bool k)) from by
            obtain ⟨k, h1, h2⟩ := h
            exact ⟨k, seq_go (if_f (mem osam oarr rfl c2) rfl) h1, seq_go (if_f (mem osam oarr rfl c2) rfl) h2⟩
          cases c3 : decide (w = Str.ofString "mark") with
          | true =>
            cases q : decide (len = 3) with
            | false => exact ⟨_, seq_rt (if_t (eqw omar rfl c3) (ret_go (and_no (size1 q)))), seq_rt (if_t (eqw omar rfl c3) (ret_go (and_no (size2 q))))⟩
            | true =>
              have q' := of_decide_eq_true q
              obtain ⟨a1, n1⟩ := at1 (by omega)
              obtain ⟨a2, n2⟩ := at2 (by omega)
              refine ⟨true && (inI 0 1 (ds.getD 0 .none) && inI 0 5 (ds.getD 1 .none)), seq_rt (if_t (eqw omar rfl c3) (ret_go (and_go (size1 q) fun _ => and_go (call3_go (e2_go rfl rfl a1) rfl rfl (from_b n1 0 1)) fun _ => call3_go (e2_go rfl rfl a2) rfl rfl (from_b n2 0 5)))),
                seq_rt (if_t (eqw omar rfl c3) (ret_go (and_go (size2 q) fun _ => ?_)))⟩
              cases z : isI (ds.getD 0 .none) with
              | false =>
                have : inI 0 1 (ds.getD 0 .none) = false := by
                  cases y : ds.getD 0 .none <;> first | rfl | (rw [y] at z; exact Bool.noConfusion z)
                rw [this, Bool.false_and]
                exact and_no (call1_go (e2_go rfl rfl a1) (by rw [lint_ok n1, z]))
              | true =>
                obtain ⟨i, hi⟩ : ∃ i, ds.getD 0 .none = .int i := by
                  cases y : ds.getD 0 .none <;> first | exact ⟨_, rfl⟩ | (rw [y] at z; exact Bool.noConfusion z)
                rw [show (inI 0 1 (ds.getD 0 .none) && inI 0 5 (ds.getD 1 .none)) = (true && (inI 0 1 (ds.getD 0 .none) && inI 0 5 (ds.getD 1 .none))) from (Bool.true_and _).symm]
                refine and_go (call1_go (e2_go rfl rfl a1) (by rw [lint_ok n1, z])) fun _ => and_go ?_ fun _ => call1_go (e2_go rfl rfl a2) (name_b n2)
                rw [hi]
                exact chain_le (e2_go rfl rfl (a1.trans (by rw [hi])))
          | false =>
          suffices h : ∃ k, _ = some (Out.rt (.bool k)) ∧ _ = some (Out.rt (.bool k)) from by
            obtain ⟨k, h1, h2⟩ := h
            exact ⟨k, seq_go (if_f (eqw omar rfl c3) rfl) h1, seq_go (if_f (eqw omar rfl c3) rfl) h2⟩
          cases c4 : decide (w = Str.ofString "not") with
          | true =>
            cases q : decide (len = 2) with
            | false => exact ⟨_, seq_rt (if_t (eqw onot rfl c4) (ret_go (and_no (size1 q)))), seq_rt (if_t (eqw onot rfl c4) (ret_go (and_no (size2 q))))⟩
            | true =>
              have q' := of_decide_eq_true q
              obtain ⟨a1, n1⟩ := at1 (by omega)
              obtain ⟨k, r1, r2⟩ := ih (f1 := n) (f2 := m) (by omega) (by omega) n1
              exact ⟨_, seq_rt (if_t (eqw onot rfl c4) (ret_go (and_go (size1 q) fun _ => call1_go (e2_go rfl rfl a1) r1))), seq_rt (if_t (eqw onot rfl c4) (ret_go (and_go (size2 q) fun _ => call1_go (e2_go rfl rfl a1) r2)))⟩
          | false =>
          suffices h : ∃ k, _ = some (Out.rt (.bool k)) ∧ _ = some (Out.rt (.bool k)) from by
            obtain ⟨k, h1, h2⟩ := h
            exact ⟨k, seq_go (if_f (eqw onot rfl c4) rfl) h1, seq_go (if_f (eqw onot rfl c4) rfl) h2⟩
          cases c5 : decide (w ∈ [Str.ofString "and", Str.ofString "or"]) with
          | true =>
            cases q : decide (len = 2) with
            | false => exact ⟨_, seq_rt (if_t (mem oand oor rfl c5) (ret_go (and_no (size1 q)))), seq_rt (if_t (mem oand oor rfl c5) (ret_go (and_no (size2 q))))⟩
            | true =>
              have q' := of_decide_eq_true q
              obtain ⟨a1, n1⟩ := at1 (by omega)
              generalize ds.getD 0 .none = v1 at a1 n1
              by_cases ht : ∃ es, v1 = .tuple es
              · obtain ⟨es, rfl⟩ := ht
                let p : D → Bool := fun x => match m_is_formula n [x] with | some (.bool k) => k | _ => false
                have hp : ∀ x ∈ es, m_is_formula n [x] = some (.bool (p x)) ∧ m__law_is_formula m [x] = some (.bool (p x)) := fun x hx => by
                  have nx : Nice b d x := by
                    cases n1 with
                    | tup _ h => exact (h x hx).mono (Nat.le_refl _) (by omega)
                  obtain ⟨k, r1, r2⟩ := ih (f1 := n) (f2 := m) (by omega) (by omega) nx
                  have : p x = k := by simp only [p, r1]
                  rw [this]
                  exact ⟨r1, r2⟩
                refine ⟨true && (true && es.all p), seq_rt (if_t (mem oand oor rfl c5) (ret_go (and_go (size1 q) fun _ => and_go (e1_go (e2_go rfl rfl a1) rfl) fun _ => ?_))), seq_rt (if_t (mem oand oor rfl c5) (ret_go (and_go (size2 q) fun _ => and_go (e1_go (e2_go rfl rfl a1) rfl) fun _ => ?_)))⟩
                · have hlc := lc_map (g := TL.gName 3) (e := eCall (m_is_formula n) [(eVar 3)]) (env := wipeE (E1 none) [3]) id PyData.bool p (zs := es) fun x hx => ⟨_, rfl, call1_go rfl (hp x hx).1⟩
                  rw [List.map_id] at hlc
                  refine e1_go (lc_go (ds := es) ?_ hlc) (by rw [all_b, List.all_map]; rfl)
                  simp only [iSeq]
                  rw [e2_go rfl rfl a1]
                  rfl
                · have hlc := lc_filter (g := TL.gName 2) (c := TL.tNot (tV (eCall (m__law_is_formula m) [(eVar 2)]))) (e := eVar 2) (env := wipeE (E2 none) [2]) id id (fun x => !p x) id (zs := es) fun x hx => ⟨_, rfl, by
                    simp only [TL.tNot]
                    rw [tV_go (call1_go rfl (hp x hx).2)]
                    rfl, fun _ => rfl⟩
                  rw [List.map_id es] at hlc
                  refine e2_go (e1_go (lc_go (ds := es) ?_ hlc) (len_l _)) rfl ((eq_i _ _).trans ?_)
                  · simp only [iSeq]
                    rw [e2_go rfl rfl a1]
                    rfl
                  · exact congrArg (fun z => some (PyData.bool z)) (none_of p id (id : D → D) es)
              · have hd : isiD .tuple v1 = some (.bool false) := by
                  cases n1 <;> first | rfl | exact absurd ⟨_, rfl⟩ ht
                exact ⟨_, seq_rt (if_t (mem oand oor rfl c5) (ret_go (and_go (size1 q) fun _ => and_no (e1_go (e2_go rfl rfl a1) hd)))), seq_rt (if_t (mem oand oor rfl c5) (ret_go (and_go (size2 q) fun _ => and_no (e1_go (e2_go rfl rfl a1) hd))))⟩
          | false =>
          suffices h : ∃ k, _ = some (Out.rt (.bool k)) ∧ _ = some (Out.rt (.bool k)) from by
            obtain ⟨k, h1, h2⟩ := h
            exact ⟨k, seq_go (if_f (mem oand oor rfl c5) rfl) h1, seq_go (if_f (mem oand oor rfl c5) rfl) h2⟩
          cases c6 : decide (w ∈ [Str.ofString "some", Str.ofString "all"]) with
          | true =>
            cases q : decide (len = 3) with
            | false => exact ⟨_, seq_rt (if_t (mem osom oall rfl c6) (ret_go (and_no (size1 q)))), seq_rt (if_t (mem osom oall rfl c6) (ret_go (and_no (size2 q))))⟩
            | true =>
              have q' := of_decide_eq_true q
              obtain ⟨a1, n1⟩ := at1 (by omega)
              obtain ⟨a2, n2⟩ := at2 (by omega)
              obtain ⟨k, r1, r2⟩ := ih (f1 := n) (f2 := m) (by omega) (by omega) n2
              exact ⟨_, seq_rt (if_t (mem osom oall rfl c6) (ret_go (and_go (size1 q) fun _ => and_go (call3_go (e2_go rfl rfl a1) rfl rfl (from_b n1 0 5)) fun _ => call1_go (e2_go rfl rfl a2) r1))),
                seq_rt (if_t (mem osom oall rfl c6) (ret_go (and_go (size2 q) fun _ => and_go (call1_go (e2_go rfl rfl a1) (name_b n1)) fun _ => call1_go (e2_go rfl rfl a2) r2)))⟩
          | false =>
          suffices h : ∃ k, _ = some (Out.rt (.bool k)) ∧ _ = some (Out.rt (.bool k)) from by
            obtain ⟨k, h1, h2⟩ := h
            exact ⟨k, seq_go (if_f (mem osom oall rfl c6) rfl) h1, seq_go (if_f (mem osom oall rfl c6) rfl) h2⟩
          have nsz1 : ∀ {k : Int} {e3} {q : Bool}, decide (len = k) = q → tV (e2 neD (eVar 2) (eC (.int k))) (E1 e3) = some (!q) := fun h => h ▸ tV_go (e2_go rfl rfl (ne_i _ _))
          have nsz2 : ∀ {k : Int} {e2'} {q : Bool}, decide (len = k) = q → tV (e2 neD (e1 lenD (eVar 0)) (eC (.int k))) (E2 e2') = some (!q) := fun h => h ▸ tV_go (e2_go (e1_go rfl ln) rfl (ne_i _ _))
          have notg : ∀ {a : SE} {env : TL.Env} {k : Bool}, a env = some (.bool k) → TL.tNot (tV a) env = some (!k) := fun h => by
            simp only [TL.tNot]
            rw [tV_go h]
            rfl
          cases c7 : decide (w = Str.ofString "least") with
          | false => exact ⟨false, seq_rt (if_t (tOr_t (new olea rfl c7)) (ret_go rfl)), seq_rt (if_t (tOr_t (new olea rfl c7)) (ret_go rfl))⟩
          | true =>
          cases q : decide (len = 4) with
          | false => exact ⟨false, seq_rt (if_t (tOr_f (new olea rfl c7) (tOr_t (nsz1 q))) (ret_go rfl)), seq_rt (if_t (tOr_f (new olea rfl c7) (tOr_t (nsz2 q))) (ret_go rfl))⟩
          | true =>
            have q' := of_decide_eq_true q
            obtain ⟨a1, n1⟩ := at1 (by omega)
            obtain ⟨a2, n2⟩ := at2 (by omega)
            obtain ⟨a3, n3⟩ := at3 (by omega)
            obtain ⟨k, r1, r2⟩ := ih (f1 := n) (f2 := m) (by omega) (by omega) n3
            generalize ds.getD 0 .none = v1 at a1 n1
            have f1' : TL.tNot (tV (eCall m_is_from [(e2 ixD (eVar 0) (eC (.int 1))), (eC (.int 1)), (eC (.int 8))])) (E1 none) = some (!inI 1 8 v1) := notg (call3_go (e2_go rfl rfl a1) rfl rfl (from_b n1 1 8))
            have f2' : TL.tOr (TL.tNot (tV (eCall m__law_is_int [(e2 ixD (eVar 0) (eC (.int 1)))]))) (TL.tNot (tV (eChain leD leD (eC (.int 1)) (e2 ixD (eVar 0) (eC (.int 1))) (eC (.int 8))))) (E2 none) = some (!inI 1 8 v1) := by
              cases z : isI v1 with
              | false =>
                have : inI 1 8 v1 = false := by
                  cases v1 <;> first | rfl | exact Bool.noConfusion z
                rw [this]
                exact tOr_t ((notg (call1_go (e2_go rfl rfl a1) (lint_ok n1))).trans (by rw [z]; rfl))
              | true =>
                obtain ⟨i, rfl⟩ : ∃ i, v1 = .int i := by
                  cases v1 <;> first | exact ⟨_, rfl⟩ | exact Bool.noConfusion z
                exact tOr_f ((notg (call1_go (e2_go rfl rfl a1) (lint_ok n1))).trans (by rw [z]; rfl)) (notg (chain_le (e2_go rfl rfl a1)))
            cases z : inI 1 8 v1 with
            | false =>
              rw [z] at f1' f2'
              exact ⟨false, seq_rt (if_t (tOr_f (new olea rfl c7) (tOr_f (nsz1 q) f1')) (ret_go rfl)), seq_rt (if_t (tOr_f (new olea rfl c7) (tOr_f (nsz2 q) f2')) (ret_go rfl))⟩
            | true =>
              rw [z] at f1' f2'
              exact ⟨_, seq_go (if_f (tOr_f (new olea rfl c7) (tOr_f (nsz1 q) f1')) rfl) (ret_go (and_go (call3_go (e2_go rfl rfl a2) rfl rfl (from_b n2 0 5)) fun _ => call1_go (e2_go rfl rfl a3) r1)),
                seq_go (if_f (tOr_f (new olea rfl c7) (tOr_f (nsz2 q) f2')) rfl) (ret_go (and_go (call1_go (e2_go rfl rfl a2) (name_b n2)) fun _ => call1_go (e2_go rfl rfl a3) r2))⟩
        · refine ⟨false, ?_, ?_⟩ <;>
          · have hd : isiD .str s = some (.bool false) := by
              cases ns <;> first | rfl | exact absurd ⟨_, rfl⟩ qs
            have x0 : ixD (.tuple (s :: ds)) (.int 0) = some s := ix_ti (by decide) rfl
            first | rw [m_is_formula] | rw [m__law_is_formula]
            refine run_rt rfl (seq_rt (if_t ?_ (ret_go rfl)))
            refine tOr_f rfl (tOr_f (tV_go (e2_go (e1_go rfl (len_t _)) rfl ((eq_i _ _).trans ?_))) ?_)
            · rw [decide_eq_false (by simp only [List.length_cons]; omega)]
            · simp only [TL.tNot]
              rw [tV_go (b := false) (e1_go (e2_go rfl rfl x0) hd)]
              rfl
    | _ => exact ⟨false, rfl, rfl⟩
end LB

set_option Elab.async false
set_option linter.all false
set_option maxRecDepth 100000
/-! Law k15: is_local of any value against the law's own reading. -/
namespace LB
open PySem TL
def prIn2 (n m : Int) (p : Int × Int) : Bool := inB n p.1 && inB m p.2
def goodPr2 (n m : Int) : D → Bool
  | .tuple [.int a, .int b] => prIn2 n m (a, b)
  | _ => false
theorem law_pairs2 {b d : Nat} {v : D} (hb : b ≤ 1000) (h : Nice b d v) (n m : Int) : (∀ l : List (Int × Int), v = .tuple (l.map prD) → m__law_pairs [v, .int n, .int m] = some (.bool (l.all (prIn2 n m) && upB ltQ (0, 0) l))) ∧ ((∀ l : List (Int × Int), v ≠ .tuple (l.map prD)) → m__law_pairs [v, .int n, .int m] = some (.bool false)) := by
  cases h with
  | tup h1 h2 =>
    rename_i d ds
    have hfor := for_all (g := TL.gName 3) (body := (sIf (TL.tOr (TL.tNot (tV (eCall m__law_numbers_in [(eVar 3), (eC (.int 2))]))) (TL.tOr (TL.tNot (tV (eChain leD ltD (eC (.int 0)) (e2 ixD (eVar 3) (eC (.int 0))) (eVar 1)))) (TL.tNot (tV (eChain leD ltD (eC (.int 0)) (e2 ixD (eVar 3) (eC (.int 1))) (eVar 2))))))
      (sRet (eC (.bool false)))
      sNext)) (fun env => ∃ e3, env = [some (.tuple ds), some (.int n), some (.int m), e3, none]) (goodPr2 n m) (.bool false) ds [some (.tuple ds), some (.int n), some (.int m), none, none] ⟨_, rfl⟩ (by
      rintro x hx env ⟨e3, rfl⟩
      refine ⟨[some (.tuple ds), some (.int n), some (.int m), some x, none], rfl, ?_⟩
      have hn := numbers_in_ok (h2 x hx)
      cases q : isPr x with
      | false =>
        rw [q] at hn
        refine .inr ⟨?_, if_t ?_ (ret_go rfl)⟩
        · cases e : goodPr2 n m x with
          | false => rfl
          | true =>
            unfold goodPr2 at e
            split at e
            · rename_i a c
              exact Bool.noConfusion ((isPr_prD (a, c)).symm.trans q)
            · exact absurd e (by decide)
        · simp only [TL.tOr, TL.tNot, tV, eCall, eArgs, eVar, eC, List.getD_cons_zero, List.getD_cons_succ, Option.bind_some, Option.map_some, hn, toB, Bool.not_false, if_true]
      | true =>
        rw [q] at hn
        obtain ⟨⟨a, c⟩, rfl⟩ := isPr_of q
        have hg : goodPr2 n m (prD (a, c)) = (inB n a && inB m c) := rfl
        have ht : (TL.tOr (TL.tNot (tV (eCall m__law_numbers_in [(eVar 3), (eC (.int 2))]))) (TL.tOr (TL.tNot (tV (eChain leD ltD (eC (.int 0)) (e2 ixD (eVar 3) (eC (.int 0))) (eVar 1)))) (TL.tNot (tV (eChain leD ltD (eC (.int 0)) (e2 ixD (eVar 3) (eC (.int 1))) (eVar 2)))))) [some (.tuple ds), some (.int n), some (.int m), some (prD (a, c)), none] = some (!(inB n a && inB m c)) := by
          have c1 := chain_ix (env := [some (.tuple ds), some (.int n), some (.int m), some (prD (a, c)), none]) (i := 3) (j := 1) (k := 0) (a := a) (n := n) rfl rfl rfl
          have c2 := chain_ix (env := [some (.tuple ds), some (.int n), some (.int m), some (prD (a, c)), none]) (i := 3) (j := 2) (k := 1) (a := c) (n := m) rfl rfl rfl
          simp only [TL.tOr, TL.tNot, tV, c1, c2, eCall, eArgs, eVar, eC, List.getD_cons_zero, List.getD_cons_succ, Option.bind_some, Option.map_some, hn, toB, Bool.not_true, Bool.false_eq_true, if_false]
          cases inB n a <;> cases inB m c <;> rfl
        cases e : inB n a && inB m c with
        | true =>
          rw [e] at ht
          exact .inl ⟨by rw [hg, e], _, if_f ht rfl, _, rfl⟩
        | false =>
          rw [e] at ht
          exact .inr ⟨by rw [hg, e], if_t ht (ret_go rfl)⟩)
    have hif : ∀ k, sIf (TL.tNot (tV (e1 (isiD .tuple) (eVar 0)))) (sRet (eC (.bool false))) sNext [some (.tuple ds), some (.int n), some (.int m), k, none] = some (.nx [some (.tuple ds), some (.int n), some (.int m), k, none]) := fun k => if_f rfl rfl
    refine ⟨fun l e => ?_, fun hn => ?_⟩
    · injection e with e
      subst e
      rw [List.length_map] at h1
      have hall : (l.map prD).all (goodPr2 n m) = l.all (prIn2 n m) := by
        rw [List.all_map]
        rfl
      rw [hall] at hfor
      rcases hfor with ⟨ha, e, hf, e3, rfl⟩ | ⟨ha, hf⟩
      · refine run_rt rfl (seq_go (hif _) (seq_go (for_go rfl hf) (ret_go ?_)))
        rw [ha, Bool.true_and]
        exact falls_ok prD ltQ (0, 0) l (by omega) geQ_up (fun d => rfl) rfl (fun d => rfl)
      · refine run_rt rfl (seq_go (hif _) (seq_rt (for_go rfl ?_)))
        rw [ha, Bool.false_and]
        exact hf
    · rcases hfor with ⟨ha, _⟩ | ⟨ha, hf⟩
      · obtain ⟨l, e⟩ := isPr_all (ds := ds) (List.all_eq_true.mpr fun x hx => by
          have := List.all_eq_true.mp ha x hx
          unfold goodPr2 at this
          split at this
          · rfl
          · exact absurd this (by decide))
        exact absurd (congrArg PyData.tuple e) (hn l)
      · exact run_rt rfl (seq_go (hif _) (seq_rt (for_go rfl hf)))
  | _ => exact ⟨fun l e => (by cases e), fun _ => rfl⟩
/-! ### two pairs that go together -/
theorem ne_bbA (a b : Bool) : neD (.bool a) (.bool b) = some (.bool (!decide (a = b))) := by cases a <;> cases b <;> kernel_rfl
theorem eq_bb (a b : Bool) : eqD (.bool a) (.bool b) = some (.bool (decide (a = b))) := by cases a <;> cases b <;> kernel_rfl
theorem goes_ok (w u : Wd) (p q : Int × Int) : m_goes [w.d, u.d, prD p, prD q] = some (.bool (fitB w u p q)) ∧ m__law_fit [w.d, u.d, prD p, prD q] = some (.bool (fitB w u p q)) := by
  obtain ⟨a, b⟩ := p
  obtain ⟨c, d⟩ := q
  let E1 := fun e8 : Option D => [some w.d, some u.d, some (prD (a, b)), some (prD (c, d)), some (.int a), some (.int b), some (.int c), some (.int d), e8]
  let E2 := [some w.d, some u.d, some (prD (a, b)), some (prD (c, d)), some (.int a), some (.int b), some (.int c), some (.int d)]
  have w1 : ixD w.d (.int 1) = some (.tuple [tI w.m0, tI w.m1]) := rfl
  have u1 : ixD u.d (.int 1) = some (.tuple [tI u.m0, tI u.m1]) := rfl
  have w2 : ixD w.d (.int 2) = some (tP w.ar) := rfl
  have u2 : ixD u.d (.int 2) = some (tP u.ar) := rfl
  have same : ∀ {env : TL.Env}, env.getD 4 none = some (.int a) → env.getD 5 none = some (.int b) → env.getD 6 none = some (.int c) → env.getD 7 none = some (.int d) → tV (e2 neD (e2 eqD (eVar 4) (eVar 6)) (e2 eqD (eVar 5) (eVar 7))) env = some (!decide (decide (a = c) = decide (b = d))) := fun h4 h5 h6 h7 =>
    tVD (e2_go (e2_go h4 h6 (eq_i _ _)) (e2_go h5 h7 (eq_i _ _)) (ne_bbA _ _))
  have mk : ∀ {env : TL.Env} {e : SE} {i : Int} {mw mu : List Int}, env.getD 0 none = some w.d → env.getD 1 none = some u.d → env.getD 4 none = some (.int a) → env.getD 5 none = some (.int b) → e env = some (.int i) → ixD (.tuple [tI w.m0, tI w.m1]) (.int i) = some (tI mw) → ixD (.tuple [tI u.m0, tI u.m1]) (.int i) = some (tI mu) →
      (e2 neD (e2 inD (eVar 4) (e2 ixD (e2 ixD (eVar 0) (eC (.int 1))) e)) (e2 inD (eVar 5) (e2 ixD (e2 ixD (eVar 1) (eC (.int 1))) e))) env = some (.bool (!decide (decide (a ∈ mw) = decide (b ∈ mu)))) := fun h0 h1 h4 h5 he hw hu =>
    e2_go (e2_go h4 (e2_go (e2_go h0 rfl w1) he hw) (in_ti a _)) (e2_go h5 (e2_go (e2_go h1 rfl u1) he hu) (in_ti b _)) (ne_bbA _ _)
  have arr : ∀ {env : TL.Env}, env.getD 0 none = some w.d → env.getD 1 none = some u.d → env.getD 4 none = some (.int a) → env.getD 5 none = some (.int b) → env.getD 6 none = some (.int c) → env.getD 7 none = some (.int d) →
      (eAnd (e2 eqD (e2 inD (eTup [(eVar 4), (eVar 6)]) (e2 ixD (eVar 0) (eC (.int 2)))) (e2 inD (eTup [(eVar 5), (eVar 7)]) (e2 ixD (eVar 1) (eC (.int 2))))) (e2 eqD (e2 inD (eTup [(eVar 6), (eVar 4)]) (e2 ixD (eVar 0) (eC (.int 2)))) (e2 inD (eTup [(eVar 7), (eVar 5)]) (e2 ixD (eVar 1) (eC (.int 2)))))) env
      = some (.bool (decide (decide ((a, c) ∈ w.ar) = decide ((b, d) ∈ u.ar)) && decide (decide ((c, a) ∈ w.ar) = decide ((d, b) ∈ u.ar)))) := fun h0 h1 h4 h5 h6 h7 =>
    and_go (e2_go (e2_go (tup2D h4 h6) (e2_go h0 rfl w2) (in_tp (a, c) w.ar)) (e2_go (tup2D h5 h7) (e2_go h1 rfl u2) (in_tp (b, d) u.ar)) (eq_bb _ _)) fun _ => e2_go (e2_go (tup2D h6 h4) (e2_go h0 rfl w2) (in_tp (c, a) w.ar)) (e2_go (tup2D h7 h5) (e2_go h1 rfl u2) (in_tp (d, b) u.ar)) (eq_bb _ _)
  have hF : fitB w u (a, b) (c, d) = (decide (decide (a = c) = decide (b = d)) && (decide (decide (a ∈ w.m0) = decide (b ∈ u.m0)) && decide (decide (a ∈ w.m1) = decide (b ∈ u.m1))) && (decide (decide ((a, c) ∈ w.ar) = decide ((b, d) ∈ u.ar)) && decide (decide ((c, a) ∈ w.ar) = decide ((d, b) ∈ u.ar)))) := rfl
  rw [hF]
  have anyl : (e1 anyD (eLc [8] (iSeq (eTup [(eC (.int 0)), (eC (.int 1))])) (TL.gName 8) cYes (e2 neD (e2 inD (eVar 4) (e2 ixD (e2 ixD (eVar 0) (eC (.int 1))) (eVar 8))) (e2 inD (eVar 5) (e2 ixD (e2 ixD (eVar 1) (eC (.int 1))) (eVar 8)))))) (E1 none) = some (.bool (!decide (decide (a ∈ w.m0) = decide (b ∈ u.m0)) || !decide (decide (a ∈ w.m1) = decide (b ∈ u.m1)))) := by
    refine e1_go (x := .list [.bool (!decide (decide (a ∈ w.m0) = decide (b ∈ u.m0))), .bool (!decide (decide (a ∈ w.m1) = decide (b ∈ u.m1)))]) (lc_go (ds := [.int 0, .int 1]) ?_ ?_) ?_
    · simp only [iSeq]
      rw [tup2D rfl rfl]
      rfl
    · have z0 := mk (env := E1 (some (.int 0))) (e := eVar 8) (i := 0) (mw := w.m0) (mu := u.m0) rfl rfl rfl rfl rfl rfl rfl
      have z1 := mk (env := E1 (some (.int 1))) (e := eVar 8) (i := 1) (mw := w.m1) (mu := u.m1) rfl rfl rfl rfl rfl rfl rfl
      simp only [lcGo, E1, TL.gName, wipeE, List.set_cons_zero, List.set_cons_succ, Option.bind_some, cYes, if_true] at z0 z1 ⊢
      rw [z0, z1]
      rfl
    · show anyD (.list ([!decide (decide (a ∈ w.m0) = decide (b ∈ u.m0)), !decide (decide (a ∈ w.m1) = decide (b ∈ u.m1))].map .bool)) = _
      simp only [anyD, bools_of, Option.map_some, List.any_cons, List.any_nil, id, Bool.or_false]
  have unp1 : ∀ rest : SS, sSeq (sAsg (eVar 2) (TL.gTup [(TL.gName 4), (TL.gName 5)])) (sSeq (sAsg (eVar 3) (TL.gTup [(TL.gName 6), (TL.gName 7)])) rest) [some w.d, some u.d, some (prD (a, b)), some (prD (c, d)), none, none, none, none, none] = rest (E1 none) := fun rest => rfl
  have unp2 : ∀ rest : SS, sSeq (sAsg (eVar 2) (TL.gTup [(TL.gName 4), (TL.gName 5)])) (sSeq (sAsg (eVar 3) (TL.gTup [(TL.gName 6), (TL.gName 7)])) rest) [some w.d, some u.d, some (prD (a, b)), some (prD (c, d)), none, none, none, none] = rest E2 := fun rest => rfl
  have s1 := same (env := E1 none) rfl rfl rfl rfl
  have s2 := same (env := E2) rfl rfl rfl rfl
  have a1 := arr (env := E1 none) rfl rfl rfl rfl rfl rfl
  have a2 := arr (env := E2) rfl rfl rfl rfl rfl rfl
  have m0' := mk (env := E2) (e := eC (.int 0)) (i := 0) (mw := w.m0) (mu := u.m0) rfl rfl rfl rfl rfl rfl rfl
  have m1' := mk (env := E2) (e := eC (.int 1)) (i := 1) (mw := w.m1) (mu := u.m1) rfl rfl rfl rfl rfl rfl rfl
  generalize decide (decide (a = c) = decide (b = d)) = k1 at s1 s2 ⊢
  generalize decide (decide (a ∈ w.m0) = decide (b ∈ u.m0)) = k2 at anyl m0' ⊢
  generalize decide (decide (a ∈ w.m1) = decide (b ∈ u.m1)) = k3 at anyl m1' ⊢
  generalize (decide (decide ((a, c) ∈ w.ar) = decide ((b, d) ∈ u.ar)) && decide (decide ((c, a) ∈ w.ar) = decide ((d, b) ∈ u.ar))) = k4 at a1 a2 ⊢
  cases k1 with
  | false => exact ⟨run_rt rfl ((unp1 _).trans (seq_rt (if_t s1 (ret_go rfl)))), run_rt rfl ((unp2 _).trans (seq_rt (if_t s2 (ret_go rfl))))⟩
  | true =>
    cases k2 with
    | false => exact ⟨run_rt rfl ((unp1 _).trans (seq_go (if_f s1 rfl) (seq_rt (if_t (tVD anyl) (ret_go rfl))))), run_rt rfl ((unp2 _).trans (seq_go (if_f s2 rfl) (seq_rt (if_t (tOr_t (tVD m0')) (ret_go rfl)))))⟩
    | true =>
      cases k3 with
      | false => exact ⟨run_rt rfl ((unp1 _).trans (seq_go (if_f s1 rfl) (seq_rt (if_t (tVD anyl) (ret_go rfl))))), run_rt rfl ((unp2 _).trans (seq_go (if_f s2 rfl) (seq_rt (if_t (tOr_f (tVD m0') (tVD m1')) (ret_go rfl)))))⟩
      | true => exact ⟨run_rt rfl ((unp1 _).trans (seq_go (if_f s1 rfl) (seq_go (if_f (tVD anyl) rfl) (ret_go a1)))), run_rt rfl ((unp2 _).trans (seq_go (if_f s2 rfl) (seq_go (if_f (tOr_f (tVD m0') (tVD m1')) rfl) (ret_go a2))))⟩
end LB

set_option Elab.async false
set_option linter.all false
set_option maxRecDepth 100000
/-! Law k15: is_local of any value against the law's own reading. -/
namespace LB
open PySem TL
theorem chain_gen {env : TL.Env} {e c : SE} {a n : Int} (h1 : e env = some (.int a)) (h2 : c env = some (.int n)) : eChain leD ltD (eC (.int 0)) e c env = some (.bool (inB n a)) := by
  simp only [eChain, eC, h1, h2, Option.bind_some, le_i, toB, lt_i, inB]
  by_cases h : 0 ≤ a <;> simp [h]
theorem notD {a : SE} {env : TL.Env} {b : Bool} (h : a env = some (.bool b)) : TL.tNot (tV a) env = some (!b) := by
  simp only [TL.tNot]
  rw [tVD h]
  rfl
theorem tAnd_f {a b : ST} {env : TL.Env} (h : a env = some false) : TL.tAnd a b env = some false := by
  simp only [TL.tAnd, h, Option.bind_some]
  rfl
theorem tAnd_t {a b : ST} {env : TL.Env} {o : Option Bool} (h : a env = some true) (h2 : b env = o) : TL.tAnd a b env = o := by
  simp only [TL.tAnd, h, Option.bind_some, if_true]
  exact h2
theorem call4D {m : List D → Option D} {a b c e : SE} {env : TL.Env} {x y z t : D} {o : Option D} (h1 : a env = some x) (h2 : b env = some y) (h3 : c env = some z) (h5 : e env = some t) (h4 : m [x, y, z, t] = o) : eCall m [a, b, c, e] env = o := by
  simp only [eCall, eArgs, h1, h2, h3, h5, Option.bind_some, Option.map_some]
  exact h4
/-- neighbours' first items differ -/
def nxB (l : List (Int × Int)) : Bool := (rangeI 0 (((l.length : Int) - 1 - 0).toNat)).all fun k => !decide ((l.getD k.toNat (0, 0)).1 = (l.getD (k + 1).toNat (0, 0)).1)
def goB (w u : Wd) (l : List (Int × Int)) : Bool := l.all fun p => l.all fun q => fitB w u p q
theorem lcg {w u : Wd} {v : D} {l : List (Int × Int)} (hv : v = .tuple (l.map prD)) (p : Int × Int) : lcGo (TL.gName 4) cYes (eCall m_goes [(eVar 0), (eVar 1), (eVar 3), (eVar 4)]) [some w.d, some u.d, some v, some (prD p), none] (l.map prD) = some ((l.map fun q => fitB w u p q).map .bool) :=
  lc_map prD PyData.bool (fun q => fitB w u p q) fun q hq => ⟨_, rfl, call4D rfl rfl rfl rfl (goes_ok w u p q).1⟩
theorem lcg2 {w u : Wd} {v : D} {l : List (Int × Int)} (hv : v = .tuple (l.map prD)) : ∀ ps : List (Int × Int), lcGo2 (TL.gName 3) cYes (iSeq (eVar 2)) [4] (TL.gName 4) cYes (eCall m_goes [(eVar 0), (eVar 1), (eVar 3), (eVar 4)]) [some w.d, some u.d, some v, none, none] (ps.map prD) = some ((ps.flatMap fun p => l.map fun q => fitB w u p q).map .bool)
  | [] => rfl
  | p :: ps => by
    have c3 : iSeq (eVar 2) [some w.d, some u.d, some v, some (prD p), none] = some (l.map prD) := by subst hv; rfl
    have c4 : wipeE [some w.d, some u.d, some v, some (prD p), none] [4] = [some w.d, some u.d, some v, some (prD p), none] := rfl
    have c5 : TL.gName 3 (prD p) [some w.d, some u.d, some v, none, none] = some [some w.d, some u.d, some v, some (prD p), none] := rfl
    rw [List.map_cons, lcGo2, c5, Option.bind_some, c3]
    simp only [Option.bind_some, cYes, if_true]
    rw [c4, lcg hv p]
    simp only [Option.bind_some]
    rw [lcg2 hv ps]
    simp only [Option.map_some, List.flatMap_cons, List.map_append]
theorem flat_len2B {w u : Wd} {l : List (Int × Int)} : ∀ ps : List (Int × Int), (ps.flatMap fun p => l.map fun q => fitB w u p q).length = ps.length * l.length
  | [] => by simp
  | p :: ps => by rw [List.flatMap_cons, List.length_append, flat_len2B ps, List.length_map, List.length_cons, Nat.add_mul]; omega
theorem map_ok {w u : Wd} {l : List (Int × Int)} (hl : l.length ≤ 1000) (hp : m_is_pairs [.tuple (l.map prD)] = some (.bool (upB ltQ (0, 0) l))) : m_is_map [w.d, u.d, .tuple (l.map prD)] = some (.bool (upB ltQ (0, 0) l && (l.all (prIn2 w.n u.n) && nxB l))) := by
  have hrng : rangeD 0 ((l.length : Int) - 1) = some ((rangeI 0 (((l.length : Int) - 1 - 0).toNat)).map .int) := rng_ab (by decide) (by decide) (by omega) (by omega)
  let V : D := .tuple (l.map prD)
  have T1 : TL.tNot (tV (eCall m_is_pairs [(eVar 2)])) [some w.d, some u.d, some V, none, none, none] = some (!upB ltQ (0, 0) l) := notD (call1_go rfl hp)
  have T2 : TL.tNot (tV (e1 allD (eLc [4, 5] (iSeq (eVar 2)) (TL.gTup [(TL.gName 4), (TL.gName 5)]) cYes (eAnd (eChain leD ltD (eC (.int 0)) (eVar 4) (e2 ixD (eVar 0) (eC (.int 0)))) (eChain leD ltD (eC (.int 0)) (eVar 5) (e2 ixD (eVar 1) (eC (.int 0)))))))) [some w.d, some u.d, some V, none, none, none] = some (!l.all (prIn2 w.n u.n)) := by
    refine notD (e1_go (x := .list ((l.map (prIn2 w.n u.n)).map .bool)) (lc_go (ds := l.map prD) rfl (lc_map prD PyData.bool (prIn2 w.n u.n) fun p hp => ⟨_, rfl, and_go (chain_gen rfl (e2_go rfl rfl rfl)) fun _ => chain_gen rfl (e2_go rfl rfl rfl)⟩)) ?_)
    rw [all_b, List.all_map]
    rfl
  cases c1 : upB ltQ (0, 0) l with
  | false =>
    rw [c1] at T1
    exact run_rt rfl (seq_rt (if_t (tOr_t T1) (ret_go rfl)))
  | true =>
    rw [c1] at T1
    cases c2 : l.all (prIn2 w.n u.n) with
    | false =>
      rw [c2] at T2
      exact run_rt rfl (seq_rt (if_t (tOr_f T1 T2) (ret_go rfl)))
    | true =>
      rw [c2] at T2
      refine run_rt rfl (seq_go (if_f (tOr_f T1 T2) rfl) (ret_go (e1_go (x := .list (((rangeI 0 (((l.length : Int) - 1 - 0).toNat)).map fun k => !decide ((l.getD k.toNat (0, 0)).1 = (l.getD (k + 1).toNat (0, 0)).1)).map .bool)) (lc_go (ds := (rangeI 0 (((l.length : Int) - 1 - 0).toNat)).map .int) ?_ (lc_map .int .bool _ fun k hk => ⟨_, rfl, ?_⟩)) ?_)))
      · simp only [iRng1]
        rw [e2_go (e1_go rfl (len_t _)) rfl (sub_i _ _), List.length_map]
        simp only [Option.bind_some, toI]
        exact hrng
      · have hk := rangeI_mem.mp hk
        exact e2_go (e2_go (e2_go rfl rfl (ix_at prD (0, 0) (l := l) (i := k) (by omega) (by omega))) rfl rfl) (e2_go (e2_go rfl (e2_go rfl rfl (add_i _ _)) (ix_at prD (0, 0) (l := l) (i := k + 1) (by omega) (by omega))) rfl rfl) (ne_i _ _)
      · rw [all_b, List.all_map]
        rfl
theorem lgoes_ok {w u : Wd} {l : List (Int × Int)} {V : D} (hV : itemsD V = some (l.map prD)) : m__law_goes [w.d, u.d, V, .int 0] = some (.bool (goB w u l)) := by
  let P : D → Bool := fun x => match x with | .tuple [.int a, .int b] => l.all fun q => fitB w u (a, b) q | _ => false
  have hP : ∀ p, P (prD p) = l.all fun q => fitB w u p q := fun p => rfl
  have hfor := for_all (g := TL.gName 4) (body := (sSeq (sIf (TL.tAnd (tV (e2 eqD (eVar 3) (eC (.int 0)))) (tV (e2 gtD (e1 lenD (eLc [5] (iSeq (eVar 2)) (TL.gName 5) (TL.tNot (tV (eCall m__law_fit [(eVar 0), (eVar 1), (eVar 4), (eVar 5)]))) (eVar 5))) (eC (.int 0)))))
      (sRet (eC (.bool false)))
      sNext)
      (sIf (TL.tAnd (tV (e2 eqD (eVar 3) (eC (.int 1)))) (tV (e2 gtD (e1 lenD (eLc [5] (iSeq (eVar 2)) (TL.gName 5) (TL.tNot (tV (eCall m__law_carry [(eVar 0), (eVar 1), (eVar 4), (eVar 5)]))) (eVar 5))) (eC (.int 0)))))
      (sRet (eC (.bool false)))
      sNext))) (fun env => ∃ e4, env = [some w.d, some u.d, some V, some (.int 0), e4, none]) P (.bool false) (l.map prD) [some w.d, some u.d, some V, some (.int 0), none, none] ⟨_, rfl⟩ (by
      rintro x hx env ⟨e4, rfl⟩
      obtain ⟨p, hp, rfl⟩ := List.mem_map.mp hx
      refine ⟨[some w.d, some u.d, some V, some (.int 0), some (prD p), none], rfl, ?_⟩
      have hlc := lc_go (vs := [5]) (it := iSeq (eVar 2)) (env := [some w.d, some u.d, some V, some (.int 0), some (prD p), none]) (ds := l.map prD) hV (lc_filter (g := TL.gName 5) (c := TL.tNot (tV (eCall m__law_fit [(eVar 0), (eVar 1), (eVar 4), (eVar 5)]))) (e := eVar 5) prD prD (fun q => !fitB w u p q) id fun q hq => ⟨_, rfl, notD (call4D rfl rfl rfl rfl (goes_ok w u p q).2), fun _ => rfl⟩)
      have t1 : TL.tAnd (tV (e2 eqD (eVar 3) (eC (.int 0)))) (tV (e2 gtD (e1 lenD (eLc [5] (iSeq (eVar 2)) (TL.gName 5) (TL.tNot (tV (eCall m__law_fit [(eVar 0), (eVar 1), (eVar 4), (eVar 5)]))) (eVar 5))) (eC (.int 0)))) [some w.d, some u.d, some V, some (.int 0), some (prD p), none] = some (!l.all fun q => fitB w u p q) := by
        refine tAnd_t (tVD (e2_go rfl rfl (eq_i 0 0))) (tVD (e2_go (e1_go hlc (len_l _)) rfl ((gt_i _ _).trans ?_)))
        exact congrArg (fun z => some (PyData.bool z)) (some_of (fun q => fitB w u p q) id prD l)
      rw [hP]
      cases c : (l.all fun q => fitB w u p q) with
      | true =>
        rw [c] at t1
        exact .inl ⟨rfl, _, seq_go (if_f t1 rfl) (if_f (tAnd_f (tVD (e2_go rfl rfl (eq_i 0 1)))) rfl), _, rfl⟩
      | false =>
        rw [c] at t1
        exact .inr ⟨rfl, seq_rt (if_t t1 (ret_go rfl))⟩)
  have hall : (l.map prD).all P = goB w u l := by
    rw [List.all_map]
    rfl
  rw [hall] at hfor
  rcases hfor with ⟨ha, e, hf, e4, rfl⟩ | ⟨ha, hf⟩
  · rw [ha]
    exact run_rt rfl (seq_go (for_go (ds := l.map prD) hV hf) (ret_go rfl))
  · rw [ha]
    exact run_rt rfl (seq_rt (for_go (ds := l.map prD) hV hf))
theorem told_l (w u : Wd) {b d : Nat} {v : D} (hb : b ≤ 1000) (h : Nice b d v) : ∃ k, m_is_local [w.d, u.d, v] = some (.bool k) ∧ m__law_is_map [w.d, u.d, v, .int 0] = some (.bool k) := by
  have p1 := is_pairs_ok hb h
  have p2 := law_pairs2 hb h w.n u.n
  have w0 : ixD w.d (.int 0) = some (.int w.n) := rfl
  have u0 : ixD u.d (.int 0) = some (.int u.n) := rfl
  by_cases ql : ∃ l : List (Int × Int), v = .tuple (l.map prD)
  · obtain ⟨l, rfl⟩ := ql
    have hl : l.length ≤ 1000 := by
      cases h with
      | tup h1 h2 => rw [List.length_map] at h1; omega
    have hrng : rangeD 0 ((l.length : Int) - 1) = some ((rangeI 0 (((l.length : Int) - 1 - 0).toNat)).map .int) := rng_ab (by decide) (by decide) (by omega) (by omega)
    have hm := map_ok (w := w) (u := u) hl (p1.1 l rfl)
    have hq := p2.1 l rfl
    let V : D := .tuple (l.map prD)
    refine ⟨(upB ltQ (0, 0) l && (l.all (prIn2 w.n u.n) && nxB l)) && goB w u l, run_rt rfl (ret_go (and_go (call3D rfl rfl rfl hm) fun _ => ?_)), ?_⟩
    · refine e1_go (x := .list ((l.flatMap fun p => l.map fun q => fitB w u p q).map .bool)) ?_ ?_
      · simp only [eLc2]
        rw [show List.map some [w.d, u.d, PyData.tuple (l.map prD)] ++ List.replicate 2 none = [some w.d, some u.d, some V, none, none] from rfl]
        rw [show iSeq (eVar 2) [some w.d, some u.d, some V, none, none] = some (l.map prD) from rfl, Option.bind_some]
        rw [show wipeE [some w.d, some u.d, some V, none, none] [3, 4] = [some w.d, some u.d, some V, none, none] from rfl, lcg2 rfl l, Option.bind_some, if_pos]
        rw [List.length_map, flat_len2B]
        exact small (Nat.mul_le_mul hl hl)
      · rw [all_b, List.all_flatMap]
        simp only [List.all_map]
        rfl
    · have T1 : TL.tNot (tV (eCall m__law_pairs [(eVar 2), (e2 ixD (eVar 0) (eC (.int 0))), (e2 ixD (eVar 1) (eC (.int 0)))])) [some w.d, some u.d, some V, some (.int 0), none] = some (!(l.all (prIn2 w.n u.n) && upB ltQ (0, 0) l)) := notD (call3D rfl (e2_go rfl rfl w0) (e2_go rfl rfl u0) hq)
      have T2 : tV (e2 gtD (e1 lenD (eLc [4] (iRng1 (e2 subD (e1 lenD (eVar 2)) (eC (.int 1)))) (TL.gName 4) (tV (e2 eqD (e2 ixD (e2 ixD (eVar 2) (eVar 4)) (eC (.int 0))) (e2 ixD (e2 ixD (eVar 2) (e2 addD (eVar 4) (eC (.int 1)))) (eC (.int 0))))) (eVar 4))) (eC (.int 0))) [some w.d, some u.d, some V, some (.int 0), none] = some (!nxB l) := by
        have hlc := lc_go (vs := [4]) (it := iRng1 (e2 subD (e1 lenD (eVar 2)) (eC (.int 1)))) (env := [some w.d, some u.d, some V, some (.int 0), none]) (ds := (rangeI 0 (((l.length : Int) - 1 - 0).toNat)).map .int) (by
          simp only [iRng1]
          rw [e2_go (e1_go rfl (len_t _)) rfl (sub_i _ _), List.length_map]
          simp only [Option.bind_some, toI]
          exact hrng) (lc_filter (g := TL.gName 4) (c := (tV (e2 eqD (e2 ixD (e2 ixD (eVar 2) (eVar 4)) (eC (.int 0))) (e2 ixD (e2 ixD (eVar 2) (e2 addD (eVar 4) (eC (.int 1)))) (eC (.int 0)))))) (e := eVar 4) PyData.int PyData.int (fun k => decide ((l.getD k.toNat (0, 0)).1 = (l.getD (k + 1).toNat (0, 0)).1)) id fun k hk => ⟨_, rfl, by
            have hk := rangeI_mem.mp hk
            exact tVD (e2_go (e2_go (e2_go rfl rfl (ix_at prD (0, 0) (l := l) (i := k) (by omega) (by omega))) rfl rfl) (e2_go (e2_go rfl (e2_go rfl rfl (add_i _ _)) (ix_at prD (0, 0) (l := l) (i := k + 1) (by omega) (by omega))) rfl rfl) (eq_i _ _)), fun _ => rfl⟩)
        refine tVD (e2_go (e1_go hlc (len_l _)) rfl ((gt_i _ _).trans ?_))
        have := some_of (fun k : Int => !decide ((l.getD k.toNat (0, 0)).1 = (l.getD (k + 1).toNat (0, 0)).1)) id PyData.int (rangeI 0 (((l.length : Int) - 1 - 0).toNat))
        simp only [Bool.not_not] at this
        exact congrArg (fun z => some (PyData.bool z)) this
      cases c1 : upB ltQ (0, 0) l with
      | false =>
        rw [c1, Bool.and_false] at T1
        exact run_rt rfl (seq_rt (if_t T1 (ret_go rfl)))
      | true =>
        rw [c1, Bool.and_true] at T1
        cases c2 : l.all (prIn2 w.n u.n) with
        | false =>
          rw [c2] at T1
          exact run_rt rfl (seq_rt (if_t T1 (ret_go rfl)))
        | true =>
          rw [c2] at T1
          cases c3 : nxB l with
          | false =>
            rw [c3] at T2
            exact run_rt rfl (seq_go (if_f T1 rfl) (seq_rt (if_t T2 (ret_go rfl))))
          | true =>
            rw [c3] at T2
            exact run_rt rfl (seq_go (if_f T1 rfl) (seq_go (if_f T2 rfl) (ret_go (call4D rfl rfl rfl rfl (lgoes_ok rfl)))))
  · have hn : ∀ l : List (Int × Int), v ≠ .tuple (l.map prD) := fun l e => ql ⟨l, e⟩
    have hm : m_is_map [w.d, u.d, v] = some (.bool false) := run_rt rfl (seq_rt (if_t (tOr_t (notD (call1_go rfl (p1.2 hn)))) (ret_go rfl)))
    exact ⟨false, run_rt rfl (ret_go (and_no (call3D rfl rfl rfl hm))), run_rt rfl (seq_rt (if_t (notD (call3D rfl (e2_go rfl rfl w0) (e2_go rfl rfl u0) (p2.2 hn))) (ret_go rfl)))⟩
end LB

set_option Elab.async false
set_option linter.all false
set_option maxRecDepth 100000
/-! Loops over typed lists. -/
namespace LB
open PySem TL
/-- a loop that ends early with r at the first item without P -/
theorem for_allT {α : Type} {g : SG} {body : SS} (ι : α → D) (I : TL.Env → Prop) (P : α → Bool) (r : D) : ∀ (xs : List α) (env : TL.Env), I env →
    (∀ x ∈ xs, ∀ env, I env → ∃ e1, g (ι x) env = some e1 ∧ ((P x = true ∧ ∃ e2, body e1 = some (.nx e2) ∧ I e2) ∨ (P x = false ∧ body e1 = some (.rt r)))) →
    (xs.all P = true ∧ ∃ e, forGo g body (xs.map ι) env = some (.nx e) ∧ I e) ∨ (xs.all P = false ∧ forGo g body (xs.map ι) env = some (.rt r))
  | [], env, h, _ => .inl ⟨rfl, env, rfl, h⟩
  | x :: xs, env, h, step => by
    obtain ⟨e1, h1, h2⟩ := step x List.mem_cons_self env h
    rcases h2 with ⟨hp, e2, h3, h4⟩ | ⟨hp, h3⟩
    · rcases for_allT ι I P r xs e2 h4 (fun y hy => step y (List.mem_cons_of_mem _ hy)) with ⟨h5, e, h6, h7⟩ | ⟨h5, h6⟩
      · exact .inl ⟨by rw [List.all_cons, hp, h5]; rfl, e, by rw [List.map_cons]; exact for_cons h1 h3 h6, h7⟩
      · exact .inr ⟨by rw [List.all_cons, hp, h5]; rfl, by rw [List.map_cons]; exact for_cons h1 h3 h6⟩
    · refine .inr ⟨by rw [List.all_cons, hp]; rfl, ?_⟩
      rw [List.map_cons]
      simp only [forGo, h1, Option.bind_some, h3]
/-- a loop with an invariant by the items done -/
theorem for_invT {α : Type} {g : SG} {body : SS} (ι : α → D) (I : List α → TL.Env → Prop) : ∀ (xs done : List α) (env : TL.Env), I done env →
    (∀ x ∈ xs, ∀ done env, I done env → ∃ e1, g (ι x) env = some e1 ∧ ∃ e2, (body e1 = some (.nx e2) ∨ body e1 = some (.ct e2)) ∧ I (done ++ [x]) e2) →
    ∃ e, forGo g body (xs.map ι) env = some (.nx e) ∧ I (done ++ xs) e
  | [], done, env, h, _ => ⟨env, rfl, by rw [List.append_nil]; exact h⟩
  | x :: xs, done, env, h, step => by
    obtain ⟨e1, h1, e2, h3, h4⟩ := step x List.mem_cons_self done env h
    obtain ⟨e, h5, h6⟩ := for_invT ι I xs (done ++ [x]) e2 h4 (fun y hy => step y (List.mem_cons_of_mem _ hy))
    refine ⟨e, ?_, by rw [List.append_assoc] at h6; exact h6⟩
    rw [List.map_cons]
    rcases h3 with h3 | h3
    · exact for_cons h1 h3 h5
    · simp only [forGo, h1, Option.bind_some, h3]
      exact h5
theorem seq_for_inv {α : Type} {it : SI} {g : SG} {body rest : SS} {env : TL.Env} {r : Option Out} (ι : α → D) (I : List α → TL.Env → Prop) (xs : List α) (hit : it env = some (xs.map ι)) (h0 : I [] env)
    (step : ∀ x ∈ xs, ∀ done env, I done env → ∃ e1, g (ι x) env = some e1 ∧ ∃ e2, (body e1 = some (.nx e2) ∨ body e1 = some (.ct e2)) ∧ I (done ++ [x]) e2) (fin : ∀ e, I xs e → rest e = r) : sSeq (sFor it g body) rest env = r := by
  obtain ⟨e, h1, h2⟩ := for_invT ι I xs [] env h0 step
  exact seq_go (for_go hit h1) (fin e (by rw [List.nil_append] at h2; exact h2))
theorem for_inv_nx {α : Type} {it : SI} {g : SG} {body : SS} {env : TL.Env} (ι : α → D) (I : List α → TL.Env → Prop) (xs : List α) (hit : it env = some (xs.map ι)) (h0 : I [] env)
    (step : ∀ x ∈ xs, ∀ done env, I done env → ∃ e1, g (ι x) env = some e1 ∧ ∃ e2, (body e1 = some (.nx e2) ∨ body e1 = some (.ct e2)) ∧ I (done ++ [x]) e2) : ∃ e, sFor it g body env = some (.nx e) ∧ I xs e := by
  obtain ⟨e, h1, h2⟩ := for_invT ι I xs [] env h0 step
  exact ⟨e, for_go hit h1, by rw [List.nil_append] at h2; exact h2⟩
theorem seq_for_all {α : Type} {it : SI} {g : SG} {body rest : SS} {env : TL.Env} {r : Option Out} (ι : α → D) (I : TL.Env → Prop) (P : α → Bool) (d : D) (xs : List α) (hit : it env = some (xs.map ι)) (h0 : I env)
    (step : ∀ x ∈ xs, ∀ env, I env → ∃ e1, g (ι x) env = some e1 ∧ ((P x = true ∧ ∃ e2, body e1 = some (.nx e2) ∧ I e2) ∨ (P x = false ∧ body e1 = some (.rt d)))) (ht : xs.all P = true → ∀ e, I e → rest e = r) (hf : xs.all P = false → some (.rt d) = r) : sSeq (sFor it g body) rest env = r := by
  rcases for_allT ι I P d xs env h0 step with ⟨h1, e, h2, h3⟩ | ⟨h1, h2⟩
  · exact seq_go (for_go hit h2) (ht h1 e h3)
  · rw [← hf h1]
    exact seq_rt (for_go hit h2)
theorem rngI1 {a : SE} {env : TL.Env} {n : Int} (h : a env = some (.int n)) (h0 : 0 ≤ n) (h1 : n ≤ 1000000) : iRng1 a env = some ((rangeI 0 n.toNat).map .int) := by
  simp only [iRng1, h, Option.bind_some, toI]
  exact rng_0 h0 h1
theorem ann_snoc {α : Type} (P : α → Bool) (l : List α) (x : α) : (l ++ [x]).any P = (l.any P || P x) := by
  rw [List.any_append, List.any_cons, List.any_nil, Bool.or_false]
/-- [.. for x in xs if not P x] is empty -/
theorem none_left {α : Type} (P : α → Bool) (l : List α) : decide ((((l.filter fun x => !P x)).length : Int) = 0) = l.all P := by
  induction l with
  | nil => rfl
  | cons x l ih =>
    cases h : P x with
    | true =>
      rw [List.filter_cons_of_neg (by simp [h]), ih, List.all_cons, h, Bool.true_and]
    | false =>
      rw [List.filter_cons_of_pos (by simp [h]), List.all_cons, h, Bool.false_and, List.length_cons]
      exact decide_eq_false (by omega)
theorem call4_go {m : List D → Option D} {a b c d : SE} {env : TL.Env} {x y z v : D} {o : Option D} (h1 : a env = some x) (h2 : b env = some y) (h3 : c env = some z) (h4 : d env = some v) (h5 : m [x, y, z, v] = o) : eCall m [a, b, c, d] env = o := by
  simp only [eCall, eArgs, h1, h2, h3, h4, Option.bind_some, Option.map_some]
  exact h5
theorem call2_go {m : List D → Option D} {a b : SE} {env : TL.Env} {x y : D} {o : Option D} (h1 : a env = some x) (h2 : b env = some y) (h4 : m [x, y] = o) : eCall m [a, b] env = o := by
  simp only [eCall, eArgs, h1, h2, Option.bind_some, Option.map_some]
  exact h4
end LB

set_option Elab.async false
set_option linter.all false
set_option maxRecDepth 100000
/-! The program's game: can_go, can_answer. -/
namespace LB
open PySem TL
theorem len_tp (l : List (Int × Int)) : (l.map prD).length = l.length := List.length_map ..
theorem fit_all {w u : Wd} {p : Int × Int} (ps : List (Int × Int)) {env : TL.Env} : lcGo (TL.gName 4) cYes (eCall m_goes [(eVar 0), (eVar 1), (eVar 3), (eVar 4)]) [some w.d, some u.d, some (tP ps), some (prD p), none] (ps.map prD) = some ((ps.map fun q => fitB w u p q).map .bool) :=
  lc_map prD PyData.bool (fun q => fitB w u p q) fun q _ => ⟨_, rfl, call4_go rfl rfl rfl rfl (goes_ok w u p q).1⟩
theorem grows_ok (w u : Wd) (ps : List (Int × Int)) (p : Int × Int) : m_grows [w.d, u.d, tP ps, prD p] = some (.bool (growB w u ps p)) := by
  refine run_rt rfl (ret_go (and_go (call4_go rfl rfl rfl rfl (goes_ok w u p p).1) fun _ => e1_go (lc_go (ds := ps.map prD) rfl (fit_all (env := []) ps)) ?_))
  show allD (.list ((ps.map fun q => fitB w u p q).map .bool)) = _
  simp only [allD, bools_of, Option.map_some, List.all_map]
  rfl
theorem sorted_tp (ps : List (Int × Int)) : sortedD (tP ps) = some (.list ((isort ltPr ps).map prD)) := by
  have := sorted_prs ps
  simp only [sortedD, tP] at this ⊢
  exact this
theorem put_ok {ps : List (Int × Int)} (hl : ps.length ≤ 1000) (p : Int × Int) : m_put [tP ps, prD p] = some (tP (putP ps p)) := by
  refine run_rt rfl (ret_go ?_)
  simp only [eIf]
  rw [tV_go (e2_go rfl rfl (in_tp p ps))]
  simp only [Option.bind_some]
  unfold putP
  by_cases h : p ∈ ps
  · rw [decide_eq_true h, if_pos rfl, if_pos h]
    rfl
  · rw [decide_eq_false h, if_neg (by decide), if_neg h]
    have e : (e2 addD (eVar 0) (eTup [(eVar 1)])) [some (tP ps), some (prD p)] = some (tP (ps ++ [p])) := e2_go rfl (tup1_go rfl) ((cat_t (small (by rw [List.length_map]; simp; omega))).trans (by rw [tP, List.map_append]; rfl))
    exact e1_go (e1_go e (sorted_tp _)) rfl
theorem rngItems_ok {n : Int} (h0 : 0 ≤ n) (h : n ≤ 1000000) : rngItems (rngD 0 n) = some ((rangeI 0 n.toNat).map .int) := rng_0 h0 h
/-- the loop over the answers: True at the first one that goes on -/
theorem any_loop {i : Nat} {g : SG} {c : ST} {α : Type} (ι : α → D) (P : α → Bool) (I : TL.Env → Prop) : ∀ (xs : List α) (env : TL.Env), I env → (∀ x ∈ xs, ∀ env, I env → ∃ e1, g (ι x) env = some e1 ∧ c e1 = some (P x) ∧ I e1) →
    (xs.any P = true ∧ forGo g (sIf c (sRet (eC (.bool true))) sNext) (xs.map ι) env = some (.rt (.bool true))) ∨ (xs.any P = false ∧ ∃ e, forGo g (sIf c (sRet (eC (.bool true))) sNext) (xs.map ι) env = some (.nx e) ∧ I e)
  | [], env, h, _ => .inr ⟨rfl, env, rfl, h⟩
  | x :: xs, env, h, step => by
    obtain ⟨e1, h1, h2, h3⟩ := step x List.mem_cons_self env h
    cases hp : P x with
    | true =>
      refine .inl ⟨by rw [List.any_cons, hp]; rfl, ?_⟩
      rw [List.map_cons]
      simp only [forGo, h1, Option.bind_some]
      rw [if_t (by rw [h2, hp]) (ret_go rfl)]
      rfl
    | false =>
      have hb : sIf c (sRet (eC (.bool true))) sNext e1 = some (.nx e1) := if_f (by rw [h2, hp]) rfl
      rcases any_loop (i := i) (g := g) (c := c) ι P I xs e1 h3 (fun y hy => step y (List.mem_cons_of_mem _ hy)) with ⟨h4, h5⟩ | ⟨h4, e, h5, h6⟩
      · exact .inl ⟨by rw [List.any_cons, hp, h4]; rfl, by rw [List.map_cons]; exact for_cons h1 hb h5⟩
      · exact .inr ⟨by rw [List.any_cons, hp, h4]; rfl, e, by rw [List.map_cons]; exact for_cons h1 hb h5, h6⟩
theorem runM_rt {np j nl : Nat} {body : SS} {ds : List D} {d : D} (hl : ds.length = np) (h : body ((ds.take j).map some ++ none :: ((ds.drop j).map some ++ List.replicate nl none)) = some (.rt d)) : runM np j nl body ds = some d := by
  unfold runM
  rw [if_pos hl, h]
  rfl
section
variable {w u : Wd} (wok : w.Ok) (uok : u.Ok)
include wok uok
theorem ans_ok {ps : List (Int × Int)} (hl : ps.length ≤ 1000) {k : Int} {K : List (Int × Int) → Bool} {R : List D → Option D} (side : Bool) {item : Int}
    (hR : ∀ o ∈ rangeI 0 (if side then w.n else u.n).toNat, ∀ p, p = (if side then (o, item) else (item, o)) → growB w u ps p = true → R [w.d, u.d, tP (putP ps p), .int k] = some (.bool (K (putP ps p)))) :
    m_can_answer_2 R [w.d, u.d, tP ps, .int k, .int item, .int (if side then 1 else 0)] = some (.bool ((rangeI 0 (if side then w.n else u.n).toNat).any fun o => growB w u ps (if side then (o, item) else (item, o)) && K (putP ps (if side then (o, item) else (item, o))))) := by
  have lw := wok.lo
  have lu := uok.lo
  have hw := wok.hi
  have hu := uok.hi
  let N : Int := if side then w.n else u.n
  have N0 : 0 ≤ N := by show 0 ≤ (if side = true then w.n else u.n); split <;> omega
  have N8 : N ≤ 8 := by show (if side = true then w.n else u.n) ≤ 8; split <;> omega
  let mk : Int → Int × Int := fun o => if side then (o, item) else (item, o)
  let E := fun (e7 e8 e9 e10 : Option D) => [some w.d, some u.d, some (tP ps), some (PyData.int k), none, some (PyData.int item), some (PyData.int (if side then 1 else 0)), e7, e8, e9, e10]
  have side0 : ∀ e7 e8 e9 e10, tV (e2 eqD (eVar 6) (eC (.int 0))) (E e7 e8 e9 e10) = some (!side) := fun e7 e8 e9 e10 => tV_go (e2_go rfl rfl ((eq_i _ _).trans (by cases side <;> rfl)))
  have h7 : (eRngV (eC (.int 0)) (eIf (tV (e2 eqD (eVar 6) (eC (.int 0)))) (e2 ixD (eVar 1) (eC (.int 0))) (e2 ixD (eVar 0) (eC (.int 0))))) (E none none none none) = some (rngD 0 N) := by
    have hi : eIf (tV (e2 eqD (eVar 6) (eC (.int 0)))) (e2 ixD (eVar 1) (eC (.int 0))) (e2 ixD (eVar 0) (eC (.int 0))) (E none none none none) = some (.int N) := by
      simp only [eIf]
      rw [side0]
      simp only [Option.bind_some]
      cases side with
      | false => exact e2_go rfl rfl (wdn u)
      | true => exact e2_go rfl rfl (wdn w)
    simp only [eRngV, hi, eC, Option.bind_some, toI, Option.map_some]
  have h8 : (eLc [10] (iRngO (eVar 7)) (TL.gName 10) cYes (eIf (tV (e2 eqD (eVar 6) (eC (.int 0)))) (eTup [(eVar 5), (eVar 10)]) (eTup [(eVar 10), (eVar 5)]))) (E (some (rngD 0 N)) none none none) = some (.list (((rangeI 0 N.toNat).map mk).map prD)) := by
    refine lc_go (ds := (rangeI 0 N.toNat).map .int) (rngItems_ok N0 (by omega)) (lc_map PyData.int prD mk fun o _ => ⟨E (some (rngD 0 N)) none none (some (.int o)), rfl, ?_⟩)
    simp only [eIf]
    rw [side0]
    simp only [Option.bind_some]
    show _ = some (prD (if side = true then (o, item) else (item, o)))
    cases side with
    | false => exact tup2_go rfl rfl
    | true => exact tup2_go rfl rfl
  have loop := any_loop (i := 9) (g := TL.gName 9) (c := TL.tAnd (tV (eCall m_grows [(eVar 0), (eVar 1), (eVar 2), (eVar 9)])) (tV (eCall R [(eVar 0), (eVar 1), (eCall m_put [(eVar 2), (eVar 9)]), (eVar 3)])))
    (fun o => prD (mk o)) (fun o => growB w u ps (mk o) && K (putP ps (mk o))) (fun env => ∃ e9, env = E (some (rngD 0 N)) (some (.list (((rangeI 0 N.toNat).map mk).map prD))) e9 none) (rangeI 0 N.toNat) (E (some (rngD 0 N)) (some (.list (((rangeI 0 N.toNat).map mk).map prD))) none none) ⟨_, rfl⟩ fun o ho env ⟨e9, he⟩ => by
      subst he
      refine ⟨_, rfl, ?_, _, rfl⟩
      have hg := tV_go (call4_go (a := eVar 0) (b := eVar 1) (c := eVar 2) (d := eVar 9) (env := E (some (rngD 0 N)) (some (.list (((rangeI 0 N.toNat).map mk).map prD))) (some (prD (mk o))) none) rfl rfl rfl rfl (grows_ok w u ps (mk o)))
      cases hb : growB w u ps (mk o) with
      | false =>
        rw [hb] at hg
        exact tAnd_f hg
      | true =>
        rw [hb] at hg
        refine tAnd_t hg (tV_go (call4_go rfl rfl (call2_go rfl rfl (put_ok hl (mk o))) rfl ?_))
        rw [Bool.true_and]
        exact hR o ho (mk o) rfl hb
  refine runM_rt rfl (seq_go (e := E (some (rngD 0 N)) none none none) (asg_go h7) (seq_go (e := E (some (rngD 0 N)) (some (.list (((rangeI 0 N.toNat).map mk).map prD))) none none) (asg_go h8) ?_))
  rcases loop with ⟨h1, h2⟩ | ⟨h1, e, h2, e9, he⟩
  · rw [h1]
    refine seq_rt (for_go (ds := (rangeI 0 N.toNat).map fun o => prD (mk o)) ?_ h2)
    show some _ = some _
    rw [List.map_map]; rfl
  · rw [h1]
    refine seq_go (e := e) (for_go (ds := (rangeI 0 N.toNat).map fun o => prD (mk o)) ?_ h2) (ret_go rfl)
    show some _ = some _
    rw [List.map_map]; rfl
end
theorem agp_all {α : Type} (ι : α → D) (P : α → Bool) {g : SG} {e : SE} {env : TL.Env} : ∀ {xs : List α}, (∀ x ∈ xs, ∃ e1, g (ι x) env = some e1 ∧ e e1 = some (.bool (P x))) → agGo true g e env (xs.map ι) = some (.bool (xs.all P))
  | [], _ => rfl
  | x :: xs, h => by
    obtain ⟨e1, h1, h2⟩ := h x List.mem_cons_self
    rw [List.map_cons]
    simp only [agGo, h1, h2, Option.bind_some, toB]
    cases hp : P x with
    | true => rw [if_pos rfl, agp_all ι P (fun y hy => h y (List.mem_cons_of_mem _ hy)), List.all_cons, hp]; rfl
    | false => rw [if_neg (by decide), List.all_cons, hp]; rfl
theorem agp_any {α : Type} (ι : α → D) (P : α → Bool) {g : SG} {e : SE} {env : TL.Env} : ∀ {xs : List α}, (∀ x ∈ xs, ∃ e1, g (ι x) env = some e1 ∧ e e1 = some (.bool (P x))) → agGo false g e env (xs.map ι) = some (.bool (xs.any P))
  | [], _ => rfl
  | x :: xs, h => by
    obtain ⟨e1, h1, h2⟩ := h x List.mem_cons_self
    rw [List.map_cons]
    simp only [agGo, h1, h2, Option.bind_some, toB]
    cases hp : P x with
    | false => rw [if_pos rfl, agp_any ι P (fun y hy => h y (List.mem_cons_of_mem _ hy)), List.any_cons, hp]; rfl
    | true => rw [if_neg (by decide), List.any_cons, hp]; rfl
theorem all_cong {α : Type} {P Q : α → Bool} : ∀ {l : List α}, (∀ x ∈ l, P x = Q x) → l.all P = l.all Q
  | [], _ => rfl
  | x :: l, h => by rw [List.all_cons, List.all_cons, h x List.mem_cons_self, all_cong fun y hy => h y (List.mem_cons_of_mem _ hy)]
theorem sEnd_go {u : D → Bool} {sp : D → D → D → D} {i1 i2 : Nat} {fk e : SE} {env : TL.Env} {kd d a b : D} (h1 : fk env = some kd) (h2 : e env = some d) (h3 : env.getD i1 none = some a) (h4 : env.getD i2 none = some b) (hu : u kd = true) (hd : d = sp a b kd) (hn : noDict d = true) : sEnd u sp i1 i2 fk e env = some (.rt d) := by
  simp only [sEnd, h1, h2, h3, h4, Option.bind_some]
  rw [if_pos (by rw [hu, ← hd, deq_refl hn]; rfl)]
theorem sMemo_go {u : D → Bool} {sp : D → D → D → D} {i1 i2 : Nat} {fk : SE} {blk : SS} {env : TL.Env} {kd d a b : D} (h1 : fk env = some kd) (h2 : blk env = some (.rt d)) (h3 : env.getD i1 none = some a) (h4 : env.getD i2 none = some b) (hu : u kd = true) (hd : d = sp a b kd) (hn : noDict d = true) : sMemo u sp i1 i2 fk blk env = some (.rt d) := by
  simp only [sMemo, h1, h2, h3, h4, Option.bind_some]
  rw [if_pos (by rw [hu, ← hd, deq_refl hn]; rfl)]
theorem seqN_go {f g : SS} {env e : TL.Env} {o : Option Out} (h1 : f env = some (.nx e)) (h2 : g e = o) : sSeqN f g env = o := by
  simp only [sSeqN, h1, Option.bind_some]
  exact h2
/-- what is asked of the maps that come up -/
structure Keys (w u : Wd) (C : List (Int × Int) → Nat → Prop) : Prop where
  ok : ∀ ps k, C ps k → okGo ps k = true
  ln : ∀ ps k, C ps k → ps.length ≤ 1000
  up : ∀ ps k a b, C ps (k + 1) → 0 ≤ a → a < w.n → 0 ≤ b → b < u.n → growB w u ps (a, b) = true → C (putP ps (a, b)) k
theorem spGo_of (w u : Wd) (ps : List (Int × Int)) (k : Nat) : spGo w.d u.d (.tuple [tP ps, .int k]) = .bool (canB w u k ps) := by
  show PyData.bool (canB (wdOf w.d) (wdOf u.d) (k : Int).toNat (prOf (tP ps))) = _
  rw [wdOf_d, wdOf_d, prOf_tP, Int.toNat_natCast]
theorem nd_prs : ∀ ps : List (Int × Int), noDicts (ps.map prD) = true
  | [] => rfl
  | p :: ps => by
    rw [List.map_cons, noDicts, nd_prs ps]
    rfl
theorem go_ok {w u : Wd} (wok : w.Ok) (uok : u.Ok) {C : List (Int × Int) → Nat → Prop} (kc : Keys w u C) (k n : Nat) (ps : List (Int × Int)) : C ps k → k < n → m_can_go_2 n [w.d, u.d, tP ps, .int k] = some (.bool (canB w u k ps)) := by
  induction n generalizing k ps with
  | zero => intro _ h; omega
  | succ n ih =>
   cases k with
   | zero => exact fun _ _ => runM_rt rfl (seq_rt (if_t (tV_go (e2_go rfl rfl (eq_i _ _))) (ret_go rfl)))
   | succ k =>
    intro hc hn
    have lw := wok.lo
    have lu := uok.lo
    have hw := wok.hi
    have hu := uok.hi
    have hln := kc.ln _ _ hc
    let E := fun (e5 e6 e7 : Option D) => [some w.d, some u.d, some (tP ps), some (PyData.int ((k + 1 : Nat) : Int)), none, e5, e6, e7]
    have key : ∀ e5 e6 e7, (eTup [(eVar 2), (eVar 3)]) (E e5 e6 e7) = some (.tuple [tP ps, .int ((k + 1 : Nat) : Int)]) := fun e5 e6 e7 => tup2_go rfl rfl
    have ku : uGo (.tuple [tP ps, .int ((k + 1 : Nat) : Int)]) = true := uGo_of (kc.ok _ _ hc)
    have sub1 : ∀ e5 e6 e7, (e2 subD (eVar 3) (eC (.int 1))) (E e5 e6 e7) = some (.int (k : Int)) := fun e5 e6 e7 => e2_go rfl rfl (by show some (PyData.int (((k + 1 : Nat) : Int) - 1)) = _; congr 2; omega)
    have forth : (eAg true [6] (iRng1 (e2 ixD (eVar 0) (eC (.int 0)))) (TL.gName 6) (eCall (m_can_answer_2 (m_can_go_2 n)) [(eVar 0), (eVar 1), (eVar 2), (e2 subD (eVar 3) (eC (.int 1))), (eVar 6), (eC (.int 0))])) (E none none none)
        = some (.bool ((rangeI 0 w.n.toNat).all fun a => (rangeI 0 u.n.toNat).any fun b => growB w u ps (a, b) && canB w u k (putP ps (a, b)))) := by
      simp only [eAg, iRng1]
      rw [e2_go rfl rfl (wdn w)]
      simp only [Option.bind_some, toI]
      rw [rng_0 (by omega) (by omega)]
      refine agp_all PyData.int _ fun a ha => ⟨E none (some (.int a)) none, rfl, ?_⟩
      have har := rangeI_mem.mp ha
      simp only [eCall, eArgs, sub1, eVar, eC, E, List.getD_cons_zero, List.getD_cons_succ, Option.bind_some, Option.map_some]
      exact ans_ok wok uok hln false (K := canB w u k) (fun o ho p hp hg => by
        subst hp
        have hor := rangeI_mem.mp ho
        simp only [Bool.false_eq_true, if_false] at hor hg ⊢
        exact ih k _ (kc.up _ _ _ _ hc (by omega) (by omega) (by omega) (by omega) hg) (by omega))
    have back : ∀ v5, (eAg true [7] (iRng1 (e2 ixD (eVar 1) (eC (.int 0)))) (TL.gName 7) (eCall (m_can_answer_2 (m_can_go_2 n)) [(eVar 0), (eVar 1), (eVar 2), (e2 subD (eVar 3) (eC (.int 1))), (eVar 7), (eC (.int 1))])) (E v5 none none)
        = some (.bool ((rangeI 0 u.n.toNat).all fun b => (rangeI 0 w.n.toNat).any fun a => growB w u ps (a, b) && canB w u k (putP ps (a, b)))) := fun v5 => by
      simp only [eAg, iRng1]
      rw [e2_go rfl rfl (wdn u)]
      simp only [Option.bind_some, toI]
      rw [rng_0 (by omega) (by omega)]
      refine agp_all PyData.int _ fun b hb => ⟨E v5 none (some (.int b)), rfl, ?_⟩
      have hbr := rangeI_mem.mp hb
      simp only [eCall, eArgs, sub1, eVar, eC, E, List.getD_cons_zero, List.getD_cons_succ, Option.bind_some, Option.map_some]
      exact ans_ok wok uok hln true (K := canB w u k) (fun o ho p hp hg => by
        subst hp
        have hor := rangeI_mem.mp ho
        simp only [if_true] at hor hg ⊢
        exact ih k _ (kc.up _ _ _ _ hc (by omega) (by omega) (by omega) (by omega) hg) (by omega))
    refine runM_rt rfl (seq_go (e := E none none none) (if_f (tV_go (e2_go rfl rfl ((eq_i _ _).trans (by rw [decide_eq_false (by omega)])))) rfl) ?_)
    have hd : PyData.bool (((rangeI 0 w.n.toNat).all fun a => (rangeI 0 u.n.toNat).any fun b => growB w u ps (a, b) && canB w u k (putP ps (a, b))) && (rangeI 0 u.n.toNat).all fun b => (rangeI 0 w.n.toNat).any fun a => growB w u ps (a, b) && canB w u k (putP ps (a, b))) = spGo w.d u.d (.tuple [tP ps, .int ((k + 1 : Nat) : Int)]) := by
      rw [spGo_of]
      rfl
    have hr : canB w u (k + 1) ps = (((rangeI 0 w.n.toNat).all fun a => (rangeI 0 u.n.toNat).any fun b => growB w u ps (a, b) && canB w u k (putP ps (a, b))) && (rangeI 0 u.n.toNat).all fun b => (rangeI 0 w.n.toNat).any fun a => growB w u ps (a, b) && canB w u k (putP ps (a, b))) := rfl
    rw [hr]
    exact sMemo_go (key _ _ _) (seqN_go (asg_go forth) (sEnd_go (key _ _ _) (and_go rfl fun _ => back _) rfl rfl ku hd rfl)) rfl rfl ku hd rfl
/-! the keys of a game of at most three rounds -/
def C3 (w u : Wd) (ps : List (Int × Int)) (k : Nat) : Prop := ps.length + k ≤ 3 ∧ ∀ p ∈ ps, 0 ≤ p.1 ∧ p.1 < w.n ∧ 0 ≤ p.2 ∧ p.2 < u.n
theorem putP_mem {ps : List (Int × Int)} {p q : Int × Int} : q ∈ putP ps p ↔ q = p ∨ q ∈ ps := by
  unfold putP
  split
  · rename_i h
    exact ⟨.inr, fun z => z.elim (fun e => by rw [e]; exact h) id⟩
  · rw [(isort_perm _).mem_iff, List.mem_append, List.mem_singleton]
    exact or_comm
theorem putP_len (ps : List (Int × Int)) (p : Int × Int) : (putP ps p).length ≤ ps.length + 1 := by
  unfold putP
  split
  · omega
  · rw [(isort_perm _).length_eq, List.length_append, List.length_singleton]
    exact Nat.le_refl _
theorem keys3 {w u : Wd} (wok : w.Ok) (uok : u.Ok) : Keys w u (C3 w u) where
  ok := fun ps k ⟨h1, h2⟩ => by
    have hw := wok.hi
    have hu := uok.hi
    have ha : ps.all (inR 8) = true := List.all_eq_true.mpr fun p hp => by
      have := h2 p hp
      simp only [inR, Bool.and_eq_true, decide_eq_true_eq]
      omega
    simp only [okGo, ha, Bool.true_and, Bool.and_eq_true, Bool.or_eq_true, decide_eq_true_eq, Nat.ble_eq]
    exact ⟨by omega, .inl (by omega)⟩
  ln := fun ps k ⟨h1, _⟩ => by omega
  up := fun ps k a b ⟨h1, h2⟩ a0 a1 b0 b1 _ => by
    refine ⟨?_, fun p hp => ?_⟩
    · have := putP_len ps (a, b)
      omega
    · rcases putP_mem.mp hp with rfl | hp
      · exact ⟨a0, a1, b0, b1⟩
      · exact h2 p hp
theorem agree_ok {w u : Wd} (wok : w.Ok) (uok : u.Ok) {k : Nat} (hk : k ≤ 3) : m_agree_2 [w.d, u.d, .int k] = some (.bool (canB w u k [])) := by
  have := go_ok wok uok (keys3 wok uok) k 8 [] ⟨by simpa using hk, fun p hp => by cases hp⟩ (by omega)
  refine run_rt rfl (ret_go ?_)
  simp only [eCall, eArgs, eVar, eTup, List.map_cons, List.map_nil, List.replicate, List.append_nil, List.getD_cons_zero, List.getD_cons_succ, Option.bind_some, Option.map_some, List.length_nil, Nat.zero_le, if_true]
  exact this
end LB

set_option Elab.async false
set_option linter.all false
set_option maxRecDepth 100000
/-! The law's own game, and what both games have in common. -/
namespace LB
open PySem TL
def mkP (side : Bool) (item o : Int) : Int × Int := if side then (o, item) else (item, o)
def lawB (w u : Wd) : Nat → List (Int × Int) → Bool
  | 0, _ => true
  | k + 1, ps => [false, true].all fun side => (rangeI 0 (if side then u.n else w.n).toNat).all fun item => (rangeI 0 (if side then w.n else u.n).toNat).any fun o =>
    (ps ++ [mkP side item o]).all (fun q => fitB w u (mkP side item o) q) && lawB w u k (ps ++ [mkP side item o])
def sideI (side : Bool) : Int := if side then 1 else 0
theorem law_can_ok {w u : Wd} (wok : w.Ok) (uok : u.Ok) (n k : Nat) (ps : List (Int × Int)) : ps.length + k ≤ 1000 → k < n → m__law_can n [w.d, u.d, tP ps, .int k] = some (.bool (lawB w u k ps)) := by
  have lw := wok.lo
  have lu := uok.lo
  have hw := wok.hi
  have hu := uok.hi
  induction n generalizing k ps with
  | zero => intro _ h; omega
  | succ n ih =>
   cases k with
   | zero => exact fun _ _ => run_rt rfl (seq_rt (if_t (tV_go (e2_go rfl rfl (eq_i _ _))) (ret_go rfl)))
   | succ k =>
    intro hlen hn
    let E := fun (e4 e5 e6 e7 e8 : Option D) => [some w.d, some u.d, some (tP ps), some (PyData.int ((k + 1 : Nat) : Int)), e4, e5, e6, e7, e8, none]
    let Q := fun (side : Bool) (item o : Int) => (ps ++ [mkP side item o]).all (fun q => fitB w u (mkP side item o) q) && lawB w u k (ps ++ [mkP side item o])
    have nn : ∀ (side : Bool) (i j : Nat) (f g : Wd → Int), True := fun _ _ _ _ _ => trivial
    have ends : ∀ (side : Bool) (e5 e6 e7 e8 : Option D), (e2 ixD (eLst [(e2 ixD (eVar 0) (eC (.int 0))), (e2 ixD (eVar 1) (eC (.int 0)))]) (eVar 4)) (E (some (.int (sideI side))) e5 e6 e7 e8) = some (.int (if side then u.n else w.n)) := fun side e5 e6 e7 e8 => by cases side <;> rfl
    have ends2 : ∀ (side : Bool) (e5 e6 e7 e8 : Option D), (e2 ixD (eLst [(e2 ixD (eVar 1) (eC (.int 0))), (e2 ixD (eVar 0) (eC (.int 0)))]) (eVar 4)) (E (some (.int (sideI side))) e5 e6 e7 e8) = some (.int (if side then w.n else u.n)) := fun side e5 e6 e7 e8 => by cases side <;> rfl
    have pr : ∀ (side : Bool) (item o : Int) (e6 e8 : Option D), (e2 ixD (eLst [(eTup [(eVar 5), (eVar 7)]), (eTup [(eVar 7), (eVar 5)])]) (eVar 4)) (E (some (.int (sideI side))) (some (.int item)) e6 (some (.int o)) e8) = some (prD (mkP side item o)) := fun side item o e6 e8 => by cases side <;> rfl
    have cat : ∀ (p : Int × Int) (e4 e5 e6 e7 : Option D), (e2 addD (eVar 2) (eTup [(eVar 8)])) (E e4 e5 e6 e7 (some (prD p))) = some (tP (ps ++ [p])) := fun p e4 e5 e6 e7 => e2_go rfl (tup1_go rfl) ((cat_t (small (by rw [List.length_map]; simp; omega))).trans (by rw [tP, List.map_append]; rfl))
    have fitl : ∀ (p : Int × Int) (e4 e5 e6 e7 : Option D), tV (e2 eqD (e1 lenD (eLc [9] (iSeq (e2 addD (eVar 2) (eTup [(eVar 8)]))) (TL.gName 9) (TL.tNot (tV (eCall m__law_fit [(eVar 0), (eVar 1), (eVar 8), (eVar 9)]))) (eVar 9))) (eC (.int 0))) (E e4 e5 e6 e7 (some (prD p))) = some ((ps ++ [p]).all fun q => fitB w u p q) := fun p e4 e5 e6 e7 => by
      have hl := lc_filter (g := TL.gName 9) (c := TL.tNot (tV (eCall m__law_fit [(eVar 0), (eVar 1), (eVar 8), (eVar 9)]))) (e := eVar 9) (env := E e4 e5 e6 e7 (some (prD p))) prD prD (fun q => !fitB w u p q) id (zs := ps ++ [p]) fun q _ => ⟨_, rfl, by
        simp only [TL.tNot]
        rw [tV_go (call4_go rfl rfl rfl rfl (goes_ok w u p q).2)]
        rfl, fun _ => rfl⟩
      rw [List.map_id] at hl
      refine tV_go (e2_go (e1_go (lc_go (ds := (ps ++ [p]).map prD) ?_ hl) (len_l _)) rfl ((eq_i _ _).trans ?_))
      · simp only [iSeq, cat, Option.bind_some, tP, itemsD]
      · rw [List.length_map, none_left]
    have inner : ∀ (side : Bool) (item : Int) (e7 e8 : Option D), ∃ e7' e8', forGo (TL.gName 7) (sSeq (sAsg (e2 ixD (eLst [(eTup [(eVar 5), (eVar 7)]), (eTup [(eVar 7), (eVar 5)])]) (eVar 4)) (TL.gName 8))
      (sIf (TL.tAnd (TL.tNot (tV (eVar 6))) (tV (e2 eqD (e1 lenD (eLc [9] (iSeq (e2 addD (eVar 2) (eTup [(eVar 8)]))) (TL.gName 9) (TL.tNot (tV (eCall m__law_fit [(eVar 0), (eVar 1), (eVar 8), (eVar 9)]))) (eVar 9))) (eC (.int 0)))))
      (sAsg (eCall (m__law_can n) [(eVar 0), (eVar 1), (e2 addD (eVar 2) (eTup [(eVar 8)])), (e2 subD (eVar 3) (eC (.int 1)))]) (TL.gName 6))
      sNext)) ((rangeI 0 (if side then w.n else u.n).toNat).map .int) (E (some (.int (sideI side))) (some (.int item)) (some (.bool false)) e7 e8) = some (.nx (E (some (.int (sideI side))) (some (.int item)) (some (.bool ((rangeI 0 (if side then w.n else u.n).toNat).any (Q side item)))) e7' e8')) := fun side item e7 e8 => by
      obtain ⟨e, h1, f7, f8, he⟩ := for_invT (g := TL.gName 7) (body := (sSeq (sAsg (e2 ixD (eLst [(eTup [(eVar 5), (eVar 7)]), (eTup [(eVar 7), (eVar 5)])]) (eVar 4)) (TL.gName 8))
        (sIf (TL.tAnd (TL.tNot (tV (eVar 6))) (tV (e2 eqD (e1 lenD (eLc [9] (iSeq (e2 addD (eVar 2) (eTup [(eVar 8)]))) (TL.gName 9) (TL.tNot (tV (eCall m__law_fit [(eVar 0), (eVar 1), (eVar 8), (eVar 9)]))) (eVar 9))) (eC (.int 0)))))
        (sAsg (eCall (m__law_can n) [(eVar 0), (eVar 1), (e2 addD (eVar 2) (eTup [(eVar 8)])), (e2 subD (eVar 3) (eC (.int 1)))]) (TL.gName 6))
        sNext))) PyData.int (fun done env => ∃ e7 e8, env = E (some (.int (sideI side))) (some (.int item)) (some (.bool (done.any (Q side item)))) e7 e8) (rangeI 0 (if side then w.n else u.n).toNat) [] _ ⟨e7, e8, rfl⟩ fun o ho done env ⟨x7, x8, hx⟩ => by
          subst hx
          refine ⟨_, rfl, E (some (.int (sideI side))) (some (.int item)) (some (.bool ((done ++ [o]).any (Q side item)))) (some (.int o)) (some (prD (mkP side item o))), .inl (seq_go (asg_go (pr side item o _ _)) ?_), ⟨_, _, rfl⟩⟩
          have hf : ∀ b, TL.tNot (tV (eVar 6)) (E (some (.int (sideI side))) (some (.int item)) (some (.bool b)) (some (.int o)) (some (prD (mkP side item o)))) = some (!b) := fun b => rfl
          show sIf _ _ _ (E (some (.int (sideI side))) (some (.int item)) (some (.bool (done.any (Q side item)))) (some (.int o)) (some (prD (mkP side item o)))) = _
          rw [ann_snoc]
          cases hd : done.any (Q side item) with
          | true => exact if_f (tAnd_f (hf true)) rfl
          | false =>
            cases hq : (ps ++ [mkP side item o]).all (fun q => fitB w u (mkP side item o) q) with
            | false =>
              refine if_f (tAnd_t (hf false) ((fitl _ _ _ _ _).trans (congrArg some hq))) ?_
              show some (Out.nx _) = _
              have : Q side item o = false := by show (_ && _) = false; rw [hq]; rfl
              rw [this]
              rfl
            | true =>
              refine if_t (tAnd_t (hf false) ((fitl _ _ _ _ _).trans (congrArg some hq))) ?_
              have hr := ih k (ps ++ [mkP side item o]) (by rw [List.length_append, List.length_singleton]; omega) (by omega)
              have : Q side item o = lawB w u k (ps ++ [mkP side item o]) := by show (_ && _) = _; rw [hq]; rfl
              rw [this]
              exact asg_go (call4_go rfl rfl (cat _ _ _ _ _) (e2_go rfl rfl (by show some (PyData.int (((k + 1 : Nat) : Int) - 1)) = some (.int (k : Int)); congr 2; omega)) hr)
      rw [List.nil_append] at he
      exact ⟨f7, f8, h1.trans (congrArg (fun x => some (Out.nx x)) he)⟩
    have nb : ∀ side : Bool, 0 ≤ (if side then w.n else u.n) ∧ (if side then w.n else u.n) ≤ 8 ∧ 0 ≤ (if side then u.n else w.n) ∧ (if side then u.n else w.n) ≤ 8 := fun side => by cases side <;> simp <;> omega
    have mid : ∀ (side : Bool) (e5 e6 e7 e8 : Option D), _ := fun side e5 e6 e7 e8 => for_allT (g := TL.gName 5) (body := (sSeq (sAsg (eC (.bool false)) (TL.gName 6))
      (sSeq (sFor (iRng1 (e2 ixD (eLst [(e2 ixD (eVar 1) (eC (.int 0))), (e2 ixD (eVar 0) (eC (.int 0)))]) (eVar 4))) (TL.gName 7)
      (sSeq (sAsg (e2 ixD (eLst [(eTup [(eVar 5), (eVar 7)]), (eTup [(eVar 7), (eVar 5)])]) (eVar 4)) (TL.gName 8))
      (sIf (TL.tAnd (TL.tNot (tV (eVar 6))) (tV (e2 eqD (e1 lenD (eLc [9] (iSeq (e2 addD (eVar 2) (eTup [(eVar 8)]))) (TL.gName 9) (TL.tNot (tV (eCall m__law_fit [(eVar 0), (eVar 1), (eVar 8), (eVar 9)]))) (eVar 9))) (eC (.int 0)))))
      (sAsg (eCall (m__law_can n) [(eVar 0), (eVar 1), (e2 addD (eVar 2) (eTup [(eVar 8)])), (e2 subD (eVar 3) (eC (.int 1)))]) (TL.gName 6))
      sNext)))
      (sIf (TL.tNot (tV (eVar 6)))
      (sRet (eC (.bool false)))
      sNext)))) PyData.int (fun env => ∃ e5 e6 e7 e8, env = E (some (.int (sideI side))) e5 e6 e7 e8) (fun item => (rangeI 0 (if side then w.n else u.n).toNat).any (Q side item)) (.bool false) (rangeI 0 (if side then u.n else w.n).toNat) (E (some (.int (sideI side))) e5 e6 e7 e8) ⟨_, _, _, _, rfl⟩ fun item hi env ⟨x5, x6, x7, x8, hx⟩ => by
        subst hx
        refine ⟨_, rfl, ?_⟩
        obtain ⟨f7, f8, hin⟩ := inner side item x7 x8
        have hb := nb side
        have go : ∀ r, sIf (TL.tNot (tV (eVar 6))) (sRet (eC (.bool false))) sNext (E (some (.int (sideI side))) (some (.int item)) (some (.bool ((rangeI 0 (if side then w.n else u.n).toNat).any (Q side item)))) f7 f8) = r → _ := fun r hr => seq_go (a := sAsg (eC (.bool false)) (TL.gName 6)) (env := E (some (.int (sideI side))) (some (.int item)) x6 x7 x8) (e := E (some (.int (sideI side))) (some (.int item)) (some (.bool false)) x7 x8) rfl (seq_go (for_go (rngI1 (ends2 side _ _ _ _) (by omega) (by omega)) hin) hr)
        cases hq : (rangeI 0 (if side then w.n else u.n).toNat).any (Q side item) with
        | true =>
          rw [hq] at go
          exact .inl ⟨rfl, _, go _ (if_f rfl rfl), ⟨_, _, _, _, rfl⟩⟩
        | false =>
          rw [hq] at go
          exact .inr ⟨rfl, go _ (if_t rfl (ret_go rfl))⟩
    refine run_rt rfl (seq_go (e := E none none none none none) (if_f (tV_go (e2_go rfl rfl ((eq_i _ _).trans (by rw [decide_eq_false (by omega)])))) rfl) ?_)
    have hb0 := nb false
    have hb1 := nb true
    have top := for_allT (g := TL.gName 4) (body := (sFor (iRng1 (e2 ixD (eLst [(e2 ixD (eVar 0) (eC (.int 0))), (e2 ixD (eVar 1) (eC (.int 0)))]) (eVar 4))) (TL.gName 5)
      (sSeq (sAsg (eC (.bool false)) (TL.gName 6))
      (sSeq (sFor (iRng1 (e2 ixD (eLst [(e2 ixD (eVar 1) (eC (.int 0))), (e2 ixD (eVar 0) (eC (.int 0)))]) (eVar 4))) (TL.gName 7)
      (sSeq (sAsg (e2 ixD (eLst [(eTup [(eVar 5), (eVar 7)]), (eTup [(eVar 7), (eVar 5)])]) (eVar 4)) (TL.gName 8))
      (sIf (TL.tAnd (TL.tNot (tV (eVar 6))) (tV (e2 eqD (e1 lenD (eLc [9] (iSeq (e2 addD (eVar 2) (eTup [(eVar 8)]))) (TL.gName 9) (TL.tNot (tV (eCall m__law_fit [(eVar 0), (eVar 1), (eVar 8), (eVar 9)]))) (eVar 9))) (eC (.int 0)))))
      (sAsg (eCall (m__law_can n) [(eVar 0), (eVar 1), (e2 addD (eVar 2) (eTup [(eVar 8)])), (e2 subD (eVar 3) (eC (.int 1)))]) (TL.gName 6))
      sNext)))
      (sIf (TL.tNot (tV (eVar 6)))
      (sRet (eC (.bool false)))
      sNext))))) (fun s => PyData.int (sideI s)) (fun env => ∃ e4 e5 e6 e7 e8, env = E e4 e5 e6 e7 e8) (fun side => (rangeI 0 (if side then u.n else w.n).toNat).all fun item => (rangeI 0 (if side then w.n else u.n).toNat).any (Q side item)) (.bool false) [false, true] (E none none none none none) ⟨_, _, _, _, _, rfl⟩ fun side _ env ⟨x4, x5, x6, x7, x8, hx⟩ => by
        subst hx
        refine ⟨_, rfl, ?_⟩
        have hb := nb side
        rcases mid side x5 x6 x7 x8 with ⟨h1, e, h2, y5, y6, y7, y8, he⟩ | ⟨h1, h2⟩
        · exact .inl ⟨h1, e, for_go (rngI1 (ends side _ _ _ _) (by omega) (by omega)) h2, he ▸ ⟨_, _, _, _, _, rfl⟩⟩
        · exact .inr ⟨h1, for_go (rngI1 (ends side _ _ _ _) (by omega) (by omega)) h2⟩
    have hr : lawB w u (k + 1) ps = [false, true].all fun side => (rangeI 0 (if side then u.n else w.n).toNat).all fun item => (rangeI 0 (if side then w.n else u.n).toNat).any (Q side item) := rfl
    rw [hr]
    rcases top with ⟨h1, e, h2, y4, y5, y6, y7, y8, he⟩ | ⟨h1, h2⟩
    · rw [h1]
      exact seq_go (for_go (ds := [false, true].map fun s => PyData.int (sideI s)) rfl h2) (by rw [he]; exact ret_go rfl)
    · rw [h1]
      exact seq_rt (for_go (ds := [false, true].map fun s => PyData.int (sideI s)) rfl h2)
/-! both games -/
theorem all_set {α : Type} {P : α → Bool} {l m : List α} (h : ∀ x, x ∈ l ↔ x ∈ m) : l.all P = m.all P := by
  rw [Bool.eq_iff_iff, List.all_eq_true, List.all_eq_true]
  exact ⟨fun z x hx => z x ((h x).mpr hx), fun z x hx => z x ((h x).mp hx)⟩
theorem any_cong {α : Type} {P Q : α → Bool} : ∀ {l : List α}, (∀ x ∈ l, P x = Q x) → l.any P = l.any Q
  | [], _ => rfl
  | x :: l, h => by rw [List.any_cons, List.any_cons, h x List.mem_cons_self, any_cong fun y hy => h y (List.mem_cons_of_mem _ hy)]
theorem can_law (w u : Wd) : ∀ (k : Nat) {ps qs : List (Int × Int)}, (∀ p, p ∈ ps ↔ p ∈ qs) → canB w u k ps = lawB w u k qs
  | 0, _, _, _ => rfl
  | k + 1, ps, qs, h => by
    have step : ∀ p, (growB w u ps p && canB w u k (putP ps p)) = ((qs ++ [p]).all (fun q => fitB w u p q) && lawB w u k (qs ++ [p])) := fun p => by
      rw [can_law w u k (ps := putP ps p) (qs := qs ++ [p]) fun q => by rw [putP_mem, List.mem_append, List.mem_singleton, h q]; exact or_comm]
      congr 1
      unfold growB
      rw [List.all_append, List.all_cons, List.all_nil, Bool.and_true, all_set h, Bool.and_comm]
    show (_ && _) = _
    rw [lawB]
    simp only [List.all_cons, List.all_nil, Bool.and_true, if_true, Bool.false_eq_true, if_false, mkP]
    congr 1
    · exact all_cong fun a _ => any_cong fun b _ => step (a, b)
    · exact all_cong fun b _ => any_cong fun a _ => step (a, b)
def swp (p : Int × Int) : Int × Int := (p.2, p.1)
theorem dec_comm (a b : Bool) : decide (a = b) = decide (b = a) := by cases a <;> cases b <;> rfl
theorem fit_swap (w u : Wd) (p q : Int × Int) : fitB w u p q = fitB u w (swp p) (swp q) := by
  unfold fitB swp
  rw [dec_comm (decide (p.1 = q.1)), dec_comm (decide (p.1 ∈ w.m0)), dec_comm (decide (p.1 ∈ w.m1)), dec_comm (decide ((p.1, q.1) ∈ w.ar)), dec_comm (decide ((q.1, p.1) ∈ w.ar))]
theorem can_swap (w u : Wd) : ∀ (k : Nat) {ps qs : List (Int × Int)}, (∀ p, p ∈ ps ↔ swp p ∈ qs) → canB w u k ps = canB u w k qs
  | 0, _, _, _ => rfl
  | k + 1, ps, qs, h => by
    have step : ∀ p, (growB w u ps p && canB w u k (putP ps p)) = (growB u w qs (swp p) && canB u w k (putP qs (swp p))) := fun p => by
      rw [can_swap w u k (ps := putP ps p) (qs := putP qs (swp p)) fun q => by
        rw [putP_mem, putP_mem, h q]
        exact or_congr ⟨fun e => by rw [e], fun e => by
          have := congrArg swp e
          exact this⟩ Iff.rfl]
      congr 1
      unfold growB
      rw [fit_swap]
      congr 1
      rw [Bool.eq_iff_iff, List.all_eq_true, List.all_eq_true]
      exact ⟨fun z q hq => by
        have := z (swp q) ((h (swp q)).mpr hq)
        rw [fit_swap] at this
        exact this, fun z q hq => by
        rw [fit_swap]
        exact z (swp q) ((h q).mp hq)⟩
    show (_ && _) = (_ && _)
    rw [Bool.and_comm]
    congr 1
    · exact all_cong fun b _ => any_cong fun a _ => step (a, b)
    · exact all_cong fun a _ => any_cong fun b _ => step (a, b)
theorem fit_diag {w : Wd} {p q : Int × Int} (hp : p.1 = p.2) (hq : q.1 = q.2) : fitB w w p q = true := by
  unfold fitB
  rw [hp, hq]
  simp
theorem can_self (w : Wd) : ∀ (k : Nat) {ps : List (Int × Int)}, (∀ p ∈ ps, p.1 = p.2) → canB w w k ps = true
  | 0, _, _ => rfl
  | k + 1, ps, h => by
    have step : ∀ a : Int, (growB w w ps (a, a) && canB w w k (putP ps (a, a))) = true := fun a => by
      rw [can_self w k fun p hp => ?_, Bool.and_true]
      · unfold growB
        rw [fit_diag rfl rfl, Bool.true_and, List.all_eq_true]
        exact fun q hq => fit_diag rfl (h q hq)
      · rcases putP_mem.mp hp with rfl | hp
        · rfl
        · exact h p hp
    show (_ && _) = true
    rw [Bool.and_eq_true, List.all_eq_true, List.all_eq_true]
    exact ⟨fun a ha => List.any_eq_true.mpr ⟨a, ha, step a⟩, fun a ha => List.any_eq_true.mpr ⟨a, ha, step a⟩⟩
end LB

set_option Elab.async false
set_option linter.all false
set_option maxRecDepth 100000
/-! Law k18: agree against the law's own game. -/
namespace LB
open PySem TL
theorem law_agree_ok {w u : Wd} (wok : w.Ok) (uok : u.Ok) {k : Nat} (hk : k ≤ 50) : m__law_agree [w.d, u.d, .int k] = some (.bool (canB w u k [])) := by
  rw [can_law w u k (qs := []) fun p => Iff.rfl]
  refine run_rt rfl (ret_go ?_)
  exact call4_go (z := tP []) rfl rfl rfl rfl (law_can_ok wok uok 60 k [] (by simpa using by omega) (by omega))
theorem agree_swap {w u : Wd} (wok : w.Ok) (uok : u.Ok) {k : Nat} (hk : k ≤ 3) : m_agree_2 [u.d, w.d, .int k] = some (.bool (canB w u k [])) := by
  rw [can_swap w u k (qs := []) fun p => by simp]
  exact agree_ok uok wok hk
theorem agree_self {w : Wd} (wok : w.Ok) {k : Nat} (hk : k ≤ 3) : m_agree_2 [w.d, w.d, .int k] = some (.bool true) := by
  have := agree_ok wok wok hk
  rw [can_self w k fun p hp => by cases hp] at this
  exact this
theorem tN_go {a : ST} {env : TL.Env} {b : Bool} (h : a env = some b) : TL.tNot a env = some (!b) := by
  simp only [TL.tNot, h, Option.map_some]
theorem law_true_k18 (ns : List Int) (h : ns.length ≤ 63) : m_law_k18 [.list (ns.map .int)] = some (.bool true) := by
  refine run_rt rfl ?_
  let E := fun (e1 e2 e3 e4 e5 e6 : Option D) => [some (PyData.list (ns.map .int)), e1, e2, e3, e4, e5, e6]
  refine seq_for_inv PyData.int (fun _ env => ∃ e1 e2 e3 e4 e5 e6, env = E e1 e2 e3 e4 e5 e6) (rangeI 0 2) (rngI1 (n := 2) rfl (by decide) (by decide)) ⟨_, _, _, _, _, _, rfl⟩ ?_ fun e ⟨_, _, _, _, _, _, he⟩ => by rw [he]; exact ret_go rfl
  rintro t ht done env ⟨y1, y2, y3, y4, y5, y6, rfl⟩
  have htr := rangeI_mem.mp ht
  obtain ⟨m, rfl⟩ : ∃ m : Nat, t = m := ⟨t.toNat, by omega⟩
  obtain ⟨c, hc⟩ := cell_ok ns m
  obtain ⟨rs, hd, hlen, hr⟩ := draws_ok c 80 (by decide)
  obtain ⟨w, u, hwu, wok, uok, _⟩ := pair_ok rs (by omega) (by omega) hr 5 (by decide) (by decide)
  have lw := wok.lo
  have hw := wok.hi
  have hx := hr _ (getD_mem (rs := rs) (i := 60) (by omega))
  let k0 : Int := rs.getD 60 0 % 4
  let big : Bool := decide ((4 : Int) < if u.n > w.n then u.n else w.n)
  let k1 : Int := if big = true then (if (2 : Int) < k0 then 2 else k0) else k0
  have k1r : 0 ≤ k1 ∧ k1 ≤ 3 := by
    show 0 ≤ (if big = true then (if (2 : Int) < k0 then 2 else k0) else k0) ∧ (if big = true then (if (2 : Int) < k0 then 2 else k0) else k0) ≤ 3
    have : 0 ≤ k0 ∧ k0 ≤ 3 := by
      show 0 ≤ rs.getD 60 0 % 4 ∧ rs.getD 60 0 % 4 ≤ 3
      omega
    split
    · split <;> omega
    · omega
  obtain ⟨k, hk⟩ : ∃ k : Nat, k1 = k := ⟨k1.toNat, by omega⟩
  have k3 : k ≤ 3 := by omega
  let F := fun (y3 y4 : Option D) => E (some (.int m)) (some (.list (rs.map .int))) y3 y4 (some w.d) (some u.d)
  refine ⟨_, rfl, F (some (.int k)) (some (.bool (canB w u k []))), .inl ?_, ⟨_, _, _, _, _, _, rfl⟩⟩
  refine seq_go (e := E (some (.int m)) (some (.list (rs.map .int))) y3 y4 y5 y6) (asg_go (call2_go (call2_go rfl rfl hc) rfl hd)) ?_
  refine seq_go (e := F y3 y4) ?_ ?_
  · simp only [sAsg]
    rw [call2_go rfl rfl hwu]
    rfl
  refine seq_go (e := F (some (.int k0)) y4) (asg_go (e2_go (e2_go rfl rfl (ix_ints (by decide) (by omega))) rfl (mod_n (by decide)))) ?_
  refine seq_go (e := F (some (.int k)) y4) ?_ ?_
  · have hb : tV (e2 gtD (e2 max2D (e2 ixD (eVar 5) (eC (.int 0))) (e2 ixD (eVar 6) (eC (.int 0)))) (eC (.int 4))) (F (some (.int k0)) y4) = some big := tV_go (e2_go (e2_go (e2_go rfl rfl (wdn w)) (e2_go rfl rfl (wdn u)) rfl) rfl rfl)
    rw [← hk]
    show sIf _ _ _ _ = some (.nx (F (some (.int (if big = true then (if (2 : Int) < k0 then 2 else k0) else k0))) y4))
    cases hbb : big with
    | true =>
      rw [hbb] at hb
      exact if_t hb (asg_go (e2_go rfl rfl rfl))
    | false =>
      rw [hbb] at hb
      exact if_f hb rfl
  refine seq_go (e := F (some (.int k)) (some (.bool (canB w u k [])))) (asg_go (call3_go rfl rfl rfl (law_agree_ok wok uok (by omega)))) ?_
  have chk : ∀ {a : SE} {env : TL.Env} {b : Bool}, a env = some (.bool b) → env.getD 4 none = some (.bool b) → TL.tNot (tV (eCall m__law_is_bool [a, eVar 4])) env = some false := fun {a env b} h1 h2 => by
    rw [tN_go (tV_go (call2_go h1 h2 (isbool_ok b b)))]
    simp
  exact if_f (tOr_f (chk (call3_go rfl rfl rfl (agree_ok wok uok k3)) rfl) (tOr_f (chk (call3_go rfl rfl rfl (agree_swap wok uok k3)) rfl) (tV_go (e2_go (call3_go rfl rfl rfl (agree_self wok k3)) rfl rfl)))) rfl
end LB

set_option Elab.async false
set_option linter.all false
set_option maxRecDepth 100000
set_option maxHeartbeats 4000000
namespace K18
open PySem PySem.Spec PyProof.Rows L2 TL
def topS (i : Nat) : Stmt := PySem.Challenge.pw_backforth_k18_agreement_told.main.body.getD i (.Pass ⟨0, 0, 0, 0⟩)
structure Top (K : PySem.W.Frag) (mg : Str → Option Value) (w : World) (base : Heap) where
  f_goes : Addr
  fd_goes : FuncData
  F_goes : Fun K "goes" "goes" (topS 1) f_goes fd_goes
  g_goes : mg "goes" = some (.ref f_goes)
  b_goes : Binds K fd_goes ["one", "two", "first", "last"] []
  f_grows : Addr
  fd_grows : FuncData
  F_grows : Fun K "grows" "grows" (topS 2) f_grows fd_grows
  g_grows : mg "grows" = some (.ref f_grows)
  b_grows : Binds K fd_grows ["one", "two", "pairs", "pair"] []
  f_put : Addr
  fd_put : FuncData
  F_put : Fun K "put" "put" (topS 3) f_put fd_put
  g_put : mg "put" = some (.ref f_put)
  b_put : Binds K fd_put ["pairs", "pair"] []
  f_can_answer : Addr
  fd_can_answer : FuncData
  F_can_answer : Fun K "can_answer" "can_answer" (topS 5) f_can_answer fd_can_answer
  g_can_answer : mg "can_answer" = some (.ref f_can_answer)
  b_can_answer : Binds K fd_can_answer ["one", "two", "pairs", "k", "known", "item", "place"] []
  f_can_go : Addr
  fd_can_go : FuncData
  c_can_go : Addr
  p_can_go : Addr
  F_can_go : FunC K "can_go" "can_go" (topS 6) f_can_go fd_can_go c_can_go
  g_can_go : mg "can_go" = some (.ref f_can_go)
  b_can_go : Binds K fd_can_go ["one", "two", "pairs", "k", "known"] []
  t_can_go : PySem.W.tabIn K "can_go" = some (c_can_go, p_can_go)
  tb_can_go : GxR.TabB base mg c_can_go p_can_go
  f_agree : Addr
  fd_agree : FuncData
  F_agree : Fun K "agree" "agree" (topS 7) f_agree fd_agree
  g_agree : mg "agree" = some (.ref f_agree)
  b_agree : Binds K fd_agree ["one", "two", "k"] []
  f__law_cell : Addr
  fd__law_cell : FuncData
  F__law_cell : Fun K "_law_cell" "_law_cell" (topS 9) f__law_cell fd__law_cell
  g__law_cell : mg "_law_cell" = some (.ref f__law_cell)
  b__law_cell : Binds K fd__law_cell ["script", "k"] []
  f__law_draws : Addr
  fd__law_draws : FuncData
  F__law_draws : Fun K "_law_draws" "_law_draws" (topS 10) f__law_draws fd__law_draws
  g__law_draws : mg "_law_draws" = some (.ref f__law_draws)
  b__law_draws : Binds K fd__law_draws ["cell", "amount"] []
  f__law_is_bool : Addr
  fd__law_is_bool : FuncData
  F__law_is_bool : Fun K "_law_is_bool" "_law_is_bool" (topS 11) f__law_is_bool fd__law_is_bool
  g__law_is_bool : mg "_law_is_bool" = some (.ref f__law_is_bool)
  b__law_is_bool : Binds K fd__law_is_bool ["x", "due"] []
  f__law_names : Addr
  fd__law_names : FuncData
  F__law_names : Fun K "_law_names" "_law_names" (topS 12) f__law_names fd__law_names
  g__law_names : mg "_law_names" = some (.ref f__law_names)
  b__law_names : Binds K fd__law_names ["draws", "at", "n"] []
  f__law_line : Addr
  fd__law_line : FuncData
  F__law_line : Fun K "_law_line" "_law_line" (topS 13) f__law_line fd__law_line
  g__law_line : mg "_law_line" = some (.ref f__law_line)
  b__law_line : Binds K fd__law_line ["n"] []
  f__law_ring : Addr
  fd__law_ring : FuncData
  F__law_ring : Fun K "_law_ring" "_law_ring" (topS 14) f__law_ring fd__law_ring
  g__law_ring : mg "_law_ring" = some (.ref f__law_ring)
  b__law_ring : Binds K fd__law_ring ["n"] []
  f__law_both_ways : Addr
  fd__law_both_ways : FuncData
  F__law_both_ways : Fun K "_law_both_ways" "_law_both_ways" (topS 15) f__law_both_ways fd__law_both_ways
  g__law_both_ways : mg "_law_both_ways" = some (.ref f__law_both_ways)
  b__law_both_ways : Binds K fd__law_both_ways ["n", "edges"] []
  f__law_renamed : Addr
  fd__law_renamed : FuncData
  F__law_renamed : Fun K "_law_renamed" "_law_renamed" (topS 16) f__law_renamed fd__law_renamed
  g__law_renamed : mg "_law_renamed" = some (.ref f__law_renamed)
  b__law_renamed : Binds K fd__law_renamed ["world", "names"] []
  f__law_special : Addr
  fd__law_special : FuncData
  F__law_special : Fun K "_law_special" "_law_special" (topS 17) f__law_special fd__law_special
  g__law_special : mg "_law_special" = some (.ref f__law_special)
  b__law_special : Binds K fd__law_special ["number"] []
  f__law_world : Addr
  fd__law_world : FuncData
  F__law_world : Fun K "_law_world" "_law_world" (topS 18) f__law_world fd__law_world
  g__law_world : mg "_law_world" = some (.ref f__law_world)
  b__law_world : Binds K fd__law_world ["draws", "most"] []
  f__law_pair : Addr
  fd__law_pair : FuncData
  F__law_pair : Fun K "_law_pair" "_law_pair" (topS 19) f__law_pair fd__law_pair
  g__law_pair : mg "_law_pair" = some (.ref f__law_pair)
  b__law_pair : Binds K fd__law_pair ["draws", "most"] []
  f__law_fit : Addr
  fd__law_fit : FuncData
  F__law_fit : Fun K "_law_fit" "_law_fit" (topS 20) f__law_fit fd__law_fit
  g__law_fit : mg "_law_fit" = some (.ref f__law_fit)
  b__law_fit : Binds K fd__law_fit ["one", "two", "x", "y"] []
  f__law_can : Addr
  fd__law_can : FuncData
  F__law_can : Fun K "_law_can" "_law_can" (topS 21) f__law_can fd__law_can
  g__law_can : mg "_law_can" = some (.ref f__law_can)
  b__law_can : Binds K fd__law_can ["one", "two", "pairs", "k"] []
  f__law_agree : Addr
  fd__law_agree : FuncData
  F__law_agree : Fun K "_law_agree" "_law_agree" (topS 22) f__law_agree fd__law_agree
  g__law_agree : mg "_law_agree" = some (.ref f__law_agree)
  b__law_agree : Binds K fd__law_agree ["one", "two", "k"] []
  f_law : Addr
  fd_law : FuncData
  F_law : Fun K "law" "law" (topS 23) f_law fd_law
  g_law : mg "law" = some (.ref f_law)
  b_law : Binds K fd_law ["script"] []
  z_all : mg "all" = none
  z_any : mg "any" = none
  z_dense_truth : mg "dense_truth" = none
  z_int : mg "int" = none
  z_len : mg "len" = none
  z_line_truth : mg "line_truth" = none
  z_list : mg "list" = none
  z_max : mg "max" = none
  z_min : mg "min" = none
  z_range : mg "range" = none
  z_sorted : mg "sorted" = none
  z_steps_truth : mg "steps_truth" = none
  z_truth : mg "truth" = none
  z_tuple : mg "tuple" = none
end K18

set_option Elab.async false
set_option linter.all false
set_option maxRecDepth 100000
set_option maxHeartbeats 4000000
namespace K18
open PySem PySem.Spec PyProof.Rows L2 TL
section
variable {P : Program} {w : World} {K : PySem.W.Frag} {mg : Str → Option Value} {base : Heap}
abbrev s_goes : Stmt := topS 1
theorem sc_goes : FnScope ["one", "two", "first", "last", "a", "b", "c", "d", "i"] ["one", "two", "first", "last"] (defScope s_goes) := ⟨rfl, rfl, rfl, by decide +kernel, rfl, by decide +kernel, by decide +kernel⟩
theorem ok_goes (T : Top K mg w base) : FnOk P w K mg base CX0 1 T.f_goes T.fd_goes ["one", "two", "first", "last"] (spV ⟨K, mg⟩ 4 LB.m_goes) :=
  fnV (G := ⟨K, mg⟩) T.F_goes sc_goes rfl (Oe := []) fun cdv A outer s H E hr =>
    (bc (sasg (ev 2) (gt rfl (gsc (gn 4 sc_goes.nd) (gsc (gn 5 sc_goes.nd) gsn))))
      (bc (sasg (ev 3) (gt rfl (gsc (gn 6 sc_goes.nd) (gsc (gn 7 sc_goes.nd) gsn))))
      (bc (sif (O' := []) (tc (o_ne (u64 hr)) (vb (ec (o_eq (u64 hr)) (eb 4) (eb 6))) (vb (ec (o_eq (u64 hr)) (eb 5) (eb 7))))
      (bo (sret ebl))
      bn)
      (bc (sif (O' := []) (tv (eB (c_any rfl) rfl T.z_any (by decide +kernel) (nb (elc (own := [("i", 8)]) rfl sc_goes.nd (iseqB (vb (etup (ac ei (ac ei an))))) (blkOk_by (by kernel_rfl)) (fun _ _ _ _ _ => (gn 8 sc_goes.nd)) (fun _ _ _ _ _ => pyes) (fun _ _ _ _ _ => (ec (o_ne (u64 hr)) (vb (ec (o_in (u65 hr)) (eb 4) (vb (eix (vb (eix (eb 0) (vb ei))) (eb 8))))) (vb (ec (o_in (u65 hr)) (eb 5) (vb (eix (vb (eix (eb 1) (vb ei))) (eb 8)))))))))))
      (bo (sret ebl))
      bn)
      (bo (sret (eand (ec (o_eq (u64 hr)) (vb (ec (o_in (u65 hr)) (vb (etup (ac (ev 4) (ac (ev 6) an)))) (vb (eix (eb 0) (vb ei))))) (vb (ec (o_in (u65 hr)) (vb (etup (ac (ev 5) (ac (ev 7) an)))) (vb (eix (eb 1) (vb ei)))))) (eone (ec (o_eq (u64 hr)) (vb (ec (o_in (u65 hr)) (vb (etup (ac (ev 6) (ac (ev 4) an)))) (vb (eix (eb 0) (vb ei))))) (vb (ec (o_in (u65 hr)) (vb (etup (ac (ev 7) (ac (ev 5) an)))) (vb (eix (eb 1) (vb ei))))))))))))))
abbrev s_grows : Stmt := topS 2
theorem sc_grows : FnScope ["one", "two", "pairs", "pair", "other"] ["one", "two", "pairs", "pair"] (defScope s_grows) := ⟨rfl, rfl, rfl, by decide +kernel, rfl, by decide +kernel, by decide +kernel⟩
theorem ok_grows (T : Top K mg w base) : FnOk P w K mg base CX0 2 T.f_grows T.fd_grows ["one", "two", "pairs", "pair"] (spV ⟨K, mg⟩ 4 LB.m_grows) :=
  fnV (G := ⟨K, mg⟩) T.F_grows sc_grows rfl (Oe := []) fun cdv A outer s H E hr =>
    (bo (sret (eand (ecall (ok_goes T) (hr.mono (by omega)) rfl T.g_goes T.F_goes.kp T.b_goes (ac (ev 0) (ac (ev 1) (ac (ev 3) (ac (ev 3) an))))) (eone (eB (c_all rfl) rfl T.z_all (by decide +kernel) (nb (elc (own := [("other", 4)]) rfl sc_grows.nd (iseqB (eb 2)) (blkOk_by (by kernel_rfl)) (fun _ _ _ _ _ => (gn 4 sc_grows.nd)) (fun _ _ _ _ _ => pyes) (fun _ _ _ _ _ => (ecall (ok_goes T) (hr.mono (by omega)) rfl T.g_goes T.F_goes.kp T.b_goes (ac (ev 0) (ac (ev 1) (ac (ev 3) (ac (ev 4) an)))))))))))))
abbrev s_put : Stmt := topS 3
theorem sc_put : FnScope ["pairs", "pair"] ["pairs", "pair"] (defScope s_put) := ⟨rfl, rfl, rfl, by decide +kernel, rfl, by decide +kernel, by decide +kernel⟩
theorem ok_put (T : Top K mg w base) : FnOk P w K mg base CX0 1 T.f_put T.fd_put ["pairs", "pair"] (spV ⟨K, mg⟩ 2 LB.m_put) :=
  fnV (G := ⟨K, mg⟩) T.F_put sc_put rfl (Oe := []) fun cdv A outer s H E hr =>
    (bo (sret (eif (tc (o_in (u65 hr)) (eb 1) (eb 0)) (ev 0) (eT c_tuple rfl T.z_tuple (by decide +kernel) (nb (eBN c_sorted rfl T.z_sorted (by decide +kernel) (vb (eo o_add (eb 0) (vb (etup (ac (ev 1) an)))))))))))
abbrev s_can_answer : Stmt := topS 5
theorem sc_can_answer : FnScope ["one", "two", "pairs", "k", "known", "item", "place", "others", "answers", "pair", "other"] ["one", "two", "pairs", "k", "known", "item", "place"] (defScope s_can_answer) := ⟨rfl, rfl, rfl, by decide +kernel, rfl, by decide +kernel, by decide +kernel⟩
theorem ok_can_answer (T : Top K mg w base) (n : Nat) (ih : FnOk P w K mg base CX0 (3 * n + 2) T.f_can_go T.fd_can_go ["one", "two", "pairs", "k", "known"] (spM ⟨P, w, ⟨K, mg⟩, LB.uGo, LB.spGo⟩ 4 4 0 1 (LB.m_can_go_2 n))) : FnOk P w K mg base CX0 (3 * n + 3) T.f_can_answer T.fd_can_answer ["one", "two", "pairs", "k", "known", "item", "place"] (spM ⟨P, w, ⟨K, mg⟩, LB.uGo, LB.spGo⟩ 6 4 0 1 (LB.m_can_answer_2 (LB.m_can_go_2 n))) :=
  fnM (G := ⟨K, mg⟩) (k := 3 * n + 2) (S := ⟨4, 0, 1⟩) T.F_can_answer sc_can_answer rfl rfl ⟨rfl, by decide⟩ (by decide) (by decide) fun cdv A outer s H E hr =>
    (mbc (mset 7 sc_can_answer.nd (mlift (erngV1 rfl T.z_range (eif (tc (o_eq (u64 hr)) (eb 6) (vb ei)) (eix (eb 1) (vb ei)) (eix (eb 0) (vb ei))))))
      (mbc (msetL (own := [("other", 10)]) 8 rfl sc_can_answer.nd (sw_true rfl rfl rfl (by decide +kernel)) (irngO (ev 7)) (blkOk_by (by kernel_rfl)) (fun _ _ _ _ _ => (gn 10 sc_can_answer.nd)) (fun _ _ _ _ _ => (mpT pyes)) (fun _ _ _ _ _ => (mlift (eif (tc (o_eq (u64 hr)) (eb 6) (vb ei)) (etup (ac (ev 5) (ac (ev 10) an))) (etup (ac (ev 10) (ac (ev 5) an)))))) (keep_name 10))
      (mbc (mfor (O := []) PassesOwn.never rfl (iseq (ev 8)) (gn 9 sc_can_answer.nd)
      (mbo (mif_ (O' := []) (mtw (mtand (mliftT (tv (ecall (ok_grows T) (hr.mono (by omega)) rfl T.g_grows T.F_grows.kp T.b_grows (ac (ev 0) (ac (ev 1) (ac (ev 2) (ac (ev 9) an))))))) (mtone1 (mtv (mcall ih (hr.mono (by omega)) rfl T.g_can_go T.F_can_go.kp T.b_can_go (mk_cons (mlift (ev 0)) (mk_cons (mlift (ev 1)) (mk_cons (mlift (ecall (ok_put T) (hr.mono (by omega)) rfl T.g_put T.F_put.kp T.b_put (ac (ev 2) (ac (ev 9) an)))) (mk_cons (mlift (ev 3)) (mk_here man))))))))))
      (mbo (mret (mlift ebl)))
      mbn)) (keep_name 9))
      (mbo (mret (mlift ebl))))))
abbrev s_can_go : Stmt := topS 6
theorem sc_can_go : FnScope ["one", "two", "pairs", "k", "known", "forth", "a", "b"] ["one", "two", "pairs", "k", "known"] (defScope s_can_go) := ⟨rfl, rfl, rfl, by decide +kernel, rfl, by decide +kernel, by decide +kernel⟩
theorem ok_can_go (T : Top K mg w base) : ∀ n, FnOk P w K mg base CX0 (3 * n + 2) T.f_can_go T.fd_can_go ["one", "two", "pairs", "k", "known"] (spM ⟨P, w, ⟨K, mg⟩, LB.uGo, LB.spGo⟩ 4 4 0 1 (LB.m_can_go_2 n))
  | 0 => fnNever fun vs H Q E h => by obtain ⟨_, _, _, _, _, _, _, _, _, _, _, _, _, _, _, h, _⟩ := h; cases h
  | n + 1 => by
    have ih := ok_can_go T n
    exact fnMC (G := ⟨K, mg⟩) (k := 3 * n + 4) (S := ⟨4, 0, 1⟩) T.F_can_go sc_can_go rfl rfl ⟨rfl, by decide⟩ (by decide) (by decide) fun A outer s H E hr =>
    (mbc (mif_ (O' := []) (mliftT (tc (o_eq (u64 hr)) (eb 3) (vb ei)))
      (mbo (mret (mlift ebl)))
      mbn)
      (mmemo LB.ok_uGo (u64 hr) (etup (ac (ev 2) (ac (ev 3) an))) (etup (ac (ev 2) (ac (ev 3) an)))
      (mbk_cons (mset 5 sc_can_go.nd (mall (own := [("a", 6)]) T.t_can_go T.tb_can_go rfl hr rfl T.z_all sc_can_go.nd (genOk_by (by kernel_rfl) rfl (by kernel_rfl) (by kernel_rfl)) (irng1 rfl T.z_range (eix (eb 0) (vb ei))) (fun _ _ _ _ _ _ _ => (gn 6 sc_can_go.nd)) (fun _ _ _ _ _ _ _ hr' => (mcall (ok_can_answer T n ih) (hr'.mono (by omega)) rfl T.g_can_answer T.F_can_answer.kp T.b_can_answer (mk_cons (mlift (ev 0)) (mk_cons (mlift (ev 1)) (mk_cons (mlift (ev 2)) (mk_cons (mlift (eo o_sub (eb 3) (vb ei))) (mk_here (mac (mlift (ev 6)) (mac (mlift ei) man))))))))) (keep_name 6)))
      (mbk_end LB.ok_uGo (u64 hr) (etup (ac (ev 2) (ac (ev 3) an))) (mand (mlift (ev 5)) (mone (mall (own := [("b", 7)]) T.t_can_go T.tb_can_go rfl hr rfl T.z_all sc_can_go.nd (genOk_by (by kernel_rfl) rfl (by kernel_rfl) (by kernel_rfl)) (irng1 rfl T.z_range (eix (eb 1) (vb ei))) (fun _ _ _ _ _ _ _ => (gn 7 sc_can_go.nd)) (fun _ _ _ _ _ _ _ hr' => (mcall (ok_can_answer T n ih) (hr'.mono (by omega)) rfl T.g_can_answer T.F_can_answer.kp T.b_can_answer (mk_cons (mlift (ev 0)) (mk_cons (mlift (ev 1)) (mk_cons (mlift (ev 2)) (mk_cons (mlift (eo o_sub (eb 3) (vb ei))) (mk_here (mac (mlift (ev 7)) (mac (mlift ei) man))))))))) (keep_name 7))))))))
abbrev s_agree : Stmt := topS 7
theorem sc_agree : FnScope ["one", "two", "k"] ["one", "two", "k"] (defScope s_agree) := ⟨rfl, rfl, rfl, by decide +kernel, rfl, by decide +kernel, by decide +kernel⟩
theorem ok_agree (T : Top K mg w base) : FnOk P w K mg base CX0 27 T.f_agree T.fd_agree ["one", "two", "k"] (spV ⟨K, mg⟩ 3 LB.m_agree_2) :=
  fnV (G := ⟨K, mg⟩) T.F_agree sc_agree rfl (Oe := []) fun cdv A outer s H E hr =>
    (bo (sret (ecallM (u := LB.uGo) (sp := LB.spGo) (ok_can_go T 8) (hr.mono (by omega)) rfl T.g_can_go T.F_can_go.kp T.b_can_go (ak_cons (ev 0) (ak_cons (ev 1) (ak_cons (etup an) (ak_cons (ev 2) ak_end)))))))
abbrev s__law_cell : Stmt := topS 9
theorem sc__law_cell : FnScope ["script", "k"] ["script", "k"] (defScope s__law_cell) := ⟨rfl, rfl, rfl, by decide +kernel, rfl, by decide +kernel, by decide +kernel⟩
theorem ok__law_cell (T : Top K mg w base) : FnOk P w K mg base CX0 1 T.f__law_cell T.fd__law_cell ["script", "k"] (spV ⟨K, mg⟩ 2 LB.m__law_cell) :=
  fnV (G := ⟨K, mg⟩) T.F__law_cell sc__law_cell rfl (Oe := []) fun cdv A outer s H E hr =>
    (bc (sif (O' := []) (tc (o_lt (u0 hr)) (eb 1) (vb (eB c_len rfl T.z_len (by decide +kernel) (eb 0))))
      (bo (sret (eix (eb 0) (eb 1))))
      bn)
      (bo (sret ei)))
abbrev s__law_draws : Stmt := topS 10
theorem sc__law_draws : FnScope ["cell", "amount", "rows", "left", "k", "blended"] ["cell", "amount"] (defScope s__law_draws) := ⟨rfl, rfl, rfl, by decide +kernel, rfl, by decide +kernel, by decide +kernel⟩
theorem ok__law_draws (T : Top K mg w base) : FnOk P w K mg base CX0 1 T.f__law_draws T.fd__law_draws ["cell", "amount"] (spV ⟨K, mg⟩ 2 LB.m__law_draws) :=
  fnV (G := ⟨K, mg⟩) T.F__law_draws sc__law_draws rfl (Oe := []) fun cdv A outer s H E hr =>
    (bc (ssetN 2 sc__law_draws.nd (elst an))
      (bc (sset 3 sc__law_draws.nd (ev 0))
      (bc (sfor (O := [2]) PassesOwn.never rfl (irng1 rfl T.z_range (ev 1)) (gn 4 sc__law_draws.nd)
      (bo (sif (O' := [2]) (tw (tand (tc (o_ge (u0 hr)) (eb 0) (vb (eo o_pow (vb ei) (vb ei)))) (tone1 (tc (o_gt (u0 hr)) (eb 3) (vb ei)))))
      (bc (sapp 2 (eo o_mod (vb (eT c_int rfl T.z_int (by decide +kernel) (eb 3))) (vb ei)))
      (bo (sset 3 sc__law_draws.nd (eo o_fdiv (eb 3) (vb ei)))))
      (bc (sset 5 sc__law_draws.nd (eo o_mod (vb (eT c_int rfl T.z_int (by decide +kernel) (vb (eo o_add (vb (eo o_mul (eb 0) (vb ei))) (vb (eo o_mul (vb (eo o_add (eb 4) (vb ei))) (vb ei))))))) (vb ei)))
      (bc (sset 5 sc__law_draws.nd (eo o_mod (vb (eT c_int rfl T.z_int (by decide +kernel) (vb (eo o_add (vb (eo o_add (vb (eo o_mul (eb 5) (eb 5))) (vb (eo o_mul (eb 5) (vb ei))))) (vb (eo o_mul (eb 4) (vb ei))))))) (vb ei)))
      (bc (sset 5 sc__law_draws.nd (eo o_mod (vb (eT c_int rfl T.z_int (by decide +kernel) (vb (eo o_add (vb (eo o_add (vb (eo o_mul (eb 5) (eb 5))) (eb 0))) (vb (eo o_mul (vb ei) (eb 4))))))) (vb ei)))
      (bo (sapp 2 (eo o_mod (vb (eo o_fdiv (eb 5) (vb ei))) (vb ei))))))))))
      (bo (spre (O' := []) (sret (ev 2)))))))
abbrev s__law_is_bool : Stmt := topS 11
theorem sc__law_is_bool : FnScope ["x", "due"] ["x", "due"] (defScope s__law_is_bool) := ⟨rfl, rfl, rfl, by decide +kernel, rfl, by decide +kernel, by decide +kernel⟩
theorem ok__law_is_bool (T : Top K mg w base) : FnOk P w K mg base CX0 1 T.f__law_is_bool T.fd__law_is_bool ["x", "due"] (spV ⟨K, mg⟩ 2 LB.m__law_is_bool) :=
  fnV (G := ⟨K, mg⟩) T.F__law_is_bool sc__law_is_bool rfl (Oe := []) fun cdv A outer s H E hr =>
    (bc (sif (O' := []) (tv (ev 1))
      (bo (sret (ec o_is (eb 0) (vb ebl))))
      bn)
      (bo (sret (ec o_is (eb 0) (vb ebl)))))
abbrev s__law_names : Stmt := topS 12
theorem sc__law_names : FnScope ["draws", "at", "n", "left", "found", "k"] ["draws", "at", "n"] (defScope s__law_names) := ⟨rfl, rfl, rfl, by decide +kernel, rfl, by decide +kernel, by decide +kernel⟩
theorem ok__law_names (T : Top K mg w base) : FnOk P w K mg base CX0 1 T.f__law_names T.fd__law_names ["draws", "at", "n"] (spV ⟨K, mg⟩ 3 LB.m__law_names) :=
  fnV (G := ⟨K, mg⟩) T.F__law_names sc__law_names rfl (Oe := []) fun cdv A outer s H E hr =>
    (bc (ssetN 3 sc__law_names.nd (erngL rfl rfl T.z_list rfl T.z_range (ev 2)))
      (bc (sset 4 sc__law_names.nd (etup an))
      (bc (sfor (O := [3]) PassesOwn.never rfl (irng1 rfl T.z_range (ev 2)) (gn 5 sc__law_names.nd)
      (bo (spopAdd 4 3 sc__law_names.nd (eo o_mod (vb (eT c_int rfl T.z_int (by decide +kernel) (vb (eix (eb 0) (vb (eo o_mod (vb (eo o_add (eb 1) (eb 5))) (vb (eB c_len rfl T.z_len (by decide +kernel) (eb 0))))))))) (vb (eB c_len rfl T.z_len (by decide +kernel) (eb 3)))))))
      (bo (sret (ev 4))))))
abbrev s__law_line : Stmt := topS 13
theorem sc__law_line : FnScope ["n", "pairs", "a", "b"] ["n"] (defScope s__law_line) := ⟨rfl, rfl, rfl, by decide +kernel, rfl, by decide +kernel, by decide +kernel⟩
theorem ok__law_line (T : Top K mg w base) : FnOk P w K mg base CX0 1 T.f__law_line T.fd__law_line ["n"] (spV ⟨K, mg⟩ 1 LB.m__law_line) :=
  fnV (G := ⟨K, mg⟩) T.F__law_line sc__law_line rfl (Oe := []) fun cdv A outer s H E hr =>
    (bc (sset 1 sc__law_line.nd (etup an))
      (bc (sfor (O := []) PassesOwn.never rfl (irng1 rfl T.z_range (ev 0)) (gn 2 sc__law_line.nd)
      (bo (sset 1 sc__law_line.nd (eo o_add (eb 1) (vb (eT c_tuple rfl T.z_tuple (by decide +kernel) (nb (elc (own := [("b", 3)]) rfl sc__law_line.nd (iv_b (irng2 rfl T.z_range (eo o_add (eb 2) (vb ei)) (ev 0))) (blkOk_by (by kernel_rfl)) (fun _ _ _ _ _ => (gn 3 sc__law_line.nd)) (fun _ _ _ _ _ => pyes) (fun _ _ _ _ _ => (etup (ac (ev 2) (ac (ev 3) an))))))))))))
      (bo (sret (etup (ac (ev 0) (ac (etup (ac (etup an) (ac (etup an) an))) (ac (ev 1) an))))))))
abbrev s__law_ring : Stmt := topS 14
theorem sc__law_ring : FnScope ["n", "a"] ["n"] (defScope s__law_ring) := ⟨rfl, rfl, rfl, by decide +kernel, rfl, by decide +kernel, by decide +kernel⟩
theorem ok__law_ring (T : Top K mg w base) : FnOk P w K mg base CX0 1 T.f__law_ring T.fd__law_ring ["n"] (spV ⟨K, mg⟩ 1 LB.m__law_ring) :=
  fnV (G := ⟨K, mg⟩) T.F__law_ring sc__law_ring rfl (Oe := []) fun cdv A outer s H E hr =>
    (bo (sret (etup (ac (ev 0) (ac (etup (ac (etup an) (ac (etup an) an))) (ac (eT c_tuple rfl T.z_tuple (by decide +kernel) (nb (eBN c_sorted rfl T.z_sorted (by decide +kernel) (nb (elc (own := [("a", 1)]) rfl sc__law_ring.nd (iv_b (irng1 rfl T.z_range (ev 0))) (blkOk_by (by kernel_rfl)) (fun _ _ _ _ _ => (gn 1 sc__law_ring.nd)) (fun _ _ _ _ _ => pyes) (fun _ _ _ _ _ => (etup (ac (ev 1) (ac (eo o_mod (vb (eo o_add (eb 1) (vb ei))) (eb 0)) an))))))))) an))))))
abbrev s__law_both_ways : Stmt := topS 15
theorem sc__law_both_ways : FnScope ["n", "edges", "pair", "a", "b"] ["n", "edges"] (defScope s__law_both_ways) := ⟨rfl, rfl, rfl, by decide +kernel, rfl, by decide +kernel, by decide +kernel⟩
theorem ok__law_both_ways (T : Top K mg w base) : FnOk P w K mg base CX0 1 T.f__law_both_ways T.fd__law_both_ways ["n", "edges"] (spV ⟨K, mg⟩ 2 LB.m__law_both_ways) :=
  fnV (G := ⟨K, mg⟩) T.F__law_both_ways sc__law_both_ways rfl (Oe := []) fun cdv A outer s H E hr =>
    (bo (sret (etup (ac (ev 0) (ac (etup (ac (etup an) (ac (etup an) an))) (ac (eT c_tuple rfl T.z_tuple (by decide +kernel) (nb (eBN c_sorted rfl T.z_sorted (by decide +kernel) (vb (eo o_add (nb (elc (own := [("pair", 2)]) rfl sc__law_both_ways.nd (iseqB (eb 1)) (blkOk_by (by kernel_rfl)) (fun _ _ _ _ _ => (gn 2 sc__law_both_ways.nd)) (fun _ _ _ _ _ => pyes) (fun _ _ _ _ _ => (ev 2)))) (nb (elc (own := [("a", 3), ("b", 4)]) rfl sc__law_both_ways.nd (iseqB (eb 1)) (blkOk_by (by kernel_rfl)) (fun _ _ _ _ _ => (gt rfl (gsc (gn 3 sc__law_both_ways.nd) (gsc (gn 4 sc__law_both_ways.nd) gsn)))) (fun _ _ _ _ _ => pyes) (fun _ _ _ _ _ => (etup (ac (ev 4) (ac (ev 3) an))))))))))) an))))))
abbrev s__law_renamed : Stmt := topS 16
theorem sc__law_renamed : FnScope ["world", "names", "marks", "items", "a", "b"] ["world", "names"] (defScope s__law_renamed) := ⟨rfl, rfl, rfl, by decide +kernel, rfl, by decide +kernel, by decide +kernel⟩
theorem ok__law_renamed (T : Top K mg w base) : FnOk P w K mg base CX0 1 T.f__law_renamed T.fd__law_renamed ["world", "names"] (spV ⟨K, mg⟩ 2 LB.m__law_renamed) :=
  fnV (G := ⟨K, mg⟩) T.F__law_renamed sc__law_renamed rfl (Oe := []) fun cdv A outer s H E hr =>
    (bc (sset 2 sc__law_renamed.nd (eT c_tuple rfl T.z_tuple (by decide +kernel) (nb (elc (own := [("items", 3)]) rfl sc__law_renamed.nd (iseqB (vb (eix (eb 0) (vb ei)))) (blkOk_by (by kernel_rfl)) (fun _ _ _ _ _ => (gn 3 sc__law_renamed.nd)) (fun _ _ _ _ _ => pyes) (fun _ _ _ _ _ => (eT c_tuple rfl T.z_tuple (by decide +kernel) (nb (eBN c_sorted rfl T.z_sorted (by decide +kernel) (nb (elc (own := [("a", 4)]) rfl sc__law_renamed.nd (iseqB (eb 3)) (blkOk_by (by kernel_rfl)) (fun _ _ _ _ _ => (gn 4 sc__law_renamed.nd)) (fun _ _ _ _ _ => pyes) (fun _ _ _ _ _ => (eix (eb 1) (eb 4)))))))))))))
      (bo (sret (etup (ac (eix (eb 0) (vb ei)) (ac (ev 2) (ac (eT c_tuple rfl T.z_tuple (by decide +kernel) (nb (eBN c_sorted rfl T.z_sorted (by decide +kernel) (nb (elc (own := [("a", 4), ("b", 5)]) rfl sc__law_renamed.nd (iseqB (vb (eix (eb 0) (vb ei)))) (blkOk_by (by kernel_rfl)) (fun _ _ _ _ _ => (gt rfl (gsc (gn 4 sc__law_renamed.nd) (gsc (gn 5 sc__law_renamed.nd) gsn)))) (fun _ _ _ _ _ => pyes) (fun _ _ _ _ _ => (etup (ac (eix (eb 1) (eb 4)) (ac (eix (eb 1) (eb 5)) an))))))))) an)))))))
abbrev s__law_special : Stmt := topS 17
theorem sc__law_special : FnScope ["number", "rows"] ["number"] (defScope s__law_special) := ⟨rfl, rfl, rfl, by decide +kernel, rfl, by decide +kernel, by decide +kernel⟩
theorem ok__law_special (T : Top K mg w base) : FnOk P w K mg base CX0 2 T.f__law_special T.fd__law_special ["number"] (spV ⟨K, mg⟩ 1 LB.m__law_special) :=
  fnV (G := ⟨K, mg⟩) T.F__law_special sc__law_special rfl (Oe := []) fun cdv A outer s H E hr =>
    (bc (sset 1 sc__law_special.nd (nv (elst (ac (ecall (ok__law_line T) (hr.mono (by omega)) rfl T.g__law_line T.F__law_line.kp T.b__law_line (ac ei an)) (ac (ecall (ok__law_line T) (hr.mono (by omega)) rfl T.g__law_line T.F__law_line.kp T.b__law_line (ac ei an)) (ac (ecall (ok__law_ring T) (hr.mono (by omega)) rfl T.g__law_ring T.F__law_ring.kp T.b__law_ring (ac ei an)) (ac (ecall (ok__law_ring T) (hr.mono (by omega)) rfl T.g__law_ring T.F__law_ring.kp T.b__law_ring (ac ei an)) (ac (etup (ac ei (ac (etup (ac (etup an) (ac (etup an) an))) (ac (etup an) an)))) (ac (etup (ac ei (ac (etup (ac (etup an) (ac (etup an) an))) (ac (etup an) an)))) (ac (etup (ac ei (ac (etup (ac (etup an) (ac (etup an) an))) (ac (etup an) an)))) an))))))))))
      (bc (sset 1 sc__law_special.nd (eo o_add (eb 1) (nb (elst (ac (ecall (ok__law_both_ways T) (hr.mono (by omega)) rfl T.g__law_both_ways T.F__law_both_ways.kp T.b__law_both_ways (ac ei (ac (etup (ac (etup (ac ei (ac ei an))) (ac (etup (ac ei (ac ei an))) (ac (etup (ac ei (ac ei an))) an)))) an))) (ac (ecall (ok__law_both_ways T) (hr.mono (by omega)) rfl T.g__law_both_ways T.F__law_both_ways.kp T.b__law_both_ways (ac ei (ac (etup (ac (etup (ac ei (ac ei an))) (ac (etup (ac ei (ac ei an))) (ac (etup (ac ei (ac ei an))) (ac (etup (ac ei (ac ei an))) an))))) an))) (ac (ecall (ok__law_both_ways T) (hr.mono (by omega)) rfl T.g__law_both_ways T.F__law_both_ways.kp T.b__law_both_ways (ac ei (ac (etup (ac (etup (ac ei (ac ei an))) (ac (etup (ac ei (ac ei an))) (ac (etup (ac ei (ac ei an))) an)))) an))) an)))))))
      (bo (sret (eix (eb 1) (vb (eo o_mod (eb 0) (vb (eB c_len rfl T.z_len (by decide +kernel) (eb 1))))))))))
abbrev s__law_world : Stmt := topS 18
theorem sc__law_world : FnScope ["draws", "most", "n", "dense", "marked", "marks", "i", "arrows", "at", "a", "b"] ["draws", "most"] (defScope s__law_world) := ⟨rfl, rfl, rfl, by decide +kernel, rfl, by decide +kernel, by decide +kernel⟩
theorem ok__law_world (T : Top K mg w base) : FnOk P w K mg base CX0 3 T.f__law_world T.fd__law_world ["draws", "most"] (spV ⟨K, mg⟩ 2 LB.m__law_world) :=
  fnV (G := ⟨K, mg⟩) T.F__law_world sc__law_world rfl (Oe := []) fun cdv A outer s H E hr =>
    (bc (sset 2 sc__law_world.nd (eo o_add (vb ei) (vb (eo o_mod (vb (eT c_int rfl T.z_int (by decide +kernel) (vb (eix (eb 0) (vb ei))))) (eb 1)))))
      (bc (sif (O' := []) (tw (tand (tc (o_eq (u64 hr)) (vb (eo o_mod (vb (eix (eb 0) (vb ei))) (vb ei))) (vb ei)) (tone1 (tc (o_le (u0 hr)) (vb (eix (vb (ecall (ok__law_special T) (hr.mono (by omega)) rfl T.g__law_special T.F__law_special.kp T.b__law_special (ac (eT c_int rfl T.z_int (by decide +kernel) (vb (eix (eb 0) (vb ei)))) an))) (vb ei))) (eb 1)))))
      (bo (sret (ecall (ok__law_special T) (hr.mono (by omega)) rfl T.g__law_special T.F__law_special.kp T.b__law_special (ac (eT c_int rfl T.z_int (by decide +kernel) (vb (eix (eb 0) (vb ei)))) an))))
      bn)
      (bc (sset 3 sc__law_world.nd (eix (nb (elst (ac ei (ac ei (ac ei (ac ei an)))))) (vb (eo o_mod (vb (eo o_fdiv (vb (eT c_int rfl T.z_int (by decide +kernel) (vb (eix (eb 0) (vb ei))))) (vb ei))) (vb ei)))))
      (bc (sset 4 sc__law_world.nd (eix (nb (elst (ac ei (ac ei (ac ei (ac ei an)))))) (vb (eo o_mod (vb (eo o_fdiv (vb (eT c_int rfl T.z_int (by decide +kernel) (vb (eix (eb 0) (vb ei))))) (vb ei))) (vb ei)))))
      (bc (sset 5 sc__law_world.nd (etup an))
      (bc (sfor (O := []) PassesOwn.never rfl (irng1 rfl T.z_range ei) (gn 6 sc__law_world.nd)
      (bo (sset 5 sc__law_world.nd (eo o_add (eb 5) (vb (etup (ac (eT c_tuple rfl T.z_tuple (by decide +kernel) (nb (elc (own := [("a", 9)]) rfl sc__law_world.nd (iv_b (irng1 rfl T.z_range (ev 2))) (blkOk_by (by kernel_rfl)) (fun _ _ _ _ _ => (gn 9 sc__law_world.nd)) (fun _ _ _ _ _ => (pone (tc (o_eq (u64 hr)) (vb (eo o_mod (vb (eo o_fdiv (vb (eT c_int rfl T.z_int (by decide +kernel) (vb (eix (eb 0) (vb (eo o_add (vb ei) (eb 9))))))) (vb (eo o_add (vb ei) (eb 6))))) (eb 4))) (vb ei)))) (fun _ _ _ _ _ => (ev 9))))) an)))))))
      (bc (ssetN 7 sc__law_world.nd (elst an))
      (bc (sset 8 sc__law_world.nd ei)
      (bc (sfor (O := [7]) PassesOwn.never rfl (irng1 rfl T.z_range (ev 2)) (gn 9 sc__law_world.nd)
      (bo (sfor (O := [7]) PassesOwn.never rfl (irng1 rfl T.z_range (ev 2)) (gn 10 sc__law_world.nd)
      (bc (sif (O' := [7]) (tc (o_eq (u64 hr)) (vb (eo o_mod (vb (eo o_fdiv (vb (eT c_int rfl T.z_int (by decide +kernel) (vb (eix (eb 0) (vb (eo o_mod (eb 8) (vb (eB c_len rfl T.z_len (by decide +kernel) (eb 0))))))))) (vb (eo o_add (vb ei) (vb (eo o_fdiv (eb 8) (vb (eB c_len rfl T.z_len (by decide +kernel) (eb 0))))))))) (eb 3))) (vb ei))
      (bo (sapp 7 (etup (ac (ev 9) (ac (ev 10) an)))))
      bn)
      (bo (sset 8 sc__law_world.nd (eo o_add (eb 8) (vb ei))))))))
      (bc (sif (O' := [7]) (tc (o_eq (u64 hr)) (vb (eo o_mod (vb (eix (eb 0) (vb ei))) (vb ei))) (vb ei))
      (bc (spre (O' := []) (ssetN 7 sc__law_world.nd (eoN o_addN (eb 7) (nb (elc (own := [("a", 9), ("b", 10)]) rfl sc__law_world.nd (iseqB (eb 7)) (blkOk_by (by kernel_rfl)) (fun _ _ _ _ _ => (gt rfl (gsc (gn 9 sc__law_world.nd) (gsc (gn 10 sc__law_world.nd) gsn)))) (fun _ _ _ _ _ => (pone (tc (o_nin (u65 hr)) (vb (etup (ac (ev 10) (ac (ev 9) an)))) (eb 7)))) (fun _ _ _ _ _ => (etup (ac (ev 10) (ac (ev 9) an)))))))))
      (bo (spre (O' := []) (ssetN 7 sc__law_world.nd (elc (own := [("a", 9), ("b", 10)]) rfl sc__law_world.nd (iseqB (eb 7)) (blkOk_by (by kernel_rfl)) (fun _ _ _ _ _ => (gt rfl (gsc (gn 9 sc__law_world.nd) (gsc (gn 10 sc__law_world.nd) gsn)))) (fun _ _ _ _ _ => (pone (tc (o_ne (u64 hr)) (eb 9) (eb 10)))) (fun _ _ _ _ _ => (etup (ac (ev 9) (ac (ev 10) an)))))))))
      bn)
      (bo (sret (etup (ac (ev 2) (ac (ev 5) (ac (eT c_tuple rfl T.z_tuple (by decide +kernel) (nb (eBN c_sorted rfl T.z_sorted (by decide +kernel) (eb 7)))) an))))))))))))))))
abbrev s__law_pair : Stmt := topS 19
theorem sc__law_pair : FnScope ["draws", "most", "one", "n", "way", "two", "a", "b", "rows", "pair", "c"] ["draws", "most"] (defScope s__law_pair) := ⟨rfl, rfl, rfl, by decide +kernel, rfl, by decide +kernel, by decide +kernel⟩
theorem ok__law_pair (T : Top K mg w base) : FnOk P w K mg base CX0 4 T.f__law_pair T.fd__law_pair ["draws", "most"] (spV ⟨K, mg⟩ 2 LB.m__law_pair) :=
  fnV (G := ⟨K, mg⟩) T.F__law_pair sc__law_pair rfl (Oe := []) fun cdv A outer s H E hr =>
    (bc (sset 2 sc__law_pair.nd (ecall (ok__law_world T) (hr.mono (by omega)) rfl T.g__law_world T.F__law_world.kp T.b__law_world (ac (ev 0) (ac (ev 1) an))))
      (bc (sset 3 sc__law_pair.nd (eix (eb 2) (vb ei)))
      (bc (sset 4 sc__law_pair.nd (eo o_mod (vb (eT c_int rfl T.z_int (by decide +kernel) (vb (eix (eb 0) (vb (eo o_sub (vb (eB c_len rfl T.z_len (by decide +kernel) (eb 0))) (vb ei))))))) (vb ei)))
      (bc (sif (O' := []) (tc (o_eq (u64 hr)) (eb 4) (vb ei))
      (bo (sret (etup (ac (ev 2) (ac (ecall (ok__law_world T) (hr.mono (by omega)) rfl T.g__law_world T.F__law_world.kp T.b__law_world (ac (esl (eb 0) (TL.os ei) on) (ac (ev 1) an))) an)))))
      bn)
      (bc (sif (O' := []) (tc (o_eq (u64 hr)) (eb 4) (vb ei))
      (bc (sset 8 sc__law_pair.nd (nv (elst (ac (etup (ac (ecall (ok__law_line T) (hr.mono (by omega)) rfl T.g__law_line T.F__law_line.kp T.b__law_line (ac ei an)) (ac (ecall (ok__law_line T) (hr.mono (by omega)) rfl T.g__law_line T.F__law_line.kp T.b__law_line (ac ei an)) an))) (ac (etup (ac (ecall (ok__law_line T) (hr.mono (by omega)) rfl T.g__law_line T.F__law_line.kp T.b__law_line (ac ei an)) (ac (ecall (ok__law_line T) (hr.mono (by omega)) rfl T.g__law_line T.F__law_line.kp T.b__law_line (ac ei an)) an))) (ac (etup (ac (etup (ac ei (ac (etup (ac (etup an) (ac (etup an) an))) (ac (etup an) an)))) (ac (etup (ac ei (ac (etup (ac (etup an) (ac (etup an) an))) (ac (etup an) an)))) an))) (ac (etup (ac (ecall (ok__law_ring T) (hr.mono (by omega)) rfl T.g__law_ring T.F__law_ring.kp T.b__law_ring (ac ei an)) (ac (ecall (ok__law_ring T) (hr.mono (by omega)) rfl T.g__law_ring T.F__law_ring.kp T.b__law_ring (ac ei an)) an))) (ac (etup (ac (ecall (ok__law_ring T) (hr.mono (by omega)) rfl T.g__law_ring T.F__law_ring.kp T.b__law_ring (ac ei an)) (ac (ecall (ok__law_line T) (hr.mono (by omega)) rfl T.g__law_line T.F__law_line.kp T.b__law_line (ac ei an)) an))) an))))))))
      (bc (sset 9 sc__law_pair.nd (eix (eb 8) (vb (eo o_mod (vb (eT c_int rfl T.z_int (by decide +kernel) (vb (eix (eb 0) (vb (eo o_sub (vb (eB c_len rfl T.z_len (by decide +kernel) (eb 0))) (vb ei))))))) (vb ei)))))
      (bo (sif (O' := []) (tc (o_le (u0 hr)) (vb (eB2 (c_max2 rfl) rfl T.z_max (by decide +kernel) (vb (eix (vb (eix (eb 9) (vb ei))) (vb ei))) (vb (eix (vb (eix (eb 9) (vb ei))) (vb ei))))) (eb 1))
      (bo (sret (ev 9)))
      bn))))
      bn)
      (bc (sset 5 sc__law_pair.nd (ecall (ok__law_renamed T) (hr.mono (by omega)) rfl T.g__law_renamed T.F__law_renamed.kp T.b__law_renamed (ac (ev 2) (ac (ecall (ok__law_names T) (hr.mono (by omega)) rfl T.g__law_names T.F__law_names.kp T.b__law_names (ac (ev 0) (ac (eo o_sub (vb (eB c_len rfl T.z_len (by decide +kernel) (eb 0))) (vb ei)) (ac (ev 3) an)))) an))))
      (bc (sif (O' := []) (tc (o_lt (u0 hr)) (eb 4) (vb ei))
      (bo (sret (etup (ac (ev 2) (ac (ev 5) an)))))
      bn)
      (bc (sset 6 sc__law_pair.nd (eo o_mod (vb (eT c_int rfl T.z_int (by decide +kernel) (vb (eix (eb 0) (vb (eo o_sub (vb (eB c_len rfl T.z_len (by decide +kernel) (eb 0))) (vb ei))))))) (eb 3)))
      (bc (sset 7 sc__law_pair.nd (eo o_mod (vb (eT c_int rfl T.z_int (by decide +kernel) (vb (eix (eb 0) (vb (eo o_sub (vb (eB c_len rfl T.z_len (by decide +kernel) (eb 0))) (vb ei))))))) (eb 3)))
      (bc (sif (O' := []) (tc (o_lt (u0 hr)) (eb 4) (vb ei))
      (bc (sif (O' := []) (tc (o_in (u65 hr)) (vb (etup (ac (ev 6) (ac (ev 7) an)))) (vb (eix (eb 5) (vb ei))))
      (bo (sret (etup (ac (ev 2) (ac (etup (ac (ev 3) (ac (eix (eb 5) (vb ei)) (ac (eT c_tuple rfl T.z_tuple (by decide +kernel) (nb (elc (own := [("pair", 9)]) rfl sc__law_pair.nd (iseqB (vb (eix (eb 5) (vb ei)))) (blkOk_by (by kernel_rfl)) (fun _ _ _ _ _ => (gn 9 sc__law_pair.nd)) (fun _ _ _ _ _ => (pone (tc (o_ne (u64 hr)) (eb 9) (vb (etup (ac (ev 6) (ac (ev 7) an))))))) (fun _ _ _ _ _ => (ev 9))))) an)))) an)))))
      bn)
      (bo (sret (etup (ac (ev 2) (ac (etup (ac (ev 3) (ac (eix (eb 5) (vb ei)) (ac (eT c_tuple rfl T.z_tuple (by decide +kernel) (nb (eBN c_sorted rfl T.z_sorted (by decide +kernel) (vb (eo o_add (vb (eix (eb 5) (vb ei))) (vb (etup (ac (etup (ac (ev 6) (ac (ev 7) an))) an)))))))) an)))) an))))))
      bn)
      (bc (sif (O' := []) (tc (o_in (u65 hr)) (eb 6) (vb (eix (vb (eix (eb 5) (vb ei))) (vb ei))))
      (bo (sret (etup (ac (ev 2) (ac (etup (ac (ev 3) (ac (etup (ac (eT c_tuple rfl T.z_tuple (by decide +kernel) (nb (elc (own := [("c", 10)]) rfl sc__law_pair.nd (iseqB (vb (eix (vb (eix (eb 5) (vb ei))) (vb ei)))) (blkOk_by (by kernel_rfl)) (fun _ _ _ _ _ => (gn 10 sc__law_pair.nd)) (fun _ _ _ _ _ => (pone (tc (o_ne (u64 hr)) (eb 10) (eb 6)))) (fun _ _ _ _ _ => (ev 10))))) (ac (eix (vb (eix (eb 5) (vb ei))) (vb ei)) an))) (ac (eix (eb 5) (vb ei)) an)))) an)))))
      bn)
      (bo (sret (etup (ac (ev 2) (ac (etup (ac (ev 3) (ac (etup (ac (eT c_tuple rfl T.z_tuple (by decide +kernel) (nb (eBN c_sorted rfl T.z_sorted (by decide +kernel) (vb (eo o_add (vb (eix (vb (eix (eb 5) (vb ei))) (vb ei))) (vb (etup (ac (ev 6) an)))))))) (ac (eix (vb (eix (eb 5) (vb ei))) (vb ei)) an))) (ac (eix (eb 5) (vb ei)) an)))) an))))))))))))))))
abbrev s__law_fit : Stmt := topS 20
theorem sc__law_fit : FnScope ["one", "two", "x", "y", "a", "b", "c", "d"] ["one", "two", "x", "y"] (defScope s__law_fit) := ⟨rfl, rfl, rfl, by decide +kernel, rfl, by decide +kernel, by decide +kernel⟩
theorem ok__law_fit (T : Top K mg w base) : FnOk P w K mg base CX0 1 T.f__law_fit T.fd__law_fit ["one", "two", "x", "y"] (spV ⟨K, mg⟩ 4 LB.m__law_fit) :=
  fnV (G := ⟨K, mg⟩) T.F__law_fit sc__law_fit rfl (Oe := []) fun cdv A outer s H E hr =>
    (bc (sasg (ev 2) (gt rfl (gsc (gn 4 sc__law_fit.nd) (gsc (gn 5 sc__law_fit.nd) gsn))))
      (bc (sasg (ev 3) (gt rfl (gsc (gn 6 sc__law_fit.nd) (gsc (gn 7 sc__law_fit.nd) gsn))))
      (bc (sif (O' := []) (tc (o_ne (u64 hr)) (vb (ec (o_eq (u64 hr)) (eb 4) (eb 6))) (vb (ec (o_eq (u64 hr)) (eb 5) (eb 7))))
      (bo (sret ebl))
      bn)
      (bc (sif (O' := []) (tw (tor (tc (o_ne (u64 hr)) (vb (ec (o_in (u65 hr)) (eb 4) (vb (eix (vb (eix (eb 0) (vb ei))) (vb ei))))) (vb (ec (o_in (u65 hr)) (eb 5) (vb (eix (vb (eix (eb 1) (vb ei))) (vb ei)))))) (tone2 (tc (o_ne (u64 hr)) (vb (ec (o_in (u65 hr)) (eb 4) (vb (eix (vb (eix (eb 0) (vb ei))) (vb ei))))) (vb (ec (o_in (u65 hr)) (eb 5) (vb (eix (vb (eix (eb 1) (vb ei))) (vb ei)))))))))
      (bo (sret ebl))
      bn)
      (bo (sret (eand (ec (o_eq (u64 hr)) (vb (ec (o_in (u65 hr)) (vb (etup (ac (ev 4) (ac (ev 6) an)))) (vb (eix (eb 0) (vb ei))))) (vb (ec (o_in (u65 hr)) (vb (etup (ac (ev 5) (ac (ev 7) an)))) (vb (eix (eb 1) (vb ei)))))) (eone (ec (o_eq (u64 hr)) (vb (ec (o_in (u65 hr)) (vb (etup (ac (ev 6) (ac (ev 4) an)))) (vb (eix (eb 0) (vb ei))))) (vb (ec (o_in (u65 hr)) (vb (etup (ac (ev 7) (ac (ev 5) an)))) (vb (eix (eb 1) (vb ei))))))))))))))
abbrev s__law_can : Stmt := topS 21
theorem sc__law_can : FnScope ["one", "two", "pairs", "k", "side", "item", "found", "other", "pair", "x"] ["one", "two", "pairs", "k"] (defScope s__law_can) := ⟨rfl, rfl, rfl, by decide +kernel, rfl, by decide +kernel, by decide +kernel⟩
theorem ok__law_can (T : Top K mg w base) : ∀ n, FnOk P w K mg base CX0 (n + 1) T.f__law_can T.fd__law_can ["one", "two", "pairs", "k"] (spV ⟨K, mg⟩ 4 (LB.m__law_can n))
  | 0 => fnNever fun vs H Q E h => by obtain ⟨_, _, _, _, _, _, h, _⟩ := h; cases h
  | n + 1 => by
    have ih := ok__law_can T n
    exact fnV (G := ⟨K, mg⟩) T.F__law_can sc__law_can rfl (Oe := []) fun cdv A outer s H E hr =>
    (bc (sif (O' := []) (tc (o_eq (u64 hr)) (eb 3) (vb ei))
      (bo (sret ebl))
      bn)
      (bc (sfor (O := []) PassesOwn.never rfl (irng1 rfl T.z_range ei) (gn 4 sc__law_can.nd)
      (bo (sfor (O := []) PassesOwn.never rfl (irng1 rfl T.z_range (eix (nb (elst (ac (eix (eb 0) (vb ei)) (ac (eix (eb 1) (vb ei)) an)))) (eb 4))) (gn 5 sc__law_can.nd)
      (bc (sset 6 sc__law_can.nd ebl)
      (bc (sfor (O := []) PassesOwn.never rfl (irng1 rfl T.z_range (eix (nb (elst (ac (eix (eb 1) (vb ei)) (ac (eix (eb 0) (vb ei)) an)))) (eb 4))) (gn 7 sc__law_can.nd)
      (bc (sset 8 sc__law_can.nd (eix (nb (elst (ac (etup (ac (ev 5) (ac (ev 7) an))) (ac (etup (ac (ev 7) (ac (ev 5) an))) an)))) (eb 4)))
      (bo (sif (O' := []) (tw (tand (tnot (tv (ev 6))) (tone1 (tc (o_eq (u64 hr)) (vb (eB c_len rfl T.z_len (by decide +kernel) (nb (elc (own := [("x", 9)]) rfl sc__law_can.nd (iseqB (vb (eo o_add (eb 2) (vb (etup (ac (ev 8) an)))))) (blkOk_by (by kernel_rfl)) (fun _ _ _ _ _ => (gn 9 sc__law_can.nd)) (fun _ _ _ _ _ => (pone (tnot (tv (ecall (ok__law_fit T) (hr.mono (by omega)) rfl T.g__law_fit T.F__law_fit.kp T.b__law_fit (ac (ev 0) (ac (ev 1) (ac (ev 8) (ac (ev 9) an))))))))) (fun _ _ _ _ _ => (ev 9)))))) (vb ei)))))
      (bo (sset 6 sc__law_can.nd (ecall ih (hr.mono (by omega)) rfl T.g__law_can T.F__law_can.kp T.b__law_can (ac (ev 0) (ac (ev 1) (ac (eo o_add (eb 2) (vb (etup (ac (ev 8) an)))) (ac (eo o_sub (eb 3) (vb ei)) an)))))))
      bn))))
      (bo (sif (O' := []) (tnot (tv (ev 6)))
      (bo (sret ebl))
      bn)))))))
      (bo (sret ebl))))
abbrev s__law_agree : Stmt := topS 22
theorem sc__law_agree : FnScope ["one", "two", "k"] ["one", "two", "k"] (defScope s__law_agree) := ⟨rfl, rfl, rfl, by decide +kernel, rfl, by decide +kernel, by decide +kernel⟩
theorem ok__law_agree (T : Top K mg w base) : FnOk P w K mg base CX0 62 T.f__law_agree T.fd__law_agree ["one", "two", "k"] (spV ⟨K, mg⟩ 3 LB.m__law_agree) :=
  fnV (G := ⟨K, mg⟩) T.F__law_agree sc__law_agree rfl (Oe := []) fun cdv A outer s H E hr =>
    (bo (sret (ecall (ok__law_can T 60) (hr.mono (by omega)) rfl T.g__law_can T.F__law_can.kp T.b__law_can (ac (ev 0) (ac (ev 1) (ac (etup an) (ac (ev 2) an)))))))
abbrev s_law : Stmt := topS 23
theorem sc_law : FnScope ["script", "turn", "draws", "k", "due", "one", "two"] ["script"] (defScope s_law) := ⟨rfl, rfl, rfl, by decide +kernel, rfl, by decide +kernel, by decide +kernel⟩
theorem ok_law (T : Top K mg w base) : FnOk P w K mg base CX0 63 T.f_law T.fd_law ["script"] (spV ⟨K, mg⟩ 1 LB.m_law_k18) :=
  fnV (G := ⟨K, mg⟩) T.F_law sc_law rfl (Oe := []) fun cdv A outer s H E hr =>
    (bc (sfor (O := []) PassesOwn.never rfl (irng1 rfl T.z_range ei) (gn 1 sc_law.nd)
      (bc (sset 2 sc_law.nd (ecall (ok__law_draws T) (hr.mono (by omega)) rfl T.g__law_draws T.F__law_draws.kp T.b__law_draws (ac (ecall (ok__law_cell T) (hr.mono (by omega)) rfl T.g__law_cell T.F__law_cell.kp T.b__law_cell (ac (ev 0) (ac (ev 1) an))) (ac ei an))))
      (bc (sasg (ecall (ok__law_pair T) (hr.mono (by omega)) rfl T.g__law_pair T.F__law_pair.kp T.b__law_pair (ac (ev 2) (ac ei an))) (gt rfl (gsc (gn 5 sc_law.nd) (gsc (gn 6 sc_law.nd) gsn))))
      (bc (sset 3 sc_law.nd (eo o_mod (vb (eix (eb 2) (vb ei))) (vb ei)))
      (bc (sif (O' := []) (tc (o_gt (u0 hr)) (vb (eB2 (c_max2 rfl) rfl T.z_max (by decide +kernel) (vb (eix (eb 5) (vb ei))) (vb (eix (eb 6) (vb ei))))) (vb ei))
      (bo (sset 3 sc_law.nd (eB2 (c_min2 rfl) rfl T.z_min (by decide +kernel) (eb 3) (vb ei))))
      bn)
      (bc (sset 4 sc_law.nd (ecall (ok__law_agree T) (hr.mono (by omega)) rfl T.g__law_agree T.F__law_agree.kp T.b__law_agree (ac (ev 5) (ac (ev 6) (ac (ev 3) an)))))
      (bo (sif (O' := []) (tw (tor (tnot (tv (ecall (ok__law_is_bool T) (hr.mono (by omega)) rfl T.g__law_is_bool T.F__law_is_bool.kp T.b__law_is_bool (ac (ecall (ok_agree T) (hr.mono (by omega)) rfl T.g_agree T.F_agree.kp T.b_agree (ac (ev 5) (ac (ev 6) (ac (ev 3) an)))) (ac (ev 4) an))))) (tor (tnot (tv (ecall (ok__law_is_bool T) (hr.mono (by omega)) rfl T.g__law_is_bool T.F__law_is_bool.kp T.b__law_is_bool (ac (ecall (ok_agree T) (hr.mono (by omega)) rfl T.g_agree T.F_agree.kp T.b_agree (ac (ev 6) (ac (ev 5) (ac (ev 3) an)))) (ac (ev 4) an))))) (tone2 (tc o_isnt (vb (ecall (ok_agree T) (hr.mono (by omega)) rfl T.g_agree T.F_agree.kp T.b_agree (ac (ev 5) (ac (ev 5) (ac (ev 3) an))))) (vb ebl))))))
      (bo (sret ebl))
      bn))))))))
      (bo (sret ebl)))
end
end K18

set_option Elab.async false
set_option linter.all false
set_option maxRecDepth 100000
set_option maxHeartbeats 4000000
namespace K18
open PySem PySem.Spec PyProof.Rows L2 TL
def spLaw (K : PySem.W.Frag) (tabs : List (Addr × Addr)) : Sp := fun vs H Q _ => ∃ (a : Addr) (ns : List Int), vs = [.ref a] ∧ SqL K H a (ns.map V.int) ∧ ns.length ≤ 63 ∧ (∀ p ∈ tabs, H p.2 = some (.tbl #[])) ∧ ∀ H', Q (.bl true) H'
theorem rp_ints {G : Gx} {F : Hp} : ∀ ns : List Int, RpAll G F (ns.map V.int) (ns.map .int)
  | [] => .nil
  | i :: r => .cons (.int i) (rp_ints r)
theorem ok_end {P : Program} {w : World} {K : PySem.W.Frag} {mg : Str → Option Value} {base : Heap} (T : Top K mg w base) (hN_truth : PySem.W.tabIn K "truth" = none) (hN_dense_truth : PySem.W.tabIn K "dense_truth" = none) (hN_steps_truth : PySem.W.tabIn K "steps_truth" = none) (hN_line_truth : PySem.W.tabIn K "line_truth" = none) : FnOk P w K mg base CX0 63 T.f_law T.fd_law ["script"] (spLaw K [(T.c_can_go, T.p_can_go)]) :=
  (ok_law T).imp fun vs H Q E ⟨a, ns, e, hS, hl, hT, q⟩ => by
    subst e
    refine ⟨noT H, [.list (ns.map .int)], .bool true, ⟨noT_le, fun x hx c P e => ?_⟩, .cons (.lst (noT_seq hS) (rp_ints ns)) .nil, rfl, LB.law_true_k18 ns hl, fun v F' H' g r => ?_⟩
    · simp only [tabNames, List.mem_cons, List.not_mem_nil, or_false] at hx
      rcases hx with rfl | rfl | rfl | rfl | rfl
      · rw [hN_truth] at e
        cases e
      · rw [T.t_can_go] at e
        cases e
        have h1 := hT (T.c_can_go, T.p_can_go) (by simp)
        exact ⟨noT_tbl h1, #[], h1, True.intro⟩
      · rw [hN_dense_truth] at e
        cases e
      · rw [hN_steps_truth] at e
        cases e
      · rw [hN_line_truth] at e
        cases e
    · cases r
      exact q H'
theorem all_mk {l : PySem.W.OpenLaw} {w : World} {K : PySem.W.Frag} {h : Heap} {mg : Str → Option Value} {fa : Addr} (X : K.In h) (G : h.Ns mainGlobals mg) (hfa : mg "law" = some (.ref fa)) (hTab : TabsAtH K ["can_go"] h)
    {f0 : Addr} {od0 an0 : Option Addr} {sl0 : Array (Option Value)} {oc0 kV0 dc0 pm0 cd0 ct0 : Value}
    {f1 : Addr} {od1 an1 : Option Addr} {sl1 : Array (Option Value)} {oc1 kV1 dc1 pm1 cd1 ct1 : Value}
    {f2 : Addr} {od2 an2 : Option Addr} {sl2 : Array (Option Value)} {oc2 kV2 dc2 pm2 cd2 ct2 : Value}
    {f3 : Addr} {od3 an3 : Option Addr} {sl3 : Array (Option Value)} {oc3 kV3 dc3 pm3 cd3 ct3 : Value}
    {f4 : Addr} {od4 an4 : Option Addr} {sl4 : Array (Option Value)} {oc4 kV4 dc4 pm4 ct4 : Value}
    {f5 : Addr} {od5 an5 : Option Addr} {sl5 : Array (Option Value)} {oc5 kV5 dc5 pm5 cd5 ct5 : Value}
    {f6 : Addr} {od6 an6 : Option Addr} {sl6 : Array (Option Value)} {oc6 kV6 dc6 pm6 cd6 ct6 : Value}
    {f7 : Addr} {od7 an7 : Option Addr} {sl7 : Array (Option Value)} {oc7 kV7 dc7 pm7 cd7 ct7 : Value}
    {f8 : Addr} {od8 an8 : Option Addr} {sl8 : Array (Option Value)} {oc8 kV8 dc8 pm8 cd8 ct8 : Value}
    {f9 : Addr} {od9 an9 : Option Addr} {sl9 : Array (Option Value)} {oc9 kV9 dc9 pm9 cd9 ct9 : Value}
    {f10 : Addr} {od10 an10 : Option Addr} {sl10 : Array (Option Value)} {oc10 kV10 dc10 pm10 cd10 ct10 : Value}
    {f11 : Addr} {od11 an11 : Option Addr} {sl11 : Array (Option Value)} {oc11 kV11 dc11 pm11 cd11 ct11 : Value}
    {f12 : Addr} {od12 an12 : Option Addr} {sl12 : Array (Option Value)} {oc12 kV12 dc12 pm12 cd12 ct12 : Value}
    {f13 : Addr} {od13 an13 : Option Addr} {sl13 : Array (Option Value)} {oc13 kV13 dc13 pm13 cd13 ct13 : Value}
    {f14 : Addr} {od14 an14 : Option Addr} {sl14 : Array (Option Value)} {oc14 kV14 dc14 pm14 cd14 ct14 : Value}
    {f15 : Addr} {od15 an15 : Option Addr} {sl15 : Array (Option Value)} {oc15 kV15 dc15 pm15 cd15 ct15 : Value}
    {f16 : Addr} {od16 an16 : Option Addr} {sl16 : Array (Option Value)} {oc16 kV16 dc16 pm16 cd16 ct16 : Value}
    {f17 : Addr} {od17 an17 : Option Addr} {sl17 : Array (Option Value)} {oc17 kV17 dc17 pm17 cd17 ct17 : Value}
    {f18 : Addr} {od18 an18 : Option Addr} {sl18 : Array (Option Value)} {oc18 kV18 dc18 pm18 cd18 ct18 : Value}
    {f19 : Addr} {od19 an19 : Option Addr} {sl19 : Array (Option Value)} {oc19 kV19 dc19 pm19 cd19 ct19 : Value}
    {f20 : Addr} {od20 an20 : Option Addr} {sl20 : Array (Option Value)} {oc20 kV20 dc20 pm20 cd20 ct20 : Value}
    (a0 : PySem.W.nsIn K mainGlobals "goes" = some (some (.ref f0))) (l0 : K.lookup f0 = some ⟨oc0, od0, .func (PySem.W.fnOf "goes" "goes" (defArgs (topS 1)) (defBody (topS 1)) (defScope (topS 1)) .none kV0 dc0 pm0 an0 cd0 ct0), sl0⟩) (c0 : PySem.W.codeIn K cd0 "goes" = true) (k0 : PySem.W.keepIn K (.ref f0) = true)
    (a1 : PySem.W.nsIn K mainGlobals "grows" = some (some (.ref f1))) (l1 : K.lookup f1 = some ⟨oc1, od1, .func (PySem.W.fnOf "grows" "grows" (defArgs (topS 2)) (defBody (topS 2)) (defScope (topS 2)) .none kV1 dc1 pm1 an1 cd1 ct1), sl1⟩) (c1 : PySem.W.codeIn K cd1 "grows" = true) (k1 : PySem.W.keepIn K (.ref f1) = true)
    (a2 : PySem.W.nsIn K mainGlobals "put" = some (some (.ref f2))) (l2 : K.lookup f2 = some ⟨oc2, od2, .func (PySem.W.fnOf "put" "put" (defArgs (topS 3)) (defBody (topS 3)) (defScope (topS 3)) .none kV2 dc2 pm2 an2 cd2 ct2), sl2⟩) (c2 : PySem.W.codeIn K cd2 "put" = true) (k2 : PySem.W.keepIn K (.ref f2) = true)
    (a3 : PySem.W.nsIn K mainGlobals "can_answer" = some (some (.ref f3))) (l3 : K.lookup f3 = some ⟨oc3, od3, .func (PySem.W.fnOf "can_answer" "can_answer" (defArgs (topS 5)) (defBody (topS 5)) (defScope (topS 5)) .none kV3 dc3 pm3 an3 cd3 ct3), sl3⟩) (c3 : PySem.W.codeIn K cd3 "can_answer" = true) (k3 : PySem.W.keepIn K (.ref f3) = true)
    {C4 P4 : Addr} {ec4 : Value} {dc_4 : Option Addr} {vs4 : Array Value} {sc4 : Array (Option Value)} (a4 : PySem.W.nsIn K mainGlobals "can_go" = some (some (.ref f4))) (l4 : K.lookup f4 = some ⟨oc4, od4, .func (PySem.W.fnOf "can_go" "can_go" (defArgs (topS 6)) (defBody (topS 6)) (defScope (topS 6)) .none kV4 dc4 pm4 an4 (.ref C4) ct4), sl4⟩) (c4 : PySem.W.codeIn K (.ref C4) "can_go" = true) (k4 : PySem.W.keepIn K (.ref f4) = true) (y4 : K.lookup C4 = some ⟨ec4, dc_4, .fields vs4, sc4⟩) (v4 : (vs4[11]? : Option Value) = some (.ref P4)) (n4 : K.lookup P4 = none)
    (a5 : PySem.W.nsIn K mainGlobals "agree" = some (some (.ref f5))) (l5 : K.lookup f5 = some ⟨oc5, od5, .func (PySem.W.fnOf "agree" "agree" (defArgs (topS 7)) (defBody (topS 7)) (defScope (topS 7)) .none kV5 dc5 pm5 an5 cd5 ct5), sl5⟩) (c5 : PySem.W.codeIn K cd5 "agree" = true) (k5 : PySem.W.keepIn K (.ref f5) = true)
    (a6 : PySem.W.nsIn K mainGlobals "_law_cell" = some (some (.ref f6))) (l6 : K.lookup f6 = some ⟨oc6, od6, .func (PySem.W.fnOf "_law_cell" "_law_cell" (defArgs (topS 9)) (defBody (topS 9)) (defScope (topS 9)) .none kV6 dc6 pm6 an6 cd6 ct6), sl6⟩) (c6 : PySem.W.codeIn K cd6 "_law_cell" = true) (k6 : PySem.W.keepIn K (.ref f6) = true)
    (a7 : PySem.W.nsIn K mainGlobals "_law_draws" = some (some (.ref f7))) (l7 : K.lookup f7 = some ⟨oc7, od7, .func (PySem.W.fnOf "_law_draws" "_law_draws" (defArgs (topS 10)) (defBody (topS 10)) (defScope (topS 10)) .none kV7 dc7 pm7 an7 cd7 ct7), sl7⟩) (c7 : PySem.W.codeIn K cd7 "_law_draws" = true) (k7 : PySem.W.keepIn K (.ref f7) = true)
    (a8 : PySem.W.nsIn K mainGlobals "_law_is_bool" = some (some (.ref f8))) (l8 : K.lookup f8 = some ⟨oc8, od8, .func (PySem.W.fnOf "_law_is_bool" "_law_is_bool" (defArgs (topS 11)) (defBody (topS 11)) (defScope (topS 11)) .none kV8 dc8 pm8 an8 cd8 ct8), sl8⟩) (c8 : PySem.W.codeIn K cd8 "_law_is_bool" = true) (k8 : PySem.W.keepIn K (.ref f8) = true)
    (a9 : PySem.W.nsIn K mainGlobals "_law_names" = some (some (.ref f9))) (l9 : K.lookup f9 = some ⟨oc9, od9, .func (PySem.W.fnOf "_law_names" "_law_names" (defArgs (topS 12)) (defBody (topS 12)) (defScope (topS 12)) .none kV9 dc9 pm9 an9 cd9 ct9), sl9⟩) (c9 : PySem.W.codeIn K cd9 "_law_names" = true) (k9 : PySem.W.keepIn K (.ref f9) = true)
    (a10 : PySem.W.nsIn K mainGlobals "_law_line" = some (some (.ref f10))) (l10 : K.lookup f10 = some ⟨oc10, od10, .func (PySem.W.fnOf "_law_line" "_law_line" (defArgs (topS 13)) (defBody (topS 13)) (defScope (topS 13)) .none kV10 dc10 pm10 an10 cd10 ct10), sl10⟩) (c10 : PySem.W.codeIn K cd10 "_law_line" = true) (k10 : PySem.W.keepIn K (.ref f10) = true)
    (a11 : PySem.W.nsIn K mainGlobals "_law_ring" = some (some (.ref f11))) (l11 : K.lookup f11 = some ⟨oc11, od11, .func (PySem.W.fnOf "_law_ring" "_law_ring" (defArgs (topS 14)) (defBody (topS 14)) (defScope (topS 14)) .none kV11 dc11 pm11 an11 cd11 ct11), sl11⟩) (c11 : PySem.W.codeIn K cd11 "_law_ring" = true) (k11 : PySem.W.keepIn K (.ref f11) = true)
    (a12 : PySem.W.nsIn K mainGlobals "_law_both_ways" = some (some (.ref f12))) (l12 : K.lookup f12 = some ⟨oc12, od12, .func (PySem.W.fnOf "_law_both_ways" "_law_both_ways" (defArgs (topS 15)) (defBody (topS 15)) (defScope (topS 15)) .none kV12 dc12 pm12 an12 cd12 ct12), sl12⟩) (c12 : PySem.W.codeIn K cd12 "_law_both_ways" = true) (k12 : PySem.W.keepIn K (.ref f12) = true)
    (a13 : PySem.W.nsIn K mainGlobals "_law_renamed" = some (some (.ref f13))) (l13 : K.lookup f13 = some ⟨oc13, od13, .func (PySem.W.fnOf "_law_renamed" "_law_renamed" (defArgs (topS 16)) (defBody (topS 16)) (defScope (topS 16)) .none kV13 dc13 pm13 an13 cd13 ct13), sl13⟩) (c13 : PySem.W.codeIn K cd13 "_law_renamed" = true) (k13 : PySem.W.keepIn K (.ref f13) = true)
    (a14 : PySem.W.nsIn K mainGlobals "_law_special" = some (some (.ref f14))) (l14 : K.lookup f14 = some ⟨oc14, od14, .func (PySem.W.fnOf "_law_special" "_law_special" (defArgs (topS 17)) (defBody (topS 17)) (defScope (topS 17)) .none kV14 dc14 pm14 an14 cd14 ct14), sl14⟩) (c14 : PySem.W.codeIn K cd14 "_law_special" = true) (k14 : PySem.W.keepIn K (.ref f14) = true)
    (a15 : PySem.W.nsIn K mainGlobals "_law_world" = some (some (.ref f15))) (l15 : K.lookup f15 = some ⟨oc15, od15, .func (PySem.W.fnOf "_law_world" "_law_world" (defArgs (topS 18)) (defBody (topS 18)) (defScope (topS 18)) .none kV15 dc15 pm15 an15 cd15 ct15), sl15⟩) (c15 : PySem.W.codeIn K cd15 "_law_world" = true) (k15 : PySem.W.keepIn K (.ref f15) = true)
    (a16 : PySem.W.nsIn K mainGlobals "_law_pair" = some (some (.ref f16))) (l16 : K.lookup f16 = some ⟨oc16, od16, .func (PySem.W.fnOf "_law_pair" "_law_pair" (defArgs (topS 19)) (defBody (topS 19)) (defScope (topS 19)) .none kV16 dc16 pm16 an16 cd16 ct16), sl16⟩) (c16 : PySem.W.codeIn K cd16 "_law_pair" = true) (k16 : PySem.W.keepIn K (.ref f16) = true)
    (a17 : PySem.W.nsIn K mainGlobals "_law_fit" = some (some (.ref f17))) (l17 : K.lookup f17 = some ⟨oc17, od17, .func (PySem.W.fnOf "_law_fit" "_law_fit" (defArgs (topS 20)) (defBody (topS 20)) (defScope (topS 20)) .none kV17 dc17 pm17 an17 cd17 ct17), sl17⟩) (c17 : PySem.W.codeIn K cd17 "_law_fit" = true) (k17 : PySem.W.keepIn K (.ref f17) = true)
    (a18 : PySem.W.nsIn K mainGlobals "_law_can" = some (some (.ref f18))) (l18 : K.lookup f18 = some ⟨oc18, od18, .func (PySem.W.fnOf "_law_can" "_law_can" (defArgs (topS 21)) (defBody (topS 21)) (defScope (topS 21)) .none kV18 dc18 pm18 an18 cd18 ct18), sl18⟩) (c18 : PySem.W.codeIn K cd18 "_law_can" = true) (k18 : PySem.W.keepIn K (.ref f18) = true)
    (a19 : PySem.W.nsIn K mainGlobals "_law_agree" = some (some (.ref f19))) (l19 : K.lookup f19 = some ⟨oc19, od19, .func (PySem.W.fnOf "_law_agree" "_law_agree" (defArgs (topS 22)) (defBody (topS 22)) (defScope (topS 22)) .none kV19 dc19 pm19 an19 cd19 ct19), sl19⟩) (c19 : PySem.W.codeIn K cd19 "_law_agree" = true) (k19 : PySem.W.keepIn K (.ref f19) = true)
    (a20 : PySem.W.nsIn K mainGlobals "law" = some (some (.ref f20))) (l20 : K.lookup f20 = some ⟨oc20, od20, .func (PySem.W.fnOf "law" "law" (defArgs (topS 23)) (defBody (topS 23)) (defScope (topS 23)) .none kV20 dc20 pm20 an20 cd20 ct20), sl20⟩) (c20 : PySem.W.codeIn K cd20 "law" = true) (k20 : PySem.W.keepIn K (.ref f20) = true)
    (zz_all : PySem.W.nsIn K mainGlobals "all" = some none)
    (zz_any : PySem.W.nsIn K mainGlobals "any" = some none)
    (zz_dense_truth : PySem.W.nsIn K mainGlobals "dense_truth" = some none)
    (zz_int : PySem.W.nsIn K mainGlobals "int" = some none)
    (zz_len : PySem.W.nsIn K mainGlobals "len" = some none)
    (zz_line_truth : PySem.W.nsIn K mainGlobals "line_truth" = some none)
    (zz_list : PySem.W.nsIn K mainGlobals "list" = some none)
    (zz_max : PySem.W.nsIn K mainGlobals "max" = some none)
    (zz_min : PySem.W.nsIn K mainGlobals "min" = some none)
    (zz_range : PySem.W.nsIn K mainGlobals "range" = some none)
    (zz_sorted : PySem.W.nsIn K mainGlobals "sorted" = some none)
    (zz_steps_truth : PySem.W.nsIn K mainGlobals "steps_truth" = some none)
    (zz_truth : PySem.W.nsIn K mainGlobals "truth" = some none)
    (zz_tuple : PySem.W.nsIn K mainGlobals "tuple" = some none) :
    LamX.LawAtS l w K CX0 63 63 "script" mg fa h := by
  have e := hfa.symm.trans (PySem.W.mg_of X G a20)
  cases e
  let T : ∀ (base : Heap) (tb4 : GxR.TabB base mg C4 P4), Top K mg w base := fun base tb4 => {
    f_goes := f0, fd_goes := _, F_goes := fun_mk (st := topS 1) l0 c0 k0, g_goes := PySem.W.mg_of X G a0, b_goes := (fun_mk (st := topS 1) l0 c0 k0).binds (ps := ["one", "two", "first", "last"]) fun _ _ _ _ _ _ us hl => match us, hl with | [_, _, _, _], _ => rfl,
    f_grows := f1, fd_grows := _, F_grows := fun_mk (st := topS 2) l1 c1 k1, g_grows := PySem.W.mg_of X G a1, b_grows := (fun_mk (st := topS 2) l1 c1 k1).binds (ps := ["one", "two", "pairs", "pair"]) fun _ _ _ _ _ _ us hl => match us, hl with | [_, _, _, _], _ => rfl,
    f_put := f2, fd_put := _, F_put := fun_mk (st := topS 3) l2 c2 k2, g_put := PySem.W.mg_of X G a2, b_put := (fun_mk (st := topS 3) l2 c2 k2).binds (ps := ["pairs", "pair"]) fun _ _ _ _ _ _ us hl => match us, hl with | [_, _], _ => rfl,
    f_can_answer := f3, fd_can_answer := _, F_can_answer := fun_mk (st := topS 5) l3 c3 k3, g_can_answer := PySem.W.mg_of X G a3, b_can_answer := (fun_mk (st := topS 5) l3 c3 k3).binds (ps := ["one", "two", "pairs", "k", "known", "item", "place"]) fun _ _ _ _ _ _ us hl => match us, hl with | [_, _, _, _, _, _, _], _ => rfl,
    f_can_go := f4, fd_can_go := _, c_can_go := C4, p_can_go := P4, F_can_go := funC_mk (st := topS 6) l4 c4 k4, g_can_go := PySem.W.mg_of X G a4, b_can_go := (funC_mk (st := topS 6) l4 c4 k4).f.binds (ps := ["one", "two", "pairs", "k", "known"]) fun _ _ _ _ _ _ us hl => match us, hl with | [_, _, _, _, _], _ => rfl, t_can_go := tabIn_of a4 l4 rfl y4 v4, tb_can_go := tb4,
    f_agree := f5, fd_agree := _, F_agree := fun_mk (st := topS 7) l5 c5 k5, g_agree := PySem.W.mg_of X G a5, b_agree := (fun_mk (st := topS 7) l5 c5 k5).binds (ps := ["one", "two", "k"]) fun _ _ _ _ _ _ us hl => match us, hl with | [_, _, _], _ => rfl,
    f__law_cell := f6, fd__law_cell := _, F__law_cell := fun_mk (st := topS 9) l6 c6 k6, g__law_cell := PySem.W.mg_of X G a6, b__law_cell := (fun_mk (st := topS 9) l6 c6 k6).binds (ps := ["script", "k"]) fun _ _ _ _ _ _ us hl => match us, hl with | [_, _], _ => rfl,
    f__law_draws := f7, fd__law_draws := _, F__law_draws := fun_mk (st := topS 10) l7 c7 k7, g__law_draws := PySem.W.mg_of X G a7, b__law_draws := (fun_mk (st := topS 10) l7 c7 k7).binds (ps := ["cell", "amount"]) fun _ _ _ _ _ _ us hl => match us, hl with | [_, _], _ => rfl,
    f__law_is_bool := f8, fd__law_is_bool := _, F__law_is_bool := fun_mk (st := topS 11) l8 c8 k8, g__law_is_bool := PySem.W.mg_of X G a8, b__law_is_bool := (fun_mk (st := topS 11) l8 c8 k8).binds (ps := ["x", "due"]) fun _ _ _ _ _ _ us hl => match us, hl with | [_, _], _ => rfl,
    f__law_names := f9, fd__law_names := _, F__law_names := fun_mk (st := topS 12) l9 c9 k9, g__law_names := PySem.W.mg_of X G a9, b__law_names := (fun_mk (st := topS 12) l9 c9 k9).binds (ps := ["draws", "at", "n"]) fun _ _ _ _ _ _ us hl => match us, hl with | [_, _, _], _ => rfl,
    f__law_line := f10, fd__law_line := _, F__law_line := fun_mk (st := topS 13) l10 c10 k10, g__law_line := PySem.W.mg_of X G a10, b__law_line := (fun_mk (st := topS 13) l10 c10 k10).binds (ps := ["n"]) fun _ _ _ _ _ _ us hl => match us, hl with | [_], _ => rfl,
    f__law_ring := f11, fd__law_ring := _, F__law_ring := fun_mk (st := topS 14) l11 c11 k11, g__law_ring := PySem.W.mg_of X G a11, b__law_ring := (fun_mk (st := topS 14) l11 c11 k11).binds (ps := ["n"]) fun _ _ _ _ _ _ us hl => match us, hl with | [_], _ => rfl,
    f__law_both_ways := f12, fd__law_both_ways := _, F__law_both_ways := fun_mk (st := topS 15) l12 c12 k12, g__law_both_ways := PySem.W.mg_of X G a12, b__law_both_ways := (fun_mk (st := topS 15) l12 c12 k12).binds (ps := ["n", "edges"]) fun _ _ _ _ _ _ us hl => match us, hl with | [_, _], _ => rfl,
    f__law_renamed := f13, fd__law_renamed := _, F__law_renamed := fun_mk (st := topS 16) l13 c13 k13, g__law_renamed := PySem.W.mg_of X G a13, b__law_renamed := (fun_mk (st := topS 16) l13 c13 k13).binds (ps := ["world", "names"]) fun _ _ _ _ _ _ us hl => match us, hl with | [_, _], _ => rfl,
    f__law_special := f14, fd__law_special := _, F__law_special := fun_mk (st := topS 17) l14 c14 k14, g__law_special := PySem.W.mg_of X G a14, b__law_special := (fun_mk (st := topS 17) l14 c14 k14).binds (ps := ["number"]) fun _ _ _ _ _ _ us hl => match us, hl with | [_], _ => rfl,
    f__law_world := f15, fd__law_world := _, F__law_world := fun_mk (st := topS 18) l15 c15 k15, g__law_world := PySem.W.mg_of X G a15, b__law_world := (fun_mk (st := topS 18) l15 c15 k15).binds (ps := ["draws", "most"]) fun _ _ _ _ _ _ us hl => match us, hl with | [_, _], _ => rfl,
    f__law_pair := f16, fd__law_pair := _, F__law_pair := fun_mk (st := topS 19) l16 c16 k16, g__law_pair := PySem.W.mg_of X G a16, b__law_pair := (fun_mk (st := topS 19) l16 c16 k16).binds (ps := ["draws", "most"]) fun _ _ _ _ _ _ us hl => match us, hl with | [_, _], _ => rfl,
    f__law_fit := f17, fd__law_fit := _, F__law_fit := fun_mk (st := topS 20) l17 c17 k17, g__law_fit := PySem.W.mg_of X G a17, b__law_fit := (fun_mk (st := topS 20) l17 c17 k17).binds (ps := ["one", "two", "x", "y"]) fun _ _ _ _ _ _ us hl => match us, hl with | [_, _, _, _], _ => rfl,
    f__law_can := f18, fd__law_can := _, F__law_can := fun_mk (st := topS 21) l18 c18 k18, g__law_can := PySem.W.mg_of X G a18, b__law_can := (fun_mk (st := topS 21) l18 c18 k18).binds (ps := ["one", "two", "pairs", "k"]) fun _ _ _ _ _ _ us hl => match us, hl with | [_, _, _, _], _ => rfl,
    f__law_agree := f19, fd__law_agree := _, F__law_agree := fun_mk (st := topS 22) l19 c19 k19, g__law_agree := PySem.W.mg_of X G a19, b__law_agree := (fun_mk (st := topS 22) l19 c19 k19).binds (ps := ["one", "two", "k"]) fun _ _ _ _ _ _ us hl => match us, hl with | [_, _, _], _ => rfl,
    f_law := fa, fd_law := _, F_law := fun_mk (st := topS 23) l20 c20 k20, g_law := PySem.W.mg_of X G a20, b_law := (fun_mk (st := topS 23) l20 c20 k20).binds (ps := ["script"]) fun _ _ _ _ _ _ us hl => match us, hl with | [_], _ => rfl,
    z_all := PySem.W.mg_none_of X G zz_all,
    z_any := PySem.W.mg_none_of X G zz_any,
    z_dense_truth := PySem.W.mg_none_of X G zz_dense_truth,
    z_int := PySem.W.mg_none_of X G zz_int,
    z_len := PySem.W.mg_none_of X G zz_len,
    z_line_truth := PySem.W.mg_none_of X G zz_line_truth,
    z_list := PySem.W.mg_none_of X G zz_list,
    z_max := PySem.W.mg_none_of X G zz_max,
    z_min := PySem.W.mg_none_of X G zz_min,
    z_range := PySem.W.mg_none_of X G zz_range,
    z_sorted := PySem.W.mg_none_of X G zz_sorted,
    z_steps_truth := PySem.W.mg_none_of X G zz_steps_truth,
    z_truth := PySem.W.mg_none_of X G zz_truth,
    z_tuple := PySem.W.mg_none_of X G zz_tuple }
  refine ⟨PySem.W.fnOf "law" "law" (defArgs (topS 23)) (defBody (topS 23)) (defScope (topS 23)) .none kV20 dc20 pm20 an20 cd20 ct20, [(C4, P4)], spLaw K [(C4, P4)], fun p hp => ?_, fun p hp => ?_, fun p hp => ?_, fun s v => .of_eq rfl, fun H a ns hl _ hH hS => ⟨a, ns, rfl, hS, hl, hH, fun _ => rfl⟩, fun base _ _ tb => ok_end (T base ⟨(tb (C4, P4) (by simp)).code, (tb (C4, P4) (by simp)).bm, (tb (C4, P4) (by simp)).gP⟩) (tabIn_none zz_truth) (tabIn_none zz_dense_truth) (tabIn_none zz_steps_truth) (tabIn_none zz_line_truth)⟩
  all_goals
    simp only [List.mem_cons, List.not_mem_nil, or_false] at hp
    first | (cases hp; done) | skip
  · rcases hp with rfl
    · exact (hTab "can_go" (by simp) _ _ (tabIn_of a4 l4 rfl y4 v4)).2
  · rcases hp with rfl
    · exact n4
  · rcases hp with rfl
    · exact (hTab "can_go" (by simp) _ _ (tabIn_of a4 l4 rfl y4 v4)).1
end K18
open PySem PySem.W PyProof.Rows
set_option maxHeartbeats 0 in
theorem PySem.Challenge.cw_backforth_k18_agreement_told_holds : PySem.Challenge.rw_backforth_k18_agreement_told.Holds := by
  w_on; o_law; k_head; (case hw => w_witness2)
  k_fill
  refine TL.walk_tabs (l := PySem.Challenge.rw_backforth_k18_agreement_told) (n := 63) (k := 63) (x := "script") (CX := fun _ => L2.CX0) ["can_go"] rfl (by decide) rfl ⟨rfl, by decide, by decide⟩ (by kernel_rfl) (fun w h Y => PySem.W.kIn_of Y) ?F (fun _ _ _ _ _ h => h)
  case F =>
    intro w mg fa h KX G hmg hT
    refine' K18.all_mk KX G hmg hT ?a0 ?l0 ?c0 ?k0 ?a1 ?l1 ?c1 ?k1 ?a2 ?l2 ?c2 ?k2 ?a3 ?l3 ?c3 ?k3 ?a4 ?l4 ?c4 ?k4 ?y4 ?v4 ?n4 ?a5 ?l5 ?c5 ?k5 ?a6 ?l6 ?c6 ?k6 ?a7 ?l7 ?c7 ?k7 ?a8 ?l8 ?c8 ?k8 ?a9 ?l9 ?c9 ?k9 ?a10 ?l10 ?c10 ?k10 ?a11 ?l11 ?c11 ?k11 ?a12 ?l12 ?c12 ?k12 ?a13 ?l13 ?c13 ?k13 ?a14 ?l14 ?c14 ?k14 ?a15 ?l15 ?c15 ?k15 ?a16 ?l16 ?c16 ?k16 ?a17 ?l17 ?c17 ?k17 ?a18 ?l18 ?c18 ?k18 ?a19 ?l19 ?c19 ?k19 ?a20 ?l20 ?c20 ?k20 ?zz_all ?zz_any ?zz_dense_truth ?zz_int ?zz_len ?zz_line_truth ?zz_list ?zz_max ?zz_min ?zz_range ?zz_sorted ?zz_steps_truth ?zz_truth ?zz_tuple
    (case a0 => k_is); (case l0 => k_is); (case c0 => k_is); (case k0 => k_is); (case a1 => k_is); (case l1 => k_is); (case c1 => k_is); (case k1 => k_is); (case a2 => k_is); (case l2 => k_is); (case c2 => k_is); (case k2 => k_is); (case a3 => k_is); (case l3 => k_is); (case c3 => k_is); (case k3 => k_is); (case a4 => k_is); (case l4 => k_is); (case c4 => k_is); (case k4 => k_is); (case y4 => k_is); (case v4 => rfl); (case n4 => kernel_rfl); (case a5 => k_is); (case l5 => k_is); (case c5 => k_is); (case k5 => k_is); (case a6 => k_is); (case l6 => k_is); (case c6 => k_is); (case k6 => k_is); (case a7 => k_is); (case l7 => k_is); (case c7 => k_is); (case k7 => k_is); (case a8 => k_is); (case l8 => k_is); (case c8 => k_is); (case k8 => k_is); (case a9 => k_is); (case l9 => k_is); (case c9 => k_is); (case k9 => k_is); (case a10 => k_is); (case l10 => k_is); (case c10 => k_is); (case k10 => k_is); (case a11 => k_is); (case l11 => k_is); (case c11 => k_is); (case k11 => k_is); (case a12 => k_is); (case l12 => k_is); (case c12 => k_is); (case k12 => k_is); (case a13 => k_is); (case l13 => k_is); (case c13 => k_is); (case k13 => k_is); (case a14 => k_is); (case l14 => k_is); (case c14 => k_is); (case k14 => k_is); (case a15 => k_is); (case l15 => k_is); (case c15 => k_is); (case k15 => k_is); (case a16 => k_is); (case l16 => k_is); (case c16 => k_is); (case k16 => k_is); (case a17 => k_is); (case l17 => k_is); (case c17 => k_is); (case k17 => k_is); (case a18 => k_is); (case l18 => k_is); (case c18 => k_is); (case k18 => k_is); (case a19 => k_is); (case l19 => k_is); (case c19 => k_is); (case k19 => k_is); (case a20 => k_is); (case l20 => k_is); (case c20 => k_is); (case k20 => k_is); (case zz_all => k_is); (case zz_any => k_is); (case zz_dense_truth => k_is); (case zz_int => k_is); (case zz_len => k_is); (case zz_line_truth => k_is); (case zz_list => k_is); (case zz_max => k_is); (case zz_min => k_is); (case zz_range => k_is); (case zz_sorted => k_is); (case zz_steps_truth => k_is); (case zz_truth => k_is); (case zz_tuple => k_is)
