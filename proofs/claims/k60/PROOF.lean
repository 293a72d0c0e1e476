import PyProof.Rows.All
import Wide.All
import OpenK.AllK
import Wide.FinOn
import HandS.ForMost
import HandS.Conv
import HandS.Deep
import HandS.TupAny
import HandS.TupLe
import HandS.IsInst
import HandS.Style
import HandS.SortRule
import HandS.SortInts
import HandS.AnyAll
import HandS.GenOver
import HandS.GenList
import HandS.Dict
import KE.KDictKeyed
import HandS.TupMul
import HandS.Strs
import HandS.Defaults
import HandS.More
import HandS.Text
import HandS.SetFor
import HandS.SortKw
import PyProof.MinMaxWalk
import PyProof.WalkInts
import PyProof.GenQ
import PyProof.ConsumeS
import HandS.EndTab
import KE.DataMinMax
import HandS.CallLocal
import HandS.RevRange
import HandS.WideBits
import HandS.Replace
import HandS.TupSets
import HandS.Exc
import HandS.ExcOwn
import HandS.ExcIs
import HandS.WordsExc
import HandS.DictComp
import KE.SortData
import KE.GoesEnum
import HandS.Iter
import PySem.Challenge.RW_backforth_k60_whole_near_worlds_agree
set_option Elab.async false
set_option linter.all false
set_option maxRecDepth 100000
namespace TL
open PySem
abbrev D := PyData
abbrev Env := List (Option D)
abbrev SE := Env → Option D
abbrev ST := Env → Option Bool
abbrev SI := Env → Option (List D)
abbrev SG := D → Env → Option Env
inductive Out where
  | nx (e : Env) | rt (d : D) | bk (e : Env) | ct (e : Env)
abbrev SS := Env → Option Out

@[simp] def toB : D → Option Bool
  | .bool b => some b
  | _ => none
@[simp] def toI : D → Option Int
  | .int i => some i
  | _ => none
def intsOf : List D → Option (List Int)
  | [] => some []
  | .int i :: r => (intsOf r).map (i :: ·)
  | _ => none
def boolsOf : List D → Option (List Bool)
  | [] => some []
  | .bool i :: r => (boolsOf r).map (i :: ·)
  | _ => none

def addD : D → D → Option D
  | .int a, .int b => some (.int (a + b))
  | .str a, .str b => if a.length + b.length ≤ sizeLine then some (.str (a ++ b)) else none
  | .tuple a, .tuple b => if a.length + b.length ≤ sizeLine then some (.tuple (a ++ b)) else none
  | .list a, .list b => if a.length + b.length ≤ sizeLine then some (.list (a ++ b)) else none
  | _, _ => none
def addLD : D → D → Option D
  | .list a, .list b => addD (.list a) (.list b)
  | _, _ => none
def subD : D → D → Option D
  | .int a, .int b => some (.int (a - b))
  | _, _ => none
def okMul (a b : Int) : Bool := Nat.blt a.natAbs (2 ^ 64) || Nat.blt b.natAbs (2 ^ 64)
def okDiv (b : Int) : Bool := Nat.ble 1 b.toNat && Nat.ble b.toNat 1073741823
def okPow (a b : Int) : Bool := Nat.ble b.natAbs b.toNat && Nat.ble b.toNat 1000000 && Nat.blt a.natAbs (2 ^ 64)
def okRng (lo hi : Int) : Bool := Nat.ble lo.natAbs 4000000000000000000 && Nat.ble hi.natAbs 4000000000000000000 && Nat.ble (hi - lo).toNat sizeLine
def mulD : D → D → Option D
  | .int a, .int b => if okMul a b = true then some (.int (a * b)) else none
  | _, _ => none
def fdivD : D → D → Option D
  | .int a, .int b => if okDiv b = true then some (.int (a / b)) else none
  | _, _ => none
def modD : D → D → Option D
  | .int a, .int b => if 0 < b then some (.int (a % b)) else none
  | _, _ => none
def powD : D → D → Option D
  | .int a, .int b => if okPow a b = true then some (.int (a ^ b.toNat)) else none
  | _, _ => none
def negD : D → Option D
  | .int a => some (.int (-a))
  | _ => none
def eqD (a b : D) : Option D := if SeqAt.shaped a = true ∧ SeqAt.shaped b = true then some (.bool (PyData.eqv a b)) else none
def neD (a b : D) : Option D := if SeqAt.shaped a = true ∧ SeqAt.shaped b = true then some (.bool (!PyData.eqv a b)) else none
def lexLt : List Int → List Int → Bool
  | [], [] => false
  | [], _ :: _ => true
  | _ :: _, [] => false
  | x :: xs, y :: ys => if x = y then lexLt xs ys else decide (x < y)
def ltD : D → D → Option D
  | .int a, .int b => some (.bool (decide (a < b)))
  | .tuple a, .tuple b => (intsOf a).bind fun x => (intsOf b).map fun y => .bool (lexLt x y)
  | _, _ => none
def leD : D → D → Option D
  | .int a, .int b => some (.bool (decide (a ≤ b)))
  | .tuple a, .tuple b => (intsOf a).bind fun x => (intsOf b).map fun y => .bool (!lexLt y x)
  | _, _ => none
def gtD : D → D → Option D
  | .int a, .int b => some (.bool (decide (b < a)))
  | .tuple a, .tuple b => (intsOf a).bind fun x => (intsOf b).map fun y => .bool (lexLt y x)
  | _, _ => none
def geD : D → D → Option D
  | .int a, .int b => some (.bool (decide (b ≤ a)))
  | .tuple a, .tuple b => (intsOf a).bind fun x => (intsOf b).map fun y => .bool (!lexLt x y)
  | _, _ => none
@[simp] def isNoneD : D → Bool
  | .none => true
  | _ => false
def isD : D → D → Option D
  | a, .none => some (.bool (isNoneD a))
  | .bool a, .bool b => some (.bool (decide (a = b)))
  | _, _ => none
def isntD (a b : D) : Option D := match isD a b with
  | some (.bool c) => some (.bool (!c))
  | _ => none
def inD : D → D → Option D
  | a, .list ds => if SeqAt.shaped a = true ∧ SeqAt.shaped (.list ds) = true then some (.bool (ds.any fun z => PyData.eqv z a)) else none
  | a, .tuple ds => if SeqAt.shaped a = true ∧ SeqAt.shaped (.tuple ds) = true then some (.bool (ds.any fun z => PyData.eqv z a)) else none
  | _, _ => none
def ninD (a b : D) : Option D := match inD a b with
  | some (.bool c) => some (.bool (!c))
  | _ => none
def ixD : D → D → Option D
  | .list ds, .int i => L2.atI ds i
  | .tuple ds, .int i => L2.atI ds i
  | .str z, .int i => if z.length ≤ sizeLine then (L2.atI z.cps.toList i).map fun c => .str ⟨#[c]⟩ else none
  | _, _ => none
def cutT {α : Type} (xs : List α) (lo hi : Option Int) : List α := (xs.drop (HT.sIx xs.length 0 lo)).take (HT.sIx xs.length xs.length hi - HT.sIx xs.length 0 lo)
def cutD (lo hi : Option Int) : D → Option D
  | .list ds => some (.list (cutT ds lo hi))
  | .tuple ds => some (.tuple (cutT ds lo hi))
  | _ => none
def lenD : D → Option D
  | .list ds => some (.int ds.length)
  | .tuple ds => some (.int ds.length)
  | .str z => if z.length ≤ sizeLine then some (.int z.length) else none
  | _ => none
def listD : D → Option D
  | .list ds => some (.list ds)
  | .tuple ds => some (.list ds)
  | _ => none
def tupleD : D → Option D
  | .list ds => some (.tuple ds)
  | .tuple ds => some (.tuple ds)
  | _ => none
def intD : D → Option D
  | .int i => some (.int i)
  | .bool b => some (.int (if b then 1 else 0))
  | _ => none
def allD : D → Option D
  | .list ds => (boolsOf ds).map fun bs => .bool (bs.all id)
  | _ => none
def anyD : D → Option D
  | .list ds => (boolsOf ds).map fun bs => .bool (bs.any id)
  | _ => none
inductive Ty where | int | bool | str | tuple | list | dict
def isTy : Ty → D → Bool
  | .int, .int _ => true
  | .int, .bool _ => true
  | .bool, .bool _ => true
  | .str, .str _ => true
  | .tuple, .tuple _ => true
  | .list, .list _ => true
  | _, _ => false
def isiD (t : Ty) : D → Option D
  | .dict _ => none
  | d => some (.bool (isTy t d))
def insB {α : Type} (lt : α → α → Bool) (x : α) : List α → List α
  | [] => [x]
  | y :: r => if lt y x = true then y :: insB lt x r else x :: y :: r
def isort {α : Type} (lt : α → α → Bool) : List α → List α
  | [] => []
  | x :: r => insB lt x (isort lt r)
def ltI (a b : Int) : Bool := decide (a < b)
def ltPr (p q : Int × Int) : Bool := if p.1 = q.1 then decide (p.2 < q.2) else decide (p.1 < q.1)
def prsOf : List D → Option (List (Int × Int))
  | [] => some []
  | .tuple [.int i, .int j] :: r => (prsOf r).map ((i, j) :: ·)
  | _ => none
def prD (p : Int × Int) : D := .tuple [.int p.1, .int p.2]
def sortL (ds : List D) : Option (List D) := match intsOf ds with
  | some ns => some ((isort ltI ns).map .int)
  | none => (prsOf ds).map fun ps => (isort ltPr ps).map prD
def sortedD : D → Option D
  | .list ds => (sortL ds).map .list
  | .tuple ds => (sortL ds).map .list
  | _ => none
def max2D : D → D → Option D
  | .int i, .int j => some (.int (if j > i then j else i))
  | _, _ => none
@[simp] def eVar (i : Nat) : SE := fun env => env.getD i none
@[simp] def eC (d : D) : SE := fun _ => some d
@[simp] def e1 (op : D → Option D) (a : SE) : SE := fun env => (a env).bind op
@[simp] def e2 (op : D → D → Option D) (a b : SE) : SE := fun env => (a env).bind fun x => (b env).bind fun y => op x y
@[simp] def eIf (c : ST) (a b : SE) : SE := fun env => (c env).bind fun k => if k = true then a env else b env
@[simp] def eAnd (a b : SE) : SE := fun env => (a env).bind fun x => (toB x).bind fun k => if k = true then b env else some (.bool false)
@[simp] def eOr (a b : SE) : SE := fun env => (a env).bind fun x => (toB x).bind fun k => if k = true then some (.bool true) else b env
@[simp] def eNot (a : SE) : SE := fun env => (a env).bind fun x => (toB x).map fun k => .bool (!k)
@[simp] def eChain (o1 o2 : D → D → Option D) (a b c : SE) : SE := fun env => (a env).bind fun x => (b env).bind fun y => (o1 x y).bind fun z => (toB z).bind fun k =>
  if k = true then (c env).bind fun w => o2 y w else some (.bool false)
@[simp] def eArgs : List SE → SI
  | [] => fun _ => some []
  | a :: r => fun env => (a env).bind fun x => (eArgs r env).map (x :: ·)
@[simp] def eTup (l : List SE) : SE := fun env => (eArgs l env).bind fun ds => if ds.length ≤ sizeLine then some (.tuple ds) else none
@[simp] def eLst (l : List SE) : SE := fun env => (eArgs l env).bind fun ds => if ds.length ≤ sizeLine then some (.list ds) else none
@[simp] def eCall (m : List D → Option D) (l : List SE) : SE := fun env => (eArgs l env).bind m
@[simp] def ePart : Option SE → Env → Option (Option Int)
  | none, _ => some none
  | some a, env => (a env).bind fun x => (toI x).map some
@[simp] def eSlice (a : SE) (lo hi : Option SE) : SE := fun env => (a env).bind fun x => (ePart lo env).bind fun l => (ePart hi env).bind fun h => cutD l h x
@[simp] def itemsD : D → Option (List D)
  | .list ds => some ds
  | .tuple ds => some ds
  | _ => none
@[simp] def iSeq (a : SE) : SI := fun env => (a env).bind itemsD
def rangeL (lo : Int) : Nat → List D
  | 0 => []
  | n + 1 => .int lo :: rangeL (lo + 1) n
def rangeD (lo hi : Int) : Option (List D) := if okRng lo hi = true then some (rangeL lo (hi - lo).toNat) else none
@[simp] def iRng1 (a : SE) : SI := fun env => (a env).bind fun x => (toI x).bind fun n => rangeD 0 n
@[simp] def iRng2 (a b : SE) : SI := fun env => (a env).bind fun x => (b env).bind fun y => (toI x).bind fun n => (toI y).bind fun m => rangeD n m
@[simp] def gName (i : Nat) : SG := fun d env => some (env.set i (some d))
@[simp] def gAll : List SG → List D → Env → Option Env
  | [], [], env => some env
  | g :: gs, d :: ds, env => (g d env).bind fun e => gAll gs ds e
  | _, _, _ => none
@[simp] def gTup (gs : List SG) : SG := fun d env => match d with
  | .tuple ds => gAll gs ds env
  | _ => none
@[simp] def wipeE (env : Env) : List Nat → Env
  | [] => env
  | i :: r => (wipeE env r).set i none
@[simp] def cYes : ST := fun _ => some true
def lcGo (g : SG) (c : ST) (e : SE) (env : Env) : List D → Option (List D)
  | [] => some []
  | x :: xs => (g x env).bind fun env1 => (c env1).bind fun k =>
    if k = true then (e env1).bind fun y => (lcGo g c e env xs).map (y :: ·) else lcGo g c e env xs
@[simp] def eLc (vs : List Nat) (it : SI) (g : SG) (c : ST) (e : SE) : SE := fun env => (it env).bind fun ds => (lcGo g c e (wipeE env vs) ds).map .list
def lcGo2 (g : SG) (c : ST) (it1 : SI) (vs1 : List Nat) (g1 : SG) (c1 : ST) (e : SE) (env : Env) : List D → Option (List D)
  | [] => some []
  | x :: xs => (g x env).bind fun env1 => (c env1).bind fun k =>
    if k = true then (it1 env1).bind fun ds => (lcGo g1 c1 e (wipeE env1 vs1) ds).bind fun a => (lcGo2 g c it1 vs1 g1 c1 e env xs).map (a ++ ·) else lcGo2 g c it1 vs1 g1 c1 e env xs
@[simp] def eLc2 (vs : List Nat) (it : SI) (g : SG) (c : ST) (vs1 : List Nat) (it1 : SI) (g1 : SG) (c1 : ST) (e : SE) : SE := fun env => (it env).bind fun ds => (lcGo2 g c it1 vs1 g1 c1 e (wipeE env vs) ds).bind fun r =>
  if r.length ≤ sizeLine then some (.list r) else none
@[simp] def tV (a : SE) : ST := fun env => (a env).bind toB
@[simp] def tAnd (a b : ST) : ST := fun env => (a env).bind fun k => if k = true then b env else some false
@[simp] def tOr (a b : ST) : ST := fun env => (a env).bind fun k => if k = true then some true else b env
@[simp] def tNot (a : ST) : ST := fun env => (a env).map (!·)
@[simp] def sNext : SS := fun env => some (.nx env)
@[simp] def sSeq (a b : SS) : SS := fun env => (a env).bind fun o => match o with
  | .nx e => b e
  | .rt d => some (.rt d)
  | .bk e => some (.bk e)
  | .ct e => some (.ct e)
@[simp] def sBreak : SS := fun env => some (.bk env)
@[simp] def sCont : SS := fun env => some (.ct env)
@[simp] def sRet (a : SE) : SS := fun env => (a env).map .rt
@[simp] def sIf (c : ST) (a b : SS) : SS := fun env => (c env).bind fun k => if k = true then a env else b env
@[simp] def sAsg (a : SE) (g : SG) : SS := fun env => (a env).bind fun d => (g d env).map .nx
@[simp] def sDrop (a : SE) : SS := fun env => (a env).map fun _ => .nx env
@[simp] def sPar (i j : Nat) (a b : SE) : SS := fun env => (a env).bind fun x => (b env).map fun y => .nx ((env.set i (some x)).set j (some y))
@[simp] def sAug (op : D → D → Option D) (i : Nat) (a : SE) : SS := fun env => (env.getD i none).bind fun x => (a env).bind fun y => (op x y).map fun z => .nx (env.set i (some z))
@[simp] def sApp (i : Nat) (a : SE) : SS := fun env => (a env).bind fun y => match env.getD i none with
  | some (.list ds) => if ds.length < sizeLine then some (.nx (env.set i (some (.list (ds ++ [y]))))) else none
  | _ => none
@[simp] def sExt (i : Nat) (a : SE) : SS := fun env => (a env).bind fun y => match env.getD i none, y with
  | some (.list ds), .list es => if ds.length + es.length ≤ sizeLine then some (.nx (env.set i (some (.list (ds ++ es))))) else none
  | _, _ => none
def forGo (g : SG) (body : SS) : List D → Env → Option Out
  | [], env => some (.nx env)
  | x :: xs, env => (g x env).bind fun env1 => (body env1).bind fun o => match o with
    | .nx e => forGo g body xs e
    | .ct e => forGo g body xs e
    | .bk e => some (.nx e)
    | .rt d => some (.rt d)
@[simp] def sFor (it : SI) (g : SG) (body : SS) : SS := fun env => (it env).bind fun ds => forGo g body ds env
def whileGo (c : ST) (body : SS) : Nat → Env → Option Out
  | 0, _ => none
  | n + 1, env => (c env).bind fun k => if k = true then (body env).bind fun o => match o with
    | .nx e => whileGo c body n e
    | .ct e => whileGo c body n e
    | .bk e => some (.nx e)
    | .rt d => some (.rt d) else some (.nx env)
@[simp] def sWhile (fuel : Nat) (c : ST) (body : SS) : SS := whileGo c body fuel
@[simp] def outD : Out → Option D
  | .rt d => some d
  | .nx _ => some .none
  | _ => none
def nnD (o : Option D) : Option D := o.bind fun d => match d with | .none => none | d => some d
def runF (np nl : Nat) (body : SS) (ds : List D) : Option D :=
  if ds.length = np then (body (ds.map some ++ List.replicate nl none)).bind outD else none
end TL

set_option Elab.async false
set_option linter.all false
set_option maxRecDepth 100000
namespace TL
open PySem
theorem mul_l {a b : Int} (h1 : -(2 ^ 64) < a) (h2 : a < 2 ^ 64) : mulD (.int a) (.int b) = some (.int (a * b)) := by
  have h : okMul a b = true := by
    simp only [okMul, Bool.or_eq_true, Nat.blt_eq]
    exact .inl (by omega)
  simp only [mulD, h, if_true]
theorem mul_r {a b : Int} (h1 : -(2 ^ 64) < b) (h2 : b < 2 ^ 64) : mulD (.int a) (.int b) = some (.int (a * b)) := by
  have h : okMul a b = true := by
    simp only [okMul, Bool.or_eq_true, Nat.blt_eq]
    exact .inr (by omega)
  simp only [mulD, h, if_true]
theorem pow_18 : powD (.int 10) (.int 18) = some (.int 1000000000000000000) := by kernel_rfl
theorem mod_n {a b : Int} (h : 0 < b) : modD (.int a) (.int b) = some (.int (a % b)) := by
  show (if 0 < b then _ else _) = _
  rw [if_pos h]
theorem fdiv_n {a b : Int} (h : 0 < b) (h2 : b < 1073741824) : fdivD (.int a) (.int b) = some (.int (a / b)) := by
  have h : okDiv b = true := by
    simp only [okDiv, Bool.and_eq_true, Nat.ble_eq]
    exact ⟨by omega, by omega⟩
  simp only [fdivD, h, if_true]
@[simp] theorem add_i (a b : Int) : addD (.int a) (.int b) = some (.int (a + b)) := rfl
@[simp] theorem sub_i (a b : Int) : subD (.int a) (.int b) = some (.int (a - b)) := rfl
@[simp] theorem lt_i (a b : Int) : ltD (.int a) (.int b) = some (.bool (decide (a < b))) := rfl
@[simp] theorem le_i (a b : Int) : leD (.int a) (.int b) = some (.bool (decide (a ≤ b))) := rfl
@[simp] theorem gt_i (a b : Int) : gtD (.int a) (.int b) = some (.bool (decide (b < a))) := rfl
@[simp] theorem ge_i (a b : Int) : geD (.int a) (.int b) = some (.bool (decide (b ≤ a))) := rfl
@[simp] theorem int_i (a : Int) : intD (.int a) = some (.int a) := rfl
@[simp] theorem len_l (ds : List D) : lenD (.list ds) = some (.int ds.length) := rfl
@[simp] theorem len_t (ds : List D) : lenD (.tuple ds) = some (.int ds.length) := rfl
@[simp] theorem tuple_l (ds : List D) : tupleD (.list ds) = some (.tuple ds) := rfl
@[simp] theorem tuple_t (ds : List D) : tupleD (.tuple ds) = some (.tuple ds) := rfl
@[simp] theorem list_l (ds : List D) : listD (.list ds) = some (.list ds) := rfl
@[simp] theorem list_t (ds : List D) : listD (.tuple ds) = some (.list ds) := rfl
theorem shaped_int (i : Int) : SeqAt.shaped (.int i) = true := by simp [SeqAt.shaped, PyData.canLay0, PyData.depth]
@[simp] theorem eq_i (a b : Int) : eqD (.int a) (.int b) = some (.bool (decide (a = b))) := by
  unfold eqD
  rw [if_pos ⟨shaped_int a, shaped_int b⟩]
  simp [PyData.eqv]
  by_cases h : a = b <;> simp [h]
@[simp] theorem ne_i (a b : Int) : neD (.int a) (.int b) = some (.bool (!decide (a = b))) := by
  unfold neD
  rw [if_pos ⟨shaped_int a, shaped_int b⟩]
  simp [PyData.eqv]
  by_cases h : a = b <;> simp [h]
@[simp] theorem is_b (a b : Bool) : isD (.bool a) (.bool b) = some (.bool (decide (a = b))) := rfl
@[simp] theorem is_n (a : D) : isD a .none = some (.bool (isNoneD a)) := by cases a <;> rfl
theorem small {n : Nat} (h : n ≤ 1000000) : n ≤ sizeLine := Nat.le_trans h (by decide)
theorem small' {n : Nat} (h : n ≤ 1000000) : n < sizeLine := Nat.lt_of_le_of_lt h (by decide)
theorem rng_n {lo hi : Int} (h1 : -1000000 ≤ lo) (h2 : lo ≤ 1000000) (h3 : -1000000 ≤ hi) (h4 : hi ≤ 1000000) : rangeD lo hi = some (rangeL lo (hi - lo).toNat) := by
  have h : okRng lo hi = true := by
    simp only [okRng, Bool.and_eq_true, Nat.ble_eq]
    exact ⟨⟨by omega, by omega⟩, Nat.le_trans (m := 2000000) (by omega) (by decide)⟩
  simp only [rangeD, h, if_true]
theorem ix_l {ds : List D} {i : Nat} {d : D} (h : ds[i]? = some d) : ixD (.list ds) (.int i) = some d := L2.atI_nat h
theorem ix_t {ds : List D} {i : Nat} {d : D} (h : ds[i]? = some d) : ixD (.tuple ds) (.int i) = some d := L2.atI_nat h
theorem ix_li {ds : List D} {i : Int} {d : D} (h0 : 0 ≤ i) (h : ds[i.toNat]? = some d) : ixD (.list ds) (.int i) = some d := by
  have := ix_l h
  rwa [Int.toNat_of_nonneg h0] at this
theorem ix_ti {ds : List D} {i : Int} {d : D} (h0 : 0 ≤ i) (h : ds[i.toNat]? = some d) : ixD (.tuple ds) (.int i) = some d := by
  have := ix_t h
  rwa [Int.toNat_of_nonneg h0] at this
theorem cat_t {a b : List D} (h : a.length + b.length ≤ sizeLine) : addD (.tuple a) (.tuple b) = some (.tuple (a ++ b)) := by
  show (if _ then _ else _) = _
  rw [if_pos h]
theorem cat_l {a b : List D} (h : a.length + b.length ≤ sizeLine) : addD (.list a) (.list b) = some (.list (a ++ b)) := by
  show (if _ then _ else _) = _
  rw [if_pos h]
theorem for_inv {g : SG} {body : SS} (I : Nat → Env → Prop) : ∀ (xs : List D) (i : Nat) (env : Env), I i env →
    (∀ j x env, xs[j]? = some x → I (i + j) env → ∃ e1, g x env = some e1 ∧ ∃ e2, (body e1 = some (.nx e2) ∨ body e1 = some (.ct e2)) ∧ I (i + j + 1) e2) → ∃ e, forGo g body xs env = some (.nx e) ∧ I (i + xs.length) e
  | [], i, env, h, _ => ⟨env, rfl, h⟩
  | x :: xs, i, env, h, step => by
    obtain ⟨e1, h1, e2, h2, h3⟩ := step 0 x env rfl h
    obtain ⟨e, h4, h5⟩ := for_inv I xs (i + 1) e2 h3 fun j y env' hy hI => by
      have := step (j + 1) y env' hy (by rw [show i + (j + 1) = i + 1 + j by omega]; exact hI)
      rwa [show i + (j + 1) + 1 = i + 1 + j + 1 by omega] at this
    refine ⟨e, ?_, by rw [show i + (x :: xs).length = i + 1 + xs.length by simp only [List.length_cons]; omega]; exact h5⟩
    simp only [forGo, h1, Option.bind_some]
    rcases h2 with h2 | h2 <;> (rw [h2]; exact h4)
theorem for_rng {g : SG} {body : SS} (I : Nat → Env → Prop) {lo : Int} {n : Nat} {env : Env} (h0 : I 0 env)
    (step : ∀ j env, j < n → I j env → ∃ e1, g (.int (lo + j)) env = some e1 ∧ ∃ e2, (body e1 = some (.nx e2) ∨ body e1 = some (.ct e2)) ∧ I (j + 1) e2) : ∃ e, forGo g body (rangeL lo n) env = some (.nx e) ∧ I n e := by
  have len : ∀ (lo : Int) n, (rangeL lo n).length = n := fun lo n => by
    induction n generalizing lo with
    | zero => rfl
    | succ n ih => exact congrArg (· + 1) (ih (lo + 1))
  have get : ∀ (n : Nat) (lo : Int) (j : Nat) x, (rangeL lo n)[j]? = some x → j < n ∧ x = .int (lo + j) := by
    intro n
    induction n with
    | zero => intro lo j x h; simp [rangeL] at h
    | succ n ih =>
      intro lo j x h
      cases j with
      | zero => simp [rangeL] at h; exact ⟨by omega, by rw [← h]; simp⟩
      | succ j =>
        obtain ⟨h1, h2⟩ := ih (lo + 1) j x h
        exact ⟨by omega, by rw [h2]; congr 1; omega⟩
  obtain ⟨e, h1, h2⟩ := for_inv I (rangeL lo n) 0 env h0 fun j x env hx hI => by
    obtain ⟨h3, h4⟩ := get n lo j x hx
    subst h4
    rw [Nat.zero_add] at hI ⊢
    exact step j env h3 hI
  rw [len, Nat.zero_add] at h2
  exact ⟨e, h1, h2⟩
section
variable {α : Type} {lt : α → α → Bool}
theorem insB_perm (x : α) : ∀ l : List α, (insB lt x l).Perm (x :: l)
  | [] => List.Perm.refl _
  | y :: r => by
    unfold insB
    split
    · exact ((insB_perm x r).cons y).trans (List.Perm.swap x y r)
    · exact List.Perm.refl _
theorem isort_perm : ∀ l : List α, (isort lt l).Perm l
  | [] => List.Perm.refl _
  | x :: r => (insB_perm x (isort lt r)).trans ((isort_perm r).cons x)
abbrev Asc (lt : α → α → Bool) (l : List α) : Prop := l.Pairwise fun a b => lt b a = false
theorem insB_asc (O : SrtO.Swo lt) (x : α) : ∀ l : List α, Asc lt l → Asc lt (insB lt x l)
  | [], _ => List.pairwise_singleton _ _
  | y :: r, h => by
    have hy := List.pairwise_cons.mp h
    unfold insB
    split
    · rename_i hlt
      refine List.pairwise_cons.mpr ⟨fun z hz => ?_, insB_asc O x r hy.2⟩
      rcases List.mem_cons.mp ((insB_perm x r).mem_iff.mp hz) with e | hz
      · rw [e]
        exact O.asym y x hlt
      · exact hy.1 z hz
    · rename_i hlt
      exact List.pairwise_cons.mpr ⟨fun z hz => by
        rcases List.mem_cons.mp hz with e | hz
        · rw [e]; exact Bool.eq_false_iff.mpr hlt
        · exact O.tr x y z (Bool.eq_false_iff.mpr hlt) (hy.1 z hz), h⟩
theorem isort_asc (O : SrtO.Swo lt) : ∀ l : List α, Asc lt (isort lt l)
  | [] => List.Pairwise.nil
  | x :: r => insB_asc O x _ (isort_asc O r)
theorem asc_uniq (anti : ∀ x y, lt x y = false → lt y x = false → x = y) : ∀ {l m : List α}, l.Perm m → Asc lt l → Asc lt m → l = m
  | [], m, p, _, _ => (List.Perm.eq_nil p.symm).symm
  | x :: l, [], p, _, _ => absurd p.length_eq (by simp)
  | x :: l, y :: m, p, hl, hm => by
    have h1 := List.pairwise_cons.mp hl
    have h2 := List.pairwise_cons.mp hm
    have e : x = y := by
      rcases List.mem_cons.mp (p.mem_iff.mp (List.mem_cons_self (a := x) (l := l))) with e | hx
      · exact e
      · rcases List.mem_cons.mp (p.mem_iff.mpr (List.mem_cons_self (a := y) (l := m))) with e | hy
        · exact e.symm
        · exact anti x y (h2.1 x hx) (h1.1 y hy)
    subst e
    rw [asc_uniq anti p.cons_inv h1.2 h2.2]
end
theorem swoI : SrtO.Swo ltI := ⟨fun x y h => by
  have h' := of_decide_eq_true h
  exact decide_eq_false (by omega), fun x y z h1 h2 => by
  have a := of_decide_eq_false h1
  have b := of_decide_eq_false h2
  exact decide_eq_false (by omega)⟩
theorem antiI (x y : Int) (h1 : ltI x y = false) (h2 : ltI y x = false) : x = y := by
  have a := of_decide_eq_false h1
  have b := of_decide_eq_false h2
  omega
theorem swoP : SrtO.Swo ltPr := by
  refine ⟨fun x y h => ?_, fun x y z h1 h2 => ?_⟩
  · have a := SrtO.lexB_iff.mp h
    refine SrtO.lexB_no.mpr ?_
    omega
  · have a := SrtO.lexB_no.mp h1
    have b := SrtO.lexB_no.mp h2
    refine SrtO.lexB_no.mpr ?_
    omega
theorem antiP (p q : Int × Int) (h1 : ltPr p q = false) (h2 : ltPr q p = false) : p = q := by
  have a := SrtO.lexB_no.mp h1
  have b := SrtO.lexB_no.mp h2
  have e1 : p.1 = q.1 := by omega
  have e2 : p.2 = q.2 := by omega
  exact Prod.ext e1 e2
theorem isort_lt {α : Type} {lt : α → α → Bool} (O : SrtO.Swo lt) (anti : ∀ x y, lt x y = false → lt y x = false → x = y) {l : List α} (hn : l.Nodup) : (isort lt l).Pairwise fun a b => lt a b = true := by
  have h1 := isort_asc O l
  have h2 : (isort lt l).Nodup := (isort_perm l).symm.nodup hn
  have := h1.and h2
  refine this.imp fun {a b} h => ?_
  cases q : lt a b with
  | true => rfl
  | false => exact absurd (anti a b q h.1) h.2
theorem sorted_ints (ns : List Int) : sortedD (.list (ns.map .int)) = some (.list ((isort ltI ns).map .int)) := by
  have h : ∀ ns : List Int, intsOf (ns.map .int) = some ns := by
    intro ns
    induction ns with
    | nil => rfl
    | cons n r ih => simp only [List.map_cons, intsOf, ih, Option.map_some]
  simp only [sortedD, sortL, h, Option.map_some]
theorem sorted_prs (ps : List (Int × Int)) : sortedD (.list (ps.map prD)) = some (.list ((isort ltPr ps).map prD)) := by
  have h : ∀ ps : List (Int × Int), prsOf (ps.map prD) = some ps := by
    intro ps
    induction ps with
    | nil => rfl
    | cons n r ih => simp only [List.map_cons, prD, prsOf, ih, Option.map_some]
  cases ps with
  | nil => rfl
  | cons p r =>
    have e : intsOf ((p :: r).map prD) = none := rfl
    simp only [sortedD, sortL, e, h, Option.map_some]
def rangeI (lo : Int) (n : Nat) : List Int := (List.range n).map fun (i : Nat) => lo + (i : Int)
theorem rangeL_eq : ∀ (n : Nat) (lo : Int), rangeL lo n = (rangeI lo n).map .int
  | 0, lo => rfl
  | n + 1, lo => by
    show PyData.int lo :: rangeL (lo + 1) n = _
    rw [rangeL_eq n (lo + 1)]
    unfold rangeI
    rw [List.range_succ_eq_map]
    simp only [List.map_cons, List.map_map]
    congr 1
    · simp
    · refine List.map_congr_left fun i _ => ?_
      simp only [Function.comp]
      congr 1
      omega
theorem rangeI_mem {lo a : Int} {n : Nat} : a ∈ rangeI lo n ↔ lo ≤ a ∧ a < lo + n := by
  unfold rangeI
  rw [List.mem_map]
  constructor
  · rintro ⟨i, hi, rfl⟩
    have := List.mem_range.mp hi
    omega
  · rintro ⟨h1, h2⟩
    exact ⟨(a - lo).toNat, List.mem_range.mpr (by omega), by omega⟩
theorem rangeI_asc (lo : Int) (n : Nat) : (rangeI lo n).Pairwise (· < ·) := by
  unfold rangeI
  refine List.pairwise_map.mpr (List.pairwise_lt_range.imp fun {a b} h => ?_)
  omega
theorem rangeI_len (lo : Int) (n : Nat) : (rangeI lo n).length = n := by
  unfold rangeI
  rw [List.length_map, List.length_range]
theorem rangeI_get {lo : Int} {n i : Nat} (h : i < n) : (rangeI lo n)[i]? = some (lo + i) := by
  unfold rangeI
  rw [List.getElem?_map, List.getElem?_range h]
  rfl
theorem rng_0 {n : Int} (h0 : 0 ≤ n) (h : n ≤ 1000000) : rangeD 0 n = some ((rangeI 0 n.toNat).map .int) := by
  rw [rng_n (by decide) (by decide) (by omega) h, rangeL_eq]
  simp
theorem rng_ab {a n : Int} (h1 : -1000000 ≤ a) (h2 : a ≤ 1000000) (h0 : -1000000 ≤ n) (h : n ≤ 1000000) : rangeD a n = some ((rangeI a (n - a).toNat).map .int) := by
  rw [rng_n h1 h2 h0 h, rangeL_eq]
theorem lc_typed {α β : Type} {g : SG} {c : ST} {e : SE} {env : Env} (ι : α → D) (κ : β → D) (G : α → Option β) : ∀ {zs : List α},
    (∀ a ∈ zs, ∃ env1, g (ι a) env = some env1 ∧ ((∃ b, G a = some b ∧ c env1 = some true ∧ e env1 = some (κ b)) ∨ (G a = none ∧ c env1 = some false))) → lcGo g c e env (zs.map ι) = some ((zs.filterMap G).map κ)
  | [], _ => rfl
  | a :: zs, h => by
    obtain ⟨env1, h1, h2⟩ := h a List.mem_cons_self
    have ih := lc_typed ι κ G (zs := zs) fun b hb => h b (List.mem_cons_of_mem _ hb)
    simp only [List.map_cons, lcGo, h1, Option.bind_some]
    rcases h2 with ⟨b, h3, h4, h5⟩ | ⟨h3, h4⟩
    · simp [h4, h5, ih, List.filterMap_cons, h3]
    · simp [h4, ih, List.filterMap_cons, h3]
theorem lc_map {α β : Type} {g : SG} {e : SE} {env : Env} (ι : α → D) (κ : β → D) (G : α → β) {zs : List α}
    (h : ∀ a ∈ zs, ∃ env1, g (ι a) env = some env1 ∧ e env1 = some (κ (G a))) : lcGo g cYes e env (zs.map ι) = some ((zs.map G).map κ) := by
  rw [lc_typed ι κ (fun a => some (G a)) fun a ha => by
    obtain ⟨env1, h1, h2⟩ := h a ha
    exact ⟨env1, h1, .inl ⟨G a, rfl, rfl, h2⟩⟩]
  congr 2
  exact List.filterMap_eq_map ▸ rfl
theorem lc_filter {α β : Type} {g : SG} {c : ST} {e : SE} {env : Env} (ι : α → D) (κ : β → D) (p : α → Bool) (G : α → β) {zs : List α}
    (h : ∀ a ∈ zs, ∃ env1, g (ι a) env = some env1 ∧ c env1 = some (p a) ∧ (p a = true → e env1 = some (κ (G a)))) : lcGo g c e env (zs.map ι) = some (((zs.filter p).map G).map κ) := by
  rw [lc_typed ι κ (fun a => if p a = true then some (G a) else none) fun a ha => by
    obtain ⟨env1, h1, h2, h3⟩ := h a ha
    refine ⟨env1, h1, ?_⟩
    cases q : p a with
    | true => exact .inl ⟨G a, by simp, by rw [h2, q], h3 q⟩
    | false => exact .inr ⟨by simp, by rw [h2, q]⟩]
  congr 2
  induction zs with
  | nil => rfl
  | cons a zs ih =>
    have ih := ih fun b hb => h b (List.mem_cons_of_mem _ hb)
    cases q : p a <;> simp [q, ih]
theorem ix_ints {rs : List Int} {i : Int} (h0 : 0 ≤ i) (h : i < rs.length) : ixD (.list (rs.map .int)) (.int i) = some (.int (rs.getD i.toNat 0)) := by
  refine ix_li h0 ?_
  have h' : i.toNat < rs.length := by omega
  rw [List.getElem?_map, List.getD_eq_getElem?_getD, List.getElem?_eq_getElem h']
  rfl
theorem getD_mem {rs : List Int} {i : Nat} (h : i < rs.length) : rs.getD i 0 ∈ rs := by
  rw [List.getD_eq_getElem?_getD, List.getElem?_eq_getElem h]
  exact List.getElem_mem h
theorem seq_go {a b : SS} {env e : Env} {r : Option Out} (h1 : a env = some (.nx e)) (h2 : b e = r) : sSeq a b env = r := by
  simp only [sSeq, h1, Option.bind_some]
  exact h2
theorem seq_rt {a b : SS} {env : Env} {d : D} (h1 : a env = some (.rt d)) : sSeq a b env = some (.rt d) := by
  simp only [sSeq, h1, Option.bind_some]
theorem run_rt {np nl : Nat} {body : SS} {ds : List D} {d : D} (hl : ds.length = np) (h : body (ds.map some ++ List.replicate nl none) = some (.rt d)) : runF np nl body ds = some d := by
  simp only [runF, hl, if_true, h, Option.bind_some, outD]
theorem if_t {c : ST} {a b : SS} {env : Env} {r : Option Out} (h1 : c env = some true) (h2 : a env = r) : sIf c a b env = r := by
  simp only [sIf, h1, Option.bind_some, if_true]
  exact h2
theorem if_f {c : ST} {a b : SS} {env : Env} {r : Option Out} (h1 : c env = some false) (h2 : b env = r) : sIf c a b env = r := by
  simp only [sIf, h1, Option.bind_some, Bool.false_eq_true, if_false]
  exact h2
theorem for_go {it : SI} {g : SG} {b : SS} {env : Env} {ds : List D} {r : Option Out} (h1 : it env = some ds) (h2 : forGo g b ds env = r) : sFor it g b env = r := by
  simp only [sFor, h1, Option.bind_some]
  exact h2
theorem lc_go {vs : List Nat} {it : SI} {g : SG} {c : ST} {e : SE} {env : Env} {ds rs : List D} (h1 : it env = some ds) (h2 : lcGo g c e (wipeE env vs) ds = some rs) : eLc vs it g c e env = some (.list rs) := by
  simp only [eLc, h1, Option.bind_some, h2, Option.map_some]
theorem asg_go {a : SE} {i : Nat} {env : Env} {d : D} (h : a env = some d) : sAsg a (TL.gName i) env = some (.nx (env.set i (some d))) := by
  simp only [sAsg, h, Option.bind_some, TL.gName, Option.map_some]
theorem e2_go {op : D → D → Option D} {a b : SE} {env : Env} {x y : D} {r : Option D} (h1 : a env = some x) (h2 : b env = some y) (h3 : op x y = r) : e2 op a b env = r := by
  simp only [e2, h1, h2, Option.bind_some]
  exact h3
theorem e1_go {op : D → Option D} {a : SE} {env : Env} {x : D} {r : Option D} (h1 : a env = some x) (h3 : op x = r) : e1 op a env = r := by
  simp only [e1, h1, Option.bind_some]
  exact h3
theorem ret_go {a : SE} {env : Env} {d : D} (h : a env = some d) : sRet a env = some (.rt d) := by
  simp only [sRet, h, Option.map_some]
theorem for_range {g : SG} {body : SS} (I : Int → Env → Prop) {lo : Int} {n : Nat} {env : Env} (h0 : I lo env)
    (step : ∀ a env, lo ≤ a → a < lo + n → I a env → ∃ e1, g (.int a) env = some e1 ∧ ∃ e2, (body e1 = some (.nx e2) ∨ body e1 = some (.ct e2)) ∧ I (a + 1) e2) : ∃ e, forGo g body ((rangeI lo n).map .int) env = some (.nx e) ∧ I (lo + n) e := by
  rw [← rangeL_eq]
  refine for_rng (fun j env => I (lo + j) env) (by simpa using h0) fun j env hj hI => ?_
  obtain ⟨e1, h1, e2, h2, h3⟩ := step (lo + j) env (by omega) (by omega) hI
  refine ⟨e1, h1, e2, h2, ?_⟩
  have : lo + (j : Int) + 1 = lo + ((j + 1 : Nat) : Int) := by omega
  rw [← this]
  exact h3
theorem shaped_of {d : D} (h1 : PyData.canLay0 d = true) (h2 : d.depth ≤ 64) : SeqAt.shaped d = true := by
  unfold SeqAt.shaped
  rw [h1, decide_eq_true h2]
  rfl
theorem lay_ints : ∀ l : List Int, PyData.canLayAll0 (l.map .int) = true
  | [] => by simp [PyData.canLayAll0]
  | i :: r => by simp [PyData.canLayAll0, PyData.canLay0, lay_ints r]
theorem dep_ints : ∀ l : List Int, PyData.depthAll (l.map .int) = 0
  | [] => by simp [PyData.depthAll]
  | i :: r => by simp [PyData.depthAll, PyData.depth, dep_ints r]
theorem lay_pr (p : Int × Int) : PyData.canLay0 (prD p) = true := by simp [prD, PyData.canLay0, PyData.canLayAll0]
theorem dep_pr (p : Int × Int) : (prD p).depth = 1 := by simp [prD, PyData.depth, PyData.depthAll]
theorem lay_prs : ∀ l : List (Int × Int), PyData.canLayAll0 (l.map prD) = true
  | [] => by simp [PyData.canLayAll0]
  | p :: r => by simp [PyData.canLayAll0, lay_pr p, lay_prs r]
theorem dep_prs : ∀ l : List (Int × Int), PyData.depthAll (l.map prD) ≤ 1
  | [] => by simp [PyData.depthAll]
  | p :: r => by
    have h := dep_prs r
    simp only [List.map_cons, PyData.depthAll, dep_pr p]
    omega
theorem shaped_pr (p : Int × Int) : SeqAt.shaped (prD p) = true := shaped_of (lay_pr p) (by rw [dep_pr]; decide)
theorem shaped_li (l : List Int) : SeqAt.shaped (.list (l.map .int)) = true := shaped_of (by simp [PyData.canLay0, lay_ints l]) (by simp [PyData.depth, dep_ints l])
theorem shaped_ti (l : List Int) : SeqAt.shaped (.tuple (l.map .int)) = true := shaped_of (by simp [PyData.canLay0, lay_ints l]) (by simp [PyData.depth, dep_ints l])
theorem shaped_lp (l : List (Int × Int)) : SeqAt.shaped (.list (l.map prD)) = true := shaped_of (by simp [PyData.canLay0, lay_prs l]) (by
  have := dep_prs l
  simp only [PyData.depth]
  omega)
theorem shaped_tp (l : List (Int × Int)) : SeqAt.shaped (.tuple (l.map prD)) = true := shaped_of (by simp [PyData.canLay0, lay_prs l]) (by
  have := dep_prs l
  simp only [PyData.depth]
  omega)
theorem eqv_int (a b : Int) : PyData.eqv (.int a) (.int b) = decide (a = b) := by
  simp [PyData.eqv]
  by_cases h : a = b <;> simp [h]
theorem eqv_pr (p q : Int × Int) : PyData.eqv (prD p) (prD q) = decide (p = q) := by
  obtain ⟨a, b⟩ := p
  obtain ⟨c, d⟩ := q
  simp only [prD, PyData.eqv, PyData.eqvAll, Bool.and_true]
  by_cases h : a = c <;> by_cases h2 : b = d <;> simp [h, h2]
theorem any_ints (i : Int) : ∀ l : List Int, ((l.map PyData.int).any fun z => PyData.eqv z (.int i)) = decide (i ∈ l)
  | [] => by simp
  | a :: r => by
    simp only [List.map_cons, List.any_cons, any_ints i r, eqv_int]
    by_cases h : a = i
    · simp [h]
    · have h' : ¬ i = a := fun e => h e.symm
      simp [h, h']
theorem any_prs (p : Int × Int) : ∀ l : List (Int × Int), ((l.map prD).any fun z => PyData.eqv z (prD p)) = decide (p ∈ l)
  | [] => by simp
  | a :: r => by
    simp only [List.map_cons, List.any_cons, any_prs p r, eqv_pr]
    by_cases h : a = p
    · simp [h]
    · have h' : ¬ p = a := fun e => h e.symm
      simp [h, h']
theorem in_li (i : Int) (l : List Int) : inD (.int i) (.list (l.map .int)) = some (.bool (decide (i ∈ l))) := by
  simp only [inD, shaped_int, shaped_li, and_self, if_true, any_ints]
theorem in_ti (i : Int) (l : List Int) : inD (.int i) (.tuple (l.map .int)) = some (.bool (decide (i ∈ l))) := by
  simp only [inD, shaped_int, shaped_ti, and_self, if_true, any_ints]
theorem in_lp (p : Int × Int) (l : List (Int × Int)) : inD (prD p) (.list (l.map prD)) = some (.bool (decide (p ∈ l))) := by
  simp only [inD, shaped_pr, shaped_lp, and_self, if_true, any_prs]
theorem in_tp (p : Int × Int) (l : List (Int × Int)) : inD (prD p) (.tuple (l.map prD)) = some (.bool (decide (p ∈ l))) := by
  simp only [inD, shaped_pr, shaped_tp, and_self, if_true, any_prs]
theorem nin_of {a b : D} {k : Bool} (h : inD a b = some (.bool k)) : ninD a b = some (.bool (!k)) := by
  simp only [ninD, h]
theorem for_cons {g : SG} {body : SS} {x : D} {xs : List D} {env e1 e2 : Env} {r : Option Out} (h1 : g x env = some e1) (h2 : body e1 = some (.nx e2)) (h3 : forGo g body xs e2 = r) : forGo g body (x :: xs) env = r := by
  simp only [forGo, h1, Option.bind_some, h2]
  exact h3
theorem tup1_go {a : SE} {env : Env} {d : D} (h : a env = some d) : eTup [a] env = some (.tuple [d]) := by
  simp only [eTup, eArgs, h, Option.bind_some, Option.map_some, List.length_cons, List.length_nil]
  rw [if_pos (small (by decide))]
end TL

set_option Elab.async false
set_option linter.all false
set_option maxRecDepth 100000
namespace TL
open PySem PySem.Spec PyProof.Rows L2
structure Gx where
  K : PySem.W.Frag
  mg : Str → Option Value
  P : Program
  w : World
abbrev gx (X : Cx) : Gx := ⟨X.K, X.mg, X.prog, X.w⟩
mutual
def keyD : D → Option NestedKey
  | .none => some .none
  | .bool b => some (.num (if b = true then 1 else 0))
  | .int i => some (.num i)
  | .str x => some (.text x)
  | .tuple ds => (keyAll ds).map .tup
  | .list _ => none
  | .dict _ => none
def keyAll : List D → Option (List NestedKey)
  | [] => some []
  | d :: r => (keyD d).bind fun k => (keyAll r).map (k :: ·)
end
abbrev KEnt := NestedKey × Addr × V
abbrev KEnt' := NestedKey × Addr × Value
abbrev KRel : KEnt → KEnt' → Prop := fun x u => x.1 = u.1 ∧ x.2.1 = u.2.1 ∧ RelV x.2.2 u.2.2
def rawO (P : Program) (w : World) (r : Addr) (xs : List KEnt) : HO := .ext fun h => ∃ o es ep us, h.get? r = some o ∧ o.ExactDict ∧ o.data = .dict es ep ∧ es.toList = us.map (entryOfKey (nestedKind P w)) ∧ Paired KRel xs us
def atV (xs : List KEnt) (k : NestedKey) : Option V := (xs.find? fun x => decide (x.1 = k)).map (·.2.2)
def putR (xs : List KEnt) (k : NestedKey) (b : Addr) (v : V) : List KEnt := if (atV xs k).isSome then xs.map fun x => if x.1 = k then (x.1, x.2.1, v) else x else xs ++ [(k, b, v)]
inductive Kd where
  | lst
  | dct (o : Option Obj) (ks : List NestedKey)
  | dki (o : Option Obj) (ks : List Int)
def frzO : Option Obj → HO → HO
  | none, u => u
  | some o, u => .frz o u
def frzM : Option Obj → D
  | none => .none
  | some _ => .bool true
def entsOf : List NestedKey → List V → List KEnt
  | k :: ks, .ref b :: v :: vs => (k, b, v) :: entsOf ks vs
  | _, _ => []
def entsI : List V → List (Key × V)
  | .int i :: v :: vs => (.inl i, v) :: entsI vs
  | _ => []
def prsD : List D → List (D × D)
  | a :: b :: r => (a, b) :: prsD r
  | _ => []
def keysD : List D → List D
  | a :: _ :: r => a :: keysD r
  | _ => []
def kO (P : Program) (w : World) (p : Addr) : Kd → List V → HO
  | .lst, vs => .lst vs
  | .dct o ks, vs => frzO o (rawO P w p (entsOf ks vs))
  | .dki o _, vs => frzO o (.dK (entsI vs))
def kD : Kd → List D → D
  | .lst, ds => .list ds
  | .dct o _, ds => .dict ((.none, frzM o) :: prsD ds)
  | .dki o _, ds => .dict ((.tuple [], frzM o) :: prsD ds)
def KdOk (p : Addr) : Kd → List D → Prop
  | .lst, _ => True
  | .dct _ ks, ds => keyAll (keysD ds) = some ks ∧ ks.Nodup ∧ ks.length < sizeLine ∧ ds.length = 2 * ks.length ∧ (∀ k ∈ ks, k.depth ≤ 8) ∧ (p == sysModules) = false ∧ ∀ d ∈ keysD ds, ∃ es, d = .tuple es
  | .dki _ ks, ds => keysD ds = ks.map .int ∧ ks.Nodup ∧ ks.length < sizeLine ∧ ds.length = 2 * ks.length ∧ (p == sysModules) = false

def nt : HO → Bool
  | .tbl _ => false
  | _ => true
structure SameN (H H' : Hp) : Prop where
  nn : ∀ p o, H p = some o → nt o = true → H' p = some o
  tb : ∀ p ps, H p = some (.tbl ps) → ∃ ps', H' p = some (.tbl ps') ∧ (TriplesOk ps.toList → TriplesOk ps'.toList)
theorem SameN.of {H H' : Hp} (h : Same H H') : SameN H H' := ⟨fun p o e _ => h p o e, fun p ps e => ⟨ps, h p _ e, id⟩⟩
theorem SameN.refl (H : Hp) : SameN H H := .of (Same.refl H)
theorem SameN.trans {H H1 H2 : Hp} (a : SameN H H1) (b : SameN H1 H2) : SameN H H2 := ⟨fun p o e n => b.nn p o (a.nn p o e n) n, fun p ps e => by
  obtain ⟨ps1, e1, t1⟩ := a.tb p ps e
  obtain ⟨ps2, e2, t2⟩ := b.tb p ps1 e1
  exact ⟨ps2, e2, fun z => t2 (t1 z)⟩⟩
theorem SameN.some_ {H H' : Hp} (a : SameN H H') {p : Addr} {o : HO} (e : H p = some o) : ∃ o', H' p = some o' := by
  cases o with
  | tbl ps => obtain ⟨ps', e', _⟩ := a.tb p ps e; exact ⟨_, e'⟩
  | _ => exact ⟨_, a.nn p _ e rfl⟩
theorem SameN.ex {H H' : Hp} (a : SameN H H') {p : Addr} {o : HO} (e : H p = some o) : ∃ o', H' p = some o' ∧ (nt o = true → o' = o) := by
  cases o with
  | tbl ps => obtain ⟨ps', e', _⟩ := a.tb p ps e; exact ⟨_, e', fun z => (by cases z)⟩
  | _ => exact ⟨_, a.nn p _ e rfl, fun _ => rfl⟩
theorem SameN.free {H H' : Hp} (a : SameN H H') {p : Addr} (h : H' p = none) : H p = none := by
  cases e : H p with
  | none => rfl
  | some o =>
    obtain ⟨o', e'⟩ := a.some_ e
    rw [h] at e'; cases e'
theorem SameN.upd_ {H H' : Hp} (a : SameN H H') {p : Addr} {o : HO} (hn : H p = none) : SameN H (upd H' p o) :=
  ⟨fun b u e n => by rw [upd_ne (ne_of_none e hn)]; exact a.nn b u e n, fun b ps e => by rw [upd_ne (ne_of_none e hn)]; exact a.tb b ps e⟩
theorem SameN.seq {K : PySem.W.Frag} {H H' : Hp} {a : Addr} {xs : List V} (e : SameN H H') (h : SqL K H a xs) : SqL K H' a xs := by
  rcases h with (h | ⟨o, h⟩) | h
  · exact .inl (.inl (e.nn _ _ h rfl))
  · exact .inl (.inr ⟨o, e.nn _ _ h rfl⟩)
  · exact .inr h
theorem nt_kO (P : Program) (w : World) (p : Addr) (k : Kd) (vs : List V) : nt (kO P w p k vs) = true := by
  cases k with
  | lst => rfl
  | dct o ks => cases o <;> rfl
  | dki o ks => cases o <;> rfl
theorem SameN.o {H H' : Hp} (a : SameN H H') {P : Program} {w : World} {q p : Addr} {k : Kd} {vs : List V} (e : H q = some (kO P w p k vs)) : H' q = some (kO P w p k vs) := a.nn q _ e (nt_kO _ _ _ _ _)
theorem SameN.l {H H' : Hp} (a : SameN H H') {p : Addr} {vs : List V} (e : H p = some (.lst vs)) : H' p = some (.lst vs) := a.nn p _ e rfl
structure Gr (F H F' H' : Hp) : Prop where
  ff : Same F F'
  hh : SameN H H'
  fh : Same F' H'
  hid : ∀ p o, H p = some o → F p = none → F' p = none
theorem Gr.refl {F H : Hp} (h : Same F H) : Gr F H F H := ⟨Same.refl F, SameN.refl H, h, fun _ _ _ e => e⟩
theorem Gr.trans {F H F1 H1 F2 H2 : Hp} (a : Gr F H F1 H1) (b : Gr F1 H1 F2 H2) : Gr F H F2 H2 :=
  ⟨a.ff.trans b.ff, a.hh.trans b.hh, b.fh, fun p o e n => let ⟨o', e'⟩ := a.hh.some_ e; b.hid p o' e' (a.hid p o e n)⟩
def tabNames : List Str := ["truth", "can_go", "dense_truth", "steps_truth", "line_truth"]
def TbOk (G : Gx) (F H : Hp) : Prop := ∀ x ∈ tabNames, ∀ c P, PySem.W.tabIn G.K x = some (c, P) → F P = none ∧ GxR.TabG H P
theorem TbOk.gr {G : Gx} {F H F' H' : Hp} (t : TbOk G F H) (g : Gr F H F' H') : TbOk G F' H' := fun x hx c P e => by
  obtain ⟨h1, ps, h2, h3⟩ := t x hx c P e
  obtain ⟨ps', e', t'⟩ := g.hh.tb P ps h2
  exact ⟨g.hid P _ h2 h1, ps', e', t' h3⟩
theorem TbOk.upd_o {G : Gx} {F H : Hp} (t : TbOk G F H) {p : Addr} {u : HO} (h : H p = some u) (n : nt u = true) {o : HO} : TbOk G F (upd H p o) := fun x hx c P e => by
  obtain ⟨h1, ps, h2, h3⟩ := t x hx c P e
  have hn : P ≠ p := fun z => by rw [z, h] at h2; cases h2; cases n
  exact ⟨h1, ps, by rw [upd_ne hn]; exact h2, h3⟩
theorem TbOk.upd_ {G : Gx} {F H : Hp} (t : TbOk G F H) {p : Addr} {vs : List V} (h : H p = some (.lst vs)) {o : HO} : TbOk G F (upd H p o) := fun x hx c P e => by
  obtain ⟨h1, ps, h2, h3⟩ := t x hx c P e
  have hn : P ≠ p := fun z => by rw [z, h] at h2; cases h2
  exact ⟨h1, ps, by rw [upd_ne hn]; exact h2, h3⟩
structure Fz (G : Gx) (F H : Hp) : Prop where
  sm : Same F H
  tb : TbOk G F H
theorem Fz.gr {G : Gx} {F H F' H' : Hp} (f : Fz G F H) (g : Gr F H F' H') : Fz G F' H' := ⟨g.fh, f.tb.gr g⟩
theorem same_upd {H : Hp} {p : Addr} {o : HO} (h : H p = none) : Same H (upd H p o) := fun b x e => by
  rw [upd_ne (ne_of_none e h)]
  exact e
theorem Same.nn {F H : Hp} (s : Same F H) {p : Addr} (h : H p = none) : F p = none := Same.free s h
theorem Gr.new {F H : Hp} {p : Addr} {o : HO} (s : Same F H) (h : H p = none) : Gr F H (upd F p o) (upd H p o) := by
  refine ⟨same_upd (Same.nn s h), .of (same_upd h), fun b x e => ?_, fun b x e n => ?_⟩
  · by_cases hb : b = p
    · subst hb
      rw [upd_same] at e ⊢
      exact e
    · rw [upd_ne hb] at e ⊢
      exact s b x e
  · rw [upd_ne (ne_of_none e h)]
    exact n
theorem Gr.open_ {F H : Hp} {p : Addr} {o : HO} (s : Same F H) (h : H p = none) : Gr F H F (upd H p o) :=
  ⟨Same.refl F, .of (same_upd h), s.trans (same_upd h), fun _ _ _ n => n⟩
theorem Gr.close {F H F' H' : Hp} {p : Addr} {o : HO} (g : Gr F H F' H') (hn : H p = none) (hf : F' p = none) (hh : H' p = some o) : Gr F H (upd F' p o) H' := by
  refine ⟨g.ff.trans (same_upd hf), g.hh, fun b x e => ?_, fun b x e n => ?_⟩
  · by_cases hb : b = p
    · subst hb
      rw [upd_same] at e
      rw [hh]
      exact e
    · rw [upd_ne hb] at e
      exact g.fh b x e
  · rw [upd_ne (ne_of_none e hn)]
    exact g.hid b x e n

theorem sameT {K : PySem.W.Frag} {H H' : Hp} {a : Addr} {xs : List V} (e : Same H H') (h : SqT K H a xs) : SqT K H' a xs := by
  rcases h with (h | ⟨o, h⟩) | h
  · exact .inl (.inl (e _ _ h))
  · exact .inl (.inr ⟨o, e _ _ h⟩)
  · exact .inr h

def SqU (K : PySem.W.Frag) (F : Hp) (a : Addr) (xs : List V) : Prop :=
  (∃ o : Obj, F a = some (.frz o (.tup xs)) ∧ o.dict = none) ∨
    ∃ (o : Obj) (its : Array Value) (n : Nat), K.lookup a = some o ∧ o.cls = .type "tuple" ∧ o.dict = none ∧ o.data = .seq its n ∧ its.size ≤ sizeLine ∧ Vals xs its.toList
theorem SqU.t {K : PySem.W.Frag} {F : Hp} {a : Addr} {xs : List V} (h : SqU K F a xs) : SqT K F a xs := by
  rcases h with ⟨o, h, _⟩ | ⟨o, its, n, h1, h2, _, h3, h4, h5⟩
  · exact .inl (.inr ⟨o, h⟩)
  · exact .inr ⟨o, its, n, h1, h2, h3, h4, h5⟩
theorem sameU {K : PySem.W.Frag} {H H' : Hp} {a : Addr} {xs : List V} (e : Same H H') (h : SqU K H a xs) : SqU K H' a xs := by
  rcases h with ⟨o, h, d⟩ | h
  · exact .inl ⟨o, e _ _ h, d⟩
  · exact .inr h
mutual
inductive Rp (G : Gx) (F : Hp) : V → D → Prop
  | non : Rp G F .non .none
  | bl (b : Bool) : Rp G F (.bl b) (.bool b)
  | int (i : Int) : Rp G F (.int i) (.int i)
  | str (x : Str) : Rp G F (.str x) (.str x)
  | lst {a : Addr} {xs : List V} {ds : List D} : SqL G.K F a xs → RpAll G F xs ds → Rp G F (.ref a) (.list ds)
  | tup {a : Addr} {xs : List V} {ds : List D} : SqU G.K F a xs → RpAll G F xs ds → Rp G F (.ref a) (.tuple ds)
  /-- a def -/
  | fn {a : Addr} {x : Str} : G.mg x = some (.ref a) → Rp G F (.ref a) (.dict [(.str x, .none)])
  /-- a pool: rows, and the counter's cell r -/
  | pl {p a : Addr} {r : Nat} {xs : List V} {ds : List D} : SqL G.K F p [.ref a, .ref r] → SqL G.K F a xs → RpAll G F xs ds → Rp G F (.ref p) (.dict [(.int (r : Int), .list ds)])
  /-- a range -/
  | rng {a : Addr} {lo hi : Int} : F a = some (.rng lo hi) → Rp G F (.ref a) (.dict [(.bool true, .tuple [.int lo, .int hi])])
  /-- a dict -/
  | dct {a : Addr} {o : Option Obj} {ks : List NestedKey} {vs : List V} {ds : List D} : F a = some (kO G.P G.w a (.dct o ks) vs) → KdOk a (.dct o ks) ds → RpAll G F vs ds → Rp G F (.ref a) (kD (.dct o ks) ds)
  /-- a dict whose keys are whole numbers -/
  | dki {a : Addr} {o : Option Obj} {ks : List Int} {vs : List V} {ds : List D} : F a = some (kO G.P G.w a (.dki o ks) vs) → KdOk a (.dki o ks) ds → RpAll G F vs ds → Rp G F (.ref a) (kD (.dki o ks) ds)
inductive RpAll (G : Gx) (F : Hp) : List V → List D → Prop
  | nil : RpAll G F [] []
  | cons {v : V} {vs : List V} {d : D} {ds : List D} : Rp G F v d → RpAll G F vs ds → RpAll G F (v :: vs) (d :: ds)
end
section
variable {G : Gx} {F F' H H' : Hp}
mutual
theorem Rp.mono (e : Same F F') : ∀ {d : D} {v : V}, Rp G F v d → Rp G F' v d
  | _, _, .non => .non
  | _, _, .bl b => .bl b
  | _, _, .int i => .int i
  | _, _, .str x => .str x
  | _, _, .lst h a => .lst (e.seq h) (RpAll.mono e a)
  | _, _, .tup h a => .tup (sameU e h) (RpAll.mono e a)
  | _, _, .fn h => .fn h
  | _, _, .pl h h2 a => .pl (e.seq h) (e.seq h2) (RpAll.mono e a)
  | _, _, .rng h => .rng (e _ _ h)
  | _, _, .dct h k a => .dct (e _ _ h) k (RpAll.mono e a)
  | _, _, .dki h k a => .dki (e _ _ h) k (RpAll.mono e a)
theorem RpAll.mono (e : Same F F') : ∀ {ds : List D} {vs : List V}, RpAll G F vs ds → RpAll G F' vs ds
  | _, _, .nil => .nil
  | _, _, .cons h r => .cons (Rp.mono e h) (RpAll.mono e r)
end
theorem RpAll.length : ∀ {ds : List D} {vs : List V}, RpAll G F vs ds → vs.length = ds.length
  | _, _, .nil => rfl
  | _, _, .cons _ r => congrArg (· + 1) (RpAll.length r)
theorem RpAll.get : ∀ {ds : List D} {vs : List V} {i : Nat} {d : D}, RpAll G F vs ds → ds[i]? = some d → ∃ v, vs[i]? = some v ∧ Rp G F v d
  | _, _, _, _, .nil, e => by simp at e
  | _, _, 0, _, .cons h _, e => by
    have e' := Option.some.inj e
    subst e'
    exact ⟨_, rfl, h⟩
  | _, _, i + 1, _, .cons _ r, e => RpAll.get (i := i) r e
theorem RpAll.append : ∀ {ds es : List D} {vs us : List V}, RpAll G F vs ds → RpAll G F us es → RpAll G F (vs ++ us) (ds ++ es)
  | _, _, _, _, .nil, r => r
  | _, _, _, _, .cons h t, r => .cons h (RpAll.append t r)
theorem RpAll.take : ∀ {ds : List D} {vs : List V} (n : Nat), RpAll G F vs ds → RpAll G F (vs.take n) (ds.take n)
  | _, _, 0, _ => .nil
  | _, _, _ + 1, .nil => .nil
  | _, _, n + 1, .cons h t => .cons h (RpAll.take n t)
theorem RpAll.drop : ∀ {ds : List D} {vs : List V} (n : Nat), RpAll G F vs ds → RpAll G F (vs.drop n) (ds.drop n)
  | _, _, 0, r => r
  | _, _, _ + 1, .nil => .nil
  | _, _, n + 1, .cons _ t => RpAll.drop n t
theorem RpAll.reverse {ds : List D} {vs : List V} (h : RpAll G F vs ds) : RpAll G F vs.reverse ds.reverse := by
  induction ds generalizing vs with
  | nil => cases h; exact .nil
  | cons d ds ih =>
    cases h with
    | cons h t =>
      rw [List.reverse_cons, List.reverse_cons]
      exact (ih t).append (.cons h .nil)
theorem RpAll.cut {ds : List D} {vs : List V} (h : RpAll G F vs ds) (lo hi : Option Int) : RpAll G F (cutV vs lo hi) (cutT ds lo hi) := by
  unfold cutV cutT
  rw [h.length]
  exact (h.drop _).take _
theorem RpAll.atI {ds : List D} {vs : List V} {i : Int} {d : D} (h : RpAll G F vs ds) (e : L2.atI ds i = some d) : ∃ v, L2.atI vs i = some v ∧ Rp G F v d := by
  unfold L2.atI at e ⊢
  rw [h.length]
  cases q : ixN ds.length i with
  | none => rw [q] at e; cases e
  | some j =>
    rw [q] at e
    exact h.get e
def RpB (G : Gx) (F H : Hp) (v : V) (d : D) : Prop := Rp G F v d ∨ ∃ p k vs ds, v = .ref p ∧ d = kD k ds ∧ H p = some (kO G.P G.w p k vs) ∧ RpAll G F vs ds ∧ KdOk p k ds
theorem Rp.b {v : V} {d : D} (h : Rp G F v d) : RpB G F H v d := .inl h
theorem RpB.gr {v : V} {d : D} (h : RpB G F H v d) (g : Gr F H F' H') : RpB G F' H' v d := by
  rcases h with h | ⟨p, k, vs, ds, h1, h2, h3, h4, h5⟩
  · exact .inl (h.mono g.ff)
  · exact .inr ⟨p, k, vs, ds, h1, h2, g.hh.o h3, h4.mono g.ff, h5⟩
theorem RpB.int {v : V} {i : Int} (h : RpB G F H v (.int i)) : v = .int i := by
  rcases h with h | ⟨p, k, vs, ds, h1, h2, h3, h4⟩
  · cases h; rfl
  · cases k <;> cases h2
theorem RpB.bl {v : V} {i : Bool} (h : RpB G F H v (.bool i)) : v = .bl i := by
  rcases h with h | ⟨p, k, vs, ds, h1, h2, h3, h4⟩
  · cases h; rfl
  · cases k <;> cases h2
theorem RpB.str {v : V} {i : Str} (h : RpB G F H v (.str i)) : v = .str i := by
  rcases h with h | ⟨p, k, vs, ds, h1, h2, h3, h4⟩
  · cases h; rfl
  · cases k <;> cases h2
theorem RpB.non {v : V} (h : RpB G F H v .none) : v = .non := by
  rcases h with h | ⟨p, k, vs, ds, h1, h2, h3, h4⟩
  · cases h; rfl
  · cases k <;> cases h2
theorem RpB.tup {v : V} {ds : List D} (h : RpB G F H v (.tuple ds)) (s : Same F H) : ∃ a vs, v = .ref a ∧ SqU G.K F a vs ∧ SqT G.K H a vs ∧ RpAll G F vs ds := by
  rcases h with h | ⟨p, k, vs, ds, h1, h2, h3, h4⟩
  · cases h with
    | tup h r => exact ⟨_, _, rfl, h, sameT s h.t, r⟩
  · cases k <;> cases h2
theorem RpB.lst {v : V} {ds : List D} (h : RpB G F H v (.list ds)) (s : Same F H) : ∃ a vs, v = .ref a ∧ SqL G.K H a vs ∧ RpAll G F vs ds := by
  rcases h with h | ⟨p, k, vs, es, h1, h2, h3, h4, _⟩
  · cases h with
    | lst h r => exact ⟨_, _, rfl, s.seq h, r⟩
  · cases k with
    | lst =>
      cases h2
      exact ⟨p, vs, h1, .inl (.inl h3), h4⟩
    | dct o ks => cases h2
    | dki o ks => cases h2
mutual
theorem Rp.dp (s : Same F H) : ∀ {d : D} {v : V}, Rp G F v d → PyData.canLay0 d = true → Dp G.K H v d
  | _, _, .non, _ => .non
  | _, _, .bl b, _ => .bl b
  | _, _, .int i, _ => .int i
  | _, _, .str x, _ => .str x
  | _, _, .lst h a, c => .lst (s.seq h) (RpAll.dp s a (by simpa [PyData.canLay0] using c))
  | _, _, .tup h a, c => .tup (sameT s h.t) (RpAll.dp s a (by simpa [PyData.canLay0] using c))
  | _, _, .fn _, c => by simp [PyData.canLay0] at c
  | _, _, .pl _ _ _, c => by simp [PyData.canLay0] at c
  | _, _, .rng _, c => by simp [PyData.canLay0] at c
  | _, _, .dct _ _ _, c => by simp [kD, PyData.canLay0] at c
  | _, _, .dki _ _ _, c => by simp [kD, PyData.canLay0] at c
theorem RpAll.dp (s : Same F H) : ∀ {ds : List D} {vs : List V}, RpAll G F vs ds → PyData.canLayAll0 ds = true → DpAll G.K H vs ds
  | _, _, .nil, _ => .nil
  | _, _, .cons h r, c => by
    simp only [PyData.canLayAll0, Bool.and_eq_true] at c
    exact .cons (Rp.dp s h c.1) (RpAll.dp s r c.2)
end
theorem RpB.dp {v : V} {d : D} (h : RpB G F H v d) (s : Same F H) (c : PyData.canLay0 d = true) : Dp G.K H v d := by
  rcases h with h | ⟨p, k, vs, ds, rfl, rfl, h3, h4, _⟩
  · exact h.dp s c
  · cases k with
    | lst => exact .lst (.inl (.inl h3)) (h4.dp s (by simpa [kD, PyData.canLay0] using c))
    | dct o ks => simp [kD, PyData.canLay0] at c
    | dki o ks => simp [kD, PyData.canLay0] at c
theorem RpB.shp {v : V} {d : D} (h : RpB G F H v d) (s : Same F H) (c : SeqAt.shaped d = true) : Dp G.K H v d := h.dp s (SeqAt.canLay_of_shaped c)
theorem RpAll.ints : ∀ {ds : List D} {vs : List V} {ns : List Int}, RpAll G F vs ds → intsOf ds = some ns → vs = ns.map V.int
  | _, _, _, .nil, e => by
    cases e
    rfl
  | _ :: ds, _, ns, .cons h r, e => by
    cases h with
    | int i =>
      simp only [intsOf] at e
      cases q : intsOf ds with
      | none => rw [q] at e; cases e
      | some ms =>
        rw [q] at e
        cases e
        rw [RpAll.ints r q]
        rfl
    | _ => cases e
theorem RpAll.bools : ∀ {ds : List D} {vs : List V} {ns : List Bool}, RpAll G F vs ds → boolsOf ds = some ns → vs = ns.map V.bl
  | _, _, _, .nil, e => by
    cases e
    rfl
  | _ :: ds, _, ns, .cons h r, e => by
    cases h with
    | bl i =>
      simp only [boolsOf] at e
      cases q : boolsOf ds with
      | none => rw [q] at e; cases e
      | some ms =>
        rw [q] at e
        cases e
        rw [RpAll.bools r q]
        rfl
    | _ => cases e
end

structure SOk (G : Gx) (O : List Nat) (F H : Hp) (σ : L2.St) (env : Env) : Prop where
  fh : Same F H
  len : env.length = σ.length
  imm : ∀ (i : Nat) (d : D), env[i]? = some (some d) → i ∉ O → ∃ v, σ[i]? = some (some v) ∧ Rp G F v d
  own : ∀ i ∈ O, ∃ p k vs ds, σ[i]? = some (some (.ref p)) ∧ env[i]? = some (some (kD k ds)) ∧ F p = none ∧ H p = some (kO G.P G.w p k vs) ∧ RpAll G F vs ds ∧ KdOk p k ds
  dj : ∀ i ∈ O, ∀ j ∈ O, σ[i]? = σ[j]? → i = j
  tb : TbOk G F H
section
variable {G : Gx} {O O' : List Nat} {F H F' H' : Hp} {σ : L2.St} {env : Env}
theorem SOk.fz (s : SOk G O F H σ env) : Fz G F H := ⟨s.fh, s.tb⟩
theorem SOk.gr (s : SOk G O F H σ env) (g : Gr F H F' H') : SOk G O F' H' σ env := by
  refine ⟨g.fh, s.len, fun i d e n => ?_, fun i hi => ?_, s.dj, s.tb.gr g⟩
  · obtain ⟨v, h1, h2⟩ := s.imm i d e n
    exact ⟨v, h1, h2.mono g.ff⟩
  · obtain ⟨p, k, vs, ds, h1, h2, h3, h4, h5, h6⟩ := s.own i hi
    exact ⟨p, k, vs, ds, h1, h2, g.hid p _ h4 h3, g.hh.o h4, h5.mono g.ff, h6⟩
theorem Rp.ofK {p : Addr} {k : Kd} {vs : List V} {ds : List D} (h : F p = some (kO G.P G.w p k vs)) (r : RpAll G F vs ds) (o : KdOk p k ds) : Rp G F (.ref p) (kD k ds) := by
  cases k with
  | lst => exact .lst (.inl (.inl h)) r
  | dct oo ks => exact .dct h o r
  | dki oo ks => exact .dki h o r
theorem SOk.ownC (s : SOk G O F H σ env) {i : Nat} (hi : i ∈ O) : (∃ p vs ds, σ[i]? = some (some (.ref p)) ∧ env[i]? = some (some (.list ds)) ∧ F p = none ∧ H p = some (.lst vs) ∧ RpAll G F vs ds) ∨ ∃ kvs, env[i]? = some (some (.dict kvs)) := by
  obtain ⟨p, k, vs, ds, h1, h2, h3, h4, h5, h6⟩ := s.own i hi
  cases k with
  | lst => exact .inl ⟨p, vs, ds, h1, h2, h3, h4, h5⟩
  | dct oo ks => exact .inr ⟨_, h2⟩
  | dki oo ks => exact .inr ⟨_, h2⟩
theorem getD_some {env : Env} {i : Nat} {d : D} (h : env.getD i none = some d) : env[i]? = some (some d) := by
  rw [List.getD_eq_getElem?_getD] at h
  cases q : env[i]? with
  | none => rw [q] at h; cases h
  | some o => rw [q] at h; exact congrArg some h
theorem SOk.any (s : SOk G O F H σ env) {i : Nat} {d : D} (e : env.getD i none = some d) : ∃ v, σ[i]? = some (some v) ∧ RpB G F H v d := by
  have e' := getD_some e
  by_cases hi : i ∈ O
  · obtain ⟨p, k, vs, ds, h1, h2, h3, h4, h5, h6⟩ := s.own i hi
    rw [e'] at h2
    cases h2
    exact ⟨_, h1, .inr ⟨p, k, vs, ds, rfl, rfl, h4, h5, h6⟩⟩
  · obtain ⟨v, h1, h2⟩ := s.imm i d e' hi
    exact ⟨v, h1, .inl h2⟩
theorem SOk.set (s : SOk G O F H σ env) {i : Nat} {v : V} {d : D} (h : i ∉ O) (r : Rp G F v d) : SOk G O F H (σ.set i (some v)) (env.set i (some d)) := by
  have hne : ∀ j ∈ O, i ≠ j := fun j hj e => h (e ▸ hj)
  refine ⟨s.fh, by rw [List.length_set, List.length_set]; exact s.len, fun j e hj n => ?_, fun j hj => ?_, fun j hj k hk e => ?_, s.tb⟩
  · by_cases ij : i = j
    · subst ij
      have hl : i < env.length := by
        have := (List.getElem?_eq_some_iff.mp hj).1
        rw [List.length_set] at this
        exact this
      rw [List.getElem?_set_self hl] at hj
      cases hj
      exact ⟨v, List.getElem?_set_self (s.len ▸ hl), r⟩
    · rw [List.getElem?_set_ne ij] at hj ⊢
      exact s.imm j e hj n
  · rw [List.getElem?_set_ne (hne j hj), List.getElem?_set_ne (hne j hj)]
    exact s.own j hj
  · rw [List.getElem?_set_ne (hne j hj), List.getElem?_set_ne (hne k hk)] at e
    exact s.dj j hj k hk e
theorem SOk.drop (s : SOk G O F H σ env) (i : Nat) : SOk G (O.filter (· ≠ i)) F H (σ.set i none) (env.set i none) := by
  have hne : ∀ j ∈ O.filter (· ≠ i), i ≠ j ∧ j ∈ O := fun j hj => by
    obtain ⟨h1, h2⟩ := List.mem_filter.mp hj
    exact ⟨fun e => (of_decide_eq_true h2) e.symm, h1⟩
  refine ⟨s.fh, by rw [List.length_set, List.length_set]; exact s.len, fun j e hj n => ?_, fun j hj => ?_, fun j hj k hk e => ?_, s.tb⟩
  · by_cases ij : i = j
    · subst ij
      have hl : i < env.length := by
        have := (List.getElem?_eq_some_iff.mp hj).1
        rw [List.length_set] at this
        exact this
      rw [List.getElem?_set_self hl] at hj
      cases hj
    · rw [List.getElem?_set_ne ij] at hj ⊢
      exact s.imm j e hj fun z => n (List.mem_filter.mpr ⟨z, decide_eq_true (Ne.symm ij)⟩)
  · rw [List.getElem?_set_ne (hne j hj).1, List.getElem?_set_ne (hne j hj).1]
    exact s.own j (hne j hj).2
  · rw [List.getElem?_set_ne (hne j hj).1, List.getElem?_set_ne (hne k hk).1] at e
    exact s.dj j (hne j hj).2 k (hne k hk).2 e
theorem SOk.wipe (s : SOk G O F H σ env) : ∀ {vs : List Nat}, (∀ i ∈ vs, i ∉ O) → SOk G O F H (wipe σ vs) (wipeE env vs)
  | [], _ => s
  | i :: vs, h => by
    have q := (SOk.wipe s fun j hj => h j (List.mem_cons_of_mem _ hj)).drop i
    have e : O.filter (· ≠ i) = O := List.filter_eq_self.mpr fun j hj => decide_eq_true fun z => h i List.mem_cons_self (z ▸ hj)
    rw [e] at q
    exact q
theorem ext_wipe {σ σ' : L2.St} {sl : List Nat} (hl : σ'.length = σ.length) (h : ∀ j, j ∉ sl → σ'[j]? = σ[j]?) : ∀ {vs : List Nat}, (∀ j ∈ sl, j ∈ vs) → L2.wipe σ' vs = L2.wipe σ vs := by
  intro vs hs
  have at_ : ∀ (τ : L2.St) (vs : List Nat) (j : Nat), j < τ.length → (L2.wipe τ vs)[j]? = if j ∈ vs then some none else τ[j]? := by
    intro τ vs j hj
    induction vs with
    | nil => rfl
    | cons v vs ih =>
      show ((L2.wipe τ vs).set v none)[j]? = _
      by_cases e : v = j
      · subst e
        rw [List.getElem?_set_self (by rw [wipe_length]; exact hj), if_pos List.mem_cons_self]
      · rw [List.getElem?_set_ne e, ih]
        by_cases m : j ∈ vs
        · rw [if_pos m, if_pos (List.mem_cons_of_mem _ m)]
        · rw [if_neg m, if_neg fun z => (List.mem_cons.mp z).elim (fun q => e q.symm) m]
  refine List.ext_getElem? fun j => ?_
  by_cases hj : j < σ.length
  · rw [at_ σ' vs j (hl ▸ hj), at_ σ vs j hj]
    by_cases m : j ∈ vs
    · rw [if_pos m, if_pos m]
    · rw [if_neg m, if_neg m]
      exact h j fun z => m (hs j z)
  · rw [List.getElem?_eq_none (by rw [wipe_length]; omega), List.getElem?_eq_none (by rw [wipe_length]; omega)]
end
end TL

set_option Elab.async false
set_option linter.all false
set_option maxRecDepth 100000
namespace TL
open PySem PySem.Spec PyProof.Rows L2
def kV (G : Gx) (F H : Hp) (d : D) (Q : VK) : Prop := ∀ v F' H', Gr F H F' H' → Rp G F' v d → Q v H'
def kB (G : Gx) (F H : Hp) (d : D) (Q : VK) : Prop := ∀ v F' H', Gr F H F' H' → RpB G F' H' v d → Q v H'
def kN (G : Gx) (F H : Hp) (d : D) (Q : VK) : Prop := ∀ p k vs ds F' H', Gr F H F' H' → H p = none → F' p = none → H' p = some (kO G.P G.w p k vs) → RpAll G F' vs ds → KdOk p k ds → d = kD k ds → Q (.ref p) H'
def rV (G : Gx) (O : List Nat) (f : SE) : TE := fun σ H Q => ∃ F env d, SOk G O F H σ env ∧ f env = some d ∧ kV G F H d Q
def rB (G : Gx) (O : List Nat) (f : SE) : TE := fun σ H Q => ∃ F env d, SOk G O F H σ env ∧ f env = some d ∧ kB G F H d Q
def rN (G : Gx) (O : List Nat) (f : SE) : TE := fun σ H Q => ∃ F env d, SOk G O F H σ env ∧ f env = some d ∧ kN G F H d Q
def rT (G : Gx) (O : List Nat) (f : ST) : TT := fun σ H Q => ∃ F env b, SOk G O F H σ env ∧ f env = some b ∧ ∀ F' H', Gr F H F' H' → Q b H'
section
variable {G : Gx} {O : List Nat} {F H F1 H1 : Hp} {d : D} {Q : VK} {σ : L2.St}
theorem kV.gr (h : kV G F H d Q) (g : Gr F H F1 H1) : kV G F1 H1 d Q := fun v F' H' g' r => h v F' H' (g.trans g') r
theorem kN.gr (h : kN G F H d Q) (g : Gr F H F1 H1) : kN G F1 H1 d Q := fun p k vs ds F' H' g' e1 => h p k vs ds F' H' (g.trans g') (g.hh.free e1)
theorem kB.v (h : kB G F H d Q) : kV G F H d Q := fun v F' H' g r => h v F' H' g r.b
theorem kV.n (h : kV G F H d Q) : kN G F H d Q := fun p k vs ds F' H' g e1 e2 e3 r o e => by
  subst e
  have g2 := g.close e1 e2 e3
  exact h _ _ _ g2 (.ofK upd_same (r.mono (same_upd e2)) o)
theorem kV.same (h : kV G F H d Q) (s : Same F H) {v : V} (r : Rp G F v d) : Q v H := h v F H (Gr.refl s) r
theorem kV.newT {vs : List V} {ds : List D} (h : kV G F H (.tuple ds) Q) (s : Same F H) (r : RpAll G F vs ds) {p : Addr} {ob : Obj} (hp : H p = none) (hd : ob.dict = none) : Q (.ref p) (upd H p (.frz ob (.tup vs))) :=
  h _ _ _ (Gr.new s hp) (.tup (.inl ⟨ob, upd_same, hd⟩) (r.mono (same_upd (Same.nn s hp))))
theorem kN.newL {vs : List V} {ds : List D} (h : kN G F H (.list ds) Q) (s : Same F H) (r : RpAll G F vs ds) {p : Addr} (hp : H p = none) : Q (.ref p) (upd H p (.lst vs)) :=
  h p .lst vs ds _ _ (Gr.open_ s hp) hp (Same.nn s hp) upd_same r trivial rfl
end
section
variable {X : Cx} {e : Expr} {O : List Nat} {f : SE}
theorem _root_.L2.PE.imp {t t' : TE} (h : PE X e t) (i : ∀ σ H Q, t' σ H Q → t σ H Q) : PE X e t' := ⟨fun pins s σ H Q I q => h.run pins s σ H Q I (i σ H Q q)⟩
theorem _root_.L2.PT.imp {t t' : TT} (h : PT X e t) (i : ∀ σ H Q, t' σ H Q → t σ H Q) : PT X e t' := ⟨fun pins s σ H Q I q => h.run pins s σ H Q I (i σ H Q q)⟩
theorem _root_.L2.PW.imp {t t' : TT} (h : PW X e t) (i : ∀ σ H Q, t' σ H Q → t σ H Q) : PW X e t' := ⟨fun w pins s σ H Q I q => h.run w pins s σ H Q I (i σ H Q q)⟩
theorem vb (h : PE X e (rV (gx X) O f)) : PE X e (rB (gx X) O f) := h.imp fun σ H Q ⟨F, env, d, hs, hf, q⟩ => ⟨F, env, d, hs, hf, q.v⟩
theorem nv (h : PE X e (rN (gx X) O f)) : PE X e (rV (gx X) O f) := h.imp fun σ H Q ⟨F, env, d, hs, hf, q⟩ => ⟨F, env, d, hs, hf, q.n⟩
theorem nb (h : PE X e (rN (gx X) O f)) : PE X e (rB (gx X) O f) := vb (nv h)
theorem ev (i : Nat) {x : Str} {pos : Pos} (hO : i ∉ O := by decide) (hN : X.N[i]? = some x := by rfl) (hv : Vis X.env.scope x := by first | exact Or.inl rfl | exact Or.inr (Or.inl rfl) | exact Or.inr (Or.inr rfl)) (hd : (x == ("__debug__" : Str)) = false := by decide)
    (hcd : (x == ("__classdict__" : Str)) = false := by decide) : PE X (.Name x pos) (rV (gx X) O (eVar i)) := (pe_var hN hv hd hcd).imp fun σ H Q ⟨F, env, d, hs, hf, q⟩ => by
  obtain ⟨v, h1, h2⟩ := hs.imm i d (getD_some hf) hO
  exact ⟨v, h1, q.same hs.fh h2⟩
theorem eb (i : Nat) {x : Str} {pos : Pos} (hN : X.N[i]? = some x := by rfl) (hv : Vis X.env.scope x := by first | exact Or.inl rfl | exact Or.inr (Or.inl rfl) | exact Or.inr (Or.inr rfl)) (hd : (x == ("__debug__" : Str)) = false := by decide)
    (hcd : (x == ("__classdict__" : Str)) = false := by decide) : PE X (.Name x pos) (rB (gx X) O (eVar i)) := (pe_var hN hv hd hcd).imp fun σ H Q ⟨F, env, d, hs, hf, q⟩ => by
  obtain ⟨v, h1, h2⟩ := hs.any hf
  exact ⟨v, h1, q v F H (Gr.refl hs.fh) h2⟩
theorem rC {v : V} {d : D} (r : ∀ F, Rp (gx X) F v d) (h : PE X e (tC v)) : PE X e (rV (gx X) O (eC d)) := h.imp fun σ H Q ⟨F, env, d', hs, hf, q⟩ => by
  have e' := Option.some.inj hf
  subst e'
  exact q.same hs.fh (r F)
theorem ei {i : Int} {j pos} : PE X (.Constant (.int i) j pos) (rV (gx X) O (eC (.int i))) := rC (fun _ => .int i) pe_int
theorem ebl {b : Bool} {j pos} : PE X (.Constant (.bool b) j pos) (rV (gx X) O (eC (.bool b))) := rC (fun _ => .bl b) pe_bl
theorem es {x : Str} {j pos} : PE X (.Constant (.str x) j pos) (rV (gx X) O (eC (.str x))) := rC (fun _ => .str x) pe_str
end

def OpV (X : Cx) (f : Value → Value → Sem Value) (g : D → D → Option D) : Prop :=
  OpR X f fun x y H Q => ∃ F dx dy d, Same F H ∧ RpB (gx X) F H x dx ∧ RpB (gx X) F H y dy ∧ g dx dy = some d ∧ kV (gx X) F H d Q
def OpN (X : Cx) (f : Value → Value → Sem Value) (g : D → D → Option D) : Prop :=
  OpR X f fun x y H Q => ∃ F dx dy d, Same F H ∧ RpB (gx X) F H x dx ∧ RpB (gx X) F H y dy ∧ g dx dy = some d ∧ kN (gx X) F H d Q
section
variable {X : Cx} {O : List Nat} {a b c : Expr} {fa fb fc : SE} {pos : Pos} {g : D → D → Option D}
theorem seq2 {R : V → V → Hp → Prop} {F H : Hp} {σ : L2.St} {env : Env} {x y : D} (hs : SOk (gx X) O F H σ env) (ha : fa env = some x) (hb : fb env = some y)
    (h : ∀ v u F' H', Gr F H F' H' → RpB (gx X) F' H' v x → RpB (gx X) F' H' u y → R v u H') : rB (gx X) O fa σ H fun v H1 => rB (gx X) O fb σ H1 fun u H2 => R v u H2 :=
  ⟨F, env, x, hs, ha, fun v F1 H1 g1 r1 => ⟨F1, env, y, hs.gr g1, hb, fun u F2 H2 g2 r2 => h v u F2 H2 (g1.trans g2) (r1.gr g2) r2⟩⟩
theorem split2 {env : Env} {d : D} (h : e2 g fa fb env = some d) : ∃ x y, fa env = some x ∧ fb env = some y ∧ g x y = some d := by
  simp only [e2] at h
  cases q : fa env with
  | none => rw [q] at h; cases h
  | some x =>
    rw [q] at h
    cases q2 : fb env with
    | none => rw [q2] at h; cases h
    | some y =>
      rw [q2] at h
      exact ⟨x, y, rfl, rfl, h⟩
theorem eo {op : Operator} (ho : OpV X (binaryOp op) g) (ha : PE X a (rB (gx X) O fa)) (hb : PE X b (rB (gx X) O fb)) : PE X (.BinOp a op b pos) (rV (gx X) O (e2 g fa fb)) :=
  (pe_op ho ha hb).imp fun σ H Q ⟨F, env, d, hs, hf, q⟩ => by
    obtain ⟨x, y, h1, h2, h3⟩ := split2 hf
    exact seq2 hs h1 h2 fun v u F' H' g' r1 r2 => ⟨F', x, y, d, g'.fh, r1, r2, h3, q.gr g'⟩
theorem eoN {op : Operator} (ho : OpN X (binaryOp op) g) (ha : PE X a (rB (gx X) O fa)) (hb : PE X b (rB (gx X) O fb)) : PE X (.BinOp a op b pos) (rN (gx X) O (e2 g fa fb)) :=
  (pe_op ho ha hb).imp fun σ H Q ⟨F, env, d, hs, hf, q⟩ => by
    obtain ⟨x, y, h1, h2, h3⟩ := split2 hf
    exact seq2 hs h1 h2 fun v u F' H' g' r1 r2 => ⟨F', x, y, d, g'.fh, r1, r2, h3, q.gr g'⟩
theorem split1 {g : D → Option D} {env : Env} {d : D} (h : e1 g fa env = some d) : ∃ x, fa env = some x ∧ g x = some d := by
  simp only [e1] at h
  cases q : fa env with
  | none => rw [q] at h; cases h
  | some x =>
    rw [q] at h
    exact ⟨x, rfl, h⟩
theorem ec {op : CmpOp} (ho : OpV X (compareOp op) g) (ha : PE X a (rB (gx X) O fa)) (hb : PE X b (rB (gx X) O fb)) (hm : behindInMarks op b = false := by first | exact nomark _ | rfl | with_unfolding_all rfl) : PE X (.Compare a [op] [b] pos) (rV (gx X) O (e2 g fa fb)) :=
  (pe_cmpR ho ha hb hm).imp fun σ H Q ⟨F, env, d, hs, hf, q⟩ => by
    obtain ⟨x, y, h1, h2, h3⟩ := split2 hf
    exact seq2 hs h1 h2 fun v u F' H' g' r1 r2 => ⟨F', x, y, d, g'.fh, r1, r2, h3, q.gr g'⟩
theorem tvSplit {f : SE} {env : Env} {k : Bool} (h : tV f env = some k) : f env = some (.bool k) := by
  simp only [tV] at h
  cases q : f env with
  | none => rw [q] at h; cases h
  | some x =>
    rw [q] at h
    cases x <;> first | (cases h; done) | skip
    simp only [Option.bind_some, toB] at h
    rw [Option.some.inj h]
theorem tc {op : CmpOp} (ho : OpV X (compareOp op) g) (ha : PE X a (rB (gx X) O fa)) (hb : PE X b (rB (gx X) O fb)) (hm : behindInMarks op b = false := by first | exact nomark _ | rfl | with_unfolding_all rfl) : PT X (.Compare a [op] [b] pos) (rT (gx X) O (tV (e2 g fa fb))) :=
  (pt_cmpR ho ha hb hm).imp fun σ H Q ⟨F, env, d, hs, hf, q⟩ => by
    obtain ⟨x, y, h1, h2, h3⟩ := split2 (tvSplit hf)
    exact seq2 hs h1 h2 fun v u F' H' g' r1 r2 => ⟨F', x, y, _, g'.fh, r1, r2, h3, fun w F2 H2 g2 rw => by
      cases rw
      exact ⟨d, rfl, q F2 H2 (g'.trans g2)⟩⟩
theorem tv (h : PE X a (rV (gx X) O fa)) (he : ∀ whole, isTrue a X.env whole = (do let v ← whole; standAt a.pos; holding [v] (truthy v)) := by intro _; rfl) : PT X a (rT (gx X) O (tV fa)) :=
  (pt_val h he).imp fun σ H Q ⟨F, env, d, hs, hf, q⟩ => ⟨F, env, .bool d, hs, tvSplit hf, fun v F' H' g' r => by
    cases r
    exact ⟨d, rfl, q F' H' g'⟩⟩
end
end TL

set_option Elab.async false
set_option linter.all false
set_option maxRecDepth 100000
namespace TL
open PySem PySem.Spec PyProof.Rows L2
section
variable {X : Cx} {es : List Expr} {t : TA} {pos : Pos}
def tTupF (t : TA) : TE := fun σ H Q => t σ H fun xs H1 => xs.length ≤ sizeLine ∧ ∀ p (o : Obj), H1 p = none → o.dict = none → Q (.ref p) (upd H1 p (.frz o (.tup xs)))
theorem isTup_new {h : Heap} {its : Array Value} : (h.push { cls := .type "tuple", data := .seq its }).get? h.objs.size = some { cls := .type "tuple", data := .seq its } := Heap.get?_push_size _ rfl
theorem pe_tupF {x1} (h : PA X es t) : PE X (.Tuple es x1 pos) (tTupF t) := by
  refine ⟨fun pins s σ H Q I hq => ?_⟩
  refine wpAny_Tuple_spliced (thn (h.run pos pins s σ H _ I hq) fun us s1 ⟨xs, H1, I1, r, z, q⟩ => ⟨by rw [← r.length]; exact z, ?_⟩)
  have hf : H1 s1.heap.objs.size = none := I1.hok.fresh (Nat.le_refl _)
  refine ⟨.ref s1.heap.objs.size, upd H1 s1.heap.objs.size (.frz { cls := .type "tuple", data := .seq us.toArray } (.tup xs)), I1.laid (t' := s1.toks) (fun b u e => Heap.get?_push_of_some _ e) (Nat.le_refl _) ?_, rfl, q _ _ hf rfl⟩
  exact ⟨isTup_new, z, us, r, ⟨_, Heap.get?_push_size _ rfl, rfl, _, rfl⟩⟩
theorem call_tuple_ofF : CallR X (.type "tuple") (fun xs H Q => ∃ p ys, xs = [.ref p] ∧ ((SqL X.K H p ys ∧ ∀ l (o : Obj), H l = none → o.dict = none → Q (.ref l) (upd H l (.frz o (.tup ys)))) ∨ (SqT X.K H p ys ∧ Q (.ref p) H))) := by
  intro pins s σ H xs us Q I r h
  obtain ⟨p, ys, rfl, h⟩ := h
  obtain ⟨u, rfl, rx⟩ := vals1 r
  cases rx
  rcases h with ⟨hq, q⟩ | ⟨hq, q⟩
  · obtain ⟨its, r', pl, hz⟩ := I.list hq
    have hlen := r'.length
    refine call_tuple_list pl.isList (fun h' kp => ?_) (by simp only [List.size_toArray] <;> omega)
    have I1 : Inv X pins σ H { s with heap := h' } := I.kept (t' := s.toks) kp
    have I2 : Inv X pins σ (upd H h'.objs.size (.frz { cls := .type "tuple", data := .seq its.toArray } (.tup ys))) { s with heap := h'.push { cls := .type "tuple", data := .seq its.toArray } } :=
      I1.laid (t' := s.toks) (fun b o e => Heap.get?_push_of_some _ e) (Nat.le_refl _) (show ObjOk X.prog X.w _ _ _ (.frz _ (.tup ys)) from ⟨isTup_new, hz, its, r', IsTup.new _ _⟩)
    exact ⟨.ref h'.objs.size, _, I2, rfl, q _ _ (I1.hok.fresh (Nat.le_refl _)) rfl⟩
  · obtain ⟨its, r', pl, hz⟩ := I.tuple hq
    exact call_tuple_same pl ⟨.ref p, H, I, rfl, q⟩
def rCatF (K : PySem.W.Frag) : R2 := fun x y H Q => ∃ a b xs ys, x = .ref a ∧ y = .ref b ∧ SqT K H a xs ∧ SqT K H b ys ∧ xs.length + ys.length ≤ sizeLine ∧
  (xs = [] → Q (.ref b) H) ∧ (xs ≠ [] → ys = [] → Q (.ref a) H) ∧ (xs ≠ [] → ys ≠ [] → ∀ p (o : Obj), H p = none → o.dict = none → Q (.ref p) (upd H p (.frz o (.tup (xs ++ ys)))))
theorem op_catF : OpR X (binaryOp .Add) (rCatF X.K) := by
  intro pins s σ H x y v u Q I rx ry h
  obtain ⟨a, b, xs, ys, rfl, rfl, ha, hb, hz, q0, q1, q2⟩ := h
  by_cases hx : xs = []
  · exact op_catA pins s σ H _ _ v u Q I rx ry ⟨a, b, xs, ys, rfl, rfl, ha, hb, hz, q0, q1, fun z => absurd hx z⟩
  · cases rx
    cases ry
    obtain ⟨its, r1, p1, _⟩ := I.tuple ha
    obtain ⟨its2, r2, p2, _⟩ := I.tuple hb
    refine HT.cat_tup p1 p2 (fun z => hx (r1.nil_iff.mp z)) (fun z => ⟨.ref a, H, I, rfl, q1 hx (r2.nil_iff.mp z)⟩) (fun z => ?_) (by rw [← r1.length, ← r2.length]; exact hz)
    exact ⟨.ref s.heap.objs.size, _, I.laid (t' := s.toks) (o := .frz { cls := .type "tuple", data := .seq (its ++ its2).toArray } (.tup (xs ++ ys))) (fun b ob q => Heap.get?_push_of_some _ q) (Nat.le_refl _)
      ⟨isTup_new, by rw [List.length_append]; exact hz, _, r1.append r2, IsTup.new _ _⟩, rfl, q2 hx (fun w => z (r2.nil_iff.mpr w)) _ _ (I.hok.fresh (Nat.le_refl _)) rfl⟩
def rSlF (K : PySem.W.Frag) : V → Option Int → Option Int → Hp → VK → Prop := fun x lo hi H Q => ∃ a xs, x = .ref a ∧ SqT K H a xs ∧
  (HT.sIx xs.length 0 lo = 0 ∧ HT.sIx xs.length xs.length hi = xs.length → Q (.ref a) H) ∧ (¬ (HT.sIx xs.length 0 lo = 0 ∧ HT.sIx xs.length xs.length hi = xs.length) → ∀ p (o : Obj), H p = none → o.dict = none → Q (.ref p) (upd H p (.frz o (.tup (cutV xs lo hi)))))
theorem sl_tupF : SlR X (rSlF X.K) := by
  intro pins s σ H x v vl vu lo hi sl Q I rx hs pl pu h
  obtain ⟨a, xs, rfl, hx, q1, q2⟩ := h
  by_cases hw : HT.sIx xs.length 0 lo = 0 ∧ HT.sIx xs.length xs.length hi = xs.length
  · exact sl_tupA pins s σ H _ v vl vu lo hi sl Q I rx hs pl pu ⟨a, xs, rfl, hx, q1, fun z => absurd hw z⟩
  · cases rx
    obtain ⟨its, r, ht, hz⟩ := I.tuple hx
    have hlen : its.toArray.size = xs.length := by rw [List.size_toArray]; exact r.length.symm
    refine ⟨"tuple", _, PyProof.Rows.slot_tuple_getitem.lookup, ht.typeIs, ?_⟩
    refine HT.getItem_tuple_cut ht hs pl pu (by rw [hlen]; exact hw) ?_ (by rw [hlen]; exact hz)
    rw [hlen]
    exact ⟨.ref s.heap.objs.size, _, I.laid (t' := s.toks) (o := .frz { cls := .type "tuple", data := .seq ((its.drop (HT.sIx xs.length 0 lo)).take (HT.sIx xs.length xs.length hi - HT.sIx xs.length 0 lo)).toArray } (.tup (cutV xs lo hi))) (fun b ob q => Heap.get?_push_of_some _ q) (Nat.le_refl _)
      ⟨isTup_new, Nat.le_trans (cutV_length xs lo hi) hz, _, (r.drop (HT.sIx xs.length 0 lo)).take (HT.sIx xs.length xs.length hi - HT.sIx xs.length 0 lo), IsTup.new _ _⟩, rfl, q2 hw _ _ (I.hok.fresh (Nat.le_refl _)) rfl⟩
variable {e : Expr} {te : L2.St → Hp → (Int → Int → Hp → Prop) → Prop}
theorem tyU_is {pins : List (Addr × Obj)} {σ : L2.St} {H : Hp} {s : Shared} {a : Addr} {xs : List V} (I : Inv X pins σ H s) (h : SqU X.K H a xs) : s.TypeIs (.ref a) "tuple" ∧ ∀ b, Value.ref a = .ref b → ∃ ob, s.heap.get? b = some ob ∧ ob.dict = none := by
  rcases h with ⟨o, h, hd⟩ | ⟨o, its, n, h1, h2, h3, _⟩
  · obtain ⟨ho, _, _, _, o', ho', hc, _⟩ := I.hok a _ h
    refine ⟨⟨o', ho', hc⟩, fun b e => ?_⟩
    cases e
    exact ⟨o, ho, hd⟩
  · exact tyV_is (x := .ref a) I rfl (.inr (.inl ⟨rfl, o, h1, h2, h3⟩))
def tTM (K : PySem.W.Frag) (r : V → List V → Hp → VK → Prop) (to : TE) (t : TA) : TE := fun σ H Q => to σ H fun x H1 => (∃ a xs, x = .ref a ∧ SqU K H1 a xs) ∧ t σ H1 fun xs H2 => r x xs H2 Q
theorem pe_tm {o e : Expr} {es : List Expr} {to : TE} {t : TA} {name : Str} {apos cpos : Pos} {id : String} {r : V → List V → Hp → VK → Prop} (slot : Slot "tuple" name id) (hty : typeOf (.builtin id) = pure (.type "method_descriptor")) (hm : MtR X id r) (ho : PE X o to) (ha : PA X (e :: es) t)
    (hbase : attributeBase o name X.env (eval o X.env) = eval o X.env := by rfl)
    (hfew : ((backTo cpos (starEach (e :: es) X.env)).all (fun x => !x.1) && (backToKw cpos (keywordEach [] X.env)).all (fun x => x.1.isSome)
      && decide ((e :: es).length + ([] : List Keyword).length + (if ([] : List Keyword).isEmpty then 0 else 1) < 30)) = true := by rfl)
    (hline : (apos.endLine == cpos.line) = true := by rfl) (hs : starEach (e :: es) X.env = (false, eval e X.env) :: starEach es X.env := by rfl) (hplain : (backTo cpos (starEach es X.env)).any (·.1) = false := by rfl) :
    PE X (.Call (.Attribute o name apos) (e :: es) [] cpos) (tTM X.K r to t) := by
  refine ⟨fun pins s σ H Q I h => ?_⟩
  refine wpAny_Call_method_late hbase hfew hline rfl (thn (ho.run pins s σ H _ I h) fun v s1 ⟨x, H1, I1, r1, ⟨a, xs, ex, hu⟩, q1⟩ => ?_)
  subst ex
  obtain rfl : v = Value.ref a := r1
  obtain ⟨h1, h2⟩ := tyU_is I1 hu
  refine ⟨"tuple", id, PySem.F.plainAttrs_tuple, slot, hty, h1, h2, ?_⟩
  have hA := ha.run cpos pins s1 σ H1 _ I1 q1
  rw [hs] at hA ⊢
  refine Calls.callWith_builtin (by show (false || (backTo cpos (starEach es X.env)).any (·.1)) = false; rw [hplain] <;> rfl) (Calls.evalArgs_plain ?_)
  exact thn hA fun us s2 ⟨vs, H2, I2, r2, q2⟩ => hm pins s2 σ H2 (.ref a) vs _ us Q I2 rfl r2 q2
def rIndexT (K : PySem.W.Frag) : V → List V → Hp → VK → Prop := fun x xs H Q => ∃ (a : Addr) (y : V) (d : PyData) (ds : List PyData) (j : Nat) (z : PyData), x = V.ref a ∧ xs = [y] ∧ Dp K H (V.ref a) (.tuple ds) ∧ Dp K H y d ∧
  SeqAt.shaped (.tuple ds) = true ∧ SeqAt.shaped d = true ∧ ds[j]? = some z ∧ PyData.eqv z d = true ∧ (∀ (m : Nat) (z' : PyData), m < j → ds[m]? = some z' → PyData.eqv z' d = false) ∧ Q (.int (j : Nat)) H
theorem mt_indexT (hu : X.A.units + 65 < cLine) : MtR X "tuple.index" (rIndexT X.K) := by
  intro pins s σ H x xs v us Q I rx rxs h
  obtain ⟨a, y, d, ds, j, z, rfl, rfl, hl, hy, sl, sd, hz, hzj, hno, q⟩ := h
  cases rx
  cases rxs with
  | cons ry rt =>
    rename_i uy ut
    cases rt
    obtain ⟨bs, r1⟩ := Dp.reads I d y uy hy ry
    have hxs : PyData.canLayAll0 ds = true := SeqAt.canLay_of_shaped sl
    have hroom : X.A.units + 1 + min (PyData.depthAll ds) d.depth < cLine := room_in_shaped sd hu
    cases hl with
    | tup hs ha =>
      obtain ⟨its, rv, ⟨⟨cls, dd, data, sls⟩, ho, hc, n, hdt⟩, hlen⟩ := I.tuple hs
      simp only at hc hdt
      subst hc hdt
      obtain ⟨as, h4⟩ := Dp.readsAll I ds _ its ha rv
      have hn : its.length = ds.length := SeqAt.ReadsAll.length ds its as h4
      have hmap : its.map (SeqAt.readOf s.heap) = ds := SeqAt.readsAll_map ds its as hxs h4
      have hvl := rv.length
      obtain ⟨hjd, _⟩ := List.getElem?_eq_some_iff.mp hz
      have hjl : j < its.length := by omega
      have hj : j < its.toArray.size := by simpa using hjl
      have at_ : ∀ (m : Nat) (hm : m < its.toArray.size) (z' : PyData), ds[m]? = some z' → SeqAt.readOf s.heap its.toArray[m] = z' := by
        intro m hm z' hz'
        have hml : m < its.length := by simpa using hm
        rw [← hmap, List.getElem?_map, List.getElem?_eq_getElem hml] at hz'
        have e1 : SeqAt.readOf s.heap its[m] = z' := Option.some.inj (show some (SeqAt.readOf s.heap its[m]) = some z' from hz')
        simpa using e1
      refine call_meets PySem.F.slot_tuple_index ⟨_, ho, rfl⟩ PySem.F.entry_tuple_index (PySem.F.args_tuple_index_2 _ _)
        (_root_.TI.tuple_indexAt a its.toArray n dd sls uy (fun u => PyData.eqv (SeqAt.readOf s.heap u) d) j hj ?_ ?_) ⟨ho, SeqAt.items_eqAt (vs := its.toArray) (show ReadsAll s.heap its.toArray.toList ds as from h4) r1 hxs (SeqAt.canLay_of_shaped sd) hroom, ?_⟩
      · show PyData.eqv (SeqAt.readOf s.heap its.toArray[j]) d = true
        rw [at_ j hj z hz]
        exact hzj
      · intro m hm hmj
        have hmd : m < ds.length := by omega
        have hz' : ds[m]? = some ds[m] := List.getElem?_eq_getElem hmd
        show PyData.eqv (SeqAt.readOf s.heap its.toArray[m]) d = false
        rw [at_ m hm _ hz']
        exact hno m _ hmj hz'
      · exact ⟨.int (j : Nat), H, I.tok _, ⟨_, rfl⟩, q⟩
end
end TL

set_option Elab.async false
set_option linter.all false
set_option maxRecDepth 100000
namespace TL
open PySem PySem.Spec PyProof.Rows L2
theorem bind_some {α β : Type} {a : Option α} {f : α → Option β} {b : β} (h : a.bind f = some b) : ∃ x, a = some x ∧ f x = some b := by
  cases a with
  | none => cases h
  | some x => exact ⟨x, rfl, h⟩
theorem map_some {α β : Type} {a : Option α} {f : α → β} {b : β} (h : a.map f = some b) : ∃ x, a = some x ∧ f x = b := by
  cases a with
  | none => cases h
  | some x => exact ⟨x, rfl, Option.some.inj h⟩
theorem toB_some {d : D} {k : Bool} (h : toB d = some k) : d = .bool k := by
  cases d <;> first | (cases h; done) | skip
  simp only [toB] at h
  rw [Option.some.inj h]
theorem toI_some {d : D} {k : Int} (h : toI d = some k) : d = .int k := by
  cases d <;> first | (cases h; done) | skip
  simp only [toI] at h
  rw [Option.some.inj h]
section
variable {X : Cx} {O : List Nat} {a b c : Expr} {fa fb fc : SE} {ta tb : ST} {pos : Pos} {rest : List Expr}
theorem eone {op} (h : PE X a (rV (gx X) O fa)) : PE X (.BoolOp op [a] pos) (rV (gx X) O fa) := pe_one h
theorem eand (ha : PE X a (rV (gx X) O fa)) (hb : PE X (.BoolOp .And (b :: rest) pos) (rV (gx X) O fb)) : PE X (.BoolOp .And (a :: b :: rest) pos) (rV (gx X) O (eAnd fa fb)) :=
  (pe_and ha hb).imp fun σ H Q ⟨F, env, d, hs, hf, q⟩ => by
    simp only [eAnd] at hf
    obtain ⟨x, h1, hf⟩ := bind_some hf
    obtain ⟨k, h4, hk⟩ := bind_some hf
    refine ⟨F, env, x, hs, h1, fun v F1 H1 g1 r1 => ?_⟩
    have e4 := toB_some h4
    subst e4
    cases r1
    refine ⟨k, rfl, ?_⟩
    cases k with
    | true => exact ⟨F1, env, d, hs.gr g1, hk, q.gr g1⟩
    | false =>
      cases hk
      exact q _ F1 H1 g1 (.bl false)
theorem tone1 (h : PT X a (rT (gx X) O ta)) : PW X (.BoolOp .And [a] pos) (rT (gx X) O ta) := pw_and1 h
theorem tone2 (h : PT X a (rT (gx X) O ta)) : PW X (.BoolOp .Or [a] pos) (rT (gx X) O ta) := pw_or1 h
theorem tand (ha : PT X a (rT (gx X) O ta)) (hb : PW X (.BoolOp .And (b :: rest) pos) (rT (gx X) O tb)) : PW X (.BoolOp .And (a :: b :: rest) pos) (rT (gx X) O (TL.tAnd ta tb)) :=
  (pw_and ha hb).imp fun σ H Q ⟨F, env, d, hs, hf, q⟩ => by
    simp only [TL.tAnd] at hf
    obtain ⟨k, h1, hf⟩ := bind_some hf
    refine ⟨F, env, k, hs, h1, fun F1 H1 g1 => ?_⟩
    cases k with
    | true => exact ⟨F1, env, d, hs.gr g1, hf, fun F2 H2 g2 => q F2 H2 (g1.trans g2)⟩
    | false =>
      cases hf
      exact q F1 H1 g1
theorem tor (ha : PT X a (rT (gx X) O ta)) (hb : PW X (.BoolOp .Or (b :: rest) pos) (rT (gx X) O tb)) : PW X (.BoolOp .Or (a :: b :: rest) pos) (rT (gx X) O (TL.tOr ta tb)) :=
  (pw_or ha hb).imp fun σ H Q ⟨F, env, d, hs, hf, q⟩ => by
    simp only [TL.tOr] at hf
    obtain ⟨k, h1, hf⟩ := bind_some hf
    refine ⟨F, env, k, hs, h1, fun F1 H1 g1 => ?_⟩
    cases k with
    | false => exact ⟨F1, env, d, hs.gr g1, hf, fun F2 H2 g2 => q F2 H2 (g1.trans g2)⟩
    | true =>
      cases hf
      exact q F1 H1 g1
theorem tw (h : PW X a (rT (gx X) O ta)) : PT X a (rT (gx X) O ta) := h.pt
theorem tnot (ha : PT X a (rT (gx X) O ta)) : PT X (.UnaryOp .Not a pos) (rT (gx X) O (TL.tNot ta)) :=
  (pt_not ha).imp fun σ H Q ⟨F, env, d, hs, hf, q⟩ => by
    simp only [TL.tNot] at hf
    obtain ⟨k, h1, hf⟩ := map_some hf
    subst hf
    exact ⟨F, env, k, hs, h1, q⟩
theorem eif (hc : PT X c (rT (gx X) O ta)) (ha : PE X a (rV (gx X) O fa)) (hb : PE X b (rV (gx X) O fb)) : PE X (.IfExp c a b pos) (rV (gx X) O (eIf ta fa fb)) :=
  (pe_ifExp hc ha hb).imp fun σ H Q ⟨F, env, d, hs, hf, q⟩ => by
    simp only [eIf] at hf
    obtain ⟨k, h1, hf⟩ := bind_some hf
    refine ⟨F, env, k, hs, h1, fun F1 H1 g1 => ?_⟩
    cases k with
    | true => exact ⟨F1, env, d, hs.gr g1, hf, q.gr g1⟩
    | false => exact ⟨F1, env, d, hs.gr g1, hf, q.gr g1⟩
end
def aV (G : Gx) (O : List Nat) (f : SI) : TA := fun σ H Q => ∃ F env ds, SOk G O F H σ env ∧ f env = some ds ∧ ∀ vs F' H', Gr F H F' H' → RpAll G F' vs ds → Q vs H'
section
variable {X : Cx} {O : List Nat} {e : Expr} {es : List Expr} {f : SE} {l : List SE} {pos : Pos}
theorem _root_.L2.PA.imp {t t' : TA} (h : PA X es t) (i : ∀ σ H Q, t' σ H Q → t σ H Q) : PA X es t' := ⟨fun pos pins s σ H Q I q => h.run pos pins s σ H Q I (i σ H Q q)⟩
theorem an : PA X [] (aV (gx X) O (eArgs [])) := pa_nil.imp fun σ H Q ⟨F, env, ds, hs, hf, q⟩ => by
  cases hf
  exact q [] F H (Gr.refl hs.fh) .nil
theorem ac (ha : PE X e (rV (gx X) O f)) (hr : PA X es (aV (gx X) O (eArgs l))) (hs : starEach (e :: es) X.env = (false, eval e X.env) :: starEach es X.env := by rfl) : PA X (e :: es) (aV (gx X) O (eArgs (f :: l))) :=
  (pa_cons ha hr hs).imp fun σ H Q ⟨F, env, ds, hs, hf, q⟩ => by
    simp only [eArgs] at hf
    obtain ⟨x, h1, hf⟩ := bind_some hf
    obtain ⟨xs, h2, hf⟩ := map_some hf
    subst hf
    exact ⟨F, env, x, hs, h1, fun v F1 H1 g1 r1 => ⟨F1, env, xs, hs.gr g1, h2, fun vs F2 H2 g2 r2 => q (v :: vs) F2 H2 (g1.trans g2) (.cons (r1.mono g2.ff) r2)⟩⟩
theorem etup {x1} (h : PA X es (aV (gx X) O (eArgs l))) : PE X (.Tuple es x1 pos) (rV (gx X) O (eTup l)) :=
  (pe_tupF h).imp fun σ H Q ⟨F, env, d, hs, hf, q⟩ => by
    simp only [eTup] at hf
    obtain ⟨ds, h1, hf⟩ := bind_some hf
    refine ⟨F, env, ds, hs, h1, fun vs F1 H1 g1 r1 => ?_⟩
    split at hf
    · cases hf
      exact ⟨by rw [r1.length]; assumption, fun p o hp ho => (q.gr g1).newT g1.fh r1 hp ho⟩
    · cases hf
theorem elst (h : PA X es (aV (gx X) O (eArgs l))) : PE X (.List es pos) (rN (gx X) O (eLst l)) :=
  (pe_lst h).imp fun σ H Q ⟨F, env, d, hs, hf, q⟩ => by
    simp only [eLst] at hf
    obtain ⟨ds, h1, hf⟩ := bind_some hf
    refine ⟨F, env, ds, hs, h1, fun vs F1 H1 g1 r1 => ?_⟩
    split at hf
    · cases hf
      exact ⟨by rw [r1.length]; assumption, fun p hp => (q.gr g1).newL g1.fh r1 hp⟩
    · cases hf
end
def spV (G : Gx) (n : Nat) (m : List D → Option D) : Sp := fun vs H Q _ => ∃ F ds d, Fz G F H ∧ RpAll G F vs ds ∧ ds.length = n ∧ m ds = some d ∧ kV G F H d Q
def spN (G : Gx) (n : Nat) (m : List D → Option D) : Sp := fun vs H Q _ => ∃ F ds d, Fz G F H ∧ RpAll G F vs ds ∧ ds.length = n ∧ m ds = some d ∧ kN G F H d Q
section
variable {X : Cx} {O : List Nat} {e : Expr} {es : List Expr} {l : List SE} {p pos : Pos} {x : Str} {k n : Nat} {fa : Addr} {fd : FuncData} {ps : List Str} {m : List D → Option D}
theorem FnOk.nv {P w} {G : Gx} {base CX} (F : FnOk P w G.K G.mg base CX k fa fd ps (spN G n m)) : FnOk P w G.K G.mg base CX k fa fd ps (spV G n m) :=
  F.imp fun vs H Q E ⟨F, ds, d, h1, h2, h3, h4, q⟩ => ⟨F, ds, d, h1, h2, h3, h4, q.n⟩
theorem ecall (F : FnOk X.prog X.w (gx X).K (gx X).mg X.base CX0 k fa fd ps (spV (gx X) n m)) (hr : Room k X.A) (hg : Gl X x) (hm : X.mg x = some (.ref fa)) (hk : PySem.W.keepIn X.K (.ref fa) = true) (hb : Binds X.K fd ps [])
    (ha : PA X (e :: es) (aV (gx X) O (eArgs l))) (hn : l.length = n := by rfl) (hdb : (x == ("__debug__" : Str)) = false := by decide) (he : starEach (e :: es) X.env = (false, eval e X.env) :: starEach es X.env := by rfl) (hpl : (backTo pos (starEach es X.env)).any (·.1) = false := by rfl) :
    PE X (.Call (.Name x p) (e :: es) [] pos) (rV (gx X) O (eCall m l)) :=
  (pe_call F hr hg hm hk hb .nil pass0 ha hdb he hpl).imp fun σ H Q ⟨F, env, d, hs, hf, q⟩ => by
    simp only [eCall] at hf
    obtain ⟨ds, h1, hf⟩ := bind_some hf
    have hl : ∀ (l : List SE) (ds : List D), eArgs l env = some ds → ds.length = l.length := by
      intro l
      induction l with
      | nil => intro ds h; cases h; rfl
      | cons a l ih =>
        intro ds h
        simp only [eArgs] at h
        obtain ⟨x, _, h⟩ := bind_some h
        obtain ⟨xs, h2, h⟩ := map_some h
        subst h
        exact congrArg (· + 1) (ih xs h2)
    refine ⟨F, env, ds, hs, h1, fun vs F1 H1 g1 r1 => ?_⟩
    show spV (gx X) n m (vs ++ []) H1 Q E0
    rw [List.append_nil]
    exact ⟨F1, ds, d, (hs.gr g1).fz, r1, (hl l ds h1).trans hn, hf, q.gr g1⟩
theorem ecallN (F : FnOk X.prog X.w (gx X).K (gx X).mg X.base CX0 k fa fd ps (spN (gx X) n m)) (hr : Room k X.A) (hg : Gl X x) (hm : X.mg x = some (.ref fa)) (hk : PySem.W.keepIn X.K (.ref fa) = true) (hb : Binds X.K fd ps [])
    (ha : PA X (e :: es) (aV (gx X) O (eArgs l))) (hn : l.length = n := by rfl) (hdb : (x == ("__debug__" : Str)) = false := by decide) (he : starEach (e :: es) X.env = (false, eval e X.env) :: starEach es X.env := by rfl) (hpl : (backTo pos (starEach es X.env)).any (·.1) = false := by rfl) :
    PE X (.Call (.Name x p) (e :: es) [] pos) (rN (gx X) O (eCall m l)) :=
  (pe_call F hr hg hm hk hb .nil pass0 ha hdb he hpl).imp fun σ H Q ⟨F, env, d, hs, hf, q⟩ => by
    simp only [eCall] at hf
    obtain ⟨ds, h1, hf⟩ := bind_some hf
    have hl : ∀ (l : List SE) (ds : List D), eArgs l env = some ds → ds.length = l.length := by
      intro l
      induction l with
      | nil => intro ds h; cases h; rfl
      | cons a l ih =>
        intro ds h
        simp only [eArgs] at h
        obtain ⟨x, _, h⟩ := bind_some h
        obtain ⟨xs, h2, h⟩ := map_some h
        subst h
        exact congrArg (· + 1) (ih xs h2)
    refine ⟨F, env, ds, hs, h1, fun vs F1 H1 g1 r1 => ?_⟩
    show spN (gx X) n m (vs ++ []) H1 Q E0
    rw [List.append_nil]
    exact ⟨F1, ds, d, (hs.gr g1).fz, r1, (hl l ds h1).trans hn, hf, q.gr g1⟩
end
def CalV (X : Cx) (f : Value) (g : D → Option D) : Prop := CallR X f fun xs H Q => ∃ F x dx d, xs = [x] ∧ Same F H ∧ RpB (gx X) F H x dx ∧ g dx = some d ∧ kV (gx X) F H d Q
def CalN (X : Cx) (f : Value) (g : D → Option D) : Prop := CallR X f fun xs H Q => ∃ F x dx d, xs = [x] ∧ Same F H ∧ RpB (gx X) F H x dx ∧ g dx = some d ∧ kN (gx X) F H d Q
def CalV2 (X : Cx) (f : Value) (g : D → D → Option D) : Prop := CallR X f fun xs H Q => ∃ F x y dx dy d, xs = [x, y] ∧ Same F H ∧ RpB (gx X) F H x dx ∧ RpB (gx X) F H y dy ∧ g dx dy = some d ∧ kV (gx X) F H d Q
section
variable {X : Cx} {O : List Nat} {e e' : Expr} {f f' : SE} {p pos : Pos} {x : Str} {g : D → Option D} {id T : String}
theorem eB (hc : CalV X (.builtin id) g) (hg : Gl X x) (hm : X.mg x = none) (hv : bootBuiltins x = some (.builtin id)) (ha : PE X e (rB (gx X) O f)) (hn : x ≠ "__name__" := by decide) (hdb : (x == ("__debug__" : Str)) = false := by decide)
    (hs : starEach [e] X.env = (false, eval e X.env) :: starEach [] X.env := by rfl) : PE X (.Call (.Name x p) [e] [] pos) (rV (gx X) O (e1 g f)) :=
  (pe_callB hc hg hm hv (pa_cons ha pa_nil hs) hn hdb hs rfl).imp fun σ H Q ⟨F, env, d, hs, hf, q⟩ => by
    obtain ⟨x, h1, h3⟩ := split1 hf
    exact ⟨F, env, x, hs, h1, fun v F1 H1 g1 r1 => ⟨F1, v, x, d, rfl, g1.fh, r1, h3, q.gr g1⟩⟩
theorem eBN (hc : CalN X (.builtin id) g) (hg : Gl X x) (hm : X.mg x = none) (hv : bootBuiltins x = some (.builtin id)) (ha : PE X e (rB (gx X) O f)) (hn : x ≠ "__name__" := by decide) (hdb : (x == ("__debug__" : Str)) = false := by decide)
    (hs : starEach [e] X.env = (false, eval e X.env) :: starEach [] X.env := by rfl) : PE X (.Call (.Name x p) [e] [] pos) (rN (gx X) O (e1 g f)) :=
  (pe_callB hc hg hm hv (pa_cons ha pa_nil hs) hn hdb hs rfl).imp fun σ H Q ⟨F, env, d, hs, hf, q⟩ => by
    obtain ⟨x, h1, h3⟩ := split1 hf
    exact ⟨F, env, x, hs, h1, fun v F1 H1 g1 r1 => ⟨F1, v, x, d, rfl, g1.fh, r1, h3, q.gr g1⟩⟩
theorem eT (hc : CalV X (.type T) g) (hg : Gl X x) (hm : X.mg x = none) (hv : bootBuiltins x = some (.type T)) (ha : PE X e (rB (gx X) O f)) (hn : x ≠ "__name__" := by decide) (hdb : (x == ("__debug__" : Str)) = false := by decide)
    (hs : starEach [e] X.env = (false, eval e X.env) :: starEach [] X.env := by rfl) : PE X (.Call (.Name x p) [e] [] pos) (rV (gx X) O (e1 g f)) :=
  (pe_callTy hc hg hm hv (pa_cons ha pa_nil hs) hn hdb hs rfl).imp fun σ H Q ⟨F, env, d, hs, hf, q⟩ => by
    obtain ⟨x, h1, h3⟩ := split1 hf
    exact ⟨F, env, x, hs, h1, fun v F1 H1 g1 r1 => ⟨F1, v, x, d, rfl, g1.fh, r1, h3, q.gr g1⟩⟩
theorem eB2 {g : D → D → Option D} (hc : CalV2 X (.builtin id) g) (hg : Gl X x) (hm : X.mg x = none) (hv : bootBuiltins x = some (.builtin id)) (ha : PE X e (rB (gx X) O f)) (hb : PE X e' (rB (gx X) O f')) (hn : x ≠ "__name__" := by decide) (hdb : (x == ("__debug__" : Str)) = false := by decide)
    (hs : starEach [e, e'] X.env = (false, eval e X.env) :: starEach [e'] X.env := by rfl) (hs2 : starEach [e'] X.env = (false, eval e' X.env) :: starEach [] X.env := by rfl) (hpl : (backTo pos (starEach [e'] X.env)).any (·.1) = false := by rfl) : PE X (.Call (.Name x p) [e, e'] [] pos) (rV (gx X) O (e2 g f f')) :=
  (pe_callB hc hg hm hv (pa_cons ha (pa_cons hb pa_nil hs2) hs) hn hdb hs hpl).imp fun σ H Q ⟨F, env, d, hs, hf, q⟩ => by
    obtain ⟨x, y, h1, h2, h3⟩ := split2 hf
    exact ⟨F, env, x, hs, h1, fun v F1 H1 g1 r1 => ⟨F1, env, y, hs.gr g1, h2, fun u F2 H2 g2 r2 => ⟨F2, v, u, x, y, d, rfl, g2.fh, r1.gr g2, r2, h3, q.gr (g1.trans g2)⟩⟩⟩
end
section
variable {X : Cx} {O : List Nat} {a b : Expr} {fa fb : SE} {pos p2 : Pos}
theorem ixV : IxR X fun x y H Q => ∃ F dx dy d, Same F H ∧ RpB (gx X) F H x dx ∧ RpB (gx X) F H y dy ∧ ixD dx dy = some d ∧ kV (gx X) F H d Q := by
  intro va sl pins s σ H x y v u Q hI rx ry h hp
  obtain ⟨F, dx, dy, d, sm, bx, by_, hd, q⟩ := h
  cases dx with
  | list ds =>
    cases dy with
    | int i =>
      have ey := by_.int
      subst ey
      obtain ⟨p, vs, rfl, hl, r⟩ := bx.lst sm
      obtain ⟨w, h1, h2⟩ := r.atI hd
      exact ix_list va sl pins s σ H _ _ v u Q hI rx ry ⟨p, vs, i, w, rfl, rfl, hl, h1, q.same sm h2⟩ hp
    | _ => cases hd
  | tuple ds =>
    cases dy with
    | int i =>
      have ey := by_.int
      subst ey
      obtain ⟨p, vs, rfl, _, hl, r⟩ := bx.tup sm
      obtain ⟨w, h1, h2⟩ := r.atI hd
      exact ix_tup va sl pins s σ H _ _ v u Q hI rx ry ⟨p, vs, i, w, rfl, rfl, hl, h1, q.same sm h2⟩ hp
    | _ => cases hd
  | str z =>
    cases dy with
    | int i =>
      have ey := by_.int
      subst ey
      have ex := bx.str
      subst ex
      simp only [ixD] at hd
      split at hd
      · rename_i hz
        obtain ⟨c, h1, h2⟩ := map_some hd
        subst h2
        exact ix_str va sl pins s σ H _ _ v u Q hI rx ry ⟨z, i, c, rfl, rfl, hz, h1, q.same sm (.str _)⟩ hp
      · cases hd
    | _ => cases hd
  | _ => cases dy <;> cases hd
theorem eix (ha : PE X a (rB (gx X) O fa)) (hb : PE X b (rB (gx X) O fb)) (hs : PlainIx b := by exact fun _ _ => rfl) : PE X (.Subscript a b pos) (rV (gx X) O (e2 ixD fa fb)) :=
  (pe_ix ixV ha hb hs).imp fun σ H Q ⟨F, env, d, hs, hf, q⟩ => by
    obtain ⟨x, y, h1, h2, h3⟩ := split2 hf
    exact seq2 hs h1 h2 fun v u F' H' g' r1 r2 => ⟨F', x, y, d, g'.fh, r1, r2, h3, q.gr g'⟩
def oV (G : Gx) (O : List Nat) (o : Option SE) : TO := fun σ H Q => ∃ F env k, SOk G O F H σ env ∧ ePart o env = some k ∧ ∀ F' H', Gr F H F' H' → Q k H'
theorem on : PO X none (oV (gx X) O none) := ⟨fun pins s σ H Q I ⟨F, env, k, hs, hf, q⟩ => by
  cases hf
  exact po_none.run pins s σ H Q I (q F H (Gr.refl hs.fh))⟩
theorem os (ha : PE X a (rV (gx X) O fa)) : PO X (some a) (oV (gx X) O (some fa)) := ⟨fun pins s σ H Q I ⟨F, env, k, hs, hf, q⟩ => by
  simp only [ePart] at hf
  obtain ⟨x, h1, hf⟩ := bind_some hf
  obtain ⟨i, h2, h3⟩ := map_some hf
  have e2 := toI_some h2
  subst e2 h3
  refine (po_some ha).run pins s σ H Q I ⟨F, env, _, hs, h1, fun v F1 H1 g1 r1 => ?_⟩
  cases r1
  exact ⟨i, rfl, q F1 H1 g1⟩⟩
theorem cutT_whole {xs : List D} {lo hi : Option Int} (h : HT.sIx xs.length 0 lo = 0 ∧ HT.sIx xs.length xs.length hi = xs.length) : cutT xs lo hi = xs := by
  unfold cutT
  rw [h.1, h.2, List.drop_zero, Nat.sub_zero, List.take_length]
theorem slV : SlR X fun x lo hi H Q => ∃ F dx d, Same F H ∧ RpB (gx X) F H x dx ∧ cutD lo hi dx = some d ∧ kV (gx X) F H d Q := by
  intro pins s σ H x v vl vu lo hi sl Q I rx hs pl pu h
  obtain ⟨F, dx, d, sm, bx, hd, q⟩ := h
  cases dx with
  | list ds =>
    obtain ⟨p, vs, rfl, hl, r⟩ := bx.lst sm
    cases hd
    exact sl_list pins s σ H _ v vl vu lo hi sl Q I rx hs pl pu ⟨p, vs, rfl, hl, fun p hp => q.n.newL sm (r.cut lo hi) hp⟩
  | tuple ds =>
    obtain ⟨p, vs, rfl, hf, hl, r⟩ := bx.tup sm
    cases hd
    refine sl_tupF pins s σ H _ v vl vu lo hi sl Q I rx hs pl pu ⟨p, vs, rfl, hl, fun hw => ?_, fun _ p o hp ho => q.newT sm (r.cut lo hi) hp ho⟩
    rw [cutT_whole (by rw [← r.length]; exact hw)] at q
    exact q.same sm (.tup hf r)
  | _ => cases hd
theorem esl {lo hi : Option Expr} {fl fh : Option SE} (ha : PE X a (rB (gx X) O fa)) (hl : PO X lo (oV (gx X) O fl)) (hh : PO X hi (oV (gx X) O fh)) : PE X (.Subscript a (.Slice lo hi none p2) pos) (rV (gx X) O (eSlice fa fl fh)) :=
  (pe_slice slV ha hl hh).imp fun σ H Q ⟨F, env, d, hs, hf, q⟩ => by
    simp only [eSlice] at hf
    obtain ⟨x, h1, hf⟩ := bind_some hf
    obtain ⟨l, h2, hf⟩ := bind_some hf
    obtain ⟨h, h3, hf⟩ := bind_some hf
    exact ⟨F, env, x, hs, h1, fun v F1 H1 g1 r1 => ⟨F1, env, l, hs.gr g1, h2, fun F2 H2 g2 => ⟨F2, env, h, hs.gr (g1.trans g2), h3, fun F3 H3 g3 => ⟨F3, x, d, g3.fh, (r1.gr g2).gr g3, hf, q.gr ((g1.trans g2).trans g3)⟩⟩⟩⟩
end
end TL

set_option Elab.async false
set_option linter.all false
set_option maxRecDepth 100000
namespace TL
open PySem PySem.Spec PyProof.Rows L2
section
variable {X : Cx}
theorem add_listG {pins : List (Addr × Obj)} {s : Shared} {σ : L2.St} {H : Hp} {Q : VK} {a b : Addr} {xs ys : List V} (I : Inv X pins σ H s) (ha : SqL X.K H a xs) (hb : SqL X.K H b ys) (hz : xs.length + ys.length ≤ sizeLine)
    (q : ∀ p, H p = none → Q (.ref p) (upd H p (.lst (xs ++ ys)))) : wpAny (model X.prog X.w) X.A (binaryOp .Add (.ref a) (.ref b)) (EP X pins σ Q) X.xe s := by
  obtain ⟨its, r, p, _⟩ := I.list ha
  obtain ⟨its2, r2, p2, _⟩ := I.list hb
  have hl := r.length
  have hl2 := r2.length
  obtain ⟨⟨cls, dd, data, sl⟩, n, ho, hc, _, hd⟩ := p
  obtain ⟨⟨cls2, dd2, data2, sl2⟩, n2, ho2, hc2, _, hd2⟩ := p2
  simp only at hc hd hc2 hd2
  subst hc hd hc2 hd2
  have e : its.toArray ++ its2.toArray = (its ++ its2).toArray := by simp
  refine PySem.concat_meets ⟨_, ho, rfl⟩ ⟨_, ho2, rfl⟩ noFill_list_add seq_list_add PySem.F.slot_list_add PySem.F.entry_list_add (PySem.F.args_list_add_2 _ _) (list_addW a b its.toArray its2.toArray n n2 dd dd2 sl sl2 (by simp; omega)) ⟨ho, ho2, ?_⟩
  rw [e]
  exact ⟨.ref _, _, I.lnew (t' := s.toks) (r.append r2) (by rw [List.length_append]; omega), rfl, q _ I.fresh⟩
theorem o_addN : OpN X (binaryOp .Add) addLD := by
  intro pins s σ H x y v u Q I rx ry h
  obtain ⟨F, dx, dy, d, sm, bx, by_, hd, q⟩ := h
  cases dx with
  | list ds =>
    cases dy with
    | list es =>
      obtain ⟨p, vs, rfl, hl, r⟩ := bx.lst sm
      obtain ⟨p', us, rfl, hl', r'⟩ := by_.lst sm
      cases rx
      cases ry
      simp only [addLD, addD] at hd
      split at hd
      · rename_i hz
        cases hd
        refine add_listG I hl hl' (by rw [r.length, r'.length]; exact hz) fun p hp => q.newL sm (r.append r') hp
      · cases hd
    | _ => cases hd
  | _ => cases dy <;> cases hd
theorem o_add : OpV X (binaryOp .Add) addD := by
  intro pins s σ H x y v u Q I rx ry h
  obtain ⟨F, dx, dy, d, sm, bx, by_, hd, q⟩ := h
  cases dx with
  | int i =>
    cases dy with
    | int j =>
      have e1 := bx.int
      have e2 := by_.int
      subst e1 e2
      cases hd
      exact op_add pins s σ H _ _ v u Q I rx ry ⟨i, j, rfl, rfl, q.same sm (.int _)⟩
    | _ => cases hd
  | str i =>
    cases dy with
    | str j =>
      have e1 := bx.str
      have e2 := by_.str
      subst e1 e2
      simp only [addD] at hd
      split at hd
      · rename_i hz
        cases hd
        exact op_add_str pins s σ H _ _ v u Q I rx ry ⟨i, j, rfl, rfl, hz, q.same sm (.str _)⟩
      · cases hd
    | _ => cases hd
  | tuple ds =>
    cases dy with
    | tuple es =>
      obtain ⟨p, vs, rfl, hf, hl, r⟩ := bx.tup sm
      obtain ⟨p', us, rfl, hf', hl', r'⟩ := by_.tup sm
      simp only [addD] at hd
      split at hd
      · rename_i hz
        cases hd
        refine op_catF pins s σ H _ _ v u Q I rx ry ⟨p, p', vs, us, rfl, rfl, hl, hl', by rw [r.length, r'.length]; exact hz, fun e => ?_, fun _ e => ?_, fun _ _ p o hp ho => q.newT sm (r.append r') hp ho⟩
        · subst e
          cases r
          exact q.same sm (.tup hf' r')
        · subst e
          cases r'
          rw [List.append_nil] at q
          exact q.same sm (.tup hf r)
      · cases hd
    | _ => cases hd
  | list ds =>
    cases dy with
    | list es => exact o_addN pins s σ H x y v u Q I rx ry ⟨F, _, _, d, sm, bx, by_, hd, q.n⟩
    | _ => cases hd
  | _ => cases dy <;> cases hd
theorem o_int {f : Value → Value → Sem Value} {r : Int → Int → Hp → VK → Prop} {g : D → D → Option D} (ho : OpR X f fun x y H Q => ∃ i j, x = .int i ∧ y = .int j ∧ r i j H Q)
    (hg : ∀ dx dy d, g dx dy = some d → ∃ i j, dx = .int i ∧ dy = .int j ∧ ∀ (F H : Hp) (Q : VK), Same F H → kV (gx X) F H d Q → r i j H Q) : OpV X f g := by
  intro pins s σ H x y v u Q I rx ry h
  obtain ⟨F, dx, dy, d, sm, bx, by_, hd, q⟩ := h
  obtain ⟨i, j, rfl, rfl, h⟩ := hg dx dy d hd
  exact ho pins s σ H x y v u Q I rx ry ⟨i, j, bx.int, by_.int, h F H Q sm q⟩
theorem o_sub : OpV X (binaryOp .Sub) subD := o_int (r := fun i j H Q => Q (.int (i - j)) H) op_sub fun dx dy d h => by
  cases dx <;> cases dy <;> first | (cases h; done) | skip
  cases h
  exact ⟨_, _, rfl, rfl, fun F H Q sm q => q.same sm (.int _)⟩
theorem okMul_c {a b : Int} (h : okMul a b = true) : CMul a b := by
  simp only [okMul, Bool.or_eq_true, Nat.blt_eq] at h
  rcases h with h | h
  · exact .inl ⟨by omega, by omega⟩
  · exact .inr ⟨by omega, by omega⟩
theorem okDiv_c {i b : Int} (h : okDiv b = true) : CDiv i b := by
  simp only [okDiv, Bool.and_eq_true, Nat.ble_eq] at h
  exact ⟨by omega, by omega⟩
theorem okPow_c {a b : Int} (h : okPow a b = true) : CPow a b := by
  simp only [okPow, Bool.and_eq_true, Nat.ble_eq, Nat.blt_eq] at h
  exact ⟨by omega, by omega, by omega⟩
theorem o_mul : OpV X (binaryOp .Mult) mulD := o_int (r := fun i j H Q => CMul i j ∧ Q (.int (i * j)) H) op_mul fun dx dy d h => by
  cases dx <;> cases dy <;> first | (cases h; done) | skip
  simp only [mulD] at h
  split at h
  · cases h
    exact ⟨_, _, rfl, rfl, fun F H Q sm q => ⟨okMul_c (by assumption), q.same sm (.int _)⟩⟩
  · cases h
theorem o_fdiv : OpV X (binaryOp .FloorDiv) fdivD := o_int (r := fun i j H Q => CDiv i j ∧ Q (.int (i / j)) H) op_fdiv fun dx dy d h => by
  cases dx <;> cases dy <;> first | (cases h; done) | skip
  simp only [fdivD] at h
  split at h
  · cases h
    exact ⟨_, _, rfl, rfl, fun F H Q sm q => ⟨okDiv_c (by assumption), q.same sm (.int _)⟩⟩
  · cases h
theorem o_mod : OpV X (binaryOp .Mod) modD := o_int (r := fun i j H Q => 0 < j ∧ Q (.int (i % j)) H) op_mod fun dx dy d h => by
  cases dx <;> cases dy <;> first | (cases h; done) | skip
  simp only [modD] at h
  split at h
  · cases h
    exact ⟨_, _, rfl, rfl, fun F H Q sm q => ⟨by assumption, q.same sm (.int _)⟩⟩
  · cases h
theorem o_pow : OpV X (binaryOp .Pow) powD := o_int (r := fun i j H Q => CPow i j ∧ Q (.int (i ^ j.toNat)) H) op_pow fun dx dy d h => by
  cases dx <;> cases dy <;> first | (cases h; done) | skip
  simp only [powD] at h
  split at h
  · cases h
    exact ⟨_, _, rfl, rfl, fun F H Q sm q => ⟨okPow_c (by assumption), q.same sm (.int _)⟩⟩
  · cases h
theorem lexAt_shift {e r : Nat → Bool} {z : Bool} {n : Nat} : ∀ {i : Nat}, Ob.lexAt e r z (i + 1) n = Ob.lexAt (fun j => e (j + 1)) (fun j => r (j + 1)) z i n := by
  induction n with
  | zero => intro i; rfl
  | succ n ih =>
    intro i
    rw [Ob.lexAt_succ, Ob.lexAt_succ, ih]
theorem lexAt_lt : ∀ (ns ms : List Int), Ob.lexAt (fun j => decide (ns.getD j 0 = ms.getD j 0)) (fun j => decide (ns.getD j 0 < ms.getD j 0)) (decide (ns.length < ms.length)) 0 (min ns.length ms.length) = lexLt ns ms
  | [], [] => rfl
  | [], _ :: _ => by simp [lexLt, Ob.lexAt_zero]
  | _ :: _, [] => by simp [lexLt, Ob.lexAt_zero]
  | x :: ns, y :: ms => by
    have ih := lexAt_lt ns ms
    rw [show min (x :: ns).length (y :: ms).length = min ns.length ms.length + 1 by simp only [List.length_cons]; omega, Ob.lexAt_succ, lexAt_shift]
    have e1 : (decide ((x :: ns).length < (y :: ms).length)) = decide (ns.length < ms.length) := by simp
    rw [e1]
    show (if decide (x = y) = true then Ob.lexAt (fun j => decide (ns.getD j 0 = ms.getD j 0)) (fun j => decide (ns.getD j 0 < ms.getD j 0)) (decide (ns.length < ms.length)) 0 (min ns.length ms.length) else decide (x < y)) = lexLt (x :: ns) (y :: ms)
    rw [ih]
    show _ = if x = y then lexLt ns ms else decide (x < y)
    by_cases h : x = y
    · simp [h]
    · simp [h]
theorem lexAt_le : ∀ (ns ms : List Int), Ob.lexAt (fun j => decide (ns.getD j 0 = ms.getD j 0)) (fun j => decide (ns.getD j 0 ≤ ms.getD j 0)) (decide (ns.length ≤ ms.length)) 0 (min ns.length ms.length) = !lexLt ms ns
  | [], [] => rfl
  | [], _ :: _ => by simp [lexLt, Ob.lexAt_zero]
  | _ :: _, [] => by simp [lexLt, Ob.lexAt_zero]
  | x :: ns, y :: ms => by
    have ih := lexAt_le ns ms
    rw [show min (x :: ns).length (y :: ms).length = min ns.length ms.length + 1 by simp only [List.length_cons]; omega, Ob.lexAt_succ, lexAt_shift]
    have e1 : (decide ((x :: ns).length ≤ (y :: ms).length)) = decide (ns.length ≤ ms.length) := by simp
    rw [e1]
    show (if decide (x = y) = true then Ob.lexAt (fun j => decide (ns.getD j 0 = ms.getD j 0)) (fun j => decide (ns.getD j 0 ≤ ms.getD j 0)) (decide (ns.length ≤ ms.length)) 0 (min ns.length ms.length) else decide (x ≤ y)) = !lexLt (y :: ms) (x :: ns)
    rw [ih]
    show _ = !(if y = x then lexLt ms ns else decide (y < x))
    by_cases h : x = y
    · simp [h]
    · have h' : ¬ y = x := fun z => h z.symm
      simp only [h, h', decide_false, Bool.false_eq_true, if_false]
      by_cases h1 : x ≤ y
      · have h2 : ¬ y < x := by omega
        simp [h1, h2]
      · have h2 : y < x := by omega
        simp [h1, h2]
theorem tupOrd {op : CmpOp} {pi : Int → Int → Bool} {pz : Nat → Nat → Bool} (hu : X.A.units < cLine) (ri : ∀ {A : Around} {s : Shared} (a b : Int) (t u : Tok), Ob.RcOp op A s (.int a t) (.int b u) (pi a b))
    (rule : ∀ {A : Around} {s : Shared} {l b : Addr} {items items2 : Array Value} {e r : Nat → Bool}, s.heap.IsTuple l items → s.heap.IsTuple b items2 → A.units < cLine →
      (∀ j (h1 : j < items.size) (h2 : j < items2.size), SeqAt.EqAt A.in1 s items[j] items2[j] (e j)) → (∀ j (h1 : j < items.size) (h2 : j < items2.size), e j = false → Ob.RcOp op A.in1 s items[j] items2[j] (r j)) →
      Ob.RcOp op A s (.ref l) (.ref b) (Ob.lexAt e r (pz items.size items2.size) 0 (min items.size items2.size)))
    (hop : ∀ v u, compareOp op v u = richCompare op v u)
    {pins : List (Addr × Obj)} {s : Shared} {σ : L2.St} {H : Hp} {Q : VK} {a b : Addr} {ns ms : List Int} (I : Inv X pins σ H s) (ha : SqT X.K H a (ns.map V.int)) (hb : SqT X.K H b (ms.map V.int))
    (q : Q (.bl (Ob.lexAt (fun j => decide (ns.getD j 0 = ms.getD j 0)) (fun j => pi (ns.getD j 0) (ms.getD j 0)) (pz ns.length ms.length) 0 (min ns.length ms.length))) H) :
    wpAny (model X.prog X.w) X.A (compareOp op (.ref a) (.ref b)) (EP X pins σ Q) X.xe s := by
  obtain ⟨its, r1, p1, _⟩ := I.tuple ha
  obtain ⟨its2, r2, p2, _⟩ := I.tuple hb
  have i1 : IntsAre its ns := Vals.ints r1
  have i2 : IntsAre its2 ms := Vals.ints r2
  have e1 : its.toArray.size = ns.length := by rw [List.size_toArray]; exact i1.length
  have e2 : its2.toArray.size = ms.length := by rw [List.size_toArray]; exact i2.length
  have at1 : ∀ j (h1 : j < its.toArray.size), ∃ t, its.toArray[j] = .int (ns.getD j 0) t := fun j h1 => PyProof.Rows.IntsAre.int_at i1 _ _ (by simp at h1; simp [h1])
  have at2 : ∀ j (h1 : j < its2.toArray.size), ∃ t, its2.toArray[j] = .int (ms.getD j 0) t := fun j h1 => PyProof.Rows.IntsAre.int_at i2 _ _ (by simp at h1; simp [h1])
  have R := rule (A := X.A) (s := s) (e := fun j => decide (ns.getD j 0 = ms.getD j 0)) (r := fun j => pi (ns.getD j 0) (ms.getD j 0)) p1 p2 hu (fun j h1 h2 => by
    obtain ⟨t, et⟩ := at1 j h1
    obtain ⟨t', et'⟩ := at2 j h2
    rw [et, et']
    have z : (ns.getD j 0 == ms.getD j 0) = decide (ns.getD j 0 = ms.getD j 0) := by
      by_cases q : ns.getD j 0 = ms.getD j 0
      · rw [decide_eq_true q]; exact beq_iff_eq.mpr q
      · rw [decide_eq_false q]; exact beq_eq_false_iff_ne.mpr q
    rw [← z]
    exact SeqAt.EqAt.int_int _ _ _ _) (fun j h1 h2 _ => by
    obtain ⟨t, et⟩ := at1 j h1
    obtain ⟨t', et'⟩ := at2 j h2
    rw [et, et']
    exact ri _ _ _ _)
  rw [e1, e2] at R
  rw [hop]
  exact R X.prog X.w X.xe (EP X pins σ Q) ⟨.bl _, H, I, rfl, q⟩
theorem o_ord {op : CmpOp} {g : D → D → Option D} {pi : Int → Int → Bool} {pt : List Int → List Int → Bool} (hi : OpR X (compareOp op) (rI0 fun i j => .bl (pi i j)))
    (ht : ∀ {pins : List (Addr × Obj)} {s : Shared} {σ : L2.St} {H : Hp} {Q : VK} {a b : Addr} {ns ms : List Int}, Inv X pins σ H s → SqT X.K H a (ns.map V.int) → SqT X.K H b (ms.map V.int) → Q (.bl (pt ns ms)) H → wpAny (model X.prog X.w) X.A (compareOp op (.ref a) (.ref b)) (EP X pins σ Q) X.xe s)
    (hg : ∀ dx dy d, g dx dy = some d → (∃ i j, dx = .int i ∧ dy = .int j ∧ d = .bool (pi i j)) ∨ ∃ xs ys ns ms, dx = .tuple xs ∧ dy = .tuple ys ∧ intsOf xs = some ns ∧ intsOf ys = some ms ∧ d = .bool (pt ns ms)) : OpV X (compareOp op) g := by
  intro pins s σ H x y v u Q I rx ry h
  obtain ⟨F, dx, dy, d, sm, bx, by_, hd, q⟩ := h
  rcases hg dx dy d hd with ⟨i, j, rfl, rfl, rfl⟩ | ⟨xs, ys, ns, ms, rfl, rfl, h1, h2, rfl⟩
  · exact hi pins s σ H x y v u Q I rx ry ⟨i, j, bx.int, by_.int, q.same sm (.bl _)⟩
  · obtain ⟨p, vs, rfl, _, hl, r⟩ := bx.tup sm
    obtain ⟨p', us, rfl, _, hl', r'⟩ := by_.tup sm
    cases rx
    cases ry
    rw [r.ints h1] at hl
    rw [r'.ints h2] at hl'
    exact ht I hl hl' (q.same sm (.bl _))
theorem ordSplit {g : List Int → List Int → D} {xs ys : List D} {d : D} (h : ((intsOf xs).bind fun x => (intsOf ys).map fun y => g x y) = some d) : ∃ ns ms, intsOf xs = some ns ∧ intsOf ys = some ms ∧ d = g ns ms := by
  obtain ⟨ns, h1, h⟩ := bind_some h
  obtain ⟨ms, h2, h⟩ := map_some h
  exact ⟨ns, ms, h1, h2, h.symm⟩
theorem o_lt (hu : X.A.units < cLine) : OpV X (compareOp .Lt) ltD := o_ord (pi := fun i j => decide (i < j)) (pt := fun x y => lexLt x y) op_lt
  (fun I ha hb q => tupOrd (op := .Lt) (pi := fun i j => decide (i < j)) (pz := fun i j => decide (i < j)) hu (fun a b t u => Ob.RcOp.lt_int a b t u) (fun h1 h2 h3 h4 h5 => Ob.RcOp.tuples_lt h1 h2 h3 h4 h5) (fun _ _ => rfl) I ha hb (by rw [lexAt_lt]; exact q)) fun dx dy d h => by
  cases dx <;> cases dy <;> first | (cases h; done) | skip
  · cases h; exact .inl ⟨_, _, rfl, rfl, rfl⟩
  · obtain ⟨ns, ms, h1, h2, h3⟩ := ordSplit (g := fun x y => .bool (lexLt x y)) h
    exact .inr ⟨_, _, ns, ms, rfl, rfl, h1, h2, h3⟩
theorem o_gt (hu : X.A.units < cLine) : OpV X (compareOp .Gt) gtD := o_ord (pi := fun i j => decide (j < i)) (pt := fun x y => lexLt y x) op_gt
  (fun {pins s σ H Q a b ns ms} I ha hb q => tupOrd (op := .Gt) (pi := fun i j => decide (j < i)) (pz := fun i j => decide (i > j)) hu (fun a b t u => Ob.RcOp.gt_int a b t u) (fun h1 h2 h3 h4 h5 => Ob.RcOp.tuples_gt h1 h2 h3 h4 h5) (fun _ _ => rfl) I ha hb (by
    have e := lexAt_lt ms ns
    rw [Nat.min_comm] at e
    rw [show (fun j => decide (ns.getD j 0 = ms.getD j 0)) = fun j => decide (ms.getD j 0 = ns.getD j 0) from funext fun j => by rw [decide_eq_decide]; exact ⟨Eq.symm, Eq.symm⟩]
    show Q (.bl (Ob.lexAt _ _ (decide (ms.length < ns.length)) 0 _)) H
    rw [e]; exact q)) fun dx dy d h => by
  cases dx <;> cases dy <;> first | (cases h; done) | skip
  · cases h; exact .inl ⟨_, _, rfl, rfl, rfl⟩
  · obtain ⟨ns, ms, h1, h2, h3⟩ := ordSplit (g := fun x y => .bool (lexLt y x)) h
    exact .inr ⟨_, _, ns, ms, rfl, rfl, h1, h2, h3⟩
theorem o_le (hu : X.A.units < cLine) : OpV X (compareOp .LtE) leD := o_ord (pi := fun i j => decide (i ≤ j)) (pt := fun x y => !lexLt y x) op_le
  (fun I ha hb q => tupOrd (op := .LtE) (pi := fun i j => decide (i ≤ j)) (pz := fun i j => decide (i ≤ j)) hu (fun a b t u => Ob.RcOp.le_int a b t u) (fun h1 h2 h3 h4 h5 => Ob.RcOp.tuples_le h1 h2 h3 h4 h5) (fun _ _ => rfl) I ha hb (by rw [lexAt_le]; exact q)) fun dx dy d h => by
  cases dx <;> cases dy <;> first | (cases h; done) | skip
  · cases h; exact .inl ⟨_, _, rfl, rfl, rfl⟩
  · obtain ⟨ns, ms, h1, h2, h3⟩ := ordSplit (g := fun x y => .bool (!lexLt y x)) h
    exact .inr ⟨_, _, ns, ms, rfl, rfl, h1, h2, h3⟩
theorem o_ge (hu : X.A.units < cLine) : OpV X (compareOp .GtE) geD := o_ord (pi := fun i j => decide (j ≤ i)) (pt := fun x y => !lexLt x y) op_ge
  (fun {pins s σ H Q a b ns ms} I ha hb q => tupOrd (op := .GtE) (pi := fun i j => decide (j ≤ i)) (pz := fun i j => decide (i ≥ j)) hu (fun a b t u => Ob.RcOp.ge_int a b t u) (fun h1 h2 h3 h4 h5 => Ob.RcOp.tuples_ge h1 h2 h3 h4 h5) (fun _ _ => rfl) I ha hb (by
    have e := lexAt_le ms ns
    rw [Nat.min_comm] at e
    rw [show (fun j => decide (ns.getD j 0 = ms.getD j 0)) = fun j => decide (ms.getD j 0 = ns.getD j 0) from funext fun j => by rw [decide_eq_decide]; exact ⟨Eq.symm, Eq.symm⟩]
    show Q (.bl (Ob.lexAt _ _ (decide (ms.length ≤ ns.length)) 0 _)) H
    rw [e]; exact q)) fun dx dy d h => by
  cases dx <;> cases dy <;> first | (cases h; done) | skip
  · cases h; exact .inl ⟨_, _, rfl, rfl, rfl⟩
  · obtain ⟨ns, ms, h1, h2, h3⟩ := ordSplit (g := fun x y => .bool (!lexLt x y)) h
    exact .inr ⟨_, _, ns, ms, rfl, rfl, h1, h2, h3⟩
theorem o_eq (hu : X.A.units + 64 < cLine) : OpV X (compareOp .Eq) eqD := by
  intro pins s σ H x y v u Q I rx ry h
  obtain ⟨F, dx, dy, d, sm, bx, by_, hd, q⟩ := h
  unfold eqD at hd
  split at hd
  · rename_i hs
    cases hd
    exact op_eqD hu pins s σ H x y v u Q I rx ry ⟨dx, dy, bx.shp sm hs.1, by_.shp sm hs.2, hs.1, hs.2, q.same sm (.bl _)⟩
  · cases hd
theorem o_ne (hu : X.A.units + 64 < cLine) : OpV X (compareOp .NotEq) neD := by
  intro pins s σ H x y v u Q I rx ry h
  obtain ⟨F, dx, dy, d, sm, bx, by_, hd, q⟩ := h
  unfold neD at hd
  split at hd
  · rename_i hs
    cases hd
    exact op_neD hu pins s σ H x y v u Q I rx ry ⟨dx, dy, bx.shp sm hs.1, by_.shp sm hs.2, hs.1, hs.2, q.same sm (.bl _)⟩
  · cases hd
theorem in_tupD (hu : X.A.units + 65 < cLine) {pins : List (Addr × Obj)} {s : Shared} {σ : L2.St} {H : Hp} {x y : V} {v u : Value} {Q : VK} {d : D} {ds : List D} (I : Inv X pins σ H s) (rx : RelV x v) (ry : RelV y u) (hd : Dp X.K H x d) (he : Dp X.K H y (.tuple ds))
    (sd : SeqAt.shaped d = true) (se : SeqAt.shaped (.tuple ds) = true) (q : Q (.bl (ds.any fun z => PyData.eqv z d)) H) : wpAny (model X.prog X.w) X.A (compareOp .In v u) (EP X pins σ Q) X.xe s := by
  obtain ⟨as, r1⟩ := Dp.reads I d x v hd rx
  obtain ⟨bs, r2⟩ := Dp.reads I (.tuple ds) y u he ry
  exact SeqAt.in_tuple_reads r2 r1 (SeqAt.canLay_of_shaped se) (SeqAt.canLay_of_shaped sd) (room_in_shaped sd hu) ⟨.bl _, H, I, rfl, q⟩
theorem nin_tupD (hu : X.A.units + 65 < cLine) {pins : List (Addr × Obj)} {s : Shared} {σ : L2.St} {H : Hp} {x y : V} {v u : Value} {Q : VK} {d : D} {ds : List D} (I : Inv X pins σ H s) (rx : RelV x v) (ry : RelV y u) (hd : Dp X.K H x d) (he : Dp X.K H y (.tuple ds))
    (sd : SeqAt.shaped d = true) (se : SeqAt.shaped (.tuple ds) = true) (q : Q (.bl (!ds.any fun z => PyData.eqv z d)) H) : wpAny (model X.prog X.w) X.A (compareOp .NotIn v u) (EP X pins σ Q) X.xe s := by
  obtain ⟨as, r1⟩ := Dp.reads I d x v hd rx
  obtain ⟨bs, r2⟩ := Dp.reads I (.tuple ds) y u he ry
  exact SeqAt.notIn_tuple_reads r2 r1 (SeqAt.canLay_of_shaped se) (SeqAt.canLay_of_shaped sd) (room_in_shaped sd hu) ⟨.bl _, H, I, rfl, q⟩
theorem o_in (hu : X.A.units + 65 < cLine) : OpV X (compareOp .In) inD := by
  intro pins s σ H x y v u Q I rx ry h
  obtain ⟨F, dx, dy, d, sm, bx, by_, hd, q⟩ := h
  cases dy with
  | list ds =>
    simp only [inD] at hd
    split at hd
    · rename_i hs
      cases hd
      exact op_inD hu pins s σ H x y v u Q I rx ry ⟨dx, ds, bx.shp sm hs.1, by_.shp sm hs.2, hs.1, hs.2, q.same sm (.bl _)⟩
    · cases hd
  | tuple ds =>
    simp only [inD] at hd
    split at hd
    · rename_i hs
      cases hd
      exact in_tupD hu I rx ry (bx.shp sm hs.1) (by_.shp sm hs.2) hs.1 hs.2 (q.same sm (.bl _))
    · cases hd
  | _ => cases hd
theorem o_nin (hu : X.A.units + 65 < cLine) : OpV X (compareOp .NotIn) ninD := by
  intro pins s σ H x y v u Q I rx ry h
  obtain ⟨F, dx, dy, d, sm, bx, by_, hd, q⟩ := h
  cases dy with
  | list ds =>
    by_cases hs : SeqAt.shaped dx = true ∧ SeqAt.shaped (.list ds) = true
    · simp only [ninD, inD, if_pos hs] at hd
      cases hd
      exact op_notInD hu pins s σ H x y v u Q I rx ry ⟨dx, ds, bx.shp sm hs.1, by_.shp sm hs.2, hs.1, hs.2, q.same sm (.bl _)⟩
    · simp only [ninD, inD, if_neg hs] at hd
      cases hd
  | tuple ds =>
    by_cases hs : SeqAt.shaped dx = true ∧ SeqAt.shaped (.tuple ds) = true
    · simp only [ninD, inD, if_pos hs] at hd
      cases hd
      exact nin_tupD hu I rx ry (bx.shp sm hs.1) (by_.shp sm hs.2) hs.1 hs.2 (q.same sm (.bl _))
    · simp only [ninD, inD, if_neg hs] at hd
      cases hd
  | _ => cases hd
theorem RpB.isN {G : Gx} {F H : Hp} {v : V} {d : D} (h : RpB G F H v d) : decide (v = .non) = isNoneD d := by
  rcases h with h | ⟨p, k, vs, ds, rfl, rfl, _, _⟩
  · cases h <;> rfl
  · cases k <;> rfl
theorem o_isnt : OpV X (compareOp .IsNot) isntD := by
  intro pins s σ H x y v u Q I rx ry h
  obtain ⟨F, dx, dy, d, sm, bx, by_, hd, q⟩ := h
  cases dy with
  | none =>
    refine op_notN pins s σ H x y v u Q I rx ry ⟨by_.non, ?_⟩
    rw [bx.isN]
    have hd' : d = .bool (!isNoneD dx) := by
      simp only [isntD, isD] at hd
      exact (Option.some.inj hd).symm
    rw [hd'] at q
    exact q.same sm (.bl _)
  | bool b =>
    cases dx with
    | bool a =>
      cases hd
      exact op_isnot_bl pins s σ H x y v u Q I rx ry ⟨a, b, bx.bl, by_.bl, q.same sm (.bl _)⟩
    | _ => cases hd
  | _ => cases dx <;> cases hd
end
end TL

set_option Elab.async false
set_option linter.all false
set_option maxRecDepth 100000
namespace TL
open PySem PySem.Spec PyProof.Rows L2
section
variable {X : Cx}
theorem c_len : CalV X (.builtin "len") lenD := by
  intro pins s σ H xs us Q I r h
  obtain ⟨F, x, dx, d, rfl, sm, bx, hd, q⟩ := h
  cases dx with
  | list ds =>
    obtain ⟨p, vs, rfl, hl, r'⟩ := bx.lst sm
    cases hd
    exact call_len_seq pins s σ H _ us Q I r ⟨p, vs, rfl, .inl hl, by rw [r'.length]; exact q.same sm (.int _)⟩
  | tuple ds =>
    obtain ⟨p, vs, rfl, _, hl, r'⟩ := bx.tup sm
    cases hd
    exact call_len_seq pins s σ H _ us Q I r ⟨p, vs, rfl, .inr hl, by rw [r'.length]; exact q.same sm (.int _)⟩
  | str z =>
    have e := bx.str
    subst e
    simp only [lenD] at hd
    split at hd
    · cases hd
      exact call_len_str pins s σ H _ us Q I r ⟨z, rfl, by assumption, q.same sm (.int _)⟩
    · cases hd
  | _ => cases hd
theorem c_tuple : CalV X (.type "tuple") tupleD := by
  intro pins s σ H xs us Q I r h
  obtain ⟨F, x, dx, d, rfl, sm, bx, hd, q⟩ := h
  cases dx with
  | list ds =>
    obtain ⟨p, vs, rfl, hl, r'⟩ := bx.lst sm
    cases hd
    exact call_tuple_ofF pins s σ H _ us Q I r ⟨p, vs, rfl, .inl ⟨hl, fun l o hl ho => q.newT sm r' hl ho⟩⟩
  | tuple ds =>
    obtain ⟨p, vs, rfl, hf, hl, r'⟩ := bx.tup sm
    cases hd
    exact call_tuple_ofF pins s σ H _ us Q I r ⟨p, vs, rfl, .inr ⟨hl, q.same sm (.tup hf r')⟩⟩
  | _ => cases hd
theorem c_int : CalV X (.type "int") intD := by
  intro pins s σ H xs us Q I r h
  obtain ⟨F, x, dx, d, rfl, sm, bx, hd, q⟩ := h
  cases dx with
  | int i =>
    have e := bx.int
    subst e
    cases hd
    exact call_int1 pins s σ H _ us Q I r (.inl ⟨i, rfl, q.same sm (.int _)⟩)
  | bool i =>
    have e := bx.bl
    subst e
    cases hd
    exact call_int1 pins s σ H _ us Q I r (.inr ⟨i, rfl, q.same sm (.int _)⟩)
  | _ => cases hd
theorem c_all (hc : X.calm = true) : CalV X (.builtin "all") allD := by
  intro pins s σ H xs us Q I r h
  obtain ⟨F, x, dx, d, rfl, sm, bx, hd, q⟩ := h
  cases dx with
  | list ds =>
    obtain ⟨p, vs, rfl, hl, r'⟩ := bx.lst sm
    obtain ⟨bs, h1, h2⟩ := map_some (show (boolsOf ds).map _ = some d from hd)
    subst h2
    rw [r'.bools h1] at hl
    exact cr_all hc pins s σ H _ us Q I r ⟨p, bs, rfl, hl, q.same sm (.bl _)⟩
  | _ => cases hd
theorem c_any (hc : X.calm = true) : CalV X (.builtin "any") anyD := by
  intro pins s σ H xs us Q I r h
  obtain ⟨F, x, dx, d, rfl, sm, bx, hd, q⟩ := h
  cases dx with
  | list ds =>
    obtain ⟨p, vs, rfl, hl, r'⟩ := bx.lst sm
    obtain ⟨bs, h1, h2⟩ := map_some (show (boolsOf ds).map _ = some d from hd)
    subst h2
    rw [r'.bools h1] at hl
    exact cr_any hc pins s σ H _ us Q I r ⟨p, bs, rfl, hl, q.same sm (.bl _)⟩
  | _ => cases hd
theorem c_max2 (hc : X.calm = true) : CalV2 X (.builtin "max") max2D := by
  intro pins s σ H xs us Q I r h
  obtain ⟨F, x, y, dx, dy, d, rfl, sm, bx, by_, hd, q⟩ := h
  cases dx <;> cases dy <;> first | (cases hd; done) | skip
  cases hd
  exact call_max2 hc pins s σ H _ us Q I r ⟨_, _, by rw [bx.int, by_.int], q.same sm (.int _)⟩
def tyS : Ty → String
  | .int => "int"
  | .bool => "bool"
  | .str => "str"
  | .tuple => "tuple"
  | .list => "list"
  | .dict => "dict"
theorem kb (a : String) (t : Ty) (ha : a = "NoneType" ∨ a = "int" ∨ a = "bool" ∨ a = "str" ∨ a = "tuple" ∨ a = "list") : kitB a (tyS t) = some (isTy t (match a with | "int" => .int 0 | "bool" => .bool true | "str" => .str ⟨#[]⟩ | "tuple" => .tuple [] | "list" => .list [] | _ => .none)) := by
  rcases ha with rfl | rfl | rfl | rfl | rfl | rfl <;> cases t <;> decide +kernel
theorem tyx_lst {K : PySem.W.Frag} {H : Hp} {a : Addr} {xs : List V} (h : SqL K H a xs) : TyX K H (.ref a) (.type "list") := by
  rcases h with (h | ⟨o, h⟩) | ⟨o, its, n, hk, hc, _⟩
  · exact .base (.lst h)
  · exact .base (.frz h)
  · exact .kList hk hc
theorem tyx_tup {K : PySem.W.Frag} {H : Hp} {a : Addr} {xs : List V} (h : SqT K H a xs) : TyX K H (.ref a) (.type "tuple") := by
  rcases h with (h | ⟨o, h⟩) | ⟨o, its, n, hk, hc, _⟩
  · exact .base (.tup h)
  · exact .fTuple h
  · exact .kTuple hk hc
theorem c_isi {pins : List (Addr × Obj)} {s : Shared} {σ : L2.St} {F H : Hp} {x : V} {dx d : D} {us : List Value} {Q : VK} {t : Ty} (I : Inv X pins σ H s) (r : Vals [x, .ty (tyS t)] us) (sm : Same F H) (bx : RpB (gx X) F H x dx) (hd : isiD t dx = some d) (q : kV (gx X) F H d Q) :
    wpAny (model X.prog X.w) X.A (call (.builtin "isinstance") us) (EP X pins σ Q) X.xe s := by
  have go : ∀ {a : String} {b : Bool}, TyX X.K H x (.type a) → kitB a (tyS t) = some b → Q (.bl b) H → wpAny (model X.prog X.w) X.A (call (.builtin "isinstance") us) (EP X pins σ Q) X.xe s :=
    fun {a b} ty e qq => call_isi pins s σ H _ us Q I r ⟨x, .ty (tyS t), .type a, .type (tyS t), b, rfl, .ty _, ty, kit_ty e, qq⟩
  cases dx with
  | none =>
    have e := bx.non
    subst e
    cases hd
    have hk := kb "NoneType" t (.inl rfl)
    exact go (.base .non) hk (q.same sm (by cases t <;> exact .bl _))
  | bool b =>
    have e := bx.bl
    subst e
    cases hd
    have hk := kb "bool" t (.inr (.inr (.inl rfl)))
    exact go (.base (.bl b)) hk (q.same sm (by cases t <;> exact .bl _))
  | int i =>
    have e := bx.int
    subst e
    cases hd
    have hk := kb "int" t (.inr (.inl rfl))
    exact go (.base (.int i)) hk (q.same sm (by cases t <;> exact .bl _))
  | str z =>
    have e := bx.str
    subst e
    cases hd
    have hk := kb "str" t (.inr (.inr (.inr (.inl rfl))))
    exact go (.base (.str z)) hk (q.same sm (by cases t <;> exact .bl _))
  | tuple ds =>
    obtain ⟨p, vs, rfl, _, hl, r'⟩ := bx.tup sm
    cases hd
    have hk := kb "tuple" t (.inr (.inr (.inr (.inr (.inl rfl)))))
    exact go (tyx_tup hl) hk (q.same sm (by cases t <;> exact .bl _))
  | list ds =>
    obtain ⟨p, vs, rfl, hl, r'⟩ := bx.lst sm
    cases hd
    have hk := kb "list" t (.inr (.inr (.inr (.inr (.inr rfl)))))
    exact go (tyx_lst hl) hk (q.same sm (by cases t <;> exact .bl _))
  | dict _ => cases hd
variable {O : List Nat} {e : Expr} {f : SE} {p p2 pos : Pos} {x y : Str}
theorem eisi (t : Ty) (hg : Gl X "isinstance") (hm : X.mg "isinstance" = none) (hg2 : Gl X y) (hm2 : X.mg y = none) (hv2 : bootBuiltins y = some (.type (tyS t))) (ha : PE X e (rB (gx X) O f))
    (hn2 : y ≠ "__name__" := by decide) (hd2 : (y == ("__debug__" : Str)) = false := by decide) (hs : starEach [e, .Name y p2] X.env = (false, eval e X.env) :: starEach [.Name y p2] X.env := by rfl)
    (hs2 : starEach [.Name y p2] X.env = (false, eval (.Name y p2) X.env) :: starEach [] X.env := by rfl) (hpl : (backTo pos (starEach [.Name y p2] X.env)).any (·.1) = false := by rfl) :
    PE X (.Call (.Name "isinstance" p) [e, .Name y p2] [] pos) (rV (gx X) O (e1 (isiD t) f)) := by
  have hc : CallR X (.builtin "isinstance") fun xs H Q => ∃ F x dx d, xs = [x, .ty (tyS t)] ∧ Same F H ∧ RpB (gx X) F H x dx ∧ isiD t dx = some d ∧ kV (gx X) F H d Q := by
    intro pins s σ H xs us Q I r h
    obtain ⟨F, x, dx, d, rfl, sm, bx, hd, q⟩ := h
    exact c_isi I r sm bx hd q
  refine (pe_callB hc hg hm (by decide +kernel) (pa_cons ha (pa_cons (pe_bltn (v := .ty (tyS t)) hg2 hm2 hv2 rfl hn2 hd2) pa_nil hs2) hs) (by decide) (by decide) hs hpl).imp fun σ H Q ⟨F, env, d, hs, hf, q⟩ => ?_
  obtain ⟨x, h1, h3⟩ := split1 hf
  exact ⟨F, env, x, hs, h1, fun v F1 H1 g1 r1 => ⟨F1, v, x, d, rfl, g1.fh, r1, h3, q.gr g1⟩⟩
end
end TL

set_option Elab.async false
set_option linter.all false
set_option maxRecDepth 100000
namespace TL
open PySem PySem.Spec PyProof.Rows L2
def HLen (K : PySem.W.Frag) (H : Hp) : Prop := (∀ a xs, SqL K H a xs → xs.length ≤ sizeLine) ∧ ∀ a xs, SqT K H a xs → xs.length ≤ sizeLine
theorem pe_hl {X : Cx} {e : Expr} {t : TE} (h : PE X e t) : PE X e fun σ H Q => t σ H fun v H' => HLen X.K H' → Q v H' := by
  refine ⟨fun pins s σ H Q I q => thn (h.run pins s σ H _ I q) fun u s1 ⟨v, H', I', r, q'⟩ => ⟨v, H', I', r, q' ⟨fun a xs h => ?_, fun a xs h => ?_⟩⟩⟩
  · obtain ⟨_, _, _, z⟩ := I'.list h; exact z
  · obtain ⟨_, _, _, z⟩ := I'.tuple h; exact z
def ItV (G : Gx) (J : It) (F : Hp) (ds : List D) : Prop := ∀ i F2 H2, Same F F2 → Same F2 H2 →
  (∀ d, ds[i]? = some d → J.go i H2 ∧ ∀ v H3, J.yld i H2 v H3 → H3 = H2 ∧ Rp G F2 v d) ∧ (ds[i]? = none → J.stop i H2)
def ItB (G : Gx) (J : It) (F H : Hp) (ds : List D) : Prop := ∀ i F2 H2, Same F F2 → SameN H H2 → Same F2 H2 →
  (∀ d, ds[i]? = some d → J.go i H2 ∧ ∀ v H3, J.yld i H2 v H3 → H3 = H2 ∧ Rp G F2 v d) ∧ (ds[i]? = none → J.stop i H2)
theorem ItV.b {G : Gx} {J : It} {F H : Hp} {ds : List D} (h : ItV G J F ds) : ItB G J F H ds := fun i F2 H2 a _ c => h i F2 H2 a c
def iV (G : Gx) (O : List Nat) (f : SI) : TI := fun σ H R => ∃ F env ds, SOk G O F H σ env ∧ f env = some ds ∧ ∀ J F' H', Gr F H F' H' → ds.length ≤ sizeLine → ItV G J F' ds → R J H'
def iB (G : Gx) (O : List Nat) (f : SI) : TI := fun σ H R => ∃ F env ds, SOk G O F H σ env ∧ f env = some ds ∧ ∀ J F' H', Gr F H F' H' → ds.length ≤ sizeLine → ItB G J F' H' ds → R J H'
section
variable {G : Gx} {F H : Hp}
theorem range_get (lo : Int) : ∀ (n i : Nat), (rangeL lo n)[i]? = if i < n then some (.int (lo + i)) else none := by
  intro n
  induction n generalizing lo with
  | zero => intro i; simp [rangeL]
  | succ n ih =>
    intro i
    cases i with
    | zero => simp [rangeL]
    | succ i =>
      show (rangeL (lo + 1) n)[i]? = _
      rw [ih (lo + 1) i]
      by_cases h : i < n
      · rw [if_pos h, if_pos (by omega)]
        congr 2
        omega
      · rw [if_neg h, if_neg (by omega)]
theorem range_len (lo : Int) : ∀ n : Nat, (rangeL lo n).length = n
  | 0 => rfl
  | n + 1 => congrArg (· + 1) (range_len (lo + 1) n)
theorem itv_range (lo : Int) (n : Nat) : ItV G (Itr lo n) F (rangeL lo n) := fun i F2 H2 _ _ => by
  rw [range_get]
  refine ⟨fun d e => ?_, fun e => ?_⟩
  · by_cases h : i < n
    · rw [if_pos h] at e
      cases e
      exact ⟨h, fun v H3 ⟨h1, h2⟩ => by subst h2; exact ⟨h1, .int _⟩⟩
    · rw [if_neg h] at e; cases e
  · by_cases h : i < n
    · rw [if_pos h] at e; cases e
    · show n ≤ i
      omega
end
section
variable {X : Cx} {O : List Nat} {tg a b : Expr} {fa fb : SE} {p pos : Pos}
theorem _root_.L2.PI.imp {t t' : TI} {it : Expr} (h : PI X tg it t) (i : ∀ σ H Q, t' σ H Q → t σ H Q) : PI X tg it t' := ⟨fun pins s σ H R I q => h.run pins s σ H R I (i σ H R q)⟩
theorem iv_b {it : Expr} {f : SI} (h : PI X tg it (iV (gx X) O f)) : PI X tg it (iB (gx X) O f) := h.imp fun σ H R ⟨F, env, ds, hs, hf, q⟩ => ⟨F, env, ds, hs, hf, fun J F' H' g z k => q J F' H' g z k.b⟩
theorem rngSplit {lo hi : Int} {ds : List D} (h : rangeD lo hi = some ds) : -(2 ^ 62) ≤ lo ∧ lo < 2 ^ 62 ∧ -(2 ^ 62) ≤ hi ∧ hi < 2 ^ 62 ∧ (hi - lo).toNat ≤ sizeLine ∧ ds = rangeL lo (hi - lo).toNat := by
  unfold rangeD at h
  split at h
  · rename_i z
    simp only [okRng, Bool.and_eq_true, Nat.ble_eq] at z
    exact ⟨by omega, by omega, by omega, by omega, z.2, (Option.some.inj h).symm⟩
  · cases h
theorem irng1 (hg : Gl X "range") (hm : X.mg "range" = none) (ha : PE X a (rV (gx X) O fa)) (hs : starEach [a] X.env = [(false, eval a X.env)] := by rfl) : PI X tg (.Call (.Name "range" p) [a] [] pos) (iV (gx X) O (iRng1 fa)) :=
  (pi_range1 hg hm (pa_cons ha pa_nil hs) hs).imp fun σ H R ⟨F, env, ds, hs, hf, q⟩ => by
    simp only [iRng1] at hf
    obtain ⟨x, h1, hf⟩ := bind_some hf
    obtain ⟨n, h2, h3⟩ := bind_some hf
    have e2 := toI_some h2
    subst e2
    obtain ⟨_, _, z1, z2, z3, e4⟩ := rngSplit h3
    refine ⟨F, env, _, hs, h1, fun v F1 H1 g1 r1 => ?_⟩
    cases r1
    refine ⟨n, rfl, z1, z2, ?_⟩
    rw [Int.sub_zero] at e4 z3
    subst e4
    exact q _ F1 H1 g1 (by rw [range_len]; exact z3) (itv_range 0 _)
theorem irng2 (hg : Gl X "range") (hm : X.mg "range" = none) (ha : PE X a (rV (gx X) O fa)) (hb : PE X b (rV (gx X) O fb)) (hs : starEach [a, b] X.env = [(false, eval a X.env), (false, eval b X.env)] := by rfl) (hs2 : starEach [b] X.env = [(false, eval b X.env)] := by rfl) :
    PI X tg (.Call (.Name "range" p) [a, b] [] pos) (iV (gx X) O (iRng2 fa fb)) :=
  (pi_range2 hg hm (pa_cons ha (pa_cons hb pa_nil hs2) (by rw [hs, hs2])) hs hs2).imp fun σ H R ⟨F, env, ds, hs, hf, q⟩ => by
    simp only [iRng2] at hf
    obtain ⟨x, h1, hf⟩ := bind_some hf
    obtain ⟨y, h2, hf⟩ := bind_some hf
    obtain ⟨n, h3, hf⟩ := bind_some hf
    obtain ⟨m, h4, h5⟩ := bind_some hf
    have e3 := toI_some h3
    have e4 := toI_some h4
    subst e3 e4
    obtain ⟨z1, z2, z3, z4, z5, e6⟩ := rngSplit h5
    refine ⟨F, env, _, hs, h1, fun v F1 H1 g1 r1 => ⟨F1, env, _, hs.gr g1, h2, fun u F2 H2 g2 r2 => ?_⟩⟩
    cases r1
    cases r2
    subst e6
    exact ⟨n, m, rfl, ⟨z1, z2, z3, z4⟩, q _ F2 H2 (g1.trans g2) (by rw [range_len]; exact z5) (itv_range n _)⟩
theorem _root_.L2.PI.or {t t' : TI} {it : Expr} (h : PI X tg it t) (h' : PI X tg it t') : PI X tg it fun σ H R => t σ H R ∨ t' σ H R := ⟨fun pins s σ H R I q => q.elim (h.run pins s σ H R I) (h'.run pins s σ H R I)⟩
theorem itv_list {K : PySem.W.Frag} {mg : Str → Option Value} {P0 : Program} {w0 : World} {F : Hp} {a : Addr} {vs : List V} {ds : List D} (h : SqL K F a vs) (r : RpAll ⟨K, mg, P0, w0⟩ F vs ds) : ItV ⟨K, mg, P0, w0⟩ (Itl K a) F ds := fun i F2 H2 s1 s2 => by
  have h2 : SqL K H2 a vs := s2.seq (s1.seq h)
  refine ⟨fun d e => ?_, fun e => ⟨vs, h2, by rw [r.length]; exact List.getElem?_eq_none_iff.mp e⟩⟩
  obtain ⟨v, h3, h4⟩ := r.get e
  refine ⟨⟨vs, v, h2, h3⟩, fun x H3 ⟨e1, e2⟩ => ⟨e1, ?_⟩⟩
  have e3 := e2 vs h2
  rw [h3] at e3
  cases e3
  exact h4.mono s1
theorem itv_tup {K : PySem.W.Frag} {mg : Str → Option Value} {P0 : Program} {w0 : World} {F : Hp} {a : Addr} {vs : List V} {ds : List D} (h : SqT K F a vs) (r : RpAll ⟨K, mg, P0, w0⟩ F vs ds) : ItV ⟨K, mg, P0, w0⟩ (Itt K a) F ds := fun i F2 H2 s1 s2 => by
  have h2 : SqT K H2 a vs := sameT s2 (sameT s1 h)
  refine ⟨fun d e => ?_, fun e => ⟨vs, h2, by rw [r.length]; exact List.getElem?_eq_none_iff.mp e⟩⟩
  obtain ⟨v, h3, h4⟩ := r.get e
  refine ⟨⟨vs, v, h2, h3⟩, fun x H3 ⟨e1, e2⟩ => ⟨e1, ?_⟩⟩
  have e3 := e2 vs h2
  rw [h3] at e3
  cases e3
  exact h4.mono s1
theorem itb_list {K : PySem.W.Frag} {mg : Str → Option Value} {P0 : Program} {w0 : World} {F H : Hp} {a : Addr} {vs : List V} {ds : List D} (h : SqL K H a vs) (r : RpAll ⟨K, mg, P0, w0⟩ F vs ds) : ItB ⟨K, mg, P0, w0⟩ (Itl K a) F H ds := fun i F2 H2 s1 s2 s3 => by
  have h2 : SqL K H2 a vs := s2.seq h
  refine ⟨fun d e => ?_, fun e => ⟨vs, h2, by rw [r.length]; exact List.getElem?_eq_none_iff.mp e⟩⟩
  obtain ⟨v, h3, h4⟩ := r.get e
  refine ⟨⟨vs, v, h2, h3⟩, fun x H3 ⟨e1, e2⟩ => ⟨e1, ?_⟩⟩
  have e3 := e2 vs h2
  rw [h3] at e3
  cases e3
  exact h4.mono s1
theorem iseq (ha : PE X a (rV (gx X) O fa)) : PI X tg a (iV (gx X) O (iSeq fa)) :=
  (PI.or (pi_list (pe_hl ha)) (pi_tup (pe_hl ha))).imp fun σ H R ⟨F, env, ds, hs, hf, q⟩ => by
    simp only [iSeq] at hf
    obtain ⟨x, h1, h2⟩ := bind_some hf
    cases x with
    | list es =>
      have e2 := Option.some.inj h2
      subst e2
      refine .inl ⟨F, env, _, hs, h1, fun v F1 H1 g1 r1 hl => ?_⟩
      cases r1 with
      | lst h r => exact ⟨_, rfl, ⟨_, g1.fh.seq h⟩, q _ F1 H1 g1 (by rw [← r.length]; exact hl.1 _ _ (g1.fh.seq h)) (itv_list h r)⟩
    | tuple es =>
      have e2 := Option.some.inj h2
      subst e2
      refine .inr ⟨F, env, _, hs, h1, fun v F1 H1 g1 r1 hl => ?_⟩
      cases r1 with
      | tup h r => exact ⟨_, rfl, ⟨_, sameT g1.fh h.t⟩, q _ F1 H1 g1 (by rw [← r.length]; exact hl.2 _ _ (sameT g1.fh h.t)) (itv_tup h.t r)⟩
    | _ => cases h2
theorem iseqB (ha : PE X a (rB (gx X) O fa)) : PI X tg a (iB (gx X) O (iSeq fa)) :=
  (PI.or (pi_list (pe_hl ha)) (pi_tup (pe_hl ha))).imp fun σ H R ⟨F, env, ds, hs, hf, q⟩ => by
    simp only [iSeq] at hf
    obtain ⟨x, h1, h2⟩ := bind_some hf
    cases x with
    | list es =>
      have e2 := Option.some.inj h2
      subst e2
      refine .inl ⟨F, env, _, hs, h1, fun v F1 H1 g1 r1 hl => ?_⟩
      obtain ⟨p, vs, rfl, h, r⟩ := r1.lst g1.fh
      exact ⟨_, rfl, ⟨_, h⟩, q _ F1 H1 g1 (by rw [← r.length]; exact hl.1 _ _ h) (itb_list h r)⟩
    | tuple es =>
      have e2 := Option.some.inj h2
      subst e2
      refine .inr ⟨F, env, _, hs, h1, fun v F1 H1 g1 r1 hl => ?_⟩
      obtain ⟨p, vs, rfl, hf, h, r⟩ := r1.tup g1.fh
      exact ⟨_, rfl, ⟨_, h⟩, q _ F1 H1 g1 (by rw [← r.length]; exact hl.2 _ _ h) (itv_tup hf.t r).b⟩
    | _ => cases h2
end
def tG (G : Gx) (O : List Nat) (sl : List Nat) (g : SG) : TG := fun v σ H Q => ∃ F env d env', SOk G O F H σ env ∧ Rp G F v d ∧ g d env = some env' ∧
  ∀ σ', SOk G O F H σ' env' → σ'.length = σ.length → (∀ j, j ∉ sl → σ'[j]? = σ[j]?) → Q σ' H
def tGs (G : Gx) (O : List Nat) (sl : List Nat) (gs : List SG) : TGs := fun vs σ H Q => ∃ F env ds env', SOk G O F H σ env ∧ RpAll G F vs ds ∧ gAll gs ds env = some env' ∧
  ∀ σ', SOk G O F H σ' env' → σ'.length = σ.length → (∀ j, j ∉ sl → σ'[j]? = σ[j]?) → Q σ' H
section
variable {X : Cx} {O : List Nat} {pos : Pos}
theorem _root_.L2.PG.imp {t t' : TG} {e : Expr} (h : PG X e t) (i : ∀ v σ H Q, t' v σ H Q → t v σ H Q) : PG X e t' := ⟨fun pins s σ H v u Q I r q => h.run pins s σ H v u Q I r (i v σ H Q q)⟩
theorem _root_.L2.PGs.imp {t t' : TGs} {e : List Expr} (h : PGs X e t) (i : ∀ v σ H Q, t' v σ H Q → t v σ H Q) : PGs X e t' := ⟨fun pins s σ H v u Q I r q => h.run pins s σ H v u Q I r (i v σ H Q q)⟩
theorem gn (i : Nat) {x : Str} (hN : X.N.Nodup) (hO : i ∉ O := by decide) (hi : X.N[i]? = some x := by rfl) (hx : Loc X.env.scope x := by first | exact Or.inl rfl | exact Or.inr rfl) (hf : X.fn x = true ∨ X.env.scope.names.lookup x = some .local := by first | exact .inl rfl | exact .inr rfl | assumption) :
    PG X (.Name x pos) (tG (gx X) O [i] (TL.gName i)) := (pg_name hN hi hx hf).imp fun v σ H Q ⟨F, env, d, env', hs, r, hg, q⟩ => by
  cases hg
  exact q _ (hs.set hO r) (List.length_set ..) fun j hj => List.getElem?_set_ne fun e => hj (by rw [e]; exact List.mem_singleton.mpr rfl)
theorem gsn : PGs X [] (tGs (gx X) O [] []) := pgs_nil.imp fun vs σ H Q ⟨F, env, ds, env', hs, r, hg, q⟩ => by
  cases r with
  | nil =>
    cases hg
    exact ⟨rfl, q σ hs rfl fun _ _ => rfl⟩
  | cons _ _ => cases hg
theorem gsc {e : Expr} {es : List Expr} {sl sl' : List Nat} {g : SG} {gs : List SG} (h1 : PG X e (tG (gx X) O sl g)) (h2 : PGs X es (tGs (gx X) O sl' gs)) (hs : (assignEach (e :: es) X.env).map (·.2) = assign e X.env :: (assignEach es X.env).map (·.2) := by rfl) :
    PGs X (e :: es) (tGs (gx X) O (sl ++ sl') (g :: gs)) := (pgs_cons h1 h2 hs).imp fun vs σ H Q ⟨F, env, ds, env', hs, r, hg, q⟩ => by
  cases r with
  | nil => cases hg
  | @cons v vs d ds r1 r2 =>
    simp only [gAll] at hg
    obtain ⟨env1, h3, h4⟩ := bind_some hg
    refine ⟨v, vs, rfl, F, env, d, env1, hs, r1, h3, fun σ1 s1 l1 k1 => ⟨F, env1, ds, env', s1, r2, h4, fun σ2 s2 l2 k2 => q σ2 s2 (l2.trans l1) fun j hj => ?_⟩⟩
    rw [List.mem_append, not_or] at hj
    rw [k2 j hj.2, k1 j hj.1]
theorem gAll_len : ∀ {gs : List SG} {ds : List D} {env env' : Env}, gAll gs ds env = some env' → ds.length = gs.length
  | [], [], _, _, _ => rfl
  | [], _ :: _, _, _, h => by cases h
  | _ :: _, [], _, _, h => by cases h
  | g :: gs, d :: ds, env, env', h => by
    simp only [gAll] at h
    obtain ⟨e, _, h⟩ := bind_some h
    exact congrArg (· + 1) (gAll_len h)
theorem gt {es : List Expr} {k : Nat} {sl : List Nat} {gs : List SG} (hc : X.calm = true) (h : PGs X es (tGs (gx X) O sl gs)) (hn : (assignEach es X.env).length = gs.length := by rfl) (hst : (assignEach es X.env).findIdx? (·.1) = none := by rfl) :
    PG X (.Tuple es k pos) (tG (gx X) O sl (TL.gTup gs)) := (pg_tup hc h hn hst).imp fun v σ H Q ⟨F, env, d, env', hs, r, hg, q⟩ => by
  cases d with
  | tuple ds =>
    have hg : gAll gs ds env = some env' := hg
    cases r with
    | tup h r => exact ⟨_, _, rfl, sameT hs.fh h.t, by rw [r.length]; exact gAll_len hg, F, env, ds, env', hs, r, hg, q⟩
  | _ => cases hg
end
section
variable {X : Cx} {O : List Nat}
theorem _root_.L2.PTs.imp {t t' : TT} {e : List Expr} (h : PTs X e t) (i : ∀ σ H Q, t' σ H Q → t σ H Q) : PTs X e t' := ⟨fun pins s σ H Q I q => h.run pins s σ H Q I (i σ H Q q)⟩
theorem pyes : PTs X [] (rT (gx X) O cYes) := pts_nil.imp fun σ H Q ⟨F, env, b, hs, hf, q⟩ => by
  cases hf
  exact q F H (Gr.refl hs.fh)
theorem pone {c : Expr} {f : ST} (h : PT X c (rT (gx X) O f)) : PTs X [c] (rT (gx X) O f) := pts_one h
structure LcI (G : Gx) (F1 H1 F' H' : Hp) (D0 : Addr) (acc : List V) (accD : List D) : Prop where
  gr : Gr F1 H1 F' H'
  fr : F' D0 = none
  at_ : H' D0 = some (.lst acc)
  rp : RpAll G F' acc accD
theorem LcI.app {G : Gx} {F1 H1 F' H' : Hp} {D0 : Addr} {acc : List V} {accD : List D} (h : LcI G F1 H1 F' H' D0 acc accD) (hn : H1 D0 = none) {y : V} {d : D} (r : Rp G F' y d) : LcI G F1 H1 F' (upd H' D0 (.lst (acc ++ [y]))) D0 (acc ++ [y]) (accD ++ [d]) := by
  refine ⟨⟨h.gr.ff, h.gr.hh.upd_ hn, fun b x e => ?_, h.gr.hid⟩, h.fr, upd_same, h.rp.append (.cons r .nil)⟩
  · rw [upd_ne (ne_of_none e h.fr)]
    exact h.gr.fh b x e
theorem LcI.gr' {G : Gx} {F1 H1 F' H' F2 H2 : Hp} {D0 : Addr} {acc : List V} {accD : List D} (h : LcI G F1 H1 F' H' D0 acc accD) (g : Gr F' H' F2 H2) : LcI G F1 H1 F2 H2 D0 acc accD :=
  ⟨h.gr.trans g, g.hid _ _ h.at_ h.fr, g.hh.l h.at_, h.rp.mono g.ff⟩
theorem lc_read {G : Gx} {O : List Nat} {fi : SI} {g : SG} {c : ST} {f : SE} {sl vs : List Nat} (hsl : ∀ j ∈ sl, j ∈ vs) (hO : ∀ j ∈ vs, j ∉ O) {σ : L2.St} {H : Hp} {Q : VK} (h : rN G O (eLc vs fi g c f) σ H Q) :
    tLc (iB G O fi) (tG G O sl g) (rT G O c) (rV G O f) vs σ H Q := by
    obtain ⟨F, env, d, hs, hf, q⟩ := h
    simp only [eLc] at hf
    obtain ⟨ds, h1, hf⟩ := bind_some hf
    obtain ⟨es, h2, h3⟩ := map_some hf
    subst h3
    refine ⟨F, env, ds, hs, h1, fun J F1 H1 g1 hz hJ D0 hD => ?_⟩
    have hs1 := hs.gr g1
    refine ⟨fun i m H' => ∃ F' acc accD rest, LcI G F1 H1 F' H' D0 acc accD ∧ accD.length ≤ i ∧ i ≤ ds.length ∧ m = ds.length - i ∧ lcGo g c f (wipeE env (vs)) (ds.drop i) = some rest ∧ es = accD ++ rest,
      ⟨ds.length, F1, [], [], es, ⟨Gr.open_ g1.fh hD, Same.nn g1.fh hD, upd_same, .nil⟩, Nat.le_refl _, Nat.zero_le _, by omega, h2, rfl⟩, ?_⟩
    rintro i m H' ⟨F', acc, accD, rest, L, l1, l2, rfl, hgo, ees⟩
    have hs' := (hs1.gr L.gr).wipe hO
    have hJ' := hJ i F' H' L.gr.ff L.gr.hh L.gr.fh
    cases hd : ds[i]? with
    | none =>
      have hi : ds.length ≤ i := List.getElem?_eq_none_iff.mp hd
      refine .inl ⟨hJ'.2 hd, ?_⟩
      rw [List.drop_eq_nil_of_le hi] at hgo
      cases hgo
      rw [List.append_nil] at ees
      subst ees
      exact q D0 .lst acc es F' H' (g1.trans L.gr) (g1.hh.free hD) L.fr L.at_ L.rp trivial rfl
    | some x =>
      have hi : i < ds.length := (List.getElem?_eq_some_iff.mp hd).1
      have hx : ds[i] = x := (List.getElem?_eq_some_iff.mp hd).2
      have hdr : ds.drop i = x :: ds.drop (i + 1) := by rw [List.drop_eq_getElem_cons hi, hx]
      rw [hdr] at hgo
      simp only [lcGo] at hgo
      obtain ⟨env1, hg1, hgo⟩ := bind_some hgo
      obtain ⟨b, hc1, hgo⟩ := bind_some hgo
      refine .inr ⟨(hJ'.1 x hd).1, fun H2 => ∃ F' acc accD rest, LcI G F1 H1 F' H2 D0 acc accD ∧ accD.length ≤ i + 1 ∧ lcGo g c f (wipeE env (vs)) (ds.drop (i + 1)) = some rest ∧ es = accD ++ rest, fun H2 h => ?_, fun v H2 hy => ?_⟩
      · obtain ⟨F2, acc2, accD2, rest2, L2, l3, hg2, e2⟩ := h
        exact ⟨ds.length - (i + 1), by omega, F2, acc2, accD2, rest2, L2, l3, hi, rfl, hg2, e2⟩
      · obtain ⟨rfl, rv⟩ := (hJ'.1 x hd).2 v H2 hy
        refine ⟨F', _, x, env1, hs', rv, hg1, fun σ2 s2 ln kp => ⟨ext_wipe ln kp hsl |>.trans ?_, F', env1, b, s2, hc1, fun F3 H3 g3 => ?_⟩⟩
        · have : ∀ (vs ws : List Nat) (τ : L2.St), (∀ j ∈ ws, j ∈ vs) → L2.wipe (L2.wipe τ ws) vs = L2.wipe τ vs := fun vs ws τ h => ext_wipe (sl := ws) (wipe_length _ _) (fun j hj => wipe_out hj) h
          exact this _ _ _ fun j h => h
        · cases b with
          | true =>
            rw [if_pos rfl] at hgo ⊢
            obtain ⟨y, he1, hgo⟩ := bind_some hgo
            obtain ⟨rest2, hg2, e2⟩ := map_some hgo
            refine ⟨F3, env1, y, s2.gr g3, he1, fun w F4 H4 g4 r4 => ?_⟩
            have L4 := (L.gr' g3).gr' g4
            refine ⟨acc, L4.at_, ?_, F4, acc ++ [w], accD ++ [y], rest2, L4.app hD r4, by rw [List.length_append]; exact Nat.succ_le_succ l1, hg2, ?_⟩
            · rw [L.rp.length]
              omega
            · rw [ees, ← e2, List.append_assoc]
              rfl
          | false =>
            rw [if_neg Bool.false_ne_true] at hgo ⊢
            exact ⟨F3, acc, accD, rest, L.gr' g3, by omega, hgo, ees⟩
theorem elc {elt tg iter : Expr} {ifs : List Expr} {scope : Scope} {own : List (Str × Nat)} {pos : Pos} {fi : SI} {g : SG} {c : ST} {f : SE} {sl : List Nat} (hc : X.calm = true) (hN : X.N.Nodup) (hi : PI X tg iter (iB (gx X) O fi)) (ok : BlkOk X.N X.env.scope scope own)
    (hg : ∀ (s : Shared) (H : Hp) (C : Addr) (cl : List (Str × Addr)) (fp : List Addr), PG (X.blk s H scope (compEnvC scope cl C X.env) fp) tg (tG (gx X) O sl g)) (ht : ∀ (s : Shared) (H : Hp) (C : Addr) (cl : List (Str × Addr)) (fp : List Addr), PTs (X.blk s H scope (compEnvC scope cl C X.env) fp) ifs (rT (gx X) O c))
    (he : ∀ (s : Shared) (H : Hp) (C : Addr) (cl : List (Str × Addr)) (fp : List Addr), PE (X.blk s H scope (compEnvC scope cl C X.env) fp) elt (rV (gx X) O f)) (hsl : ∀ j ∈ sl, j ∈ own.map (·.2) := by decide) (hO : ∀ j ∈ own.map (·.2), j ∉ O := by decide) (hs : ∀ x, foldedSetIterable iter X.env x = pure x := by intro _; rfl) :
    PE X (.ListComp elt [⟨tg, iter, ifs, 0⟩] scope pos) (rN (gx X) O (eLc (own.map (·.2)) fi g c f)) :=
  (pe_lc hc hN hi ok hg ht he hs).imp fun σ H Q h => lc_read hsl hO h
end
end TL

set_option Elab.async false
set_option linter.all false
set_option maxRecDepth 100000
namespace TL
open PySem PySem.Spec PyProof.Rows L2
structure Fr (F0 H0 : Hp) (O : List Nat) (F H : Hp) (σ : L2.St) : Prop where
  gr : Gr F0 H0 F H
  own : ∀ i ∈ O, ∀ p, σ[i]? = some (some (.ref p)) → H0 p = none
theorem Fr.step {F0 H0 F H F' H' : Hp} {O : List Nat} {σ : L2.St} (f : Fr F0 H0 O F H σ) (g : Gr F H F' H') : Fr F0 H0 O F' H' σ := ⟨f.gr.trans g, f.own⟩
abbrev RK := Hp → Hp → D → VK → Prop
def oV' (G : Gx) : RK := fun F0 H0 d k => kV G F0 H0 d k
def oN' (G : Gx) : RK := fun F0 H0 d k => kN G F0 H0 d k
def sPost (G : Gx) (R : RK) (O' Ob : List Nat) (F0 H0 F : Hp) (D : Ends) : Out → Prop
  | .nx e => ∀ σ' F' H', SOk G O' F' H' σ' e → Fr F0 H0 O' F' H' σ' → Same F F' → D.nx σ' H'
  | .bk e => ∀ σ' F' H', SOk G Ob F' H' σ' e → Fr F0 H0 Ob F' H' σ' → Same F F' → D.bk σ' H'
  | .ct e => ∀ σ' F' H', SOk G Ob F' H' σ' e → Fr F0 H0 Ob F' H' σ' → Same F F' → D.ct σ' H'
  | .rt d => R F0 H0 d D.rt
theorem sPost.ff {G : Gx} {R : RK} {O' Ob : List Nat} {F0 H0 F F1 : Hp} {D : Ends} {out : Out} (q : sPost G R O' Ob F0 H0 F D out) (k : Same F F1) : sPost G R O' Ob F0 H0 F1 D out := by
  cases out with
  | nx e => exact fun σ' F' H' s' f' k' => q σ' F' H' s' f' (k.trans k')
  | bk e => exact fun σ' F' H' s' f' k' => q σ' F' H' s' f' (k.trans k')
  | ct e => exact fun σ' F' H' s' f' k' => q σ' F' H' s' f' (k.trans k')
  | rt d => exact q
def sV (G : Gx) (R : RK) (O O' Ob : List Nat) (f : SS) : TS := fun D σ H => ∃ F0 H0 F env out, SOk G O F H σ env ∧ Fr F0 H0 O F H σ ∧ f env = some out ∧ sPost G R O' Ob F0 H0 F D out
section
variable {X : Cx} {R : RK} {O O' O'' Ob : List Nat} {st : Stmt} {rest : List Stmt} {pos : Pos}
theorem _root_.L2.PS.imp {t t' : TS} {st : Stmt} (h : PS X st t) (i : ∀ D σ H, t' D σ H → t D σ H) : PS X st t' := ⟨fun pins s σ H D I q => h.run pins s σ H D I (i D σ H q)⟩
theorem _root_.L2.PSs.imp {t t' : TS} {st : List Stmt} (h : PSs X st t) (i : ∀ D σ H, t' D σ H → t D σ H) : PSs X st t' := ⟨fun pins s σ H D I q => h.run pins s σ H D I (i D σ H q)⟩
theorem bn : PSs X [] (sV (gx X) R O O Ob sNext) := pss_nil.imp fun D σ H ⟨F0, H0, F, env, out, hs, hf, ho, q⟩ => by
  cases ho
  exact q σ F H hs hf (Same.refl F)
theorem bc {f g : SS} (h1 : PS X st (sV (gx X) R O O' Ob f)) (h2 : PSs X rest (sV (gx X) R O' O'' Ob g)) : PSs X (st :: rest) (sV (gx X) R O O'' Ob (sSeq f g)) :=
  (pss_cons h1 h2).imp fun D σ H ⟨F0, H0, F, env, out, hs, hf, ho, q⟩ => by
    simp only [sSeq] at ho
    obtain ⟨o1, h1, h2⟩ := bind_some ho
    refine ⟨F0, H0, F, env, o1, hs, hf, h1, ?_⟩
    cases o1 with
    | nx e =>
      refine fun σ' F' H' s' f' k' => ⟨F0, H0, F', e, out, s', f', h2, ?_⟩
      cases out with
      | nx e2 => exact fun σ2 F2 H2 s2 f2 k2 => q σ2 F2 H2 s2 f2 (k'.trans k2)
      | bk e2 => exact fun σ2 F2 H2 s2 f2 k2 => q σ2 F2 H2 s2 f2 (k'.trans k2)
      | ct e2 => exact fun σ2 F2 H2 s2 f2 k2 => q σ2 F2 H2 s2 f2 (k'.trans k2)
      | rt d => exact q
    | bk e => cases h2; exact q
    | ct e => cases h2; exact q
    | rt d => cases h2; exact q
theorem bo {f : SS} (h1 : PS X st (sV (gx X) R O O' Ob f)) : PSs X [st] (sV (gx X) R O O' Ob f) := pss_one h1
theorem SOk.less {G : Gx} {F H : Hp} {σ : L2.St} {env : Env} (hs : SOk G O F H σ env) {F0 H0 : Hp} (hf : Fr F0 H0 O F H σ) (h : ∀ i ∈ O', i ∈ O) : ∃ F', SOk G O' F' H σ env ∧ Fr F0 H0 O' F' H σ ∧ Same F F' := by
  classical
  refine ⟨fun p => if ∃ i ∈ O, i ∉ O' ∧ σ[i]? = some (some (.ref p)) then H p else F p, ?_⟩
  have sm : Same F fun p => if ∃ i ∈ O, i ∉ O' ∧ σ[i]? = some (some (.ref p)) then H p else F p := fun b o e => by
    by_cases c : ∃ i ∈ O, i ∉ O' ∧ σ[i]? = some (some (.ref b))
    · show (if _ then _ else _) = _
      rw [if_pos c]; exact hs.fh b o e
    · show (if _ then _ else _) = _
      rw [if_neg c]; exact e
  have fh : Same (fun p => if ∃ i ∈ O, i ∉ O' ∧ σ[i]? = some (some (.ref p)) then H p else F p) H := fun b o e => by
    have e : (if ∃ i ∈ O, i ∉ O' ∧ σ[i]? = some (some (.ref b)) then H b else F b) = some o := e
    split at e
    · exact e
    · exact hs.fh b o e
  refine ⟨⟨fh, hs.len, fun i d e n => ?_, fun i hi => ?_, fun i hi j hj => hs.dj i (h i hi) j (h j hj), fun x hx c P e => ?_⟩, ⟨⟨hf.gr.ff.trans sm, hf.gr.hh, fh, fun p o e n => ?_⟩, fun i hi => hf.own i (h i hi)⟩, sm⟩
  · by_cases hO : i ∈ O
    · obtain ⟨p, kk, vs, ds, h1, h2, h3, h4, h5, hK⟩ := hs.own i hO
      rw [e] at h2
      cases h2
      exact ⟨_, h1, .ofK (by show (if _ then _ else _) = _; rw [if_pos ⟨i, hO, n, h1⟩]; exact h4) (h5.mono sm) hK⟩
    · obtain ⟨v, h1, h2⟩ := hs.imm i d e hO
      exact ⟨v, h1, h2.mono sm⟩
  · obtain ⟨p, kk, vs, ds, h1, h2, h3, h4, h5, hK⟩ := hs.own i (h i hi)
    refine ⟨p, kk, vs, ds, h1, h2, ?_, h4, h5.mono sm, hK⟩
    show (if _ then _ else _) = _
    rw [if_neg fun ⟨j, hj, nj, e⟩ => nj (hs.dj i (h i hi) j hj (h1.trans e.symm) ▸ hi)]
    exact h3
  · obtain ⟨h1, ps, h2, h3⟩ := hs.tb x hx c P e
    refine ⟨?_, ps, h2, h3⟩
    show (if _ then _ else _) = _
    rw [if_neg fun ⟨j, hj, nj, e'⟩ => by
      obtain ⟨p, kk, vs, ds, k1, k2, k3, k4, k5, hK⟩ := hs.own j hj
      rw [e'] at k1
      cases k1
      rw [h2] at k4
      have z := nt_kO G.P G.w P kk vs
      rw [← Option.some.inj k4] at z
      cases z]
    exact h1
  · show (if _ then _ else _) = _
    rw [if_neg fun ⟨j, hj, nj, e'⟩ => by rw [hf.own j hj p e'] at e; cases e]
    exact hf.gr.hid p o e n
theorem sless {f : SS} (hs : PS X st (sV (gx X) R O O' Ob f)) (h : ∀ i ∈ O'', i ∈ O' := by decide) : PS X st (sV (gx X) R O O'' Ob f) :=
  hs.imp fun D σ H ⟨F0, H0, F, env, out, hs, hf, ho, q⟩ => ⟨F0, H0, F, env, out, hs, hf, ho, by
    cases out with
    | nx e => exact fun σ' F' H' s' f' k' => let ⟨F2, s2, f2, k2⟩ := SOk.less s' f' h; q σ' F2 H' s2 f2 (k'.trans k2)
    | bk e => exact q
    | ct e => exact q
    | rt d => exact q⟩
theorem spre {f : SS} (hs : PS X st (sV (gx X) R O' O'' Ob f)) (h : ∀ i ∈ O', i ∈ O := by decide) : PS X st (sV (gx X) R O O'' Ob f) :=
  hs.imp fun D σ H ⟨F0, H0, F, env, out, hs, hf, ho, q⟩ => by
    obtain ⟨F2, s2, f2, k2⟩ := SOk.less hs hf h
    refine ⟨F0, H0, F2, env, out, s2, f2, ho, ?_⟩
    cases out with
    | nx e => exact fun σ' F' H' s' f' k' => q σ' F' H' s' f' (k2.trans k')
    | bk e => exact fun σ' F' H' s' f' k' => q σ' F' H' s' f' (k2.trans k')
    | ct e => exact fun σ' F' H' s' f' k' => q σ' F' H' s' f' (k2.trans k')
    | rt d => exact q
theorem sret {e : Expr} {a : SE} (he : PE X e (rV (gx X) O a)) : PS X (.Return (some e) pos) (sV (gx X) (oV' (gx X)) O O' Ob (sRet a)) :=
  (ps_ret he).imp fun D σ H ⟨F0, H0, F, env, out, hs, hf, ho, q⟩ => by
    simp only [sRet] at ho
    obtain ⟨d, h1, h2⟩ := map_some ho
    subst h2
    exact ⟨F, env, d, hs, h1, kV.gr q hf.gr⟩
theorem sretN {e : Expr} {a : SE} (he : PE X e (rN (gx X) O a)) : PS X (.Return (some e) pos) (sV (gx X) (oN' (gx X)) O O' Ob (sRet a)) :=
  (ps_ret he).imp fun D σ H ⟨F0, H0, F, env, out, hs, hf, ho, q⟩ => by
    simp only [sRet] at ho
    obtain ⟨d, h1, h2⟩ := map_some ho
    subst h2
    exact ⟨F, env, d, hs, h1, kN.gr q hf.gr⟩
theorem sretO (i : Nat) {x : Str} {p : Pos} (hO : i ∈ O := by decide) (hN : X.N[i]? = some x := by rfl) (hv : Vis X.env.scope x := by first | exact Or.inl rfl | exact Or.inr (Or.inl rfl) | exact Or.inr (Or.inr rfl)) (hd : (x == ("__debug__" : Str)) = false := by decide)
    (hcd : (x == ("__classdict__" : Str)) = false := by decide) : PS X (.Return (some (.Name x p)) pos) (sV (gx X) (oN' (gx X)) O O' Ob (sRet (eVar i))) :=
  (ps_ret (pe_var hN hv hd hcd)).imp fun D σ H ⟨F0, H0, F, env, out, hs, hf, ho, q⟩ => by
    simp only [sRet, eVar] at ho
    obtain ⟨d, h1, h2⟩ := map_some ho
    subst h2
    obtain ⟨p, kk, vs, ds, h3, h4, h5, h6, h7, hK⟩ := hs.own i hO
    rw [getD_some h1] at h4
    cases h4
    exact ⟨_, h3, q p kk vs ds F H hf.gr (hf.own i hO p h3) h5 h6 h7 hK rfl⟩
theorem sif {c : Expr} {a b : List Stmt} {fc : ST} {fa fb : SS} (hc : PT X c (rT (gx X) O fc)) (ha : PSs X a (sV (gx X) R O O' Ob fa)) (hb : PSs X b (sV (gx X) R O O' Ob fb)) : PS X (.If c a b pos) (sV (gx X) R O O' Ob (sIf fc fa fb)) :=
  (ps_if hc ha hb).imp fun D σ H ⟨F0, H0, F, env, out, hs, hf, ho, q⟩ => by
    simp only [sIf] at ho
    obtain ⟨k, h1, h2⟩ := bind_some ho
    refine ⟨F, env, k, hs, h1, fun F1 H1 g1 => ?_⟩
    have q' := q.ff g1.ff
    cases k with
    | true => exact ⟨F0, H0, F1, env, out, hs.gr g1, hf.step g1, h2, q'⟩
    | false => exact ⟨F0, H0, F1, env, out, hs.gr g1, hf.step g1, h2, q'⟩
theorem sasg {tg e : Expr} {a : SE} {g : SG} {sl : List Nat} (he : PE X e (rV (gx X) O a)) (hg : PG X tg (tG (gx X) O sl g)) (hsl : ∀ i ∈ O, i ∉ sl := by decide) (hs : swapsWithSole [tg] e pos.line X.env = pure false := by rfl) (hw : swappedStores [tg] e X.env = pure none := by rfl)
    (h1 : (assignEach [tg] X.env).map (·.2) = [assign tg X.env] := by rfl) : PS X (.Assign [tg] e pos) (sV (gx X) R O O Ob (sAsg a g)) :=
  (ps_asg he hg hs hw h1).imp fun D σ H ⟨F0, H0, F, env, out, hs, hf, ho, q⟩ => by
    simp only [sAsg] at ho
    obtain ⟨d, h1, h2⟩ := bind_some ho
    obtain ⟨e', h3, h4⟩ := map_some h2
    subst h4
    refine ⟨F, env, d, hs, h1, fun v F1 H1 g1 r1 => ⟨F1, env, d, e', hs.gr g1, r1, h3, fun σ' s' l' k' => q σ' F1 H1 s' ⟨hf.gr.trans g1, fun i hi p hp => hf.own i hi p ?_⟩ g1.ff⟩⟩
    rw [← k' i (hsl i hi)]
    exact hp
theorem fr_set {F0 H0 F H : Hp} {σ : L2.St} (hf : Fr F0 H0 O F H σ) {i : Nat} {v : V} (hO : i ∉ O) : Fr F0 H0 O F H (σ.set i (some v)) :=
  ⟨hf.gr, fun j hj p hp => hf.own j hj p (by rw [List.getElem?_set_ne (show i ≠ j from fun e => hO (by rw [e]; exact hj))] at hp; exact hp)⟩
theorem sset {x : Str} {e : Expr} {a : SE} {pos' : Pos} (i : Nat) (hN : X.N.Nodup) (he : PE X e (rV (gx X) O a)) (hO : i ∉ O := by decide) (hi : X.N[i]? = some x := by rfl) (hx : Loc X.env.scope x := by first | exact Or.inl rfl | exact Or.inr rfl) (hs : swapsWith e (some (.Name x pos')) pos.line X.env = pure false := by rfl)
    (hf : X.fn x = true ∨ X.env.scope.names.lookup x = some .local := by first | exact .inl rfl | exact .inr rfl | assumption) : PS X (.Assign [.Name x pos'] e pos) (sV (gx X) R O O Ob (sAsg a (TL.gName i))) :=
  (ps_set hN hi hx he hs hf).imp fun D σ H ⟨F0, H0, F, env, out, hs, hf, ho, q⟩ => by
    simp only [sAsg, TL.gName] at ho
    obtain ⟨d, h1, h2⟩ := bind_some ho
    cases h2
    exact ⟨F, env, d, hs, h1, fun v F1 H1 g1 r1 => q _ F1 H1 ((hs.gr g1).set hO r1) (fr_set (hf.step g1) hO) g1.ff⟩
theorem SOk.open_ {G : Gx} {F H F1 H1 : Hp} {σ : L2.St} {env : Env} (hs : SOk G O F H σ env) (g : Gr F H F1 H1) {i : Nat} (hi : i < σ.length) (hO : i ∉ O) {p : Addr} {k : Kd} {vs : List V} {ds : List D} (e1 : H p = none) (e2 : F1 p = none) (e3 : H1 p = some (kO G.P G.w p k vs)) (r : RpAll G F1 vs ds) (o : KdOk p k ds) :
    SOk G (i :: O) F1 H1 (σ.set i (some (.ref p))) (env.set i (some (kD k ds))) := by
  have hs1 := hs.gr g
  have hne : ∀ j ∈ O, i ≠ j := fun j hj e => hO (e ▸ hj)
  have pne : ∀ j ∈ O, σ[j]? ≠ some (some (.ref p)) := fun j hj e => by
    obtain ⟨p', kk, _, _, h1, _, _, h4, _⟩ := hs.own j hj
    rw [e] at h1
    cases h1
    rw [e1] at h4
    cases h4
  refine ⟨hs1.fh, by rw [List.length_set, List.length_set]; exact hs.len, fun j d e n => ?_, fun j hj => ?_, fun j hj k hk e => ?_, hs1.tb⟩
  · have hj : i ≠ j := fun z => n (z ▸ List.mem_cons_self)
    rw [List.getElem?_set_ne hj] at e ⊢
    exact hs1.imm j d e fun z => n (List.mem_cons_of_mem _ z)
  · rcases List.mem_cons.mp hj with rfl | hj
    · exact ⟨p, k, vs, ds, List.getElem?_set_self hi, List.getElem?_set_self (hs.len ▸ hi), e2, e3, r, o⟩
    · rw [List.getElem?_set_ne (hne j hj), List.getElem?_set_ne (hne j hj)]
      exact hs1.own j hj
  · rcases List.mem_cons.mp hj with ej | hj
    · rcases List.mem_cons.mp hk with ek | hk
      · rw [ej, ek]
      · rw [ej, List.getElem?_set_self hi, List.getElem?_set_ne (hne k hk)] at e
        exact absurd e.symm (pne k hk)
    · rcases List.mem_cons.mp hk with ek | hk
      · rw [ek, List.getElem?_set_self hi, List.getElem?_set_ne (hne j hj)] at e
        exact absurd e (pne j hj)
      · rw [List.getElem?_set_ne (hne j hj), List.getElem?_set_ne (hne k hk)] at e
        exact hs.dj j hj k hk e
theorem fr_open {F0 H0 F H F1 H1 : Hp} {σ : L2.St} (hf : Fr F0 H0 O F H σ) (g : Gr F H F1 H1) {i : Nat} (hi : i < σ.length) (hO : i ∉ O) {p : Addr} (e1 : H p = none) : Fr F0 H0 (i :: O) F1 H1 (σ.set i (some (.ref p))) := by
  refine ⟨hf.gr.trans g, fun j hj p' hp => ?_⟩
  rcases List.mem_cons.mp hj with rfl | hj
  · rw [List.getElem?_set_self hi] at hp
    cases hp
    exact hf.gr.hh.free e1
  · rw [List.getElem?_set_ne (show i ≠ j from fun e => hO (by rw [e]; exact hj))] at hp
    exact hf.own j hj p' hp
theorem tAsg_new {G : Gx} {R : RK} {O Ob : List Nat} {i : Nat} {a : SE} {te : TE} {D : Ends} {σ : L2.St} {H : Hp} (hte : ∀ Q, rN G O a σ H Q → te σ H Q) (hO : i ∉ O) (hi : ∀ F env, SOk G O F H σ env → i < σ.length) (h : sV G R O (i :: O) Ob (sAsg a (TL.gName i)) D σ H) : tAsg te (L2.gName i) D σ H := by
  obtain ⟨F0, H0, F, env, out, hs, hf, ho, q⟩ := h
  simp only [sAsg, TL.gName] at ho
  obtain ⟨d, h1, h2⟩ := bind_some ho
  cases h2
  have hi := hi F env hs
  refine hte _ ⟨F, env, d, hs, h1, fun p k vs ds F1 H1 g1 e1 e2 e3 r o e => ?_⟩
  subst e
  exact q _ F1 H1 (hs.open_ g1 hi hO e1 e2 e3 r o) (fr_open hf g1 hi hO e1) g1.ff
theorem ps_ln {t : TS} (h : PS X st t) : PS X st fun D σ H => σ.length = X.N.length → t D σ H := ⟨fun pins s σ H D I q => h.run pins s σ H D I (q I.len)⟩
theorem ix_lt {σ : L2.St} {i : Nat} {x : Str} (hl : σ.length = X.N.length) (hi : X.N[i]? = some x) : i < σ.length := by
  rw [hl]
  exact (List.getElem?_eq_some_iff.mp hi).1
theorem ssetN {x : Str} {e : Expr} {a : SE} {pos' : Pos} (i : Nat) (hN : X.N.Nodup) (he : PE X e (rN (gx X) O a)) (hO : i ∉ O := by decide) (hi : X.N[i]? = some x := by rfl) (hx : Loc X.env.scope x := by first | exact Or.inl rfl | exact Or.inr rfl) (hs : swapsWith e (some (.Name x pos')) pos.line X.env = pure false := by rfl)
    (hf : X.fn x = true ∨ X.env.scope.names.lookup x = some .local := by first | exact .inl rfl | exact .inr rfl | assumption) : PS X (.Assign [.Name x pos'] e pos) (sV (gx X) R O (i :: O) Ob (sAsg a (TL.gName i))) :=
  (ps_ln (ps_set hN hi hx he hs hf)).imp fun D σ H h hl => tAsg_new (fun Q q => q) hO (fun _ _ _ => ix_lt hl hi) h
theorem ssetLN {y : Str} {py : Pos} {elt tg iter : Expr} {ifs : List Expr} {scope : Scope} {own : List (Str × Nat)} {spos : Pos} {fi : SI} {g : SG} {c : ST} {f : SE} {sl : List Nat} (i : Nat) (hc : X.calm = true) (hN : X.N.Nodup) (hsw : swapsWith (.ListComp elt [⟨tg, iter, ifs, 0⟩] scope pos) (some (.Name y py)) spos.line X.env = pure true)
    (hi : PI X tg iter (iB (gx X) O fi)) (ok : BlkOk X.N X.env.scope scope own)
    (hg : ∀ (s : Shared) (H : Hp) (C : Addr) (cl : List (Str × Addr)) (fp : List Addr), PG (X.blk s H scope (compEnvC scope cl C X.env) fp) tg (tG (gx X) O sl g)) (ht : ∀ (s : Shared) (H : Hp) (C : Addr) (cl : List (Str × Addr)) (fp : List Addr), PTs (X.blk s H scope (compEnvC scope cl C X.env) fp) ifs (rT (gx X) O c))
    (he : ∀ (s : Shared) (H : Hp) (C : Addr) (cl : List (Str × Addr)) (fp : List Addr), PE (X.blk s H scope (compEnvC scope cl C X.env) fp) elt (rV (gx X) O f)) (hO' : i ∉ O := by decide) (hy : X.N[i]? = some y := by rfl) (hyl : X.env.scope.names.lookup y = some .local := by rfl) (hsl : ∀ j ∈ sl, j ∈ own.map (·.2) := by decide) (hO : ∀ j ∈ own.map (·.2), j ∉ O := by decide) (hs : ∀ x, foldedSetIterable iter X.env x = pure x := by intro _; rfl) :
    PS X (.Assign [.Name y py] (.ListComp elt [⟨tg, iter, ifs, 0⟩] scope pos) spos) (sV (gx X) R O (i :: O) Ob (sAsg (eLc (own.map (·.2)) fi g c f) (TL.gName i))) :=
  (ps_ln (ps_setLc hc hN hy hyl hsw hi ok hg ht he hs)).imp fun D σ H h hl => tAsg_new (fun Q q => lc_read hsl hO q) hO' (fun _ _ _ => ix_lt hl hy) h
theorem spar {x y : Str} {a b : Expr} {fa fb : SE} {px py pt : Pos} {kt k2 pt2} (i j : Nat) (hc : X.calm = true) (hN : X.N.Nodup) (ha : PE X a (rV (gx X) O fa)) (hb : PE X b (rV (gx X) O fb)) (hOi : i ∉ O := by decide) (hOj : j ∉ O := by decide) (hi : X.N[i]? = some x := by rfl) (hj : X.N[j]? = some y := by rfl) (hij : i ≠ j := by decide)
    (hx : X.env.scope.names.lookup x = some .local := by rfl) (hy : X.env.scope.names.lookup y = some .local := by rfl)
    (hw : swappedStores [.Tuple [.Name x px, .Name y py] kt pt] (.Tuple [a, b] k2 pt2) X.env = pure (some [x, y]) := by rfl)
    (hs : swapsWithSole [.Tuple [.Name x px, .Name y py] kt pt] (.Tuple [a, b] k2 pt2) pos.line X.env = pure false := by rfl) (hs1 : starEach [a, b] X.env = (false, eval a X.env) :: starEach [b] X.env := by rfl) (hs2 : starEach [b] X.env = (false, eval b X.env) :: starEach [] X.env := by rfl) :
    PS X (.Assign [.Tuple [.Name x px, .Name y py] kt pt] (.Tuple [a, b] k2 pt2) pos) (sV (gx X) R O O Ob (sPar i j fa fb)) :=
  (ps_par hc hN hi hj hij hx hy (pa_cons ha (pa_cons hb pa_nil hs2) hs1) hw hs).imp fun D σ H ⟨F0, H0, F, env, out, hs, hf, ho, q⟩ => by
    simp only [sPar] at ho
    obtain ⟨d, h1, ho⟩ := bind_some ho
    obtain ⟨e, h2, h3⟩ := map_some ho
    subst h3
    refine ⟨F, env, d, hs, h1, fun v F1 H1 g1 r1 => ⟨F1, env, e, hs.gr g1, h2, fun u F2 H2 g2 r2 => ⟨v, u, rfl, ?_⟩⟩⟩
    have g := g1.trans g2
    exact q _ F2 H2 (((hs.gr g).set hOi (r1.mono g2.ff)).set hOj r2) (fr_set (fr_set (hf.step g) hOi) hOj) g.ff
theorem SOk.chg {G : Gx} {F H : Hp} {σ : L2.St} {env : Env} (hs : SOk G O F H σ env) {i : Nat} (hi : i ∈ O) {p : Addr} (hp : σ[i]? = some (some (.ref p))) {k : Kd} {vs : List V} {ds : List D} (r : RpAll G F vs ds) (o : KdOk p k ds) : SOk G O F (upd H p (kO G.P G.w p k vs)) σ (env.set i (some (kD k ds))) := by
  obtain ⟨p', kk, _, _, h1, h2, h3, h4, _⟩ := hs.own i hi
  rw [hp] at h1
  cases h1
  have hl : i < env.length := (List.getElem?_eq_some_iff.mp h2).1
  have fne : ∀ b o, F b = some o → b ≠ p := fun b o e z => by rw [z, h3] at e; cases e
  refine ⟨fun b o e => by rw [upd_ne (fne b o e)]; exact hs.fh b o e, by rw [List.length_set]; exact hs.len, fun j d e n => ?_, fun j hj => ?_, hs.dj, hs.tb.upd_o h4 (nt_kO _ _ _ _ _)⟩
  · rw [List.getElem?_set_ne (fun z => n (by rw [← z]; exact hi))] at e
    exact hs.imm j d e n
  · by_cases ij : i = j
    · subst ij
      exact ⟨p, k, vs, ds, hp, List.getElem?_set_self hl, h3, upd_same, r, o⟩
    · obtain ⟨q, kk, us, es, k1, k2, k3, k4, k5, hK⟩ := hs.own j hj
      refine ⟨q, kk, us, es, k1, by rw [List.getElem?_set_ne ij]; exact k2, k3, ?_, k5, hK⟩
      rw [upd_ne (fun z => ij (hs.dj i hi j hj (by rw [hp, k1, z])))]
      exact k4
theorem fr_chg {F0 H0 F H : Hp} {σ : L2.St} {env : Env} {G : Gx} (hs : SOk G O F H σ env) (hf : Fr F0 H0 O F H σ) {i : Nat} (hi : i ∈ O) {p : Addr} (hp : σ[i]? = some (some (.ref p))) {o : HO} : Fr F0 H0 O F (upd H p o) σ := by
  obtain ⟨p', kk, _, _, h1, h2, h3, h4, _⟩ := hs.own i hi
  rw [hp] at h1
  cases h1
  have hn := hf.own i hi p hp
  exact ⟨⟨hf.gr.ff, hf.gr.hh.upd_ hn, fun b x e => by rw [upd_ne (fun z => by rw [z, h3] at e; cases e)]; exact hs.fh b x e, hf.gr.hid⟩, hf.own⟩
theorem sapp {x : Str} {e : Expr} {a : SE} {p1 apos cpos : Pos} (i : Nat) (he : PE X e (rV (gx X) O a)) (hi : i ∈ O := by decide) (hN : X.N[i]? = some x := by rfl) (hv : Vis X.env.scope x := by first | exact Or.inl rfl | exact Or.inr (Or.inl rfl) | exact Or.inr (Or.inr rfl)) (hd : (x == ("__debug__" : Str)) = false := by decide)
    (hcd : (x == ("__classdict__" : Str)) = false := by decide)
    (hbase : attributeBase (.Name x p1) "append" X.env (eval (.Name x p1) X.env) = eval (.Name x p1) X.env := by rfl)
    (hfew : ((backTo cpos (starEach [e] X.env)).all (fun x => !x.1) && (backToKw cpos (keywordEach [] X.env)).all (fun x => x.1.isSome)
      && decide ([e].length + ([] : List Keyword).length + (if ([] : List Keyword).isEmpty then 0 else 1) < 30)) = true := by rfl)
    (hline : (apos.endLine == cpos.line) = true := by rfl) (hs1 : starEach [e] X.env = (false, eval e X.env) :: starEach [] X.env := by rfl) (hplain : (backTo cpos (starEach [] X.env)).any (·.1) = false := by rfl)
    (hs : swapsWith (.Call (.Attribute (.Name x p1) "append" apos) [e] [] cpos) none pos.line X.env = pure false := by rfl) :
    PS X (.Expr (.Call (.Attribute (.Name x p1) "append" apos) [e] [] cpos) pos) (sV (gx X) R O O Ob (sApp i a)) :=
  (ps_expr (pe_bm PySem.F.plainAttrs_list PySem.F.slot_list_append PySem.F.type_list_append mt_append (pe_var hN hv hd hcd) (pa_cons he pa_nil hs1) hbase hfew hline hs1 hplain) hs).imp fun D σ H ⟨F0, H0, F, env, out, hs, hf, ho, q⟩ => by
    simp only [sApp] at ho
    obtain ⟨d, h1, ho⟩ := bind_some ho
    rcases hs.ownC hi with ⟨p, vs, ds, h2, h3, h4, h5, h6⟩ | ⟨kvs, h3⟩
    rotate_left
    · rw [show env.getD i none = some (.dict kvs) by rw [List.getD_eq_getElem?_getD, h3]; rfl] at ho
      cases ho
    rw [show env.getD i none = some (.list ds) by rw [List.getD_eq_getElem?_getD, h3]; rfl] at ho
    simp only at ho
    split at ho
    · rename_i hz
      cases ho
      refine ⟨.ref p, h2, .inl ⟨rfl, vs, .inl (.inl h5)⟩, F, env, d, hs, h1, fun v F1 H1 g1 r1 => ⟨p, vs, v, rfl, rfl, g1.hh.l h5, by rw [h6.length]; exact hz, ?_⟩⟩
      exact q σ F1 _ ((hs.gr g1).chg (k := .lst) hi h2 ((h6.mono g1.ff).append (.cons r1 .nil)) trivial) (fr_chg (hs.gr g1) (hf.step g1) hi h2) g1.ff
    · cases ho
theorem sext {x : Str} {e : Expr} {a : SE} {p1 apos cpos : Pos} (i : Nat) (he : PE X e (rN (gx X) O a)) (hi : i ∈ O := by decide) (hN : X.N[i]? = some x := by rfl) (hv : Vis X.env.scope x := by first | exact Or.inl rfl | exact Or.inr (Or.inl rfl) | exact Or.inr (Or.inr rfl)) (hd : (x == ("__debug__" : Str)) = false := by decide)
    (hcd : (x == ("__classdict__" : Str)) = false := by decide)
    (hbase : attributeBase (.Name x p1) "extend" X.env (eval (.Name x p1) X.env) = eval (.Name x p1) X.env := by rfl)
    (hfew : ((backTo cpos (starEach [e] X.env)).all (fun x => !x.1) && (backToKw cpos (keywordEach [] X.env)).all (fun x => x.1.isSome)
      && decide ([e].length + ([] : List Keyword).length + (if ([] : List Keyword).isEmpty then 0 else 1) < 30)) = true := by rfl)
    (hline : (apos.endLine == cpos.line) = true := by rfl) (hs1 : starEach [e] X.env = (false, eval e X.env) :: starEach [] X.env := by rfl) (hplain : (backTo cpos (starEach [] X.env)).any (·.1) = false := by rfl)
    (hs : swapsWith (.Call (.Attribute (.Name x p1) "extend" apos) [e] [] cpos) none pos.line X.env = pure false := by rfl) :
    PS X (.Expr (.Call (.Attribute (.Name x p1) "extend" apos) [e] [] cpos) pos) (sV (gx X) R O O Ob (sExt i a)) :=
  (ps_expr (pe_bm PySem.F.plainAttrs_list PySem.F.slot_list_extend PySem.F.type_list_extend mt_extend (pe_var hN hv hd hcd) (pa_cons he pa_nil hs1) hbase hfew hline hs1 hplain) hs).imp fun D σ H ⟨F0, H0, F, env, out, hs, hf, ho, q⟩ => by
    simp only [sExt] at ho
    obtain ⟨d, h1, ho⟩ := bind_some ho
    rcases hs.ownC hi with ⟨p, vs, ds, h2, h3, h4, h5, h6⟩ | ⟨kvs, h3⟩
    rotate_left
    · rw [show env.getD i none = some (.dict kvs) by rw [List.getD_eq_getElem?_getD, h3]; rfl] at ho
      cases ho
    rw [show env.getD i none = some (.list ds) by rw [List.getD_eq_getElem?_getD, h3]; rfl] at ho
    refine ⟨.ref p, h2, .inl ⟨rfl, vs, .inl (.inl h5)⟩, F, env, d, hs, h1, fun p' k us es F1 H1 g1 e1 e2 e3 r1 o1 e4 => ?_⟩
    subst e4
    cases k with
    | dct o ks => cases ho
    | dki o ks => cases ho
    | lst =>
    simp only [kD] at ho
    split at ho
    · rename_i hz
      cases ho
      refine ⟨p, p', vs, us, rfl, rfl, g1.hh.l h5, e3, by rw [h6.length, r1.length]; exact hz, ?_⟩
      exact q σ F1 _ ((hs.gr g1).chg (k := .lst) hi h2 ((h6.mono g1.ff).append r1) trivial) (fr_chg (hs.gr g1) (hf.step g1) hi h2) g1.ff
    · cases ho
end
end TL

set_option Elab.async false
set_option linter.all false
set_option maxRecDepth 100000
namespace TL
open PySem PySem.Spec PyProof.Rows L2
section
variable {X : Cx} {R : RK} {O O' O'' Ob : List Nat} {st : Stmt} {rest : List Stmt} {pos : Pos}
theorem sfor {tg iter : Expr} {body : List Stmt} {fi : SI} {g : SG} {fb : SS} {sl : List Nat} (hp : PassesOwn (model X.prog X.w) X.A X.env X.xe) (hc : X.calm = true) (hi : PI X tg iter (iV (gx X) O fi)) (hg : PG X tg (tG (gx X) O sl g)) (hb : PSs X body (sV (gx X) R O O O fb)) (hsl : ∀ i ∈ O, i ∉ sl := by decide)
    (hs : ∀ x, foldedSetIterable iter X.env x = pure x := by intro _; rfl) : PS X (.For tg iter body [] pos) (sV (gx X) R O O Ob (sFor fi g fb)) :=
  (ps_for hp hc hi hg hb hs).imp fun D σ H ⟨F0, H0, F, env, out, hs, hf, ho, q⟩ => by
    simp only [sFor] at ho
    obtain ⟨ds, h1, ho⟩ := bind_some ho
    refine ⟨F, env, ds, hs, h1, fun J F1 H1 g1 hz hJ => ?_⟩
    refine ⟨fun i m σ' H' => ∃ F' env', SOk (gx X) O F' H' σ' env' ∧ Fr F0 H0 O F' H' σ' ∧ Same F1 F' ∧ i ≤ ds.length ∧ m = ds.length - i ∧ forGo g fb (ds.drop i) env' = some out,
      ⟨ds.length, F1, env, hs.gr g1, hf.step g1, Same.refl F1, Nat.zero_le _, by omega, ho⟩, ?_⟩
    rintro i m σ' H' ⟨F', env', s', f', k', hi, rfl, hgo⟩
    have hJ' := hJ i F' H' k' s'.fh
    cases hd : ds[i]? with
    | none =>
      have hi' : ds.length ≤ i := List.getElem?_eq_none_iff.mp hd
      rw [List.drop_eq_nil_of_le hi'] at hgo
      cases hgo
      exact .inl ⟨hJ'.2 hd, q σ' F' H' s' f' (g1.ff.trans k')⟩
    | some x =>
      have hi' : i < ds.length := (List.getElem?_eq_some_iff.mp hd).1
      have hx : ds[i] = x := (List.getElem?_eq_some_iff.mp hd).2
      have hdr : ds.drop i = x :: ds.drop (i + 1) := by rw [List.drop_eq_getElem_cons hi', hx]
      rw [hdr] at hgo
      simp only [forGo] at hgo
      obtain ⟨env1, hg1, hgo⟩ := bind_some hgo
      obtain ⟨o, hb1, hgo⟩ := bind_some hgo
      refine .inr ⟨(hJ'.1 x hd).1, fun σ2 H2 => ∃ F2 env2, SOk (gx X) O F2 H2 σ2 env2 ∧ Fr F0 H0 O F2 H2 σ2 ∧ Same F' F2 ∧ forGo g fb (ds.drop (i + 1)) env2 = some out, fun σ2 H2 h => ?_, fun v H2 hy => ?_⟩
      · obtain ⟨F2, env2, s2, f2, k2, hg2⟩ := h
        exact ⟨ds.length - (i + 1), by omega, F2, env2, s2, f2, k'.trans k2, hi', rfl, hg2⟩
      · obtain ⟨rfl, rv⟩ := (hJ'.1 x hd).2 v H2 hy
        refine ⟨F', env', x, env1, s', rv, hg1, fun σ2 s2 ln kp => ⟨F0, H0, F', env1, o, s2, ⟨f'.gr, fun j hj p hp => f'.own j hj p (by rw [← kp j (hsl j hj)]; exact hp)⟩, hb1, ?_⟩⟩
        cases o with
        | nx e => exact fun σ3 F3 H3 s3 f3 k3 => ⟨F3, e, s3, f3, k3, hgo⟩
        | ct e => exact fun σ3 F3 H3 s3 f3 k3 => ⟨F3, e, s3, f3, k3, hgo⟩
        | bk e =>
          cases hgo
          exact fun σ3 F3 H3 s3 f3 k3 => q σ3 F3 H3 s3 f3 ((g1.ff.trans k').trans k3)
        | rt d =>
          cases hgo
          exact q
theorem swhile {c : Expr} {body : List Stmt} {fc : ST} {fb : SS} (fuel : Nat) (hp : PassesOwn (model X.prog X.w) X.A X.env X.xe) (hc : PT X c (rT (gx X) O fc)) (hb : PSs X body (sV (gx X) R O O O fb)) : PS X (.While c body [] pos) (sV (gx X) R O O Ob (sWhile fuel fc fb)) :=
  (ps_while hp hc hb).imp fun D σ H ⟨F0, H0, F, env, out, hs, hf, ho, q⟩ => by
    simp only [sWhile] at ho
    refine ⟨fun m σ' H' => ∃ F' env', SOk (gx X) O F' H' σ' env' ∧ Fr F0 H0 O F' H' σ' ∧ Same F F' ∧ whileGo fc fb m env' = some out, ⟨fuel, F, env, hs, hf, Same.refl F, ho⟩, ?_⟩
    rintro m σ' H' ⟨F', env', s', f', k', hgo⟩
    cases m with
    | zero => cases hgo
    | succ m =>
      simp only [whileGo] at hgo
      obtain ⟨k, h1, hgo⟩ := bind_some hgo
      refine ⟨F', env', k, s', h1, fun F1 H1 g1 => ?_⟩
      cases k with
      | false =>
        rw [if_neg Bool.false_ne_true] at hgo ⊢
        cases hgo
        exact q σ' F1 H1 (s'.gr g1) (f'.step g1) (k'.trans g1.ff)
      | true =>
        rw [if_pos rfl] at hgo ⊢
        obtain ⟨o, hb1, hgo⟩ := bind_some hgo
        refine ⟨fun σ2 H2 => ∃ F2 env2, SOk (gx X) O F2 H2 σ2 env2 ∧ Fr F0 H0 O F2 H2 σ2 ∧ Same F F2 ∧ whileGo fc fb m env2 = some out, fun σ2 H2 h => ⟨m, Nat.lt_succ_self m, h⟩, F0, H0, F1, env', o, s'.gr g1, f'.step g1, hb1, ?_⟩
        have k1 := k'.trans g1.ff
        cases o with
        | nx e => exact fun σ3 F3 H3 s3 f3 k3 => ⟨F3, e, s3, f3, k1.trans k3, hgo⟩
        | ct e => exact fun σ3 F3 H3 s3 f3 k3 => ⟨F3, e, s3, f3, k1.trans k3, hgo⟩
        | bk e =>
          cases hgo
          exact fun σ3 F3 H3 s3 f3 k3 => q σ3 F3 H3 s3 f3 (k1.trans k3)
        | rt d =>
          cases hgo
          exact q
end
section
variable {P : Program} {w : World} {G : Gx} {base : Heap}
theorem start_ok {N ps : List Str} {vs : List V} {ds : List D} {F H : Hp} (hn : N.length = ps.length + n) (sm : Fz G F H) (r : RpAll G F vs ds) (hl : ds.length = ps.length) : SOk G [] F H (L2.start N vs) (ds.map some ++ List.replicate n none) := by
  have lv := r.length
  refine ⟨sm.sm, ?_, fun i d e _ => ?_, fun i h => (by cases h), fun i h => (by cases h), sm.tb⟩
  · unfold L2.start
    simp only [List.length_append, List.length_map, List.length_replicate]
    omega
  · have hi : i < ds.length := by
      by_cases h : i < ds.length
      · exact h
      · rw [List.getElem?_append_right (by simpa using h), List.getElem?_replicate] at e
        split at e <;> cases e
    rw [List.getElem?_append_left (by simpa using hi), List.getElem?_map] at e
    cases q : ds[i]? with
    | none => rw [q] at e; cases e
    | some d' =>
      rw [q] at e
      cases e
      obtain ⟨v, h1, h2⟩ := r.get q
      refine ⟨v, ?_, h2⟩
      unfold L2.start
      rw [List.getElem?_append_left (by simp; omega), List.getElem?_map, h1]
      rfl
theorem fnV {x qual : Str} {st : Stmt} {f : Addr} {fd : FuncData} {N ps : List Str} {k nl : Nat} {body : SS} (Fn : Fun G.K x qual st f fd) (S : FnScope N ps (defScope st)) (hN : N.length = ps.length + nl) {Oe : List Nat}
    (hb : ∀ (cdv : Value) (A : Around) (outer : List PySem.Env) (s : Shared) (H : Hp) (E : XK), Room k (A.deeper (envOfC qual (defScope st) s.heap.objs.size f cdv)) →
      PSs (cxOf CX0 P w G.K G.mg base N qual (defScope st) f cdv A outer s H E).nox (defBody st) (sV G (oV' G) [] Oe [] body)) : FnOk P w G.K G.mg base CX0 (k + 1) f fd ps (spV G ps.length (runF ps.length nl body)) := by
  refine Fn.ok S (fun vs H Q E h => ?_) (fun cdv A outer s H vs Q E hr h => ?_)
  · obtain ⟨F, ds, d, sm, r, hl, _, _⟩ := h
    rw [r.length, hl]
  · obtain ⟨F, ds, d, sm, r, hl, hm, q⟩ := h
    refine ⟨_, hb cdv A outer s H E hr, ?_⟩
    simp only [runF, hl, if_pos rfl] at hm
    obtain ⟨out, h1, h2⟩ := bind_some hm
    refine ⟨F, H, F, _, out, start_ok hN sm r hl, ⟨Gr.refl sm.sm, fun i h => by cases h⟩, h1, ?_⟩
    cases out with
    | nx e =>
      cases h2
      exact fun σ' F' H' s' f' k' => q .non F' H' f'.gr .non
    | rt d' =>
      cases h2
      exact q
    | bk e => cases h2
    | ct e => cases h2
theorem fnN {x qual : Str} {st : Stmt} {f : Addr} {fd : FuncData} {N ps : List Str} {k nl : Nat} {body : SS} (Fn : Fun G.K x qual st f fd) (S : FnScope N ps (defScope st)) (hN : N.length = ps.length + nl) {Oe : List Nat}
    (hb : ∀ (cdv : Value) (A : Around) (outer : List PySem.Env) (s : Shared) (H : Hp) (E : XK), Room k (A.deeper (envOfC qual (defScope st) s.heap.objs.size f cdv)) →
      PSs (cxOf CX0 P w G.K G.mg base N qual (defScope st) f cdv A outer s H E).nox (defBody st) (sV G (oN' G) [] Oe [] body)) : FnOk P w G.K G.mg base CX0 (k + 1) f fd ps (spN G ps.length fun ds => nnD (runF ps.length nl body ds)) := by
  refine Fn.ok S (fun vs H Q E h => ?_) (fun cdv A outer s H vs Q E hr h => ?_)
  · obtain ⟨F, ds, d, sm, r, hl, _, _⟩ := h
    rw [r.length, hl]
  · obtain ⟨F, ds, d, sm, r, hl, hm, q⟩ := h
    refine ⟨_, hb cdv A outer s H E hr, ?_⟩
    obtain ⟨d0, hm, hd⟩ := bind_some hm
    simp only [runF, hl, if_pos rfl] at hm
    obtain ⟨out, h1, h2⟩ := bind_some hm
    refine ⟨F, H, F, _, out, start_ok hN sm r hl, ⟨Gr.refl sm.sm, fun i h => by cases h⟩, h1, ?_⟩
    cases out with
    | nx e =>
      cases h2
      cases hd
    | rt d' =>
      cases h2
      have e : d0 = d := by
        cases d0 <;> first | (cases hd; done) | exact Option.some.inj hd
      subst e
      exact q
    | bk e => cases h2
    | ct e => cases h2
end
end TL

set_option Elab.async false
set_option linter.all false
set_option maxRecDepth 100000
namespace TL
open PySem PySem.Spec PyProof.Rows L2
theorem u0 {k : Nat} {A : Around} (h : Room k A) : A.units < cLine := h.units0
theorem u64 {k : Nat} {A : Around} (h : Room k A) : A.units + 64 < cLine := h.units
theorem u65 {k : Nat} {A : Around} (h : Room k A) : A.units + 65 < cLine := by have := h.un; omega
theorem fnNever {P : Program} {w : World} {K : PySem.W.Frag} {mg : Str → Option Value} {base : Heap} {CX : CXT} {k : Nat} {f : Addr} {fd : FuncData} {ps : List Str} {sp : Sp} (h : ∀ vs H Q E, ¬ sp vs H Q E) : FnOk P w K mg base CX k f fd ps sp :=
  ⟨fun vs H Q E q => absurd q (h vs H Q E), fun _ _ _ H _ _ vs Q E _ _ _ _ q => absurd q (h vs H Q E)⟩
section
variable {X : Cx} {O : List Nat}
theorem lc2_read {G : Gx} {O : List Nat} {fi fi1 : SI} {g g1 : SG} {c c1 : ST} {f : SE} {sl sl1 vs vs1 : List Nat} (hsl : ∀ j ∈ sl, j ∈ vs) (hsl1 : ∀ j ∈ sl1, j ∈ vs1) (hO : ∀ j ∈ vs, j ∉ O) (hO1 : ∀ j ∈ vs1, j ∉ O) {σ : L2.St} {H : Hp} {Q : VK} (h : rN G O (eLc2 vs fi g c vs1 fi1 g1 c1 f) σ H Q) :
    tLc2 (iB G O fi) (tG G O sl g) (rT G O c) (iV G O fi1) (tG G O sl1 g1) (rT G O c1) (rV G O f) vs vs1 σ H Q := by
    obtain ⟨F, env, d, hs, hf, q⟩ := h
    simp only [eLc2] at hf
    obtain ⟨ds, h1, hf⟩ := bind_some hf
    obtain ⟨es, h2, h3⟩ := bind_some hf
    split at h3
    case isFalse => cases h3
    rename_i hlen
    cases h3
    have wipe2 : ∀ (vs ws : List Nat) (τ : L2.St), (∀ j ∈ ws, j ∈ vs) → L2.wipe (L2.wipe τ ws) vs = L2.wipe τ vs := fun vs ws τ h => ext_wipe (sl := ws) (wipe_length _ _) (fun j hj => wipe_out hj) h
    refine ⟨F, env, ds, hs, h1, fun J F1 H1 gr1 hz hJ D0 hD => ?_⟩
    have hs1 := hs.gr gr1
    refine ⟨fun i m H' => ∃ F' acc accD rest, LcI G F1 H1 F' H' D0 acc accD ∧ i ≤ ds.length ∧ m = ds.length - i ∧ lcGo2 g c fi1 vs1 g1 c1 f (wipeE env vs) (ds.drop i) = some rest ∧ es = accD ++ rest,
      ⟨ds.length, F1, [], [], es, ⟨Gr.open_ gr1.fh hD, Same.nn gr1.fh hD, upd_same, .nil⟩, Nat.zero_le _, by omega, h2, rfl⟩, ?_⟩
    rintro i m H' ⟨F', acc, accD, rest, L, l2, rfl, hgo, ees⟩
    have hs' := (hs1.gr L.gr).wipe hO
    have hJ' := hJ i F' H' L.gr.ff L.gr.hh L.gr.fh
    cases hd : ds[i]? with
    | none =>
      have hi : ds.length ≤ i := List.getElem?_eq_none_iff.mp hd
      refine .inl ⟨hJ'.2 hd, ?_⟩
      rw [List.drop_eq_nil_of_le hi] at hgo
      cases hgo
      rw [List.append_nil] at ees
      subst ees
      exact q D0 .lst acc es F' H' (gr1.trans L.gr) (gr1.hh.free hD) L.fr L.at_ L.rp trivial rfl
    | some x =>
      have hi : i < ds.length := (List.getElem?_eq_some_iff.mp hd).1
      have hx : ds[i] = x := (List.getElem?_eq_some_iff.mp hd).2
      have hdr : ds.drop i = x :: ds.drop (i + 1) := by rw [List.drop_eq_getElem_cons hi, hx]
      rw [hdr] at hgo
      simp only [lcGo2] at hgo
      obtain ⟨env1, hg1, hgo⟩ := bind_some hgo
      obtain ⟨b, hc1, hgo⟩ := bind_some hgo
      refine .inr ⟨(hJ'.1 x hd).1, fun H2 => ∃ F' acc accD rest, LcI G F1 H1 F' H2 D0 acc accD ∧ lcGo2 g c fi1 vs1 g1 c1 f (wipeE env vs) (ds.drop (i + 1)) = some rest ∧ es = accD ++ rest, fun H2 h => ?_, fun v H2 hy => ?_⟩
      · obtain ⟨F2, acc2, accD2, rest2, L2, hg2, e2⟩ := h
        exact ⟨ds.length - (i + 1), by omega, F2, acc2, accD2, rest2, L2, hi, rfl, hg2, e2⟩
      · obtain ⟨rfl, rv⟩ := (hJ'.1 x hd).2 v H2 hy
        refine ⟨F', _, x, env1, hs', rv, hg1, fun σ2 s2 ln kp => ⟨ext_wipe ln kp hsl |>.trans (wipe2 _ _ _ fun j h => h), F', env1, b, s2, hc1, fun F3 H3 g3 => ?_⟩⟩
        cases b with
        | false =>
          rw [if_neg Bool.false_ne_true] at hgo ⊢
          exact ⟨F3, acc, accD, rest, L.gr' g3, hgo, ees⟩
        | true =>
          rw [if_pos rfl] at hgo ⊢
          obtain ⟨ds1, hi1, hgo⟩ := bind_some hgo
          obtain ⟨a1, ha1, hgo⟩ := bind_some hgo
          obtain ⟨rest2, hg2, e2⟩ := map_some hgo
          refine ⟨F3, env1, ds1, s2.gr g3, hi1, fun J1 F4 H4 g4 hz1 hJ1 => ?_⟩
          have L4 := (L.gr' g3).gr' g4
          have s4 := (s2.gr g3).gr g4
          -- the frame of the inner loop: all but the list that grows
          refine ⟨fun j k H5 => ∃ F5 acc5 accD5 rest5, LcI G F1 H1 F5 H5 D0 acc5 accD5 ∧ Same F4 F5 ∧ (∀ p o, H4 p = some o → p ≠ D0 → ∃ o', H5 p = some o' ∧ (nt o = true → o' = o)) ∧ (∀ p o, H4 p = some o → F4 p = none → F5 p = none) ∧ j ≤ ds1.length ∧ k = ds1.length - j ∧ lcGo g1 c1 f (wipeE env1 vs1) (ds1.drop j) = some rest5 ∧ es = accD5 ++ (rest5 ++ rest2),
            ⟨ds1.length, F4, acc, accD, a1, L4, Same.refl F4, fun _ _ e _ => ⟨_, e, fun _ => rfl⟩, fun _ _ _ e => e, Nat.zero_le _, by omega, ha1, by rw [ees, ← e2]⟩, ?_⟩
          rintro j k H5 ⟨F5, acc5, accD5, rest5, L5, k5, kh5, kf5, lj, rfl, hgo5, ees5⟩
          have s5 : SOk G O F5 H5 σ2 env1 := by
            refine ⟨L5.gr.fh, s4.len, fun i d e n => ?_, fun i hi => ?_, s4.dj, hs1.tb.gr L5.gr⟩
            · obtain ⟨v, e1, e2⟩ := s4.imm i d e n
              exact ⟨v, e1, e2.mono k5⟩
            · obtain ⟨p, kk, us, es', e1, e2, e3, e4, e5, hK⟩ := s4.own i hi
              have pne : p ≠ D0 := by
                intro z
                obtain ⟨p', kk', _, _, e1', _, _, e4', _⟩ := hs1.own i hi
                have ei : L2.wipe σ vs = L2.wipe σ2 vs := (ext_wipe ln kp hsl |>.trans (wipe2 _ _ _ fun j h => h)).symm
                have w1 : (L2.wipe σ vs)[i]? = σ[i]? := wipe_out fun z => hO i z hi
                have w2 : (L2.wipe σ2 vs)[i]? = σ2[i]? := wipe_out fun z => hO i z hi
                rw [ei, w2, e1] at w1
                rw [e1'] at w1
                cases w1
                rw [z, hD] at e4'
                cases e4'
              obtain ⟨o', k1, k2⟩ := kh5 p _ e4 pne
              have k3 := k2 (nt_kO _ _ _ _ _)
              subst k3
              exact ⟨p, kk, us, es', e1, e2, kf5 p _ e4 e3, k1, e5.mono k5, hK⟩
          have s5' := s5.wipe hO1
          have hJ5 := hJ1 j F5 H5 k5 L5.gr.fh
          cases hd1 : ds1[j]? with
          | none =>
            have hj : ds1.length ≤ j := List.getElem?_eq_none_iff.mp hd1
            rw [List.drop_eq_nil_of_le hj] at hgo5
            cases hgo5
            exact .inl ⟨hJ5.2 hd1, F5, acc5, accD5, rest2, L5, hg2, ees5⟩
          | some x1 =>
            have hj : j < ds1.length := (List.getElem?_eq_some_iff.mp hd1).1
            have hx1 : ds1[j] = x1 := (List.getElem?_eq_some_iff.mp hd1).2
            have hdr1 : ds1.drop j = x1 :: ds1.drop (j + 1) := by rw [List.drop_eq_getElem_cons hj, hx1]
            rw [hdr1] at hgo5
            simp only [lcGo] at hgo5
            obtain ⟨env2, hg5, hgo5⟩ := bind_some hgo5
            obtain ⟨b1, hc5, hgo5⟩ := bind_some hgo5
            refine .inr ⟨(hJ5.1 x1 hd1).1, fun H6 => ∃ F5 acc5 accD5 rest5, LcI G F1 H1 F5 H6 D0 acc5 accD5 ∧ Same F4 F5 ∧ (∀ p o, H4 p = some o → p ≠ D0 → ∃ o', H6 p = some o' ∧ (nt o = true → o' = o)) ∧ (∀ p o, H4 p = some o → F4 p = none → F5 p = none) ∧ lcGo g1 c1 f (wipeE env1 vs1) (ds1.drop (j + 1)) = some rest5 ∧ es = accD5 ++ (rest5 ++ rest2), fun H6 h => ?_, fun v1 H6 hy1 => ?_⟩
            · obtain ⟨F6, acc6, accD6, rest6, L6, k6, kh6, kf6, hg6, e6⟩ := h
              exact ⟨ds1.length - (j + 1), by omega, F6, acc6, accD6, rest6, L6, k6, kh6, kf6, hj, rfl, hg6, e6⟩
            · obtain ⟨rfl, rv1⟩ := (hJ5.1 x1 hd1).2 v1 H6 hy1
              refine ⟨F5, _, x1, env2, s5', rv1, hg5, fun σ3 s3 ln3 kp3 => ⟨ext_wipe ln3 kp3 hsl1 |>.trans (wipe2 _ _ _ fun j h => h), F5, env2, b1, s3, hc5, fun F7 H7 g7 => ?_⟩⟩
              have ih7 : ∀ {F8 H8}, Gr F5 H6 F8 H8 → Same F4 F8 ∧ (∀ p o, H4 p = some o → p ≠ D0 → ∃ o', H8 p = some o' ∧ (nt o = true → o' = o)) ∧ (∀ p o, H4 p = some o → F4 p = none → F8 p = none) := fun {F8 H8} g8 => ⟨k5.trans g8.ff, fun p o e n => (by
                obtain ⟨o5, e5, t5⟩ := kh5 p o e n
                obtain ⟨o8, e8, t8⟩ := g8.hh.ex e5
                exact ⟨o8, e8, fun z => by
                  have z5 := t5 z
                  subst z5
                  exact t8 z⟩), fun p o e n => by
                by_cases z : p = D0
                · rw [z]; exact g8.hid _ _ L5.at_ L5.fr
                · obtain ⟨o5, e5, _⟩ := kh5 p o e z
                  exact g8.hid p o5 e5 (kf5 p o e n)⟩
              cases b1 with
              | false =>
                rw [if_neg Bool.false_ne_true] at hgo5
                refine iteF ?_
                obtain ⟨q1, q2, q3⟩ := ih7 g7
                exact ⟨F7, acc5, accD5, rest5, L5.gr' g7, q1, q2, q3, hgo5, ees5⟩
              | true =>
                rw [if_pos rfl] at hgo5
                refine iteT ?_
                obtain ⟨y, he1, hgo5⟩ := bind_some hgo5
                obtain ⟨rest6, hg6, e6⟩ := map_some hgo5
                refine ⟨F7, env2, y, s3.gr g7, he1, fun w F8 H8 g8 r8 => ?_⟩
                have L8 := (L5.gr' g7).gr' g8
                obtain ⟨q1, q2, q3⟩ := ih7 (g7.trans g8)
                refine ⟨acc5, L8.at_, ?_, F8, acc5 ++ [w], accD5 ++ [y], rest6, L8.app hD r8, q1, fun p o e n => by rw [upd_ne n]; exact q2 p o e n, q3, hg6, ?_⟩
                · rw [L8.rp.length]
                  have := hlen
                  rw [ees5, ← e6] at this
                  simp only [List.length_append, List.length_cons] at this
                  omega
                · rw [ees5, ← e6, List.append_assoc]
                  rfl
theorem elc2 {elt tg iter tg1 iter1 : Expr} {ifs ifs1 : List Expr} {scope : Scope} {own : List (Str × Nat)} {vs1 : List Nat} {pos : Pos} {fi fi1 : SI} {g g1 : SG} {c c1 : ST} {f : SE} {sl sl1 : List Nat} (hc : X.calm = true) (hN : X.N.Nodup) (hi : PI X tg iter (iB (gx X) O fi)) (ok : BlkOk X.N X.env.scope scope own) (hv : ∀ i ∈ vs1, i ∈ own.map (·.2))
    (hg : ∀ (s : Shared) (H : Hp) (C : Addr) (cl : List (Str × Addr)) (fp : List Addr), PG (X.blk s H scope (compEnvC scope cl C X.env) fp) tg (tG (gx X) O sl g)) (ht : ∀ (s : Shared) (H : Hp) (C : Addr) (cl : List (Str × Addr)) (fp : List Addr), PTs (X.blk s H scope (compEnvC scope cl C X.env) fp) ifs (rT (gx X) O c))
    (hi1 : ∀ (s : Shared) (H : Hp) (C : Addr) (cl : List (Str × Addr)) (fp : List Addr), PI (X.blk s H scope (compEnvC scope cl C X.env) fp) tg1 iter1 (iV (gx X) O fi1))
    (hg1 : ∀ (s : Shared) (H : Hp) (C : Addr) (cl : List (Str × Addr)) (fp : List Addr), PG (X.blk s H scope (compEnvC scope cl C X.env) fp) tg1 (tG (gx X) O sl1 g1)) (ht1 : ∀ (s : Shared) (H : Hp) (C : Addr) (cl : List (Str × Addr)) (fp : List Addr), PTs (X.blk s H scope (compEnvC scope cl C X.env) fp) ifs1 (rT (gx X) O c1))
    (he : ∀ (s : Shared) (H : Hp) (C : Addr) (cl : List (Str × Addr)) (fp : List Addr), PE (X.blk s H scope (compEnvC scope cl C X.env) fp) elt (rV (gx X) O f)) (hsl : ∀ j ∈ sl, j ∈ own.map (·.2) := by decide) (hsl1 : ∀ j ∈ sl1, j ∈ vs1 := by decide) (hO : ∀ j ∈ own.map (·.2), j ∉ O := by decide) (hO1 : ∀ j ∈ vs1, j ∉ O := by decide)
    (hs : ∀ x, foldedSetIterable iter X.env x = pure x := by intro _; rfl) (hs1 : ∀ env x, foldedSetIterable iter1 env x = pure x := by intro _ _; rfl) :
    PE X (.ListComp elt [⟨tg, iter, ifs, 0⟩, ⟨tg1, iter1, ifs1, 0⟩] scope pos) (rN (gx X) O (eLc2 (own.map (·.2)) fi g c vs1 fi1 g1 c1 f)) :=
  (pe_lc2 hc hN hi ok hv hg ht hi1 hg1 ht1 he hs hs1).imp fun σ H Q h => lc2_read hsl hsl1 hO hO1 h
end
end TL

set_option Elab.async false
set_option linter.all false
set_option maxRecDepth 100000
namespace TL
open PySem PySem.Spec PyProof.Rows L2
section
variable {X : Cx}
theorem prs_get : ∀ {ds : List D} {ps : List (Int × Int)}, prsOf ds = some ps → ds = ps.map prD
  | [], ps, h => by cases h; rfl
  | .tuple [.int i, .int j] :: r, ps, h => by
    simp only [prsOf] at h
    obtain ⟨qs, h1, h2⟩ := map_some h
    subst h2
    rw [prs_get h1]
    rfl
  | .none :: _, _, h => by cases h
  | .bool _ :: _, _, h => by cases h
  | .int _ :: _, _, h => by cases h
  | .str _ :: _, _, h => by cases h
  | .list _ :: _, _, h => by cases h
  | .dict _ :: _, _, h => by cases h
  | .tuple [] :: _, _, h => by cases h
  | .tuple [_] :: _, _, h => by simp [prsOf] at h
  | .tuple (_ :: _ :: _ :: _) :: _, _, h => by simp [prsOf] at h
  | .tuple [.none, _] :: _, _, h => by simp [prsOf] at h
  | .tuple [.bool _, _] :: _, _, h => by simp [prsOf] at h
  | .tuple [.str _, _] :: _, _, h => by simp [prsOf] at h
  | .tuple [.list _, _] :: _, _, h => by simp [prsOf] at h
  | .tuple [.tuple _, _] :: _, _, h => by simp [prsOf] at h
  | .tuple [.dict _, _] :: _, _, h => by simp [prsOf] at h
  | .tuple [.int _, .none] :: _, _, h => by simp [prsOf] at h
  | .tuple [.int _, .bool _] :: _, _, h => by simp [prsOf] at h
  | .tuple [.int _, .str _] :: _, _, h => by simp [prsOf] at h
  | .tuple [.int _, .list _] :: _, _, h => by simp [prsOf] at h
  | .tuple [.int _, .tuple _] :: _, _, h => by simp [prsOf] at h
  | .tuple [.int _, .dict _] :: _, _, h => by simp [prsOf] at h
def kOf (h : Heap) : Value → Int × Int
  | .ref a => match h.get? a with
    | some o => match o.data with
      | .seq its _ => match its.toList with
        | [.int i _, .int j _] => (i, j)
        | _ => (0, 0)
      | _ => (0, 0)
    | none => (0, 0)
  | _ => (0, 0)
theorem prs_vals {pins : List (Addr × Obj)} {s : Shared} {σ : L2.St} {F H : Hp} (I : Inv X pins σ H s) (sm : Same F H) : ∀ {ps : List (Int × Int)} {vs : List V} {its : List Value}, RpAll (gx X) F vs (ps.map prD) → Vals vs its →
    its.map (kOf s.heap) = ps ∧ (∀ v ∈ its, Srt.IsPair s.heap v (kOf s.heap v).1 (kOf s.heap v).2) ∧ ∀ u ∈ its, ∃ v, RelV v u ∧ Rp (gx X) F v (prD (kOf s.heap u))
  | [], _, _, .nil, .nil => ⟨rfl, fun _ h => (by cases h), fun _ h => (by cases h)⟩
  | p :: ps, _, _, .cons h r, .cons rv rr => by
    obtain ⟨h1, h2, h3⟩ := prs_vals I sm r rr
    cases h with
    | @tup a xs _ hs ha =>
      cases rv
      obtain ⟨its2, r2, ⟨o, ho, hc, n, hd⟩, _⟩ := I.tuple (sameT sm hs.t)
      cases ha with
      | cons e1 ha =>
        cases ha with
        | cons e2 ha =>
          cases ha
          cases e1
          cases e2
          obtain ⟨u1, u2, rfl, ri, rj⟩ := vals2 r2
          obtain ⟨t1, rfl⟩ := ri
          obtain ⟨t2, rfl⟩ := rj
          have ek : kOf s.heap (.ref a) = p := by
            unfold kOf
            simp only [ho, hd]
          refine ⟨by rw [List.map_cons, ek, h1], fun v hv => ?_, fun u hu => ?_⟩
          · rcases List.mem_cons.mp hv with rfl | hv
            · rw [ek]
              exact ⟨a, o, t1, t2, n, rfl, ho, hc, hd⟩
            · exact h2 v hv
          · rcases List.mem_cons.mp hu with rfl | hu
            · rw [ek]
              exact ⟨.ref a, rfl, .tup hs (.cons (.int _) (.cons (.int _) .nil))⟩
            · exact h3 u hu
end
namespace SX
open SrtO
section
variable {prog : Program} {w : World} {A : Around} {E : Value → Shared → Prop} {s : Shared}
theorem collect_seq {l : Addr} {vs : List Value} {Q : List Value → Shared → Prop} {T : String} (hT : T = "list" ∨ T = "tuple") {o : Obj} {n : Nat} (ho : s.heap.get? l = some o) (hc : o.cls = .type T) (hd : o.data = .seq vs.toArray n)
    (h : Q vs { s with heap := (s.heap.push (seqObj "list" #[] 0)).update s.heap.objs.size (Obj.mapSeq (· ++ vs.toArray)) }) (hsz : vs.length ≤ sizeLine) :
    wpAny (model prog w) A (collect (.ref l)) Q E s := by
  unfold collect
  refine wpAny_bind (wpAny_runValue (codeAny_builtin entry_proto_collect' ?_))
  show wpAny _ _ (do again (.builtin "list.__iadd__" ⟨[← newList [], .ref l], []⟩)) _ _ s
  refine wpAny_bind (wpAny_newList (wpAny_pure ⟨Code.quiet_builtin _ (by decide +kernel), codeAny_builtin entry_list_iadd' ?_⟩))
  show wpAny _ _ (Builtin.List.listExtendWith (.ref s.heap.objs.size) (.ref l) (.ref s.heap.objs.size)) _ _ { s with heap := s.heap.push (seqObj "list" #[] 0) }
  unfold Builtin.List.listExtendWith
  have ho' : (s.heap.push (seqObj "list" #[] 0)).get? l = some o := Heap.get?_push_of_some _ ho
  refine wpAny_bind (wpAny_typeOf (T := T) ⟨o, ho', hc⟩ ?_)
  have ht : ((Value.type T == Value.type "list") || (Value.type T == Value.type "tuple")) = true := by
    rcases hT with rfl | rfl <;> rfl
  rw [if_pos (by rw [Bool.or_assoc, ht, Bool.or_true])]
  refine wpAny_bind (listItems_at ho' hd ?_)
  refine wpAny_bind (listItems_at (xs := #[]) (n := 0) (Heap.get?_push_size _ rfl) rfl ?_)
  rw [if_neg (by simp)]
  refine wpAny_bind (listUpdate_at (xs := #[]) (n := 0) (Heap.get?_push_size _ rfl) rfl ?_ (Nat.zero_le _) (by show (#[] ++ vs.toArray).size ≤ sizeLine + 1; simp only [Array.size_append, List.size_toArray, List.length_nil]; omega))
  refine wpAny_pure ?_
  show wpAny (model prog w) A (do
      let o ← load s.heap.objs.size
      match o.data with
      | .seq xs _ => pure xs.toList
      | _ => unsupported "internal:collect") Q E { s with heap := (s.heap.push (seqObj "list" #[] 0)).update s.heap.objs.size (Obj.mapSeq (· ++ vs.toArray)) }
  refine wpAny_bind (wpAny_load (get?_update_seq (Heap.get?_push_size _ rfl) _) ?_)
  show wpAny _ _ (pure ((#[] : Array Value) ++ vs.toArray).toList) Q E _
  rw [show ((#[] : Array Value) ++ vs.toArray).toList = vs by simp]
  exact wpAny_pure h
theorem sorted_seq {l : Addr} {vs : List Value} {ltv : Value → Value → Bool} {Q : Value → Shared → Prop} (O : Swo ltv) {T : String} (hT : T = "list" ∨ T = "tuple") {o : Obj} {n : Nat} (ho : s.heap.get? l = some o) (hc : o.cls = .type T) (hd : o.data = .seq vs.toArray n) (hz : vs.length ≤ sizeLine)
    (hS : 2 ≤ vs.length → ∀ (h₁ : Heap) (a : Addr), h₁.get? a = some (seqObj "list" vs.toArray 0) → (∀ b o, s.heap.get? b = some o → b ≠ a ∧ h₁.get? b = some o) → SortableO prog w A.in1.in1 { s with heap := h₁ } a vs ltv)
    (h : ∀ out : List Value, Srtd ltv out → Stb ltv out vs → Q (.ref (s.heap.objs.size + 1)) { s with heap := sortedAll s.heap vs out.toArray }) :
    wpAny (model prog w) A (call (.builtin "sorted") [.ref l]) Q E s := by
  refine Calls.call_function_entry kind_sorted plain_sorted entry_sorted (args_sorted1 _) ?_
  unfold Builtin.«sorted»
  refine wpAny_bind (m := checkCount "sorted" 1 1 _) (wpAny_pure ?_)
  refine wpAny_bind (collect_seq hT ho hc hd ?_ hz)
  refine wpAny_bind (wpAny_newList ?_ hz)
  have hsz : ((s.heap.push (seqObj "list" #[] 0)).update s.heap.objs.size (Obj.mapSeq (· ++ vs.toArray))).objs.size = s.heap.objs.size + 1 := by
    rw [Heap.size_update, size_push']
  have hoL : (((s.heap.push (seqObj "list" #[] 0)).update s.heap.objs.size (Obj.mapSeq (· ++ vs.toArray))).push (seqObj "list" vs.toArray 0)).get? (s.heap.objs.size + 1) = some (seqObj "list" vs.toArray 0) := by
    rw [← hsz]; exact Heap.get?_push_size _ rfl
  have keep : ∀ b o, s.heap.get? b = some o → b ≠ s.heap.objs.size + 1 ∧ (((s.heap.push (seqObj "list" #[] 0)).update s.heap.objs.size (Obj.mapSeq (· ++ vs.toArray))).push (seqObj "list" vs.toArray 0)).get? b = some o := fun b o q => by
    have hlt : b < s.heap.objs.size := Heap.lt_size q
    refine ⟨Nat.ne_of_lt (Nat.lt_succ_of_lt hlt), Heap.get?_push_of_some _ ?_⟩
    rw [Heap.get?_update_ne _ _ _ _ (Nat.ne_of_lt hlt)]
    exact Heap.get?_push_of_some _ q
  show wpAny _ _ _ _ _ { s with heap := ((s.heap.push (seqObj "list" #[] 0)).update s.heap.objs.size (Obj.mapSeq (· ++ vs.toArray))).push (seqObj "list" vs.toArray 0) }
  rw [hsz]
  refine wpAny_bind (wpAny_holding (wpAny_call_entry slot_list_sort ⟨_, hoL, rfl⟩ entry_list_sort (list_sort_ord O hoL hz (fun h2 => hS h2 _ _ hoL keep) fun out hs hb => ⟨_, rfl, ?_⟩) (args_list_sort _)))
  exact wpAny_pure ⟨_, rfl, h out hs hb⟩
end
end SX
section
variable {X : Cx}
theorem sorted_core {pins : List (Addr × Obj)} {s : Shared} {σ : L2.St} {F H : Hp} {p : Addr} {vs : List V} {its : List Value} {ds es : List D} {Q : VK} {T : String} {o : Obj} {n : Nat} (I : Inv X pins σ H s) (sm : Same F H) (hT : T = "list" ∨ T = "tuple") (ho : s.heap.get? p = some o) (hc : o.cls = .type T) (hd : o.data = .seq its.toArray n)
    (rv : Vals vs its) (hz : vs.length ≤ sizeLine) (r' : RpAll (gx X) F vs ds) (hs : sortL ds = some es) (q : kN (gx X) F H (.list es) Q) : wpAny (model X.prog X.w) X.A (call (.builtin "sorted") [.ref p]) (EP X pins σ Q) X.xe s := by
  unfold sortL at hs
  cases hi : intsOf ds with
  | some ns =>
    rw [hi] at hs
    cases hs
    have hv := r'.ints hi
    subst hv
    have hI := rv.ints
    refine SX.sorted_seq SrtO.swo_int hT ho hc hd (by rw [← rv.length]; exact hz) (fun h2 h₁ a' _ _ => SrtO.ints_sortable hI h2) fun out h1 h2 => ?_
    obtain ⟨k1, k2, k3⟩ := SrtO.ints_out hI h1 h2
    obtain ⟨ep, he'⟩ := PyProof.Rows.sortedAll_at s.heap its out.toArray
    have hlen : ((out.map SrtO.iv).map V.int).length ≤ sizeLine := by
      rw [List.length_map, k2.length_eq]
      rw [List.length_map] at hz
      exact hz
    have e : out.map SrtO.iv = isort ltI ns := asc_uniq antiI (k2.trans (isort_perm ns).symm) (k3.imp fun h => decide_eq_false (by omega)) (isort_asc swoI ns)
    have rr : ∀ l : List Int, RpAll (gx X) F (l.map V.int) (l.map .int) := by
      intro l
      induction l with
      | nil => exact .nil
      | cons i l ih => exact .cons (.int i) ih
    refine ⟨.ref _, upd H (s.heap.objs.size + 1) (.lst ((out.map SrtO.iv).map V.int)), I.laid (t' := s.toks) (fun _ _ => PyProof.Rows.sortedAll_old) (Nat.le_succ _) ⟨hlen, out, ep, vals_of_ints k1, he'⟩, rfl, ?_⟩
    exact q.newL sm (by rw [e]; exact rr _) (I.hok.fresh (Nat.le_succ _))
  | none =>
    rw [hi] at hs
    obtain ⟨ps, h3, h4⟩ := map_some hs
    subst h4
    have ed := prs_get h3
    subst ed
    obtain ⟨k1, k2, k3⟩ := prs_vals I sm r' rv
    refine SX.sorted_seq (SrtO.swo_lex (kOf s.heap)) hT ho hc hd (by rw [← rv.length]; exact hz) (fun h2 h₁ a ha kk => ?_) fun out h1 h2 => ?_
    · refine SrtO.pairs_sortableO (s := { s with heap := h₁ }) (by omega) (fun v hm => (k2 v hm).keeps fun b o e _ => (kk b o e).2) fun o e => ?_
      have e' : some o = some (seqObj "list" its.toArray 0) := e.symm.trans ha
      cases e'
      intro c
      exact absurd (Value.type.inj c) (by decide)
    · have hmem : ∀ u ∈ out, u ∈ its := fun u hu => h2.perm.mem_iff.mp hu
      have rel : ∀ l : List Value, (∀ u ∈ l, u ∈ its) → ∃ ws, Vals ws l ∧ RpAll (gx X) F ws ((l.map (kOf s.heap)).map prD) := by
        intro l
        induction l with
        | nil => exact fun _ => ⟨[], .nil, .nil⟩
        | cons u l ih =>
          intro hu
          obtain ⟨ws, w1, w2⟩ := ih fun v hv => hu v (List.mem_cons_of_mem _ hv)
          obtain ⟨v, v1, v2⟩ := k3 u (hu u List.mem_cons_self)
          exact ⟨v :: ws, .cons v1 w1, .cons v2 w2⟩
      obtain ⟨ws, w1, w2⟩ := rel out hmem
      have e : out.map (kOf s.heap) = isort ltPr ps := by
        refine asc_uniq antiP ?_ ?_ (isort_asc swoP ps)
        · have := h2.perm.map (kOf s.heap)
          rw [k1] at this
          exact this.trans (isort_perm ps).symm
        · exact List.pairwise_map.mpr (h1.imp fun h => h)
      rw [e] at w2
      obtain ⟨ep, he'⟩ := PyProof.Rows.sortedAll_at s.heap its out.toArray
      refine ⟨.ref _, upd H (s.heap.objs.size + 1) (.lst ws), I.laid (t' := s.toks) (fun _ _ => PyProof.Rows.sortedAll_old) (Nat.le_succ _) ⟨?_, out, ep, w1, he'⟩, rfl, q.newL sm w2 (I.hok.fresh (Nat.le_succ _))⟩
      rw [w1.length, h2.perm.length_eq, ← rv.length]
      exact hz
theorem c_sorted : CalN X (.builtin "sorted") sortedD := by
  intro pins s σ H xs us Q I r h
  obtain ⟨F, x, dx, d, rfl, sm, bx, hd, q⟩ := h
  cases dx with
  | list ds =>
    obtain ⟨p, vs, rfl, hl, r'⟩ := bx.lst sm
    obtain ⟨es, h1, h2⟩ := map_some hd
    subst h2
    obtain ⟨its, rv, hL, hz⟩ := I.list hl
    obtain ⟨o, ho, hc, n, hd'⟩ := hL.isList
    rw [Vals.ref1 r]
    exact sorted_core I sm (.inl rfl) ho hc hd' rv hz r' h1 q
  | tuple ds =>
    obtain ⟨p, vs, rfl, _, hl, r'⟩ := bx.tup sm
    obtain ⟨es, h1, h2⟩ := map_some hd
    subst h2
    obtain ⟨its, rv, hT, hz⟩ := I.tuple hl
    obtain ⟨o, ho, hc, n, hd'⟩ := hT
    rw [Vals.ref1 r]
    exact sorted_core I sm (.inr rfl) ho hc hd' rv hz r' h1 q
  | _ => cases hd
theorem _root_.L2.PE.or {t t' : TE} {e : Expr} (h : PE X e t) (h' : PE X e t') : PE X e fun σ H Q => t σ H Q ∨ t' σ H Q := ⟨fun pins s σ H Q I q => q.elim (h.run pins s σ H Q I) (h'.run pins s σ H Q I)⟩
end
end TL

set_option Elab.async false
set_option linter.all false
set_option maxRecDepth 100000
namespace TL
open PySem PySem.Spec PyProof.Rows L2
@[simp] def eRngL (a : SE) : SE := fun env => (a env).bind fun x => (toI x).bind fun n => (rangeD 0 n).map .list
def popD (ds : List D) (i : Int) : Option (D × List D) := if Nat.ble i.natAbs 1000000000 = true then (seqIndex? i ds.length).bind fun k => ds[k]?.map fun d => (d, ds.eraseIdx k) else none
@[simp] def sPopAdd (i j : Nat) (a : SE) : SS := fun env => match env.getD i none, env.getD j none with
  | some (.tuple ds), some (.list es) => (a env).bind fun y => (toI y).bind fun k => (popD es k).bind fun z => if ds.length + 1 ≤ sizeLine then some (.nx ((env.set j (some (.list z.2))).set i (some (.tuple (ds ++ [z.1]))))) else none
  | _, _ => none
section
variable {X : Cx} {R : RK} {O Ob : List Nat} {e : Expr} {pos p p2 pos2 : Pos} {f : SE}
theorem rgL_all {G : Gx} {F : Hp} : ∀ (n : Nat) (lo : Int), RpAll G F ((List.range n).map fun (i : Nat) => V.int (lo + i)) (rangeL lo n)
  | 0, lo => .nil
  | n + 1, lo => by
    rw [List.range_succ_eq_map, List.map_cons, List.map_map]
    refine .cons (by rw [show lo + ((0 : Nat) : Int) = lo by omega]; exact .int lo) ?_
    have := rgL_all (G := G) (F := F) n (lo + 1)
    have e : ((fun (i : Nat) => V.int (lo + i)) ∘ Nat.succ) = fun (i : Nat) => V.int (lo + 1 + i) := by
      funext i
      simp only [Function.comp]
      congr 1
      omega
    rw [e]
    exact this
theorem erngL (hc : X.calm = true) (hg : Gl X "list") (hm : X.mg "list" = none) (hg2 : Gl X "range") (hm2 : X.mg "range" = none) (ha : PE X e (rV (gx X) O f)) (na : starEach [e] X.env = (false, eval e X.env) :: starEach [] X.env := by rfl)
    (na2 : starEach [.Call (.Name "range" p2) [e] [] pos2] X.env = (false, eval (.Call (.Name "range" p2) [e] [] pos2) X.env) :: starEach [] X.env := by rfl) : PE X (.Call (.Name "list" p) [.Call (.Name "range" p2) [e] [] pos2] [] pos) (rN (gx X) O (eRngL f)) :=
  (pe_listRg hc hg hm (prg_1 hg2 hm2 ha na) na2).imp fun σ H Q ⟨F, env, d, hs, hf, q⟩ => by
    simp only [eRngL] at hf
    obtain ⟨x, h1, hf⟩ := bind_some hf
    obtain ⟨n, h2, hf⟩ := bind_some hf
    obtain ⟨ds, h3, h4⟩ := map_some hf
    subst h4
    refine ⟨F, env, x, hs, h1, fun v F1 H1 g1 r1 => ?_⟩
    cases x with
    | int m =>
      cases h2
      have hv : v = .int n := (Rp.b (H := H1) r1).int
      simp only [rangeD] at h3
      split at h3
      · rename_i hok
        cases h3
        simp only [okRng, Bool.and_eq_true, Nat.ble_eq] at hok
        refine ⟨n, hv, ⟨by omega, by omega, by omega, by omega, by have := hok.2; rw [sizeLine_eq] at this; omega⟩, fun p hp => ?_⟩
        exact (q.gr g1).newL g1.fh (rgL_all _ 0) hp
      · cases h3
    | _ => cases h2
theorem spopAdd {x y : Str} {px px' py : Pos} {apos cpos ptup pbin : Pos} {kt : _} (i j : Nat) (hN : X.N.Nodup) (he : PE X e (rV (gx X) O f)) (hOi : i ∉ O := by decide) (hOj : j ∈ O := by decide) (hi : X.N[i]? = some x := by rfl) (hj : X.N[j]? = some y := by rfl)
    (hx : Loc X.env.scope x := by first | exact Or.inl rfl | exact Or.inr rfl)
    (hvx : Vis X.env.scope x := by first | exact Or.inl rfl | exact Or.inr (Or.inl rfl) | exact Or.inr (Or.inr rfl)) (hvy : Vis X.env.scope y := by first | exact Or.inl rfl | exact Or.inr (Or.inl rfl) | exact Or.inr (Or.inr rfl))
    (hdx : (x == ("__debug__" : Str)) = false := by decide) (hdy : (y == ("__debug__" : Str)) = false := by decide) (hcx : (x == ("__classdict__" : Str)) = false := by decide) (hcy : (y == ("__classdict__" : Str)) = false := by decide)
    (hbase : attributeBase (.Name y py) "pop" X.env (eval (.Name y py) X.env) = eval (.Name y py) X.env := by rfl)
    (hfew : ((backTo cpos (starEach [e] X.env)).all (fun x => !x.1) && (backToKw cpos (keywordEach [] X.env)).all (fun x => x.1.isSome)
      && decide ([e].length + ([] : List Keyword).length + (if ([] : List Keyword).isEmpty then 0 else 1) < 30)) = true := by rfl)
    (hline : (apos.endLine == cpos.line) = true := by rfl) (hs1 : starEach [e] X.env = (false, eval e X.env) :: starEach [] X.env := by rfl) (hplain : (backTo cpos (starEach [] X.env)).any (·.1) = false := by rfl)
    (hs2 : starEach [.Call (.Attribute (.Name y py) "pop" apos) [e] [] cpos] X.env = (false, eval (.Call (.Attribute (.Name y py) "pop" apos) [e] [] cpos) X.env) :: starEach [] X.env := by rfl)
    (hsw : swapsWith (.BinOp (.Name x px) .Add (.Tuple [.Call (.Attribute (.Name y py) "pop" apos) [e] [] cpos] kt ptup) pbin) (some (.Name x px')) pos.line X.env = pure false := by rfl)
    (hfl : X.fn x = true ∨ X.env.scope.names.lookup x = some .local := by first | exact .inl rfl | exact .inr rfl | assumption) :
    PS X (.Assign [.Name x px'] (.BinOp (.Name x px) .Add (.Tuple [.Call (.Attribute (.Name y py) "pop" apos) [e] [] cpos] kt ptup) pbin) pos) (sV (gx X) R O O Ob (sPopAdd i j f)) :=
  (ps_ln (ps_set hN hi hx (pe_op o_add (pe_var hi hvx hdx hcx) (pe_tupF (pa_cons (pe_bm PySem.F.plainAttrs_list PySem.F.slot_list_pop PySem.F.type_list_pop mt_popAt (pe_var hj hvy hdy hcy) (pa_cons he pa_nil hs1) hbase hfew hline hs1 hplain) pa_nil hs2))) hsw hfl)).imp fun D σ H ⟨F0, H0, F, env, out, hs, hf, ho, q⟩ hl => by
    simp only [sPopAdd] at ho
    rcases hs.ownC hOj with ⟨p, vs, es, k1, k2, k3, k4, k5⟩ | ⟨kvs, k2⟩
    rotate_left
    · rw [show env.getD j none = some (.dict kvs) by rw [List.getD_eq_getElem?_getD, k2]; rfl] at ho
      split at ho
      · rename_i e1 e2; cases e2
      · cases ho
    rw [show env.getD j none = some (.list es) by rw [List.getD_eq_getElem?_getD, k2]; rfl] at ho
    split at ho
    · rename_i ds es' hi1 hj1
      cases hj1
      obtain ⟨d, h1, ho⟩ := bind_some ho
      obtain ⟨k, h2, ho⟩ := bind_some ho
      obtain ⟨z, h3, ho⟩ := bind_some ho
      split at ho
      · rename_i hz
        cases ho
        obtain ⟨v, h5, h6⟩ := hs.imm i _ (getD_some hi1) hOi
        unfold popD at h3
        split at h3
        · rename_i hk
          have hk := Nat.le_of_ble_eq_true hk
          obtain ⟨ix, h7, h3⟩ := bind_some h3
          obtain ⟨dk, h8, h9⟩ := map_some h3
          subst h9
          cases d with
          | int kk =>
          cases h2
          refine ⟨v, h5, .ref p, k1, .inl ⟨rfl, vs, .inl (.inl k4)⟩, F, env, .int k, hs, h1, fun w F1 H1 g1 r1 => ?_⟩
          have hw : w = .int k := (Rp.b (H := H1) r1).int
          subst hw
          have r5 := k5.mono g1.ff
          obtain ⟨y, hy, ry⟩ := r5.get h8
          refine ⟨p, vs, k, ix, y, rfl, rfl, g1.hh.l k4, by omega, by omega, by rw [r5.length]; exact h7, hy, ?_⟩
          have re : RpAll (gx X) F1 (vs.eraseIdx ix) (es.eraseIdx ix) := by
            rw [List.eraseIdx_eq_take_drop_succ, List.eraseIdx_eq_take_drop_succ]
            exact (r5.take ix).append (r5.drop (ix + 1))
          have s1 := (hs.gr g1).chg (k := .lst) hOj k1 re trivial
          have f1 := fr_chg (o := HO.lst (vs.eraseIdx ix)) (hs.gr g1) (hf.step g1) hOj k1
          refine ⟨by rw [sizeLine_eq]; exact Nat.le_of_ble_eq_true rfl, fun t ot ht hot => ?_⟩
          have g2 := Gr.new (o := HO.frz ot (.tup [y])) s1.fh ht
          refine ⟨_, .tuple ds, .tuple [dk], .tuple (ds ++ [dk]), g2.fh, (h6.mono (g1.ff.trans g2.ff)).b, (Rp.tup (.inl ⟨ot, upd_same, hot⟩) (.cons (ry.mono g2.ff) .nil)).b, ?_, fun v3 F3 H3 g3 r3 => ?_⟩
          · show (if ds.length + [dk].length ≤ sizeLine then _ else _) = _
            exact if_pos hz
          · exact q _ F3 H3 (((s1.gr g2).gr g3).set hOi r3) (fr_set ((f1.step g2).step g3) hOi) ((g1.ff.trans g2.ff).trans g3.ff)
          | _ => cases h2
        · cases h3
      · cases ho
    · cases ho
end
end TL

set_option Elab.async false
set_option linter.all false
set_option maxRecDepth 100000
namespace TL
open PySem PySem.Spec PyProof.Rows L2
abbrev QE := Nat → Env → Int → Option (D × Int)
abbrev QT := Nat → Env → Int → Option (Bool × Int)
abbrev QA := Nat → Env → Int → Option (List D × Int)
inductive QOut where
  | nx (e : Env) (c : Int) | rt (d : D) (c : Int) | bk (e : Env) (c : Int) | ct (e : Env) (c : Int)
abbrev QS := Nat → Env → Int → Option QOut
@[simp] def ql (f : SE) : QE := fun _ env c => (f env).map fun d => (d, c)
@[simp] def qlT (f : ST) : QT := fun _ env c => (f env).map fun d => (d, c)
@[simp] def qlI (f : SI) : QA := fun _ env c => (f env).map fun d => (d, c)
@[simp] def toQ (c : Int) : Out → QOut
  | .nx e => .nx e c
  | .rt d => .rt d c
  | .bk e => .bk e c
  | .ct e => .ct e c
@[simp] def qlS (f : SS) : QS := fun _ env c => (f env).map (toQ c)
@[simp] def q1 (op : D → Option D) (a : QE) : QE := fun r env c => (a r env c).bind fun x => (op x.1).map fun d => (d, x.2)
@[simp] def q2 (op : D → D → Option D) (a b : QE) : QE := fun r env c => (a r env c).bind fun x => (b r env x.2).bind fun y => (op x.1 y.1).map fun d => (d, y.2)
@[simp] def qIf (k : QT) (a b : QE) : QE := fun r env c => (k r env c).bind fun x => if x.1 = true then a r env x.2 else b r env x.2
@[simp] def qAnd (a b : QE) : QE := fun r env c => (a r env c).bind fun x => (toB x.1).bind fun k => if k = true then b r env x.2 else some (.bool false, x.2)
@[simp] def qOr (a b : QE) : QE := fun r env c => (a r env c).bind fun x => (toB x.1).bind fun k => if k = true then some (.bool true, x.2) else b r env x.2
@[simp] def qNot (a : QE) : QE := fun r env c => (a r env c).bind fun x => (toB x.1).map fun k => (.bool (!k), x.2)
@[simp] def qArgs : List QE → QA
  | [] => fun _ _ c => some ([], c)
  | a :: l => fun r env c => (a r env c).bind fun x => (qArgs l r env x.2).map fun y => (x.1 :: y.1, y.2)
@[simp] def qTup (l : List QE) : QE := fun r env c => (qArgs l r env c).bind fun x => if x.1.length ≤ sizeLine then some (.tuple x.1, x.2) else none
@[simp] def qLst (l : List QE) : QE := fun r env c => (qArgs l r env c).bind fun x => if x.1.length ≤ sizeLine then some (.list x.1, x.2) else none
@[simp] def qCallV (m : List D → Option D) (l : List QE) : QE := fun r env c => (qArgs l r env c).bind fun x => (m x.1).map fun d => (d, x.2)
@[simp] def qCall (m : Nat → List D → Int → Option (D × Int)) (l : List QE) : QE := fun r env c => (qArgs l r env c).bind fun x => m r x.1 x.2
@[simp] def qtV (a : QE) : QT := fun r env c => (a r env c).bind fun x => (toB x.1).map fun k => (k, x.2)
@[simp] def qtAnd (a b : QT) : QT := fun r env c => (a r env c).bind fun k => if k.1 = true then b r env k.2 else some (false, k.2)
@[simp] def qtOr (a b : QT) : QT := fun r env c => (a r env c).bind fun k => if k.1 = true then some (true, k.2) else b r env k.2
@[simp] def qtNot (a : QT) : QT := fun r env c => (a r env c).map fun k => (!k.1, k.2)
@[simp] def qRng1 (a : QE) : QA := fun r env c => (a r env c).bind fun x => (toI x.1).bind fun n => (rangeD 0 n).map fun d => (d, x.2)
@[simp] def qSeqI (a : QE) : QA := fun r env c => (a r env c).bind fun x => (itemsD x.1).map fun d => (d, x.2)
def hid (r : Nat) (H : Hp) : Hp := fun p => if p = r then none else H p
theorem hid_r {r : Nat} {H : Hp} : hid r H r = none := if_pos rfl
theorem hid_ne {r : Nat} {H : Hp} {p : Addr} (h : p ≠ r) : hid r H p = H p := if_neg h
theorem hid_some {r : Nat} {H : Hp} {p : Addr} {o : HO} (h : hid r H p = some o) : p ≠ r ∧ H p = some o := by
  by_cases e : p = r
  · subst e; rw [hid_r] at h; cases h
  · rw [hid_ne e] at h; exact ⟨e, h⟩
theorem hid_le {r : Nat} {H : Hp} : Same (hid r H) H := fun b o e => (hid_some e).2
theorem SameN.hid_ {r : Nat} {H H' : Hp} (a : SameN H H') : SameN (hid r H) (hid r H') :=
  ⟨fun b o e n => by obtain ⟨k, e⟩ := hid_some e; rw [hid_ne k]; exact a.nn b o e n, fun b ps e => by obtain ⟨k, e⟩ := hid_some e; rw [hid_ne k]; exact a.tb b ps e⟩
theorem TbOk.unhid {G : Gx} {F H : Hp} {r : Nat} (t : TbOk G F (hid r H)) : TbOk G F H := fun x hx c P e =>
  let ⟨h1, ps, h2, h3⟩ := t x hx c P e
  ⟨h1, ps, hid_le _ _ h2, h3⟩
theorem TbOk.hid_ {G : Gx} {F H : Hp} {r : Nat} {vs : List V} (t : TbOk G F H) (hr : H r = some (.lst vs)) : TbOk G F (hid r H) := fun x hx c P e =>
  let ⟨h1, ps, h2, h3⟩ := t x hx c P e
  ⟨h1, ps, by rw [hid_ne (fun z => by rw [z, hr] at h2; cases h2)]; exact h2, h3⟩
structure QOk (G : Gx) (O : List Nat) (r : Nat) (c : Int) (F H : Hp) (σ : L2.St) (env : Env) : Prop where
  s : SOk G O F (hid r H) σ env
  fr : F r = none
  hr : H r = some (.lst [.int c])
structure QGr (r : Nat) (c : Int) (F H F' H' : Hp) : Prop where
  g : Gr F (hid r H) F' (hid r H')
  fr : F' r = none
  hr : H' r = some (.lst [.int c])
section
variable {G : Gx} {O O' : List Nat} {r : Nat} {c c' c2 : Int} {F H F' H' F2 H2 : Hp} {σ : L2.St} {env : Env}
theorem QOk.sok (q : QOk G O r c F H σ env) : SOk G O F H σ env := ⟨q.s.fh.trans hid_le, q.s.len, q.s.imm, fun i hi => by
  obtain ⟨p, kk, vs, ds, h1, h2, h3, h4, h5, hK⟩ := q.s.own i hi
  exact ⟨p, kk, vs, ds, h1, h2, h3, hid_le _ _ h4, h5, hK⟩, q.s.dj, q.s.tb.unhid⟩
theorem QOk.gr (q : QOk G O r c F H σ env) (g : QGr r c' F H F' H') : QOk G O r c' F' H' σ env := ⟨q.s.gr g.g, g.fr, g.hr⟩
theorem QGr.of (g : Gr F H F' H') (hf : F r = none) (hr : H r = some (.lst [.int c])) : QGr r c F H F' H' := by
  have fr : F' r = none := g.hid r _ hr hf
  refine ⟨⟨g.ff, g.hh.hid_, fun b o e => ?_, fun p o e n => ?_⟩, fr, g.hh.l hr⟩
  · have n : b ≠ r := fun z => by rw [z, fr] at e; cases e
    rw [hid_ne n]
    exact g.fh b o e
  · obtain ⟨_, e⟩ := hid_some e
    exact g.hid p o e n
theorem QGr.trans (a : QGr r c F H F' H') (b : QGr r c2 F' H' F2 H2) : QGr r c2 F H F2 H2 := ⟨a.g.trans b.g, b.fr, b.hr⟩
theorem QGr.fh (a : QGr r c F H F' H') : Same F' H' := a.g.fh.trans hid_le
theorem QGr.ff (a : QGr r c F H F' H') : Same F F' := a.g.ff
theorem QOk.of (q : QOk G O r c F H σ env) (g : Gr F H F' H') : QGr r c F H F' H' := .of g q.fr q.hr
theorem QOk.refl (q : QOk G O r c F H σ env) : QGr r c F H F H := q.of (Gr.refl q.sok.fh)
end
section
variable {X : Cx} {O : List Nat} {a b e k : Expr} {es rest : List Expr} {fa fb : QE} {ta tb : QT} {l : List QE} {pos p2 : Pos} {g : D → D → Option D}
end
section
variable {X : Cx} {O : List Nat} {e : Expr} {es : List Expr} {l : List QE} {p pos : Pos} {x : Str} {k n : Nat} {fa : Addr} {fd : FuncData} {ps : List Str}
end
section
variable {X : Cx} {O : List Nat} {e e' : Expr} {f f' : QE} {p pos : Pos} {x : Str} {g : D → Option D} {id T : String}
end
end TL

set_option Elab.async false
set_option linter.all false
set_option maxRecDepth 100000
namespace TL
open PySem PySem.Spec PyProof.Rows L2
@[simp] def qSeq (a b : QS) : QS := fun r env c => (a r env c).bind fun o => match o with
  | .nx e c => b r e c
  | .rt d c => some (.rt d c)
  | .bk e c => some (.bk e c)
  | .ct e c => some (.ct e c)
@[simp] def qNext : QS := fun _ env c => some (.nx env c)
@[simp] def qRet (a : QE) : QS := fun r env c => (a r env c).map fun x => .rt x.1 x.2
@[simp] def qIfS (k : QT) (a b : QS) : QS := fun r env c => (k r env c).bind fun x => if x.1 = true then a r env x.2 else b r env x.2
@[simp] def qAsg (a : QE) (g : SG) : QS := fun r env c => (a r env c).bind fun x => (g x.1 env).map fun e => .nx e x.2
@[simp] def qDrop (a : QE) : QS := fun r env c => (a r env c).map fun x => .nx env x.2
@[simp] def qPar (i j : Nat) (a b : QE) : QS := fun r env c => (a r env c).bind fun x => (b r env x.2).map fun y => .nx ((env.set i (some x.1)).set j (some y.1)) y.2
@[simp] def qApp (i : Nat) (a : QE) : QS := fun r env c => (a r env c).bind fun y => match env.getD i none with
  | some (.list ds) => if ds.length < sizeLine then some (.nx (env.set i (some (.list (ds ++ [y.1])))) y.2) else none
  | _ => none
def qForGo (g : SG) (body : QS) (r : Nat) : List D → Env → Int → Option QOut
  | [], env, c => some (.nx env c)
  | x :: xs, env, c => (g x env).bind fun env1 => (body r env1 c).bind fun o => match o with
    | .nx e c => qForGo g body r xs e c
    | .ct e c => qForGo g body r xs e c
    | .bk e c => some (.nx e c)
    | .rt d c => some (.rt d c)
@[simp] def qFor (it : QA) (g : SG) (body : QS) : QS := fun r env c => (it r env c).bind fun x => qForGo g body r x.1 env x.2
@[simp] def outQ : QOut → Option (D × Int)
  | .rt d c => some (d, c)
  | .nx _ c => some (.none, c)
  | _ => none
def qPost (G : Gx) (O' Ob : List Nat) (F0 H0 : Hp) (r : Nat) (F : Hp) (D : Ends) : QOut → Prop
  | .nx e c => ∀ σ' F' H', QOk G O' r c F' H' σ' e → Fr F0 (hid r H0) O' F' (hid r H') σ' → Same F F' → D.nx σ' H'
  | .bk e c => ∀ σ' F' H', QOk G Ob r c F' H' σ' e → Fr F0 (hid r H0) Ob F' (hid r H') σ' → Same F F' → D.bk σ' H'
  | .ct e c => ∀ σ' F' H', QOk G Ob r c F' H' σ' e → Fr F0 (hid r H0) Ob F' (hid r H') σ' → Same F F' → D.ct σ' H'
  | .rt d c => ∀ v F' H', QGr r c F0 H0 F' H' → Rp G F' v d → D.rt v H'
theorem qPost.ff {G : Gx} {O' Ob : List Nat} {F0 H0 F F1 : Hp} {r : Nat} {D : Ends} {out : QOut} (q : qPost G O' Ob F0 H0 r F D out) (k : Same F F1) : qPost G O' Ob F0 H0 r F1 D out := by
  cases out with
  | nx e => exact fun σ' F' H' s' f' k' => q σ' F' H' s' f' (k.trans k')
  | bk e => exact fun σ' F' H' s' f' k' => q σ' F' H' s' f' (k.trans k')
  | ct e => exact fun σ' F' H' s' f' k' => q σ' F' H' s' f' (k.trans k')
  | rt d => exact q
theorem QOk.ne {G : Gx} {O : List Nat} {r : Nat} {c : Int} {F H : Hp} {σ : L2.St} {env : Env} (ok : QOk G O r c F H σ env) : ∀ i ∈ O, ∀ p, σ[i]? = some (some (.ref p)) → p ≠ r := fun i hi p hp => by
  obtain ⟨p', kk, vs, ds, h1, h2, h3, h4, h5, hK⟩ := ok.s.own i hi
  rw [hp] at h1
  cases h1
  exact (hid_some h4).1
section
variable {X : Cx} {O O' O'' Ob : List Nat} {st : Stmt} {rest : List Stmt} {pos : Pos}
end
section
variable {P : Program} {w : World} {G : Gx} {base : Heap}
end
end TL

set_option Elab.async false
set_option linter.all false
set_option maxRecDepth 100000
namespace TL
open PySem PySem.Spec PyProof.Rows L2
def rowsOf : D → Option D
  | .dict [(.int _, .list rows)] => some (.list rows)
  | _ => none
def cellOf : D → Option Int
  | .dict [(.int r, .list _)] => some r
  | _ => none
@[simp] def eRows (i : Nat) : SE := fun env => (env.getD i none).bind rowsOf
@[simp] def qCnt (i : Nat) : QE := fun r env c => (env.getD i none).bind fun d => (cellOf d).bind fun k => if k = (r : Int) then some (.int c, c) else none
@[simp] def qStore (i : Nat) (a : QE) : QS := fun r env c => (a r env c).bind fun x => (toI x.1).bind fun n => (env.getD i none).bind fun d => (cellOf d).bind fun k => if k = (r : Int) then some (.nx env n) else none
section
variable {X : Cx} {O O' Ob : List Nat} {e : Expr} {pos p1 p2 p3 : Pos} {x : Str}
end
section
variable {X : Cx} {O O' Ob : List Nat} {e : Expr} {pos p1 p2 p3 : Pos} {x : Str}
end
section
variable {P : Program} {w : World} {G : Gx} {base : Heap}
end
section
variable {X : Cx} {e : Expr} {es : List Expr} {rest : List Stmt} {pos p cpos : Pos} {x y : Str} {l : List SE} {k n : Nat} {fa : Addr} {fd : FuncData} {ps : List Str} {m : List D → Option D} {Oe : List Nat} {body : QS} {pos' : Pos}
end
section
variable {P : Program} {w : World} {G : Gx} {base : Heap}
end
end TL

set_option Elab.async false
set_option linter.all false
set_option maxRecDepth 100000
namespace TL
open PySem PySem.Spec PyProof.Rows L2
def qLcGo (g : SG) (k : QT) (e : QE) (r : Nat) (env : Env) : List D → Int → Option (List D × Int)
  | [], c => some ([], c)
  | x :: xs, c => (g x env).bind fun env1 => (k r env1 c).bind fun t => if t.1 = true then (e r env1 t.2).bind fun y => (qLcGo g k e r env xs y.2).map fun z => (y.1 :: z.1, z.2) else qLcGo g k e r env xs t.2
@[simp] def qLc (vs : List Nat) (it : QA) (g : SG) (k : QT) (e : QE) : QE := fun r env c => (it r env c).bind fun x => (qLcGo g k e r (wipeE env vs) x.1 x.2).map fun y => (.list y.1, y.2)
theorem hid_upd {r : Nat} {H : Hp} {p : Addr} {o : HO} (h : p ≠ r) : hid r (upd H p o) = upd (hid r H) p o := by
  funext b
  by_cases hb : b = r
  · subst hb
    rw [hid_r, upd_ne (fun z => h z.symm), hid_r]
  · rw [hid_ne hb]
    by_cases hp : b = p
    · subst hp
      rw [upd_same, upd_same]
    · rw [upd_ne hp, upd_ne hp, hid_ne hb]
section
variable {X : Cx} {O : List Nat}
end
end TL

set_option Elab.async false
set_option linter.all false
set_option maxRecDepth 100000
namespace TL
open PySem PySem.Spec PyProof.Rows L2
section
variable {P : Program} {w : World} {G : Gx} {base : Heap}
end
def KTup0 (K : PySem.W.Frag) (a : Addr) : Prop := ∃ (o : Obj) (n : Nat), K.lookup a = some o ∧ o.cls = .type "tuple" ∧ o.dict = none ∧ o.data = .seq #[] n
theorem KTup0.rp {G : Gx} {F : Hp} {a : Addr} (h : KTup0 G.K a) : Rp G F (.ref a) (.tuple []) := by
  obtain ⟨o, n, h1, h2, h3, h4⟩ := h
  exact .tup (.inr ⟨o, #[], n, h1, h2, h3, h4, Nat.zero_le _, .nil⟩) .nil
section
variable {X : Cx} {O : List Nat} {e : Expr} {es : List Expr} {l : List SE} {p pos : Pos} {x : Str} {k n : Nat} {fa a0 : Addr} {fd : FuncData} {ps : List Str} {m : List D → Option D}
@[simp] def eCallD (m : List D → Option D) (l : List SE) : SE := fun env => (eArgs l env).bind fun ds => m (ds ++ [.tuple []])
end
@[simp] def sSetIx (i : Nat) (a b : SE) : SS := fun env => (b env).bind fun y => (a env).bind fun x => (toI x).bind fun k => match env.getD i none with
  | some (.list ds) => (L2.ixN ds.length k).map fun j => .nx (env.set i (some (.list (ds.set j y))))
  | _ => none
theorem RpAll.set {G : Gx} {F : Hp} {v : V} {d : D} (h : Rp G F v d) : ∀ {vs : List V} {ds : List D} (j : Nat), RpAll G F vs ds → RpAll G F (vs.set j v) (ds.set j d)
  | _, _, _, .nil => .nil
  | _, _, 0, .cons _ r => .cons h r
  | _, _, j + 1, .cons h0 r => .cons h0 (RpAll.set h j r)
section
variable {X : Cx} {R : RK} {O Ob : List Nat} {ei ev : Expr} {fi fv : SE} {p1 pos pos' : Pos} {x : Str}
end
end TL

set_option Elab.async false
set_option linter.all false
set_option maxRecDepth 100000
set_option maxHeartbeats 4000000
namespace TL
open PySem PySem.Spec PyProof.Rows L2
section
variable {X : Cx}
end
@[simp] def eTab (tab : List (Str × D)) (a : SE) : SE := fun env => (a env).bind fun d => match d with
  | .str x => tab.lookup x
  | _ => none
end TL
namespace TL
open PySem
end TL

set_option Elab.async false
set_option linter.all false
set_option maxRecDepth 100000
namespace TL
open PySem PySem.Spec PyProof.Rows L2
def strsO : List D → Option (List Str)
  | [] => some []
  | .str x :: r => (strsO r).map (x :: ·)
  | _ => none
@[simp] def eJoin (a : Str) (f : SE) : SE := fun env => (f env).bind fun d => match d with
  | .list ds => (strsO ds).bind fun ys => if (ys.map (·.length)).sum + ys.length * a.length ≤ 16777216 then some (.str (Txt.join a ys)) else none
  | _ => none
end TL

set_option Elab.async false
set_option linter.all false
set_option maxRecDepth 100000
set_option maxHeartbeats 4000000
namespace TL
open PySem PySem.Spec PyProof.Rows L2
section
variable {P : Program} {w : World} {A : Around} {E : Value → Shared → Prop} {s : Shared}
end
end TL

set_option Elab.async false
set_option linter.all false
set_option maxRecDepth 100000
namespace TL
open PySem PySem.Spec PyProof.Rows L2
section
variable {prog : Program} {w : World} {A : Around} {R : Result → Shared → Prop} {I : Addr} {fp wr : List Addr} {n : Nat} {P : Nat → Value → Prop} {St : Nat → Heap → Prop} {dv : Value}
end
section
variable {prog : Program} {w : World} {A : Around} {E : Value → Shared → Prop} {s : Shared}
end
section
variable {X : Cx}
end
end TL

set_option Elab.async false
set_option linter.all false
set_option maxRecDepth 100000
namespace TL
open PySem PySem.Spec PyProof.Rows L2
section
variable {X : Cx} {O : List Nat}
end
end TL

set_option Elab.async false
set_option linter.all false
set_option maxRecDepth 100000
namespace TL
open PySem PySem.Spec PyProof.Rows L2 GenW
abbrev gX (X : Cx) (A : Around) (s : Shared) (H : Hp) (env : PySem.Env) (fp : List Addr) (pn : List (Addr × Obj)) : Cx :=
  { X with A := A, s_0 := s, H_0 := H, env := env, outer := X.stack, stack := env :: X.stack, ex := fp, fn := fun _ => false, calm := true, pn := pn, xe := fun _ _ => False }
structure GenOk (N : List Str) (sc scope : Scope) (own : List (Str × Nat)) : Prop where
  b : BlkOk N sc scope own
  co : scope.isCoroutine = false
  cell : ∀ y ∈ scope.names, y.2 ≠ .cell
  dot : scope.names.lookup (".0" : Str) = some NameKind.local
theorem over_gen {A : Around} {elt tg iter : Expr} {ifs : List Expr} {scope : Scope} {pos : Pos} {it acc : Value} {env : PySem.Env} :
    A.over (.compLoop (.GeneratorExp elt [⟨tg, iter, ifs, 0⟩] scope pos) 0 it acc env) [] = A.deeper env := by
  first
    | rfl
    | (obtain ⟨hd, d, fr, gs, u⟩ := A; simp [Around.over, Around.deeper, marksOver, frameCount, unitsOf, envsOf, guardsOf, pushEnvs, pushGuards, Code.envs, Code.env?, Code.isFrame, Code.guards, Code.isGuard, Code.weight, Code.frames, Code.isCreation, Code.isCaller, Code.cUnits])
section
variable {X : Cx} {pins : List (Addr × Obj)} {σ : L2.St} {H : Hp} {s : Shared}
theorem inv_gens {g : Array GenState} (I : Inv X pins σ H s) (hg : AllBare g) : Inv X pins σ H { s with gens := g } :=
  ⟨I.ok, I.os, hg, I.base, I.loc, I.cell, I.free, I.freeC, I.pin, I.hok, I.len⟩
theorem inv_setGen {g : Nat} {x : GenState} (I : Inv X pins σ H s) (hx : x.bare = true) : Inv X pins σ H (s.setGen g x) := inv_gens I (allBare_setGen I.bare hx)
theorem gen_start {scope : Scope} {own : List (Str × Nat)} {fp : List Addr} {A' : Around} {code : Value} {m : Str → Option Value} {s5 : Shared} {pn : List (Addr × Obj)} (I : Inv X pins σ H s) (ok : GenOk X.N X.env.scope scope own) (hN : X.N.Nodup) (hfp : ∀ b ∈ fp, FpOk X pins H b ∧ b < s.heap.objs.size)
    (hA : A'.frames = some (genEnv scope (cloFrom X.env.cells scope.names []) s.heap.objs.size code builtinsNs X.env :: X.stack)) (hh : A'.handled = none)
    (hk : ∀ b o, s.heap.get? b = some o → s5.heap.get? b = some o) (hns : s5.heap.Ns s.heap.objs.size m) (hos : s5.os = s.os) (hg : AllBare s5.gens)
    (hpn : ∀ p ∈ pn, s5.heap.get? p.1 = some p.2 ∧ s.heap.objs.size < p.1 ∧ ∀ v, p.2.data ≠ .cell v) :
    Inv (gX X A' s H (genEnv scope (cloFrom X.env.cells scope.names []) s.heap.objs.size code builtinsNs X.env) fp pn) [] (wipe σ (own.map (·.2))) H s5 := by
  have hfree : ∀ y ∈ scope.names, y.2 = .free → ∃ c, X.env.cells.lookup y.1 = some c := fun y hy e => by
    rcases ok.b.free y hy e with k | k
    · exact I.ok.has _ (.inl k)
    · exact I.ok.has _ (.inr k)
  generalize hcenv : genEnv scope (cloFrom X.env.cells scope.names []) s.heap.objs.size code builtinsNs X.env = cenv at hA
  have hL : cenv.locals = s.heap.objs.size := by rw [← hcenv]; rfl
  have hcl : cenv.cells = cloFrom X.env.cells scope.names [] := by rw [← hcenv]; rfl
  have hsc : cenv.scope = scope := by rw [← hcenv]; rfl
  have cm : ∀ {y c}, cenv.cells.lookup y = some c → X.env.cells.lookup y = some c ∧ c < s.heap.objs.size := fun {y c} e => by
    rw [hcl] at e
    rcases cloFrom_mem (PySem.mem_of_lookup e) with hm | ⟨h1, rfl⟩
    · cases hm
    · obtain ⟨c, hc⟩ := hfree _ h1 rfl
      rw [hc]
      obtain ⟨w, z⟩ := I.cell _ _ hc
      exact ⟨rfl, z.lt⟩
  have look : ∀ {y}, scope.names.lookup y = some .free → ∃ c, cenv.cells.lookup y = some c ∧ X.env.cells.lookup y = some c := fun {y} hl => by
    have hy : (y, NameKind.free) ∈ scope.names := PySem.mem_of_lookup hl
    obtain ⟨c', e'⟩ := mem_lookup (cloFrom_has (cells := X.env.cells) (acc := []) hy)
    rw [← hcl] at e'
    exact ⟨c', e', (cm e').1⟩
  have okB : (gX X A' s H cenv fp pn).Ok := by
    refine ⟨I.ok.mod, by show cenv.scope.kind = _; rw [hsc]; exact ok.b.kind, by show cenv.globals = _; rw [← hcenv]; exact I.ok.glob, by show cenv.builtins = _; rw [← hcenv]; rfl, by show s.heap.objs.size ≤ cenv.locals; rw [hL]; exact Nat.le_refl _,
      fun y z c e1 e2 => I.ok.inj y z c (cm e1).1 (cm e2).1, fun y hy => ?_, fun y c z e => (by cases z), fun _ => hh, hA, .inr ⟨rfl, by show cenv.frame = some cenv.locals; rw [← hcenv]; rfl⟩, fun b hb => ⟨?_, fun y c e z => (hfp b hb).1.2.2.2.2.1 y c (cm e).1 z⟩, I.bs, Nat.le_trans I.ok.bsz I.sz, fun b o e hb => ?_, fun b hb z => ?_, I.stack, I.stkFree⟩
    · show ∃ c, cenv.cells.lookup y = some c
      rcases hy with hy | hy
      · have hy : cenv.scope.names.lookup y = some .cell := hy
        rw [hsc] at hy
        exact absurd rfl (ok.cell _ (PySem.mem_of_lookup hy))
      · have hy : cenv.scope.names.lookup y = some .free := hy
        rw [hsc] at hy
        obtain ⟨c, h1, _⟩ := look hy
        exact ⟨c, h1⟩
    · show b ≠ cenv.locals
      rw [hL]; exact Nat.ne_of_lt (hfp b hb).2
    · rcases (hfp b hb).1.2.2.2.1 with z | z
      · exact I.ok.noex b o e z
      · exact absurd (Nat.lt_of_lt_of_le (Heap.lt_size e) (Nat.le_trans I.ok.bsz z)) (Nat.lt_irrefl _)
    · rcases List.mem_cons.mp (I.stkSub b z) with z | z
      · exact (hfp b hb).1.2.1 z
      · exact (hfp b hb).1.2.2.1 z
  refine ⟨okB, hos, hg, Un.kept hk, ⟨m, by show s5.heap.Ns cenv.locals m; rw [hL]; exact hns, fun i y av e1 e2 e3 => ?_⟩, fun y c e => ?_, ?_, fun y c e => ?_, fun p hp => ?_, I.hok.kept hk, by rw [wipe_length]; exact I.len⟩
  · obtain ⟨e2, hne⟩ := wipe_some e2
    have hfr : scope.names.lookup y = some .free := by
      have e3 : Vis cenv.scope y := e3
      rw [hsc] at e3
      rcases e3 with e3 | e3 | e3
      · rcases ok.b.own _ (PySem.mem_of_lookup e3) (.inl rfl) with e' | e'
        · obtain ⟨p, hp, hpy⟩ := List.mem_map.mp e'
          have e4 := ok.b.ix p hp
          have : p.1 = y := hpy
          rw [this] at e4
          exact absurd (List.mem_map.mpr ⟨p, hp, nodup_ix hN e4 e1⟩) hne
        · exact absurd (List.mem_of_getElem? e1) e'
      · exact absurd rfl (ok.cell _ (PySem.mem_of_lookup e3))
      · exact e3
    obtain ⟨m0, hn, hl⟩ := I.loc
    have hvis : Vis X.env.scope y := (ok.b.free _ (PySem.mem_of_lookup hfr) rfl).elim (fun k => .inr (.inl k)) (fun k => .inr (.inr k))
    obtain ⟨w, r, q⟩ := hl i y av e1 e2 hvis
    refine ⟨w, r, .inr ⟨.inr (by show cenv.scope.names.lookup y = _; rw [hsc]; exact hfr), ?_⟩⟩
    obtain ⟨c, h1, h2⟩ := look hfr
    rcases q with ⟨k, _⟩ | ⟨_, c', e', z⟩
    · have k : X.env.scope.names.lookup y = some .local := k
      rcases ok.b.free _ (PySem.mem_of_lookup hfr) rfl with k' | k' <;> rw [show X.env.scope.names.lookup y = _ from k'] at k <;> cases k
    · rw [h2] at e'; cases e'
      exact ⟨c, h1, z.keeps hk⟩
  · have e : cenv.cells.lookup y = some c := e
    obtain ⟨w, z⟩ := I.cell y c (cm e).1
    exact ⟨w, z.keeps hk⟩
  · show H cenv.locals = none
    rw [hL]; exact I.hok.fresh (Nat.le_refl _)
  · have e : cenv.cells.lookup y = some c := e
    exact I.freeC y c (cm e).1
  · have hp : p ∈ pn := by
      rcases List.mem_append.mp hp with z | z
      · exact z
      · cases z
    obtain ⟨h1, h2, h3⟩ := hpn p hp
    refine ⟨h1, I.hok.fresh (Nat.le_of_lt h2), ?_, fun z => ?_, h3⟩
    · show p.1 ≠ cenv.locals
      rw [hL]; exact Nat.ne_of_gt h2
    · rcases List.mem_cons.mp (I.stkSub _ z) with z | z
      · rw [z] at h2; exact absurd (Nat.lt_trans h2 I.lt) (Nat.lt_irrefl _)
      · exact I.nofs (Nat.le_of_lt h2) z
end
def gL (X : Cx) (σ0 : L2.St) (fp : List Addr) (tn : Nat → Heap → Prop) (W : Nat → Hp → Prop) (g : Nat) (i : Nat) (s : Shared) : Prop :=
  g < s.gens.size ∧ ∃ H, Inv X [] σ0 H s ∧ tn i s.heap ∧ (∀ b ∈ fp, H b = none) ∧ W i H
def gD (X : Cx) (σ0 : L2.St) (g : Nat) (Q : Hp → Prop) (s : Shared) : Prop := g < s.gens.size ∧ ∃ H, Inv X [] σ0 H s ∧ Q H
def gY (X : Cx) (σ0 : L2.St) (fp : List Addr) (tn : Nat → Heap → Prop) (W : Nat → Hp → Prop) (g n : Nat) (cb : Bool) (QF : Hp → Prop) : Protocol := fun m s0 v s kap =>
  ∃ b, v = .bool b ∧ (if b = cb then gL X σ0 fp tn W g (n - m) s else gD X σ0 g QF s) ∧ ∀ s'', gL X σ0 fp tn W g (n - m) s'' → kap (.send .none) s''
abbrev gP (X : Cx) (σ0 : L2.St) (g : Nat) (QT : Hp → Prop) (m : Nat) (s0 s1 : Shared) : Prop := m = 0 ∧ gD X σ0 g QT s1
def gR (X : Cx) (σ0 : L2.St) (g : Nat) (QT : Hp → Prop) : GenEnd := fun m s0 r s1 => r = .ok .next ∧ gP X σ0 g QT m s0 s1
section
variable {X : Cx} {σ0 : L2.St} {fp : List Addr} {tn : Nat → Heap → Prop} {W : Nat → Hp → Prop} {g n : Nat} {cb : Bool} {QF QT : Hp → Prop} {J : It} {gt : TG} {te : TE}
  {elt tg iter : Expr} {scope : Scope} {pos : Pos} {it : Addr} {As : Around} {vs : List Nat}
def gTurn (J : It) (σ0 : L2.St) (vs : List Nat) (n : Nat) (cb : Bool) (gt : TG) (te : TE) (W : Nat → Hp → Prop) (QT QF : Hp → Prop) : Prop := ∀ i H, W i H →
  (i = n ∧ J.stop i H ∧ QT H) ∨ (i < n ∧ J.go i H ∧ ∀ y H', J.yld i H y H' → gt y σ0 H' fun σ2 H2 => wipe σ2 vs = σ0 ∧ te σ2 H2 fun v H3 => ∃ b, v = .bl b ∧ if b = cb then W (i + 1) H3 else QF H3)
theorem gL_setGen {i : Nat} {s : Shared} {x : GenState} (h : gL X σ0 fp tn W g i s) (hx : x.bare = true) : gL X σ0 fp tn W g i (s.setGen g x) := by
  obtain ⟨h0, H, I, h1, h2, h3⟩ := h
  exact ⟨by rw [setGen_size]; exact h0, H, inv_setGen I hx, h1, h2, h3⟩
theorem gen_loop (hA : X.A = As.deeper X.env) (hc : X.calm = true) (hco : X.env.scope.isCoroutine = false) (hxe : X.xe = fun _ _ => False) (T : Turn X.prog X.w X.K tg J fp it tn) (stat : ∀ {σ' : L2.St} {H' : Hp} {s' : Shared}, Inv X [] σ' H' s' → (∀ b ∈ fp, H' b = none) → ∀ b ∈ fp, FpOk X [] H' b)
    (hg : PG X tg gt) (he : PE X elt te) (hvs : ∀ σ2 : L2.St, wipe σ2 vs = σ0 → σ0.length = σ2.length) (turn : gTurn J σ0 vs n cb gt te W QT QF) :
    ∀ (k i : Nat) (s0 s : Shared), n - i = k → i ≤ n → gL X σ0 fp tn W g i s →
      Seg (model X.prog X.w) As (gR X σ0 g QT) (gY X σ0 fp tn W g n cb QF) k s0
        (.compLoop (.GeneratorExp elt [⟨tg, iter, [], 0⟩] scope pos) 0 (.ref it) .none X.env)
        ((model X.prog X.w).den (.compLoop (.GeneratorExp elt [⟨tg, iter, [], 0⟩] scope pos) 0 (.ref it) .none X.env)) [] s := by
  intro k
  induction k with
  | zero =>
    intro i s0 s hk hi hL
    obtain ⟨hgs, H, I, st, fr, w⟩ := hL
    rcases turn i H w with ⟨hin, stop, q⟩ | ⟨hlt, _⟩
    · show Seg _ As _ _ _ s0 _ ((compTurn (.GeneratorExp elt [⟨tg, iter, [], 0⟩] scope pos) 0 (.ref it) .none X.env).onRaise (leaving X.env)) [] s
      rw [compTurn_gen, Sem.onRaise_eq_wrap]
      refine seg_bind_wrap (wpAny_standAt ?_)
      refine seg_bind_wrap ?_
      rw [over_gen, ← hA]
      refine wpAny_gsz hgs (thnF (T.done X rfl rfl rfl hc i [] s σ0 H (fun _ _ => False) I (stat I fr) st stop) fun r s1 ⟨hr, I1⟩ hsz => ?_)
      subst hr
      exact seg_end (.ok .next) ⟨rfl, rfl, hsz, H, I1, q⟩
    · omega
  | succ k ih =>
    intro i s0 s hk hi hL
    obtain ⟨hgs, H, I, st, fr, w⟩ := hL
    rcases turn i H w with ⟨hin, _⟩ | ⟨hlt, go, step⟩
    · omega
    · show Seg _ As _ _ _ s0 _ ((compTurn (.GeneratorExp elt [⟨tg, iter, [], 0⟩] scope pos) 0 (.ref it) .none X.env).onRaise (leaving X.env)) [] s
      rw [compTurn_gen, Sem.onRaise_eq_wrap]
      refine seg_bind_wrap (wpAny_standAt ?_)
      refine seg_bind_wrap ?_
      rw [over_gen, ← hA]
      refine wpAny_gsz hgs (thnF (T.item X rfl rfl rfl hc i [] s σ0 H (fun _ _ => False) I (stat I fr) st go) fun r s1 ⟨u, hr, h1⟩ hgs1 => ?_)
      subst hr
      refine seg_bind_wrap ?_
      rw [over_gen, ← hA]
      refine wpAny_gsz hgs1 (thnF h1 fun _ s2 ⟨y, H2, I2, r2, y2, st2, fr2⟩ hgs2 => ?_)
      have I2' := I2.pinned (stat I2 fr2) (T.obj _ _ st2)
      refine seg_bind_wrap ?_
      rw [over_gen, ← hA]
      have hgr := hg.run _ s2 σ0 H2 y u _ I2' r2 (step y H2 y2)
      rw [hxe] at hgr
      refine wpAny_gsz hgs2 (thnF hgr fun _ s3 ⟨σ3, H3, I3, hw3, q3⟩ hgs3 => ?_)
      refine seg_bind_wrap ?_
      rw [over_gen, ← hA]
      simp only [List.forIn_nil]
      refine wpAny_pure ?_
      simp only [if_true]
      have hy : ∀ v, yieldOut X.env v = yieldValue v := fun v => by simp only [yieldOut, hco, Bool.false_eq_true, if_false]
      simp only [hy]
      rw [Sem.bind_eq_wrap', Sem.bind_eq_wrap', Sem.wrap_wrap, Sem.wrap_wrap]
      refine seg_wrap ?_
      rw [over_gen, ← hA]
      have her := he.run _ s3 σ3 H3 _ I3 q3
      rw [hxe] at her
      refine wpAny_gsz hgs3 (thnF her fun v s4 ⟨yv, H4, I4, r4, b, hb, q4⟩ hgs4 => ?_)
      subst hb
      obtain rfl : v = Value.bool b := r4
      have hkn : n - k = i + 1 := by omega
      have hl := hvs σ3 hw3
      have I5 : Inv X [] σ0 H4 s4 := (I4.unpinned (pins := [])).weak hl fun j v e => by
        rw [← hw3] at e
        exact (wipe_some e).1
      have pin' : ∀ b ∈ fp, ∀ o, s2.heap.get? b = some o → s4.heap.get? b = some o ∧ H4 b = none := fun b hb o e =>
        let z := I4.pin (b, o) (List.mem_append_right _ (List.mem_append_right _ (mem_pinsAt hb e)))
        ⟨z.1, z.2.1⟩
      have st4 : tn (i + 1) s4.heap := T.keep _ _ _ st2 fun b hb o e => (pin' b hb o e).1
      have fr4 : ∀ b ∈ fp, H4 b = none := fun b hb => by
        obtain ⟨o, e, _⟩ := T.obj _ _ st2 b hb
        exact (pin' b hb o e).2
      refine seg_at (seg_yield rfl rfl rfl ⟨b, rfl, ?_, fun s'' hL => ?_⟩)
      · rw [hkn]
        split
        · rename_i hb
          rw [if_pos hb] at q4
          exact ⟨hgs4, H4, I5, st4, fr4, q4⟩
        · rename_i hb
          rw [if_neg hb] at q4
          exact ⟨hgs4, H4, I5, q4⟩
      · rw [hkn] at hL
        exact seg_again rfl (ih (i + 1) s'' s'' (by omega) hlt hL)
theorem gen_begin (hA : X.A = As.deeper X.env) (hc : X.calm = true) (hco : X.env.scope.isCoroutine = false) (hxe : X.xe = fun _ _ => False) (T : Turn X.prog X.w X.K tg J fp it tn) (stat : ∀ {σ' : L2.St} {H' : Hp} {s' : Shared}, Inv X [] σ' H' s' → (∀ b ∈ fp, H' b = none) → ∀ b ∈ fp, FpOk X [] H' b)
    (hg : PG X tg gt) (he : PE X elt te) (hvs : ∀ σ2 : L2.St, wipe σ2 vs = σ0 → σ0.length = σ2.length) (turn : gTurn J σ0 vs n cb gt te W QT QF) (s : Shared) (hL : gL X σ0 fp tn W g 0 s) :
      Seg (model X.prog X.w) As (gR X σ0 g QT) (gY X σ0 fp tn W g n cb QF) n s
        (.compStart (.GeneratorExp elt [⟨tg, iter, [], 0⟩] scope pos) 0 (.ref it) .none X.env)
        ((model X.prog X.w).den (.compStart (.GeneratorExp elt [⟨tg, iter, [], 0⟩] scope pos) 0 (.ref it) .none X.env)) [] s := by
  have loop := gen_loop (iter := iter) (scope := scope) (pos := pos) hA hc hco hxe T stat hg he hvs turn n 0 s s (Nat.sub_zero _) (Nat.zero_le _) hL
  obtain ⟨hgs, H, I, st, fr, w⟩ := hL
  show Seg _ As _ _ _ s _ ((compStart (.GeneratorExp elt [⟨tg, iter, [], 0⟩] scope pos) 0 (.ref it) .none X.env).onRaise (leaving X.env)) [] s
  unfold compStart
  rw [Sem.onRaise_eq_wrap]
  show Seg _ As _ _ _ s _ ((ask >>= _).wrap _ _ _ _) [] s
  refine seg_bind_wrap (wpAny_askSetting ?_)
  split
  · exact seg_again rfl loop
  · first
      | exact seg_bind_wrap (wpAny_rule (seg_bind_wrap (wpAny_standAt (seg_bind_wrap (T.self _ 0 s _ _ st (seg_again rfl loop))))))
      | (refine seg_bind_wrap (wpAny_rule ?_); show Seg _ As _ _ _ s _ ((standAt iter.pos >>= _).wrap _ _ _ _) [] s; exact seg_bind_wrap (wpAny_standAt (seg_bind_wrap (T.self _ 0 s _ _ st (seg_again rfl loop)))))
def gSt (X : Cx) (As : Around) (σ0 : L2.St) (fp : List Addr) (tn : Nat → Heap → Prop) (W : Nat → Hp → Prop) (a g n : Nat) (cb : Bool) (QT QF : Hp → Prop) (i : Nat) (s : Shared) : Prop :=
  gL X σ0 fp tn W g i s ∧ ∃ gs, s.gens[g]? = some gs ∧ ∀ s'', gL X σ0 fp tn W g i s'' → gs.Goes (model X.prog X.w) As (gR X σ0 g QT) (gY X σ0 fp tn W g n cb QF) (n - i) (.send .none) s''
theorem gD_setGen {Q : Hp → Prop} {s : Shared} {x : GenState} (h : gD X σ0 g Q s) (hx : x.bare = true) : gD X σ0 g Q (s.setGen g x) := by
  obtain ⟨h0, H, I, h1⟩ := h
  exact ⟨by rw [setGen_size]; exact h0, H, inv_setGen I hx, h1⟩
theorem gen_item {A : Around} {a : Addr} {E : Value → Shared → Prop} {i : Nat} {s : Shared} (hh : A.handled = none) (hroom : A.depth < recursionLimit) (hs : ∀ {σ' : L2.St} {H' : Hp} {s' : Shared}, Inv X [] σ' H' s' → s'.heap.IsGen a g) (hi : i < n)
    (h : gSt X A.in1 σ0 fp tn W a g n cb QT QF i s) :
    wpAny (model X.prog X.w) A (pyNext (.ref a)) (fun r s' => ∃ b, r = some (.bool b) ∧ if b = cb then gSt X A.in1 σ0 fp tn W a g n cb QT QF (i + 1) s' else gD X σ0 g QF s') E s := by
  obtain ⟨hL, gs, hgs, hgo⟩ := h
  obtain ⟨m, hm⟩ : ∃ m, n - i = m + 1 := ⟨n - i - 1, by omega⟩
  rw [hm] at hgo
  have hIg : s.heap.IsGen a g := let ⟨_, _, I, _⟩ := hL; hs I
  have hlim : s.heap.NoLimit := let ⟨_, _, I, _⟩ := hL; I.nolimit
  refine wpAny_pyNext_genexpQ (P := gP X σ0 g QT) (Y := gY X σ0 fp tn W g n cb QF) hh hlim hroom hIg hgs (hgo _ (gL_setGen hL rfl)) (fun v s1 gs' hb hv => ?_) (fun s1 hp h' hk => absurd hp.1 (Nat.succ_ne_zero m))
  obtain ⟨b, rfl, hq, hkap⟩ := hv
  have e : n - (m + 1 - 1) = i + 1 := by omega
  rw [e] at hq hkap
  refine ⟨b, rfl, ?_⟩
  split
  · rename_i hbc
    rw [if_pos hbc] at hq
    refine ⟨gL_setGen hq hb, gs', setGen_at hq.1, fun s'' hL'' => ?_⟩
    have e2 : n - (i + 1) = m := by omega
    rw [e2]
    exact hkap s'' hL''
  · rename_i hbc
    rw [if_neg hbc] at hq
    exact gD_setGen hq hb
theorem gen_done {A : Around} {a : Addr} {E : Value → Shared → Prop} {s : Shared} (hh : A.handled = none) (hroom : A.depth < recursionLimit) (hs : ∀ {σ' : L2.St} {H' : Hp} {s' : Shared}, Inv X [] σ' H' s' → s'.heap.IsGen a g)
    (h : gSt X A.in1 σ0 fp tn W a g n cb QT QF n s) :
    wpAny (model X.prog X.w) A (pyNext (.ref a)) (fun r s' => r = none ∧ gD X σ0 g QT s') E s := by
  obtain ⟨hL, gs, hgs, hgo⟩ := h
  rw [Nat.sub_self] at hgo
  have hIg : s.heap.IsGen a g := let ⟨_, _, I, _⟩ := hL; hs I
  have hlim : s.heap.NoLimit := let ⟨_, _, I, _⟩ := hL; I.nolimit
  refine wpAny_pyNext_genexpQ (P := gP X σ0 g QT) (Y := gY X σ0 fp tn W g n cb QF) hh hlim hroom hIg hgs (hgo _ (gL_setGen hL rfl)) (fun v s1 gs' hb hv => ?_) (fun s1 hp h' hk => ?_)
  · obtain ⟨_, _, _, hkap⟩ := hv
    refine False.elim (hkap s (by simpa using hL))
  · obtain ⟨_, hd⟩ := hp
    obtain ⟨h0, H, I, q⟩ := gD_setGen (x := .finished) hd rfl
    exact ⟨rfl, h0, H, I.kept (t' := s1.toks) hk, q⟩
end
section
variable {prog : Program} {w : World} {A : Around} {R : Result → Shared → Prop}
theorem codeAny_all_by {a : Addr} {n : Nat} {St : Nat → Shared → Prop} {DT DF : Shared → Prop} (item : ∀ i s E, i < n → St i s → wpAny (model prog w) A.in1 (pyNext (.ref a)) (fun r s' => ∃ b, r = some (.bool b) ∧ if b = true then St (i + 1) s' else DF s') E s)
    (done : ∀ s E, St n s → wpAny (model prog w) A.in1 (pyNext (.ref a)) (fun r s' => r = none ∧ DT s') E s) (hT : ∀ s, DT s → R (.ok (.ret (.bool true))) s) (hF : ∀ s, DF s → R (.ok (.ret (.bool false))) s) :
    ∀ (k i : Nat) (s : Shared), n - i = k → i ≤ n → St i s → codeAny (model prog w) A (.builtin "all.loop" ⟨[.ref a], []⟩) R s := by
  intro k
  induction k with
  | zero =>
    intro i s hk hi hst
    have hin : i = n := by omega
    subst hin
    refine codeAny_builtin F.entry_all_loop ?_
    rw [Around.under_plainId F.plain_all_loop _]
    show wpAny _ A.in1 (pyNext (.ref a) >>= _) _ _ s
    refine wpAny_bind (wpAny_mono (done s _ hst) (fun r s1 ⟨hr, hd⟩ => ?_) fun _ _ e => e)
    subst hr
    exact wpAny_bind (wpAny_rule (wpAny_pure (hT s1 hd)))
  | succ k ih =>
    intro i s hk hi hst
    refine codeAny_builtin F.entry_all_loop ?_
    rw [Around.under_plainId F.plain_all_loop _]
    show wpAny _ A.in1 (pyNext (.ref a) >>= _) _ _ s
    refine wpAny_bind (wpAny_mono (item i s _ (by omega) hst) (fun r s1 ⟨b, hr, hd⟩ => ?_) fun _ _ e => e)
    subst hr
    refine wpAny_bind (wpAny_holding (wpAny_truthy_bool ?_))
    refine wpAny_bind (wpAny_letGo ?_)
    cases b with
    | true =>
      simp only [if_true] at hd ⊢
      exact wpAny_pure ⟨plainId_quiet F.plain_all_loop _, ih (i + 1) s1 (by omega) (by omega) hd⟩
    | false =>
      simp only [Bool.false_eq_true, if_false] at hd ⊢
      exact wpAny_bind (wpAny_rule (wpAny_pure (hF s1 hd)))
end
def tAg (P : Addr) (cb : Bool) (wi : TI) (g : TG) (te : TE) (vs : List Nat) : TE := fun σ H Q => wi σ H fun J H1 => GxR.TabG H1 P ∧ ∀ H2, GxR.Tabbed P H1 H2 →
  ∃ (n : Nat) (W : Nat → Hp → Prop), W 0 H2 ∧ gTurn J (wipe σ vs) vs n cb g te W (fun H => Q (.bl cb) H) (fun H => Q (.bl (!cb)) H)
def GReady (X : Cx) (pins : List (Addr × Obj)) (σ : L2.St) (cb : Bool) (Q : VK) (a : Addr) (s5 : Shared) : Prop :=
  ∃ (g n : Nat) (St : Nat → Shared → Prop) (DT DF : Shared → Prop), s5.heap.IsGen a g ∧ St 0 s5 ∧
    (∀ i s E, i < n → St i s → wpAny (model X.prog X.w) X.A.in1 (pyNext (.ref a)) (fun r s' => ∃ b, r = some (.bool b) ∧ if b = cb then St (i + 1) s' else DF s') E s) ∧
    (∀ s E, St n s → wpAny (model X.prog X.w) X.A.in1 (pyNext (.ref a)) (fun r s' => r = none ∧ DT s') E s) ∧
    (∀ s', DT s' → ∃ H', Inv X pins σ H' s' ∧ Q (.bl cb) H') ∧ (∀ s', DF s' → ∃ H', Inv X pins σ H' s' ∧ Q (.bl (!cb)) H')
theorem room_gen {k : Nat} {A : Around} (r : Room (k + 1) A) (env : PySem.Env) : Room k (A.in1.in1.deeper env) :=
  ⟨r.hd, by have := r.dp; show A.depth + 1 + 3 * k + 5 < _; omega, by have := r.un; show A.units + 1 + 1 + 3 + 16 * k + 200 < _; omega⟩
section
variable {X : Cx} {pins : List (Addr × Obj)} {σ : L2.St} {H : Hp} {s : Shared}
theorem gen_made {c P : Addr} {elt tg iter : Expr} {gpos : Pos} {scope : Scope} {own : List (Str × Nat)} {wi : TI} {gt : TG} {te : TE} {k : Nat} {cb : Bool} {Q : VK} {Q' : Value → Shared → Prop}
    (hr : Room (k + 1) X.A) (TB : GxR.TabB X.base X.mg c P) (hcode : X.env.code = .ref c) (hN : X.N.Nodup) (ok : GenOk X.N X.env.scope scope own) (hi : PI X tg iter wi)
    (hg : ∀ (A : Around) (s : Shared) (H : Hp) (C : Addr) (code : Value) (fp : List Addr) (pn : List (Addr × Obj)), PG (gX X A s H (genEnv scope (cloFrom X.env.cells scope.names []) C code builtinsNs X.env) fp pn) tg gt)
    (he : ∀ (A : Around) (s : Shared) (H : Hp) (C : Addr) (code : Value) (fp : List Addr) (pn : List (Addr × Obj)), Room k A → PE (gX X A s H (genEnv scope (cloFrom X.env.cells scope.names []) C code builtinsNs X.env) fp pn) elt te)
    (hs : ∀ v, genFold iter X.env v = pure v) (I : Inv X pins σ H s) (h : tAg P cb wi gt te (own.map (·.2)) σ H Q)
    (hQ : ∀ a s5, GReady X pins σ cb Q a s5 → Q' (.ref a) s5) :
    wpAny (model X.prog X.w) X.A (eval (.GeneratorExp elt [⟨tg, iter, [], 0⟩] scope gpos) X.env) Q' X.xe s := by
  have hfree : ∀ y ∈ scope.names, y.2 = .free → ∃ c, X.env.cells.lookup y.1 = some c := fun y hy e => by
    rcases ok.b.free y hy e with k | k
    · exact I.ok.has _ (.inl k)
    · exact I.ok.has _ (.inr k)
  refine wpAny_GeneratorExp_make ok.co (closure_ok hfree) ok.cell ok.dot ok.b.kind (by have := hr.dp; omega) ?_ hs
  refine thn (hi.run pins s σ H _ I h) fun xv s1 hx => thn hx fun itv s2 h2 => ?_
  obtain ⟨it, fp, tn, J, H2, e, I2, T, st2, f2, ⟨ps, hP, ht⟩, q⟩ := h2
  subst e
  refine ⟨I2.nolimit, ?_⟩
  have hPs : s2.heap.get? P = some { cls := .none, data := .fields ps } := I2.hok P _ hP
  have cd : PySem.W.CodeHd s2.heap c P := TB.code.keeps fun b u e => I2.bk b u e
  have nfpP : ∀ b ∈ fp, b ≠ P := fun b hb z => by
    have := (f2 b hb).1
    rw [z, hP] at this; cases this
  have sz : ∀ b ∈ fp, b < s2.heap.objs.size := fun b hb => by
    obtain ⟨o, e, _⟩ := T.obj _ _ st2 b hb
    exact Heap.lt_size e
  have cont : ∀ (code : Value) (h3 : Heap) (tk : Nat) (more : Array Value), Heap.ExtBut P s2.heap h3 → s2.heap.objs.size ≤ h3.objs.size → h3.get? P = some { cls := .none, data := .fields (ps ++ more) } → TriplesOk (ps ++ more).toList →
      wpAny (model X.prog X.w) X.A (builtinsFor X.env.globals X.env.builtins) (fun bi s₄ =>
        ∀ h', h'.Ns s₄.heap.objs.size (fun y => if y = ".0" then some (.ref it) else none) → Heap.SameBut s₄.heap.objs.size (s₄.heap.push { cls := .type "frame", data := .dict #[] }) h' →
          Q' (.ref h'.objs.size) { s₄ with
            gens := s₄.gens.push (.fresh (.compStart (.GeneratorExp elt [⟨tg, iter, [], 0⟩] scope gpos) 0 (.ref it) .none (genEnv scope (cloFrom X.env.cells scope.names []) s₄.heap.objs.size code bi X.env))),
            toks := s₄.toks + 1 + 1 + 1,
            heap := h'.push { cls := .type "generator", data := .fields #[.int s₄.gens.size 0, .str "<genexpr>" (s₄.toks + 1), .str (X.env.qual ++ "<genexpr>") (s₄.toks + 1 + 1)] } }) X.xe { s2 with heap := h3, toks := tk } := by
    intro code h3 tk more hx hsz hP3 ht3
    have I3 : Inv X pins σ (upd H2 P (.tbl (ps ++ more))) { s2 with heap := h3, toks := tk } := GxR.inv_tab (g' := s2.gens) (d' := s2.drawn) I2 hP (fun b u hb e => hx b u hb e) hP3 I2.bare
    obtain ⟨bm, ob, e1, e2, e3, e4, e5, e6, e7, e8⟩ := TB.bm
    refine wpAny_builtinsFor (m := X.mg) (by rw [I3.ok.glob]; exact I3.mod.glob.keeps I3.bk) e1 e2 (I3.bk _ _ e5) e6 e7 e8 ?_
    generalize hs3 : ({ s2 with heap := h3, toks := tk } : Shared) = s3 at I3 ⊢
    have h3e : s3.heap = h3 := by rw [← hs3]
    intro h' hn' hsb
    generalize hH3 : upd H2 P (.tbl (ps ++ more)) = H3 at I3
    have hT : GxR.Tabbed P H2 H3 := by
      rw [← hH3]
      exact ⟨⟨_, upd_same, ht3⟩, fun b hb => upd_ne hb⟩
    obtain ⟨n, W, w0, turn⟩ := q H3 hT
    have hsz' : h'.objs.size = s3.heap.objs.size + 1 := by rw [hsb.1, Heap.size_push]
    have keep' : ∀ b o, s3.heap.get? b = some o → h'.get? b = some o := fun b o e => hsb.extBut b o (Nat.ne_of_lt (Heap.lt_size e)) (Heap.get?_push_of_some _ e)
    generalize hgo : ({ cls := .type "generator", data := .fields #[.int s3.gens.size 0, .str "<genexpr>" (s3.toks + 1), .str (X.env.qual ++ "<genexpr>") (s3.toks + 1 + 1)] } : Obj) = go
    have keep5 : ∀ b o, s3.heap.get? b = some o → (h'.push go).get? b = some o := fun b o e => Heap.get?_push_of_some _ (keep' b o e)
    generalize hce : genEnv scope (cloFrom X.env.cells scope.names []) s3.heap.objs.size code builtinsNs X.env = ce
    generalize hs5 : ({ s3 with
            gens := s3.gens.push (.fresh (.compStart (.GeneratorExp elt [⟨tg, iter, [], 0⟩] scope gpos) 0 (.ref it) .none ce)),
            toks := s3.toks + 1 + 1 + 1,
            heap := h'.push go } : Shared) = s5
    have h5 : s5.heap = h'.push go := by rw [← hs5]
    have g5 : s5.gens = s3.gens.push (.fresh (.compStart (.GeneratorExp elt [⟨tg, iter, [], 0⟩] scope gpos) 0 (.ref it) .none ce)) := by rw [← hs5]
    have goAt : (h'.push go).get? h'.objs.size = some go := by rw [← hgo]; exact Heap.get?_push_size _ rfl
    have st3 : tn 0 s3.heap := T.keep _ _ _ st2 fun b hb o e => by rw [h3e]; exact hx b o (nfpP b hb) e
    have f3 : ∀ b ∈ fp, FpOk X pins H3 b ∧ b < s3.heap.objs.size := fun b hb => by
      refine ⟨⟨?_, (f2 b hb).2⟩, by rw [h3e]; exact Nat.lt_of_lt_of_le (sz b hb) hsz⟩
      rw [← hH3, upd_ne (nfpP b hb)]
      exact (f2 b hb).1
    have hfr : (X.A.in1.in1.deeper ce).frames = some (ce :: X.stack) := Around.frames_deeper I.ok.frames
    have I5 : Inv (gX X (X.A.in1.in1.deeper ce) s3 H3 ce fp [(h'.objs.size, go)]) [] (wipe σ (own.map (·.2))) H3 s5 := by
      rw [← hce]
      refine gen_start (m := fun y => if y = ".0" then some (.ref it) else none) I3 ok hN f3 (by rw [hce]; exact hfr) hr.hd (fun b o e => by rw [h5]; exact keep5 b o e) ?_ (by rw [← hs5]) ?_ fun p hp => ?_
      · rw [h5]
        exact hn'.push _
      · rw [g5]
        exact AllBare.push I3.bare rfl
      · rw [List.mem_singleton.mp hp]
        refine ⟨by rw [h5]; exact goAt, by rw [hsz']; exact Nat.lt_succ_self _, fun v z => ?_⟩
        rw [← hgo] at z
        cases z
    have hgen : ∀ {σ' : L2.St} {H' : Hp} {s' : Shared}, Inv (gX X (X.A.in1.in1.deeper ce) s3 H3 ce fp [(h'.objs.size, go)]) [] σ' H' s' → s'.heap.IsGen h'.objs.size s3.gens.size := fun {σ' H' s'} I' => by
      have e := (I'.pin (h'.objs.size, go) (List.mem_append_left _ (List.mem_singleton.mpr rfl))).1
      subst hgo
      exact ⟨_, _, _, e, rfl, rfl, rfl⟩
    have stat : ∀ {σ' : L2.St} {H' : Hp} {s' : Shared}, Inv (gX X (X.A.in1.in1.deeper ce) s3 H3 ce fp [(h'.objs.size, go)]) [] σ' H' s' → (∀ b ∈ fp, H' b = none) → ∀ b ∈ fp, FpOk (gX X (X.A.in1.in1.deeper ce) s3 H3 ce fp [(h'.objs.size, go)]) [] H' b := fun {σ' H' s'} I' hn b hb =>
      ⟨hn b hb, (I'.ok.exf b hb).1, I'.ok.exfs b hb, .inl hb, fun x c e => (I'.ok.exf b hb).2 x c e, fun p hp => by
        have hp : p ∈ [(h'.objs.size, go)] := by
          rcases List.mem_append.mp hp with z | z
          · exact z
          · cases z
        rw [List.mem_singleton.mp hp]
        have h7 : b < s3.heap.objs.size := (f3 b hb).2
        show h'.objs.size ≠ b
        rw [hsz']
        exact Nat.ne_of_gt (Nat.lt_succ_of_lt h7)⟩
    have hL5 : gL (gX X (X.A.in1.in1.deeper ce) s3 H3 ce fp [(h'.objs.size, go)]) (wipe σ (own.map (·.2))) fp tn W s3.gens.size 0 s5 :=
      ⟨by rw [g5, Array.size_push]; exact Nat.lt_succ_self _, H3, I5, T.keep _ _ _ st3 fun b _ o e => by rw [h5]; exact keep5 b o e, fun b hb => (f3 b hb).1.1, w0⟩
    have hwl : ∀ σ2 : L2.St, wipe σ2 (own.map (·.2)) = wipe σ (own.map (·.2)) → (wipe σ (own.map (·.2))).length = σ2.length := fun σ2 e => by rw [← e, wipe_length]
    have back : ∀ {Q0 : Hp → Prop} {s' : Shared}, gD (gX X (X.A.in1.in1.deeper ce) s3 H3 ce fp [(h'.objs.size, go)]) (wipe σ (own.map (·.2))) s3.gens.size Q0 s' → ∃ H', Inv X pins σ H' s' ∧ Q0 H' := fun {Q0 s'} ⟨_, H', I', q'⟩ =>
      ⟨H', I3.call' (ch := fp) I'.os I'.base I'.hok I'.bare fun b hb => ⟨(f3 b hb).1.2.2.2.1, (f3 b hb).1.2.1, (f3 b hb).1.2.2.2.2.1, (f3 b hb).1.2.2.2.2.2⟩, q'⟩
    have hco : ce.scope.isCoroutine = false := by rw [← hce]; exact ok.co
    have pg := hg (X.A.in1.in1.deeper ce) s3 H3 s3.heap.objs.size code fp [(h'.objs.size, go)]
    have pe := he (X.A.in1.in1.deeper ce) s3 H3 s3.heap.objs.size code fp [(h'.objs.size, go)] (room_gen hr ce)
    rw [hce] at pg pe
    have hst0 : gSt (gX X (X.A.in1.in1.deeper ce) s3 H3 ce fp [(h'.objs.size, go)]) X.A.in1.in1 (wipe σ (own.map (·.2))) fp tn W h'.objs.size s3.gens.size n cb (fun H => Q (.bl cb) H) (fun H => Q (.bl (!cb)) H) 0 s5 := by
      refine ⟨hL5, GenState.fresh (.compStart (.GeneratorExp elt [⟨tg, iter, [], 0⟩] scope gpos) 0 (.ref it) .none ce), by rw [g5]; exact Array.getElem?_push_size .., fun s'' hL'' => ?_⟩
      show _ = _ ∧ Seg _ _ _ _ _ _ _ _ _ _
      refine ⟨rfl, ?_⟩
      exact gen_begin (X := gX X (X.A.in1.in1.deeper ce) s3 H3 ce fp [(h'.objs.size, go)]) (As := X.A.in1.in1) rfl rfl hco rfl T stat pg pe hwl turn s'' hL''
    have hd1 : X.A.in1.depth < recursionLimit := by have := hr.dp; show X.A.depth < _; omega
    refine hQ h'.objs.size s5 ⟨s3.gens.size, n, _, _, _, hgen I5, hst0, ?_, ?_, fun s' hd => back hd, fun s' hd => back hd⟩
    · exact fun i s E hi hst => gen_item (X := gX X (X.A.in1.in1.deeper ce) s3 H3 ce fp [(h'.objs.size, go)]) (A := X.A.in1) hr.hd hd1 hgen hi hst
    · exact fun s E hst => gen_done (X := gX X (X.A.in1.in1.deeper ce) s3 H3 ce fp [(h'.objs.size, go)]) (A := X.A.in1) hr.hd hd1 hgen hst
  cases hf : codeAmong gpos ps.toList with
  | none =>
    refine wpAny_genexprCodeX hcode (cd.code hPs ht) (cd.tab hPs) hf fun c' h' tk hx hge hlt hco' _ htab' _ => ?_
    obtain ⟨o1, vs, f1, tf, fl, tg, inF, tx, tt, op, _, _, _, _, _, _, _, _, _, htr, _⟩ := hco'
    exact cont _ h' tk _ hx (Nat.le_trans hge (Nat.le_of_lt hlt)) htab'.2 htr
  | some cv =>
    refine wpAny_genexprCode_hit hcode (cd.code hPs ht) hf ?_
    exact cont cv s2.heap s2.toks #[] (Heap.ExtBut.refl _ _) (Nat.le_refl _) (by simpa using hPs) (by simpa using ht)
theorem pe_all {c P : Addr} {elt tg iter : Expr} {gpos p pos : Pos} {scope : Scope} {own : List (Str × Nat)} {wi : TI} {gt : TG} {te : TE} {k : Nat}
    (hr : Room (k + 1) X.A) (hgl : Gl X "all") (hm : X.mg "all" = none) (hb : bootBuiltins "all" = some (.builtin "all")) (TB : GxR.TabB X.base X.mg c P) (hcode : X.env.code = .ref c) (hN : X.N.Nodup) (ok : GenOk X.N X.env.scope scope own) (hi : PI X tg iter wi)
    (hg : ∀ (A : Around) (s : Shared) (H : Hp) (C : Addr) (code : Value) (fp : List Addr) (pn : List (Addr × Obj)), PG (gX X A s H (genEnv scope (cloFrom X.env.cells scope.names []) C code builtinsNs X.env) fp pn) tg gt)
    (he : ∀ (A : Around) (s : Shared) (H : Hp) (C : Addr) (code : Value) (fp : List Addr) (pn : List (Addr × Obj)), Room k A → PE (gX X A s H (genEnv scope (cloFrom X.env.cells scope.names []) C code builtinsNs X.env) fp pn) elt te)
    (hs : ∀ v, genFold iter X.env v = pure v := by intro _; rfl)
    (hst : starEach [.GeneratorExp elt [⟨tg, iter, [], 0⟩] scope gpos] X.env = (false, eval (.GeneratorExp elt [⟨tg, iter, [], 0⟩] scope gpos) X.env) :: starEach [] X.env := by rfl) :
    PE X (.Call (.Name "all" p) [.GeneratorExp elt [⟨tg, iter, [], 0⟩] scope gpos] [] pos) (tAg P true wi gt te (own.map (·.2))) := by
  refine ⟨fun pins s σ H Q I h => ?_⟩
  refine wpAny_Call_Name_kw (ld_blt I hgl hm hb ?_)
  refine PyProof.Rows.callWith_builtin1 ?_ hst (by rfl)
  rw [hst]
  show wpAny _ _ (spliced ((false, eval (.GeneratorExp elt [⟨tg, iter, [], 0⟩] scope gpos) X.env) :: backTo pos (starEach [] X.env))) _ _ s
  refine Calls.spliced_cons (gen_made hr TB hcode hN ok hi hg he hs I h fun a s5 hG => ?_)
  obtain ⟨g, n, St, DT, DF, hgen, st0, item, done, hT, hF⟩ := hG
  refine Calls.spliced_nil ?_
  refine call_function_tree F.kind_all F.plain_all F.entry_all (F.args_all1 _) ?_
  unfold Builtin.«all»
  refine wpAny_bind (m := oneArg "all" _) (wpAny_pure ?_)
  refine wpAny_bind (wpAny_pyIter_gen hgen ?_)
  refine wpAny_pure ⟨plainId_quiet F.plain_all_loop _, codeAny_all_by item done (fun s' hd => ?_) (fun s' hd => ?_) n 0 s5 rfl (Nat.zero_le _) st0⟩
  · obtain ⟨H', I', q'⟩ := hT s' hd
    exact ⟨.bl true, H', I', rfl, q'⟩
  · obtain ⟨H', I', q'⟩ := hF s' hd
    exact ⟨.bl false, H', I', rfl, q'⟩
end
end TL

set_option Elab.async false
set_option linter.all false
set_option maxRecDepth 100000
namespace TL
open PySem PySem.Spec PyProof.Rows L2
abbrev Row := List (Option Int)
abbrev WE := Env → Row → Option (D × Row)
abbrev WT := Env → Row → Option (Bool × Row)
abbrev WA := Env → Row → Option (List D × Row)
inductive WOut where
  | nx (e : Env) (c : Row) | rt (d : D) (c : Row) | bk (e : Env) (c : Row) | ct (e : Env) (c : Row)
abbrev WS := Env → Row → Option WOut
def ofO : Option Int → D
  | none => .none
  | some i => .int i
def toO : D → Option (Option Int)
  | .none => some none
  | .int i => some (some i)
  | _ => none
def toRow : List D → Option Row
  | [] => some []
  | d :: ds => (toO d).bind fun o => (toRow ds).map (o :: ·)
@[simp] def wl (f : SE) : WE := fun env c => (f env).map fun d => (d, c)
@[simp] def wlT (f : ST) : WT := fun env c => (f env).map fun d => (d, c)
@[simp] def toW (c : Row) : Out → WOut
  | .nx e => .nx e c
  | .rt d => .rt d c
  | .bk e => .bk e c
  | .ct e => .ct e c
@[simp] def wlS (f : SS) : WS := fun env c => (f env).map (toW c)
@[simp] def w1 (op : D → Option D) (a : WE) : WE := fun env c => (a env c).bind fun x => (op x.1).map fun d => (d, x.2)
@[simp] def w2 (op : D → D → Option D) (a b : WE) : WE := fun env c => (a env c).bind fun x => (b env x.2).bind fun y => (op x.1 y.1).map fun d => (d, y.2)
@[simp] def wNot (a : WE) : WE := fun env c => (a env c).bind fun x => (toB x.1).map fun k => (.bool (!k), x.2)
@[simp] def wArgs : List WE → WA
  | [] => fun _ c => some ([], c)
  | a :: l => fun env c => (a env c).bind fun x => (wArgs l env x.2).map fun y => (x.1 :: y.1, y.2)
@[simp] def wTup (l : List WE) : WE := fun env c => (wArgs l env c).bind fun x => if x.1.length ≤ sizeLine then some (.tuple x.1, x.2) else none
@[simp] def wCall (m : List D → Row → Option (D × Row)) (l : List SE) : WE := fun env c => (eArgs l env).bind fun x => m x c
@[simp] def wRow (a : SE) : WE := fun env c => (a env).bind fun x => (toI x).bind fun k => (L2.atI c k).map fun o => (ofO o, c)
def wAgGo (cb : Bool) (g : SG) (f : WE) (env : Env) : List D → Row → Option (D × Row)
  | [], c => some (.bool cb, c)
  | d :: ds, c => (g d env).bind fun e1 => (f e1 c).bind fun x => (toB x.1).bind fun b => if b = cb then wAgGo cb g f env ds x.2 else some (.bool (!cb), x.2)
@[simp] def wAg (cb : Bool) (vs : List Nat) (fi : SI) (g : SG) (f : WE) : WE := fun env c => (fi env).bind fun ds => wAgGo cb g f (wipeE env vs) ds c
@[simp] def wSeq (a b : WS) : WS := fun env c => (a env c).bind fun o => match o with
  | .nx e c => b e c
  | .rt d c => some (.rt d c)
  | .bk e c => some (.bk e c)
  | .ct e c => some (.ct e c)
@[simp] def wNext : WS := fun env c => some (.nx env c)
@[simp] def wRet (a : WE) : WS := fun env c => (a env c).map fun x => .rt x.1 x.2
@[simp] def wIfS (k : ST) (a b : WS) : WS := fun env c => (k env).bind fun x => if x = true then a env c else b env c
@[simp] def wAsg (a : WE) (g : SG) : WS := fun env c => (a env c).bind fun x => (g x.1 env).map fun e => .nx e x.2
@[simp] def wAug (op : D → D → Option D) (i : Nat) (a : WE) : WS := fun env c => (env.getD i none).bind fun d => (a env c).bind fun x => (op d x.1).map fun z => .nx (env.set i (some z)) x.2
@[simp] def wStore (k a : SE) : WS := fun env c => (a env).bind fun x => (toO x).bind fun o => (k env).bind fun y => (toI y).bind fun z => (L2.ixN c.length z).map fun j => .nx env (c.set j o)
def wForGo (g : SG) (body : WS) : List D → Env → Row → Option WOut
  | [], env, c => some (.nx env c)
  | x :: xs, env, c => (g x env).bind fun env1 => (body env1 c).bind fun o => match o with
    | .nx e c => wForGo g body xs e c
    | .ct e c => wForGo g body xs e c
    | .bk e c => some (.nx e c)
    | .rt d c => some (.rt d c)
@[simp] def wFor (it : SI) (g : SG) (body : WS) : WS := fun env c => (it env).bind fun x => wForGo g body x env c
@[simp] def outW : WOut → Option (D × Row)
  | .rt d c => some (d, c)
  | .nx _ c => some (.none, c)
  | _ => none
def vO : Option Int → V
  | none => .non
  | some i => .int i
structure WOk (G : Gx) (i0 : Nat) (O : List Nat) (r : Nat) (c : Row) (F H : Hp) (σ : L2.St) (env : Env) : Prop where
  s : SOk G O F (hid r H) σ env
  fr : F r = none
  hr : H r = some (.lst (c.map vO))
  rw : σ[i0]? = some (some (.ref r))
structure WGr (r : Nat) (c : Row) (F H F' H' : Hp) : Prop where
  g : Gr F (hid r H) F' (hid r H')
  fr : F' r = none
  hr : H' r = some (.lst (c.map vO))
section
variable {G : Gx} {i0 : Nat} {O O' : List Nat} {r : Nat} {c c' c2 : Row} {F H F' H' F2 H2 : Hp} {σ : L2.St} {env : Env}
theorem WOk.sok (q : WOk G i0 O r c F H σ env) : SOk G O F H σ env := ⟨q.s.fh.trans hid_le, q.s.len, q.s.imm, fun i hi => by
  obtain ⟨p, kk, vs, ds, h1, h2, h3, h4, h5, hK⟩ := q.s.own i hi
  exact ⟨p, kk, vs, ds, h1, h2, h3, hid_le _ _ h4, h5, hK⟩, q.s.dj, q.s.tb.unhid⟩
theorem WOk.gr (q : WOk G i0 O r c F H σ env) (g : WGr r c' F H F' H') : WOk G i0 O r c' F' H' σ env := ⟨q.s.gr g.g, g.fr, g.hr, q.rw⟩
theorem WGr.of (g : Gr F H F' H') (hf : F r = none) (hr : H r = some (.lst (c.map vO))) : WGr r c F H F' H' := by
  have fr : F' r = none := g.hid r _ hr hf
  refine ⟨⟨g.ff, g.hh.hid_, fun b o e => ?_, fun p o e n => ?_⟩, fr, g.hh.l hr⟩
  · have n : b ≠ r := fun z => by rw [z, fr] at e; cases e
    rw [hid_ne n]
    exact g.fh b o e
  · obtain ⟨_, e⟩ := hid_some e
    exact g.hid p o e n
theorem WGr.trans (a : WGr r c F H F' H') (b : WGr r c2 F' H' F2 H2) : WGr r c2 F H F2 H2 := ⟨a.g.trans b.g, b.fr, b.hr⟩
theorem WGr.fh (a : WGr r c F H F' H') : Same F' H' := a.g.fh.trans hid_le
theorem WGr.ff (a : WGr r c F H F' H') : Same F F' := a.g.ff
theorem WOk.of (q : WOk G i0 O r c F H σ env) (g : Gr F H F' H') : WGr r c F H F' H' := .of g q.fr q.hr
theorem WOk.refl (q : WOk G i0 O r c F H σ env) : WGr r c F H F H := q.of (Gr.refl q.sok.fh)
theorem WOk.ne (ok : WOk G i0 O r c F H σ env) : ∀ i ∈ O, ∀ p, σ[i]? = some (some (.ref p)) → p ≠ r := fun i hi p hp => by
  obtain ⟨p', kk, vs, ds, h1, h2, h3, h4, h5, hK⟩ := ok.s.own i hi
  rw [hp] at h1
  cases h1
  exact (hid_some h4).1
theorem WGr.up {g : Row} (h : WGr r c F H F' H') {vs : List V} (e : vs = g.map vO) : WGr r g F H F' (upd H' r (.lst vs)) := by
  have eH : hid r (upd H' r (.lst vs)) = hid r H' := by
    funext b
    by_cases hb : b = r
    · subst hb; rw [hid_r, hid_r]
    · rw [hid_ne hb, hid_ne hb, upd_ne hb]
  exact ⟨by rw [eH]; exact h.g, h.fr, by rw [upd_same, e]⟩
end
section
variable {X : Cx} {i0 : Nat} {O : List Nat} {a b e k : Expr} {es rest : List Expr} {fa fb : WE} {l : List WE} {pos p2 : Pos} {g : D → D → Option D}
end
section
variable {X : Cx} {i0 : Nat} {O : List Nat} {e : Expr} {es : List Expr} {l : List SE} {p pos : Pos} {x : Str} {k n : Nat} {fa : Addr} {fd : FuncData} {ps : List Str} {a : SE}
theorem eArgs_len {env : Env} : ∀ (l : List SE) (ds : List D), eArgs l env = some ds → ds.length = l.length
  | [], ds, h => by cases h; rfl
  | a :: l, ds, h => by
    simp only [eArgs] at h
    obtain ⟨x, _, h⟩ := bind_some h
    obtain ⟨xs, h2, h⟩ := map_some h
    subst h
    exact congrArg (· + 1) (eArgs_len l xs h2)
@[simp] def eRow (m : List D → Row → Option (D × Row)) (l : List SE) (a : SE) : SE := fun env => (eArgs l env).bind fun ds => (a env).bind fun x => match x with
  | .list rs => (toRow rs).bind fun c => (m ds c).map (·.1)
  | _ => none
end
end TL

set_option Elab.async false
set_option linter.all false
set_option maxRecDepth 100000
namespace TL
open PySem PySem.Spec PyProof.Rows L2
theorem wipe_idem (vs : List Nat) (τ : L2.St) : L2.wipe (L2.wipe τ vs) vs = L2.wipe τ vs := ext_wipe (sl := vs) (wipe_length _ _) (fun j hj => wipe_out hj) fun j h => h
section
variable {X : Cx} {i0 : Nat} {O : List Nat}
end
def wPost (G : Gx) (i0 : Nat) (O' Ob : List Nat) (F0 H0 : Hp) (r : Nat) (F : Hp) (D : Ends) : WOut → Prop
  | .nx e c => ∀ σ' F' H', WOk G i0 O' r c F' H' σ' e → Fr F0 (hid r H0) O' F' (hid r H') σ' → Same F F' → D.nx σ' H'
  | .bk e c => ∀ σ' F' H', WOk G i0 Ob r c F' H' σ' e → Fr F0 (hid r H0) Ob F' (hid r H') σ' → Same F F' → D.bk σ' H'
  | .ct e c => ∀ σ' F' H', WOk G i0 Ob r c F' H' σ' e → Fr F0 (hid r H0) Ob F' (hid r H') σ' → Same F F' → D.ct σ' H'
  | .rt d c => ∀ v F' H', WGr r c F0 H0 F' H' → Rp G F' v d → D.rt v H'
theorem wPost.ff {G : Gx} {i0 : Nat} {O' Ob : List Nat} {F0 H0 F F1 : Hp} {r : Nat} {D : Ends} {out : WOut} (q : wPost G i0 O' Ob F0 H0 r F D out) (k : Same F F1) : wPost G i0 O' Ob F0 H0 r F1 D out := by
  cases out with
  | nx e => exact fun σ' F' H' s' f' k' => q σ' F' H' s' f' (k.trans k')
  | bk e => exact fun σ' F' H' s' f' k' => q σ' F' H' s' f' (k.trans k')
  | ct e => exact fun σ' F' H' s' f' k' => q σ' F' H' s' f' (k.trans k')
  | rt d => exact q
section
variable {X : Cx} {i0 : Nat} {O O' O'' Ob : List Nat} {st : Stmt} {rest : List Stmt} {pos : Pos}
end
structure FunC (K : PySem.W.Frag) (x qual : Str) (st : Stmt) (f : Addr) (fd : FuncData) (cc : Addr) : Prop where
  ex : ∃ (oc : Value) (od : Option Addr) (kV doc pm : Value) (an : Option Addr) (ct : Value) (osl : Array (Option Value)),
    fd = PySem.W.fnOf x qual (defArgs st) (defBody st) (defScope st) .none kV doc pm an (.ref cc) ct ∧ K.lookup f = some ⟨oc, od, .func fd, osl⟩ ∧ PySem.W.codeIn K (.ref cc) qual = true
  kp : PySem.W.keepIn K (.ref f) = true
theorem FunC.f {K : PySem.W.Frag} {x qual : Str} {st : Stmt} {f : Addr} {fd : FuncData} {cc : Addr} (F : FunC K x qual st f fd cc) : Fun K x qual st f fd :=
  ⟨let ⟨oc, od, kV, doc, pm, an, ct, osl, h⟩ := F.ex; ⟨oc, od, kV, doc, pm, an, .ref cc, ct, osl, h⟩, F.kp⟩
theorem funC_mk {K : PySem.W.Frag} {x qual : Str} {st : Stmt} {f cc : Addr} {oc : Value} {od an : Option Addr} {osl : Array (Option Value)} {kV doc pm ct : Value} (l : K.lookup f = some ⟨oc, od, .func (PySem.W.fnOf x qual (defArgs st) (defBody st) (defScope st) .none kV doc pm an (.ref cc) ct), osl⟩)
    (c : PySem.W.codeIn K (.ref cc) qual = true) (k : PySem.W.keepIn K (.ref f) = true) : FunC K x qual st f (PySem.W.fnOf x qual (defArgs st) (defBody st) (defScope st) .none kV doc pm an (.ref cc) ct) cc := ⟨⟨oc, od, kV, doc, pm, an, ct, osl, rfl, l, c⟩, k⟩
section
variable {P : Program} {w : World} {G : Gx} {base : Heap}
end
end TL

set_option Elab.async false
set_option linter.all false
set_option maxRecDepth 100000
namespace TL
open PySem PySem.Spec PyProof.Rows L2
section
variable {X : Cx} {O : List Nat} {a b : Expr} {fa fb : SE} {pos : Pos}
end
theorem genOk_by {N : List Str} {sc scope : Scope} {own : List (Str × Nat)} (h : blkC N sc scope own = true) (h1 : scope.isCoroutine = false) (h2 : (scope.names.all fun y => match y.2 with | .cell => false | _ => true) = true)
    (h3 : (match scope.names.lookup (".0" : Str) with | some .local => true | _ => false) = true) : GenOk N sc scope own := by
  refine ⟨blkOk_by h, h1, fun y hy e => ?_, ?_⟩
  · have q := List.all_eq_true.mp h2 y hy
    rw [e] at q
    cases q
  · split at h3
    · assumption
    · cases h3
def noT (H : Hp) : Hp := fun p => match H p with
  | some (.tbl _) => none
  | o => o
theorem noT_le {H : Hp} : Same (noT H) H := fun b o e => by
  unfold noT at e
  split at e
  · cases e
  · exact e
theorem noT_seq {K : PySem.W.Frag} {H : Hp} {a : Addr} {xs : List V} (h : SqL K H a xs) : SqL K (noT H) a xs := by
  rcases h with (h | ⟨o, h⟩) | h
  · exact .inl (.inl (by unfold noT; rw [h]))
  · exact .inl (.inr ⟨o, by unfold noT; rw [h]⟩)
  · exact .inr h
theorem noT_tbl {H : Hp} {P : Addr} {ps : Array Value} (h : H P = some (.tbl ps)) : noT H P = none := by unfold noT; rw [h]
theorem tabIn_of {K : PySem.W.Frag} {x : Str} {f c P : Addr} {oc e : Value} {od dd : Option Addr} {fd : FuncData} {sl sl2 : Array (Option Value)} {vs : Array Value} (a : PySem.W.nsIn K mainGlobals x = some (some (.ref f))) (l : K.lookup f = some ⟨oc, od, .func fd, sl⟩) (hc : fd.code = .ref c)
    (z : K.lookup c = some ⟨e, dd, .fields vs, sl2⟩) (h11 : (vs[11]? : Option Value) = some (.ref P)) : PySem.W.tabIn K x = some (c, P) := by
  unfold PySem.W.tabIn
  simp only [a, l, hc, z, h11]
theorem tabIn_none {K : PySem.W.Frag} {x : Str} (a : PySem.W.nsIn K mainGlobals x = some none) : PySem.W.tabIn K x = none := by
  unfold PySem.W.tabIn
  simp only [a]
def TabsAtH (K : PySem.W.Frag) (names : List Str) (h : Heap) : Prop := ∀ y ∈ names, ∀ c P, PySem.W.tabIn K y = some (c, P) → PySem.W.CodeHd h c P ∧ h.get? P = some { cls := .none, data := .fields #[] }
theorem walk_tabs {l : PySem.W.OpenLaw} {n k : Nat} {q : Program} {loose : List Str} {XP : (Str → Option Value) → Heap → Prop} {YP : World → Heap → Prop} {d : DefRec} {K : Params → PySem.W.Frag} {CX : World → CXT} {x : Str} (names : List Str)
    (hn : l.most = some n) (hn2 : n ≤ sizeLine) (hdf : d.params.defaults = []) (hr : Room k callerA) (hrec : (names.all fun y => ((recsOf q).find? (fun e => e.name == y)).isSome) = true) (hY : ∀ (w : World) (h : Heap), YP w h → (K w.params).In h)
    (F : ∀ (w : World) (mg : Str → Option Value) (fa : Addr) (h : Heap), (K w.params).In h → h.Ns mainGlobals mg → mg d.name = some (.ref fa) → TabsAtH (K w.params) names h → LamX.LawAtS l w (K w.params) (CX w) k n x mg fa h)
    (hCX : ∀ (w : World) (H : Hp) (s : Shared) (e : Value) (s' : Shared), CX w [] H s (fun _ _ _ => False) e s' → False) :
    PySem.W.WalkO q loose XP YP l.row.toRowW d [] (fun f vs => PySem.call f vs) := by
  refine Att.attach_callB hn hdf fun w s₀ s₁ mg mb fa o pm cd doc a vs ns G Y ho hd hcd hmg hobj hints hlen hbits hg => ?_
  have KX := hY w _ Y
  have hT : TabsAtH (K w.params) names s₁.heap := fun y hy c P e => by
    have h1 := List.all_eq_true.mp hrec y hy
    obtain ⟨dL, h2⟩ := Option.isSome_iff_exists.mp h1
    exact PySem.W.tab_of G.T KX h2 e
  obtain ⟨fd, cs, sp, hT, nT, C, hb, hsp, hF⟩ := F w mg fa _ KX G.T.g hmg hT
  exact LamX.law_callTs KX G.T.g G.T.b G.T.builtins G.T.nolimit hg hT nT C G.T.bmain hobj hints (Nat.le_trans hlen hn2) hr hF hb (fun H hH hS => hsp H a ns hlen hbits hH hS) fun H e s' => hCX w H s₁ e s'
end TL

set_option Elab.async false
set_option linter.all false
set_option maxRecDepth 100000
namespace TL
open PySem PySem.Spec PyProof.Rows L2
section
variable {X : Cx} {O Ob : List Nat} {R : RK}
end
end TL

set_option Elab.async false
set_option linter.all false
set_option maxRecDepth 100000
namespace TL
open PySem PySem.Spec PyProof.Rows L2
def TK : Nat → Type
  | 0 => Int
  | k + 1 => List (TK k)
instance decTK : (k : Nat) → DecidableEq (TK k)
  | 0 => inferInstanceAs (DecidableEq Int)
  | k + 1 => have := decTK k; inferInstanceAs (DecidableEq (List (TK k)))
def lexL {α : Type} (lt : α → α → Bool) : List α → List α → Bool
  | _, [] => false
  | [], _ :: _ => true
  | x :: xs, y :: ys => if lt x y = true then true else if lt y x = true then false else lexL lt xs ys
def orO {α : Type} : Option α → Option α → Option α
  | some a, _ => some a
  | none, b => b
def rdT (h : Heap) : (k : Nat) → Value → TK k
  | 0 => fun v => match v with | .int i _ => i | _ => (0 : Int)
  | k + 1 => fun v => match v with
    | .ref a => match h.get? a with
      | some o => match o.data with
        | .seq its _ => List.map (rdT h k) its.toList
        | _ => ([] : List (TK k))
      | none => ([] : List (TK k))
    | _ => ([] : List (TK k))
def IsTK (h : Heap) : Nat → Value → Prop
  | 0, v => ∃ i t, v = .int i t
  | k + 1, v => ∃ a its, v = .ref a ∧ h.IsTuple a its ∧ ∀ u ∈ its.toList, IsTK h k u
theorem rdT_tup {h : Heap} {k : Nat} {a : Addr} {its : Array Value} (ht : h.IsTuple a its) : rdT h (k + 1) (.ref a) = List.map (rdT h k) its.toList := by
  obtain ⟨o, h1, h2, n, h3⟩ := ht
  simp only [rdT, h1, h3]
  rfl
theorem IsTK.keeps {h h' : Heap} (kp : ∀ b o, h.get? b = some o → o.cls = .type "tuple" → h'.get? b = some o) : ∀ {k : Nat} {v : Value}, IsTK h k v → IsTK h' k v ∧ rdT h' k v = rdT h k v
  | 0, _, ⟨i, t, e⟩ => ⟨⟨i, t, e⟩, by rw [e]; rfl⟩
  | k + 1, _, ⟨a, its, e, ht, hu⟩ => by
    have ht' : h'.IsTuple a its := by
      obtain ⟨o, h1, h2, n, h3⟩ := ht
      exact ⟨o, kp _ _ h1 h2, h2, n, h3⟩
    subst e
    refine ⟨⟨a, its, rfl, ht', fun u m => (IsTK.keeps kp (hu u m)).1⟩, ?_⟩
    rw [rdT_tup ht, rdT_tup ht']
    exact List.map_congr_left fun u m => (IsTK.keeps kp (hu u m)).2
section
variable {X : Cx}
end
end TL

set_option Elab.async false
set_option linter.all false
set_option maxRecDepth 100000
namespace TL
open PySem PySem.Spec PyProof.Rows L2
section
variable {X : Cx}
end
end TL

set_option Elab.async false
set_option linter.all false
set_option maxRecDepth 100000
namespace TL
open PySem PySem.Spec PyProof.Rows L2
def isFn (x : Str) : D → Bool
  | .dict [(.str y, .none)] => decide (y = x)
  | _ => false
@[simp] def eCallL (x : Str) (m : List D → Option D) (i : Nat) (l : List SE) : SE := fun env => (env.getD i none).bind fun d => if isFn x d = true then (eArgs l env).bind m else none
@[simp] def eAlt (a b : SE) : SE := fun env => orO (a env) (b env)
section
variable {X : Cx} {O : List Nat} {e : Expr} {es : List Expr} {l : List SE} {p pos : Pos} {x y : Str} {k n : Nat} {fa : Addr} {fd : FuncData} {ps : List Str} {m : List D → Option D}
end
end TL

set_option Elab.async false
set_option linter.all false
set_option maxRecDepth 100000
namespace TL
open PySem PySem.Spec PyProof.Rows L2
structure KDat (P : Program) (w : World) (G : Gx) (F H : Hp) (r : Addr) (xs : List KEnt) : Prop where
  ns : (r == sysModules) = false
  at_ : Rd H r (rawO P w r xs)
  nd : (xs.map (·.1)).Nodup
  ln : xs.length < sizeLine
  ks : ∀ x ∈ xs, ∃ kd, keyD kd = some x.1 ∧ x.1.depth ≤ 8 ∧ Rp G F (.ref x.2.1) kd
section
variable {X : Cx} {pins : List (Addr × Obj)} {σ : L2.St} {F H : Hp} {s : Shared}
mutual
theorem Rp.nested (I : Inv X pins σ H s) (sm : Same F H) : ∀ {d : D} {v : V} {k : NestedKey} {u : Value}, Rp (gx X) F v d → keyD d = some k → RelV v u → NestedIs s.heap k u
  | _, _, _, _, .non, e, r => by
    cases r
    cases Option.some.inj e
    exact .none
  | _, _, _, _, .bl b, e, r => by
    cases r
    cases Option.some.inj e
    exact .bool rfl
  | _, _, _, _, .int i, e, r => by
    obtain ⟨t, rfl⟩ := r
    cases Option.some.inj e
    exact .int _ _
  | _, _, _, _, .str x, e, r => by
    obtain ⟨t, rfl⟩ := r
    cases Option.some.inj e
    exact .text _ _
  | _, _, _, _, .lst _ _, e, _ => by cases e
  | _, _, _, _, .tup h a, e, r => by
    cases r
    simp only [keyD] at e
    obtain ⟨ks, h1, rfl⟩ := Option.map_eq_some_iff.mp e
    obtain ⟨its, hv, ⟨o, ho, hc, n, hd⟩, _⟩ := I.tuple (sameT sm h.t)
    exact .tup ho hc hd (by simpa using RpAll.nested I sm a h1 hv)
  | _, _, _, _, .fn _, e, _ => by cases e
  | _, _, _, _, .pl _ _ _, e, _ => by cases e
  | _, _, _, _, .rng _, e, _ => by cases e
  | _, _, _, _, .dct _ _ _, e, _ => by simp [kD, keyD] at e
  | _, _, _, _, .dki _ _ _, e, _ => by simp [kD, keyD] at e
theorem RpAll.nested (I : Inv X pins σ H s) (sm : Same F H) : ∀ {ds : List D} {vs : List V} {ks : List NestedKey} {us : List Value}, RpAll (gx X) F vs ds → keyAll ds = some ks → Vals vs us → NestedAll s.heap ks us
  | _, _, _, _, .nil, e, r => by
    cases r
    cases Option.some.inj e
    exact .nil
  | _, _, _, _, .cons h a, e, r => by
    simp only [keyAll] at e
    obtain ⟨k, h1, e⟩ := Option.bind_eq_some_iff.mp e
    obtain ⟨ks, h2, rfl⟩ := Option.map_eq_some_iff.mp e
    cases r with
    | cons r1 r2 => exact .cons (Rp.nested I sm h h1 r1) (RpAll.nested I sm a h2 r2)
end
theorem paired_mem {α β : Type} {G : α → β → Prop} : ∀ {l₁ : List α} {l₂ : List β}, Paired G l₁ l₂ → ∀ b ∈ l₂, ∃ a ∈ l₁, G a b
  | _, _, .nil, _, h => by cases h
  | _, _, .cons r t, b, h => by
    rcases List.mem_cons.mp h with rfl | h
    · exact ⟨_, List.mem_cons_self, r⟩
    · obtain ⟨a, h1, h2⟩ := paired_mem t b h
      exact ⟨a, List.mem_cons_of_mem _ h1, h2⟩
theorem krel_keys : ∀ {xs : List KEnt} {us : List KEnt'}, Paired KRel xs us → xs.map (·.1) = us.map (·.1)
  | _, _, .nil => rfl
  | _, _, .cons r t => by rw [List.map_cons, List.map_cons, krel_keys t, r.1]
theorem krel_at {k : NestedKey} : ∀ {xs : List KEnt} {us : List KEnt'}, Paired KRel xs us → (atV xs k = none ∧ atKey us k = none) ∨ ∃ v p, atV xs k = some v ∧ atKey us k = some p ∧ RelV v p.2
  | _, _, .nil => .inl ⟨rfl, rfl⟩
  | x :: xs, u :: us, .cons r t => by
    have r1 := r.1
    by_cases h : x.1 = k
    · refine .inr ⟨x.2.2, u.2, ?_, ?_, r.2.2⟩
      · simp [atV, List.find?_cons, h]
      · simp [atKey, List.find?_cons, ← r1, h]
    · have e1 : atV (x :: xs) k = atV xs k := by simp [atV, List.find?_cons, h]
      have e2 : atKey (u :: us) k = atKey us k := by simp [atKey, List.find?_cons, ← r1, h]
      rw [e1, e2]
      exact krel_at t
theorem krel_map {k : NestedKey} {v : V} {w : Value} (rv : RelV v w) : ∀ {xs : List KEnt} {us : List KEnt'}, Paired KRel xs us → Paired KRel (xs.map fun x => if x.1 = k then (x.1, x.2.1, v) else x) (us.map (putAt k w))
  | _, _, .nil => .nil
  | x :: xs, u :: us, .cons r t => by
    refine .cons ?_ (krel_map rv t)
    show KRel (if x.1 = k then (x.1, x.2.1, v) else x) (putAt k w u)
    unfold putAt
    by_cases h : x.1 = k
    · rw [if_pos h, if_pos (by rw [← r.1]; exact h)]
      exact ⟨r.1, r.2.1, rv⟩
    · rw [if_neg h, if_neg (by rw [← r.1]; exact h)]
      exact r
theorem krel_put {k : NestedKey} {b : Addr} {v : V} {w : Value} (rv : RelV v w) {xs : List KEnt} {us : List KEnt'} (t : Paired KRel xs us) : Paired KRel (putR xs k b v) (storedH us k b w) := by
  rcases krel_at (k := k) t with ⟨h1, h2⟩ | ⟨u, p, h1, h2, h3⟩
  · rw [storedH_new h2]
    unfold putR
    rw [h1]
    exact t.snoc ⟨rfl, rfl, rv⟩
  · rw [storedH_old h2]
    unfold putR
    rw [h1]
    exact krel_map rv t
theorem putR_mem {xs : List KEnt} {k : NestedKey} {b : Addr} {v : V} {x : KEnt} (h : x ∈ putR xs k b v) : x = (k, b, v) ∨ x ∈ xs ∨ ∃ y ∈ xs, y.1 = k ∧ x = (y.1, y.2.1, v) := by
  unfold putR at h
  split at h
  · obtain ⟨y, hy, e⟩ := List.mem_map.mp h
    by_cases hk : y.1 = k
    · rw [if_pos hk] at e
      exact .inr (.inr ⟨y, hy, hk, e.symm⟩)
    · rw [if_neg hk] at e
      exact .inr (.inl (e ▸ hy))
  · rcases List.mem_append.mp h with h | h
    · exact .inr (.inl h)
    · exact .inl (List.mem_singleton.mp h)
theorem atV_none {xs : List KEnt} {k : NestedKey} (h : atV xs k = none) : k ∉ xs.map (·.1) := by
  intro hm
  obtain ⟨x, hx, e⟩ := List.mem_map.mp hm
  unfold atV at h
  rw [Option.map_eq_none_iff, List.find?_eq_none] at h
  exact h x hx (by simpa using e)
theorem atV_some {xs : List KEnt} {k : NestedKey} {v : V} (h : atV xs k = some v) : ∃ x ∈ xs, x.1 = k ∧ x.2.2 = v := by
  unfold atV at h
  obtain ⟨x, hx, e⟩ := Option.map_eq_some_iff.mp h
  have := List.find?_some hx
  exact ⟨x, List.mem_of_find?_eq_some hx, by simpa using this, e⟩
theorem putR_nd {xs : List KEnt} {k : NestedKey} {b : Addr} {v : V} (h : (xs.map (·.1)).Nodup) : ((putR xs k b v).map (·.1)).Nodup := by
  unfold putR
  split
  · have e : (xs.map fun x => if x.1 = k then (x.1, x.2.1, v) else x).map (·.1) = xs.map (·.1) := by
      rw [List.map_map]
      refine List.map_congr_left fun x _ => ?_
      show (if x.1 = k then (x.1, x.2.1, v) else x).1 = x.1
      split <;> rfl
    rw [e]
    exact h
  · rename_i hn
    have hn : atV xs k = none := by
      cases e : atV xs k with
      | none => rfl
      | some _ => rw [e] at hn; exact absurd rfl hn
    rw [List.map_append]
    refine List.nodup_append.mpr ⟨h, by simp, fun a ha b' hb e => ?_⟩
    rw [List.map_singleton, List.mem_singleton] at hb
    exact atV_none hn (by have hb : b' = k := hb; rw [← hb, ← e]; exact ha)
theorem KDat.heap {r : Addr} {xs : List KEnt} (d : KDat X.prog X.w (gx X) F H r xs) (I : Inv X pins σ H s) (sm : Same F H) : ∃ us, Paired KRel xs us ∧ s.heap.DictOfH (nestedKind X.prog X.w) r us := by
  obtain ⟨⟨o, es, ep, us, h1, h2, h3, h4, h5⟩, _⟩ := (show ObjOk X.prog X.w H s.heap r (rawO X.prog X.w r xs) from d.at_.ok I.hok)
  refine ⟨us, h5, o, es, ep, h1, h2, h3, h4, fun u hu => ?_, by rw [← krel_keys h5]; exact d.nd⟩
  obtain ⟨x, hx, e1, e2, _⟩ := paired_mem h5 u hu
  obtain ⟨kd, k1, k2, k3⟩ := d.ks x hx
  rw [← e1, ← e2]
  exact ⟨k3.nested I sm k1 rfl, k2⟩
theorem rawO_ok {H' : Hp} {h' : Heap} {r : Addr} {xs : List KEnt} {o : Obj} {es : Array DictEntry} {ep : Nat} {us : List KEnt'} (h1 : h'.get? r = some o) (h2 : o.ExactDict) (h3 : o.data = .dict es ep) (h4 : es.toList = us.map (entryOfKey (nestedKind X.prog X.w))) (h5 : Paired KRel xs us) :
    ObjOk X.prog X.w H' h' r (rawO X.prog X.w r xs) :=
  ⟨⟨o, es, ep, us, h1, h2, h3, h4, h5⟩, ⟨o, h1⟩, fun _ _ ⟨o, es, ep, us, q1, q⟩ z => ⟨o, es, ep, us, z o q1, q⟩⟩
structure IsK (G : Gx) (F : Hp) (y : V) (kd : D) (k : NestedKey) : Prop where
  ref : ∃ b, y = .ref b
  rp : Rp G F y kd
  ke : keyD kd = some k
  dp : k.depth ≤ 8
def rNotInK (X : Cx) : R2 := fun y x H Q => ∃ F r xs kd k, x = .ref r ∧ Same F H ∧ KDat X.prog X.w (gx X) F H r xs ∧ IsK (gx X) F y kd k ∧ Q (.bl (!(atV xs k).isSome)) H
def rIxK (X : Cx) : R2 := fun x y H Q => ∃ F r xs kd k v, x = .ref r ∧ Same F H ∧ KDat X.prog X.w (gx X) F H r xs ∧ IsK (gx X) F y kd k ∧ atV xs k = some v ∧ Q v H
def rSetK (X : Cx) : V → V → V → Hp → (Hp → Prop) → Prop := fun x y v H Q => ∃ F r xs kd k b, x = .ref r ∧ Same F H ∧ KDat X.prog X.w (gx X) F H r xs ∧ H r = some (rawO X.prog X.w r xs) ∧ y = .ref b ∧ IsK (gx X) F y kd k ∧ Q (upd H r (rawO X.prog X.w r (putR xs k b v)))
theorem room_k (hu : X.A.units + 64 < cLine) : (nestedKind X.prog X.w).room X.A.in1 := by
  show X.A.units + 1 + 8 < cLine
  omega
theorem o_ninK (hu : X.A.units + 64 < cLine) : OpR X (compareOp .NotIn) (rNotInK X) := by
  intro pins s σ H y x u v Q I ry rx ⟨F, r, xs, kd, k, e, sm, d, ik, q⟩
  subst e
  cases rx
  obtain ⟨b, rfl⟩ := ik.ref
  cases ry
  obtain ⟨us, rel, dd⟩ := d.heap I sm
  refine wpAny_notIn_heap (room_k hu) ⟨ik.rp.nested I sm ik.ke rfl, ik.dp⟩ d.ns dd ?_
  refine ⟨_, H, I.tok _, ?_, q⟩
  rcases krel_at (k := k) rel with ⟨h1, h2⟩ | ⟨v, p, h1, h2, h3⟩ <;> rw [h1, h2] <;> rfl
theorem ix_K (hu : X.A.units + 64 < cLine) : IxR X (rIxK X) := by
  intro value slice pins s σ H x y v u Q I rx ry ⟨F, r, xs, kd, k, z, e, sm, d, ik, hz, q⟩ hs
  subst e
  cases rx
  obtain ⟨b, rfl⟩ := ik.ref
  cases ry
  obtain ⟨us, rel, dd⟩ := d.heap I sm
  rcases krel_at (k := k) rel with ⟨h1, h2⟩ | ⟨v', p, h1, h2, h3⟩
  · rw [h1] at hz
    cases hz
  · rw [h1] at hz
    cases hz
    exact subscriptTail_builtinR (x := p.2) dd.typeIs PySem.F.slot_dict_getitem.lookup
      (wpAny_getItem_heap (Q := fun w' s' => w' = p.2 ∧ EP X pins σ Q w' s') (room_k hu) ⟨ik.rp.nested I sm ik.ke rfl, ik.dp⟩ dd h2 ⟨rfl, z, H, I.tok _, h3, q⟩) hs
theorem set_K (hu : X.A.units + 64 < cLine) : PSet X (rSetK X) := by
  intro pins s σ H x y v ov iv u Q I rx ry rv ⟨F, r, xs, kd, k, b, e, sm, d, hat, e2, ik, q⟩
  subst e
  cases rx
  subst e2
  cases ry
  obtain ⟨us, rel, dd⟩ := d.heap I sm
  have hz : us.length ≤ sizeLine := by rw [← Paired.length rel]; exact Nat.le_of_lt d.ln
  refine wpAny_setItem_heap (hsz := hz) (room_k hu) ⟨ik.rp.nested I sm ik.ke rfl, ik.dp⟩ dd fun h' dd' hs => ?_
  obtain ⟨o, es, ep, h1, h2, h3, h4, _, h5⟩ := dd'
  exact ⟨_, d_write I (by rw [hat]; exact True.intro) hs ⟨o, h1⟩ (rawO_ok h1 h2 h3 h4 (krel_put rv rel)), q⟩
def tDNewR (X : Cx) : TE := fun _ H Q => ∀ p : Addr, (p == sysModules) = false → H p = none → Q (.ref p) (upd H p (rawO X.prog X.w p []))
theorem pe_dnewR {pos : Pos} : PE X (.Dict [] [] pos) (tDNewR X) := ⟨fun pins s σ H Q I h =>
  wpAny_Dict_empty ⟨.ref s.heap.objs.size, _, I.laid (a := s.heap.objs.size) (o := rawO X.prog X.w s.heap.objs.size []) (t' := s.toks) (fun _ _ q => Heap.get?_push_of_some _ q) (Nat.le_refl _)
    (rawO_ok (us := []) (Heap.get?_push_size _ rfl) ⟨rfl, rfl, rfl⟩ rfl rfl .nil), rfl, h _ (beq_eq_false_iff_ne.mpr (Ne.symm (Nat.ne_of_lt I.big))) (I.hok.fresh (Nat.le_refl _))⟩⟩
end
end TL

set_option Elab.async false
set_option linter.all false
set_option maxRecDepth 100000
namespace TL
open PySem PySem.Spec PyProof.Rows L2
structure MC where
  P : Program
  w : World
  G : Gx
  u : D → Bool
  sp : D → D → D → D
abbrev mc (X : Cx) (u : D → Bool) (sp : D → D → D → D) : MC := ⟨X.prog, X.w, gx X, u, sp⟩
structure Sl where
  i0 : Nat
  i1 : Nat
  i2 : Nat
structure UOk (u : D → Bool) : Prop where
  fin : ∃ L : List NestedKey, L.length < 16000000 ∧ ∀ kd, u kd = true → ∃ k ∈ L, keyD kd = some k ∧ k.depth ≤ 8
  inj : ∀ kd kd', u kd = true → u kd' = true → keyD kd = keyD kd' → kd = kd'
  tup : ∀ kd, u kd = true → ∃ ds, kd = .tuple ds
def Cel (U : MC) (F H : Hp) (r : Addr) (a b : D) : Prop := ∃ xs : List KEnt, (r == sysModules) = false ∧ H r = some (rawO U.P U.w r xs) ∧ (xs.map (·.1)).Nodup ∧
  ∀ x ∈ xs, ∃ kd, U.u kd = true ∧ keyD kd = some x.1 ∧ Rp U.G F (.ref x.2.1) kd ∧ Rp U.G F x.2.2 (U.sp a b kd)
structure MOk (U : MC) (S : Sl) (O : List Nat) (r : Addr) (a b : D) (F H : Hp) (σ : L2.St) (env : Env) : Prop where
  s : SOk U.G O F (hid r H) σ env
  fr : F r = none
  ce : Cel U F H r a b
  sg : σ[S.i0]? = some (some (.ref r))
  e1 : env.getD S.i1 none = some a
  e2 : env.getD S.i2 none = some b
structure MGr (U : MC) (r : Addr) (a b : D) (F H F' H' : Hp) : Prop where
  g : Gr F (hid r H) F' (hid r H')
  fr : F' r = none
  ce : Cel U F' H' r a b
theorem nodup_leM {α : Type} [DecidableEq α] : ∀ {l m : List α}, l.Nodup → (∀ x ∈ l, x ∈ m) → l.length ≤ m.length
  | [], _, _, _ => Nat.zero_le _
  | x :: l, m, h, s => by
    rw [List.nodup_cons] at h
    have hx := s x List.mem_cons_self
    have := nodup_leM (m := m.erase x) h.2 fun y hy => (List.mem_erase_of_ne fun e => h.1 (by rw [← e]; exact hy)).mpr (s y (List.mem_cons_of_mem _ hy))
    rw [List.length_erase_of_mem hx] at this
    have : 0 < m.length := List.length_pos_of_mem hx
    rw [List.length_cons]
    omega
section
variable {U : MC} {S : Sl} {O O' : List Nat} {r : Addr} {a b : D} {F H F' H' F2 H2 : Hp} {σ : L2.St} {env : Env}
theorem Cel.nt (c : Cel U F H r a b) : ∀ ps, H r ≠ some (.tbl ps) := fun ps e => by
  obtain ⟨xs, _, h, _⟩ := c
  rw [e] at h
  cases h
theorem Cel.mono (c : Cel U F H r a b) (k : Same F F') (h : H' r = H r) : Cel U F' H' r a b := by
  obtain ⟨xs, h1, h2, h3, h4⟩ := c
  exact ⟨xs, h1, by rw [h]; exact h2, h3, fun x hx => let ⟨kd, q1, q2, q3, q4⟩ := h4 x hx; ⟨kd, q1, q2, q3.mono k, q4.mono k⟩⟩
theorem celx_dat {xs : List KEnt} (uk : UOk U.u) (h1 : (r == sysModules) = false) (h2 : H r = some (rawO U.P U.w r xs)) (h3 : (xs.map (·.1)).Nodup)
    (h4 : ∀ x ∈ xs, ∃ kd, U.u kd = true ∧ keyD kd = some x.1 ∧ Rp U.G F (.ref x.2.1) kd ∧ Rp U.G F x.2.2 (U.sp a b kd)) : KDat U.P U.w U.G F H r xs := by
  obtain ⟨L, hL, hk⟩ := uk.fin
  have key : ∀ x ∈ xs, x.1 ∈ L ∧ x.1.depth ≤ 8 := fun x hx => by
    obtain ⟨kd, q1, q2, _⟩ := h4 x hx
    obtain ⟨k, z1, z2, z3⟩ := hk kd q1
    rw [q2] at z2
    cases z2
    exact ⟨z1, z3⟩
  refine ⟨h1, .inl h2, h3, ?_, fun x hx => ?_⟩
  · have := nodup_leM h3 fun k hm => by
      obtain ⟨x, hx, e⟩ := List.mem_map.mp hm
      rw [← e]
      exact (key x hx).1
    rw [List.length_map] at this
    rw [sizeLine_eq]
    omega
  · obtain ⟨kd, q1, q2, q3, _⟩ := h4 x hx
    exact ⟨kd, q2, (key x hx).2, q3⟩
theorem Cel.dat (c : Cel U F H r a b) (uk : UOk U.u) : ∃ xs : List KEnt, KDat U.P U.w U.G F H r xs ∧ ∀ x ∈ xs, ∃ kd, U.u kd = true ∧ keyD kd = some x.1 ∧ Rp U.G F (.ref x.2.1) kd ∧ Rp U.G F x.2.2 (U.sp a b kd) := by
  obtain ⟨xs, h1, h2, h3, h4⟩ := c
  exact ⟨xs, celx_dat uk h1 h2 h3 h4, h4⟩
theorem TbOk.hid2 {G : Gx} (t : TbOk G F H) (hr : ∀ ps, H r ≠ some (.tbl ps)) : TbOk G F (hid r H) := fun x hx c P e =>
  let ⟨h1, ps, h2, h3⟩ := t x hx c P e
  ⟨h1, ps, by rw [hid_ne (fun z => hr ps (by rw [← z]; exact h2))]; exact h2, h3⟩
theorem MOk.sok (q : MOk U S O r a b F H σ env) : SOk U.G O F H σ env := ⟨q.s.fh.trans hid_le, q.s.len, q.s.imm, fun i hi => by
  obtain ⟨p, kk, vs, ds, h1, h2, h3, h4, h5, hK⟩ := q.s.own i hi
  exact ⟨p, kk, vs, ds, h1, h2, h3, hid_le _ _ h4, h5, hK⟩, q.s.dj, q.s.tb.unhid⟩
theorem MOk.gr (q : MOk U S O r a b F H σ env) (g : MGr U r a b F H F' H') : MOk U S O r a b F' H' σ env := ⟨q.s.gr g.g, g.fr, g.ce, q.sg, q.e1, q.e2⟩
theorem MGr.of (g : Gr F H F' H') (hf : F r = none) (ce : Cel U F H r a b) : MGr U r a b F H F' H' := by
  obtain ⟨xs, h1, h2, h3, h4⟩ := id ce
  have fr : F' r = none := g.hid r _ h2 hf
  have hr : H' r = H r := by rw [g.hh.nn r _ h2 rfl, h2]
  refine ⟨⟨g.ff, g.hh.hid_, fun c o e => ?_, fun p o e n => ?_⟩, fr, ce.mono g.ff hr⟩
  · have n : c ≠ r := fun z => by rw [z, fr] at e; cases e
    rw [hid_ne n]
    exact g.fh c o e
  · obtain ⟨_, e⟩ := hid_some e
    exact g.hid p o e n
theorem MGr.trans (x : MGr U r a b F H F' H') (y : MGr U r a b F' H' F2 H2) : MGr U r a b F H F2 H2 := ⟨x.g.trans y.g, y.fr, y.ce⟩
theorem MGr.fh (x : MGr U r a b F H F' H') : Same F' H' := x.g.fh.trans hid_le
theorem MGr.ff (x : MGr U r a b F H F' H') : Same F F' := x.g.ff
theorem MOk.of (q : MOk U S O r a b F H σ env) (g : Gr F H F' H') : MGr U r a b F H F' H' := .of g q.fr q.ce
theorem MOk.refl (q : MOk U S O r a b F H σ env) : MGr U r a b F H F H := q.of (Gr.refl q.sok.fh)
theorem MOk.ne (ok : MOk U S O r a b F H σ env) : ∀ i ∈ O, ∀ p, σ[i]? = some (some (.ref p)) → p ≠ r := fun i hi p hp => by
  obtain ⟨p', kk, vs, ds, h1, h2, h3, h4, h5, hK⟩ := ok.s.own i hi
  rw [hp] at h1
  cases h1
  exact (hid_some h4).1
theorem SOk.rehid2 {G : Gx} (s : SOk G O F H σ env) (hf : F r = none) (hr : ∀ ps, H r ≠ some (.tbl ps)) (hn : ∀ i ∈ O, ∀ p, σ[i]? = some (some (.ref p)) → p ≠ r) : SOk G O F (hid r H) σ env :=
  ⟨fun b o e => by rw [hid_ne (fun z => by rw [z, hf] at e; cases e)]; exact s.fh b o e, s.len, s.imm, fun i hi => by
    obtain ⟨p, kk, vs, ds, h1, h2, h3, h4, h5, hK⟩ := s.own i hi
    exact ⟨p, kk, vs, ds, h1, h2, h3, by rw [hid_ne (hn i hi p h1)]; exact h4, h5, hK⟩, s.dj, s.tb.hid2 hr⟩
end
def mV (U : MC) (S : Sl) (O : List Nat) (f : SE) : TE := fun σ H Q => ∃ F env r a b d, MOk U S O r a b F H σ env ∧ f env = some d ∧ ∀ v F' H', MGr U r a b F H F' H' → Rp U.G F' v d → Q v H'
def mT (U : MC) (S : Sl) (O : List Nat) (f : ST) : TT := fun σ H Q => ∃ F env r a b d, MOk U S O r a b F H σ env ∧ f env = some d ∧ ∀ F' H', MGr U r a b F H F' H' → Q d H'
def mA (U : MC) (S : Sl) (O : List Nat) (f : SI) : TA := fun σ H Q => ∃ F env r a b ds, MOk U S O r a b F H σ env ∧ f env = some ds ∧ ∀ vs F' H', MGr U r a b F H F' H' → RpAll U.G F' vs ds → Q vs H'
section
variable {X : Cx} {u : D → Bool} {sp : D → D → D → D} {S : Sl} {O : List Nat} {a b e k : Expr} {es rest : List Expr} {fa fb : SE} {ta tb : ST} {l : List SE} {pos p2 : Pos} {g : D → D → Option D}
theorem mlift {f : SE} (h : PE X e (rV (gx X) O f)) : PE X e (mV (mc X u sp) S O f) := h.imp fun σ H Q ⟨F, env, r, a, b, d, ok, hf, q⟩ =>
  ⟨F, env, d, ok.sok, hf, fun v F' H' g r => q v F' H' (ok.of g) r⟩
theorem mliftT {f : ST} (h : PT X e (rT (gx X) O f)) : PT X e (mT (mc X u sp) S O f) := h.imp fun σ H Q ⟨F, env, r, a, b, d, ok, hf, q⟩ =>
  ⟨F, env, d, ok.sok, hf, fun F' H' g => q F' H' (ok.of g)⟩
theorem mtvSplit {f : SE} {env : Env} {k : Bool} (h : tV f env = some k) : f env = some (.bool k) := by
  simp only [tV] at h
  obtain ⟨x, h1, h⟩ := bind_some h
  rw [h1, toB_some h]
theorem mtv (h : PE X a (mV (mc X u sp) S O fa)) (he : ∀ whole, isTrue a X.env whole = (do let v ← whole; standAt a.pos; holding [v] (truthy v)) := by intro _; rfl) : PT X a (mT (mc X u sp) S O (tV fa)) :=
  (pt_val h he).imp fun σ H Q ⟨F, env, r, a, b, d, ok, hf, q⟩ => ⟨F, env, r, a, b, .bool d, ok, mtvSplit hf, fun v F' H' g' r => by
    cases r
    exact ⟨d, rfl, q F' H' g'⟩⟩
theorem mone {op} (h : PE X a (mV (mc X u sp) S O fa)) : PE X (.BoolOp op [a] pos) (mV (mc X u sp) S O fa) := pe_one h
theorem mand (ha : PE X a (mV (mc X u sp) S O fa)) (hb : PE X (.BoolOp .And (b :: rest) pos) (mV (mc X u sp) S O fb)) : PE X (.BoolOp .And (a :: b :: rest) pos) (mV (mc X u sp) S O (eAnd fa fb)) :=
  (pe_and ha hb).imp fun σ H Q ⟨F, env, r, a, b, d, ok, hf, q⟩ => by
    simp only [eAnd] at hf
    obtain ⟨x, h1, hf⟩ := bind_some hf
    obtain ⟨k, h4, hk⟩ := bind_some hf
    have e4 := toB_some h4
    subst e4
    refine ⟨F, env, r, a, b, _, ok, h1, fun v F1 H1 g1 r1 => ?_⟩
    cases r1
    refine ⟨k, rfl, ?_⟩
    cases k with
    | true => exact ⟨F1, env, r, a, b, d, ok.gr g1, hk, fun v F2 H2 g2 r2 => q v F2 H2 (g1.trans g2) r2⟩
    | false =>
      cases hk
      exact q _ F1 H1 g1 (.bl false)
theorem mtone1 (h : PT X a (mT (mc X u sp) S O ta)) : PW X (.BoolOp .And [a] pos) (mT (mc X u sp) S O ta) := pw_and1 h
theorem mtand (ha : PT X a (mT (mc X u sp) S O ta)) (hb : PW X (.BoolOp .And (b :: rest) pos) (mT (mc X u sp) S O tb)) : PW X (.BoolOp .And (a :: b :: rest) pos) (mT (mc X u sp) S O (TL.tAnd ta tb)) :=
  (pw_and ha hb).imp fun σ H Q ⟨F, env, r, a, b, d, ok, hf, q⟩ => by
    simp only [TL.tAnd] at hf
    obtain ⟨k, h1, hf⟩ := bind_some hf
    refine ⟨F, env, r, a, b, k, ok, h1, fun F1 H1 g1 => ?_⟩
    cases k with
    | true => exact ⟨F1, env, r, a, b, d, ok.gr g1, hf, fun F2 H2 g2 => q F2 H2 (g1.trans g2)⟩
    | false =>
      cases hf
      exact q F1 H1 g1
theorem mtw (h : PW X a (mT (mc X u sp) S O ta)) : PT X a (mT (mc X u sp) S O ta) := h.pt
theorem man : PA X [] (mA (mc X u sp) S O (eArgs [])) := pa_nil.imp fun σ H Q ⟨F, env, r, a, b, ds, ok, hf, q⟩ => by
  cases hf
  exact q [] F H ok.refl .nil
theorem mac (ha : PE X e (mV (mc X u sp) S O fa)) (hr : PA X es (mA (mc X u sp) S O (eArgs l))) (hs : starEach (e :: es) X.env = (false, eval e X.env) :: starEach es X.env := by rfl) : PA X (e :: es) (mA (mc X u sp) S O (eArgs (fa :: l))) :=
  (pa_cons ha hr hs).imp fun σ H Q ⟨F, env, r, a, b, ds, ok, hf, q⟩ => by
    simp only [eArgs] at hf
    obtain ⟨x, h1, hf⟩ := bind_some hf
    obtain ⟨xs, h2, hf⟩ := map_some hf
    cases hf
    exact ⟨F, env, r, a, b, x, ok, h1, fun v F1 H1 g1 r1 => ⟨F1, env, r, a, b, xs, ok.gr g1, h2, fun vs F2 H2 g2 r2 => q (v :: vs) F2 H2 (g1.trans g2) (.cons (r1.mono g2.ff) r2)⟩⟩
end
def spM (U : MC) (n j c1 c2 : Nat) (m : List D → Option D) : Sp := fun vs H Q _ => ∃ F r us ds a b d, vs = us.take j ++ .ref r :: us.drop j ∧ Fz U.G F (hid r H) ∧ F r = none ∧ Cel U F H r a b ∧ RpAll U.G F us ds ∧ ds.length = n ∧
  ds[c1]? = some a ∧ ds[c2]? = some b ∧ m ds = some d ∧ ∀ v F' H', MGr U r a b F H F' H' → Rp U.G F' v d → Q v H'
def mAK (U : MC) (S : Sl) (O : List Nat) (j : Nat) (f : SI) : TA := fun σ H Q => ∃ F env r a b ds, MOk U S O r a b F H σ env ∧ f env = some ds ∧ ∀ us F' H', MGr U r a b F H F' H' → RpAll U.G F' us ds → Q (us.take j ++ .ref r :: us.drop j) H'
section
variable {X : Cx} {u : D → Bool} {sp : D → D → D → D} {S : Sl} {O : List Nat} {e : Expr} {es : List Expr} {l : List SE} {p pos : Pos} {x : Str} {k n j c1 c2 : Nat} {fa : Addr} {fd : FuncData} {ps : List Str} {a : SE}
theorem mk_here (hr : PA X es (mA (mc X u sp) S O (eArgs l))) (hN : X.N[S.i0]? = some x := by rfl) (hv : Vis X.env.scope x := by first | exact Or.inl rfl | exact Or.inr (Or.inl rfl) | exact Or.inr (Or.inr rfl)) (hd : (x == ("__debug__" : Str)) = false := by decide)
    (hcd : (x == ("__classdict__" : Str)) = false := by decide) (hs : starEach (.Name x p :: es) X.env = (false, eval (.Name x p) X.env) :: starEach es X.env := by rfl) : PA X (.Name x p :: es) (mAK (mc X u sp) S O 0 (eArgs l)) :=
  (pa_cons (pe_var hN hv hd hcd) hr hs).imp fun σ H Q ⟨F, env, r, a, b, ds, ok, hf, q⟩ =>
    ⟨_, ok.sg, F, env, r, a, b, ds, ok, hf, fun vs F' H' g r1 => q vs F' H' g r1⟩
theorem mk_cons (ha : PE X e (mV (mc X u sp) S O a)) (hr : PA X es (mAK (mc X u sp) S O j (eArgs l))) (hs : starEach (e :: es) X.env = (false, eval e X.env) :: starEach es X.env := by rfl) : PA X (e :: es) (mAK (mc X u sp) S O (j + 1) (eArgs (a :: l))) :=
  (pa_cons ha hr hs).imp fun σ H Q ⟨F, env, r, a, b, ds, ok, hf, q⟩ => by
    simp only [eArgs] at hf
    obtain ⟨x, h1, hf⟩ := bind_some hf
    obtain ⟨xs, h2, hf⟩ := map_some hf
    subst hf
    exact ⟨F, env, r, a, b, x, ok, h1, fun v F1 H1 g1 r1 => ⟨F1, env, r, a, b, xs, ok.gr g1, h2, fun us F2 H2 g2 r2 => q (v :: us) F2 H2 (g1.trans g2) (.cons (r1.mono g2.ff) r2)⟩⟩
theorem eArgs_at {env : Env} : ∀ {l : List SE} {ds : List D} {c i : Nat}, eArgs l env = some ds → l[c]? = some (eVar i) → ds[c]? = env.getD i none
  | a :: l, ds, 0, i, h, e => by
    cases Option.some.inj e
    simp only [eArgs] at h
    obtain ⟨x, h1, h⟩ := bind_some h
    obtain ⟨xs, h2, h⟩ := map_some h
    subst h
    exact h1.symm
  | a :: l, ds, c + 1, i, h, e => by
    simp only [eArgs] at h
    obtain ⟨x, h1, h⟩ := bind_some h
    obtain ⟨xs, h2, h⟩ := map_some h
    subst h
    exact eArgs_at (c := c) h2 e
  | [], _, 0, _, _, e => by cases e
  | [], _, _ + 1, _, _, e => by cases e
theorem mcall {m : List D → Option D} (F : FnOk X.prog X.w (gx X).K (gx X).mg X.base CX0 k fa fd ps (spM (mc X u sp) n j c1 c2 m)) (hr : Room k X.A) (hg : Gl X x) (hm : X.mg x = some (.ref fa)) (hk : PySem.W.keepIn X.K (.ref fa) = true) (hb : Binds X.K fd ps [])
    (ha : PA X (e :: es) (mAK (mc X u sp) S O j (eArgs l))) (hn : l.length = n := by rfl) (hc1 : l[c1]? = some (eVar S.i1) := by rfl) (hc2 : l[c2]? = some (eVar S.i2) := by rfl) (hdb : (x == ("__debug__" : Str)) = false := by decide) (he : starEach (e :: es) X.env = (false, eval e X.env) :: starEach es X.env := by rfl) (hpl : (backTo pos (starEach es X.env)).any (·.1) = false := by rfl) :
    PE X (.Call (.Name x p) (e :: es) [] pos) (mV (mc X u sp) S O (eCall m l)) :=
  (pe_call F hr hg hm hk hb .nil pass0 ha hdb he hpl).imp fun σ H Q ⟨F, env, r, a, b, d, ok, hf, q⟩ => by
    simp only [eCall] at hf
    obtain ⟨ds, h1, hf⟩ := bind_some hf
    refine ⟨F, env, r, a, b, ds, ok, h1, fun us F1 H1 g1 r1 => ?_⟩
    show spM (mc X u sp) n j c1 c2 m ((us.take j ++ .ref r :: us.drop j) ++ []) H1 Q E0
    rw [List.append_nil]
    exact ⟨F1, r, us, ds, a, b, d, rfl, (ok.gr g1).s.fz, g1.fr, g1.ce, r1, (eArgs_len l ds h1).trans hn, (eArgs_at h1 hc1).trans ok.e1, (eArgs_at h1 hc2).trans ok.e2, hf, fun v F2 H2 g2 r2 => q v F2 H2 (g1.trans g2) r2⟩
end
def aK (X : Cx) (G : Gx) (O : List Nat) (f : SI) : TA := fun σ H Q => ∃ F env ds, SOk G O F H σ env ∧ f env = some ds ∧
  ∀ us p F' H', Gr F H F' H' → (p == sysModules) = false → H' p = none → RpAll G F' us ds → Q (us ++ [.ref p]) (upd H' p (rawO X.prog X.w p []))
section
variable {X : Cx} {u : D → Bool} {sp : D → D → D → D} {O : List Nat} {e : Expr} {es : List Expr} {l : List SE} {p pos : Pos} {x : Str} {k n c1 c2 : Nat} {fa : Addr} {fd : FuncData} {ps : List Str} {a : SE}
theorem ak_end (hs : starEach [.Dict [] [] p] X.env = (false, eval (.Dict [] [] p) X.env) :: starEach [] X.env := by rfl) : PA X [.Dict [] [] p] (aK X (gx X) O (eArgs [])) :=
  (pa_cons pe_dnewR pa_nil hs).imp fun σ H Q ⟨F, env, ds, hs, hf, q⟩ => by
    cases hf
    exact fun p hp hn => q [] p F H (Gr.refl hs.fh) hp hn .nil
theorem ak_cons (ha : PE X e (rV (gx X) O a)) (hr : PA X es (aK X (gx X) O (eArgs l))) (hs : starEach (e :: es) X.env = (false, eval e X.env) :: starEach es X.env := by rfl) : PA X (e :: es) (aK X (gx X) O (eArgs (a :: l))) :=
  (pa_cons ha hr hs).imp fun σ H Q ⟨F, env, ds, hs, hf, q⟩ => by
    simp only [eArgs] at hf
    obtain ⟨x, h1, hf⟩ := bind_some hf
    obtain ⟨xs, h2, hf⟩ := map_some hf
    subst hf
    exact ⟨F, env, x, hs, h1, fun v F1 H1 g1 r1 => ⟨F1, env, xs, hs.gr g1, h2, fun us p F2 H2 g2 e1 e2 r2 => q (v :: us) p F2 H2 (g1.trans g2) e1 e2 (.cons (r1.mono g2.ff) r2)⟩⟩
theorem hid_fresh {r : Addr} {H : Hp} {o : HO} (h : H r = none) : hid r (upd H r o) = H := by
  funext b
  by_cases hb : b = r
  · subst hb; rw [hid_r, h]
  · rw [hid_ne hb, upd_ne hb]
theorem cel_new {U : MC} {F H : Hp} {r : Addr} {a b : D} (h : (r == sysModules) = false) : Cel U F (upd H r (rawO U.P U.w r [])) r a b := ⟨[], h, upd_same, List.nodup_nil, fun x hx => by cases hx⟩
theorem mgr_out {U : MC} {r : Addr} {a b : D} {F H F' H' : Hp} {o : HO} (hn : H r = none) (g : MGr U r a b F (upd H r o) F' H') : Gr F H F' H' := by
  have g1 := g.g
  rw [hid_fresh hn] at g1
  exact ⟨g1.ff, g1.hh.trans (.of hid_le), g1.fh.trans hid_le, g1.hid⟩
theorem ecallM {m : List D → Option D} (F : FnOk X.prog X.w (gx X).K (gx X).mg X.base CX0 k fa fd ps (spM (mc X u sp) n n c1 c2 m)) (hr : Room k X.A) (hg : Gl X x) (hm : X.mg x = some (.ref fa)) (hk : PySem.W.keepIn X.K (.ref fa) = true) (hb : Binds X.K fd ps [])
    (ha : PA X (e :: es) (aK X (gx X) O (eArgs l))) (hn : l.length = n := by rfl) (h1 : c1 < n := by decide) (h2 : c2 < n := by decide) (hdb : (x == ("__debug__" : Str)) = false := by decide) (he : starEach (e :: es) X.env = (false, eval e X.env) :: starEach es X.env := by rfl) (hpl : (backTo pos (starEach es X.env)).any (·.1) = false := by rfl) :
    PE X (.Call (.Name x p) (e :: es) [] pos) (rV (gx X) O (eCall m l)) :=
  (pe_call F hr hg hm hk hb .nil pass0 ha hdb he hpl).imp fun σ H Q ⟨F, env, d, hs, hf, q⟩ => by
    simp only [eCall] at hf
    obtain ⟨ds, h3, hf⟩ := bind_some hf
    refine ⟨F, env, ds, hs, h3, fun us p F1 H1 g1 hp hnew r1 => ?_⟩
    show spM (mc X u sp) n n c1 c2 m ((us ++ [.ref p]) ++ []) _ Q E0
    rw [List.append_nil]
    have hl := (eArgs_len l ds h3).trans hn
    have hl2 := r1.length
    have hf1 : F1 p = none := Same.nn g1.fh hnew
    obtain ⟨a, ea⟩ : ∃ a, ds[c1]? = some a := ⟨_, List.getElem?_eq_getElem (by omega)⟩
    obtain ⟨b, eb⟩ : ∃ b, ds[c2]? = some b := ⟨_, List.getElem?_eq_getElem (by omega)⟩
    refine ⟨F1, p, us, ds, a, b, d, ?_, ?_, hf1, cel_new hp, r1, hl, ea, eb, hf, fun v F2 H2 g2 rv => q v F2 H2 (g1.trans (mgr_out hnew g2)) rv⟩
    · rw [List.take_of_length_le (by omega), List.drop_of_length_le (by omega)]
    · rw [hid_fresh hnew]
      exact (hs.gr g1).fz
end
end TL

set_option Elab.async false
set_option linter.all false
set_option maxRecDepth 100000
namespace TL
open PySem PySem.Spec PyProof.Rows L2
def agGo (cb : Bool) (g : SG) (e : SE) (env : Env) : List D → Option D
  | [] => some (.bool cb)
  | x :: xs => (g x env).bind fun env1 => (e env1).bind fun y => (toB y).bind fun b => if b = cb then agGo cb g e env xs else some (.bool (!cb))
@[simp] def eAg (cb : Bool) (vs : List Nat) (it : SI) (g : SG) (e : SE) : SE := fun env => (it env).bind fun ds => agGo cb g e (wipeE env vs) ds
theorem wipeE_out : ∀ {vs : List Nat} {env : Env} {i : Nat}, i ∉ vs → (wipeE env vs).getD i none = env.getD i none
  | [], _, _, _ => rfl
  | v :: vs, env, i, h => by
    simp only [wipeE]
    rw [List.getD_eq_getElem?_getD, List.getElem?_set_ne (fun z => h (by rw [z]; exact List.mem_cons_self)), ← List.getD_eq_getElem?_getD]
    exact wipeE_out fun z => h (List.mem_cons_of_mem _ z)
def SgKeep (g : SG) (sl : List Nat) : Prop := ∀ d env e, g d env = some e → ∀ i, i ∉ sl → e.getD i none = env.getD i none
theorem keep_name (i : Nat) : SgKeep (TL.gName i) [i] := fun d env e h j hj => by
  cases h
  rw [List.getD_eq_getElem?_getD, List.getElem?_set_ne (fun z => hj (by rw [z]; exact List.mem_singleton.mpr rfl)), ← List.getD_eq_getElem?_getD]
section
variable {X : Cx} {u : D → Bool} {sp : D → D → D → D} {S : Sl} {O : List Nat}
abbrev Sl.off (S : Sl) (vs : List Nat) : Prop := S.i0 ∉ vs ∧ S.i1 ∉ vs ∧ S.i2 ∉ vs
theorem mag_read {x : Str} {cc P : Addr} (hx : x ∈ tabNames) (ht : PySem.W.tabIn (gx X).K x = some (cc, P)) {cb : Bool} {fi : SI} {g : SG} {f : SE} {sl vs : List Nat} (hk : SgKeep g sl) (hsl : ∀ j ∈ sl, j ∈ vs) (hO : ∀ j ∈ vs, j ∉ O) (h0 : S.off vs) {σ : L2.St} {H : Hp} {Q : VK} (h : mV (mc X u sp) S O (eAg cb vs fi g f) σ H Q) :
    tAg P cb (iV (gx X) O fi) (tG (gx X) O sl g) (mV (mc X u sp) S O f) vs σ H Q := by
  obtain ⟨F, env, r, a, b, d, ok, hf, q⟩ := h
  simp only [eAg] at hf
  obtain ⟨ds, h1, hf⟩ := bind_some hf
  refine ⟨F, env, ds, ok.sok, h1, fun J F1 H1 g1 hz hJ => ⟨((ok.sok.gr g1).tb x hx cc P ht).2, fun H2 hT => ?_⟩⟩
  obtain ⟨⟨ps', e', t'⟩, hk2⟩ := hT
  obtain ⟨n1, ps, e1, t1⟩ := (ok.sok.gr g1).tb x hx cc P ht
  have gT : Gr F1 H1 F1 H2 := by
    refine ⟨Same.refl F1, ⟨fun b o e n => ?_, fun b qs e => ?_⟩, fun b o e => ?_, fun _ _ _ n => n⟩
    · rw [hk2 b fun z => by rw [z, e1] at e; cases e; cases n]; exact e
    · by_cases hb : b = P
      · subst hb; exact ⟨ps', e', fun _ => t'⟩
      · exact ⟨qs, by rw [hk2 b hb]; exact e, id⟩
    · rw [hk2 b fun z => by rw [z, n1] at e; cases e]; exact g1.fh b o e
  have w0 := ok.of (g1.trans gT)
  refine ⟨ds.length, fun i H' => ∃ F', MGr (mc X u sp) r a b F H F' H' ∧ Same F1 F' ∧ i ≤ ds.length ∧ agGo cb g f (wipeE env vs) (ds.drop i) = some d, ⟨F1, w0, Same.refl F1, Nat.zero_le _, hf⟩, ?_⟩
  rintro i H' ⟨F', gr, sm, hi, hgo⟩
  have hJ' := hJ i F' H' sm gr.fh
  have okw := ok.gr gr
  have s' := okw.sok.wipe hO
  cases hd : ds[i]? with
  | none =>
    have hi' : ds.length ≤ i := List.getElem?_eq_none_iff.mp hd
    rw [List.drop_eq_nil_of_le hi'] at hgo
    cases hgo
    exact .inl ⟨Nat.le_antisymm hi hi', hJ'.2 hd, q _ F' H' gr (.bl cb)⟩
  | some x =>
    have hi' : i < ds.length := (List.getElem?_eq_some_iff.mp hd).1
    have hx : ds[i] = x := (List.getElem?_eq_some_iff.mp hd).2
    have hdr : ds.drop i = x :: ds.drop (i + 1) := by rw [List.drop_eq_getElem_cons hi', hx]
    rw [hdr] at hgo
    simp only [agGo] at hgo
    obtain ⟨env1, hg1, hgo⟩ := bind_some hgo
    obtain ⟨y, he1, hgo⟩ := bind_some hgo
    obtain ⟨b', hb, hgo2⟩ := bind_some hgo
    have hb := toB_some hb
    subst hb
    clear hgo
    refine .inr ⟨hi', (hJ'.1 x hd).1, fun v H3 hy => ?_⟩
    obtain ⟨rfl, rv⟩ := (hJ'.1 x hd).2 v H3 hy
    refine ⟨F', _, x, env1, s', rv, hg1, fun σ2 s2 ln kp => ⟨(ext_wipe ln kp hsl).trans (wipe_idem vs σ), F', env1, r, a, b, .bool b', ⟨s2.rehid2 gr.fr gr.ce.nt fun j hj p hp => okw.ne j hj p ?_, gr.fr, gr.ce, ?_, ?_, ?_⟩, he1, fun w F4 H4 g4 r4 => ?_⟩⟩
    · rw [← wipe_out (σ := σ) (fun z => hO j z hj), ← kp j fun z => hO j (hsl j z) hj]
      exact hp
    · rw [kp S.i0 fun z => h0.1 (hsl _ z), wipe_out h0.1]
      exact ok.sg
    · rw [hk _ _ _ hg1 _ fun z => h0.2.1 (hsl _ z), wipeE_out h0.2.1]
      exact ok.e1
    · rw [hk _ _ _ hg1 _ fun z => h0.2.2 (hsl _ z), wipeE_out h0.2.2]
      exact ok.e2
    · cases r4
      refine ⟨b', rfl, ?_⟩
      split
      · rename_i hbc
        rw [if_pos hbc] at hgo2
        exact ⟨F4, gr.trans g4, sm.trans g4.ff, hi', hgo2⟩
      · rename_i hbc
        rw [if_neg hbc] at hgo2
        cases hgo2
        exact q _ F4 H4 (gr.trans g4) (.bl _)
theorem mall {x : Str} {cc P : Addr} {elt tg iter : Expr} {gpos p pos : Pos} {scope : Scope} {own : List (Str × Nat)} {fi : SI} {g : SG} {f : SE} {sl : List Nat} {k : Nat}
    (ht : PySem.W.tabIn (gx X).K x = some (cc, P)) (TB : GxR.TabB X.base X.mg cc P) (hcode : X.env.code = .ref cc) (hr : Room (k + 1) X.A) (hgl : Gl X "all") (hm : X.mg "all" = none) (hN : X.N.Nodup) (ok : GenOk X.N X.env.scope scope own) (hi : PI X tg iter (iV (gx X) O fi))
    (hg : ∀ (A : Around) (s : Shared) (H : Hp) (C : Addr) (code : Value) (fp : List Addr) (pn : List (Addr × Obj)), PG (gX X A s H (genEnv scope (cloFrom X.env.cells scope.names []) C code builtinsNs X.env) fp pn) tg (tG (gx X) O sl g))
    (he : ∀ (A : Around) (s : Shared) (H : Hp) (C : Addr) (code : Value) (fp : List Addr) (pn : List (Addr × Obj)), Room k A → PE (gX X A s H (genEnv scope (cloFrom X.env.cells scope.names []) C code builtinsNs X.env) fp pn) elt (mV (mc X u sp) S O f))
    (hk : SgKeep g sl) (hx : x ∈ tabNames := by decide) (hsl : ∀ j ∈ sl, j ∈ own.map (·.2) := by decide) (hO : ∀ j ∈ own.map (·.2), j ∉ O := by decide) (h0 : S.off (own.map (·.2)) := by decide) (hs : ∀ v, genFold iter X.env v = pure v := by intro _; rfl)
    (hst : starEach [.GeneratorExp elt [⟨tg, iter, [], 0⟩] scope gpos] X.env = (false, eval (.GeneratorExp elt [⟨tg, iter, [], 0⟩] scope gpos) X.env) :: starEach [] X.env := by rfl) :
    PE X (.Call (.Name "all" p) [.GeneratorExp elt [⟨tg, iter, [], 0⟩] scope gpos] [] pos) (mV (mc X u sp) S O (eAg true (own.map (·.2)) fi g f)) :=
  (pe_all hr hgl hm (by decide +kernel) TB hcode hN ok hi hg he hs hst).imp fun σ H Q h => mag_read hx ht hk hsl hO h0 h
theorem mpT {ifs : List Expr} {f : ST} (h : PTs X ifs (rT (gx X) O f)) : PTs X ifs (mT (mc X u sp) S O f) := h.imp fun σ H Q ⟨F, env, r, a, b, d, ok, hf, q⟩ =>
  ⟨F, env, d, ok.sok, hf, fun F' H' g => q F' H' (ok.of g)⟩
theorem mlc_read {fi : SI} {g : SG} {k : ST} {f : SE} {sl vs : List Nat} (hk : SgKeep g sl) (hsl : ∀ j ∈ sl, j ∈ vs) (hO : ∀ j ∈ vs, j ∉ O) (h0 : S.off vs) {σ : L2.St} {H : Hp} {Q : VK} (h : mV (mc X u sp) S O (eLc vs fi g k f) σ H Q) :
    tLc (iV (gx X) O fi) (tG (gx X) O sl g) (mT (mc X u sp) S O k) (mV (mc X u sp) S O f) vs σ H Q := by
    obtain ⟨F, env, r, a, b, d, ok, hf, q⟩ := h
    simp only [eLc] at hf
    obtain ⟨ds, h1, hf⟩ := bind_some hf
    obtain ⟨es, h2, h3⟩ := map_some hf
    cases h3
    refine ⟨F, env, ds, ok.sok, h1, fun J F1 H1 gq hz hJ D0 hD => ?_⟩
    have g1 := ok.of gq
    have ok1 := ok.gr g1
    have hDr : D0 ≠ r := fun z => by
      obtain ⟨xs, _, e, _⟩ := ok1.ce
      rw [← z, hD] at e
      cases e
    have hD' : hid r H1 D0 = none := by rw [hid_ne hDr]; exact hD
    have hD1 : F1 D0 = none := Same.nn g1.fh hD
    refine ⟨fun i m H' => ∃ F' acc accD rest, LcI (gx X) F1 (hid r H1) F' (hid r H') D0 acc accD ∧ F' r = none ∧ Cel (mc X u sp) F' H' r a b ∧ accD.length ≤ i ∧ i ≤ ds.length ∧ m = ds.length - i ∧ lcGo g k f (wipeE env vs) (ds.drop i) = some rest ∧ es = accD ++ rest,
      ⟨ds.length, F1, [], [], es, ⟨by rw [hid_upd hDr]; exact Gr.open_ ok1.s.fh hD', hD1, by rw [hid_ne hDr]; exact upd_same, .nil⟩, ok1.fr, ok1.ce.mono (Same.refl _) (upd_ne (fun z => hDr z.symm)), Nat.le_refl _, Nat.zero_le _, by omega, h2, rfl⟩, ?_⟩
    rintro i m H' ⟨F', acc, accD, rest, L, fr, hr, l1, l2, rfl, hgo, ees⟩
    have okw : MOk (mc X u sp) S O r a b F' H' (L2.wipe σ vs) (wipeE env vs) := ⟨(ok1.s.gr L.gr).wipe hO, fr, hr, by rw [wipe_out h0.1]; exact ok.sg, by rw [wipeE_out h0.2.1]; exact ok.e1, by rw [wipeE_out h0.2.2]; exact ok.e2⟩
    have hJ' := hJ i F' H' L.gr.ff okw.sok.fh
    cases hd : ds[i]? with
    | none =>
      have hi : ds.length ≤ i := List.getElem?_eq_none_iff.mp hd
      refine .inl ⟨hJ'.2 hd, ?_⟩
      rw [List.drop_eq_nil_of_le hi] at hgo
      cases hgo
      rw [List.append_nil] at ees
      subst ees
      have gc : Gr F1 (hid r H1) (upd F' D0 (.lst acc)) (hid r H') := L.gr.close hD' L.fr L.at_
      exact q (.ref D0) (upd F' D0 (.lst acc)) H' (g1.trans ⟨gc, by rw [upd_ne (fun z => hDr z.symm)]; exact fr, hr.mono (same_upd L.fr) rfl⟩) (.lst (.inl (.inl upd_same)) (L.rp.mono (same_upd L.fr)))
    | some x =>
      have hi : i < ds.length := (List.getElem?_eq_some_iff.mp hd).1
      have hx : ds[i] = x := (List.getElem?_eq_some_iff.mp hd).2
      have hdr : ds.drop i = x :: ds.drop (i + 1) := by rw [List.drop_eq_getElem_cons hi, hx]
      rw [hdr] at hgo
      simp only [lcGo] at hgo
      obtain ⟨env1, hg1, hgo⟩ := bind_some hgo
      obtain ⟨b', hc1, hgo⟩ := bind_some hgo
      refine .inr ⟨(hJ'.1 x hd).1, fun H2 => ∃ F' acc accD rest, LcI (gx X) F1 (hid r H1) F' (hid r H2) D0 acc accD ∧ F' r = none ∧ Cel (mc X u sp) F' H2 r a b ∧ accD.length ≤ i + 1 ∧ lcGo g k f (wipeE env vs) (ds.drop (i + 1)) = some rest ∧ es = accD ++ rest, fun H2 h => ?_, fun v H2 hy => ?_⟩
      · obtain ⟨F2, acc2, accD2, rest2, L2, fr2, hr2, l3, hg2, e2⟩ := h
        exact ⟨ds.length - (i + 1), by omega, F2, acc2, accD2, rest2, L2, fr2, hr2, l3, hi, rfl, hg2, e2⟩
      · obtain ⟨rfl, rv⟩ := (hJ'.1 x hd).2 v H2 hy
        have mk : ∀ σ2, SOk (gx X) O F' H2 σ2 env1 → (∀ j, j ∉ sl → σ2[j]? = (L2.wipe σ vs)[j]?) → MOk (mc X u sp) S O r a b F' H2 σ2 env1 := fun σ2 s2 kp =>
          ⟨s2.rehid2 fr okw.ce.nt fun j hj p hp => okw.ne j hj p (by rw [← kp j fun z => hO j (hsl j z) hj]; exact hp), fr, hr, (kp _ fun z => h0.1 (hsl _ z)).trans okw.sg, (hk _ _ _ hg1 _ fun z => h0.2.1 (hsl _ z)).trans okw.e1, (hk _ _ _ hg1 _ fun z => h0.2.2 (hsl _ z)).trans okw.e2⟩
        refine ⟨F', _, x, env1, okw.sok, rv, hg1, fun σ2 s2 ln kp => ⟨ext_wipe ln kp hsl |>.trans ?_, F', env1, r, a, b, b', mk σ2 s2 kp, hc1, fun F3 H3 g3 => ?_⟩⟩
        · have : ∀ (vs ws : List Nat) (τ : L2.St), (∀ j ∈ ws, j ∈ vs) → L2.wipe (L2.wipe τ ws) vs = L2.wipe τ vs := fun vs ws τ h => ext_wipe (sl := ws) (wipe_length _ _) (fun j hj => wipe_out hj) h
          exact this _ _ _ fun j h => h
        · cases b' with
          | true =>
            rw [if_pos rfl] at hgo ⊢
            obtain ⟨y, he1, hgo⟩ := bind_some hgo
            obtain ⟨rest2, hg2, e2⟩ := map_some hgo
            subst e2
            refine ⟨F3, env1, r, a, b, y, (mk σ2 s2 kp).gr g3, he1, fun w F4 H4 g4 r4 => ?_⟩
            have L4 := (L.gr' g3.g).gr' g4.g
            have at4 := L4.at_
            rw [hid_ne hDr] at at4
            refine ⟨acc, at4, ?_, F4, acc ++ [w], accD ++ [y], rest2, by rw [hid_upd hDr]; exact L4.app hD' r4, g4.fr, g4.ce.mono (Same.refl _) (upd_ne (fun z => hDr z.symm)), by rw [List.length_append]; exact Nat.succ_le_succ l1, hg2, ?_⟩
            · rw [L.rp.length]
              omega
            · rw [ees, List.append_assoc]
              rfl
          | false =>
            rw [if_neg Bool.false_ne_true] at hgo ⊢
            exact ⟨F3, acc, accD, rest, L.gr' g3.g, g3.fr, g3.ce, by omega, hgo, ees⟩
end
def mPost (U : MC) (S : Sl) (O' Ob : List Nat) (F0 H0 : Hp) (r : Addr) (a b : D) (F : Hp) (D : Ends) : Out → Prop
  | .nx e => ∀ σ' F' H', MOk U S O' r a b F' H' σ' e → Fr F0 (hid r H0) O' F' (hid r H') σ' → Same F F' → D.nx σ' H'
  | .bk e => ∀ σ' F' H', MOk U S Ob r a b F' H' σ' e → Fr F0 (hid r H0) Ob F' (hid r H') σ' → Same F F' → D.bk σ' H'
  | .ct e => ∀ σ' F' H', MOk U S Ob r a b F' H' σ' e → Fr F0 (hid r H0) Ob F' (hid r H') σ' → Same F F' → D.ct σ' H'
  | .rt d => ∀ v F' H', MGr U r a b F0 H0 F' H' → Rp U.G F' v d → D.rt v H'
theorem mPost.ff {U : MC} {S : Sl} {O' Ob : List Nat} {F0 H0 F F1 : Hp} {r : Addr} {a b : D} {D : Ends} {out : Out} (q : mPost U S O' Ob F0 H0 r a b F D out) (k : Same F F1) : mPost U S O' Ob F0 H0 r a b F1 D out := by
  cases out with
  | nx e => exact fun σ' F' H' s' f' k' => q σ' F' H' s' f' (k.trans k')
  | bk e => exact fun σ' F' H' s' f' k' => q σ' F' H' s' f' (k.trans k')
  | ct e => exact fun σ' F' H' s' f' k' => q σ' F' H' s' f' (k.trans k')
  | rt d => exact q
def mS (U : MC) (S : Sl) (O O' Ob : List Nat) (f : SS) : TS := fun D σ H => ∃ F0 H0 F env r a b out, MOk U S O r a b F H σ env ∧ Fr F0 (hid r H0) O F (hid r H) σ ∧ f env = some out ∧ mPost U S O' Ob F0 H0 r a b F D out
section
variable {X : Cx} {u : D → Bool} {sp : D → D → D → D} {S : Sl} {O O' O'' Ob : List Nat} {st : Stmt} {rest : List Stmt} {pos : Pos}
theorem mbn : PSs X [] (mS (mc X u sp) S O O Ob sNext) := pss_nil.imp fun D σ H ⟨F0, H0, F, env, r, a, b, out, ok, hf, ho, q⟩ => by
  cases ho
  exact q σ F H ok hf (Same.refl F)
theorem mbc {f g : SS} (h1 : PS X st (mS (mc X u sp) S O O' Ob f)) (h2 : PSs X rest (mS (mc X u sp) S O' O'' Ob g)) : PSs X (st :: rest) (mS (mc X u sp) S O O'' Ob (sSeq f g)) :=
  (pss_cons h1 h2).imp fun D σ H ⟨F0, H0, F, env, r, a, b, out, ok, hf, ho, q⟩ => by
    simp only [sSeq] at ho
    obtain ⟨o1, h1, h2⟩ := bind_some ho
    refine ⟨F0, H0, F, env, r, a, b, o1, ok, hf, h1, ?_⟩
    cases o1 with
    | nx e => exact fun σ' F' H' s' f' k' => ⟨F0, H0, F', e, r, a, b, out, s', f', h2, q.ff k'⟩
    | bk e => cases h2; exact q
    | ct e => cases h2; exact q
    | rt d => cases h2; exact q
theorem mbo {f : SS} (h1 : PS X st (mS (mc X u sp) S O O' Ob f)) : PSs X [st] (mS (mc X u sp) S O O' Ob f) := pss_one h1
theorem mret {e : Expr} {f : SE} (he : PE X e (mV (mc X u sp) S O f)) : PS X (.Return (some e) pos) (mS (mc X u sp) S O O' Ob (sRet f)) :=
  (ps_ret he).imp fun D σ H ⟨F0, H0, F, env, r, a, b, out, ok, hf, ho, q⟩ => by
    simp only [sRet] at ho
    obtain ⟨d, h1, h2⟩ := map_some ho
    subst h2
    exact ⟨F, env, r, a, b, d, ok, h1, fun v F' H' g r' => q v F' H' ⟨hf.gr.trans g.g, g.fr, g.ce⟩ r'⟩
theorem mif_ {c : Expr} {sa sb : List Stmt} {fc : ST} {fa fb : SS} (hc : PT X c (mT (mc X u sp) S O fc)) (ha : PSs X sa (mS (mc X u sp) S O O' Ob fa)) (hb : PSs X sb (mS (mc X u sp) S O O' Ob fb)) : PS X (.If c sa sb pos) (mS (mc X u sp) S O O' Ob (sIf fc fa fb)) :=
  (ps_if hc ha hb).imp fun D σ H ⟨F0, H0, F, env, r, a, b, out, ok, hf, ho, q⟩ => by
    simp only [sIf] at ho
    obtain ⟨k, h1, h2⟩ := bind_some ho
    refine ⟨F, env, r, a, b, k, ok, h1, fun F1 H1 g1 => ?_⟩
    have q' := q.ff g1.ff
    cases k with
    | true => exact ⟨F0, H0, F1, env, r, a, b, out, ok.gr g1, hf.step g1.g, h2, q'⟩
    | false => exact ⟨F0, H0, F1, env, r, a, b, out, ok.gr g1, hf.step g1.g, h2, q'⟩
theorem setD_ne {env : Env} {i j : Nat} {d : Option D} (h : i ≠ j) : (env.set i d).getD j none = env.getD j none := by
  rw [List.getD_eq_getElem?_getD, List.getElem?_set_ne h, ← List.getD_eq_getElem?_getD]
theorem MOk.set {U : MC} {r : Addr} {a b : D} {F H : Hp} {σ : L2.St} {env : Env} (ok : MOk U S O r a b F H σ env) {i : Nat} {v : V} {d : D} (hO : i ∉ O) (h0 : S.off [i]) (rv : Rp U.G F v d) : MOk U S O r a b F H (σ.set i (some v)) (env.set i (some d)) := by
  have n0 : i ≠ S.i0 := fun z => h0.1 (by rw [z]; exact List.mem_singleton.mpr rfl)
  have n1 : i ≠ S.i1 := fun z => h0.2.1 (by rw [z]; exact List.mem_singleton.mpr rfl)
  have n2 : i ≠ S.i2 := fun z => h0.2.2 (by rw [z]; exact List.mem_singleton.mpr rfl)
  exact ⟨ok.s.set hO rv, ok.fr, ok.ce, by rw [List.getElem?_set_ne n0]; exact ok.sg, by rw [setD_ne n1]; exact ok.e1, by rw [setD_ne n2]; exact ok.e2⟩
theorem mset {x : Str} {e : Expr} {f : SE} {pos' : Pos} (i : Nat) (hN : X.N.Nodup) (he : PE X e (mV (mc X u sp) S O f)) (hO : i ∉ O := by decide) (h0 : S.off [i] := by decide) (hi : X.N[i]? = some x := by rfl) (hx : Loc X.env.scope x := by first | exact Or.inl rfl | exact Or.inr rfl) (hs : swapsWith e (some (.Name x pos')) pos.line X.env = pure false := by rfl)
    (hf : X.fn x = true ∨ X.env.scope.names.lookup x = some .local := by first | exact .inl rfl | exact .inr rfl | assumption) : PS X (.Assign [.Name x pos'] e pos) (mS (mc X u sp) S O O Ob (sAsg f (TL.gName i))) :=
  (ps_set hN hi hx he hs hf).imp fun D σ H ⟨F0, H0, F, env, r, a, b, out, ok, hf, ho, q⟩ => by
    simp only [sAsg, TL.gName] at ho
    obtain ⟨d, h1, h2⟩ := bind_some ho
    cases h2
    exact ⟨F, env, r, a, b, d, ok, h1, fun v F1 H1 g1 r1 => q _ F1 H1 ((ok.gr g1).set hO h0 r1) (fr_set (hf.step g1.g) hO) g1.ff⟩
theorem mfor {tg iter : Expr} {body : List Stmt} {fi : SI} {g : SG} {fb : SS} {sl : List Nat} (hp : PassesOwn (model X.prog X.w) X.A X.env X.xe) (hc : X.calm = true) (hi : PI X tg iter (iV (gx X) O fi)) (hg : PG X tg (tG (gx X) O sl g)) (hb : PSs X body (mS (mc X u sp) S O O O fb)) (hk : SgKeep g sl) (hsl : ∀ i ∈ O, i ∉ sl := by decide) (h0 : S.off sl := by decide)
    (hs : ∀ x, foldedSetIterable iter X.env x = pure x := by intro _; rfl) : PS X (.For tg iter body [] pos) (mS (mc X u sp) S O O Ob (sFor fi g fb)) :=
  (ps_for hp hc hi hg hb hs).imp fun D σ H ⟨F0, H0, F, env, r, a, b, out, ok, hf, ho, q⟩ => by
    simp only [sFor] at ho
    obtain ⟨ds, h1, ho⟩ := bind_some ho
    refine ⟨F, env, ds, ok.sok, h1, fun J F1 H1 gq hz hJ => ?_⟩
    have g1 := ok.of gq
    refine ⟨fun i m σ' H' => ∃ F' env', MOk (mc X u sp) S O r a b F' H' σ' env' ∧ Fr F0 (hid r H0) O F' (hid r H') σ' ∧ Same F1 F' ∧ i ≤ ds.length ∧ m = ds.length - i ∧ forGo g fb (ds.drop i) env' = some out,
      ⟨ds.length, F1, env, ok.gr g1, hf.step g1.g, Same.refl F1, Nat.zero_le _, by omega, ho⟩, ?_⟩
    rintro i m σ' H' ⟨F', env', s', f', k', hi, rfl, hgo⟩
    have hJ' := hJ i F' H' k' s'.sok.fh
    cases hd : ds[i]? with
    | none =>
      have hi' : ds.length ≤ i := List.getElem?_eq_none_iff.mp hd
      rw [List.drop_eq_nil_of_le hi'] at hgo
      cases hgo
      exact .inl ⟨hJ'.2 hd, q σ' F' H' s' f' (g1.ff.trans k')⟩
    | some x =>
      have hi' : i < ds.length := (List.getElem?_eq_some_iff.mp hd).1
      have hx : ds[i] = x := (List.getElem?_eq_some_iff.mp hd).2
      have hdr : ds.drop i = x :: ds.drop (i + 1) := by rw [List.drop_eq_getElem_cons hi', hx]
      rw [hdr] at hgo
      simp only [forGo] at hgo
      obtain ⟨env1, hg1, hgo⟩ := bind_some hgo
      obtain ⟨o, hb1, hgo⟩ := bind_some hgo
      refine .inr ⟨(hJ'.1 x hd).1, fun σ2 H2 => ∃ F2 env2, MOk (mc X u sp) S O r a b F2 H2 σ2 env2 ∧ Fr F0 (hid r H0) O F2 (hid r H2) σ2 ∧ Same F' F2 ∧ forGo g fb (ds.drop (i + 1)) env2 = some out, fun σ2 H2 h => ?_, fun v H2 hy => ?_⟩
      · obtain ⟨F2, env2, s2, f2, k2, hg2⟩ := h
        exact ⟨ds.length - (i + 1), by omega, F2, env2, s2, f2, k'.trans k2, hi', rfl, hg2⟩
      · obtain ⟨rfl, rv⟩ := (hJ'.1 x hd).2 v H2 hy
        refine ⟨F', env', x, env1, s'.sok, rv, hg1, fun σ2 s2 ln kp => ⟨F0, H0, F', env1, r, a, b, o, ⟨s2.rehid2 s'.fr s'.ce.nt fun j hj p hp => s'.ne j hj p (by rw [← kp j (hsl j hj)]; exact hp), s'.fr, s'.ce, (kp _ h0.1).trans s'.sg, (hk _ _ _ hg1 _ h0.2.1).trans s'.e1, (hk _ _ _ hg1 _ h0.2.2).trans s'.e2⟩, ⟨f'.gr, fun j hj p hp => f'.own j hj p (by rw [← kp j (hsl j hj)]; exact hp)⟩, hb1, ?_⟩⟩
        cases o with
        | nx e => exact fun σ3 F3 H3 s3 f3 k3 => ⟨F3, e, s3, f3, k3, hgo⟩
        | ct e => exact fun σ3 F3 H3 s3 f3 k3 => ⟨F3, e, s3, f3, k3, hgo⟩
        | bk e =>
          cases hgo
          exact fun σ3 F3 H3 s3 f3 k3 => q σ3 F3 H3 s3 f3 ((g1.ff.trans k').trans k3)
        | rt d =>
          cases hgo
          exact q
end
end TL

set_option Elab.async false
set_option linter.all false
set_option maxRecDepth 100000
namespace TL
open PySem PySem.Spec PyProof.Rows L2
mutual
def deq : D → D → Bool
  | .none, .none => true
  | .bool a, .bool b => decide (a = b)
  | .int a, .int b => decide (a = b)
  | .str a, .str b => decide (a = b)
  | .tuple a, .tuple b => deqs a b
  | .list a, .list b => deqs a b
  | _, _ => false
def deqs : List D → List D → Bool
  | [], [] => true
  | a :: l, b :: m => deq a b && deqs l m
  | _, _ => false
end
mutual
theorem deq_eq : ∀ {a b : D}, deq a b = true → a = b
  | .none, b, h => by cases b <;> simp [deq] at h ⊢
  | .bool x, b, h => by cases b <;> simp [deq] at h ⊢; exact h
  | .int x, b, h => by cases b <;> simp [deq] at h ⊢; exact h
  | .str x, b, h => by cases b <;> simp [deq] at h ⊢; exact h
  | .tuple l, b, h => by
    cases b with
    | tuple m =>
      simp only [deq] at h
      rw [deqs_eq h]
    | _ => simp [deq] at h
  | .list l, b, h => by
    cases b with
    | list m =>
      simp only [deq] at h
      rw [deqs_eq h]
    | _ => simp [deq] at h
  | .dict l, b, h => by cases b <;> simp [deq] at h
theorem deqs_eq : ∀ {l m : List D}, deqs l m = true → l = m
  | [], m, h => by cases m <;> simp [deqs] at h ⊢
  | a :: l, m, h => by
    cases m with
    | nil => simp [deqs] at h
    | cons b m =>
      simp only [deqs, Bool.and_eq_true] at h
      rw [deq_eq h.1, deqs_eq h.2]
end
mutual
def noDict : D → Bool
  | .dict _ => false
  | .tuple l => noDicts l
  | .list l => noDicts l
  | _ => true
def noDicts : List D → Bool
  | [] => true
  | a :: l => noDict a && noDicts l
end
mutual
theorem deq_refl : ∀ {a : D}, noDict a = true → deq a a = true
  | .none, _ => rfl
  | .bool x, _ => by simp [deq]
  | .int x, _ => by simp [deq]
  | .str x, _ => by simp [deq]
  | .tuple l, h => by
    simp only [noDict] at h
    simp only [deq]
    exact deqs_refl h
  | .list l, h => by
    simp only [noDict] at h
    simp only [deq]
    exact deqs_refl h
  | .dict l, h => by simp [noDict] at h
theorem deqs_refl : ∀ {l : List D}, noDicts l = true → deqs l l = true
  | [], _ => rfl
  | a :: l, h => by
    simp only [noDicts, Bool.and_eq_true] at h
    simp only [deqs, deq_refl h.1, deqs_refl h.2, Bool.and_self]
end
@[simp] def sEnd (u : D → Bool) (sp : D → D → D → D) (i1 i2 : Nat) (fk e : SE) : SS := fun env => (fk env).bind fun kd => (e env).bind fun d => (env.getD i1 none).bind fun a => (env.getD i2 none).bind fun b => if (u kd && deq d (sp a b kd)) = true then some (.rt d) else none
@[simp] def sSeqN (f g : SS) : SS := fun env => (f env).bind fun o => match o with
  | .nx e => g e
  | _ => none
@[simp] def sMemo (u : D → Bool) (sp : D → D → D → D) (i1 i2 : Nat) (fk : SE) (blk : SS) : SS := fun env => (fk env).bind fun kd => (blk env).bind fun o => match o with
  | .rt d => (env.getD i1 none).bind fun a => (env.getD i2 none).bind fun b => if (u kd && deq d (sp a b kd)) = true then some (.rt d) else none
  | _ => none
def Has (U : MC) (F H : Hp) (r : Addr) (kd d : D) : Prop := ∃ xs k v, KDat U.P U.w U.G F H r xs ∧ keyD kd = some k ∧ atV xs k = some v ∧ Rp U.G F v d
def mBk (U : MC) (S : Sl) (O : List Nat) (fk : SE) (f : SS) : TS := fun D σ H => ∃ F0 H0 F env r a b d, MOk U S O r a b F H σ env ∧ Fr F0 (hid r H0) O F (hid r H) σ ∧ f env = some (.rt d) ∧
  ∀ σ' F' H' env' kd, MOk U S O r a b F' H' σ' env' → Fr F0 (hid r H0) O F' (hid r H') σ' → Same F F' → fk env' = some kd → U.u kd = true → Has U F' H' r kd d → D.nx σ' H'
theorem atV_put {xs : List KEnt} {k : NestedKey} {b : Addr} {v : V} : atV (putR xs k b v) k = some v := by
  unfold putR
  split
  · rename_i h
    revert h
    induction xs with
    | nil => intro h; cases h
    | cons x xs ih =>
      intro h
      by_cases hk : x.1 = k
      · simp [atV, List.find?_cons, hk]
      · have e : atV (x :: xs) k = atV xs k := by simp [atV, List.find?_cons, hk]
        rw [e] at h
        rw [List.map_cons, if_neg hk]
        have e2 : atV (x :: xs.map fun x => if x.1 = k then (x.1, x.2.1, v) else x) k = atV (xs.map fun x => if x.1 = k then (x.1, x.2.1, v) else x) k := by simp [atV, List.find?_cons, hk]
        rw [e2]
        exact ih h
  · rename_i h
    have h : atV xs k = none := by
      cases e : atV xs k with
      | none => rfl
      | some _ => rw [e] at h; exact absurd rfl h
    unfold atV at h ⊢
    rw [List.find?_append, Option.map_eq_none_iff.mp h]
    simp
section
variable {X : Cx} {u : D → Bool} {sp : D → D → D → D} {S : Sl} {O O' Ob : List Nat}
theorem isK_of {U : MC} {F : Hp} {v : V} {kd : D} (uk : UOk U.u) (hu : U.u kd = true) (r : Rp U.G F v kd) : ∃ k, IsK U.G F v kd k := by
  obtain ⟨L, _, h⟩ := uk.fin
  obtain ⟨k, _, h1, h2⟩ := h kd hu
  obtain ⟨ds, e⟩ := uk.tup kd hu
  subst e
  cases r with
  | tup h3 h4 => exact ⟨k, ⟨_, rfl⟩, .tup h3 h4, h1, h2⟩
theorem upd_hid {r : Addr} {H : Hp} {o : HO} : hid r (upd H r o) = hid r H := by
  funext b
  by_cases hb : b = r
  · subst hb; rw [hid_r, hid_r]
  · rw [hid_ne hb, hid_ne hb, upd_ne hb]
theorem mbk_end {x : Str} {k2 ve : Expr} {fk e : SE} {p2 q1 q2 : Pos} (uk : UOk u) (hu : X.A.units + 64 < cLine) (hk2 : PE X k2 (rV (gx X) O fk)) (hv : PE X ve (mV (mc X u sp) S O e)) (hN : X.N[S.i0]? = some x := by rfl) (hvi : Vis X.env.scope x := by first | exact Or.inl rfl | exact Or.inr (Or.inl rfl) | exact Or.inr (Or.inr rfl)) (hd : (x == ("__debug__" : Str)) = false := by decide)
    (hcd : (x == ("__classdict__" : Str)) = false := by decide)
    (hs : swapsWithSole [.Subscript (.Name x p2) k2 q1] ve q2.line X.env = pure false := by rfl) (hw : swappedStores [.Subscript (.Name x p2) k2 q1] ve X.env = pure none := by rfl)
    (h1 : (assignEach [.Subscript (.Name x p2) k2 q1] X.env).map (·.2) = [assign (.Subscript (.Name x p2) k2 q1) X.env] := by rfl)
    (ha : ∀ v, assign (.Subscript (.Name x p2) k2 q1) X.env v = (do
      let ov ← holding [v] (eval (.Name x p2) X.env)
      let iv ← holding [v, ov] (eval k2 X.env)
      standAt q1
      holding [v, ov, iv] (setItem ov iv v)
      release [v, ov, iv] []) := by intro _; rfl) :
    PSs X [.Assign [.Subscript (.Name x p2) k2 q1] ve q2] (mBk (mc X u sp) S O fk (sEnd u sp S.i1 S.i2 fk e)) :=
  pss_one ((ps_asg hv (pg_sub (pe_var hN hvi hd hcd) hk2 (set_K hu) ha) hs hw h1).imp fun D σ H ⟨F0, H0, F, env, r, a, b, d, ok, hf, ho, q⟩ => by
    simp only [sEnd] at ho
    obtain ⟨kd, h2, ho⟩ := bind_some ho
    obtain ⟨d', h3, ho⟩ := bind_some ho
    obtain ⟨a', h4, ho⟩ := bind_some ho
    obtain ⟨b', h5, ho⟩ := bind_some ho
    rw [ok.e1] at h4
    rw [ok.e2] at h5
    cases h4
    cases h5
    split at ho
    · rename_i hz
      cases ho
      rw [Bool.and_eq_true] at hz
      have ed := deq_eq hz.2
      refine ⟨F, env, r, a, b, d, ok, h3, fun v F1 H1 g1 r1 => ⟨_, ok.sg, F1, env, kd, (ok.gr g1).sok, h2, fun y F2 H2 g2 r2 => ?_⟩⟩
      have gm := (ok.gr g1).of g2
      have ok2 := (ok.gr g1).gr gm
      obtain ⟨xs, c1, hat, c3, hxs⟩ := ok2.ce
      have kdat := celx_dat uk c1 hat c3 hxs
      obtain ⟨k, ik⟩ := isK_of (U := mc X u sp) uk hz.1 r2
      obtain ⟨c, rfl⟩ := ik.ref
      refine ⟨F2, r, xs, kd, k, c, rfl, ok2.sok.fh, kdat, hat, rfl, ik, ?_⟩
      have rv : Rp (gx X) F2 v d := r1.mono g2.ff
      have cel4 : ∀ x ∈ putR xs k c v, ∃ kd, (mc X u sp).u kd = true ∧ keyD kd = some x.1 ∧ Rp (gx X) F2 (.ref x.2.1) kd ∧ Rp (gx X) F2 x.2.2 ((mc X u sp).sp a b kd) := fun z hz2 => by
        rcases putR_mem hz2 with e | hm | ⟨y, hy, hy2, e⟩
        · subst e
          exact ⟨kd, hz.1, ik.ke, ik.rp, by rw [show (mc X u sp).sp a b kd = d from ed.symm]; exact rv⟩
        · exact hxs z hm
        · subst e
          obtain ⟨kd', t1, t2, t3, t4⟩ := hxs y hy
          have : kd' = kd := uk.inj kd' kd t1 hz.1 (by rw [t2, hy2, ik.ke])
          subst this
          exact ⟨kd', t1, t2, t3, by rw [show (mc X u sp).sp a b kd' = d from ed.symm]; exact rv⟩
      have cel : Cel (mc X u sp) F2 (upd H2 r (rawO X.prog X.w r (putR xs k c v))) r a b := ⟨_, kdat.ns, upd_same, putR_nd kdat.nd, cel4⟩
      refine q σ F2 _ env kd ⟨?_, gm.fr, cel, ok.sg, ok.e1, ok.e2⟩ ?_ (g1.ff.trans g2.ff) h2 hz.1 ⟨putR xs k c v, k, v, ?_, ik.ke, atV_put, rv⟩
      · rw [upd_hid]; exact ok2.s
      · rw [upd_hid]; exact (hf.step g1.g).step gm.g
      · exact celx_dat uk kdat.ns upd_same (putR_nd kdat.nd) cel4
    · cases ho)
theorem mbk_cons {f g : SS} {fk : SE} {st : Stmt} {rest : List Stmt} (h1 : PS X st (mS (mc X u sp) S O O [] f)) (h2 : PSs X rest (mBk (mc X u sp) S O fk g)) : PSs X (st :: rest) (mBk (mc X u sp) S O fk (sSeqN f g)) :=
  (pss_cons h1 h2).imp fun D σ H ⟨F0, H0, F, env, r, a, b, d, ok, hf, ho, q⟩ => by
    simp only [sSeqN] at ho
    obtain ⟨o1, h1, h2⟩ := bind_some ho
    cases o1 with
    | nx e => exact ⟨F0, H0, F, env, r, a, b, .nx e, ok, hf, h1, fun σ' F' H' s' f' k' => ⟨F0, H0, F', e, r, a, b, d, s', f', h2, fun σ2 F2 H2 env2 kd s2 f2 k2 => q σ2 F2 H2 env2 kd s2 f2 (k'.trans k2)⟩⟩
    | rt d => cases h2
    | bk e => cases h2
    | ct e => cases h2
theorem Has.mono {U : MC} {F H F' H' : Hp} {r : Addr} {kd d : D} (h : Has U F H r kd d) (k : Same F F') (e : H' r = H r) : Has U F' H' r kd d := by
  obtain ⟨xs, k', v, ⟨h1, h2, h3, h4, h5⟩, hk, ha, rp⟩ := h
  exact ⟨xs, k', v, ⟨h1, h2.imp (fun z => by rw [e]; exact z) (fun ⟨o, z⟩ => ⟨o, by rw [e]; exact z⟩), h3, h4, fun x hx => let ⟨kd, a1, a2, a3⟩ := h5 x hx; ⟨kd, a1, a2, a3.mono k⟩⟩, hk, ha, rp.mono k⟩
theorem mmemo {x : Str} {k1 k3 : Expr} {blk : List Stmt} {fk : SE} {f : SS} {p1 p3 q3 q4 q5 q6 : Pos} (uk : UOk u) (hu : X.A.units + 64 < cLine) (hk1 : PE X k1 (rV (gx X) O fk)) (hk3 : PE X k3 (rV (gx X) O fk))
    (hb : PSs X blk (mBk (mc X u sp) S O fk f)) (hN : X.N[S.i0]? = some x := by rfl) (hvi : Vis X.env.scope x := by first | exact Or.inl rfl | exact Or.inr (Or.inl rfl) | exact Or.inr (Or.inr rfl)) (hd : (x == ("__debug__" : Str)) = false := by decide)
    (hcd : (x == ("__classdict__" : Str)) = false := by decide) (hm : behindInMarks .NotIn (.Name x p1) = false := by first | exact nomark _ | rfl | with_unfolding_all rfl) (hx3 : PlainIx k3 := by exact fun _ _ => rfl) :
    PSs X [.If (.Compare k1 [.NotIn] [.Name x p1] q3) blk [] q4, .Return (some (.Subscript (.Name x p3) k3 q5)) q6] (mS (mc X u sp) S O O' Ob (sMemo u sp S.i1 S.i2 fk f)) :=
  (pss_cons (ps_if (pt_cmpR (o_ninK hu) hk1 (pe_var hN hvi hd hcd) hm) hb pss_nil) (pss_one (ps_ret (pe_ix (ix_K hu) (pe_var hN hvi hd hcd) hk3 hx3)))).imp fun D σ H ⟨F0, H0, F, env, r, a, b, out, ok, hf, ho, q⟩ => by
    simp only [sMemo] at ho
    obtain ⟨kd, h1, ho⟩ := bind_some ho
    obtain ⟨o1, h2, ho⟩ := bind_some ho
    cases o1 with
    | nx e => cases ho
    | bk e => cases ho
    | ct e => cases ho
    | rt d =>
      simp only at ho
      obtain ⟨a', h4, ho⟩ := bind_some ho
      obtain ⟨b', h5, ho⟩ := bind_some ho
      rw [ok.e1] at h4
      rw [ok.e2] at h5
      cases h4
      cases h5
      split at ho
      · rename_i hz
        cases ho
        rw [Bool.and_eq_true] at hz
        have ed := deq_eq hz.2
        -- the end: known[KEY]
        have fin : ∀ σ' F' H' env' kd', MOk (mc X u sp) S O r a b F' H' σ' env' → Fr F0 (hid r H0) O F' (hid r H') σ' → Same F F' → fk env' = some kd' → u kd' = true → Has (mc X u sp) F' H' r kd' d →
            tOp (rIxK X) (tVar S.i0) (rV (gx X) O fk) σ' H' D.rt := fun σ' F' H' env' kd' ok' hf' sm' hk' hu' has => by
          refine ⟨_, ok'.sg, F', env', kd', ok'.sok, hk', fun y F2 H2 g2 r2 => ?_⟩
          have gm := ok'.of g2
          obtain ⟨xs, _, h2', _⟩ := ok'.ce
          have has2 := has.mono g2.ff (show H2 r = H' r by rw [g2.hh.nn r _ h2' rfl, h2'])
          obtain ⟨xs, k, v, kdat, ke, hat, rv⟩ := has2
          obtain ⟨k2, ik⟩ := isK_of (U := mc X u sp) uk hu' r2
          have ek : k2 = k := by
            have := ik.ke
            rw [ke] at this
            exact (Option.some.inj this).symm
          subst ek
          exact ⟨F2, r, xs, kd', k2, v, rfl, (ok'.gr gm).sok.fh, kdat, ik, hat, q v F2 H2 ⟨hf'.gr.trans gm.g, gm.fr, gm.ce⟩ rv⟩
        refine ⟨F, env, kd, ok.sok, h1, fun y F1 H1 g1 r1 => ⟨_, ok.sg, ?_⟩⟩
        have gm := ok.of g1
        have ok1 := ok.gr gm
        obtain ⟨xs, kdat, hxs⟩ := ok1.ce.dat uk
        obtain ⟨k, ik⟩ := isK_of (U := mc X u sp) uk hz.1 r1
        refine ⟨F1, r, xs, kd, k, rfl, ok1.sok.fh, kdat, ik, ?_⟩
        cases hat : atV xs k with
        | none => exact ⟨true, rfl, F0, H0, F1, env, r, a, b, d, ok1, hf.step gm.g, h2, fun σ' F' H' env' kd' s' f' k' hk' hu' has => fin σ' F' H' env' kd' s' f' (g1.ff.trans k') hk' hu' has⟩
        | some v =>
          obtain ⟨z, hz1, hz2, hz3⟩ := atV_some hat
          obtain ⟨kd', t1, t2, t3, t4⟩ := hxs z hz1
          have e : kd' = kd := uk.inj kd' kd t1 hz.1 (by rw [t2, hz2, ik.ke])
          subst e
          exact ⟨false, rfl, fin σ F1 H1 env kd' ok1 (hf.step gm.g) g1.ff h1 hz.1 ⟨xs, k, v, kdat, ik.ke, hat, by rw [← hz3, ed]; exact t4⟩⟩
      · cases ho
end
end TL

set_option Elab.async false
set_option linter.all false
set_option maxRecDepth 100000
namespace TL
open PySem PySem.Spec PyProof.Rows L2
def rngD (lo hi : Int) : D := .dict [(.bool true, .tuple [.int lo, .int hi])]
def rngItems : D → Option (List D)
  | .dict [(.bool true, .tuple [.int lo, .int hi])] => rangeD lo hi
  | _ => none
@[simp] def eRngV (a b : SE) : SE := fun env => (a env).bind fun x => (b env).bind fun y => (toI x).bind fun n => (toI y).map fun m => rngD n m
@[simp] def iRngO (a : SE) : SI := fun env => (a env).bind rngItems
@[simp] def iRev2 (a b : SE) : SI := fun env => (a env).bind fun x => (b env).bind fun y => (toI x).bind fun n => (toI y).bind fun m => (rangeD n m).map List.reverse
section
variable {X : Cx} {O : List Nat} {a b e tg : Expr} {fa fb : SE} {p pos : Pos}
theorem cr_range1 : CallR X (.type "range") (fun vs H Q => ∃ j, vs = [V.int j] ∧ ∀ p, H p = none → Q (.ref p) (upd H p (.rng 0 j))) := by
  intro pins s σ H vs us Q I r h
  obtain ⟨j, rfl, q⟩ := h
  cases r with
  | cons r rr =>
    cases rr
    obtain ⟨t, rfl⟩ := r
    refine call_range_1 ⟨.ref s.heap.objs.size, upd H s.heap.objs.size (.rng 0 j), I.laid (t' := _) (fun b o e => Heap.get?_push_of_some _ e) (Nat.le_refl _) ?_, rfl, q _ (I.hok.fresh (Nat.le_refl _))⟩
    exact ⟨_, _, _, Heap.get?_push_size _ rfl⟩
theorem erngV1 (hg : Gl X "range") (hm : X.mg "range" = none) (ha : PE X a (rV (gx X) O fa)) (hs : starEach [a] X.env = (false, eval a X.env) :: starEach [] X.env := by rfl) :
    PE X (.Call (.Name "range" p) [a] [] pos) (rV (gx X) O (eRngV (eC (.int 0)) fa)) :=
  (pe_callTy cr_range1 hg hm (by decide +kernel) (pa_cons ha pa_nil hs) (by decide) (by decide) hs rfl).imp fun σ H Q ⟨F, env, d, hs, hf, q⟩ => by
    simp only [eRngV, eC, Option.bind_some, toI] at hf
    obtain ⟨x, h1, hf⟩ := bind_some hf
    obtain ⟨n, h2, hf⟩ := map_some hf
    subst hf
    have e2 := toI_some h2
    subst e2
    refine ⟨F, env, _, hs, h1, fun v F1 H1 g1 r1 => ?_⟩
    cases r1
    refine ⟨n, rfl, fun p hp => ?_⟩
    have g2 : Gr F1 H1 (upd F1 p (.rng 0 n)) (upd H1 p (.rng 0 n)) := Gr.new g1.fh hp
    exact q _ _ _ (g1.trans g2) (.rng upd_same)
def iRngS (tl : TE) : TI := fun σ H R => tl σ H fun x H1 => ∃ a lo hi, x = .ref a ∧ H1 a = some (.rng lo hi) ∧ (-(2 ^ 62) ≤ lo ∧ lo < 2 ^ 62 ∧ -(2 ^ 62) ≤ hi ∧ hi < 2 ^ 62) ∧ R (Itr lo (hi - lo).toNat) H1
theorem pi_rngO {tl : TE} (hl : PE X e tl) : PI X tg e (iRngS tl) := by
  refine ⟨fun pins s σ H R I h => ?_⟩
  refine thn (hl.run pins s σ H _ I h) fun v s1 ⟨x, H1, I1, r1, q1⟩ => ?_
  obtain ⟨a, lo, hi, e, ha, ⟨h1, h2, h3, h4⟩, q⟩ := q1
  subst e
  cases r1
  obtain ⟨t, u, v, ho⟩ := (show ObjOk X.prog X.w H1 s1.heap a (.rng lo hi) from I1.hok a _ ha)
  refine wpAny_pyIter_range (show IsRange s1.heap a lo hi 1 t u v from ho) (small_one h1 h2 h3 h4) ?_
  refine ⟨s1.heap.objs.size, [s1.heap.objs.size], _, _, H1, rfl, I1.kept (t' := s1.toks) fun b o e => Heap.get?_push_of_some _ e, turn_range _ lo (hi - lo).toNat, ?_, fun b hb => ?_, q⟩
  · have e1 : lo + ((0 : Nat) : Int) * 1 = lo := by simp
    have e2 : (((hi - lo).toNat : Nat) : Int) - ((0 : Nat) : Int) = Builtin.Range.rangeSize lo hi 1 := by rw [rangeSize_one]; split <;> omega
    show IsRangeIter _ _ (lo + ((0 : Nat) : Int) * 1) ((((hi - lo).toNat : Nat) : Int) - ((0 : Nat) : Int)) 1
    rw [e1, e2]
    exact Heap.get?_push_size _ rfl
  · have e : b = s1.heap.objs.size := by simpa using hb
    subst e
    exact I1.fpOk (Nat.le_refl _) (I1.hok.fresh (Nat.le_refl _))
theorem irngO (ha : PE X a (rV (gx X) O fa)) : PI X tg a (iV (gx X) O (iRngO fa)) :=
  (pi_rngO ha).imp fun σ H R ⟨F, env, ds, hs, hf, q⟩ => by
    simp only [iRngO] at hf
    obtain ⟨x, h1, h2⟩ := bind_some hf
    refine ⟨F, env, x, hs, h1, fun v F1 H1 g1 r1 => ?_⟩
    unfold rngItems at h2
    split at h2
    · rename_i lo hi
      obtain ⟨z0, z00, z1, z2, z3, e4⟩ := rngSplit h2
      subst e4
      cases r1 with
      | rng h => exact ⟨_, lo, hi, rfl, g1.fh _ _ h, ⟨by omega, by omega, by omega, by omega⟩, q _ F1 H1 g1 (by rw [range_len]; exact z3) (itv_range lo _)⟩
    · cases h2
end
section
variable {X : Cx} {O : List Nat} {a b e tg : Expr} {fa fb : SE} {p pos p2 pos2 : Pos}
end
@[simp] def sExtO (i j : Nat) : SS := fun env => match env.getD i none, env.getD j none with
  | some (.list ds), some (.list es) => if ds.length + es.length ≤ sizeLine then some (.nx (env.set i (some (.list (ds ++ es))))) else none
  | _, _ => none
section
variable {X : Cx} {R : RK} {O O' Ob : List Nat} {pos : Pos}
end
end TL

set_option Elab.async false
set_option linter.all false
set_option maxRecDepth 100000
namespace TL
open PySem PySem.Spec PyProof.Rows L2
def runM (np j nl : Nat) (body : SS) (ds : List D) : Option D :=
  if ds.length = np then (body ((ds.take j).map some ++ none :: ((ds.drop j).map some ++ List.replicate nl none))).bind outD else none
def EnvR (G : Gx) (F : Hp) (env : Env) (σ : L2.St) : Prop := env.length = σ.length ∧ ∀ (i : Nat) (d : D), env[i]? = some (some d) → ∃ v, σ[i]? = some (some v) ∧ Rp G F v d
theorem envr_app {G : Gx} {F : Hp} {e1 e2 : Env} {s1 s2 : L2.St} (a : EnvR G F e1 s1) (b : EnvR G F e2 s2) : EnvR G F (e1 ++ e2) (s1 ++ s2) := by
  refine ⟨by rw [List.length_append, List.length_append, a.1, b.1], fun i d h => ?_⟩
  by_cases hi : i < e1.length
  · rw [List.getElem?_append_left hi] at h
    obtain ⟨v, h1, h2⟩ := a.2 i d h
    exact ⟨v, by rw [List.getElem?_append_left (by rw [← a.1]; exact hi)]; exact h1, h2⟩
  · rw [List.getElem?_append_right (by omega)] at h
    obtain ⟨v, h1, h2⟩ := b.2 _ d h
    exact ⟨v, by rw [List.getElem?_append_right (by rw [← a.1]; omega), ← a.1]; exact h1, h2⟩
theorem envr_some {G : Gx} {F : Hp} {us : List V} {ds : List D} (r : RpAll G F us ds) : EnvR G F (ds.map some) (us.map some) := by
  refine ⟨by rw [List.length_map, List.length_map, r.length], fun i d h => ?_⟩
  rw [List.getElem?_map] at h
  cases q : ds[i]? with
  | none => rw [q] at h; cases h
  | some d' =>
    rw [q] at h
    cases h
    obtain ⟨v, h1, h2⟩ := r.get q
    exact ⟨v, by rw [List.getElem?_map, h1]; rfl, h2⟩
theorem envr_none {G : Gx} {F : Hp} {v : Option V} : EnvR G F [none] [v] := ⟨rfl, fun i d h => by
  cases i with
  | zero => cases h
  | succ i => simp at h⟩
theorem envr_rep {G : Gx} {F : Hp} (n : Nat) : EnvR G F (List.replicate n none) (List.replicate n none) := ⟨by simp, fun i d h => by
  rw [List.getElem?_replicate] at h
  split at h <;> cases h⟩
theorem startM {N : List Str} {us : List V} {r : Addr} {ds : List D} {F H : Hp} {j nl : Nat} {G : Gx} (hN : N.length = ds.length + 1 + nl) (sm : Fz G F H) (rp : RpAll G F us ds) :
    SOk G [] F H (L2.start N (us.take j ++ .ref r :: us.drop j)) ((ds.take j).map some ++ none :: ((ds.drop j).map some ++ List.replicate nl none)) := by
  have hl : (us.take j ++ V.ref r :: us.drop j).length = ds.length + 1 := by
    rw [List.length_append, List.length_cons, List.length_take, List.length_drop, rp.length]
    omega
  have e : L2.start N (us.take j ++ .ref r :: us.drop j) = (us.take j).map some ++ ([some (V.ref r)] ++ ((us.drop j).map some ++ List.replicate nl none)) := by
    unfold L2.start
    rw [List.map_append, List.map_cons, hl, hN]
    rw [show ds.length + 1 + nl - (ds.length + 1) = nl by omega]
    simp
  have er := envr_app (envr_some (rp.take j)) (envr_app (e1 := [none]) (envr_none (v := some (V.ref r))) (envr_app (envr_some (rp.drop j)) (envr_rep (G := G) (F := F) nl)))
  rw [← e] at er
  exact ⟨sm.sm, er.1, fun i d h _ => er.2 i d h, fun i h => (by cases h), fun i h => (by cases h), sm.tb⟩
theorem env_at {ds : List D} {j c i nl : Nat} {a : D} (h : ds[c]? = some a) (hi : (c < j ∧ i = c) ∨ (j ≤ c ∧ i = c + 1)) : ((ds.take j).map some ++ none :: ((ds.drop j).map some ++ List.replicate nl none)).getD i none = some a := by
  have hc : c < ds.length := (List.getElem?_eq_some_iff.mp h).1
  rw [List.getD_eq_getElem?_getD]
  rcases hi with ⟨h1, rfl⟩ | ⟨h1, rfl⟩
  · rw [List.getElem?_append_left (by rw [List.length_map, List.length_take]; omega), List.getElem?_map, List.getElem?_take, if_pos h1, h]
    rfl
  · have hl : ((ds.take j).map some).length = j := by rw [List.length_map, List.length_take]; omega
    rw [List.getElem?_append_right (by omega), hl, show c + 1 - j = (c - j) + 1 by omega, List.getElem?_cons_succ,
      List.getElem?_append_left (by rw [List.length_map, List.length_drop]; omega), List.getElem?_map, List.getElem?_drop, show j + (c - j) = c by omega, h]
    rfl
section
variable {P : Program} {w : World} {G : Gx} {base : Heap} {u : D → Bool} {sp : D → D → D → D} {S : Sl}
theorem runM_go {N ps : List Str} {n j nl c1 c2 : Nat} {body : SS} {vs : List V} {H : Hp} {Q : VK} {E : XK} {U : MC} (hN : N.length = ps.length + nl) (hps : ps.length = n + 1) (h0 : S.i0 = j ∧ j ≤ n) (h1 : (c1 < j ∧ S.i1 = c1) ∨ (j ≤ c1 ∧ S.i1 = c1 + 1)) (h2 : (c2 < j ∧ S.i2 = c2) ∨ (j ≤ c2 ∧ S.i2 = c2 + 1))
    (h : spM U n j c1 c2 (runM n j nl body) vs H Q E) : mS U S [] [] [] body { nx := fun _ H' => Q .non H', rt := Q } (L2.start N vs) H := by
  obtain ⟨F, r, us, ds, a, b, d, rfl, sm, fr, ce, rp, hl, ha, hb, hm, q⟩ := h
  simp only [runM, hl, if_pos rfl] at hm
  obtain ⟨out, h3, h4⟩ := bind_some hm
  have lu := rp.length
  refine ⟨F, H, F, _, r, a, b, out, ⟨startM (by omega) sm rp, fr, ce, ?_, env_at ha h1, env_at hb h2⟩, ⟨Gr.refl sm.sm, fun i h => by cases h⟩, h3, ?_⟩
  · unfold L2.start
    have hlt : (us.take j).length = j := by rw [List.length_take]; omega
    rw [h0.1, List.getElem?_append_left (by rw [List.length_map, List.length_append, hlt, List.length_cons]; omega), List.getElem?_map, List.getElem?_append_right (by omega), hlt, Nat.sub_self]
    rfl
  · cases out with
    | nx e =>
      cases h4
      exact fun σ' F' H' s' f' k' => q .non F' H' ⟨f'.gr, s'.fr, s'.ce⟩ .non
    | rt d' =>
      cases h4
      exact q
    | bk e => cases h4
    | ct e => cases h4
theorem fnM {x qual : Str} {st : Stmt} {f : Addr} {fd : FuncData} {N ps : List Str} {k n j nl c1 c2 : Nat} {body : SS} (Fn : Fun G.K x qual st f fd) (Sc : FnScope N ps (defScope st)) (hN : N.length = ps.length + nl) (hps : ps.length = n + 1) (h0 : S.i0 = j ∧ j ≤ n) (h1 : (c1 < j ∧ S.i1 = c1) ∨ (j ≤ c1 ∧ S.i1 = c1 + 1)) (h2 : (c2 < j ∧ S.i2 = c2) ∨ (j ≤ c2 ∧ S.i2 = c2 + 1))
    (hb : ∀ (cdv : Value) (A : Around) (outer : List PySem.Env) (s : Shared) (H : Hp) (E : XK), Room k (A.deeper (envOfC qual (defScope st) s.heap.objs.size f cdv)) →
      PSs (cxOf CX0 P w G.K G.mg base N qual (defScope st) f cdv A outer s H E).nox (defBody st) (mS ⟨P, w, G, u, sp⟩ S [] [] [] body)) : FnOk P w G.K G.mg base CX0 (k + 1) f fd ps (spM ⟨P, w, G, u, sp⟩ n j c1 c2 (runM n j nl body)) := by
  refine Fn.ok Sc (fun vs H Q E h => ?_) (fun cdv A outer s H vs Q E hr h => ⟨_, hb cdv A outer s H E hr, runM_go hN hps h0 h1 h2 h⟩)
  obtain ⟨F, r, us, ds, a, b, d, rfl, sm, fr, ce, rp, hl, _, _⟩ := h
  rw [List.length_append, List.length_cons, List.length_take, List.length_drop, rp.length, hps]
  omega
theorem fnMC {x qual : Str} {st : Stmt} {f cc : Addr} {fd : FuncData} {N ps : List Str} {k n j nl c1 c2 : Nat} {body : SS} (Fn : FunC G.K x qual st f fd cc) (Sc : FnScope N ps (defScope st)) (hN : N.length = ps.length + nl) (hps : ps.length = n + 1) (h0 : S.i0 = j ∧ j ≤ n) (h1 : (c1 < j ∧ S.i1 = c1) ∨ (j ≤ c1 ∧ S.i1 = c1 + 1)) (h2 : (c2 < j ∧ S.i2 = c2) ∨ (j ≤ c2 ∧ S.i2 = c2 + 1))
    (hb : ∀ (A : Around) (outer : List PySem.Env) (s : Shared) (H : Hp) (E : XK), Room k (A.deeper (envOfC qual (defScope st) s.heap.objs.size f (.ref cc))) →
      PSs (cxOf CX0 P w G.K G.mg base N qual (defScope st) f (.ref cc) A outer s H E).nox (defBody st) (mS ⟨P, w, G, u, sp⟩ S [] [] [] body)) : FnOk P w G.K G.mg base CX0 (k + 1) f fd ps (spM ⟨P, w, G, u, sp⟩ n j c1 c2 (runM n j nl body)) := by
  obtain ⟨oc, od, kV, doc, pm, an, ct, osl, rfl, lk, hcd⟩ := Fn.ex
  refine fn_of lk hcd Sc (fun vs H Q E h => ?_) fun A outer s H vs Q E hr h => ⟨_, (hb A outer s H E hr).nox, runM_go hN hps h0 h1 h2 h⟩
  obtain ⟨F, r, us, ds, a, b, d, rfl, sm, fr, ce, rp, hl, _, _⟩ := h
  rw [List.length_append, List.length_cons, List.length_take, List.length_drop, rp.length, hps]
  omega
end
section
variable {X : Cx} {u : D → Bool} {sp : D → D → D → D} {S : Sl} {O O' O'' Ob : List Nat} {st : Stmt} {rest : List Stmt} {pos : Pos}
@[simp] def sKnown (i0 i1 i2 : Nat) (f : SS) : SS := fun env => (env.getD i1 none).bind fun _ => (env.getD i2 none).bind fun _ => f (env.set i0 none)
theorem mAsg_set {a : SE} {i : Nat} {te : TE} {D : Ends} {σ : L2.St} {H : Hp} (hte : ∀ Q, mV (mc X u sp) S O a σ H Q → te σ H Q) (hO : i ∉ O) (h0 : S.off [i]) (h : mS (mc X u sp) S O O Ob (sAsg a (TL.gName i)) D σ H) : tAsg te (L2.gName i) D σ H := by
  obtain ⟨F0, H0, F, env, r, a, b, out, ok, hf, ho, q⟩ := h
  simp only [sAsg, TL.gName] at ho
  obtain ⟨d, h1, h2⟩ := bind_some ho
  cases h2
  exact hte _ ⟨F, env, r, a, b, d, ok, h1, fun v F1 H1 g1 r1 => q _ F1 H1 ((ok.gr g1).set hO h0 r1) (fr_set (hf.step g1.g) hO) g1.ff⟩
theorem msetL {y : Str} {py : Pos} {elt tg iter : Expr} {ifs : List Expr} {scope : Scope} {own : List (Str × Nat)} {spos : Pos} {fi : SI} {g : SG} {c : ST} {f : SE} {sl : List Nat} (i : Nat) (hc : X.calm = true) (hN : X.N.Nodup) (hsw : swapsWith (.ListComp elt [⟨tg, iter, ifs, 0⟩] scope pos) (some (.Name y py)) spos.line X.env = pure true)
    (hi : PI X tg iter (iV (gx X) O fi)) (ok : BlkOk X.N X.env.scope scope own)
    (hg : ∀ (s : Shared) (H : Hp) (C : Addr) (cl : List (Str × Addr)) (fp : List Addr), PG (X.blk s H scope (compEnvC scope cl C X.env) fp) tg (tG (gx X) O sl g)) (ht : ∀ (s : Shared) (H : Hp) (C : Addr) (cl : List (Str × Addr)) (fp : List Addr), PTs (X.blk s H scope (compEnvC scope cl C X.env) fp) ifs (mT (mc X u sp) S O c))
    (he : ∀ (s : Shared) (H : Hp) (C : Addr) (cl : List (Str × Addr)) (fp : List Addr), PE (X.blk s H scope (compEnvC scope cl C X.env) fp) elt (mV (mc X u sp) S O f)) (hk : SgKeep g sl) (hO' : i ∉ O := by decide) (h0' : S.off [i] := by decide) (hy : X.N[i]? = some y := by rfl) (hyl : X.env.scope.names.lookup y = some .local := by rfl) (hsl : ∀ j ∈ sl, j ∈ own.map (·.2) := by decide) (hO : ∀ j ∈ own.map (·.2), j ∉ O := by decide) (h0 : S.off (own.map (·.2)) := by decide) (hs : ∀ x, foldedSetIterable iter X.env x = pure x := by intro _; rfl) :
    PS X (.Assign [.Name y py] (.ListComp elt [⟨tg, iter, ifs, 0⟩] scope pos) spos) (mS (mc X u sp) S O O Ob (sAsg (eLc (own.map (·.2)) fi g c f) (TL.gName i))) :=
  (ps_setLc hc hN hy hyl hsw hi ok hg ht he hs).imp fun D σ H h => mAsg_set (fun Q q => mlc_read hk hsl hO h0 q) hO' h0' h
end
end TL

set_option Elab.async false
set_option linter.all false
set_option maxRecDepth 100000
namespace LB
open PySem TL
structure Wd where
  n : Int
  m0 : List Int
  m1 : List Int
  ar : List (Int × Int)
def tI (l : List Int) : D := .tuple (l.map .int)
def tP (l : List (Int × Int)) : D := .tuple (l.map prD)
def Wd.d (w : Wd) : D := .tuple [.int w.n, .tuple [tI w.m0, tI w.m1], tP w.ar]
def inOf (d : D) : List Int := match d with
  | .tuple l => (intsOf l).getD []
  | _ => []
def prOf (d : D) : List (Int × Int) := match d with
  | .tuple l => (prsOf l).getD []
  | _ => []
def wdOf : D → Wd
  | .tuple [.int n, .tuple [a, b], c] => ⟨n, inOf a, inOf b, prOf c⟩
  | _ => ⟨0, [], [], []⟩
theorem intsOf_map : ∀ l : List Int, intsOf (l.map .int) = some l
  | [] => rfl
  | i :: l => by rw [List.map_cons, intsOf, intsOf_map l]; rfl
theorem prsOf_map : ∀ l : List (Int × Int), prsOf (l.map prD) = some l
  | [] => rfl
  | (i, j) :: l => by
    rw [List.map_cons]
    show (prsOf (l.map prD)).map ((i, j) :: ·) = _
    rw [prsOf_map l]; rfl
theorem inOf_tI (l : List Int) : inOf (tI l) = l := by
  show (intsOf (l.map .int)).getD [] = l
  rw [intsOf_map]; rfl
theorem prOf_tP (l : List (Int × Int)) : prOf (tP l) = l := by
  show (prsOf (l.map prD)).getD [] = l
  rw [prsOf_map]; rfl
theorem wdOf_d (w : Wd) : wdOf w.d = w := by
  show (⟨w.n, inOf (tI w.m0), inOf (tI w.m1), prOf (tP w.ar)⟩ : Wd) = w
  rw [inOf_tI, inOf_tI, prOf_tP]
def fitB (w u : Wd) (p q : Int × Int) : Bool :=
  decide (decide (p.1 = q.1) = decide (p.2 = q.2)) && (decide (decide (p.1 ∈ w.m0) = decide (p.2 ∈ u.m0)) && decide (decide (p.1 ∈ w.m1) = decide (p.2 ∈ u.m1)))
  && (decide (decide ((p.1, q.1) ∈ w.ar) = decide ((p.2, q.2) ∈ u.ar)) && decide (decide ((q.1, p.1) ∈ w.ar) = decide ((q.2, p.2) ∈ u.ar)))
def growB (w u : Wd) (ps : List (Int × Int)) (p : Int × Int) : Bool := fitB w u p p && ps.all fun q => fitB w u p q
def putP (ps : List (Int × Int)) (p : Int × Int) : List (Int × Int) := if p ∈ ps then ps else isort ltPr (ps ++ [p])
def canB (w u : Wd) : Nat → List (Int × Int) → Bool
  | 0, _ => true
  | k + 1, ps => ((rangeI 0 w.n.toNat).all fun a => (rangeI 0 u.n.toNat).any fun b => growB w u ps (a, b) && canB w u k (putP ps (a, b))) &&
    (rangeI 0 u.n.toNat).all fun b => (rangeI 0 w.n.toNat).any fun a => growB w u ps (a, b) && canB w u k (putP ps (a, b))
def spGo (one two key : D) : D := match key with
  | .tuple [ps, .int k] => .bool (canB (wdOf one) (wdOf two) k.toNat (prOf ps))
  | _ => .none
def inR (n : Int) (p : Int × Int) : Bool := decide (0 ≤ p.1) && decide (p.1 < n) && decide (0 ≤ p.2) && decide (p.2 < n)
def ascF : List (Int × Int) → Bool
  | [] => true
  | [_] => true
  | p :: q :: r => decide (p.1 < q.1) && ascF (q :: r)
def okGo (ps : List (Int × Int)) (k : Int) : Bool := decide (0 ≤ k) && ((ps.all (inR 8) && Nat.ble (ps.length + k.toNat) 3) || (ps.all (inR 6) && (ascF ps && Nat.ble k.toNat 6)))
def uGo : D → Bool
  | .tuple [.tuple l, .int k] => match prsOf l with
    | some ps => okGo ps k
    | none => false
  | _ => false
def upto {α : Type} (A : List α) : Nat → List (List α)
  | 0 => [[]]
  | n + 1 => [] :: A.flatMap fun a => (upto A n).map (a :: ·)
theorem flat_lenM {α β : Type} (f : α → List β) (m : Nat) : ∀ l : List α, (∀ a ∈ l, (f a).length = m) → (l.flatMap f).length = l.length * m
  | [], _ => by simp
  | a :: l, h => by
    rw [List.flatMap_cons, List.length_append, flat_lenM f m l fun b hb => h b (List.mem_cons_of_mem _ hb), h a List.mem_cons_self, List.length_cons, Nat.succ_mul, Nat.add_comm]
theorem upto_len {α : Type} (A : List α) (n : Nat) : (upto A (n + 1)).length = 1 + A.length * (upto A n).length := by
  show ([] :: A.flatMap fun a => (upto A n).map (a :: ·)).length = _
  rw [List.length_cons, flat_lenM _ (upto A n).length A fun a _ => by rw [List.length_map], Nat.add_comm]
theorem upto_mem {α : Type} {A : List α} : ∀ {n : Nat} {l : List α}, l.length ≤ n → (∀ a ∈ l, a ∈ A) → l ∈ upto A n
  | 0, l, h, _ => by
    have : l = [] := List.length_eq_zero_iff.mp (by omega)
    subst this
    exact List.mem_cons_self
  | n + 1, [], _, _ => List.mem_cons_self
  | n + 1, a :: l, h, ha => List.mem_cons_of_mem _ (List.mem_flatMap.mpr ⟨a, ha a List.mem_cons_self, List.mem_map.mpr ⟨l, upto_mem (by simpa using h) fun b hb => ha b (List.mem_cons_of_mem _ hb), rfl⟩⟩)
def sq (n : Nat) : List (Int × Int) := (rangeI 0 n).flatMap fun a => (rangeI 0 n).map fun b => (a, b)
theorem sq_len (n : Nat) : (sq n).length = n * n := by
  unfold sq
  rw [flat_lenM _ n _ fun a _ => by rw [List.length_map, rangeI_len], rangeI_len]
theorem sq_mem {n : Nat} {p : Int × Int} (h : inR n p = true) : p ∈ sq n := by
  simp only [inR, Bool.and_eq_true, decide_eq_true_eq] at h
  exact List.mem_flatMap.mpr ⟨p.1, rangeI_mem.mpr (by omega), List.mem_map.mpr ⟨p.2, rangeI_mem.mpr (by omega), rfl⟩⟩
def ascL : Nat → Int → List (List (Int × Int))
  | 0, _ => [[]]
  | n + 1, lo => ascL n (lo + 1) ++ (rangeI 0 6).flatMap fun b => (ascL n (lo + 1)).map ((lo, b) :: ·)
theorem ascL_len : ∀ (n : Nat) (lo : Int), (ascL n lo).length = 7 ^ n
  | 0, _ => rfl
  | n + 1, lo => by
    rw [ascL, List.length_append, flat_lenM _ (7 ^ n) _ fun b _ => by rw [List.length_map, ascL_len], ascL_len, rangeI_len, Nat.pow_succ]
    omega
theorem ascF_lt : ∀ {p : Int × Int} {l : List (Int × Int)}, ascF (p :: l) = true → ∀ q ∈ l, p.1 < q.1
  | _, [], _, _, h => by cases h
  | p, q :: r, h, x, hx => by
    simp only [ascF, Bool.and_eq_true, decide_eq_true_eq] at h
    rcases List.mem_cons.mp hx with rfl | hx
    · exact h.1
    · have := ascF_lt h.2 x hx
      omega
theorem ascF_tail {p : Int × Int} {l : List (Int × Int)} (h : ascF (p :: l) = true) : ascF l = true := by
  cases l with
  | nil => rfl
  | cons q r =>
    simp only [ascF, Bool.and_eq_true] at h
    exact h.2
theorem ascL_nil : ∀ (n : Nat) (lo : Int), [] ∈ ascL n lo
  | 0, _ => List.mem_cons_self
  | n + 1, lo => List.mem_append_left _ (ascL_nil n (lo + 1))
theorem ascL_mem : ∀ {n : Nat} {lo : Int} {l : List (Int × Int)}, ascF l = true → (∀ p ∈ l, lo ≤ p.1 ∧ p.1 < lo + n ∧ 0 ≤ p.2 ∧ p.2 < 6) → l ∈ ascL n lo
  | n, lo, [], _, _ => ascL_nil n lo
  | 0, lo, p :: l, _, h => by have := h p List.mem_cons_self; omega
  | n + 1, lo, p :: l, ha, h => by
    have hp := h p List.mem_cons_self
    have hl := ascF_lt ha
    rw [ascL]
    by_cases e : p.1 = lo
    · refine List.mem_append_right _ (List.mem_flatMap.mpr ⟨p.2, rangeI_mem.mpr (by omega), List.mem_map.mpr ⟨l, ascL_mem (ascF_tail ha) fun q hq => ?_, ?_⟩⟩)
      · have := h q (List.mem_cons_of_mem _ hq)
        have := hl q hq
        omega
      · rw [← e]
    · refine List.mem_append_left _ (ascL_mem ha fun q hq => ?_)
      have := h q hq
      rcases List.mem_cons.mp hq with rfl | hq
      · omega
      · have := hl q hq
        omega
def kPr (p : Int × Int) : NestedKey := .tup [.num p.1, .num p.2]
def kGo (x : List (Int × Int) × Int) : NestedKey := .tup [.tup (x.1.map kPr), .num x.2]
theorem keyD_pr (p : Int × Int) : keyD (prD p) = some (kPr p) := rfl
theorem keyAll_prs : ∀ ps : List (Int × Int), keyAll (ps.map prD) = some (ps.map kPr)
  | [] => rfl
  | p :: ps => by
    rw [List.map_cons, keyAll, keyD_pr, keyAll_prs ps]
    rfl
theorem keyD_go (ps : List (Int × Int)) (k : Int) : keyD (.tuple [.tuple (ps.map prD), .int k]) = some (kGo (ps, k)) := by
  simp only [keyD, keyAll, keyAll_prs]
  rfl
theorem kPr_inj : ∀ {l m : List (Int × Int)}, l.map kPr = m.map kPr → l = m
  | [], [], _ => rfl
  | [], _ :: _, h => by cases h
  | _ :: _, [], h => by cases h
  | (a, b) :: l, (c, d) :: m, h => by
    rw [List.map_cons, List.map_cons] at h
    injection h with h1 h2
    simp only [kPr, NestedKey.tup.injEq, List.cons.injEq, NestedKey.num.injEq, and_true] at h1
    rw [kPr_inj h2, h1.1, h1.2]
theorem depth_prs : ∀ ps : List (Int × Int), NestedKey.depthAll (ps.map kPr) ≤ 1
  | [] => Nat.zero_le _
  | p :: ps => by
    rw [List.map_cons, NestedKey.depthAll]
    have := depth_prs ps
    have e : (kPr p).depth = 1 := rfl
    rw [e]
    exact Nat.max_le.mpr ⟨Nat.le_refl _, this⟩
theorem depth_go (x : List (Int × Int) × Int) : (kGo x).depth ≤ 8 := by
  have := depth_prs x.1
  simp only [kGo, NestedKey.depth, NestedKey.depthAll]
  omega
theorem uGo_inv {kd : D} (h : uGo kd = true) : ∃ ps k, kd = .tuple [.tuple (ps.map prD), .int k] ∧ okGo ps k = true := by
  unfold uGo at h
  split at h
  · rename_i l k
    split at h
    · rename_i ps e
      exact ⟨ps, k, by rw [prs_get e], h⟩
    · cases h
  · cases h
theorem uGo_of {ps : List (Int × Int)} {k : Int} (h : okGo ps k = true) : uGo (.tuple [.tuple (ps.map prD), .int k]) = true := by
  show (match prsOf (ps.map prD) with
    | some ps => okGo ps k
    | none => false) = true
  rw [prsOf_map]
  exact h
def keysGo : List (List (Int × Int) × Int) := ((upto (sq 8) 3).flatMap fun l => (rangeI 0 4).map fun k => (l, k)) ++ (ascL 6 0).flatMap fun l => (rangeI 0 7).map fun k => (l, k)
theorem upto3 {α : Type} (A : List α) (h : A.length = 64) : (upto A 3).length = 266305 := by
  have h0 : (upto A 0).length = 1 := rfl
  have h1 := upto_len A 0
  have h2 := upto_len A 1
  have h3 := upto_len A 2
  simp only [Nat.zero_add, Nat.reduceAdd, h0, h] at h1 h2 h3
  omega
theorem keysGo_len : keysGo.length < 16000000 := by
  have h1 : ((upto (sq 8) 3).flatMap fun l => (rangeI 0 4).map fun k => (l, k)).length = (upto (sq 8) 3).length * 4 := flat_lenM _ 4 _ fun l _ => by rw [List.length_map, rangeI_len]
  have h2 : ((ascL 6 0).flatMap fun l => (rangeI 0 7).map fun k => (l, k)).length = (ascL 6 0).length * 7 := flat_lenM _ 7 _ fun l _ => by rw [List.length_map, rangeI_len]
  have h3 := upto3 (sq 8) (sq_len 8)
  have h4 : (ascL 6 0).length = 7 ^ 6 := ascL_len 6 0
  unfold keysGo
  rw [List.length_append, h1, h2, h3, h4]
  omega
theorem keysGo_mem {ps : List (Int × Int)} {k : Int} (h : okGo ps k = true) : (ps, k) ∈ keysGo := by
  simp only [okGo, Bool.and_eq_true, Bool.or_eq_true, decide_eq_true_eq, Nat.ble_eq, List.all_eq_true] at h
  rcases h with ⟨hk, ⟨h1, h2⟩ | ⟨h1, h2, h3⟩⟩
  · refine List.mem_append_left _ (List.mem_flatMap.mpr ⟨ps, upto_mem (by omega) fun p hp => sq_mem (n := 8) (h1 p hp), List.mem_map.mpr ⟨k, rangeI_mem.mpr (by omega), rfl⟩⟩)
  · refine List.mem_append_right _ (List.mem_flatMap.mpr ⟨ps, ascL_mem h2 fun p hp => ?_, List.mem_map.mpr ⟨k, rangeI_mem.mpr (by omega), rfl⟩⟩)
    have := h1 p hp
    simp only [inR, Bool.and_eq_true, decide_eq_true_eq] at this
    omega
theorem ok_uGo : UOk uGo where
  fin := ⟨keysGo.map kGo, by rw [List.length_map]; exact keysGo_len, fun kd h => by
    obtain ⟨ps, k, rfl, h2⟩ := uGo_inv h
    exact ⟨kGo (ps, k), List.mem_map.mpr ⟨_, keysGo_mem h2, rfl⟩, keyD_go ps k, depth_go _⟩⟩
  inj := fun kd kd' h h' e => by
    obtain ⟨ps, k, rfl, _⟩ := uGo_inv h
    obtain ⟨ps', k', rfl, _⟩ := uGo_inv h'
    rw [keyD_go, keyD_go] at e
    have e := Option.some.inj e
    simp only [kGo, NestedKey.tup.injEq, List.cons.injEq, NestedKey.num.injEq, and_true] at e
    rw [kPr_inj e.1, e.2]
  tup := fun kd h => by
    obtain ⟨ps, k, rfl, _⟩ := uGo_inv h
    exact ⟨_, rfl⟩
inductive Say where
  | mark (i : Int) (x : Nat) | same (x y : Nat) | arrow (x y : Nat)
def Say.d : Say → D
  | .mark i x => .tuple [.str "mark", .int i, .int x]
  | .same x y => .tuple [.str "same", .int x, .int y]
  | .arrow x y => .tuple [.str "arrow", .int x, .int y]
def okDif (a b : List Int) (k : Int) : Bool := decide (0 ≤ k) && decide (a.length = b.length) && (((a.zip b).all (inR 8) && Nat.ble (a.length + k.toNat) 3) || ((a.zip b).all (inR 5) && (Nat.beq (a.length + k.toNat) 4 || Nat.beq (a.length + k.toNat) 5)))
end LB

set_option Elab.async false
set_option linter.all false
set_option maxRecDepth 100000
namespace TL
open PySem PySem.Spec PyProof.Rows L2
@[simp] def sNo : SS := fun _ => none
section
variable {X : Cx} {R : RK} {O O' Ob : List Nat} {st : Stmt} {a : Expr} {f : SE}
end
end TL
namespace TL
open PySem PySem.Spec PyProof.Rows L2
def placeD (d : D) : List D → Nat → Option Nat
  | [], _ => none
  | z :: r, i => if PyData.eqv z d = true then some i else placeD d r (i + 1)
def idxD : D → D → Option D
  | .list ds, d => if SeqAt.shaped (.list ds) = true ∧ SeqAt.shaped d = true then (placeD d ds 0).map fun (i : Nat) => .int (i : Int) else none
  | .tuple ds, d => if SeqAt.shaped (.tuple ds) = true ∧ SeqAt.shaped d = true then (placeD d ds 0).map fun (i : Nat) => .int (i : Int) else none
  | _, _ => none
theorem placeD_ok {d : D} : ∀ {ds : List D} {i j : Nat}, placeD d ds i = some j → ∃ k z, j = i + k ∧ ds[k]? = some z ∧ PyData.eqv z d = true ∧ ∀ (m : Nat) (z' : D), m < k → ds[m]? = some z' → PyData.eqv z' d = false
  | [], _, _, h => by cases h
  | z :: r, i, j, h => by
    unfold placeD at h
    split at h
    · cases h
      exact ⟨0, z, rfl, rfl, by assumption, fun m _ hm => by omega⟩
    · rename_i hz
      obtain ⟨k, z1, e, h1, h2, h3⟩ := placeD_ok h
      refine ⟨k + 1, z1, by omega, h1, h2, fun m z' hm hm2 => ?_⟩
      cases m with
      | zero =>
        cases hm2
        exact Bool.eq_false_iff.mpr hz
      | succ m => exact h3 m z' (by omega) hm2
section
variable {X : Cx} {O : List Nat} {a b : Expr} {f g : SE}
theorem eidx {apos cpos : Pos} (hu : X.A.units + 65 < cLine) (ha : PE X a (rB (gx X) O f)) (hb : PE X b (rB (gx X) O g)) (hbase : attributeBase a "index" X.env (eval a X.env) = eval a X.env := by rfl)
    (hfew : ((backTo cpos (starEach [b] X.env)).all (fun x => !x.1) && (backToKw cpos (keywordEach [] X.env)).all (fun x => x.1.isSome)
      && decide ([b].length + ([] : List Keyword).length + (if ([] : List Keyword).isEmpty then 0 else 1) < 30)) = true := by rfl)
    (hline : (apos.endLine == cpos.line) = true := by rfl) (hs1 : starEach [b] X.env = (false, eval b X.env) :: starEach [] X.env := by rfl) (hplain : (backTo cpos (starEach [] X.env)).any (·.1) = false := by rfl) :
    PE X (.Call (.Attribute a "index" apos) [b] [] cpos) (rV (gx X) O (e2 idxD f g)) :=
  ((pe_bm PySem.F.plainAttrs_list PySem.F.slot_list_index PySem.F.type_list_index (mt_indexD hu) ha (pa_cons hb pa_nil hs1) hbase hfew hline hs1 hplain).or (pe_tm PySem.F.slot_tuple_index PySem.F.type_tuple_index (mt_indexT hu) ha (pa_cons hb pa_nil hs1) hbase hfew hline hs1 hplain)).imp fun σ H Q ⟨F, env, d, hs, hf, q⟩ => by
    simp only [TL.e2] at hf
    obtain ⟨x, h1, hf⟩ := bind_some hf
    obtain ⟨y, h2, h3⟩ := bind_some hf
    cases x with
    | list ds =>
      refine .inl ⟨F, env, _, hs, h1, fun v F1 H1 g1 r1 => ?_⟩
      simp only [idxD] at h3
      split at h3
      · rename_i hsh
        obtain ⟨j, h4, h5⟩ := map_some h3
        subst h5
        obtain ⟨k, z, ej, hz, hzj, hno⟩ := placeD_ok h4
        obtain ⟨p, vs, rfl, hl, r'⟩ := r1.lst g1.fh
        refine ⟨.inl ⟨rfl, vs, hl⟩, F1, env, y, hs.gr g1, h2, fun u F2 H2 g2 r2 => ?_⟩
        have r1' := r1.gr g2
        refine ⟨p, u, y, ds, k, z, rfl, rfl, r1'.shp g2.fh hsh.1, r2.shp g2.fh hsh.2, hsh.1, hsh.2, hz, hzj, hno, ?_⟩
        rw [Nat.zero_add] at ej
        subst ej
        exact ((q.gr g1).gr g2).same g2.fh (.int _)
      · cases h3
    | tuple ds =>
      refine .inr ⟨F, env, _, hs, h1, fun v F1 H1 g1 r1 => ?_⟩
      simp only [idxD] at h3
      split at h3
      · rename_i hsh
        obtain ⟨j, h4, h5⟩ := map_some h3
        subst h5
        obtain ⟨k, z, ej, hz, hzj, hno⟩ := placeD_ok h4
        obtain ⟨p, vs, rfl, hl, _, r'⟩ := r1.tup g1.fh
        refine ⟨⟨p, vs, rfl, sameU g1.fh hl⟩, F1, env, y, hs.gr g1, h2, fun u F2 H2 g2 r2 => ?_⟩
        have r1' := r1.gr g2
        refine ⟨p, u, y, ds, k, z, rfl, rfl, r1'.shp g2.fh hsh.1, r2.shp g2.fh hsh.2, hsh.1, hsh.2, hz, hzj, hno, ?_⟩
        rw [Nat.zero_add] at ej
        subst ej
        exact ((q.gr g1).gr g2).same g2.fh (.int _)
      · cases h3
    | _ => cases h3
end
end TL
namespace TL
open PySem PySem.Spec PyProof.Rows L2
section
variable {X : Cx} {O : List Nat} {a b : Expr} {f g : SE}
end
@[simp] def sPar3 (i j l : Nat) (a b c : SE) : SS := fun env => (a env).bind fun x => (b env).bind fun y => (c env).map fun z => .nx (((env.set i (some x)).set j (some y)).set l (some z))
section
variable {X : Cx} {R : RK} {O Ob : List Nat} {pos : Pos}
end
end TL

set_option Elab.async false
set_option linter.all false
set_option maxRecDepth 100000
namespace TL
open PySem PySem.Spec PyProof.Rows L2
section
variable {X : Cx}
end
@[simp] def eRngT (a : SE) : SE := fun env => (a env).bind fun x => (toI x).bind fun n => (rangeD 0 n).map .tuple
end TL

set_option Elab.async false
set_option linter.all false
set_option maxRecDepth 100000
namespace TL
open PySem PySem.Spec PyProof.Rows L2
section
variable {X : Cx} {O : List Nat}
end
end TL

set_option Elab.async false
set_option linter.all false
set_option maxRecDepth 100000
namespace TL
open PySem PySem.Spec PyProof.Rows L2
def keyT : D → Option NestedKey
  | .tuple es => (keyD (.tuple es)).bind fun k => if Nat.ble k.depth 8 = true then some k else none
  | _ => none
def dgetP : List (D × D) → NestedKey → Option D
  | [], _ => none
  | (a, b) :: r, k => if keyD a = some k then some b else dgetP r k
def dputP : List (D × D) → NestedKey → D → D → List (D × D)
  | [], _, kd, vd => [(kd, vd)]
  | (a, b) :: r, k, kd, vd => if keyD a = some k then (a, vd) :: r else (a, b) :: dputP r k kd vd
def prsK : D → Option (List (D × D))
  | .dict ((.none, .none) :: kvs) => some kvs
  | _ => none
def mkK (kvs : List (D × D)) : D := .dict ((.none, .none) :: kvs)
@[simp] def sSetK (i : Nat) (fk fv : SE) : SS := fun env => (fv env).bind fun y => (fk env).bind fun kd => (keyT kd).bind fun k => match (env.getD i none).bind prsK with
  | some kvs => if Nat.ble kvs.length 1000000 = true then some (.nx (env.set i (some (mkK (dputP kvs k kd y))))) else none
  | none => none
inductive Al (G : Gx) (F : Hp) : List NestedKey → List V → List D → Prop
  | nil : Al G F [] [] []
  | cons {k : NestedKey} {b : Addr} {es : List D} {v : V} {vd : D} {ks : List NestedKey} {vs : List V} {ds : List D} : keyD (.tuple es) = some k → Rp G F (.ref b) (.tuple es) → Rp G F v vd → Al G F ks vs ds → Al G F (k :: ks) (.ref b :: v :: vs) (.tuple es :: vd :: ds)
section
variable {G : Gx} {F F' : Hp}
theorem Al.of : ∀ {ks : List NestedKey} {vs : List V} {ds : List D}, RpAll G F vs ds → keyAll (keysD ds) = some ks → ds.length = 2 * ks.length → (∀ d ∈ keysD ds, ∃ es, d = .tuple es) → Al G F ks vs ds
  | [], vs, ds, r, _, hl, _ => by
    have : ds = [] := List.eq_nil_of_length_eq_zero (by simpa using hl)
    subst this
    cases r
    exact .nil
  | k :: ks, vs, ds, r, hk, hl, ht => by
    match ds, r, hk, hl, ht with
    | [], _, _, hl, _ => simp at hl
    | [_], _, _, hl, _ => simp at hl; omega
    | a :: b :: ds, .cons ra (.cons rb r), hk, hl, ht =>
      simp only [keysD, keyAll] at hk
      obtain ⟨k', h1, hk⟩ := bind_some hk
      obtain ⟨ks', h2, h3⟩ := map_some hk
      cases h3
      obtain ⟨es, rfl⟩ := ht a (by simp [keysD])
      have rest := Al.of r h2 (by simp only [List.length_cons] at hl ⊢; omega) fun d hd => ht d (by simp only [keysD]; exact List.mem_cons_of_mem _ hd)
      cases ra with
      | tup q1 q2 => exact .cons h1 (.tup q1 q2) rb rest
theorem Al.rp {ks : List NestedKey} {vs : List V} {ds : List D} (h : Al G F ks vs ds) : RpAll G F vs ds ∧ keyAll (keysD ds) = some ks ∧ ds.length = 2 * ks.length ∧ (∀ d ∈ keysD ds, ∃ es, d = .tuple es) := by
  induction h with
  | nil => exact ⟨.nil, rfl, rfl, fun d hd => by cases hd⟩
  | cons h1 h2 h3 _ ih =>
    obtain ⟨i1, i2, i3, i4⟩ := ih
    refine ⟨.cons h2 (.cons h3 i1), ?_, by simp only [List.length_cons, i3]; omega, fun d hd => ?_⟩
    · simp only [keysD, keyAll, h1, i2, Option.bind_some, Option.map_some]
    · simp only [keysD] at hd
      rcases List.mem_cons.mp hd with rfl | hd
      · exact ⟨_, rfl⟩
      · exact i4 d hd
theorem Al.ents {ks : List NestedKey} {vs : List V} {ds : List D} (h : Al G F ks vs ds) : (entsOf ks vs).map (·.1) = ks ∧ ∀ x ∈ entsOf ks vs, ∃ kd, keyD kd = some x.1 ∧ Rp G F (.ref x.2.1) kd := by
  induction h with
  | nil => exact ⟨rfl, fun x hx => by cases hx⟩
  | cons h1 h2 h3 _ ih =>
    obtain ⟨i1, i2⟩ := ih
    refine ⟨by simp only [entsOf, List.map_cons, i1], fun x hx => ?_⟩
    simp only [entsOf] at hx
    rcases List.mem_cons.mp hx with rfl | hx
    · exact ⟨_, h1, h2⟩
    · exact i2 x hx
theorem Al.at_ {ks : List NestedKey} {vs : List V} {ds : List D} (h : Al G F ks vs ds) (k : NestedKey) : (dgetP (prsD ds) k = none ∧ atV (entsOf ks vs) k = none) ∨ ∃ vd v, dgetP (prsD ds) k = some vd ∧ atV (entsOf ks vs) k = some v ∧ Rp G F v vd := by
  induction h with
  | nil => exact .inl ⟨rfl, rfl⟩
  | @cons k' b es v vd ks vs ds h1 h2 h3 _ ih =>
    simp only [prsD, dgetP, entsOf, atV, List.find?_cons]
    by_cases hk : k' = k
    · subst hk
      rw [if_pos h1]
      refine .inr ⟨vd, v, rfl, ?_, h3⟩
      simp
    · rw [if_neg (fun z => hk (by rw [h1] at z; exact Option.some.inj z)), show (decide (k' = k)) = false from decide_eq_false hk]
      exact ih
theorem atV_cons {k k' : NestedKey} {b : Addr} {v : V} {xs : List KEnt} : atV ((k', b, v) :: xs) k = if k' = k then some v else atV xs k := by
  by_cases h : k' = k
  · simp [atV, h]
  · simp [atV, h]
theorem map_same {k : NestedKey} {v : V} {xs : List KEnt} (h : k ∉ xs.map (·.1)) : (xs.map fun x => if x.1 = k then (x.1, x.2.1, v) else x) = xs := by
  induction xs with
  | nil => rfl
  | cons x xs ih =>
    rw [List.map_cons, if_neg (fun e => h (by rw [List.map_cons, ← e]; exact List.mem_cons_self)), ih (fun z => h (by rw [List.map_cons]; exact List.mem_cons_of_mem _ z))]
theorem Al.put {ks : List NestedKey} {vs : List V} {ds : List D} (h : Al G F ks vs ds) (nd : ks.Nodup) {k : NestedKey} {b : Addr} {es : List D} {v : V} {vd : D} (hk : keyD (.tuple es) = some k) (rk : Rp G F (.ref b) (.tuple es)) (rv : Rp G F v vd) :
    ∃ ks' vs' ds', Al G F ks' vs' ds' ∧ prsD ds' = dputP (prsD ds) k (.tuple es) vd ∧ entsOf ks' vs' = putR (entsOf ks vs) k b v ∧ ks'.Nodup ∧ ks'.length ≤ ks.length + 1 ∧ ∀ z ∈ ks', z = k ∨ z ∈ ks := by
  induction h with
  | nil => exact ⟨[k], [.ref b, v], [.tuple es, vd], .cons hk rk rv .nil, rfl, rfl, by simp, by simp, fun z hz => .inl (List.mem_singleton.mp hz)⟩
  | @cons k' b' es' v' vd' ks vs ds h1 h2 h3 h4 ih =>
    obtain ⟨n1, n2⟩ := List.nodup_cons.mp nd
    by_cases e : k' = k
    · subst e
      refine ⟨k' :: ks, .ref b' :: v :: vs, .tuple es' :: vd :: ds, .cons h1 h2 rv h4, ?_, ?_, nd, by simp, fun z hz => .inr hz⟩
      · simp only [prsD, dputP]
        rw [if_pos h1]
      · simp only [entsOf, putR, atV_cons, if_true, Option.isSome_some, List.map_cons]
        rw [map_same (by rw [(Al.ents h4).1]; exact n1)]
    · obtain ⟨ks', vs', ds', i1, i2, i3, i4, i5, i6⟩ := ih n2
      refine ⟨k' :: ks', .ref b' :: v' :: vs', .tuple es' :: vd' :: ds', .cons h1 h2 h3 i1, ?_, ?_, List.nodup_cons.mpr ⟨fun hm => ?_, i4⟩, by simp only [List.length_cons]; omega, fun z hz => ?_⟩
      · simp only [prsD, dputP]
        rw [if_neg (fun z => e (by rw [h1] at z; exact Option.some.inj z)), i2]
      · simp only [entsOf, i3]
        unfold putR
        rw [atV_cons, if_neg e]
        split
        · rw [List.map_cons, if_neg e]
        · rfl
      · rcases i6 k' hm with z | z
        · exact e z
        · exact n1 z
      · rcases List.mem_cons.mp hz with rfl | hz
        · exact .inr List.mem_cons_self
        · rcases i6 z hz with z' | z'
          · exact .inl z'
          · exact .inr (List.mem_cons_of_mem _ z')
end
theorem prsD_len : ∀ {ds : List D} {n : Nat}, ds.length = 2 * n → (prsD ds).length = n
  | [], n, h => by simp at h; simp [prsD]; omega
  | [_], n, h => by simp at h; omega
  | a :: b :: r, n, h => by
    obtain ⟨m, rfl⟩ : ∃ m, n = m + 1 := ⟨n - 1, by simp at h; omega⟩
    simp only [prsD, List.length_cons]
    rw [prsD_len (n := m) (by simp at h; omega)]
section
variable {G : Gx} {F H : Hp}
theorem rd_frz {H : Hp} {a : Addr} {o : Option Obj} {u : HO} (h : H a = some (frzO o u)) : Rd H a u := by
  cases o with
  | none => exact .inl h
  | some o => exact .inr ⟨o, h⟩
end
section
variable {X : Cx} {O : List Nat} {F H : Hp}
theorem kdat {r : Addr} {o : Option Obj} {ks : List NestedKey} {vs : List V} {ds : List D} (h1 : Rd H r (rawO (gx X).P (gx X).w r (entsOf ks vs))) (h2 : Al (gx X) F ks vs ds) (h3 : KdOk r (.dct o ks) ds) : KDat X.prog X.w (gx X) F H r (entsOf ks vs) := by
  obtain ⟨k1, k2, k3, k4, k5, k6, k7⟩ := h3
  obtain ⟨e1, e2⟩ := h2.ents
  refine ⟨k6, h1, by rw [e1]; exact k2, ?_, fun x hx => ?_⟩
  · have := congrArg List.length e1
    rw [List.length_map] at this
    rw [this]
    exact k3
  · obtain ⟨kd, q1, q2⟩ := e2 x hx
    exact ⟨kd, q1, k5 _ (by rw [← e1]; exact List.mem_map.mpr ⟨x, hx, rfl⟩), q2⟩
variable {a b : Expr} {fa fb : SE} {pos p2 : Pos}
end
section
variable {X : Cx} {R : RK} {O Ob : List Nat} {ei ev : Expr} {fi fv : SE} {p1 pos pos' : Pos} {x : Str}
end
end TL

set_option Elab.async false
set_option linter.all false
set_option maxRecDepth 100000
namespace TL
open PySem PySem.Spec PyProof.Rows L2
section
variable {P : Program} {w : World} {G : Gx} {base : Heap}
end
section
variable {X : Cx} {E : XK} {O O' Ob : List Nat} {st : Stmt} {sts : List Stmt} {pos : Pos}
variable {fx : Str} {k n : Nat} {fa : Addr} {fd : FuncData} {ps : List Str} {m : List D → Option D} {e tg : Expr} {es : List Expr} {l : List SE} {g : SG} {sl : List Nat} {p p2 : Pos}
end
section
variable {X : Cx} {R : RK} {O O' Ob : List Nat} {i : Nat} {a : Addr} {e e2 : Expr} {rest : List Expr} {f f2 : SE} {t t2 : ST} {pos : Pos}
end
section
variable {X : Cx} {O : List Nat} {i : Nat} {a Dc : Addr} {oe : Obj} {pn : List (Addr × Obj)} {n y : Str} {p p0 p1 p2 : Pos}
end
section
variable {X : Cx} {O : List Nat} {i : Nat} {a : Addr} {e : Expr} {f : SE}
end
section
variable {X : Cx} {R : RK} {O O' Ob : List Nat} {i k nn : Nat} {x wx fx n : Str} {C W fa : Addr} {fd : FuncData} {ps : List Str} {m : List D → Option D} {e tg : Expr} {es : List Expr} {l : List SE} {g : SG} {sl : List Nat} {rest suite : List Stmt} {b₀ : Stmt} {fr fh : SS} {p p2 p3 np pos pos' : Pos}
end
end TL
namespace TL
open PySem PySem.Spec PyProof.Rows L2
end TL

set_option Elab.async false
set_option linter.all false
set_option maxRecDepth 100000
namespace TL
open PySem PySem.Spec PyProof.Rows L2
theorem TbOk.sub {G : Gx} {F F2 H : Hp} (t : TbOk G F2 H) (s : Same F F2) : TbOk G F H := fun x hx c P e => by
  obtain ⟨h1, h2⟩ := t x hx c P e
  refine ⟨?_, h2⟩
  cases q : F P with
  | none => rfl
  | some o => rw [s P o q] at h1; cases h1
theorem SOk.at_ {G : Gx} {F H F2 H2 : Hp} {σ : L2.St} {env : Env} (s : SOk G [] F H σ env) (a : Same F F2) (b : Same F2 H2) (t : TbOk G F2 H2) : SOk G [] F2 H2 σ env :=
  ⟨b, s.len, fun i d e n => let ⟨v, h1, h2⟩ := s.imm i d e n; ⟨v, h1, h2.mono a⟩, (fun i hi => by cases hi), (fun i hi => by cases hi), t⟩
inductive Lots (G : Gx) (F H0 H : Hp) (n : Nat) : List Addr → List (List D) → Prop
  | nil : Lots G F H0 H n [] []
  | cons {q : Addr} {qs : List Addr} {l : List D} {L : List (List D)} {vs : List V} : F q = none → H0 q = none → l.length ≤ n → H q = some (.lst vs) → RpAll G F vs l → Lots G F H0 H n qs L → Lots G F H0 H n (q :: qs) (l :: L)
section
variable {G : Gx} {F H0 H H' : Hp} {n n' : Nat}
theorem Lots.len : ∀ {qs : List Addr} {L : List (List D)}, Lots G F H0 H n qs L → qs.length = L.length
  | _, _, .nil => rfl
  | _, _, .cons _ _ _ _ _ r => congrArg (· + 1) r.len
theorem Lots.no : ∀ {qs : List Addr} {L : List (List D)}, Lots G F H0 H n qs L → ∀ q ∈ qs, F q = none ∧ H0 q = none ∧ ∃ vs, H q = some (.lst vs)
  | _, _, .nil, q, h => by cases h
  | _, _, .cons a b _ c _ r, q, h => by
    rcases List.mem_cons.mp h with rfl | h
    · exact ⟨a, b, _, c⟩
    · exact r.no q h
theorem Lots.keep (hn : n ≤ n') : ∀ {qs : List Addr} {L : List (List D)}, Lots G F H0 H n qs L → (∀ q ∈ qs, H' q = H q) → Lots G F H0 H' n' qs L
  | _, _, .nil, _ => .nil
  | _, _, .cons a b l c d r, h => .cons a b (Nat.le_trans l hn) ((h _ List.mem_cons_self).trans c) d (r.keep hn fun q m => h q (List.mem_cons_of_mem _ m))
theorem Lots.get : ∀ {qs : List Addr} {L : List (List D)} {i : Nat} {q : Addr}, Lots G F H0 H n qs L → qs[i]? = some q → ∃ l vs, L[i]? = some l ∧ H q = some (.lst vs) ∧ RpAll G F vs l
  | _, _, _, _, .nil, e => by simp at e
  | _, _, 0, _, .cons a b l c d _, e => by
    have e' := Option.some.inj e
    subst e'
    exact ⟨_, _, rfl, c, d⟩
  | _, _, i + 1, _, .cons _ _ _ _ _ r, e => Lots.get (i := i) r e
theorem Lots.app : ∀ {qs : List Addr} {L : List (List D)}, Lots G F H0 H n qs L → ∀ {q : Addr} {l : List D} {vs : List V}, F q = none → H0 q = none → l.length ≤ n → H q = some (.lst vs) → RpAll G F vs l → Lots G F H0 H n (qs ++ [q]) (L ++ [l])
  | _, _, .nil, _, _, _, a, b, c, d, e => .cons a b c d e .nil
  | _, _, .cons a b l c d r, _, _, _, a', b', c', d', e' => .cons a b l c d (r.app a' b' c' d' e')
theorem Lots.rp {F' : Hp} (s : Same F F') : ∀ {qs : List Addr} {L : List (List D)}, Lots G F H0 H n qs L → (∀ q ∈ qs, F' q = H q) → RpAll G F' (qs.map V.ref) (L.map .list)
  | _, _, .nil, _ => .nil
  | _, _, .cons a b l c d r, h => .cons (.lst (.inl (.inl ((h _ List.mem_cons_self).trans c))) (d.mono s)) (r.rp s fun q m => h q (List.mem_cons_of_mem _ m))
end
structure Lo (G : Gx) (F H0 : Hp) (il : Nat) (e0 : Env) (n : Nat) (σ : L2.St) (H : Hp) (L : List (List D)) : Prop where
  s : SOk G [] F H σ e0
  hh : SameN H0 H
  ex : ∃ p qs, σ[il]? = some (some (.ref p)) ∧ H p = some (.lst (qs.map V.ref)) ∧ F p = none ∧ H0 p = none ∧ (p :: qs).Nodup ∧ L.length ≤ n ∧ Lots G F H0 H n qs L
end TL
namespace TL
open PySem PySem.Spec PyProof.Rows L2
theorem SOk.put {G : Gx} {F H : Hp} {σ : L2.St} {env : Env} (s : SOk G [] F H σ env) {i : Nat} {v : V} {d : D} (h : σ[i]? = some (some v)) (r : Rp G F v d) : SOk G [] F H σ (env.set i (some d)) := by
  refine ⟨s.fh, by rw [List.length_set]; exact s.len, fun j e hj n => ?_, (fun i hi => by cases hi), (fun i hi => by cases hi), s.tb⟩
  by_cases ij : i = j
  · subst ij
    have hl : i < env.length := by
      have := (List.getElem?_eq_some_iff.mp hj).1
      rw [List.length_set] at this
      exact this
    rw [List.getElem?_set_self hl] at hj
    cases hj
    exact ⟨v, h, r⟩
  · rw [List.getElem?_set_ne ij] at hj
    exact s.imm j e hj n
section
variable {X : Cx} {R : RK} {Ob : List Nat} {il iv im it : Nat} {vN : Str} {iter c2 : Expr} {fi : SI} {T : ST} {st1 a1 a2 : Stmt} {pos pv pif : Pos}
end
end TL

set_option Elab.async false
set_option linter.all false
set_option maxRecDepth 100000
namespace TL
open PySem PySem.Spec PyProof.Rows L2
def keyI : D → Option Int
  | .int i => some i
  | _ => none
theorem keyI_some {d : D} {i : Int} (h : keyI d = some i) : d = .int i := by
  cases d <;> cases h
  rfl
def dgetI : List (D × D) → Int → Option D
  | [], _ => none
  | (.int j, b) :: r, i => if j = i then some b else dgetI r i
  | _ :: r, i => dgetI r i
def dputI : List (D × D) → Int → D → List (D × D)
  | [], i, vd => [(.int i, vd)]
  | (.int j, b) :: r, i, vd => if j = i then (.int j, vd) :: r else (.int j, b) :: dputI r i vd
  | x :: r, i, vd => x :: dputI r i vd
def prsI : D → Option (List (D × D))
  | .dict ((.tuple [], .none) :: kvs) => some kvs
  | _ => none
def prsJ : D → Option (List (D × D))
  | .dict ((.tuple [], _) :: kvs) => some kvs
  | _ => none
def mkI (kvs : List (D × D)) : D := .dict ((.tuple [], .none) :: kvs)
def inI (y x : D) : Option D := (keyI y).bind fun i => (prsJ x).map fun kvs => .bool (dgetI kvs i).isSome
def ninI (y x : D) : Option D := (keyI y).bind fun i => (prsJ x).map fun kvs => .bool (!(dgetI kvs i).isSome)
def ixI (x y : D) : Option D := (keyI y).bind fun i => (prsJ x).bind fun kvs => dgetI kvs i
@[simp] def sSetI (i : Nat) (fk fv : SE) : SS := fun env => (fv env).bind fun y => (fk env).bind fun kd => (keyI kd).bind fun k => match (env.getD i none).bind prsI with
  | some kvs => if Nat.ble kvs.length 1000000 = true then some (.nx (env.set i (some (mkI (dputI kvs k y))))) else none
  | none => none
@[simp] def eOneI (fk fv : SE) : SE := fun env => (fk env).bind fun kd => (keyI kd).bind fun k => (fv env).map fun y => mkI [(.int k, y)]
inductive AlI (G : Gx) (F : Hp) : List Int → List V → List D → Prop
  | nil : AlI G F [] [] []
  | cons {k : Int} {v : V} {vd : D} {ks : List Int} {vs : List V} {ds : List D} : Rp G F v vd → AlI G F ks vs ds → AlI G F (k :: ks) (.int k :: v :: vs) (.int k :: vd :: ds)
section
variable {G : Gx} {F F' : Hp}
theorem AlI.of : ∀ {ks : List Int} {vs : List V} {ds : List D}, RpAll G F vs ds → keysD ds = ks.map .int → ds.length = 2 * ks.length → AlI G F ks vs ds
  | [], vs, ds, r, _, hl => by
    have : ds = [] := List.eq_nil_of_length_eq_zero (by simpa using hl)
    subst this
    cases r
    exact .nil
  | k :: ks, vs, ds, r, hk, hl => by
    match ds, r, hk, hl with
    | [], _, _, hl => simp at hl
    | [_], _, _, hl => simp at hl; omega
    | a :: b :: ds, .cons ra (.cons rb r), hk, hl =>
      simp only [keysD, List.map_cons] at hk
      injection hk with h1 h2
      subst h1
      have rest := AlI.of r h2 (by simp only [List.length_cons] at hl ⊢; omega)
      cases ra with
      | int _ => exact .cons rb rest
theorem AlI.rp {ks : List Int} {vs : List V} {ds : List D} (h : AlI G F ks vs ds) : RpAll G F vs ds ∧ keysD ds = ks.map .int ∧ ds.length = 2 * ks.length := by
  induction h with
  | nil => exact ⟨.nil, rfl, rfl⟩
  | cons h1 _ ih =>
    obtain ⟨i1, i2, i3⟩ := ih
    exact ⟨.cons (.int _) (.cons h1 i1), by simp only [keysD, List.map_cons, i2], by simp only [List.length_cons, i3]; omega⟩
theorem AlI.at_ {ks : List Int} {vs : List V} {ds : List D} (h : AlI G F ks vs ds) (k : Int) : (dgetI (prsD ds) k = none ∧ valV (entsI vs) (.inl k) = none) ∨ ∃ vd v, dgetI (prsD ds) k = some vd ∧ valV (entsI vs) (.inl k) = some v ∧ Rp G F v vd := by
  induction h with
  | nil => exact .inl ⟨rfl, rfl⟩
  | @cons k' v vd ks vs ds h1 _ ih =>
    simp only [prsD, dgetI, entsI]
    by_cases hk : k' = k
    · subst hk
      rw [if_pos rfl]
      exact .inr ⟨vd, v, rfl, valV_pos rfl, h1⟩
    · rw [if_neg hk, valV_neg (p := ((.inl k' : Key), v)) (fun z => hk (Sum.inl.inj z))]
      exact ih
theorem AlI.len {ks : List Int} {vs : List V} {ds : List D} (h : AlI G F ks vs ds) : (entsI vs).length = ks.length := by
  induction h with
  | nil => rfl
  | cons _ _ ih => simp only [entsI, List.length_cons, ih]
theorem AlI.keys {ks : List Int} {vs : List V} {ds : List D} (h : AlI G F ks vs ds) : (entsI vs).map (·.1) = ks.map .inl := by
  induction h with
  | nil => rfl
  | cons _ _ ih => simp only [entsI, List.map_cons, ih]
theorem putK_cons_eq {k : Key} {v v' : V} {r : List (Key × V)} (h : k ∉ r.map (·.1)) : putK ((k, v) :: r) k v' = (k, v') :: r := by
  unfold putK
  rw [if_pos (by simp)]
  rw [List.map_cons, if_pos rfl]
  congr 1
  induction r with
  | nil => rfl
  | cons x r ih =>
    rw [List.map_cons, List.mem_cons, not_or] at h
    rw [List.map_cons, if_neg (fun z => h.1 z.symm), ih h.2]
theorem putK_cons_ne {k k' : Key} {v v' : V} {r : List (Key × V)} (h : k' ≠ k) : putK ((k', v) :: r) k v' = (k', v) :: putK r k v' := by
  unfold putK
  rw [List.any_cons, decide_eq_false h, Bool.false_or]
  split
  · rw [List.map_cons, if_neg h]
  · rfl
theorem AlI.put {ks : List Int} {vs : List V} {ds : List D} (h : AlI G F ks vs ds) (nd : ks.Nodup) {k : Int} {v : V} {vd : D} (rv : Rp G F v vd) :
    ∃ ks' vs' ds', AlI G F ks' vs' ds' ∧ prsD ds' = dputI (prsD ds) k vd ∧ entsI vs' = putK (entsI vs) (.inl k) v ∧ ks'.Nodup ∧ ks'.length ≤ ks.length + 1 ∧ ∀ z ∈ ks', z = k ∨ z ∈ ks := by
  induction h with
  | nil => exact ⟨[k], [.int k, v], [.int k, vd], .cons rv .nil, rfl, rfl, by simp, by simp, fun z hz => .inl (List.mem_singleton.mp hz)⟩
  | @cons k' v' vd' ks vs ds h1 h4 ih =>
    obtain ⟨n1, n2⟩ := List.nodup_cons.mp nd
    by_cases e : k' = k
    · subst e
      refine ⟨k' :: ks, .int k' :: v :: vs, .int k' :: vd :: ds, .cons rv h4, ?_, ?_, nd, by simp, fun z hz => .inr hz⟩
      · simp only [prsD, dputI, if_true]
      · simp only [entsI]
        rw [putK_cons_eq (by rw [h4.keys]; intro hm; obtain ⟨z, hz, e⟩ := List.mem_map.mp hm; exact n1 (Sum.inl.inj e ▸ hz))]
    · obtain ⟨ks', vs', ds', i1, i2, i3, i4, i5, i6⟩ := ih n2
      refine ⟨k' :: ks', .int k' :: v' :: vs', .int k' :: vd' :: ds', .cons h1 i1, ?_, ?_, List.nodup_cons.mpr ⟨fun hm => ?_, i4⟩, by simp only [List.length_cons]; omega, fun z hz => ?_⟩
      · simp only [prsD, dputI]
        rw [if_neg e, i2]
      · simp only [entsI]
        rw [i3, putK_cons_ne (fun z => e (Sum.inl.inj z))]
      · rcases i6 k' hm with z | z
        · exact e z
        · exact n1 z
      · rcases List.mem_cons.mp hz with rfl | hz
        · exact .inr List.mem_cons_self
        · rcases i6 z hz with z' | z'
          · exact .inl z'
          · exact .inr (List.mem_cons_of_mem _ z')
theorem prsJ_some {d : D} {kvs : List (D × D)} (h : prsJ d = some kvs) : ∃ m, d = .dict ((.tuple [], m) :: kvs) := by
  unfold prsJ at h
  split at h
  · cases h; exact ⟨_, rfl⟩
  · cases h
variable {H : Hp}
theorem RpB.dctI {v : V} {d : D} {kvs : List (D × D)} (h : RpB G F H v d) (e : prsJ d = some kvs) (sm : Same F H) : ∃ r o ks vs ds, v = .ref r ∧ kvs = prsD ds ∧ Rd H r (.dK (entsI vs)) ∧ AlI G F ks vs ds ∧ KdOk r (.dki o ks) ds := by
  have fin : ∀ {r : Addr} {o : Option Obj} {ks : List Int} {vs : List V} {ds : List D}, H r = some (kO G.P G.w r (.dki o ks) vs) → RpAll G F vs ds → KdOk r (.dki o ks) ds → kvs = prsD ds → ∃ r' o ks vs ds, V.ref r = .ref r' ∧ kvs = prsD ds ∧ Rd H r' (.dK (entsI vs)) ∧ AlI G F ks vs ds ∧ KdOk r' (.dki o ks) ds := fun {r o ks vs ds} h1 h2 h3 h4 => by
    obtain ⟨k1, k2, k3, k4, k5⟩ := id h3
    exact ⟨_, o, _, _, _, rfl, h4, rd_frz h1, .of h2 k1 k4, h3⟩
  obtain ⟨m, hd⟩ := prsJ_some e
  rcases h with h | ⟨p, k, vs, ds, rfl, e, h1, h2, h3⟩
  · cases h with
    | dki h1 h2 h3 =>
      injection hd with hd
      injection hd with _ hd
      exact fin (sm _ _ h1) h3 h2 hd.symm
    | _ => simp [kD] at hd
  · rw [e] at hd
    cases k with
    | lst => cases hd
    | dki o ks =>
      injection hd with hd
      injection hd with _ hd
      exact fin h1 h2 h3 hd.symm
    | dct o ks => simp [kD] at hd
end
section
variable {X : Cx} {O : List Nat} {F H : Hp}
theorem op_din (hu : X.A.units + 1 < cLine) : OpR X (compareOp .In) (fun y x H Q => ∃ a o, x = .ref a ∧ DGet H a y o ∧ Q (.bl o.isSome) H) := by
  intro pins s σ H y x u v Q I ry rx ⟨a, o, e, g, q⟩
  subst e
  cases rx
  exact d_in hu I g ry fun s' I' => ⟨.bl _, H, I', rfl, q⟩
theorem op_dnin (hu : X.A.units + 1 < cLine) : OpR X (compareOp .NotIn) (fun y x H Q => ∃ a o, x = .ref a ∧ DGet H a y o ∧ Q (.bl (!o.isSome)) H) := by
  intro pins s σ H y x u v Q I ry rx ⟨a, o, e, g, q⟩
  subst e
  cases rx
  exact d_notIn hu I g ry fun s' I' => ⟨.bl _, H, I', rfl, q⟩
theorem dg {a : Addr} {i : Int} {vs : List V} (h : Rd H a (.dK (entsI vs))) : DGet H a (.int i) (valV (entsI vs) (.inl i)) := .inl ⟨_, .inl i, h, rfl, rfl⟩
theorem o_inI (hu : X.A.units + 64 < cLine) : OpV X (compareOp .In) inI := by
  intro pins s σ H x y v u Q I rx ry ⟨F, dx, dy, d, sm, bx, by_, hd, q⟩
  obtain ⟨k, h1, hd⟩ := bind_some hd
  obtain ⟨kvs, h2, h3⟩ := map_some hd
  cases keyI_some h1
  subst h3
  obtain ⟨r, o, ks, vs, ds, rfl, rfl, hr, al, ok⟩ := by_.dctI h2 sm
  cases bx.int
  refine op_din (by omega) pins s σ H _ _ v u Q I rx ry ⟨r, _, rfl, dg hr, ?_⟩
  rcases al.at_ k with ⟨a1, a2⟩ | ⟨vd, w, a1, a2, _⟩
  · rw [a2]; rw [a1] at q; exact q.same sm (.bl _)
  · rw [a2]; rw [a1] at q; exact q.same sm (.bl _)
theorem o_ninI (hu : X.A.units + 64 < cLine) : OpV X (compareOp .NotIn) ninI := by
  intro pins s σ H x y v u Q I rx ry ⟨F, dx, dy, d, sm, bx, by_, hd, q⟩
  obtain ⟨k, h1, hd⟩ := bind_some hd
  obtain ⟨kvs, h2, h3⟩ := map_some hd
  cases keyI_some h1
  subst h3
  obtain ⟨r, o, ks, vs, ds, rfl, rfl, hr, al, ok⟩ := by_.dctI h2 sm
  cases bx.int
  refine op_dnin (by omega) pins s σ H _ _ v u Q I rx ry ⟨r, _, rfl, dg hr, ?_⟩
  rcases al.at_ k with ⟨a1, a2⟩ | ⟨vd, w, a1, a2, _⟩
  · rw [a2]; rw [a1] at q; exact q.same sm (.bl _)
  · rw [a2]; rw [a1] at q; exact q.same sm (.bl _)
variable {a b c : Expr} {fa fb fc : SE} {pos p2 apos : Pos}
theorem eixI (hu : X.A.units + 64 < cLine) (ha : PE X a (rB (gx X) O fa)) (hb : PE X b (rV (gx X) O fb)) (hs : NoSl b := by exact fun _ _ => rfl) : PE X (.Subscript a b pos) (rV (gx X) O (e2 ixI fa fb)) :=
  (pe_dget (by omega) ha hb hs).imp fun σ H Q ⟨F, env, d, hs, hf, q⟩ => by
    obtain ⟨x, y, h1, h2, h3⟩ := split2 hf
    refine ⟨F, env, x, hs, h1, fun v F1 H1 g1 r1 => ⟨F1, env, _, hs.gr g1, h2, fun u F2 H2 g2 r2 => ?_⟩⟩
    obtain ⟨k, k1, h3⟩ := bind_some h3
    obtain ⟨kvs, k2, k3⟩ := bind_some h3
    cases keyI_some k1
    cases (Rp.b (H := H2) r2).int
    obtain ⟨r, o, ks, vs, ds, rfl, rfl, hr, al, ok⟩ := (r1.gr g2).dctI k2 g2.fh
    rcases al.at_ k with ⟨a1, a2⟩ | ⟨vd, w, a1, a2, a3⟩
    · rw [a1] at k3; cases k3
    · rw [a1] at k3
      cases k3
      exact ⟨r, w, rfl, by rw [← a2]; exact dg hr, ((q.gr g1).gr g2).same g2.fh a3⟩
theorem pe_ns {e : Expr} {t : TE} (h : PE X e t) : PE X e fun σ H Q => t σ H fun v H' => (∀ p kvs, v = .ref p → H' p = some (.dK kvs) → (p == sysModules) = false) → Q v H' :=
  ⟨fun pins s σ H Q I q => thn (h.run pins s σ H _ I q) fun u s1 ⟨v, H', I', r, q'⟩ => ⟨v, H', I', r, q' fun p kvs _ e => by
    obtain ⟨_, z, _⟩ := I'.hok p _ e
    exact z⟩⟩
theorem eoneI (ha : PE X a (rV (gx X) O fa)) (hb : PE X b (rV (gx X) O fb)) : PE X (.Dict [some a] [b] pos) (rN (gx X) O (eOneI fa fb)) :=
  (pe_ns (pe_disp (pps_cons ha hb pps_nil) rfl rfl (by simp) (by simp))).imp fun σ H Q ⟨F, env, d, hs, hf, q⟩ => by
    simp only [eOneI] at hf
    obtain ⟨kd, h1, hf⟩ := bind_some hf
    obtain ⟨k, h2, hf⟩ := bind_some hf
    obtain ⟨y, h3, h4⟩ := map_some hf
    cases keyI_some h2
    subst h4
    intro p hp
    have g0 : Gr F H F (upd H p (.dK [])) := Gr.open_ hs.fh hp
    refine ⟨F, env, _, hs.gr g0, h1, fun v F1 H1 g1 r1 => ⟨F1, env, y, (hs.gr g0).gr g1, h3, fun u F2 H2 g2 r2 => ?_⟩⟩
    have hH : H2 p = some (.dK []) := g2.hh.nn p _ (g1.hh.nn p _ upd_same rfl) rfl
    have fp : F2 p = none := (g0.trans (g1.trans g2)).fh |> fun _ => g2.hid p _ (g1.hh.nn p _ upd_same rfl) (g1.hid p _ upd_same (Same.nn hs.fh hp))
    cases (Rp.b (H := H1) r1).int
    refine ⟨hH, [(.inl k, u)], rfl, by simp, fun ns => ?_⟩
    have gg : Gr F H F2 (upd H2 p (.dK (mergeK [] [(.inl k, u)]))) := by
      have gt := g0.trans (g1.trans g2)
      refine ⟨gt.ff, gt.hh.upd_ hp, fun b x e => ?_, gt.hid⟩
      rw [upd_ne (ne_of_none e fp)]
      exact gt.fh b x e
    exact q p (.dki none [k]) [.int k, u] [.int k, y] F2 _ gg hp fp upd_same (.cons (.int k) (.cons r2 .nil)) ⟨rfl, by simp, by show 1 < sizeLine; rw [sizeLine_eq]; decide, rfl, ns p _ rfl upd_same⟩ rfl
end
section
variable {X : Cx} {R : RK} {O Ob : List Nat} {ei ev : Expr} {fi fv : SE} {p1 pos pos' : Pos} {x : Str}
theorem ssetI (hu : X.A.units + 64 < cLine) (i : Nat) (hi : PE X ei (rV (gx X) O fi)) (he : PE X ev (rV (gx X) O fv)) (hO : i ∈ O := by decide) (hN : X.N[i]? = some x := by rfl) (hv : Vis X.env.scope x := by first | exact Or.inl rfl | exact Or.inr (Or.inl rfl) | exact Or.inr (Or.inr rfl)) (hd : (x == ("__debug__" : Str)) = false := by decide)
    (hcd : (x == ("__classdict__" : Str)) = false := by decide)
    (hs : swapsWith ev (some (.Subscript (.Name x p1) ei pos)) pos'.line X.env = pure false := by rfl) :
    PS X (.Assign [.Subscript (.Name x p1) ei pos] ev pos') (sV (gx X) R O O Ob (sSetI i fi fv)) :=
  (ps_dput (by omega) (pe_var hN hv hd hcd) hi he hs).imp fun Dn σ H ⟨F0, H0, F, env, out, hs, hf, ho, q⟩ => by
    simp only [sSetI] at ho
    obtain ⟨y, h1, ho⟩ := bind_some ho
    obtain ⟨kd, h2, ho⟩ := bind_some ho
    obtain ⟨k, h3, ho⟩ := bind_some ho
    cases keyI_some h3
    obtain ⟨p, kk, vs, ds, h4, h5, h6, h7, h8, h9⟩ := hs.own i hO
    rw [show env.getD i none = some (kD kk ds) by rw [List.getD_eq_getElem?_getD, h5]; rfl] at ho
    cases kk with
    | lst => cases ho
    | dct oo ks => cases ho
    | dki oo ks =>
    cases oo with
    | some oo => cases ho
    | none =>
    simp only [Option.bind_some, kD, frzM, prsI] at ho
    split at ho
    · rename_i hz
      cases ho
      have hz := Nat.le_of_ble_eq_true hz
      refine ⟨F, env, y, hs, h1, fun v F1 H1 g1 r1 => ⟨_, h4, F1, env, _, hs.gr g1, h2, fun u F2 H2 g2 r2 => ?_⟩⟩
      have g := g1.trans g2
      have r8 := h8.mono g.ff
      obtain ⟨k1, k2, k3, k4, k5⟩ := id h9
      have al := AlI.of r8 k1 k4
      cases (Rp.b (H := H2) r2).int
      obtain ⟨ks', vs', ds', i1, i2, i3, i4, i5, i6⟩ := al.put k2 (k := k) (r1.mono g2.ff)
      have hH : H2 p = some (.dK (entsI vs)) := g.hh.o (k := .dki none ks) (P := (gx X).P) (w := (gx X).w) (p := p) h7
      have hlen : (prsD ds).length = ks.length := prsD_len k4
      refine ⟨p, upd H2 p (.dK (entsI vs')), rfl, by rw [i3]; exact DPut.k (k := .inl k) hH (by rw [al.len, sizeLine_eq]; omega), ?_⟩
      obtain ⟨j1, j2, j3⟩ := i1.rp
      have okN : KdOk p (.dki none ks') ds' := ⟨j2, i4, by rw [sizeLine_eq]; omega, j3, k5⟩
      have hc := (hs.gr g).chg (k := .dki none ks') hO h4 j1 okN
      rw [show kD (.dki none ks') ds' = mkI (dputI (prsD ds) k y) by show PyData.dict _ = _; rw [i2]; rfl] at hc
      exact q σ F2 _ hc (fr_chg (hs.gr g) (hf.step g) hO h4) g.ff
    · cases ho
end
def keysF : D → Option (List D)
  | .dict ((.none, .bool true) :: kvs) => some (kvs.map (·.1))
  | .dict ((.tuple [], .bool true) :: kvs) => some (kvs.map (·.1))
  | _ => none
@[simp] def iKeysF (f : SE) : SI := fun env => (f env).bind keysF
section
variable {X : Cx} {pins : List (Addr × Obj)} {σ : L2.St} {H : Hp} {s : Shared} {d : Addr} {o : Obj}
end
section
variable {P : Program} {w : World} {K : PySem.W.Frag} {tg : Expr} {d : Addr} {o : Obj} {es : Array DictEntry} {ep : Nat}
end
section
variable {X : Cx} {O : List Nat} {tg a : Expr} {fa : SE} {td : TE}
end
mutual
/-- no dict, no def, no range within -/
def noD : D → Bool
  | .dict _ => false
  | .list ds => noDs ds
  | .tuple ds => noDs ds
  | .none => true
  | .bool _ => true
  | .int _ => true
  | .str _ => true
def noDs : List D → Bool
  | [] => true
  | d :: r => noD d && noDs r
end
def frzT : D → Option D
  | .dict ((.none, .none) :: kvs) => some (.dict ((.none, .bool true) :: kvs))
  | .dict ((.tuple [], .none) :: kvs) => some (.dict ((.tuple [], .bool true) :: kvs))
  | _ => none
@[simp] def eFrz (i : Nat) (f : SE) : SE := fun env => ((env.getD i none).bind frzT).bind fun t => (f (env.set i (some t))).bind fun d => if noD d = true then some d else none
section
variable {G : Gx} {F : Hp} {p : Addr} {u : HO}
def cutF (F : Hp) (p : Addr) : Hp := fun a => if a = p then none else F a
theorem cut_ne {F : Hp} {p a : Addr} (h : a ≠ p) : cutF F p a = F a := if_neg h
theorem rd_cut {a : Addr} {x : HO} (hp : F p = some u) (h1 : u ≠ x) (h2 : ∀ o, u ≠ .frz o x) (h : Rd F a x) : Rd (cutF F p) a x := by
  have hn : a ≠ p := fun e => by
    subst e
    rcases h with h | ⟨o, h⟩
    · rw [hp] at h; cases h; exact h1 rfl
    · rw [hp] at h; cases h; exact h2 o rfl
  rcases h with h | ⟨o, h⟩
  · exact .inl (by rw [cut_ne hn]; exact h)
  · exact .inr ⟨o, by rw [cut_ne hn]; exact h⟩
mutual
theorem Rp.cut (hp : F p = some u) (hl : ∀ xs, u ≠ .lst xs ∧ ∀ o, u ≠ .frz o (.lst xs)) (ht : ∀ xs, u ≠ .tup xs ∧ ∀ o, u ≠ .frz o (.tup xs)) : ∀ {d : D} {v : V}, Rp G F v d → noD d = true → Rp G (cutF F p) v d
  | _, _, .non, _ => .non
  | _, _, .bl b, _ => .bl b
  | _, _, .int i, _ => .int i
  | _, _, .str x, _ => .str x
  | _, _, .lst h a, n => .lst (h.imp (rd_cut hp (hl _).1 (hl _).2) id) (RpAll.cutF hp hl ht a (by simpa only [noD] using n))
  | _, _, .tup h a, n => .tup (h.imp (fun ⟨o, h, ho⟩ => ⟨o, by rw [cut_ne (fun e => by rw [e, hp] at h; cases h; exact (ht _).2 o rfl)]; exact h, ho⟩) id) (RpAll.cutF hp hl ht a (by simpa only [noD] using n))
  | _, _, .fn _, n => by simp [noD] at n
  | _, _, .pl _ _ _, n => by simp [noD] at n
  | _, _, .rng _, n => by simp [noD] at n
  | _, _, .dct _ _ _, n => by simp [kD, noD] at n
  | _, _, .dki _ _ _, n => by simp [kD, noD] at n
theorem RpAll.cutF (hp : F p = some u) (hl : ∀ xs, u ≠ .lst xs ∧ ∀ o, u ≠ .frz o (.lst xs)) (ht : ∀ xs, u ≠ .tup xs ∧ ∀ o, u ≠ .frz o (.tup xs)) : ∀ {ds : List D} {vs : List V}, RpAll G F vs ds → noDs ds = true → RpAll G (TL.cutF F p) vs ds
  | _, _, .nil, _ => .nil
  | _, _, .cons h r, n => by
    simp only [noDs, Bool.and_eq_true] at n
    exact .cons (Rp.cut hp hl ht h n.1) (RpAll.cutF hp hl ht r n.2)
end
end
section
variable {X : Cx} {O O' : List Nat} {e : Expr} {f : SE}
end
@[simp] def sPopA (i j : Nat) (a : SE) : SS := fun env => match env.getD j none with
  | some (.list es) => (a env).bind fun y => (toI y).bind fun k => (popD es k).bind fun z => some (.nx ((env.set j (some (.list z.2))).set i (some z.1)))
  | _ => none
section
variable {X : Cx} {R : RK} {O Ob : List Nat} {e : Expr} {pos : Pos} {f : SE}
theorem spopA {x y : Str} {px' py : Pos} {apos cpos : Pos} (i j : Nat) (hN : X.N.Nodup) (he : PE X e (rV (gx X) O f)) (hOi : i ∉ O := by decide) (hOj : j ∈ O := by decide) (hi : X.N[i]? = some x := by rfl) (hj : X.N[j]? = some y := by rfl)
    (hx : Loc X.env.scope x := by first | exact Or.inl rfl | exact Or.inr rfl)
    (hvy : Vis X.env.scope y := by first | exact Or.inl rfl | exact Or.inr (Or.inl rfl) | exact Or.inr (Or.inr rfl))
    (hdy : (y == ("__debug__" : Str)) = false := by decide) (hcy : (y == ("__classdict__" : Str)) = false := by decide)
    (hbase : attributeBase (.Name y py) "pop" X.env (eval (.Name y py) X.env) = eval (.Name y py) X.env := by rfl)
    (hfew : ((backTo cpos (starEach [e] X.env)).all (fun x => !x.1) && (backToKw cpos (keywordEach [] X.env)).all (fun x => x.1.isSome)
      && decide ([e].length + ([] : List Keyword).length + (if ([] : List Keyword).isEmpty then 0 else 1) < 30)) = true := by rfl)
    (hline : (apos.endLine == cpos.line) = true := by rfl) (hs1 : starEach [e] X.env = (false, eval e X.env) :: starEach [] X.env := by rfl) (hplain : (backTo cpos (starEach [] X.env)).any (·.1) = false := by rfl)
    (hsw : swapsWith (.Call (.Attribute (.Name y py) "pop" apos) [e] [] cpos) (some (.Name x px')) pos.line X.env = pure false := by rfl)
    (hfl : X.fn x = true ∨ X.env.scope.names.lookup x = some .local := by first | exact .inl rfl | exact .inr rfl | assumption) :
    PS X (.Assign [.Name x px'] (.Call (.Attribute (.Name y py) "pop" apos) [e] [] cpos) pos) (sV (gx X) R O O Ob (sPopA i j f)) :=
  (ps_ln (ps_set hN hi hx (pe_bm PySem.F.plainAttrs_list PySem.F.slot_list_pop PySem.F.type_list_pop mt_popAt (pe_var hj hvy hdy hcy) (pa_cons he pa_nil hs1) hbase hfew hline hs1 hplain) hsw hfl)).imp fun D σ H ⟨F0, H0, F, env, out, hs, hf, ho, q⟩ hl => by
    simp only [sPopA] at ho
    rcases hs.ownC hOj with ⟨p, vs, es, k1, k2, k3, k4, k5⟩ | ⟨kvs, k2⟩
    rotate_left
    · rw [show env.getD j none = some (.dict kvs) by rw [List.getD_eq_getElem?_getD, k2]; rfl] at ho
      cases ho
    rw [show env.getD j none = some (.list es) by rw [List.getD_eq_getElem?_getD, k2]; rfl] at ho
    obtain ⟨d, h1, ho⟩ := bind_some ho
    obtain ⟨k, h2, ho⟩ := bind_some ho
    obtain ⟨z, h3, ho⟩ := bind_some ho
    cases ho
    unfold popD at h3
    split at h3
    · rename_i hk
      have hk := Nat.le_of_ble_eq_true hk
      obtain ⟨ix, h7, h3⟩ := bind_some h3
      obtain ⟨dk, h8, h9⟩ := map_some h3
      subst h9
      cases d with
      | int kk =>
      cases h2
      refine ⟨.ref p, k1, .inl ⟨rfl, vs, .inl (.inl k4)⟩, F, env, .int k, hs, h1, fun w F1 H1 g1 r1 => ?_⟩
      have hw : w = .int k := (Rp.b (H := H1) r1).int
      subst hw
      have r5 := k5.mono g1.ff
      obtain ⟨y, hy, ry⟩ := r5.get h8
      refine ⟨p, vs, k, ix, y, rfl, rfl, g1.hh.l k4, by omega, by omega, by rw [r5.length]; exact h7, hy, ?_⟩
      have re : RpAll (gx X) F1 (vs.eraseIdx ix) (es.eraseIdx ix) := by
        rw [List.eraseIdx_eq_take_drop_succ, List.eraseIdx_eq_take_drop_succ]
        exact (r5.take ix).append (r5.drop (ix + 1))
      have s1 := (hs.gr g1).chg (k := .lst) hOj k1 re trivial
      have f1 := fr_chg (o := HO.lst (vs.eraseIdx ix)) (hs.gr g1) (hf.step g1) hOj k1
      exact q _ F1 _ (s1.set hOi ry) (fr_set f1 hOi) g1.ff
      | _ => cases h2
    · cases h3
end
end TL

set_option Elab.async false
set_option linter.all false
set_option maxRecDepth 100000
namespace TL
open PySem PySem.Spec PyProof.Rows L2
section
variable {X : Cx} {pins : List (Addr × Obj)} {s : Shared} {σ : L2.St} {F H : Hp}
end
end TL

set_option Elab.async false
set_option linter.all false
set_option maxRecDepth 100000
namespace TL
open PySem PySem.Spec PyProof.Rows L2
section
variable {prog : Program} {w : World} {A : Around} {E : Value → Shared → Prop} {s : Shared}
end
section
variable {X : Cx} {R : RK} {O Ob : List Nat} {pos : Pos}
end
end TL

set_option Elab.async false
set_option linter.all false
set_option maxRecDepth 100000
namespace TL
open PySem PySem.Spec PyProof.Rows L2
def cutSD (lo hi : Option Int) : D → Option D
  | .str z => if z.length ≤ sizeLine then some (.str (cutS z lo hi)) else none
  | _ => none
def signsD : D → Option (List D)
  | .str z => if z.length ≤ sizeLine then some (z.cps.toList.map fun c => .str ⟨#[c]⟩) else none
  | _ => none
@[simp] def eSliceS (a : SE) (lo hi : Option SE) : SE := fun env => (a env).bind fun x => (ePart lo env).bind fun l => (ePart hi env).bind fun h => cutSD l h x
@[simp] def iSigns (a : SE) : SI := fun env => (a env).bind signsD
section
variable {X : Cx} {O : List Nat} {a b : Expr} {fa fb : SE} {pos p2 : Pos}
end
section
variable {X : Cx} {O : List Nat} {a tg : Expr} {fa : SE}
end
end TL

set_option linter.all false
set_option maxRecDepth 100000
namespace LB
open PySem TL
def m_is_whole : List D → Option D := runF 1 0 ((sRet (eAnd (e1 (isiD .int) (eVar 0)) (eNot (e1 (isiD .bool) (eVar 0))))))
def m_is_numbers : List D → Option D := runF 1 1 ((sRet (eAnd (e1 (isiD .tuple) (eVar 0)) (e1 allD (eLc [1] (iSeq (eVar 0)) (TL.gName 1) cYes (eCall m_is_whole [(eVar 1)]))))))
def m_is_from : List D → Option D := runF 3 0 ((sRet (eAnd (eCall m_is_whole [(eVar 0)]) (eChain leD leD (eVar 1) (eVar 0) (eVar 2)))))
def m_rises : List D → Option D := runF 1 1 ((sRet (e1 allD (eLc [1] (iRng1 (e2 subD (e1 lenD (eVar 0)) (eC (.int 1)))) (TL.gName 1) cYes (e2 ltD (e2 ixD (eVar 0) (eVar 1)) (e2 ixD (eVar 0) (e2 addD (eVar 1) (eC (.int 1)))))))))
def m_is_items : List D → Option D := runF 2 1 ((sRet (eAnd (eCall m_is_numbers [(eVar 0)]) (eAnd (eCall m_rises [(eVar 0)]) (e1 allD (eLc [2] (iSeq (eVar 0)) (TL.gName 2) cYes (eChain leD ltD (eC (.int 0)) (eVar 2) (eVar 1))))))))
def m_is_pairs : List D → Option D := runF 1 1 ((sSeq (sIf (TL.tOr (TL.tNot (tV (e1 (isiD .tuple) (eVar 0)))) (TL.tNot (tV (e1 allD (eLc [1] (iSeq (eVar 0)) (TL.gName 1) cYes (eAnd (eCall m_is_numbers [(eVar 1)]) (e2 eqD (e1 lenD (eVar 1)) (eC (.int 2)))))))))
      (sRet (eC (.bool false)))
      sNext)
      (sRet (eCall m_rises [(eVar 0)]))))
def m_is_world : List D → Option D := runF 1 6 ((sSeq (sIf (TL.tOr (TL.tNot (tV (e1 (isiD .tuple) (eVar 0)))) (TL.tOr (tV (e2 neD (e1 lenD (eVar 0)) (eC (.int 3)))) (TL.tNot (tV (eCall m_is_from [(e2 ixD (eVar 0) (eC (.int 0))), (eC (.int 1)), (eC (.int 8))])))))
      (sRet (eC (.bool false)))
      sNext)
      (sSeq (sAsg (eVar 0) (TL.gTup [(TL.gName 1), (TL.gName 2), (TL.gName 3)]))
      (sSeq (sIf (TL.tOr (TL.tNot (tV (e1 (isiD .tuple) (eVar 2)))) (TL.tOr (tV (e2 neD (e1 lenD (eVar 2)) (eC (.int 2)))) (TL.tNot (tV (e1 allD (eLc [6] (iSeq (eVar 2)) (TL.gName 6) cYes (eCall m_is_items [(eVar 6), (eVar 1)])))))))
      (sRet (eC (.bool false)))
      sNext)
      (sRet (eAnd (eCall m_is_pairs [(eVar 3)]) (e1 allD (eLc2 [4, 5] (iSeq (eVar 3)) (TL.gName 4) cYes [5] (iSeq (eVar 4)) (TL.gName 5) cYes (eChain leD ltD (eC (.int 0)) (eVar 5) (eVar 1))))))))))
def m__law_cell : List D → Option D := runF 2 0 ((sSeq (sIf (tV (e2 ltD (eVar 1) (e1 lenD (eVar 0))))
      (sRet (e2 ixD (eVar 0) (eVar 1)))
      sNext)
      (sRet (eC (.int 0)))))
def m__law_draws : List D → Option D := runF 2 4 ((sSeq (sAsg (eLst []) (TL.gName 2))
      (sSeq (sAsg (eVar 0) (TL.gName 3))
      (sSeq (sFor (iRng1 (eVar 1)) (TL.gName 4)
      (sIf (TL.tAnd (tV (e2 geD (eVar 0) (e2 powD (eC (.int 10)) (eC (.int 18))))) (tV (e2 gtD (eVar 3) (eC (.int 0)))))
      (sSeq (sApp 2 (e2 modD (e1 intD (eVar 3)) (eC (.int 4096))))
      (sAsg (e2 fdivD (eVar 3) (eC (.int 4096))) (TL.gName 3)))
      (sSeq (sAsg (e2 modD (e1 intD (e2 addD (e2 mulD (eVar 0) (eC (.int 48271))) (e2 mulD (e2 addD (eVar 4) (eC (.int 1))) (eC (.int 69621))))) (eC (.int 2147483647))) (TL.gName 5))
      (sSeq (sAsg (e2 modD (e1 intD (e2 addD (e2 addD (e2 mulD (eVar 5) (eVar 5)) (e2 mulD (eVar 5) (eC (.int 16807)))) (e2 mulD (eVar 4) (eC (.int 7919))))) (eC (.int 2147483629))) (TL.gName 5))
      (sSeq (sAsg (e2 modD (e1 intD (e2 addD (e2 addD (e2 mulD (eVar 5) (eVar 5)) (eVar 0)) (e2 mulD (eC (.int 13)) (eVar 4)))) (eC (.int 2147483587))) (TL.gName 5))
      (sApp 2 (e2 modD (e2 fdivD (eVar 5) (eC (.int 7))) (eC (.int 4096)))))))))
      (sRet (eVar 2))))))
def m__law_is_int : List D → Option D := runF 1 0 ((sRet (eAnd (e1 (isiD .int) (eVar 0)) (eNot (e1 (isiD .bool) (eVar 0))))))
def m__law_numbers_in : List D → Option D := runF 2 1 ((sSeq (sIf (TL.tOr (TL.tNot (tV (e1 (isiD .tuple) (eVar 0)))) (tV (e2 neD (e1 lenD (eVar 0)) (eVar 1))))
      (sRet (eC (.bool false)))
      sNext)
      (sRet (e2 eqD (e1 lenD (eLc [2] (iSeq (eVar 0)) (TL.gName 2) (TL.tNot (tV (eCall m__law_is_int [(eVar 2)]))) (eVar 2))) (eC (.int 0))))))
def m__law_line : List D → Option D := runF 1 3 ((sSeq (sAsg (eTup []) (TL.gName 1))
      (sSeq (sFor (iRng1 (eVar 0)) (TL.gName 2)
      (sAsg (e2 addD (eVar 1) (e1 tupleD (eLc [3] (iRng2 (e2 addD (eVar 2) (eC (.int 1))) (eVar 0)) (TL.gName 3) cYes (eTup [(eVar 2), (eVar 3)])))) (TL.gName 1)))
      (sRet (eTup [(eVar 0), (eTup [(eTup []), (eTup [])]), (eVar 1)])))))
def m__law_ring : List D → Option D := runF 1 1 ((sRet (eTup [(eVar 0), (eTup [(eTup []), (eTup [])]), (e1 tupleD (e1 sortedD (eLc [1] (iRng1 (eVar 0)) (TL.gName 1) cYes (eTup [(eVar 1), (e2 modD (e2 addD (eVar 1) (eC (.int 1))) (eVar 0))]))))])))
def m__law_both_ways : List D → Option D := runF 2 3 ((sRet (eTup [(eVar 0), (eTup [(eTup []), (eTup [])]), (e1 tupleD (e1 sortedD (e2 addD (eLc [2] (iSeq (eVar 1)) (TL.gName 2) cYes (eVar 2)) (eLc [3, 4] (iSeq (eVar 1)) (TL.gTup [(TL.gName 3), (TL.gName 4)]) cYes (eTup [(eVar 4), (eVar 3)])))))])))
def m__law_special : List D → Option D := runF 1 1 ((sSeq (sAsg (eLst [(eCall m__law_line [(eC (.int 3))]), (eCall m__law_line [(eC (.int 4))]), (eCall m__law_ring [(eC (.int 3))]), (eCall m__law_ring [(eC (.int 4))]), (eTup [(eC (.int 2)), (eTup [(eTup []), (eTup [])]), (eTup [])]), (eTup [(eC (.int 3)), (eTup [(eTup []), (eTup [])]), (eTup [])]), (eTup [(eC (.int 4)), (eTup [(eTup []), (eTup [])]), (eTup [])])]) (TL.gName 1))
      (sSeq (sAsg (e2 addD (eVar 1) (eLst [(eCall m__law_both_ways [(eC (.int 4)), (eTup [(eTup [(eC (.int 0)), (eC (.int 1))]), (eTup [(eC (.int 1)), (eC (.int 2))]), (eTup [(eC (.int 2)), (eC (.int 3))])])]), (eCall m__law_both_ways [(eC (.int 4)), (eTup [(eTup [(eC (.int 0)), (eC (.int 1))]), (eTup [(eC (.int 1)), (eC (.int 2))]), (eTup [(eC (.int 2)), (eC (.int 3))]), (eTup [(eC (.int 0)), (eC (.int 3))])])]), (eCall m__law_both_ways [(eC (.int 3)), (eTup [(eTup [(eC (.int 0)), (eC (.int 1))]), (eTup [(eC (.int 1)), (eC (.int 2))]), (eTup [(eC (.int 0)), (eC (.int 2))])])])])) (TL.gName 1))
      (sRet (e2 ixD (eVar 1) (e2 modD (eVar 0) (e1 lenD (eVar 1))))))))
def m__law_world : List D → Option D := runF 2 9 ((sSeq (sAsg (e2 addD (eC (.int 1)) (e2 modD (e1 intD (e2 ixD (eVar 0) (eC (.int 0)))) (eVar 1))) (TL.gName 2))
      (sSeq (sIf (TL.tAnd (tV (e2 eqD (e2 modD (e2 ixD (eVar 0) (eC (.int 1))) (eC (.int 6))) (eC (.int 1)))) (tV (e2 leD (e2 ixD (eCall m__law_special [(e1 intD (e2 ixD (eVar 0) (eC (.int 2))))]) (eC (.int 0))) (eVar 1))))
      (sRet (eCall m__law_special [(e1 intD (e2 ixD (eVar 0) (eC (.int 2))))]))
      sNext)
      (sSeq (sAsg (e2 ixD (eLst [(eC (.int 2)), (eC (.int 3)), (eC (.int 5)), (eC (.int 3))]) (e2 modD (e2 fdivD (e1 intD (e2 ixD (eVar 0) (eC (.int 1)))) (eC (.int 6))) (eC (.int 4)))) (TL.gName 3))
      (sSeq (sAsg (e2 ixD (eLst [(eC (.int 2)), (eC (.int 9999)), (eC (.int 3)), (eC (.int 9999))]) (e2 modD (e2 fdivD (e1 intD (e2 ixD (eVar 0) (eC (.int 1)))) (eC (.int 24))) (eC (.int 4)))) (TL.gName 4))
      (sSeq (sAsg (eTup []) (TL.gName 5))
      (sSeq (sFor (iRng1 (eC (.int 2))) (TL.gName 6)
      (sAsg (e2 addD (eVar 5) (eTup [(e1 tupleD (eLc [9] (iRng1 (eVar 2)) (TL.gName 9) (tV (e2 eqD (e2 modD (e2 fdivD (e1 intD (e2 ixD (eVar 0) (e2 addD (eC (.int 3)) (eVar 9)))) (e2 addD (eC (.int 1)) (eVar 6))) (eVar 4)) (eC (.int 0)))) (eVar 9)))])) (TL.gName 5)))
      (sSeq (sAsg (eLst []) (TL.gName 7))
      (sSeq (sAsg (eC (.int 11)) (TL.gName 8))
      (sSeq (sFor (iRng1 (eVar 2)) (TL.gName 9)
      (sFor (iRng1 (eVar 2)) (TL.gName 10)
      (sSeq (sIf (tV (e2 eqD (e2 modD (e2 fdivD (e1 intD (e2 ixD (eVar 0) (e2 modD (eVar 8) (e1 lenD (eVar 0))))) (e2 addD (eC (.int 1)) (e2 fdivD (eVar 8) (e1 lenD (eVar 0))))) (eVar 3)) (eC (.int 0))))
      (sApp 7 (eTup [(eVar 9), (eVar 10)]))
      sNext)
      (sAsg (e2 addD (eVar 8) (eC (.int 1))) (TL.gName 8)))))
      (sSeq (sIf (tV (e2 eqD (e2 modD (e2 ixD (eVar 0) (eC (.int 2))) (eC (.int 5))) (eC (.int 1))))
      (sSeq (sAsg (e2 addLD (eVar 7) (eLc [9, 10] (iSeq (eVar 7)) (TL.gTup [(TL.gName 9), (TL.gName 10)]) (tV (e2 ninD (eTup [(eVar 10), (eVar 9)]) (eVar 7))) (eTup [(eVar 10), (eVar 9)]))) (TL.gName 7))
      (sAsg (eLc [9, 10] (iSeq (eVar 7)) (TL.gTup [(TL.gName 9), (TL.gName 10)]) (tV (e2 neD (eVar 9) (eVar 10))) (eTup [(eVar 9), (eVar 10)])) (TL.gName 7)))
      sNext)
      (sRet (eTup [(eVar 2), (eVar 5), (e1 tupleD (e1 sortedD (eVar 7)))])))))))))))))
def m__law_items : List D → Option D := runF 2 2 ((sSeq (sIf (TL.tOr (TL.tNot (tV (e1 (isiD .tuple) (eVar 0)))) (tV (e2 gtD (e1 lenD (eLc [3] (iSeq (eVar 0)) (TL.gName 3) (TL.tOr (TL.tNot (tV (eCall m__law_is_int [(eVar 3)]))) (TL.tNot (tV (eChain leD ltD (eC (.int 0)) (eVar 3) (eVar 1))))) (eVar 3))) (eC (.int 0)))))
      (sRet (eC (.bool false)))
      sNext)
      (sRet (e2 eqD (e1 lenD (eLc [2] (iRng1 (e2 subD (e1 lenD (eVar 0)) (eC (.int 1)))) (TL.gName 2) (tV (e2 geD (e2 ixD (eVar 0) (eVar 2)) (e2 ixD (eVar 0) (e2 addD (eVar 2) (eC (.int 1)))))) (eVar 2))) (eC (.int 0))))))
def m__law_pairs : List D → Option D := runF 3 2 ((sSeq (sIf (TL.tNot (tV (e1 (isiD .tuple) (eVar 0))))
      (sRet (eC (.bool false)))
      sNext)
      (sSeq (sFor (iSeq (eVar 0)) (TL.gName 3)
      (sIf (TL.tOr (TL.tNot (tV (eCall m__law_numbers_in [(eVar 3), (eC (.int 2))]))) (TL.tOr (TL.tNot (tV (eChain leD ltD (eC (.int 0)) (e2 ixD (eVar 3) (eC (.int 0))) (eVar 1)))) (TL.tNot (tV (eChain leD ltD (eC (.int 0)) (e2 ixD (eVar 3) (eC (.int 1))) (eVar 2))))))
      (sRet (eC (.bool false)))
      sNext))
      (sRet (e2 eqD (e1 lenD (eLc [4] (iRng1 (e2 subD (e1 lenD (eVar 0)) (eC (.int 1)))) (TL.gName 4) (tV (e2 geD (e2 ixD (eVar 0) (eVar 4)) (e2 ixD (eVar 0) (e2 addD (eVar 4) (eC (.int 1)))))) (eVar 4))) (eC (.int 0)))))))
def m__law_is_world : List D → Option D := runF 1 1 ((sSeq (sIf (TL.tOr (TL.tNot (tV (e1 (isiD .tuple) (eVar 0)))) (TL.tOr (tV (e2 neD (e1 lenD (eVar 0)) (eC (.int 3)))) (TL.tOr (TL.tNot (tV (eCall m__law_is_int [(e2 ixD (eVar 0) (eC (.int 0)))]))) (TL.tNot (tV (eChain leD leD (eC (.int 1)) (e2 ixD (eVar 0) (eC (.int 0))) (eC (.int 8))))))))
      (sRet (eC (.bool false)))
      sNext)
      (sSeq (sIf (TL.tOr (TL.tNot (tV (e1 (isiD .tuple) (e2 ixD (eVar 0) (eC (.int 1)))))) (TL.tOr (tV (e2 neD (e1 lenD (e2 ixD (eVar 0) (eC (.int 1)))) (eC (.int 2)))) (tV (e2 gtD (e1 lenD (eLc [1] (iSeq (e2 ixD (eVar 0) (eC (.int 1)))) (TL.gName 1) (TL.tNot (tV (eCall m__law_items [(eVar 1), (e2 ixD (eVar 0) (eC (.int 0)))]))) (eVar 1))) (eC (.int 0))))))
      (sRet (eC (.bool false)))
      sNext)
      (sRet (eCall m__law_pairs [(e2 ixD (eVar 0) (eC (.int 2))), (e2 ixD (eVar 0) (eC (.int 0))), (e2 ixD (eVar 0) (eC (.int 0)))])))))
def m_renamed : List D → Option D := runF 2 7 ((sSeq (sAsg (eVar 0) (TL.gTup [(TL.gName 3), (TL.gName 4), (TL.gName 5)]))
      (sSeq (sAsg (e1 tupleD (eLc [6] (iSeq (eVar 4)) (TL.gName 6) cYes (e1 tupleD (e1 sortedD (eLc [7] (iSeq (eVar 6)) (TL.gName 7) cYes (e2 ixD (eVar 1) (eVar 7))))))) (TL.gName 2))
      (sRet (eTup [(eVar 3), (eVar 2), (e1 tupleD (e1 sortedD (eLc [7, 8] (iSeq (eVar 5)) (TL.gTup [(TL.gName 7), (TL.gName 8)]) cYes (eTup [(e2 ixD (eVar 1) (eVar 7)), (e2 ixD (eVar 1) (eVar 8))]))))])))))
def m_part_of : List D → Option D := runF 2 6 ((sSeq (sAsg (e1 lenD (eVar 1)) (TL.gName 2))
      (sSeq (sAsg (e1 tupleD (eLc [5] (iSeq (e2 ixD (eVar 0) (eC (.int 1)))) (TL.gName 5) cYes (e1 tupleD (eLc [7] (iRng1 (eVar 2)) (TL.gName 7) (tV (e2 inD (e2 ixD (eVar 1) (eVar 7)) (eVar 5))) (eVar 7))))) (TL.gName 3))
      (sSeq (sAsg (e1 tupleD (eLc2 [6, 7] (iRng1 (eVar 2)) (TL.gName 6) cYes [7] (iRng1 (eVar 2)) (TL.gName 7) (tV (e2 inD (eTup [(e2 ixD (eVar 1) (eVar 6)), (e2 ixD (eVar 1) (eVar 7))]) (e2 ixD (eVar 0) (eC (.int 2))))) (eTup [(eVar 6), (eVar 7)]))) (TL.gName 4))
      (sRet (eTup [(eVar 2), (eVar 3), (eVar 4)]))))))
def m__law_kind : List D → Option D := runF 1 0 ((sSeq (sIf (tV (e1 (isiD .bool) (eVar 0)))
      (sRet (eC (.int 1)))
      sNext)
      (sSeq (sIf (tV (e1 (isiD .int) (eVar 0)))
      (sRet (eC (.int 2)))
      sNext)
      (sSeq (sIf (tV (e1 (isiD .str) (eVar 0)))
      (sRet (eC (.int 3)))
      sNext)
      (sSeq (sIf (tV (e1 (isiD .tuple) (eVar 0)))
      (sRet (eC (.int 4)))
      sNext)
      (sSeq (sIf (tV (e1 (isiD .list) (eVar 0)))
      (sRet (eC (.int 5)))
      sNext)
      (sSeq (sIf (tV (e1 (isiD .dict) (eVar 0)))
      (sRet (eC (.int 6)))
      sNext)
      (sRet (eC (.int 0))))))))))
def m__law_equal : Nat → List D → Option D
  | 0 => fun _ => none
  | n + 1 => runF 2 3 ((sSeq (sIf (tV (e2 neD (eCall m__law_kind [(eVar 0)]) (eCall m__law_kind [(eVar 1)])))
      (sRet (eC (.bool false)))
      sNext)
      (sSeq (sIf (TL.tOr (tV (e1 (isiD .tuple) (eVar 1))) (tV (e1 (isiD .list) (eVar 1))))
      (sSeq (sIf (tV (e2 neD (e1 lenD (eVar 0)) (e1 lenD (eVar 1))))
      (sRet (eC (.bool false)))
      sNext)
      (sRet (e2 eqD (e1 lenD (eLc [3] (iRng1 (e1 lenD (eVar 1))) (TL.gName 3) (TL.tNot (tV (eCall (m__law_equal n) [(e2 ixD (eVar 0) (eVar 3)), (e2 ixD (eVar 1) (eVar 3))]))) (eVar 3))) (eC (.int 0)))))
      sNext)
      (sSeq (sIf (tV (e1 (isiD .dict) (eVar 1)))
      (sSeq (sIf (tV (e2 neD (e1 lenD (eVar 0)) (e1 lenD (eVar 1))))
      (sRet (eC (.bool false)))
      sNext)
      (sSeq (sFor (iSeq (eVar 0)) (TL.gName 2)
      (sSeq (sIf (TL.tOr (tV (e2 ninD (eVar 2) (eVar 1))) (TL.tNot (tV (eCall (m__law_equal n) [(e2 ixD (eVar 0) (eVar 2)), (e2 ixD (eVar 1) (eVar 2))]))))
      (sRet (eC (.bool false)))
      sNext)
      (sIf (tV (e2 eqD (e1 lenD (eLc [4] (iSeq (eVar 1)) (TL.gName 4) (TL.tAnd (tV (e2 eqD (eVar 4) (eVar 2))) (tV (eCall (m__law_equal n) [(eVar 2), (eVar 4)]))) (eVar 4))) (eC (.int 0))))
      (sRet (eC (.bool false)))
      sNext)))
      (sRet (eC (.bool true)))))
      sNext)
      (sRet (e2 eqD (eVar 0) (eVar 1)))))))
def m__law_names : List D → Option D := runF 3 3 ((sSeq (sAsg (eRngL (eVar 2)) (TL.gName 3))
      (sSeq (sAsg (eTup []) (TL.gName 4))
      (sSeq (sFor (iRng1 (eVar 2)) (TL.gName 5)
      (sPopAdd 4 3 (e2 modD (e1 intD (e2 ixD (eVar 0) (e2 modD (e2 addD (eVar 1) (eVar 5)) (e1 lenD (eVar 0))))) (e1 lenD (eVar 3)))))
      (sRet (eVar 4))))))
def m__law_renamed : List D → Option D := runF 2 4 ((sSeq (sAsg (e1 tupleD (eLc [3] (iSeq (e2 ixD (eVar 0) (eC (.int 1)))) (TL.gName 3) cYes (e1 tupleD (e1 sortedD (eLc [4] (iSeq (eVar 3)) (TL.gName 4) cYes (e2 ixD (eVar 1) (eVar 4))))))) (TL.gName 2))
      (sRet (eTup [(e2 ixD (eVar 0) (eC (.int 0))), (eVar 2), (e1 tupleD (e1 sortedD (eLc [4, 5] (iSeq (e2 ixD (eVar 0) (eC (.int 2)))) (TL.gTup [(TL.gName 4), (TL.gName 5)]) cYes (eTup [(e2 ixD (eVar 1) (eVar 4)), (e2 ixD (eVar 1) (eVar 5))]))))]))))
def m__law_beside : List D → Option D := runF 2 5 ((sSeq (sAsg (e2 ixD (eVar 0) (eC (.int 0))) (TL.gName 2))
      (sSeq (sAsg (e1 tupleD (eLc [4] (iRng1 (eC (.int 2))) (TL.gName 4) cYes (e2 addD (e2 ixD (e2 ixD (eVar 0) (eC (.int 1))) (eVar 4)) (e1 tupleD (eLc [5] (iSeq (e2 ixD (e2 ixD (eVar 1) (eC (.int 1))) (eVar 4))) (TL.gName 5) cYes (e2 addD (eVar 5) (eVar 2))))))) (TL.gName 3))
      (sRet (eTup [(e2 addD (eVar 2) (e2 ixD (eVar 1) (eC (.int 0)))), (eVar 3), (e2 addD (e2 ixD (eVar 0) (eC (.int 2))) (e1 tupleD (eLc [5, 6] (iSeq (e2 ixD (eVar 1) (eC (.int 2)))) (TL.gTup [(TL.gName 5), (TL.gName 6)]) cYes (eTup [(e2 addD (eVar 5) (eVar 2)), (e2 addD (eVar 6) (eVar 2))]))))])))))
def m__law_inner : List D → Option D := runF 1 1 ((sSeq (sAsg (e2 ixD (eVar 0) (eC (.int 0))) (TL.gName 1))
      (sSeq (sIf (tV (e2 inD (eVar 1) (eTup [(eC (.str "and")), (eC (.str "or"))])))
      (sRet (e2 ixD (eVar 0) (eC (.int 1))))
      sNext)
      (sSeq (sIf (tV (e2 eqD (eVar 1) (eC (.str "not"))))
      (sRet (eSlice (eVar 0) (some (eC (.int 1))) none))
      sNext)
      (sSeq (sIf (tV (e2 inD (eVar 1) (eTup [(eC (.str "some")), (eC (.str "all"))])))
      (sRet (eSlice (eVar 0) (some (eC (.int 2))) none))
      sNext)
      (sSeq (sIf (tV (e2 eqD (eVar 1) (eC (.str "least"))))
      (sRet (eSlice (eVar 0) (some (eC (.int 3))) none))
      sNext)
      (sRet (eTup []))))))))
def m__law_bound : List D → Option D := runF 1 0 ((sSeq (sIf (tV (e2 inD (e2 ixD (eVar 0) (eC (.int 0))) (eTup [(eC (.str "some")), (eC (.str "all"))])))
      (sRet (eLst [(e2 ixD (eVar 0) (eC (.int 1)))]))
      sNext)
      (sSeq (sIf (tV (e2 eqD (e2 ixD (eVar 0) (eC (.int 0))) (eC (.str "least"))))
      (sRet (eLst [(e2 ixD (eVar 0) (eC (.int 2)))]))
      sNext)
      (sRet (eLst [])))))
def m__law_truth : Nat → List D → Option D
  | 0 => fun _ => none
  | n + 1 => runF 3 6 ((sSeq (sAsg (e2 ixD (eVar 1) (eC (.int 0))) (TL.gName 3))
      (sSeq (sIf (tV (e2 eqD (eVar 3) (eC (.str "same"))))
      (sRet (e2 eqD (e2 ixD (eVar 2) (e2 ixD (eVar 1) (eC (.int 1)))) (e2 ixD (eVar 2) (e2 ixD (eVar 1) (eC (.int 2))))))
      sNext)
      (sSeq (sIf (tV (e2 eqD (eVar 3) (eC (.str "mark"))))
      (sRet (e2 inD (e2 ixD (eVar 2) (e2 ixD (eVar 1) (eC (.int 2)))) (e2 ixD (e2 ixD (eVar 0) (eC (.int 1))) (e2 ixD (eVar 1) (eC (.int 1))))))
      sNext)
      (sSeq (sIf (tV (e2 eqD (eVar 3) (eC (.str "arrow"))))
      (sRet (e2 inD (eTup [(e2 ixD (eVar 2) (e2 ixD (eVar 1) (eC (.int 1)))), (e2 ixD (eVar 2) (e2 ixD (eVar 1) (eC (.int 2))))]) (e2 ixD (eVar 0) (eC (.int 2)))))
      sNext)
      (sSeq (sIf (tV (e2 eqD (eVar 3) (eC (.str "not"))))
      (sRet (eNot (eCall (m__law_truth n) [(eVar 0), (e2 ixD (eVar 1) (eC (.int 1))), (eVar 2)])))
      sNext)
      (sSeq (sIf (tV (e2 eqD (eVar 3) (eC (.str "and"))))
      (sSeq (sFor (iSeq (e2 ixD (eVar 1) (eC (.int 1)))) (TL.gName 8)
      (sIf (TL.tNot (tV (eCall (m__law_truth n) [(eVar 0), (eVar 8), (eVar 2)])))
      (sRet (eC (.bool false)))
      sNext))
      (sRet (eC (.bool true))))
      sNext)
      (sSeq (sIf (tV (e2 eqD (eVar 3) (eC (.str "or"))))
      (sSeq (sFor (iSeq (e2 ixD (eVar 1) (eC (.int 1)))) (TL.gName 8)
      (sIf (tV (eCall (m__law_truth n) [(eVar 0), (eVar 8), (eVar 2)]))
      (sRet (eC (.bool true)))
      sNext))
      (sRet (eC (.bool false))))
      sNext)
      (sSeq (sIf (tV (e2 inD (eVar 3) (eTup [(eC (.str "true")), (eC (.str "false"))])))
      (sRet (e2 eqD (eVar 3) (eC (.str "true"))))
      sNext)
      (sSeq (sAsg (e2 ixD (eCall m__law_bound [(eVar 1)]) (eC (.int 0))) (TL.gName 4))
      (sSeq (sAsg (eC (.int 1)) (TL.gName 5))
      (sSeq (sIf (tV (e2 eqD (eVar 3) (eC (.str "least"))))
      (sAsg (e2 ixD (eVar 1) (eC (.int 1))) (TL.gName 5))
      sNext)
      (sSeq (sAsg (eC (.int 0)) (TL.gName 6))
      (sSeq (sFor (iRng1 (e2 ixD (eVar 0) (eC (.int 0)))) (TL.gName 7)
      (sIf (TL.tOr (tV (e2 eqD (eVar 3) (eC (.str "all")))) (tV (e2 ltD (eVar 6) (eVar 5))))
      (sIf (tV (eCall (m__law_truth n) [(eVar 0), (e2 ixD (eVar 1) (e1 negD (eC (.int 1)))), (e2 addD (e2 addD (eSlice (eVar 2) none (some (eVar 4))) (eTup [(eVar 7)])) (eSlice (eVar 2) (some (e2 addD (eVar 4) (eC (.int 1)))) none))]))
      (sAsg (e2 addD (eVar 6) (eC (.int 1))) (TL.gName 6))
      (sIf (tV (e2 eqD (eVar 3) (eC (.str "all"))))
      (sRet (eC (.bool false)))
      sNext))
      sNext))
      (sRet (eOr (e2 eqD (eVar 3) (eC (.str "all"))) (e2 geD (eVar 6) (eVar 5))))))))))))))))))
def m__law_pushed : Nat → List D → Option D
  | 0 => fun _ => none
  | n + 1 => runF 1 1 ((sSeq (sIf (TL.tAnd (tV (e2 eqD (e2 ixD (eVar 0) (eC (.int 0))) (eC (.str "not")))) (tV (e2 ninD (e2 ixD (e2 ixD (eVar 0) (eC (.int 1))) (eC (.int 0))) (eTup [(eC (.str "same")), (eC (.str "mark")), (eC (.str "arrow")), (eC (.str "least"))]))))
      (sRet (eC (.bool false)))
      sNext)
      (sRet (e2 eqD (e1 lenD (eLc [1] (iSeq (eCall m__law_inner [(eVar 0)])) (TL.gName 1) (TL.tNot (tV (eCall (m__law_pushed n) [(eVar 1)]))) (eVar 1))) (eC (.int 0))))))
def m_goes : List D → Option D := runF 4 5 ((sSeq (sAsg (eVar 2) (TL.gTup [(TL.gName 4), (TL.gName 5)]))
      (sSeq (sAsg (eVar 3) (TL.gTup [(TL.gName 6), (TL.gName 7)]))
      (sSeq (sIf (tV (e2 neD (e2 eqD (eVar 4) (eVar 6)) (e2 eqD (eVar 5) (eVar 7))))
      (sRet (eC (.bool false)))
      sNext)
      (sSeq (sIf (tV (e1 anyD (eLc [8] (iSeq (eTup [(eC (.int 0)), (eC (.int 1))])) (TL.gName 8) cYes (e2 neD (e2 inD (eVar 4) (e2 ixD (e2 ixD (eVar 0) (eC (.int 1))) (eVar 8))) (e2 inD (eVar 5) (e2 ixD (e2 ixD (eVar 1) (eC (.int 1))) (eVar 8)))))))
      (sRet (eC (.bool false)))
      sNext)
      (sRet (eAnd (e2 eqD (e2 inD (eTup [(eVar 4), (eVar 6)]) (e2 ixD (eVar 0) (eC (.int 2)))) (e2 inD (eTup [(eVar 5), (eVar 7)]) (e2 ixD (eVar 1) (eC (.int 2))))) (e2 eqD (e2 inD (eTup [(eVar 6), (eVar 4)]) (e2 ixD (eVar 0) (eC (.int 2)))) (e2 inD (eTup [(eVar 7), (eVar 5)]) (e2 ixD (eVar 1) (eC (.int 2))))))))))))
def m__law_pair : List D → Option D := runF 2 9 ((sSeq (sAsg (eCall m__law_world [(eVar 0), (eVar 1)]) (TL.gName 2))
      (sSeq (sAsg (e2 ixD (eVar 2) (eC (.int 0))) (TL.gName 3))
      (sSeq (sAsg (e2 modD (e1 intD (e2 ixD (eVar 0) (e2 subD (e1 lenD (eVar 0)) (eC (.int 1))))) (eC (.int 8))) (TL.gName 4))
      (sSeq (sIf (tV (e2 eqD (eVar 4) (eC (.int 0))))
      (sRet (eTup [(eVar 2), (eCall m__law_world [(eSlice (eVar 0) (some (eC (.int 7))) none), (eVar 1)])]))
      sNext)
      (sSeq (sIf (tV (e2 eqD (eVar 4) (eC (.int 1))))
      (sSeq (sAsg (eLst [(eTup [(eCall m__law_line [(eC (.int 3))]), (eCall m__law_line [(eC (.int 4))])]), (eTup [(eCall m__law_line [(eC (.int 2))]), (eCall m__law_line [(eC (.int 3))])]), (eTup [(eTup [(eC (.int 3)), (eTup [(eTup []), (eTup [])]), (eTup [])]), (eTup [(eC (.int 4)), (eTup [(eTup []), (eTup [])]), (eTup [])])]), (eTup [(eCall m__law_ring [(eC (.int 3))]), (eCall m__law_ring [(eC (.int 4))])]), (eTup [(eCall m__law_ring [(eC (.int 4))]), (eCall m__law_line [(eC (.int 4))])])]) (TL.gName 8))
      (sSeq (sAsg (e2 ixD (eVar 8) (e2 modD (e1 intD (e2 ixD (eVar 0) (e2 subD (e1 lenD (eVar 0)) (eC (.int 2))))) (eC (.int 5)))) (TL.gName 9))
      (sIf (tV (e2 leD (e2 max2D (e2 ixD (e2 ixD (eVar 9) (eC (.int 0))) (eC (.int 0))) (e2 ixD (e2 ixD (eVar 9) (eC (.int 1))) (eC (.int 0)))) (eVar 1)))
      (sRet (eVar 9))
      sNext)))
      sNext)
      (sSeq (sAsg (eCall m__law_renamed [(eVar 2), (eCall m__law_names [(eVar 0), (e2 subD (e1 lenD (eVar 0)) (eC (.int 12))), (eVar 3)])]) (TL.gName 5))
      (sSeq (sIf (tV (e2 ltD (eVar 4) (eC (.int 4))))
      (sRet (eTup [(eVar 2), (eVar 5)]))
      sNext)
      (sSeq (sAsg (e2 modD (e1 intD (e2 ixD (eVar 0) (e2 subD (e1 lenD (eVar 0)) (eC (.int 3))))) (eVar 3)) (TL.gName 6))
      (sSeq (sAsg (e2 modD (e1 intD (e2 ixD (eVar 0) (e2 subD (e1 lenD (eVar 0)) (eC (.int 4))))) (eVar 3)) (TL.gName 7))
      (sSeq (sIf (tV (e2 ltD (eVar 4) (eC (.int 7))))
      (sSeq (sIf (tV (e2 inD (eTup [(eVar 6), (eVar 7)]) (e2 ixD (eVar 5) (eC (.int 2)))))
      (sRet (eTup [(eVar 2), (eTup [(eVar 3), (e2 ixD (eVar 5) (eC (.int 1))), (e1 tupleD (eLc [9] (iSeq (e2 ixD (eVar 5) (eC (.int 2)))) (TL.gName 9) (tV (e2 neD (eVar 9) (eTup [(eVar 6), (eVar 7)]))) (eVar 9)))])]))
      sNext)
      (sRet (eTup [(eVar 2), (eTup [(eVar 3), (e2 ixD (eVar 5) (eC (.int 1))), (e1 tupleD (e1 sortedD (e2 addD (e2 ixD (eVar 5) (eC (.int 2))) (eTup [(eTup [(eVar 6), (eVar 7)])]))))])])))
      sNext)
      (sSeq (sIf (tV (e2 inD (eVar 6) (e2 ixD (e2 ixD (eVar 5) (eC (.int 1))) (eC (.int 0)))))
      (sRet (eTup [(eVar 2), (eTup [(eVar 3), (eTup [(e1 tupleD (eLc [10] (iSeq (e2 ixD (e2 ixD (eVar 5) (eC (.int 1))) (eC (.int 0)))) (TL.gName 10) (tV (e2 neD (eVar 10) (eVar 6))) (eVar 10))), (e2 ixD (e2 ixD (eVar 5) (eC (.int 1))) (eC (.int 1)))]), (e2 ixD (eVar 5) (eC (.int 2)))])]))
      sNext)
      (sRet (eTup [(eVar 2), (eTup [(eVar 3), (eTup [(e1 tupleD (e1 sortedD (e2 addD (e2 ixD (e2 ixD (eVar 5) (eC (.int 1))) (eC (.int 0))) (eTup [(eVar 6)])))), (e2 ixD (e2 ixD (eVar 5) (eC (.int 1))) (eC (.int 1)))]), (e2 ixD (eVar 5) (eC (.int 2)))])]))))))))))))))
def m__law_fit : List D → Option D := runF 4 4 ((sSeq (sAsg (eVar 2) (TL.gTup [(TL.gName 4), (TL.gName 5)]))
      (sSeq (sAsg (eVar 3) (TL.gTup [(TL.gName 6), (TL.gName 7)]))
      (sSeq (sIf (tV (e2 neD (e2 eqD (eVar 4) (eVar 6)) (e2 eqD (eVar 5) (eVar 7))))
      (sRet (eC (.bool false)))
      sNext)
      (sSeq (sIf (TL.tOr (tV (e2 neD (e2 inD (eVar 4) (e2 ixD (e2 ixD (eVar 0) (eC (.int 1))) (eC (.int 0)))) (e2 inD (eVar 5) (e2 ixD (e2 ixD (eVar 1) (eC (.int 1))) (eC (.int 0)))))) (tV (e2 neD (e2 inD (eVar 4) (e2 ixD (e2 ixD (eVar 0) (eC (.int 1))) (eC (.int 1)))) (e2 inD (eVar 5) (e2 ixD (e2 ixD (eVar 1) (eC (.int 1))) (eC (.int 1)))))))
      (sRet (eC (.bool false)))
      sNext)
      (sRet (eAnd (e2 eqD (e2 inD (eTup [(eVar 4), (eVar 6)]) (e2 ixD (eVar 0) (eC (.int 2)))) (e2 inD (eTup [(eVar 5), (eVar 7)]) (e2 ixD (eVar 1) (eC (.int 2))))) (e2 eqD (e2 inD (eTup [(eVar 6), (eVar 4)]) (e2 ixD (eVar 0) (eC (.int 2)))) (e2 inD (eTup [(eVar 7), (eVar 5)]) (e2 ixD (eVar 1) (eC (.int 2))))))))))))
def m_grows : List D → Option D := runF 4 1 ((sRet (eAnd (eCall m_goes [(eVar 0), (eVar 1), (eVar 3), (eVar 3)]) (e1 allD (eLc [4] (iSeq (eVar 2)) (TL.gName 4) cYes (eCall m_goes [(eVar 0), (eVar 1), (eVar 3), (eVar 4)]))))))
def m_put : List D → Option D := runF 2 0 ((sRet (eIf (tV (e2 inD (eVar 1) (eVar 0))) (eVar 0) (e1 tupleD (e1 sortedD (e2 addD (eVar 0) (eTup [(eVar 1)])))))))
def m_can_answer_2 : (List D → Option D) → List D → Option D := fun R => runM 6 4 4 ((sSeq (sAsg (eRngV (eC (.int 0)) (eIf (tV (e2 eqD (eVar 6) (eC (.int 0)))) (e2 ixD (eVar 1) (eC (.int 0))) (e2 ixD (eVar 0) (eC (.int 0))))) (TL.gName 7))
      (sSeq (sAsg (eLc [10] (iRngO (eVar 7)) (TL.gName 10) cYes (eIf (tV (e2 eqD (eVar 6) (eC (.int 0)))) (eTup [(eVar 5), (eVar 10)]) (eTup [(eVar 10), (eVar 5)]))) (TL.gName 8))
      (sSeq (sFor (iSeq (eVar 8)) (TL.gName 9)
      (sIf (TL.tAnd (tV (eCall m_grows [(eVar 0), (eVar 1), (eVar 2), (eVar 9)])) (tV (eCall R [(eVar 0), (eVar 1), (eCall m_put [(eVar 2), (eVar 9)]), (eVar 3)])))
      (sRet (eC (.bool true)))
      sNext))
      (sRet (eC (.bool false)))))))
def m_can_go_2 : Nat → List D → Option D
  | 0 => fun _ => none
  | n + 1 => runM 4 4 3 ((sSeq (sIf (tV (e2 eqD (eVar 3) (eC (.int 0))))
      (sRet (eC (.bool true)))
      sNext)
      (sMemo LB.uGo LB.spGo 0 1 (eTup [(eVar 2), (eVar 3)])
      (sSeqN (sAsg (eAg true [6] (iRng1 (e2 ixD (eVar 0) (eC (.int 0)))) (TL.gName 6) (eCall (m_can_answer_2 (m_can_go_2 n)) [(eVar 0), (eVar 1), (eVar 2), (e2 subD (eVar 3) (eC (.int 1))), (eVar 6), (eC (.int 0))])) (TL.gName 5))
      (sEnd LB.uGo LB.spGo 0 1 (eTup [(eVar 2), (eVar 3)]) (eAnd (eVar 5) (eAg true [7] (iRng1 (e2 ixD (eVar 1) (eC (.int 0)))) (TL.gName 7) (eCall (m_can_answer_2 (m_can_go_2 n)) [(eVar 0), (eVar 1), (eVar 2), (e2 subD (eVar 3) (eC (.int 1))), (eVar 7), (eC (.int 1))]))))))))
def m_agree_2 : List D → Option D := runF 3 0 ((sRet (eCall (m_can_go_2 8) [(eVar 0), (eVar 1), (eTup []), (eVar 2)])))
def m_likenesses_2 : Nat → List D → Option D
  | 0 => fun _ => none
  | n + 1 => fun ds => nnD (runF 3 6 ((sSeq (sAsg (e1 lenD (eVar 2)) (TL.gName 3))
      (sSeq (sIf (tV (e2 eqD (eVar 3) (e2 ixD (eVar 0) (eC (.int 0)))))
      (sRet (eLst [(eVar 2)]))
      sNext)
      (sSeq (sAsg (eLst []) (TL.gName 4))
      (sSeq (sFor (iRng1 (e2 ixD (eVar 1) (eC (.int 0)))) (TL.gName 5)
      (sSeq (sAsg (e2 addD (eLc [7] (iRng1 (eVar 3)) (TL.gName 7) cYes (eTup [(eVar 7), (e2 ixD (eVar 2) (eVar 7))])) (eLst [(eTup [(eVar 3), (eVar 5)])])) (TL.gName 6))
      (sIf (tV (e1 allD (eLc [8] (iSeq (eVar 6)) (TL.gName 8) cYes (eCall m_goes [(eVar 0), (eVar 1), (eTup [(eVar 3), (eVar 5)]), (eVar 8)]))))
      (sExt 4 (eCall (m_likenesses_2 n) [(eVar 0), (eVar 1), (e2 addD (eVar 2) (eTup [(eVar 5)]))]))
      sNext)))
      (sRet (eVar 4))))))) ds)
def m_neighbours : List D → Option D := runF 2 1 ((sRet (eLc [2] (iRng1 (e2 ixD (eVar 0) (eC (.int 0)))) (TL.gName 2) (TL.tAnd (tV (e2 neD (eVar 2) (eVar 1))) (TL.tOr (tV (e2 inD (eTup [(eVar 1), (eVar 2)]) (e2 ixD (eVar 0) (eC (.int 2))))) (tV (e2 inD (eTup [(eVar 2), (eVar 1)]) (e2 ixD (eVar 0) (eC (.int 2))))))) (eVar 2))))
def m_distances : List D → Option D := runF 2 4 ((sSeq (sAsg (eOneI (eVar 1) (eC (.int 0))) (TL.gName 2))
      (sSeq (sAsg (eLst [(eVar 1)]) (TL.gName 3))
      (sSeq (sWhile 1000 (tV (e2 gtD (e1 lenD (eVar 3)) (eC (.int 0))))
      (sSeq (sPopA 4 3 (eC (.int 0)))
      (sFor (iSeq (eCall m_neighbours [(eVar 0), (eVar 4)])) (TL.gName 5)
      (sIf (tV (e2 ninI (eVar 5) (eVar 2)))
      (sSeq (sSetI 2 (eVar 5) (e2 addD (e2 ixI (eVar 2) (eVar 4)) (eC (.int 1))))
      (sApp 3 (eVar 5)))
      sNext))))
      (sRet (eVar 2))))))
def m_ball : List D → Option D := runF 3 2 ((sSeq (sAsg (eCall m_distances [(eVar 0), (eVar 1)]) (TL.gName 3))
      (sRet (e1 tupleD (eLc [4] (iRng1 (e2 ixD (eVar 0) (eC (.int 0)))) (TL.gName 4) (TL.tAnd (tV (e2 inI (eVar 4) (eVar 3))) (tV (e2 leD (e2 ixI (eVar 3) (eVar 4)) (eVar 2)))) (eVar 4))))))
def m_look_alike_2 : List D → Option D := runF 5 5 ((sSeq (sAsg (eTup [(eCall m_ball [(eVar 0), (eVar 1), (eVar 4)]), (eCall m_ball [(eVar 2), (eVar 3), (eVar 4)])]) (TL.gTup [(TL.gName 5), (TL.gName 6)]))
      (sSeq (sIf (tV (e2 neD (e1 lenD (eVar 5)) (e1 lenD (eVar 6))))
      (sRet (eC (.bool false)))
      sNext)
      (sSeq (sPar 7 8 (eCall m_part_of [(eVar 0), (eVar 5)]) (eCall m_part_of [(eVar 2), (eVar 6)]))
      (sRet (e1 anyD (eLc [9] (iSeq (eCall (m_likenesses_2 60) [(eVar 7), (eVar 8), (eTup [])])) (TL.gName 9) cYes (e2 eqD (e2 ixD (eVar 9) (e2 idxD (eVar 5) (eVar 1))) (e2 idxD (eVar 6) (eVar 3))))))))))
def m_looks_like_2 : List D → Option D := runF 5 4 ((sSeq (sAsg (eIf (tV (e2 eqD (eVar 2) (eC (.int 0)))) (eVar 0) (eVar 1)) (TL.gName 5))
      (sSeq (sAsg (eLc [7] (iRng1 (e2 ixD (eVar 0) (eC (.int 0)))) (TL.gName 7) (tV (eCall m_look_alike_2 [(eVar 0), (eVar 7), (eVar 5), (eVar 3), (eVar 4)])) (eVar 7)) (TL.gName 6))
      (sRet (eTup [(eVar 6), (eLc [8] (iRng1 (e2 ixD (eVar 1) (eC (.int 0)))) (TL.gName 8) (tV (eCall m_look_alike_2 [(eVar 1), (eVar 8), (eVar 5), (eVar 3), (eVar 4)])) (eVar 8))])))))
def m_near_paper_2 : List D → Option D := runF 3 7 ((sSeq (sFor (iSeq (eTup [(eC (.int 0)), (eC (.int 1))])) (TL.gName 3)
      (sFor (iRng1 (eIf (tV (e2 eqD (eVar 3) (eC (.int 0)))) (e2 ixD (eVar 0) (eC (.int 0))) (e2 ixD (eVar 1) (eC (.int 0))))) (TL.gName 6)
      (sSeq (sAsg (eCall m_looks_like_2 [(eVar 0), (eVar 1), (eVar 3), (eVar 6), (eVar 2)]) (TL.gTup [(TL.gName 8), (TL.gName 7)]))
      (sIf (tV (e2 neD (e1 lenD (eVar 8)) (e1 lenD (eVar 7))))
      (sRet (eTup [(eC (.str "counted")), (eVar 3), (eVar 6)]))
      sNext))))
      (sSeq (sAsg (eLst []) (TL.gName 4))
      (sSeq (sFor (iRng1 (e2 ixD (eVar 0) (eC (.int 0)))) (TL.gName 5)
      (sSeq (sAsg (e2 ixD (eCall m_looks_like_2 [(eVar 0), (eVar 1), (eC (.int 0)), (eVar 5), (eVar 2)]) (eC (.int 1))) (TL.gName 7))
      (sApp 4 (e2 ixD (eLc [9] (iSeq (eVar 7)) (TL.gName 9) (tV (e2 ninD (eVar 9) (eVar 4))) (eVar 9)) (eC (.int 0))))))
      (sRet (eTup [(eC (.str "matched")), (e1 tupleD (eVar 4))]))))))
def m_near_enough : List D → Option D := runF 1 2 ((sSeq (sAsg (eC (.int 0)) (TL.gName 1))
      (sSeq (sFor (iRng1 (eVar 0)) (TL.gName 2)
      (sAsg (e2 addD (e2 mulD (eC (.int 3)) (eVar 1)) (eC (.int 1))) (TL.gName 1)))
      (sRet (eVar 1)))))
def m_law_k60 : List D → Option D := runF 1 8 ((sSeq (sAsg (eCall m__law_draws [(eCall m__law_cell [(eVar 0), (eC (.int 0))]), (eC (.int 90))]) (TL.gName 1))
      (sSeq (sAsg (eCall m__law_pair [(eVar 1), (eC (.int 5))]) (TL.gTup [(TL.gName 5), (TL.gName 6)]))
      (sSeq (sIf (tV (e2 eqD (e2 modD (e2 ixD (eVar 1) (eC (.int 70))) (eC (.int 5))) (eC (.int 1))))
      (sPar 5 6 (eCall m__law_beside [(eCall m__law_ring [(eC (.int 3))]), (eCall m__law_ring [(eC (.int 3))])]) (eCall m__law_ring [(eC (.int 6))]))
      sNext)
      (sSeq (sFor (iRng1 (eC (.int 3))) (TL.gName 2)
      (sSeq (sAsg (eCall m_near_enough [(eVar 2)]) (TL.gName 7))
      (sSeq (sAsg (eCall m_near_paper_2 [(eVar 5), (eVar 6), (eVar 7)]) (TL.gName 8))
      (sIf (TL.tAnd (tV (e2 eqD (e2 ixD (eVar 8) (eC (.int 0))) (eC (.str "matched")))) (tV (e2 isntD (eCall m_agree_2 [(eVar 5), (eVar 6), (eVar 2)]) (eC (.bool true)))))
      (sRet (eC (.bool false)))
      sNext))))
      (sSeq (sAsg (eCall m__law_names [(eVar 1), (eC (.int 71)), (e2 ixD (eVar 5) (eC (.int 0)))]) (TL.gName 3))
      (sSeq (sIf (tV (e2 neD (e2 ixD (eCall m_near_paper_2 [(eVar 5), (eCall m_renamed [(eVar 5), (eVar 3)]), (eC (.int 3))]) (eC (.int 0))) (eC (.str "matched"))))
      (sRet (eC (.bool false)))
      sNext)
      (sSeq (sAsg (eC (.int 1)) (TL.gName 4))
      (sSeq (sFor (iRng1 (eC (.int 41))) (TL.gName 2)
      (sSeq (sIf (TL.tNot (tV (eCall (m__law_equal 60) [(eCall m_near_enough [(eVar 2)]), (e2 fdivD (e2 subD (eVar 4) (eC (.int 1))) (eC (.int 2)))])))
      (sRet (eC (.bool false)))
      sNext)
      (sAsg (e2 mulD (eVar 4) (eC (.int 3))) (TL.gName 4))))
      (sRet (eC (.bool true))))))))))))
end LB

set_option Elab.async false
set_option linter.all false
set_option maxRecDepth 100000
namespace LB
open PySem TL
theorem for_invP {α : Type} {g : SG} {body : SS} (ι : α → D) (I : List α → TL.Env → Prop) (xs : List α) (env : TL.Env) (h0 : I [] env)
    (step : ∀ l x r, xs = l ++ x :: r → ∀ env, I l env → ∃ e1, g (ι x) env = some e1 ∧ ∃ e2, (body e1 = some (.nx e2) ∨ body e1 = some (.ct e2)) ∧ I (l ++ [x]) e2) :
    ∃ e, forGo g body (xs.map ι) env = some (.nx e) ∧ I xs e := by
  have key : ∀ (r l : List α) (env : TL.Env), xs = l ++ r → I l env → ∃ e, forGo g body (r.map ι) env = some (.nx e) ∧ I xs e := by
    intro r
    induction r with
    | nil =>
      intro l env e h
      rw [List.append_nil] at e
      exact ⟨env, rfl, by rw [e]; exact h⟩
    | cons x r ih =>
      intro l env e h
      obtain ⟨e1, h1, e2, h3, h4⟩ := step l x r e env h
      obtain ⟨e', h5, h6⟩ := ih (l ++ [x]) e2 (by rw [e]; simp) h4
      refine ⟨e', ?_, h6⟩
      rw [List.map_cons]
      rcases h3 with h3 | h3
      · exact for_cons h1 h3 h5
      · simp only [forGo, h1, Option.bind_some, h3]
        exact h5
  exact key xs [] env rfl h0
theorem seq_for_invP {α : Type} {it : SI} {g : SG} {body rest : SS} {env : TL.Env} {r : Option Out} (ι : α → D) (I : List α → TL.Env → Prop) (xs : List α) (hit : it env = some (xs.map ι)) (h0 : I [] env)
    (step : ∀ l x r, xs = l ++ x :: r → ∀ env, I l env → ∃ e1, g (ι x) env = some e1 ∧ ∃ e2, (body e1 = some (.nx e2) ∨ body e1 = some (.ct e2)) ∧ I (l ++ [x]) e2) (fin : ∀ e, I xs e → rest e = r) : sSeq (sFor it g body) rest env = r := by
  obtain ⟨e, h1, h2⟩ := for_invP ι I xs env h0 step
  exact seq_go (for_go hit h1) (fin e h2)
theorem rngI1 {a : SE} {env : TL.Env} {n : Int} (h : a env = some (.int n)) (h0 : 0 ≤ n) (h1 : n ≤ 1000000) : iRng1 a env = some ((rangeI 0 n.toNat).map .int) := by
  simp only [iRng1, h, Option.bind_some, toI]
  exact rng_0 h0 h1
theorem call4_go {m : List D → Option D} {a b c d : SE} {env : TL.Env} {x y z v : D} {o : Option D} (h1 : a env = some x) (h2 : b env = some y) (h3 : c env = some z) (h4 : d env = some v) (h5 : m [x, y, z, v] = o) : eCall m [a, b, c, d] env = o := by
  simp only [eCall, eArgs, h1, h2, h3, h4, Option.bind_some, Option.map_some]
  exact h5
theorem call2_go {m : List D → Option D} {a b : SE} {env : TL.Env} {x y : D} {o : Option D} (h1 : a env = some x) (h2 : b env = some y) (h4 : m [x, y] = o) : eCall m [a, b] env = o := by
  simp only [eCall, eArgs, h1, h2, Option.bind_some, Option.map_some]
  exact h4
end LB

set_option Elab.async false
set_option linter.all false
set_option maxRecDepth 100000
namespace LB
open PySem TL
theorem cell_ok (ns : List Int) (k : Nat) : ∃ c : Int, m__law_cell [.list (ns.map .int), .int k] = some (.int c) := by
  by_cases h : k < ns.length
  · refine ⟨ns[k], ?_⟩
    simp [m__law_cell, runF, ltD, lenD, ixD, h, L2.atI, L2.ixN]
  · refine ⟨0, ?_⟩
    simp [m__law_cell, runF, ltD, lenD, ixD, h, L2.atI, L2.ixN]
theorem draws_ok (c : Int) (n : Nat) (hn : n ≤ 1000) : ∃ rs : List Int, m__law_draws [.int c, .int n] = some (.list (rs.map .int)) ∧ rs.length = n ∧ ∀ r ∈ rs, 0 ≤ r ∧ r < 4096 := by
  have hrng : rangeD 0 n = some (rangeL 0 n) := by
    have := rng_n (lo := 0) (hi := n) (by decide) (by decide) (by omega) (by omega)
    simpa using this
  have h18 := pow_18
  simp only [m__law_draws, runF, List.length_cons, List.length_nil, if_true, List.map_cons, List.map_nil, List.replicate, List.cons_append, List.nil_append, sSeq, sAsg, eLst, eArgs, Option.bind_some, Option.map_some, eVar, TL.gName, List.getD_cons_zero, List.set_cons_zero, List.set_cons_succ, sFor, iRng1, toI, List.getD_cons_succ, hrng, Nat.zero_le]
  generalize hb : (sIf _ _ _ : SS) = body
  obtain ⟨e, h1, rs, left, k, b, he, hl, hr⟩ := for_rng (g := TL.gName 4) (body := body)
    (lo := 0) (n := n) (env := [some (.int c), some (.int n), some (.list []), some (.int c), none, none])
    (fun i env => ∃ (rs : List Int) (left : Int) (k b : Option D), env = [some (.int c), some (.int n), some (.list (rs.map .int)), some (.int left), k, b] ∧ rs.length = i ∧ ∀ r ∈ rs, 0 ≤ r ∧ r < 4096)
    ⟨[], c, none, none, rfl, rfl, fun r h => (by cases h)⟩ (by
      rintro j env hj ⟨rs, left, k, b, rfl, hl, hr⟩
      refine ⟨_, rfl, ?_⟩
      have hs2 : rs.length < sizeLine := small' (by omega)
      subst hb
      by_cases hc : (1000000000000000000 : Int) ≤ c ∧ 0 < left
      · refine ⟨[some (.int c), some (.int n), some (.list ((rs ++ [left % 4096]).map .int)), some (.int (left / 4096)), some (.int (0 + j)), b], .inl ?_, rs ++ [left % 4096], left / 4096, _, b, rfl, by simp [hl], ?_⟩
        · simp [h18, hc.1, hc.2, mod_n, fdiv_n, hs2]
        · intro r hr'
          rcases List.mem_append.mp hr' with h | h
          · exact hr r h
          · rw [List.mem_singleton.mp h]; omega
      · have m1 : mulD (.int c) (.int 48271) = some (.int (c * 48271)) := mul_r (by decide) (by decide)
        have m2 : mulD (.int (j + 1)) (.int 69621) = some (.int ((j + 1) * 69621)) := mul_r (by decide) (by decide)
        generalize hb1 : (c * 48271 + (j + 1) * 69621) % 2147483647 = b1
        have r1 : 0 ≤ b1 ∧ b1 < 2147483647 := by omega
        have m3 : mulD (.int b1) (.int b1) = some (.int (b1 * b1)) := mul_r (by omega) (by omega)
        have m4 : mulD (.int b1) (.int 16807) = some (.int (b1 * 16807)) := mul_r (by decide) (by decide)
        have m5 : mulD (.int j) (.int 7919) = some (.int (j * 7919)) := mul_r (by decide) (by decide)
        generalize hb2 : (b1 * b1 + b1 * 16807 + j * 7919) % 2147483629 = b2
        have r2 : 0 ≤ b2 ∧ b2 < 2147483629 := by omega
        have m6 : mulD (.int b2) (.int b2) = some (.int (b2 * b2)) := mul_r (by omega) (by omega)
        have m7 : mulD (.int 13) (.int j) = some (.int (13 * j)) := mul_l (by decide) (by decide)
        generalize hb3 : (b2 * b2 + c + 13 * j) % 2147483587 = b3
        refine ⟨[some (.int c), some (.int n), some (.list ((rs ++ [b3 / 7 % 4096]).map .int)), some (.int left), some (.int (0 + j)), some (.int b3)], .inl ?_, rs ++ [b3 / 7 % 4096], left, _, _, rfl, by simp [hl], ?_⟩
        · have hc2 : ¬ ((1000000000000000000 : Int) ≤ c) ∨ ¬ (0 < left) := Classical.not_and_iff_not_or_not.mp hc
          rcases hc2 with hc2 | hc2
          · simp [h18, hc2, m1, m2, m3, m4, m5, m6, m7, mod_n, fdiv_n, hs2, hb1, hb2, hb3]
          · by_cases hc3 : (1000000000000000000 : Int) ≤ c
            · simp [h18, hc2, hc3, m1, m2, m3, m4, m5, m6, m7, mod_n, fdiv_n, hs2, hb1, hb2, hb3]
            · simp [h18, hc3, m1, m2, m3, m4, m5, m6, m7, mod_n, fdiv_n, hs2, hb1, hb2, hb3]
        · intro r hr'
          rcases List.mem_append.mp hr' with h | h
          · exact hr r h
          · rw [List.mem_singleton.mp h]; omega)
  subst he
  refine ⟨rs, ?_, hl, hr⟩
  simp only [h1, Option.bind_some, sRet, eVar, List.getD_cons_zero, List.getD_cons_succ, Option.map_some, outD]
structure Asc1 (n : Int) (l : List Int) : Prop where
  asc : l.Pairwise (· < ·)
  rng : ∀ a ∈ l, 0 ≤ a ∧ a < n
structure Asc2 (n : Int) (l : List (Int × Int)) : Prop where
  asc : l.Pairwise fun p q => ltPr p q = true
  rng : ∀ p ∈ l, 0 ≤ p.1 ∧ p.1 < n ∧ 0 ≤ p.2 ∧ p.2 < n
structure Wd.Ok (w : Wd) : Prop where
  lo : 1 ≤ w.n
  hi : w.n ≤ 8
  a0 : Asc1 w.n w.m0
  a1 : Asc1 w.n w.m1
  ar : Asc2 w.n w.ar
theorem Asc2.nodup {n : Int} {l : List (Int × Int)} (h : Asc2 n l) : l.Nodup := h.asc.imp fun {a b} hab e => by
  subst e
  have := SrtO.lexB_iff.mp hab
  omega
theorem asc2_of {n : Int} {l : List (Int × Int)} (hn : l.Nodup) (hr : ∀ p ∈ l, 0 ≤ p.1 ∧ p.1 < n ∧ 0 ≤ p.2 ∧ p.2 < n) : Asc2 n (isort ltPr l) :=
  ⟨isort_lt swoP antiP hn, fun p hp => hr p ((isort_perm l).mem_iff.mp hp)⟩
def special (k : Int) : Wd := match k.toNat with
  | 0 => ⟨3, [], [], [(0, 1), (0, 2), (1, 2)]⟩
  | 1 => ⟨4, [], [], [(0, 1), (0, 2), (0, 3), (1, 2), (1, 3), (2, 3)]⟩
  | 2 => ⟨3, [], [], [(0, 1), (1, 2), (2, 0)]⟩
  | 3 => ⟨4, [], [], [(0, 1), (1, 2), (2, 3), (3, 0)]⟩
  | 4 => ⟨2, [], [], []⟩
  | 5 => ⟨3, [], [], []⟩
  | 6 => ⟨4, [], [], []⟩
  | 7 => ⟨4, [], [], [(0, 1), (1, 0), (1, 2), (2, 1), (2, 3), (3, 2)]⟩
  | 8 => ⟨4, [], [], [(0, 1), (0, 3), (1, 0), (1, 2), (2, 1), (2, 3), (3, 0), (3, 2)]⟩
  | _ => ⟨3, [], [], [(0, 1), (0, 2), (1, 0), (1, 2), (2, 0), (2, 1)]⟩
theorem special_ok (k : Int) : m__law_special [.int k] = some (special (k % 10)).d := by
  have l3 : m__law_line [.int 3] = some (special 0).d := by kernel_rfl
  have l4 : m__law_line [.int 4] = some (special 1).d := by kernel_rfl
  have r3 : m__law_ring [.int 3] = some (special 2).d := by kernel_rfl
  have r4 : m__law_ring [.int 4] = some (special 3).d := by kernel_rfl
  have b1 : m__law_both_ways [.int 4, .tuple [.tuple [.int 0, .int 1], .tuple [.int 1, .int 2], .tuple [.int 2, .int 3]]] = some (special 7).d := by kernel_rfl
  have b2 : m__law_both_ways [.int 4, .tuple [.tuple [.int 0, .int 1], .tuple [.int 1, .int 2], .tuple [.int 2, .int 3], .tuple [.int 0, .int 3]]] = some (special 8).d := by kernel_rfl
  have b3 : m__law_both_ways [.int 3, .tuple [.tuple [.int 0, .int 1], .tuple [.int 1, .int 2], .tuple [.int 0, .int 2]]] = some (special 9).d := by kernel_rfl
  have hs : ∀ n : Nat, n ≤ 100 → n ≤ sizeLine := fun n h => small (by omega)
  have q : 0 ≤ k % 10 ∧ k % 10 < 10 := by omega
  have z : k % 10 = 0 ∨ k % 10 = 1 ∨ k % 10 = 2 ∨ k % 10 = 3 ∨ k % 10 = 4 ∨ k % 10 = 5 ∨ k % 10 = 6 ∨ k % 10 = 7 ∨ k % 10 = 8 ∨ k % 10 = 9 := by omega
  have fin : ∀ d, ixD (.list [(special 0).d, (special 1).d, (special 2).d, (special 3).d, (special 4).d, (special 5).d, (special 6).d, (special 7).d, (special 8).d, (special 9).d]) (.int (k % 10)) = some d → m__law_special [.int k] = some d := by
    intro d hd
    simp only [m__law_special, runF, List.length_cons, List.length_nil, if_true, List.map_cons, List.map_nil, List.replicate, List.cons_append, List.nil_append, sSeq, sAsg, eLst, eTup, eArgs, Option.bind_some, Option.map_some, eC, eCall, TL.gName, l3, l4, r3, r4, b1, b2, b3, hs _ (show 0 ≤ 100 by decide), hs _ (show 0 + 1 ≤ 100 by decide), hs _ (show 0 + 1 + 1 ≤ 100 by decide), hs _ (show 0 + 1 + 1 + 1 ≤ 100 by decide), hs _ (show 0 + 1 + 1 + 1 + 1 ≤ 100 by decide), hs _ (show 0 + 1 + 1 + 1 + 1 + 1 + 1 + 1 ≤ 100 by decide), List.set_cons_zero, List.set_cons_succ, e2, e1, eVar, List.getD_cons_zero, List.getD_cons_succ, sRet]
    rw [cat_l (small (by simp))]
    simp only [Option.bind_some, Option.map_some, List.set_cons_zero, List.set_cons_succ, eVar, List.getD_cons_zero, List.getD_cons_succ, List.cons_append, List.nil_append, len_l, List.length_cons, List.length_nil]
    rw [mod_n (by decide)]
    simp only [Option.bind_some]
    have e : ((0 + 1 + 1 + 1 + 1 + 1 + 1 + 1 + 1 + 1 + 1 : Nat) : Int) = 10 := rfl
    rw [e]
    have hd' : ixD (.list [(special 0).d, (special 1).d, (special 2).d, (special 3).d, .tuple [.int 2, .tuple [.tuple [], .tuple []], .tuple []], .tuple [.int 3, .tuple [.tuple [], .tuple []], .tuple []], .tuple [.int 4, .tuple [.tuple [], .tuple []], .tuple []], (special 7).d, (special 8).d, (special 9).d]) (.int (k % 10)) = some d := hd
    rw [hd']
    rfl
  rcases z with z | z | z | z | z | z | z | z | z | z <;> (refine fin _ ?_; rw [z]; rfl)
theorem special_wd (k : Int) : (special k).Ok := by
  have all : ∀ w : Wd, (decide (1 ≤ w.n) && decide (w.n ≤ 8) && decide (w.m0 = []) && decide (w.m1 = []) && decide (w.ar.Pairwise fun p q => ltPr p q = true) && w.ar.all fun p => decide (0 ≤ p.1) && decide (p.1 < w.n) && decide (0 ≤ p.2) && decide (p.2 < w.n)) = true → w.Ok := by
    intro w h
    simp only [Bool.and_eq_true, decide_eq_true_eq, List.all_eq_true] at h
    obtain ⟨⟨⟨⟨⟨h1, h2⟩, h3⟩, h4⟩, h5⟩, h6⟩ := h
    refine ⟨h1, h2, ?_, ?_, ⟨h5, fun p hp => ?_⟩⟩
    · rw [h3]; exact ⟨List.Pairwise.nil, fun a h => by cases h⟩
    · rw [h4]; exact ⟨List.Pairwise.nil, fun a h => by cases h⟩
    · obtain ⟨⟨⟨q1, q2⟩, q3⟩, q4⟩ := h6 p hp
      exact ⟨q1, q2, q3, q4⟩
  refine all _ ?_
  unfold special
  split <;> decide
end LB

set_option Elab.async false
set_option linter.all false
set_option maxRecDepth 100000
namespace LB
open PySem TL
local macro_rules | `(tactic| walk_at "ev") => `(tactic| simp only [List.length_cons, List.length_nil, if_true, List.map_cons, List.map_nil, List.replicate, List.cons_append, List.nil_append, sSeq, sAsg, eLst, eTup, eArgs, Option.bind_some, Option.map_some, eC, eVar, eCall, e1, e2, eIf, eAnd, eOr, eNot, eChain, TL.gName, TL.gTup, gAll, List.getD_cons_zero, List.getD_cons_succ, List.set_cons_zero, List.set_cons_succ, sFor, iRng1, iRng2, iSeq, itemsD, toI, toB, sIf, sRet, sNext, tV, TL.tAnd, TL.tOr, TL.tNot, add_i, sub_i, lt_i, le_i, gt_i, ge_i, eq_i, ne_i, int_i, len_l, len_t, tuple_l, tuple_t, list_l, list_t, outD, Bool.false_eq_true, if_false, sApp, Nat.zero_le])
theorem wdn (w : Wd) : ixD w.d (.int 0) = some (.int w.n) := rfl
theorem world_ok (rs : List Int) (hl : 12 ≤ rs.length) (hl2 : rs.length ≤ 1000) (hr : ∀ r ∈ rs, 0 ≤ r ∧ r < 4096) (most : Int) (h1 : 1 ≤ most) (h8 : most ≤ 8) :
    ∃ w : Wd, m__law_world [.list (rs.map .int), .int most] = some w.d ∧ w.Ok ∧ w.n ≤ most := by
  have hx : ∀ i : Nat, i < rs.length → 0 ≤ rs.getD i 0 ∧ rs.getD i 0 < 4096 := fun i hi => hr _ (TL.getD_mem hi)
  have ixc : ∀ i : Int, 0 ≤ i → i < rs.length → ixD (.list (rs.map .int)) (.int i) = some (.int (rs.getD i.toNat 0)) := fun i h0 hi => ix_ints h0 hi
  have i0 : ixD (.list (rs.map .int)) (.int 0) = some (.int (rs.getD 0 0)) := ixc 0 (by omega) (by omega)
  have i1 : ixD (.list (rs.map .int)) (.int 1) = some (.int (rs.getD 1 0)) := ixc 1 (by omega) (by omega)
  have i2 : ixD (.list (rs.map .int)) (.int 2) = some (.int (rs.getD 2 0)) := ixc 2 (by omega) (by omega)
  have x0 := hx 0 (by omega)
  have x1 := hx 1 (by omega)
  have x2 := hx 2 (by omega)
  generalize hn : 1 + rs.getD 0 0 % most = n
  have n1 : 1 ≤ n ∧ n ≤ most := by
    have h := Int.emod_nonneg (rs.getD 0 0) (show most ≠ 0 by omega)
    have h' := Int.emod_lt_of_pos (rs.getD 0 0) (show 0 < most by omega)
    omega
  unfold m__law_world
  by_cases hsp : rs.getD 1 0 % 6 = 1 ∧ (special (rs.getD 2 0 % 10)).n ≤ most
  · refine ⟨special (rs.getD 2 0 % 10), run_rt rfl ?_, special_wd _, hsp.2⟩
    refine seq_go (e := [some (.list (rs.map .int)), some (.int most), some (.int n), none, none, none, none, none, none, none, none]) ?_ (seq_rt ?_)
    · walk_at "ev"
      simp only [i0, Option.bind_some, mod_n (show 0 < most by omega), add_i, hn, int_i]
    · walk_at "ev"
      simp only [i1, i2, special_ok, Option.bind_some, wdn, mod_n (show (0 : Int) < 6 by decide), eq_i, int_i, toB, hsp.1, hsp.2, decide_true, if_true, le_i, Option.map_some]
  generalize hdn : (match (rs.getD 1 0 / 6 % 4).toNat with | 0 => (2 : Int) | 1 => 3 | 2 => 5 | _ => 3) = dense
  generalize hmk : (match (rs.getD 1 0 / 24 % 4).toNat with | 0 => (2 : Int) | 1 => 9999 | 2 => 3 | _ => 9999) = marked
  have dpos : 0 < dense := by
    rw [← hdn]; split <;> decide
  have mpos : 0 < marked := by
    rw [← hmk]; split <;> decide
  have four : ∀ (x : Int) (a b c d : Int), 0 ≤ x → ixD (.list [.int a, .int b, .int c, .int d]) (.int (x % 4)) = some (.int (match (x % 4).toNat with | 0 => a | 1 => b | 2 => c | _ => d)) := by
    intro x a b c d h
    have : x % 4 = 0 ∨ x % 4 = 1 ∨ x % 4 = 2 ∨ x % 4 = 3 := by omega
    rcases this with z | z | z | z <;> (rw [z]; rfl)
  have mk : ∀ i : Int, 0 ≤ i → i ≤ 1 → ∃ m : List Int, Asc1 n m ∧ ∀ (e3 e5 e7 e8 e9 e10 : Option D), eLc [9] (iRng1 (eVar 2)) (TL.gName 9) (tV (e2 eqD (e2 modD (e2 fdivD (e1 intD (e2 ixD (eVar 0) (e2 addD (eC (.int 3)) (eVar 9)))) (e2 addD (eC (.int 1)) (eVar 6))) (eVar 4)) (eC (.int 0)))) (eVar 9)
      [some (.list (rs.map .int)), some (.int most), some (.int n), e3, some (.int marked), e5, some (.int i), e7, e8, e9, e10] = some (.list (m.map .int)) := by
    intro i hi0 hi1
    let p : Int → Bool := fun a => decide (rs.getD (3 + a).toNat 0 / (1 + i) % marked = 0)
    refine ⟨(rangeI 0 n.toNat).filter p, ⟨(rangeI_asc 0 n.toNat).filter _, fun a ha => ?_⟩, fun e3 e5 e7 e8 e9 e10 => ?_⟩
    · have := rangeI_mem.mp (List.mem_filter.mp ha).1
      omega
    · refine lc_go (ds := (rangeI 0 n.toNat).map .int) ?_ ?_
      · walk_at "ev"
        exact rng_0 (by omega) (by omega)
      · have := lc_filter (g := TL.gName 9) (c := tV (e2 eqD (e2 modD (e2 fdivD (e1 intD (e2 ixD (eVar 0) (e2 addD (eC (.int 3)) (eVar 9)))) (e2 addD (eC (.int 1)) (eVar 6))) (eVar 4)) (eC (.int 0)))) (e := eVar 9) (env := wipeE [some (.list (rs.map .int)), some (.int most), some (.int n), e3, some (.int marked), e5, some (.int i), e7, e8, e9, e10] [9]) PyData.int PyData.int p id (zs := rangeI 0 n.toNat) fun a ha => ?_
        · rw [List.map_id] at this
          exact this
        · have ha := rangeI_mem.mp ha
          refine ⟨_, rfl, ?_, fun _ => rfl⟩
          simp only [wipeE]
          walk_at "ev"
          simp only [ixc (3 + a) (by omega) (by omega), Option.bind_some, int_i, fdiv_n (show 0 < 1 + i by omega) (by omega), mod_n mpos, eq_i, toB]
          rfl
  obtain ⟨m0, am0, e0⟩ := mk 0 (by omega) (by omega)
  obtain ⟨m1, am1, e1'⟩ := mk 1 (by omega) (by omega)
  -- the arrows
  generalize hL : (rs.length : Int) = L
  have hLb : 12 ≤ L ∧ L ≤ 1000 := by omega
  have arr : ∀ (e5 e6 e9 e10 : Option D), ∃ (ps : List (Int × Int)) (at_ : Int) (e9' e10' : Option D), ps.Nodup ∧ ps.length ≤ 64 ∧ (∀ p ∈ ps, 0 ≤ p.1 ∧ p.1 < n ∧ 0 ≤ p.2 ∧ p.2 < n) ∧
      sFor (iRng1 (eVar 2)) (TL.gName 9) (sFor (iRng1 (eVar 2)) (TL.gName 10)
      (sSeq (sIf (tV (e2 eqD (e2 modD (e2 fdivD (e1 intD (e2 ixD (eVar 0) (e2 modD (eVar 8) (e1 lenD (eVar 0))))) (e2 addD (eC (.int 1)) (e2 fdivD (eVar 8) (e1 lenD (eVar 0))))) (eVar 3)) (eC (.int 0))))
      (sApp 7 (eTup [(eVar 9), (eVar 10)]))
      sNext)
      (sAsg (e2 addD (eVar 8) (eC (.int 1))) (TL.gName 8))))
      [some (.list (rs.map .int)), some (.int most), some (.int n), some (.int dense), some (.int marked), e5, e6, some (.list []), some (.int 11), e9, e10]
      = some (.nx [some (.list (rs.map .int)), some (.int most), some (.int n), some (.int dense), some (.int marked), e5, e6, some (.list (ps.map prD)), some (.int at_), e9', e10']) := by
    intro e5 e6 e9 e10
    let E := fun (ps : List (Int × Int)) (at_ : Int) (e9 e10 : Option D) => [some (.list (rs.map .int)), some (.int most), some (.int n), some (.int dense), some (.int marked), e5, e6, some (.list (ps.map prD)), some (.int at_), e9, e10]
    obtain ⟨e, h2, ps, at_, e9', e10', rfl, hnd, hrg, hat, _, hlen⟩ := for_range (g := TL.gName 9) (body := sFor (iRng1 (eVar 2)) (TL.gName 10)
      (sSeq (sIf (tV (e2 eqD (e2 modD (e2 fdivD (e1 intD (e2 ixD (eVar 0) (e2 modD (eVar 8) (e1 lenD (eVar 0))))) (e2 addD (eC (.int 1)) (e2 fdivD (eVar 8) (e1 lenD (eVar 0))))) (eVar 3)) (eC (.int 0))))
      (sApp 7 (eTup [(eVar 9), (eVar 10)]))
      sNext)
      (sAsg (e2 addD (eVar 8) (eC (.int 1))) (TL.gName 8))))
      (fun a env => ∃ ps at_ e9 e10, env = E ps at_ e9 e10 ∧ ps.Nodup ∧ (∀ p ∈ ps, 0 ≤ p.1 ∧ p.1 < a ∧ 0 ≤ p.2 ∧ p.2 < n) ∧ 11 ≤ at_ ∧ at_ ≤ 11 + 8 * a ∧ (ps.length : Int) ≤ 8 * a) (lo := 0) (n := n.toNat) (env := E [] 11 e9 e10)
      ⟨[], 11, e9, e10, rfl, List.nodup_nil, fun p h => (by cases h), by omega, by omega, by simp⟩ (by
      rintro a env ha0 ha1 ⟨ps, at_, e9, e10, rfl, hnd, hrg, hat1, hat2, hln⟩
      refine ⟨E ps at_ (some (.int a)) e10, rfl, ?_⟩
      obtain ⟨e, h2, ps', at', e10', rfl, hnd', hrg', hat1', hat2', hln'⟩ := for_range (g := TL.gName 10) (body := (sSeq (sIf (tV (e2 eqD (e2 modD (e2 fdivD (e1 intD (e2 ixD (eVar 0) (e2 modD (eVar 8) (e1 lenD (eVar 0))))) (e2 addD (eC (.int 1)) (e2 fdivD (eVar 8) (e1 lenD (eVar 0))))) (eVar 3)) (eC (.int 0))))
        (sApp 7 (eTup [(eVar 9), (eVar 10)]))
        sNext)
        (sAsg (e2 addD (eVar 8) (eC (.int 1))) (TL.gName 8))))
        (fun b env => ∃ ps at_ e10, env = E ps at_ (some (.int a)) e10 ∧ ps.Nodup ∧ (∀ p ∈ ps, 0 ≤ p.1 ∧ (p.1 < a ∨ (p.1 = a ∧ p.2 < b)) ∧ 0 ≤ p.2 ∧ p.2 < n) ∧ 11 ≤ at_ ∧ at_ ≤ 11 + 8 * a + b ∧ (ps.length : Int) ≤ 8 * a + b) (lo := 0) (n := n.toNat) (env := E ps at_ (some (.int a)) e10)
        ⟨ps, at_, e10, rfl, hnd, fun p hp => (by have := hrg p hp; omega), hat1, by omega, by omega⟩ (by
        rintro b env hb0 hb1 ⟨ps, at_, e10, rfl, hnd, hrg, hat1, hat2, hln⟩
        refine ⟨E ps at_ (some (.int a)) (some (.int b)), rfl, ?_⟩
        have hsz : (ps.map prD).length < sizeLine := by rw [List.length_map]; exact small' (by omega)
        have q1 : 0 ≤ at_ % L := Int.emod_nonneg _ (by omega)
        have q2 : at_ % L < L := Int.emod_lt_of_pos _ (by omega)
        have q3 : 0 ≤ at_ / L := Int.ediv_nonneg (by omega) (by omega)
        have q4 : at_ / L ≤ at_ := Int.ediv_le_self _ (by omega)
        by_cases hc : rs.getD (at_ % L).toNat 0 / (1 + at_ / L) % dense = 0
        · refine ⟨E (ps ++ [(a, b)]) (at_ + 1) (some (.int a)) (some (.int b)), .inl ?_, ps ++ [(a, b)], at_ + 1, _, rfl, ?_, ?_, by omega, by omega, ?_⟩
          · refine seq_go (e := E (ps ++ [(a, b)]) at_ (some (.int a)) (some (.int b))) (if_t ?_ ?_) ?_
            · simp only [E]
              walk_at "ev"
              simp only [List.length_map, hL, mod_n (show 0 < L by omega), fdiv_n (show 0 < L by omega) (show L < 1073741824 by omega), Option.bind_some, ixc _ q1 (show at_ % L < (rs.length : Int) by omega), int_i, add_i, fdiv_n (show 0 < 1 + at_ / L by omega) (show 1 + at_ / L < 1073741824 by omega), mod_n dpos, eq_i, hc, decide_true, toB]
            · simp only [E]
              walk_at "ev"
              rw [if_pos (small (by decide))]
              simp only [Option.bind_some, hsz, if_true, List.map_append, List.map_cons, List.map_nil, prD]
            · simp only [E]
              walk_at "ev"
          · rw [List.nodup_append]
            refine ⟨hnd, List.nodup_cons.mpr ⟨by simp, List.nodup_nil⟩, fun p hp q hq e => ?_⟩
            rw [List.mem_singleton] at hq
            subst e hq
            have := hrg _ hp
            simp only at this
            omega
          · intro p hp
            rcases List.mem_append.mp hp with hp | hp
            · have := hrg p hp; omega
            · rw [List.mem_singleton] at hp
              subst hp
              exact ⟨ha0, .inr ⟨rfl, by omega⟩, hb0, by omega⟩
          · simp only [List.length_append, List.length_singleton]
            omega
        · refine ⟨E ps (at_ + 1) (some (.int a)) (some (.int b)), .inl ?_, ps, at_ + 1, _, rfl, hnd, fun p hp => (by have := hrg p hp; omega), by omega, by omega, by omega⟩
          refine seq_go (e := E ps at_ (some (.int a)) (some (.int b))) (if_f ?_ rfl) ?_
          · simp only [E]
            walk_at "ev"
            simp only [List.length_map, hL, mod_n (show 0 < L by omega), fdiv_n (show 0 < L by omega) (show L < 1073741824 by omega), Option.bind_some, ixc _ q1 (show at_ % L < (rs.length : Int) by omega), int_i, add_i, fdiv_n (show 0 < 1 + at_ / L by omega) (show 1 + at_ / L < 1073741824 by omega), mod_n dpos, eq_i, hc, decide_false, toB]
          · simp only [E]
            walk_at "ev")
      refine ⟨_, .inl (for_go (ds := (rangeI 0 n.toNat).map .int) ?_ h2), ps', at', _, _, rfl, hnd', fun p hp => ?_, by omega, by omega, by omega⟩
      · simp only [E]
        walk_at "ev"
        exact rng_0 (by omega) (by omega)
      · have := hrg' p hp
        omega)
    refine ⟨ps, at_, e9', e10', hnd, by omega, fun p hp => ?_, for_go (ds := (rangeI 0 n.toNat).map .int) ?_ h2⟩
    · have := hrg p hp
      omega
    · walk_at "ev"
      exact rng_0 (by omega) (by omega)
  obtain ⟨ps, at_, e9', e10', hnd, hsz, hrg, harr⟩ := arr (some (.tuple [tI m0, tI m1])) (some (.int 1)) none none
  -- the arrows both ways
  have fin : ∃ qs : List (Int × Int), qs.Nodup ∧ (∀ p ∈ qs, 0 ≤ p.1 ∧ p.1 < n ∧ 0 ≤ p.2 ∧ p.2 < n) ∧ ∃ e9 e10 : Option D,
      sIf (tV (e2 eqD (e2 modD (e2 ixD (eVar 0) (eC (.int 2))) (eC (.int 5))) (eC (.int 1))))
      (sSeq (sAsg (e2 addLD (eVar 7) (eLc [9, 10] (iSeq (eVar 7)) (TL.gTup [(TL.gName 9), (TL.gName 10)]) (tV (e2 ninD (eTup [(eVar 10), (eVar 9)]) (eVar 7))) (eTup [(eVar 10), (eVar 9)]))) (TL.gName 7))
      (sAsg (eLc [9, 10] (iSeq (eVar 7)) (TL.gTup [(TL.gName 9), (TL.gName 10)]) (tV (e2 neD (eVar 9) (eVar 10))) (eTup [(eVar 9), (eVar 10)])) (TL.gName 7)))
      sNext [some (.list (rs.map .int)), some (.int most), some (.int n), some (.int dense), some (.int marked), some (.tuple [tI m0, tI m1]), some (.int 1), some (.list (ps.map prD)), some (.int at_), e9', e10']
      = some (.nx [some (.list (rs.map .int)), some (.int most), some (.int n), some (.int dense), some (.int marked), some (.tuple [tI m0, tI m1]), some (.int 1), some (.list (qs.map prD)), some (.int at_), e9, e10]) := by
    by_cases hc : rs.getD 2 0 % 5 = 1
    · let sw : List (Int × Int) := (ps.filter fun p => !decide ((p.2, p.1) ∈ ps)).map fun p => (p.2, p.1)
      have hsw : ∀ p ∈ sw, p ∉ ps ∧ (p.2, p.1) ∈ ps := by
        intro p hp
        obtain ⟨q, hq, rfl⟩ := List.mem_map.mp hp
        obtain ⟨h1, h2⟩ := List.mem_filter.mp hq
        have h2 : (!decide ((q.2, q.1) ∈ ps)) = true := h2
        rw [Bool.not_eq_true', decide_eq_false_iff_not] at h2
        exact ⟨h2, h1⟩
      have nsw : sw.Nodup := by
        refine List.pairwise_map.mpr ((hnd.filter _).imp fun {a b} h e => h ?_)
        have e1 := (Prod.mk.inj e).1
        have e2 := (Prod.mk.inj e).2
        exact Prod.ext e2 e1
      have nap : (ps ++ sw).Nodup := by
        rw [List.nodup_append]
        exact ⟨hnd, nsw, fun p hp q hq e => (hsw q hq).1 (e ▸ hp)⟩
      have hsz2 : sw.length ≤ 64 := by
        simp only [sw, List.length_map]
        exact Nat.le_trans (List.length_filter_le _ _) hsz
      refine ⟨(ps ++ sw).filter fun p => !decide (p.1 = p.2), nap.filter _, fun p hp => ?_, e9', e10', if_t ?_ (seq_go (e := [some (.list (rs.map .int)), some (.int most), some (.int n), some (.int dense), some (.int marked), some (.tuple [tI m0, tI m1]), some (.int 1), some (.list ((ps ++ sw).map prD)), some (.int at_), e9', e10']) (asg_go (e2_go rfl (lc_go (ds := ps.map prD) (rs := sw.map prD) rfl ?_) ?_)) (asg_go (lc_go (ds := (ps ++ sw).map prD) rfl ?_)))⟩
      · have hp := (List.mem_filter.mp hp).1
        rcases List.mem_append.mp hp with hp | hp
        · exact hrg p hp
        · have := hrg _ (hsw p hp).2
          simp only at this
          omega
      · walk_at "ev"
        simp only [i2, Option.bind_some, mod_n (show (0 : Int) < 5 by decide), eq_i, hc, decide_true, toB]
      · refine lc_filter (c := tV (e2 ninD (eTup [(eVar 10), (eVar 9)]) (eVar 7))) prD prD (fun p => !decide ((p.2, p.1) ∈ ps)) (fun p => (p.2, p.1)) fun p hp => ⟨_, rfl, ?_, fun _ => ?_⟩
        · have hin : ninD (.tuple [.int p.2, .int p.1]) (.list (ps.map prD)) = some (.bool (!decide ((p.2, p.1) ∈ ps))) := nin_of (in_lp (p.2, p.1) ps)
          simp only [wipeE]
          walk_at "ev"
          rw [if_pos (small (by decide))]
          simp only [Option.bind_some, hin, toB]
        · simp only [wipeE]
          walk_at "ev"
          rw [if_pos (small (by decide))]
          rfl
      · rw [List.map_append]
        exact cat_l (small (by simp only [List.length_map]; omega))
      · refine (lc_filter (c := tV (e2 neD (eVar 9) (eVar 10))) prD prD (fun p => !decide (p.1 = p.2)) id fun p hp => ⟨_, rfl, ?_, fun _ => ?_⟩).trans ?_
        · simp only [wipeE]
          walk_at "ev"
        · simp only [wipeE]
          walk_at "ev"
          rw [if_pos (small (by decide))]
          rfl
        · rw [List.map_id]
    · refine ⟨ps, hnd, hrg, e9', e10', if_f ?_ rfl⟩
      walk_at "ev"
      simp only [i2, Option.bind_some, mod_n (show (0 : Int) < 5 by decide), eq_i, hc, decide_false, toB]
  obtain ⟨qs, hnq, hrq, e9, e10, hfin⟩ := fin
  refine ⟨⟨n, m0, m1, isort ltPr qs⟩, run_rt rfl ?_, ⟨n1.1, (show n ≤ 8 by omega), am0, am1, asc2_of hnq hrq⟩, n1.2⟩
  have s4 : (4 : Nat) ≤ sizeLine := small (by decide)
  have s0 : (0 : Nat) ≤ sizeLine := Nat.zero_le _
  refine seq_go (e := [some (.list (rs.map .int)), some (.int most), some (.int n), none, none, none, none, none, none, none, none]) ?_ ?_
  · walk_at "ev"
    simp only [i0, Option.bind_some, mod_n (show 0 < most by omega), add_i, hn, int_i]
  refine seq_go (if_f ?_ rfl) ?_
  · walk_at "ev"
    simp only [i1, i2, special_ok, Option.bind_some, wdn, mod_n (show (0 : Int) < 6 by decide), eq_i, int_i, toB, le_i, Option.map_some]
    by_cases h6 : rs.getD 1 0 % 6 = 1
    · have h7 : ¬ (special (rs.getD 2 0 % 10)).n ≤ most := fun h => hsp ⟨h6, h⟩
      simp only [h6, h7, decide_true, decide_false, if_true, toB]
    · simp only [h6, decide_false, Bool.false_eq_true, if_false]
  refine seq_go (e := [some (.list (rs.map .int)), some (.int most), some (.int n), some (.int dense), none, none, none, none, none, none, none]) ?_ ?_
  · walk_at "ev"
    rw [if_pos (small (by decide))]
    simp only [i1, Option.bind_some, int_i, fdiv_n (show (0 : Int) < 6 by decide) (by decide), mod_n (show (0 : Int) < 4 by decide), four _ 2 3 5 3 (show 0 ≤ rs.getD 1 0 / 6 by omega), hdn]
  refine seq_go (e := [some (.list (rs.map .int)), some (.int most), some (.int n), some (.int dense), some (.int marked), none, none, none, none, none, none]) ?_ ?_
  · walk_at "ev"
    rw [if_pos (small (by decide))]
    simp only [i1, Option.bind_some, int_i, fdiv_n (show (0 : Int) < 24 by decide) (by decide), mod_n (show (0 : Int) < 4 by decide), four _ 2 9999 3 9999 (show 0 ≤ rs.getD 1 0 / 24 by omega), hmk]
  refine seq_go (e := [some (.list (rs.map .int)), some (.int most), some (.int n), some (.int dense), some (.int marked), some (.tuple []), none, none, none, none, none]) ?_ ?_
  · walk_at "ev"
  refine seq_go (e := [some (.list (rs.map .int)), some (.int most), some (.int n), some (.int dense), some (.int marked), some (.tuple [tI m0, tI m1]), some (.int 1), none, none, none, none]) ?_ ?_
  · refine for_go (ds := [.int 0, .int 1]) (by rfl) ?_
    refine for_cons rfl (asg_go (e2_go rfl (tup1_go (e1_go (e0 _ _ _ _ _ _) rfl)) (cat_t (small (by simp))))) ?_
    refine for_cons rfl (asg_go (e2_go rfl (tup1_go (e1_go (e1' _ _ _ _ _ _) rfl)) (cat_t (small (by simp))))) ?_
    rfl
  refine seq_go (e := [some (.list (rs.map .int)), some (.int most), some (.int n), some (.int dense), some (.int marked), some (.tuple [tI m0, tI m1]), some (.int 1), some (.list []), none, none, none]) ?_ ?_
  · walk_at "ev"
  refine seq_go (e := [some (.list (rs.map .int)), some (.int most), some (.int n), some (.int dense), some (.int marked), some (.tuple [tI m0, tI m1]), some (.int 1), some (.list []), some (.int 11), none, none]) ?_ ?_
  · walk_at "ev"
  refine seq_go harr (seq_go hfin (ret_go ?_))
  walk_at "ev"
  simp only [sorted_prs, Option.bind_some, tuple_l, Option.map_some]
  rw [if_pos (small (by simp))]
  rfl
end LB

set_option Elab.async false
set_option linter.all false
set_option maxRecDepth 100000
namespace LB
open PySem TL
structure PoolOk (rows : List Int) : Prop where
  lo : 0 < rows.length
  hi : rows.length ≤ 1000
  rng : ∀ x ∈ rows, 0 ≤ x ∧ x < 4096
end LB

set_option Elab.async false
set_option linter.all false
set_option maxRecDepth 100000
namespace LB
open PySem TL
inductive IsFmB (B : Nat) (top : Int) (W : List Str) : Nat → D → Prop
  | arrow {d : Nat} {x y : Int} : 0 ≤ x → x < top → 0 ≤ y → y < top → IsFmB B top W d (.tuple [.str "arrow", .int x, .int y])
  | same {d : Nat} {x y : Int} : 0 ≤ x → x < top → 0 ≤ y → y < top → IsFmB B top W d (.tuple [.str "same", .int x, .int y])
  | mark {d : Nat} {i x : Int} : 0 ≤ i → i < 2 → 0 ≤ x → x < top → IsFmB B top W d (.tuple [.str "mark", .int i, .int x])
  | tru {d : Nat} : IsFmB B top W d (.tuple [.str "true"])
  | fls {d : Nat} : IsFmB B top W d (.tuple [.str "false"])
  | not {d : Nat} {f : D} : Str.ofString "not" ∈ W → IsFmB B top W d f → IsFmB B top W (d + 1) (.tuple [.str "not", f])
  | and {d : Nat} {l : List D} : Str.ofString "and" ∈ W → l.length ≤ B → (∀ x ∈ l, IsFmB B top W d x) → IsFmB B top W (d + 1) (.tuple [.str "and", .tuple l])
  | or {d : Nat} {l : List D} : Str.ofString "or" ∈ W → l.length ≤ B → (∀ x ∈ l, IsFmB B top W d x) → IsFmB B top W (d + 1) (.tuple [.str "or", .tuple l])
  | some {d : Nat} {n : Int} {f : D} : Str.ofString "some" ∈ W → 0 ≤ n → n < top → IsFmB B top W d f → IsFmB B top W (d + 1) (.tuple [.str "some", .int n, f])
  | all {d : Nat} {n : Int} {f : D} : Str.ofString "all" ∈ W → 0 ≤ n → n < top → IsFmB B top W d f → IsFmB B top W (d + 1) (.tuple [.str "all", .int n, f])
  | least {d : Nat} {k n : Int} {f : D} : Str.ofString "least" ∈ W → 1 ≤ k → k ≤ 8 → 0 ≤ n → n < top → IsFmB B top W d f → IsFmB B top W (d + 1) (.tuple [.str "least", .int k, .int n, f])
abbrev IsFm := IsFmB 3
theorem tup2_go {a b : SE} {env : TL.Env} {x y : D} (h1 : a env = some x) (h2 : b env = some y) : eTup [a, b] env = some (.tuple [x, y]) := by
  simp only [eTup, eArgs, h1, h2, Option.bind_some, Option.map_some, List.length_cons, List.length_nil]
  rw [if_pos (small (by decide))]
theorem tup3_go {a b c : SE} {env : TL.Env} {x y z : D} (h1 : a env = some x) (h2 : b env = some y) (h3 : c env = some z) : eTup [a, b, c] env = some (.tuple [x, y, z]) := by
  simp only [eTup, eArgs, h1, h2, h3, Option.bind_some, Option.map_some, List.length_cons, List.length_nil]
  rw [if_pos (small (by decide))]
theorem tV_go {a : SE} {env : TL.Env} {b : Bool} (h : a env = some (.bool b)) : tV a env = some b := by
  simp only [tV, h, Option.bind_some, toB]
theorem tOr_t {a b : ST} {env : TL.Env} (h : a env = some true) : TL.tOr a b env = some true := by
  simp only [TL.tOr, h, Option.bind_some, if_true]
theorem tOr_f {a b : ST} {env : TL.Env} {o : Option Bool} (h : a env = some false) (h2 : b env = o) : TL.tOr a b env = o := by
  simp only [TL.tOr, h, Option.bind_some, Bool.false_eq_true, if_false]
  exact h2
end LB

set_option Elab.async false
set_option linter.all false
set_option maxRecDepth 100000
namespace LB
open PySem TL
local macro_rules | `(tactic| walk_at "ev") => `(tactic| simp only [List.length_cons, List.length_nil, if_true, List.map_cons, List.map_nil, List.replicate, List.cons_append, List.nil_append, sSeq, sAsg, eLst, eTup, eArgs, Option.bind_some, Option.map_some, eC, eVar, eCall, e1, e2, eIf, eAnd, eOr, eNot, eChain, TL.gName, TL.gTup, gAll, List.getD_cons_zero, List.getD_cons_succ, List.set_cons_zero, List.set_cons_succ, sFor, iRng1, iRng2, iSeq, itemsD, toI, toB, sIf, sRet, sNext, tV, TL.tAnd, TL.tOr, TL.tNot, add_i, sub_i, lt_i, le_i, gt_i, ge_i, eq_i, ne_i, int_i, len_l, len_t, tuple_l, tuple_t, list_l, list_t, outD, Bool.false_eq_true, if_false, sApp, Nat.zero_le, wipeE, cYes, eSlice, ePart])
inductive Nice (b : Nat) : Nat → D → Prop
  | int {d : Nat} {i : Int} : i.natAbs ≤ b → Nice b d (.int i)
  | bool {d : Nat} (c : Bool) : Nice b d (.bool c)
  | str {d : Nat} {s : Str} : s.length ≤ b → PyData.strOk s = true → Nice b d (.str s)
  | none {d : Nat} : Nice b d .none
  | list {d : Nat} (ds : List D) : Nice b d (.list ds)
  | tup {d : Nat} {ds : List D} : ds.length ≤ b → (∀ x ∈ ds, Nice b d x) → Nice b (d + 1) (.tuple ds)
theorem Nice.mono {b b' d d' : Nat} {v : D} (h : Nice b d v) (hb : b ≤ b') (hd : d ≤ d') : Nice b' d' v := by
  induction h generalizing d' with
  | int h => exact .int (by omega)
  | bool c => exact .bool c
  | str h ho => exact .str (by omega) ho
  | none => exact .none
  | list ds => exact .list ds
  | tup h1 h2 ih =>
    obtain ⟨e, rfl⟩ : ∃ e, d' = e + 1 := ⟨d' - 1, by omega⟩
    exact .tup (by omega) fun x hx => ih x hx (by omega)
def isI : D → Bool
  | .int _ => true
  | _ => false
theorem whole_ok {b d : Nat} {v : D} (h : Nice b d v) : m_is_whole [v] = some (.bool (isI v)) := by
  cases h <;> rfl
theorem lint_ok {b d : Nat} {v : D} (h : Nice b d v) : m__law_is_int [v] = some (.bool (isI v)) := by
  cases h <;> rfl
theorem isI_all : ∀ {ds : List D}, ds.all isI = true → ∃ l : List Int, ds = l.map .int
  | [], _ => ⟨[], rfl⟩
  | x :: r, h => by
    have h := List.all_cons ▸ h
    rw [Bool.and_eq_true] at h
    obtain ⟨l, rfl⟩ := isI_all h.2
    cases x <;> simp [isI] at h
    exact ⟨_ :: l, rfl⟩
theorem bools_of (l : List Bool) : boolsOf (l.map .bool) = some l := by
  induction l with
  | nil => rfl
  | cons n r ih => simp only [List.map_cons, boolsOf, ih, Option.map_some]
theorem all_b (l : List Bool) : allD (.list (l.map .bool)) = some (.bool (l.all id)) := by
  simp only [allD, bools_of, Option.map_some]
theorem none_of {α β γ : Type} (p : α → Bool) (f : α → β) (g : β → γ) : ∀ zs : List α, decide (((((zs.filter fun a => !p a).map f).map g).length : Int) = 0) = zs.all p
  | [] => rfl
  | a :: zs => by
    have ih := none_of p f g zs
    cases q : p a
    · simp [q]
      omega
    · simpa [q] using ih
theorem some_of {α β γ : Type} (p : α → Bool) (f : α → β) (g : β → γ) (zs : List α) : decide ((0 : Int) < ((((zs.filter fun a => !p a).map f).map g).length : Int)) = !zs.all p := by
  rw [← none_of p f g zs]
  generalize ((((zs.filter fun a => !p a).map f).map g).length : Nat) = n
  by_cases h : n = 0
  · subst h; rfl
  · have h1 : ¬ ((n : Int) = 0) := by omega
    have h2 : (0 : Int) < n := by omega
    rw [decide_eq_true h2, decide_eq_false h1]
    rfl
def upB {α : Type} (lt : α → α → Bool) (z : α) (l : List α) : Bool := (rangeI 0 (((l.length : Int) - 1 - 0).toNat)).all fun k => lt (l.getD k.toNat z) (l.getD (k + 1).toNat z)
theorem ix_at {α : Type} (ι : α → D) (z : α) {l : List α} {i : Int} (h0 : 0 ≤ i) (h : i < l.length) : ixD (.tuple (l.map ι)) (.int i) = some (ι (l.getD i.toNat z)) := by
  refine ix_ti h0 ?_
  have h' : i.toNat < l.length := by omega
  rw [List.getElem?_map, List.getD_eq_getElem?_getD, List.getElem?_eq_getElem h']
  rfl
section
variable {α : Type} (ι : α → D) (lt : α → α → Bool) (z : α) (l : List α) (hl : l.length ≤ 1000)
include hl
theorem rises_ok (hlt : ∀ a b, ltD (ι a) (ι b) = some (.bool (lt a b))) : m_rises [.tuple (l.map ι)] = some (.bool (upB lt z l)) := by
  have hr : rangeD 0 ((l.length : Int) - 1) = some ((rangeI 0 (((l.length : Int) - 1 - 0).toNat)).map .int) := rng_ab (by decide) (by decide) (by omega) (by omega)
  refine run_rt rfl (ret_go (e1_go (x := .list (((rangeI 0 (((l.length : Int) - 1 - 0).toNat)).map fun k => lt (l.getD k.toNat z) (l.getD (k + 1).toNat z)).map .bool)) (lc_go (ds := (rangeI 0 (((l.length : Int) - 1 - 0).toNat)).map .int) ?_ ?_) ?_))
  · walk_at "ev"
    rw [List.length_map]
    exact hr
  · refine lc_map .int .bool _ fun k hk => ?_
    have hk := rangeI_mem.mp hk
    refine ⟨_, rfl, ?_⟩
    walk_at "ev"
    simp only [ix_at ι z (l := l) (i := k) (by omega) (by omega), ix_at ι z (l := l) (i := k + 1) (by omega) (by omega), Option.bind_some, hlt]
  · rw [all_b, List.all_map]
    rfl
theorem falls_ok (hge : ∀ a b, geD (ι a) (ι b) = some (.bool (!lt a b))) {env : TL.Env} {vs : List Nat} {i j : Nat} (hj : ∀ d, ((wipeE env vs).set j (some d)).getD j none = some d) (h0 : env.getD i none = some (.tuple (l.map ι))) (hi : ∀ d, ((wipeE env vs).set j (some d)).getD i none = some (.tuple (l.map ι))) :
    (e2 eqD (e1 lenD (eLc vs (iRng1 (e2 subD (e1 lenD (eVar i)) (eC (.int 1)))) (TL.gName j) (tV (e2 geD (e2 ixD (eVar i) (eVar j)) (e2 ixD (eVar i) (e2 addD (eVar j) (eC (.int 1)))))) (eVar j))) (eC (.int 0))) env = some (.bool (upB lt z l)) := by
  have hr : rangeD 0 ((l.length : Int) - 1) = some ((rangeI 0 (((l.length : Int) - 1 - 0).toNat)).map .int) := rng_ab (by decide) (by decide) (by omega) (by omega)
  refine e2_go (e1_go (lc_go (ds := (rangeI 0 (((l.length : Int) - 1 - 0).toNat)).map .int) ?_ (lc_filter .int .int (fun k => !lt (l.getD k.toNat z) (l.getD (k + 1).toNat z)) id fun k hk => ?_)) (len_l _)) rfl ?_
  · simp only [iRng1, e2, e1, eVar, h0, Option.bind_some, len_t, List.length_map, eC, sub_i, toI]
    exact hr
  · have hk := rangeI_mem.mp hk
    refine ⟨_, rfl, ?_, fun _ => ?_⟩
    · simp only [tV, e2, eVar, hi, hj, Option.bind_some, ix_at ι z (l := l) (i := k) (by omega) (by omega), eC, add_i, ix_at ι z (l := l) (i := k + 1) (by omega) (by omega), hge, toB]
    · exact hj _
  · rw [eq_i]
    exact congrArg (fun q => some (PyData.bool q)) (none_of (fun k : Int => lt (l.getD k.toNat z) (l.getD (k + 1).toNat z)) id PyData.int _)
end
def numB : D → Bool
  | .tuple ds => ds.all isI
  | _ => false
theorem numbers_ok {b d : Nat} {v : D} (h : Nice b d v) : m_is_numbers [v] = some (.bool (numB v)) := by
  cases h with
  | tup h1 h2 =>
    rename_i d ds
    refine run_rt rfl (ret_go ?_)
    simp only [eAnd]
    rw [show e1 (isiD .tuple) (eVar 0) (List.map some [PyData.tuple ds] ++ List.replicate 1 none) = some (.bool true) from rfl]
    simp only [Option.bind_some, toB, if_true]
    refine e1_go (x := .list ((ds.map isI).map .bool)) (lc_go (ds := ds) rfl ?_) ?_
    · have := lc_map (g := TL.gName 1) (e := eCall m_is_whole [(eVar 1)]) (env := wipeE (List.map some [PyData.tuple ds] ++ List.replicate 1 none) [1]) id PyData.bool isI (zs := ds) fun x hx => ⟨_, rfl, by
        walk_at "ev"
        exact whole_ok (h2 x hx)⟩
      rwa [List.map_id] at this
    · rw [all_b, List.all_map]
      rfl
  | _ => rfl
theorem ltI_up (a b : Int) : ltD (.int a) (.int b) = some (.bool (ltI a b)) := rfl
theorem geI_up (a b : Int) : geD (.int a) (.int b) = some (.bool (!ltI a b)) := by
  rw [ge_i]
  congr 2
  unfold ltI
  by_cases h : a < b
  · have h' : ¬ b ≤ a := by omega
    simp [h, h']
  · have h' : b ≤ a := by omega
    simp [h, h']
def inB (n a : Int) : Bool := decide (0 ≤ a) && decide (a < n)
theorem chain_in {env : TL.Env} {i j : Nat} {a n : Int} (h1 : env.getD i none = some (.int a)) (h2 : env.getD j none = some (.int n)) : eChain leD ltD (eC (.int 0)) (eVar i) (eVar j) env = some (.bool (inB n a)) := by
  simp only [eChain, eC, eVar, h1, h2, Option.bind_some, le_i, toB, lt_i, inB]
  by_cases h : 0 ≤ a <;> simp [h]
theorem items_ok {b d : Nat} {v : D} (hb : b ≤ 1000) (h : Nice b d v) (n : Int) : ∃ k, m_is_items [v, .int n] = some (.bool k) ∧ m__law_items [v, .int n] = some (.bool k) := by
  have hnum := numbers_ok h
  cases h with
  | tup h1 h2 =>
    rename_i d ds
    by_cases q : ds.all isI = true
    · obtain ⟨l, rfl⟩ := isI_all q
      rw [List.length_map] at h1
      have hup := rises_ok .int ltI 0 l (by omega) ltI_up
      have e1' : m_is_items [.tuple (l.map .int), .int n] = some (.bool (upB ltI 0 l && l.all (inB n))) := by
        refine run_rt rfl (ret_go ?_)
        have ha : (e1 allD (eLc [2] (iSeq (eVar 0)) (TL.gName 2) cYes (eChain leD ltD (eC (.int 0)) (eVar 2) (eVar 1)))) [some (.tuple (l.map .int)), some (.int n), none] = some (.bool (l.all (inB n))) := by
          refine e1_go (lc_go rfl (lc_map .int .bool (inB n) fun a ha => ⟨_, rfl, chain_in rfl rfl⟩)) ?_
          rw [all_b, List.all_map]
          rfl
        simp only [eAnd, eCall, eArgs, eVar, List.map_cons, List.map_nil, List.replicate, List.cons_append, List.nil_append, List.getD_cons_zero, Option.bind_some, Option.map_some, hnum, numB, q, toB, if_true, hup]
        cases upB ltI 0 l
        · rfl
        · simp only [if_true, Bool.true_and]
          exact ha
      refine ⟨_, e1', ?_⟩
      have hc : ∀ a : Int, (TL.tOr (TL.tNot (tV (eCall m__law_is_int [(eVar 3)]))) (TL.tNot (tV (eChain leD ltD (eC (.int 0)) (eVar 3) (eVar 1))))) [some (.tuple (l.map .int)), some (.int n), none, some (.int a)] = some (!inB n a) := by
        intro a
        have hi : m__law_is_int [.int a] = some (.bool true) := rfl
        have hch := chain_in (env := [some (.tuple (l.map .int)), some (.int n), none, some (.int a)]) (i := 3) (j := 1) rfl rfl
        simp only [TL.tOr, TL.tNot, tV, hch, eCall, eArgs, eVar, List.getD_cons_zero, List.getD_cons_succ, Option.bind_some, Option.map_some, hi, toB, Bool.not_true, Bool.false_eq_true, if_false]
      have hlc := lc_go (vs := [3]) (it := iSeq (eVar 0)) (env := [some (.tuple (l.map .int)), some (.int n), none, none]) rfl (lc_filter (g := TL.gName 3) (e := eVar 3) .int .int (fun a => !inB n a) id fun a ha => ⟨_, rfl, hc a, fun _ => rfl⟩)
      have hg := some_of (inB n) id PyData.int l
      refine run_rt rfl ?_
      cases q2 : l.all (inB n)
      · refine seq_rt (if_t ?_ (ret_go (by rw [Bool.and_false]; rfl)))
        rw [q2] at hg
        simp only [TL.tOr, TL.tNot, tV, e2, e1, eVar, List.map_cons, List.map_nil, List.replicate, List.cons_append, List.nil_append, List.getD_cons_zero, Option.bind_some, isiD, isTy, toB, Option.map_some, Bool.not_true, Bool.false_eq_true, if_false, hlc, len_l, eC, gt_i, hg, Bool.not_false]
      · refine seq_go (if_f ?_ rfl) (ret_go ?_)
        · rw [q2] at hg
          simp only [TL.tOr, TL.tNot, tV, e2, e1, eVar, List.map_cons, List.map_nil, List.replicate, List.cons_append, List.nil_append, List.getD_cons_zero, Option.bind_some, isiD, isTy, toB, Option.map_some, Bool.not_true, Bool.false_eq_true, if_false, hlc, len_l, eC, gt_i, hg, Bool.not_false]
        · rw [Bool.and_true]
          exact falls_ok .int ltI 0 l (by omega) geI_up (fun d => rfl) rfl (fun d => rfl)
    · have q' : ds.all isI = false := by simpa using q
      refine ⟨false, ?_, ?_⟩
      · refine run_rt rfl (ret_go ?_)
        simp only [eAnd, eCall, eArgs, eVar, List.map_cons, List.map_nil, List.replicate, List.cons_append, List.nil_append, List.getD_cons_zero, Option.bind_some, Option.map_some, hnum, numB, q', toB, Bool.false_eq_true, if_false]
      · -- some item is no number
        let bad : D → Bool := fun x => match x with | .int a => !inB n a | _ => true
        have hlc := lc_go (vs := [3]) (it := iSeq (eVar 0)) (env := [some (.tuple ds), some (.int n), none, none]) (ds := ds.map id) (by rw [List.map_id]; rfl) (lc_filter (g := TL.gName 3) (c := TL.tOr (TL.tNot (tV (eCall m__law_is_int [(eVar 3)]))) (TL.tNot (tV (eChain leD ltD (eC (.int 0)) (eVar 3) (eVar 1))))) (e := eVar 3) id id bad id fun x hx => ⟨_, rfl, by
          have hi := lint_ok (h2 x hx)
          simp only [TL.tOr, TL.tNot, tV, eCall, eArgs, eVar, wipeE, id, List.set_cons_zero, List.set_cons_succ, List.getD_cons_zero, List.getD_cons_succ, Option.bind_some, Option.map_some, hi, toB]
          cases h2 x hx <;> simp only [isI, bad, Bool.not_true, Bool.not_false, Bool.false_eq_true, if_false, if_true]
          rename_i a _
          rw [chain_in (a := a) (n := n) rfl rfl]
          rfl, fun _ => rfl⟩)
        have hne : ∃ x ∈ ds, bad x = true := by
          have : ∃ x ∈ ds, ¬ isI x = true := by simpa using q
          obtain ⟨x, hx, hi⟩ := this
          refine ⟨x, hx, ?_⟩
          cases x <;> first | rfl | exact absurd rfl hi
        have hg : (0 : Int) < ((((ds.filter bad).map id).map id).length : Int) := by
          obtain ⟨x, hx, hi⟩ := hne
          rw [List.map_id, List.map_id]
          have : 0 < (ds.filter bad).length := List.length_pos_of_mem (List.mem_filter.mpr ⟨hx, hi⟩)
          omega
        refine run_rt rfl (seq_rt (if_t ?_ (ret_go rfl)))
        simp only [TL.tOr, TL.tNot, tV, e2, e1, eVar, List.map_cons, List.map_nil, List.replicate, List.cons_append, List.nil_append, List.getD_cons_zero, Option.bind_some, isiD, isTy, toB, Option.map_some, Bool.not_true, Bool.false_eq_true, if_false, hlc, len_l, eC, gt_i, decide_eq_true hg]
  | _ => exact ⟨false, rfl, rfl⟩
end LB

set_option Elab.async false
set_option linter.all false
set_option maxRecDepth 100000
namespace LB
open PySem TL
local macro_rules | `(tactic| walk_at "ev") => `(tactic| simp only [List.length_cons, List.length_nil, if_true, List.map_cons, List.map_nil, List.replicate, List.cons_append, List.nil_append, sSeq, sAsg, eLst, eTup, eArgs, Option.bind_some, Option.map_some, eC, eVar, eCall, e1, e2, eIf, eAnd, eOr, eNot, eChain, TL.gName, TL.gTup, gAll, List.getD_cons_zero, List.getD_cons_succ, List.set_cons_zero, List.set_cons_succ, sFor, iRng1, iRng2, iSeq, itemsD, toI, toB, sIf, sRet, sNext, tV, TL.tAnd, TL.tOr, TL.tNot, add_i, sub_i, lt_i, le_i, gt_i, ge_i, eq_i, ne_i, int_i, len_l, len_t, tuple_l, tuple_t, list_l, list_t, outD, Bool.false_eq_true, if_false, sApp, Nat.zero_le, wipeE, cYes, eSlice, ePart])
def isPr : D → Bool
  | .tuple ds => ds.all isI && decide ((ds.length : Int) = 2)
  | _ => false
theorem isPr_of {x : D} (h : isPr x = true) : ∃ p : Int × Int, x = prD p := by
  cases x with
  | tuple ds =>
    have h : (ds.all isI && decide ((ds.length : Int) = 2)) = true := h
    rw [Bool.and_eq_true] at h
    obtain ⟨l, rfl⟩ := isI_all h.1
    have h2 := of_decide_eq_true h.2
    rw [List.length_map] at h2
    match l, h2 with
    | [a, b], _ => exact ⟨(a, b), rfl⟩
    | [], h2 => exact absurd h2 (by decide)
    | [_], h2 => exact absurd h2 (by simp)
    | _ :: _ :: _ :: _, h2 => simp only [List.length_cons] at h2; omega
  | _ => simp [isPr] at h
theorem isPr_all : ∀ {ds : List D}, ds.all isPr = true → ∃ l : List (Int × Int), ds = l.map prD
  | [], _ => ⟨[], rfl⟩
  | x :: r, h => by
    have h := List.all_cons ▸ h
    rw [Bool.and_eq_true] at h
    obtain ⟨l, rfl⟩ := isPr_all h.2
    obtain ⟨p, rfl⟩ := isPr_of h.1
    exact ⟨p :: l, rfl⟩
theorem isPr_prD (p : Int × Int) : isPr (prD p) = true := rfl
theorem isPr_allD (l : List (Int × Int)) : (l.map prD).all isPr = true := by
  rw [List.all_map]
  exact List.all_eq_true.mpr fun _ _ => rfl
def ltQ (p q : Int × Int) : Bool := lexLt [p.1, p.2] [q.1, q.2]
theorem ltQ_up (p q : Int × Int) : ltD (prD p) (prD q) = some (.bool (ltQ p q)) := rfl
theorem geQ_up (p q : Int × Int) : geD (prD p) (prD q) = some (.bool (!ltQ p q)) := rfl
theorem is_pairs_ok {b d : Nat} {v : D} (hb : b ≤ 1000) (h : Nice b d v) : (∀ l : List (Int × Int), v = .tuple (l.map prD) → m_is_pairs [v] = some (.bool (upB ltQ (0, 0) l))) ∧ ((∀ l : List (Int × Int), v ≠ .tuple (l.map prD)) → m_is_pairs [v] = some (.bool false)) := by
  cases h with
  | tup h1 h2 =>
    rename_i d ds
    have hq : (TL.tOr (TL.tNot (tV (e1 (isiD .tuple) (eVar 0)))) (TL.tNot (tV (e1 allD (eLc [1] (iSeq (eVar 0)) (TL.gName 1) cYes (eAnd (eCall m_is_numbers [(eVar 1)]) (e2 eqD (e1 lenD (eVar 1)) (eC (.int 2))))))))) [some (.tuple ds), none] = some (!ds.all isPr) := by
      have hlc := lc_map (g := TL.gName 1) (e := eAnd (eCall m_is_numbers [(eVar 1)]) (e2 eqD (e1 lenD (eVar 1)) (eC (.int 2)))) (env := wipeE [some (.tuple ds), none] [1]) id PyData.bool isPr (zs := ds) fun x hx => ⟨_, rfl, by
        have hn := numbers_ok (h2 x hx)
        simp only [eAnd, eCall, eArgs, eVar, wipeE, List.set_cons_zero, List.set_cons_succ, List.getD_cons_zero, List.getD_cons_succ, Option.bind_some, Option.map_some, id, hn]
        cases h2 x hx with
        | tup h3 h4 =>
          rename_i es
          simp only [numB, isPr, toB, Option.bind_some]
          cases es.all isI
          · simp
          · simp only [if_true, e2, e1, eVar, List.getD_cons_zero, List.getD_cons_succ, Option.bind_some, len_t, eC, eq_i, Bool.true_and]
        | _ => rfl⟩
      rw [List.map_id] at hlc
      have hl2 := lc_go (vs := [1]) (it := iSeq (eVar 0)) rfl hlc
      have ha : allD (.list ((ds.map isPr).map .bool)) = some (.bool (ds.all isPr)) := by
        rw [all_b, List.all_map]
        rfl
      simp only [TL.tOr, TL.tNot, tV, e1, eVar, List.getD_cons_zero, Option.bind_some, isiD, isTy, toB, Option.map_some, Bool.not_true, Bool.false_eq_true, if_false, hl2, ha]
    refine ⟨fun l e => ?_, fun hn => ?_⟩
    · injection e with e
      subst e
      rw [List.length_map] at h1
      rw [isPr_allD] at hq
      refine run_rt rfl (seq_go (if_f hq rfl) (ret_go ?_))
      walk_at "ev"
      exact rises_ok prD ltQ (0, 0) l (by omega) ltQ_up
    · have : ds.all isPr = false := by
        cases q : ds.all isPr with
        | false => rfl
        | true =>
          obtain ⟨l, rfl⟩ := isPr_all q
          exact absurd rfl (hn l)
      rw [this] at hq
      exact run_rt rfl (seq_rt (if_t hq (ret_go rfl)))
  | _ => exact ⟨fun l e => (by cases e), fun _ => rfl⟩
theorem numbers_in_ok {b d : Nat} {v : D} (h : Nice b d v) : m__law_numbers_in [v, .int 2] = some (.bool (isPr v)) := by
  cases h with
  | tup h1 h2 =>
    rename_i d ds
    by_cases q : (ds.length : Int) = 2
    · have hlc := lc_go (vs := [2]) (it := iSeq (eVar 0)) (env := [some (.tuple ds), some (.int 2), none]) (ds := ds.map id) (by rw [List.map_id]; rfl) (lc_filter (g := TL.gName 2) (c := TL.tNot (tV (eCall m__law_is_int [(eVar 2)]))) (e := eVar 2) id id (fun x => !isI x) id fun x hx => ⟨_, rfl, by
        have hi := lint_ok (h2 x hx)
        simp only [TL.tNot, tV, eCall, eArgs, eVar, wipeE, id, List.set_cons_zero, List.set_cons_succ, List.getD_cons_zero, List.getD_cons_succ, Option.bind_some, Option.map_some, hi, toB], fun _ => rfl⟩)
      refine run_rt rfl (seq_go (if_f ?_ rfl) (ret_go (e2_go (e1_go hlc (len_l _)) rfl ?_)))
      · walk_at "ev"
        simp only [isiD, isTy, Option.bind_some, toB, Option.map_some, Bool.not_true, Bool.false_eq_true, if_false, q, decide_true]
      · rw [eq_i]
        have := none_of isI id (id : D → D) ds
        rw [this]
        simp only [isPr, q, decide_true, Bool.and_true]
    · refine run_rt rfl (seq_rt (if_t ?_ (ret_go ?_)))
      · walk_at "ev"
        simp only [isiD, isTy, Option.bind_some, toB, Option.map_some, Bool.not_true, Bool.false_eq_true, if_false, q, decide_false, Bool.not_false]
      · simp only [isPr, q, decide_false, Bool.and_false, eC]
  | _ => rfl
theorem for_all {g : SG} {body : SS} (I : TL.Env → Prop) (P : D → Bool) (r : D) : ∀ (xs : List D) (env : TL.Env), I env →
    (∀ x ∈ xs, ∀ env, I env → ∃ e1, g x env = some e1 ∧ ((P x = true ∧ ∃ e2, body e1 = some (.nx e2) ∧ I e2) ∨ (P x = false ∧ body e1 = some (.rt r)))) →
    (xs.all P = true ∧ ∃ e, forGo g body xs env = some (.nx e) ∧ I e) ∨ (xs.all P = false ∧ forGo g body xs env = some (.rt r))
  | [], env, h, _ => .inl ⟨rfl, env, rfl, h⟩
  | x :: xs, env, h, step => by
    obtain ⟨e1, h1, h2⟩ := step x List.mem_cons_self env h
    rcases h2 with ⟨hp, e2, h3, h4⟩ | ⟨hp, h3⟩
    · rcases for_all I P r xs e2 h4 fun y hy => step y (List.mem_cons_of_mem _ hy) with ⟨ha, e, h5, h6⟩ | ⟨ha, h5⟩
      · exact .inl ⟨by rw [List.all_cons, hp, ha]; rfl, e, by simp only [forGo, h1, Option.bind_some, h3, h5], h6⟩
      · exact .inr ⟨by rw [List.all_cons, hp, ha]; rfl, by simp only [forGo, h1, Option.bind_some, h3, h5]⟩
    · exact .inr ⟨by rw [List.all_cons, hp]; rfl, by simp only [forGo, h1, Option.bind_some, h3]⟩
def prIn (n : Int) (p : Int × Int) : Bool := inB n p.1 && inB n p.2
def goodPr (n : Int) : D → Bool
  | .tuple [.int a, .int b] => prIn n (a, b)
  | _ => false
theorem chain_ix {env : TL.Env} {i j : Nat} {a n k : Int} {v : D} (h1 : env.getD i none = some v) (h0 : ixD v (.int k) = some (.int a)) (h2 : env.getD j none = some (.int n)) : eChain leD ltD (eC (.int 0)) (e2 ixD (eVar i) (eC (.int k))) (eVar j) env = some (.bool (inB n a)) := by
  simp only [eChain, e2, eC, eVar, h1, h2, h0, Option.bind_some, le_i, toB, lt_i, inB]
  by_cases h : 0 ≤ a <;> simp [h]
theorem law_pairs_ok {b d : Nat} {v : D} (hb : b ≤ 1000) (h : Nice b d v) (n : Int) : (∀ l : List (Int × Int), v = .tuple (l.map prD) → m__law_pairs [v, .int n, .int n] = some (.bool (l.all (prIn n) && upB ltQ (0, 0) l))) ∧ ((∀ l : List (Int × Int), v ≠ .tuple (l.map prD)) → m__law_pairs [v, .int n, .int n] = some (.bool false)) := by
  cases h with
  | tup h1 h2 =>
    rename_i d ds
    have hfor := for_all (g := TL.gName 3) (body := (sIf (TL.tOr (TL.tNot (tV (eCall m__law_numbers_in [(eVar 3), (eC (.int 2))]))) (TL.tOr (TL.tNot (tV (eChain leD ltD (eC (.int 0)) (e2 ixD (eVar 3) (eC (.int 0))) (eVar 1)))) (TL.tNot (tV (eChain leD ltD (eC (.int 0)) (e2 ixD (eVar 3) (eC (.int 1))) (eVar 2))))))
      (sRet (eC (.bool false)))
      sNext)) (fun env => ∃ e3, env = [some (.tuple ds), some (.int n), some (.int n), e3, none]) (goodPr n) (.bool false) ds [some (.tuple ds), some (.int n), some (.int n), none, none] ⟨_, rfl⟩ (by
      rintro x hx env ⟨e3, rfl⟩
      refine ⟨[some (.tuple ds), some (.int n), some (.int n), some x, none], rfl, ?_⟩
      have hn := numbers_in_ok (h2 x hx)
      cases q : isPr x with
      | false =>
        rw [q] at hn
        refine .inr ⟨?_, if_t ?_ (ret_go rfl)⟩
        · cases e : goodPr n x with
          | false => rfl
          | true =>
            unfold goodPr at e
            split at e
            · rename_i a c
              exact Bool.noConfusion ((isPr_prD (a, c)).symm.trans q)
            · exact absurd e (by decide)
        · simp only [TL.tOr, TL.tNot, tV, eCall, eArgs, eVar, eC, List.getD_cons_zero, List.getD_cons_succ, Option.bind_some, Option.map_some, hn, toB, Bool.not_false, if_true]
      | true =>
        rw [q] at hn
        obtain ⟨⟨a, c⟩, rfl⟩ := isPr_of q
        have hg : goodPr n (prD (a, c)) = (inB n a && inB n c) := rfl
        have ht : (TL.tOr (TL.tNot (tV (eCall m__law_numbers_in [(eVar 3), (eC (.int 2))]))) (TL.tOr (TL.tNot (tV (eChain leD ltD (eC (.int 0)) (e2 ixD (eVar 3) (eC (.int 0))) (eVar 1)))) (TL.tNot (tV (eChain leD ltD (eC (.int 0)) (e2 ixD (eVar 3) (eC (.int 1))) (eVar 2)))))) [some (.tuple ds), some (.int n), some (.int n), some (prD (a, c)), none] = some (!(inB n a && inB n c)) := by
          have c1 := chain_ix (env := [some (.tuple ds), some (.int n), some (.int n), some (prD (a, c)), none]) (i := 3) (j := 1) (k := 0) (a := a) (n := n) rfl rfl rfl
          have c2 := chain_ix (env := [some (.tuple ds), some (.int n), some (.int n), some (prD (a, c)), none]) (i := 3) (j := 2) (k := 1) (a := c) (n := n) rfl rfl rfl
          simp only [TL.tOr, TL.tNot, tV, c1, c2, eCall, eArgs, eVar, eC, List.getD_cons_zero, List.getD_cons_succ, Option.bind_some, Option.map_some, hn, toB, Bool.not_true, Bool.false_eq_true, if_false]
          cases inB n a <;> cases inB n c <;> rfl
        cases e : inB n a && inB n c with
        | true =>
          rw [e] at ht
          exact .inl ⟨by rw [hg, e], _, if_f ht rfl, _, rfl⟩
        | false =>
          rw [e] at ht
          exact .inr ⟨by rw [hg, e], if_t ht (ret_go rfl)⟩)
    have hif : ∀ k, sIf (TL.tNot (tV (e1 (isiD .tuple) (eVar 0)))) (sRet (eC (.bool false))) sNext [some (.tuple ds), some (.int n), some (.int n), k, none] = some (.nx [some (.tuple ds), some (.int n), some (.int n), k, none]) := fun k => if_f rfl rfl
    refine ⟨fun l e => ?_, fun hn => ?_⟩
    · injection e with e
      subst e
      rw [List.length_map] at h1
      have hall : (l.map prD).all (goodPr n) = l.all (prIn n) := by
        rw [List.all_map]
        rfl
      rw [hall] at hfor
      rcases hfor with ⟨ha, e, hf, e3, rfl⟩ | ⟨ha, hf⟩
      · refine run_rt rfl (seq_go (hif _) (seq_go (for_go rfl hf) (ret_go ?_)))
        rw [ha, Bool.true_and]
        exact falls_ok prD ltQ (0, 0) l (by omega) geQ_up (fun d => rfl) rfl (fun d => rfl)
      · refine run_rt rfl (seq_go (hif _) (seq_rt (for_go rfl ?_)))
        rw [ha, Bool.false_and]
        exact hf
    · rcases hfor with ⟨ha, _⟩ | ⟨ha, hf⟩
      · obtain ⟨l, e⟩ := isPr_all (ds := ds) (List.all_eq_true.mpr fun x hx => by
          have := List.all_eq_true.mp ha x hx
          unfold goodPr at this
          split at this
          · rfl
          · exact absurd this (by decide))
        exact absurd (congrArg PyData.tuple e) (hn l)
      · exact run_rt rfl (seq_go (hif _) (seq_rt (for_go rfl hf)))
  | _ => exact ⟨fun l e => (by cases e), fun _ => rfl⟩
theorem lc2_ok {n : Int} {m v : D} (ev : Option D) : ∀ l : List (Int × Int), ∃ bs : List Bool, lcGo2 (TL.gName 4) cYes (iSeq (eVar 4)) [5] (TL.gName 5) cYes (eChain leD ltD (eC (.int 0)) (eVar 5) (eVar 1)) [some v, some (.int n), some m, ev, none, none, none] (l.map prD) = some (bs.map .bool) ∧ bs.length = 2 * l.length ∧ bs.all id = l.all (prIn n)
  | [] => ⟨[], rfl, rfl, rfl⟩
  | (a, c) :: r => by
    obtain ⟨bs, h1, h2, h3⟩ := lc2_ok (n := n) (m := m) (v := v) ev r
    refine ⟨inB n a :: inB n c :: bs, ?_, by simp only [List.length_cons, h2]; omega, by rw [List.all_cons, List.all_cons, List.all_cons, h3, ← Bool.and_assoc]; rfl⟩
    have c1 : ∀ x : Int, eChain leD ltD (eC (.int 0)) (eVar 5) (eVar 1) [some v, some (.int n), some m, ev, some (prD (a, c)), some (.int x), none] = some (.bool (inB n x)) := fun x => chain_in rfl rfl
    have c2 : lcGo (TL.gName 5) cYes (eChain leD ltD (eC (.int 0)) (eVar 5) (eVar 1)) [some v, some (.int n), some m, ev, some (prD (a, c)), none, none] [.int a, .int c] = some [.bool (inB n a), .bool (inB n c)] := by
      have := lc_map (g := TL.gName 5) (e := eChain leD ltD (eC (.int 0)) (eVar 5) (eVar 1)) (env := [some v, some (.int n), some m, ev, some (prD (a, c)), none, none]) PyData.int PyData.bool (inB n) (zs := [a, c]) fun x _ => ⟨_, rfl, c1 x⟩
      exact this
    have c3 : iSeq (eVar 4) [some v, some (.int n), some m, ev, some (prD (a, c)), none, none] = some [.int a, .int c] := rfl
    have c4 : wipeE [some v, some (.int n), some m, ev, some (prD (a, c)), none, none] [5] = [some v, some (.int n), some m, ev, some (prD (a, c)), none, none] := rfl
    have c5 : TL.gName 4 (prD (a, c)) [some v, some (.int n), some m, ev, none, none, none] = some [some v, some (.int n), some m, ev, some (prD (a, c)), none, none] := rfl
    rw [List.map_cons, lcGo2, c5, Option.bind_some, c3]
    simp only [Option.bind_some, cYes, if_true]
    rw [c4, c2]
    simp only [Option.bind_some, h1, Option.map_some]
    rfl
end LB

set_option Elab.async false
set_option linter.all false
set_option maxRecDepth 100000
namespace LB
open PySem TL
local macro_rules | `(tactic| walk_at "ev") => `(tactic| simp only [List.length_cons, List.length_nil, if_true, List.map_cons, List.map_nil, List.replicate, List.cons_append, List.nil_append, sSeq, sAsg, eLst, eTup, eArgs, Option.bind_some, Option.map_some, eC, eVar, eCall, e1, e2, eIf, eAnd, eOr, eNot, eChain, TL.gName, TL.gTup, gAll, List.getD_cons_zero, List.getD_cons_succ, List.set_cons_zero, List.set_cons_succ, sFor, iRng1, iRng2, iSeq, itemsD, toI, toB, sIf, sRet, sNext, tV, TL.tAnd, TL.tOr, TL.tNot, add_i, sub_i, lt_i, le_i, gt_i, ge_i, eq_i, ne_i, int_i, len_l, len_t, tuple_l, tuple_t, list_l, list_t, outD, Bool.false_eq_true, if_false, sApp, Nat.zero_le, wipeE, cYes, eSlice, ePart])
theorem from_ok (n : Int) : m_is_from [.int n, .int 1, .int 8] = some (.bool (decide (1 ≤ n) && decide (n ≤ 8))) := by
  refine run_rt rfl (ret_go ?_)
  simp only [eAnd, eCall, eArgs, eVar, List.map_cons, List.map_nil, List.replicate, List.cons_append, List.nil_append, List.getD_cons_zero, Option.bind_some, Option.map_some, whole_ok (.int (Nat.le_refl _) : Nice n.natAbs 0 (.int n)), isI, toB, if_true, eChain, List.getD_cons_succ, le_i]
  by_cases h : 1 ≤ n <;> simp [h]
theorem from_no {b d : Nat} {v : D} (h : Nice b d v) (q : isI v = false) : m_is_from [v, .int 1, .int 8] = some (.bool false) := by
  refine run_rt rfl (ret_go ?_)
  simp only [eAnd, eCall, eArgs, eVar, List.map_cons, List.map_nil, List.replicate, List.cons_append, List.nil_append, List.getD_cons_zero, Option.bind_some, Option.map_some, whole_ok h, q, toB, Bool.false_eq_true, if_false]
theorem two_of {α : Type} {l : List α} (h : (l.length : Int) = 2) : ∃ x y, l = [x, y] := by
  match l, h with
  | [x, y], _ => exact ⟨x, y, rfl⟩
  | [], h => exact absurd h (by simp)
  | [_], h => exact absurd h (by simp)
  | _ :: _ :: _ :: _, h => simp only [List.length_cons] at h; omega
theorem three_of {α : Type} {l : List α} (h : (l.length : Int) = 3) : ∃ x y z, l = [x, y, z] := by
  match l, h with
  | [x, y, z], _ => exact ⟨x, y, z, rfl⟩
  | [], h => exact absurd h (by simp)
  | [_], h => exact absurd h (by simp)
  | [_, _], h => exact absurd h (by simp)
  | _ :: _ :: _ :: _ :: _, h => simp only [List.length_cons] at h; omega
theorem told {b d : Nat} {v : D} (hb : b ≤ 1000) (h : Nice b d v) : ∃ k, m_is_world [v] = some (.bool k) ∧ m__law_is_world [v] = some (.bool k) := by
  cases h with
  | tup h1 h2 =>
    rename_i d ds
    by_cases q3 : (ds.length : Int) = 3
    · obtain ⟨a, m, r, rfl⟩ := three_of q3
      have na := h2 a (by simp)
      have nm := h2 m (by simp)
      have nr := h2 r (by simp)
      have x0 : ixD (.tuple [a, m, r]) (.int 0) = some a := rfl
      have x1 : ixD (.tuple [a, m, r]) (.int 1) = some m := rfl
      have x2 : ixD (.tuple [a, m, r]) (.int 2) = some r := rfl
      have ty : isiD .tuple (.tuple [a, m, r]) = some (.bool true) := rfl
      have l3 : ((0 + 1 + 1 + 1 : Nat) : Int) = 3 := rfl
      cases qa : isI a with
      | false =>
        refine ⟨false, run_rt rfl (seq_rt (if_t ?_ (ret_go rfl))), run_rt rfl (seq_rt (if_t ?_ (ret_go rfl)))⟩
        · walk_at "ev"
          simp only [ty, Option.bind_some, toB, Option.map_some, Bool.not_true, Bool.false_eq_true, if_false, l3, decide_true, x0, from_no na qa, Bool.not_false]
        · walk_at "ev"
          simp only [ty, Option.bind_some, toB, Option.map_some, Bool.not_true, Bool.false_eq_true, if_false, l3, decide_true, x0, lint_ok na, qa, Bool.not_false, if_true]
      | true =>
        obtain ⟨n, rfl⟩ : ∃ n, a = .int n := by cases a <;> first | exact ⟨_, rfl⟩ | exact Bool.noConfusion qa
        by_cases qn : 1 ≤ n ∧ n ≤ 8
        · have s1 : ∀ rest : SS, sSeq (sIf (TL.tOr (TL.tNot (tV (e1 (isiD .tuple) (eVar 0)))) (TL.tOr (tV (e2 neD (e1 lenD (eVar 0)) (eC (.int 3)))) (TL.tNot (tV (eCall m_is_from [(e2 ixD (eVar 0) (eC (.int 0))), (eC (.int 1)), (eC (.int 8))])))))
              (sRet (eC (.bool false))) sNext) rest [some (.tuple [.int n, m, r]), none, none, none, none, none, none] = rest [some (.tuple [.int n, m, r]), none, none, none, none, none, none] := fun rest => seq_go (if_f (by
            walk_at "ev"
            simp only [ty, Option.bind_some, toB, Option.map_some, Bool.not_true, Bool.false_eq_true, if_false, l3, decide_true, x0, from_ok, decide_eq_true qn.1, decide_eq_true qn.2, Bool.and_self]) rfl) rfl
          have s2 : ∀ rest : SS, sSeq (sIf (TL.tOr (TL.tNot (tV (e1 (isiD .tuple) (eVar 0)))) (TL.tOr (tV (e2 neD (e1 lenD (eVar 0)) (eC (.int 3)))) (TL.tOr (TL.tNot (tV (eCall m__law_is_int [(e2 ixD (eVar 0) (eC (.int 0)))]))) (TL.tNot (tV (eChain leD leD (eC (.int 1)) (e2 ixD (eVar 0) (eC (.int 0))) (eC (.int 8))))))))
              (sRet (eC (.bool false))) sNext) rest [some (.tuple [.int n, m, r]), none] = rest [some (.tuple [.int n, m, r]), none] := fun rest => seq_go (if_f (by
            walk_at "ev"
            simp only [ty, Option.bind_some, toB, Option.map_some, Bool.not_true, Bool.false_eq_true, if_false, l3, decide_true, x0, lint_ok na, isI, if_true, le_i, decide_eq_true qn.1, decide_eq_true qn.2]) rfl) rfl
          let E := [some (PyData.tuple [.int n, m, r]), some (.int n), some m, some r, none, none, none]
          have a1 : sAsg (eVar 0) (TL.gTup [(TL.gName 1), (TL.gName 2), (TL.gName 3)]) [some (.tuple [.int n, m, r]), none, none, none, none, none, none] = some (.nx E) := rfl
          -- a test that the marks are good, then the arrows
          have fin : ∀ k : Bool, (TL.tOr (TL.tNot (tV (e1 (isiD .tuple) (eVar 2)))) (TL.tOr (tV (e2 neD (e1 lenD (eVar 2)) (eC (.int 2)))) (TL.tNot (tV (e1 allD (eLc [6] (iSeq (eVar 2)) (TL.gName 6) cYes (eCall m_is_items [(eVar 6), (eVar 1)]))))))) E = some (!k) →
              (TL.tOr (TL.tNot (tV (e1 (isiD .tuple) (e2 ixD (eVar 0) (eC (.int 1)))))) (TL.tOr (tV (e2 neD (e1 lenD (e2 ixD (eVar 0) (eC (.int 1)))) (eC (.int 2)))) (tV (e2 gtD (e1 lenD (eLc [1] (iSeq (e2 ixD (eVar 0) (eC (.int 1)))) (TL.gName 1) (TL.tNot (tV (eCall m__law_items [(eVar 1), (e2 ixD (eVar 0) (eC (.int 0)))]))) (eVar 1))) (eC (.int 0)))))) [some (.tuple [.int n, m, r]), none] = some (!k) →
              ∃ k, m_is_world [.tuple [.int n, m, r]] = some (.bool k) ∧ m__law_is_world [.tuple [.int n, m, r]] = some (.bool k) := by
            intro k t1 t2
            cases k with
            | false => exact ⟨false, run_rt rfl ((s1 _).trans (seq_go a1 (seq_rt (if_t t1 (ret_go rfl))))), run_rt rfl ((s2 _).trans (seq_rt (if_t t2 (ret_go rfl))))⟩
            | true =>
              have p1 := is_pairs_ok hb nr
              have p2 := law_pairs_ok hb nr n
              by_cases ql : ∃ l : List (Int × Int), r = .tuple (l.map prD)
              · obtain ⟨l, rfl⟩ := ql
                have hlen : l.length ≤ 1000 := by
                  cases nr with
                  | tup h3 h4 => rw [List.length_map] at h3; omega
                refine ⟨upB ltQ (0, 0) l && l.all (prIn n), run_rt rfl ((s1 _).trans (seq_go a1 (seq_go (if_f t1 rfl) (ret_go ?_)))), run_rt rfl ((s2 _).trans (seq_go (if_f t2 rfl) (ret_go ?_)))⟩
                · have e0 : eCall m_is_pairs [(eVar 3)] E = some (.bool (upB ltQ (0, 0) l)) := p1.1 l rfl
                  obtain ⟨bs, b1, b2, b3⟩ := lc2_ok (n := n) (m := m) (v := .tuple [.int n, m, .tuple (l.map prD)]) (some (.tuple (l.map prD))) l
                  have e1' : (e1 allD (eLc2 [4, 5] (iSeq (eVar 3)) (TL.gName 4) cYes [5] (iSeq (eVar 4)) (TL.gName 5) cYes (eChain leD ltD (eC (.int 0)) (eVar 5) (eVar 1)))) E = some (.bool (l.all (prIn n))) := by
                    refine e1_go (x := .list (bs.map .bool)) ?_ (by rw [all_b, b3])
                    simp only [eLc2]
                    rw [show iSeq (eVar 3) E = some (l.map prD) from rfl, Option.bind_some]
                    rw [show wipeE E [4, 5] = [some (.tuple [.int n, m, .tuple (l.map prD)]), some (.int n), some m, some (.tuple (l.map prD)), none, none, none] from rfl, b1, Option.bind_some, if_pos]
                    rw [List.length_map, b2]
                    exact small (by omega)
                  simp only [eAnd]
                  rw [e0]
                  simp only [Option.bind_some, toB]
                  cases upB ltQ (0, 0) l
                  · rfl
                  · simp only [if_true, Bool.true_and]
                    exact e1'
                · simp only [eCall, eArgs, e2, eVar, eC, List.getD_cons_zero, Option.bind_some, Option.map_some, x0, x2]
                  rw [p2.1 l rfl, Bool.and_comm]
              · have hn : ∀ l : List (Int × Int), r ≠ .tuple (l.map prD) := fun l e => ql ⟨l, e⟩
                refine ⟨false, run_rt rfl ((s1 _).trans (seq_go a1 (seq_go (if_f t1 rfl) (ret_go ?_)))), run_rt rfl ((s2 _).trans (seq_go (if_f t2 rfl) (ret_go ?_)))⟩
                · have e0 : eCall m_is_pairs [(eVar 3)] E = some (.bool false) := p1.2 hn
                  simp only [eAnd]
                  rw [e0]
                  rfl
                · simp only [eCall, eArgs, e2, eVar, eC, List.getD_cons_zero, Option.bind_some, Option.map_some, x0, x2]
                  exact p2.2 hn
          cases nm with
          | tup h3 h4 =>
            rename_i d ms
            by_cases q2 : (ms.length : Int) = 2
            · obtain ⟨x, y, rfl⟩ := two_of q2
              obtain ⟨kx, i1, i2⟩ := items_ok hb (h4 x (by simp)) n
              obtain ⟨ky, j1, j2⟩ := items_ok hb (h4 y (by simp)) n
              refine fin (kx && ky) ?_ ?_
              · have hl : eLc [6] (iSeq (eVar 2)) (TL.gName 6) cYes (eCall m_is_items [(eVar 6), (eVar 1)]) E = some (.list ([kx, ky].map .bool)) := by
                  refine lc_go (ds := [x, y]) rfl ?_
                  simp only [E, lcGo]
                  walk_at "ev"
                  simp only [i1, j1, Option.bind_some, Option.map_some]
                have ha : allD (.list ([kx, ky].map .bool)) = some (.bool (kx && ky)) := by
                  rw [all_b]
                  simp
                simp only [TL.tOr, TL.tNot, tV, e1, e2, hl, ha, Option.bind_some]
                rfl
              · have hl : eLc [1] (iSeq (e2 ixD (eVar 0) (eC (.int 1)))) (TL.gName 1) (TL.tNot (tV (eCall m__law_items [(eVar 1), (e2 ixD (eVar 0) (eC (.int 0)))]))) (eVar 1) [some (.tuple [.int n, .tuple [x, y], r]), none] = some (.list ((if kx then [] else [x]) ++ (if ky then [] else [y]))) := by
                  refine lc_go (ds := [x, y]) rfl ?_
                  simp only [lcGo]
                  walk_at "ev"
                  simp only [x0, i2, j2, Option.bind_some, Option.map_some, toB]
                  cases kx <;> cases ky <;> rfl
                simp only [TL.tOr, TL.tNot, tV, e1, e2, hl, Option.bind_some]
                cases kx <;> cases ky <;> rfl
            · refine fin false ?_ ?_
              · simp only [E]
                walk_at "ev"
                simp only [isiD, isTy, Option.bind_some, toB, Option.map_some, Bool.not_true, Bool.false_eq_true, if_false, q2, decide_false, Bool.not_false, if_true]
              · walk_at "ev"
                simp only [x1, isiD, isTy, Option.bind_some, toB, Option.map_some, Bool.not_true, Bool.false_eq_true, if_false, len_t, ne_i, q2, decide_false, Bool.not_false, if_true]
          | _ => exact fin false rfl rfl
        · refine ⟨false, run_rt rfl (seq_rt (if_t ?_ (ret_go rfl))), run_rt rfl (seq_rt (if_t ?_ (ret_go rfl)))⟩
          · have e : (decide (1 ≤ n) && decide (n ≤ 8)) = false := by
              cases q : decide (1 ≤ n) && decide (n ≤ 8) with
              | false => rfl
              | true =>
                rw [Bool.and_eq_true, decide_eq_true_eq, decide_eq_true_eq] at q
                exact absurd q qn
            walk_at "ev"
            simp only [ty, Option.bind_some, toB, Option.map_some, Bool.not_true, Bool.false_eq_true, if_false, l3, decide_true, x0, from_ok, e, Bool.not_false]
          · walk_at "ev"
            simp only [ty, Option.bind_some, toB, Option.map_some, Bool.not_true, Bool.false_eq_true, if_false, l3, decide_true, x0, lint_ok na, isI, if_true, le_i]
            by_cases q1 : 1 ≤ n
            · have q2 : ¬ n ≤ 8 := fun h => qn ⟨q1, h⟩
              simp only [q1, q2, decide_true, decide_false, if_true, Option.bind_some, toB, Option.map_some, Bool.not_false]
            · simp only [q1, decide_false, Bool.false_eq_true, if_false, Option.bind_some, toB, Option.map_some, Bool.not_false]
    · refine ⟨false, run_rt rfl (seq_rt (if_t ?_ (ret_go rfl))), run_rt rfl (seq_rt (if_t ?_ (ret_go rfl)))⟩ <;>
      · walk_at "ev"
        simp only [isiD, isTy, Option.bind_some, toB, Option.map_some, Bool.not_true, Bool.false_eq_true, if_false, q3, decide_false, Bool.not_false, if_true]
  | _ => exact ⟨false, rfl, rfl⟩
end LB

set_option Elab.async false
set_option linter.all false
set_option maxRecDepth 100000
namespace LB
open PySem TL
local macro_rules | `(tactic| walk_at "ev") => `(tactic| simp only [List.length_cons, List.length_nil, if_true, List.map_cons, List.map_nil, List.replicate, List.cons_append, List.nil_append, sSeq, sAsg, eLst, eTup, eArgs, Option.bind_some, Option.map_some, eC, eVar, eCall, e1, e2, eIf, eAnd, eOr, eNot, eChain, TL.gName, TL.gTup, gAll, List.getD_cons_zero, List.getD_cons_succ, List.set_cons_zero, List.set_cons_succ, sFor, iRng1, iRng2, iSeq, itemsD, toI, toB, sIf, sRet, sNext, tV, TL.tAnd, TL.tOr, TL.tNot, add_i, sub_i, lt_i, le_i, gt_i, ge_i, eq_i, ne_i, int_i, len_l, len_t, tuple_l, tuple_t, list_l, list_t, outD, Bool.false_eq_true, if_false, sApp, Nat.zero_le, wipeE, cYes, eSlice, ePart])
end LB

set_option Elab.async false
set_option linter.all false
set_option maxRecDepth 100000
namespace LB
open PySem TL
def inI (lo hi : Int) : D → Bool
  | .int i => decide (lo ≤ i) && decide (i ≤ hi)
  | _ => false
theorem and_go {a b : SE} {env : TL.Env} {x y : Bool} (h1 : a env = some (.bool x)) (h2 : x = true → b env = some (.bool y)) : eAnd a b env = some (.bool (x && y)) := by
  simp only [eAnd, h1, Option.bind_some, toB]
  cases x with
  | true => rw [if_pos rfl, h2 rfl]; rfl
  | false => rfl
theorem call1_go {m : List D → Option D} {a : SE} {env : TL.Env} {x : D} {o : Option D} (h1 : a env = some x) (h2 : m [x] = o) : eCall m [a] env = o := by
  simp only [eCall, eArgs, h1, Option.bind_some, Option.map_some]
  exact h2
theorem call3_go {m : List D → Option D} {a b c : SE} {env : TL.Env} {x y z : D} {o : Option D} (h1 : a env = some x) (h2 : b env = some y) (h3 : c env = some z) (h4 : m [x, y, z] = o) : eCall m [a, b, c] env = o := by
  simp only [eCall, eArgs, h1, h2, h3, Option.bind_some, Option.map_some]
  exact h4
end LB

set_option Elab.async false
set_option linter.all false
set_option maxRecDepth 100000
namespace LB
open PySem TL
def six : List Str := ["not", "and", "or", "some", "all", "least"]
end LB

set_option Elab.async false
set_option linter.all false
set_option maxRecDepth 100000
namespace LB
open PySem TL
theorem IsFmB.mono {B : Nat} {top : Int} {W W' : List Str} (hW : ∀ w ∈ W, w ∈ W') {d d' : Nat} {f : D} (h : IsFmB B top W d f) (hd : d ≤ d') : IsFmB B top W' d' f := by
  induction h generalizing d' with
  | arrow h1 h2 h3 h4 => exact .arrow h1 h2 h3 h4
  | same h1 h2 h3 h4 => exact .same h1 h2 h3 h4
  | mark h1 h2 h3 h4 => exact .mark h1 h2 h3 h4
  | tru => exact .tru
  | fls => exact .fls
  | not h1 h2 ih => obtain ⟨e, rfl⟩ : ∃ e, d' = e + 1 := ⟨d' - 1, by omega⟩; exact .not (hW _ h1) (ih (by omega))
  | and h1 h2 h3 ih => obtain ⟨e, rfl⟩ : ∃ e, d' = e + 1 := ⟨d' - 1, by omega⟩; exact .and (hW _ h1) h2 fun x hx => ih x hx (by omega)
  | or h1 h2 h3 ih => obtain ⟨e, rfl⟩ : ∃ e, d' = e + 1 := ⟨d' - 1, by omega⟩; exact .or (hW _ h1) h2 fun x hx => ih x hx (by omega)
  | some h1 h2 h3 h4 ih => obtain ⟨e, rfl⟩ : ∃ e, d' = e + 1 := ⟨d' - 1, by omega⟩; exact .some (hW _ h1) h2 h3 (ih (by omega))
  | all h1 h2 h3 h4 ih => obtain ⟨e, rfl⟩ : ∃ e, d' = e + 1 := ⟨d' - 1, by omega⟩; exact .all (hW _ h1) h2 h3 (ih (by omega))
  | least h1 h2 h3 h4 h5 h6 ih => obtain ⟨e, rfl⟩ : ∃ e, d' = e + 1 := ⟨d' - 1, by omega⟩; exact .least (hW _ h1) h2 h3 h4 h5 (ih (by omega))
theorem any_b (l : List Bool) : anyD (.list (l.map .bool)) = some (.bool (l.any id)) := by
  simp only [anyD, bools_of, Option.map_some]
end LB

set_option Elab.async false
set_option linter.all false
set_option maxRecDepth 100000
namespace LB
open PySem TL
end LB

set_option Elab.async false
set_option linter.all false
set_option maxRecDepth 100000
namespace LB
open PySem TL
def rowD (vs : List Int) : D := .tuple (vs.map .int ++ List.replicate (6 - vs.length) .none)
def tv (w : Wd) : Nat → D → List Int → Bool
  | 0, _, _ => false
  | n + 1, .tuple [.str s], vs => decide (s = "true")
  | n + 1, .tuple [.str s, .tuple l], vs => if s = "not" then !tv w n (.tuple l) vs else if s = "and" then l.all fun x => tv w n x vs else l.any fun x => tv w n x vs
  | n + 1, .tuple [.str s, .int x, .int y], vs => if s = "same" then decide (vs.getD x.toNat 0 = vs.getD y.toNat 0) else if s = "arrow" then decide ((vs.getD x.toNat 0, vs.getD y.toNat 0) ∈ w.ar) else decide (vs.getD y.toNat 0 ∈ if x = 0 then w.m0 else w.m1)
  | n + 1, .tuple [.str s, .int x, .tuple l], vs => if s = "some" then (rangeI 0 w.n.toNat).any fun a => tv w n (.tuple l) (vs.set x.toNat a) else (rangeI 0 w.n.toNat).all fun a => tv w n (.tuple l) (vs.set x.toNat a)
  | n + 1, .tuple [.str _, .int k, .int x, .tuple l], vs => decide (k ≤ ((rangeI 0 w.n.toNat).countP fun a => tv w n (.tuple l) (vs.set x.toNat a) : Nat))
  | _ + 1, _, _ => false
section
variable {w : Wd} {n : Nat} {vs : List Int}
end
section
variable {w : Wd} {n : Nat} {f g : D} {vs : List Int} {x k : Int} (h0 : 0 ≤ x) (hx : x < vs.length) (h6 : vs.length ≤ 6) (hg : ixD f (.int (-1)) = some g) (t : Int → Bool) (ht : ∀ a, m__law_truth n [w.d, g, rowD (vs.set x.toNat a)] = some (.bool (t a)))
include h0 hx h6 hg ht
end
end LB

set_option Elab.async false
set_option linter.all false
set_option maxRecDepth 100000
namespace LB
open PySem TL
def ownI : D → List Int
  | .tuple [.str s, .int x, .int y] => if s = "mark" then [y] else [x, y]
  | _ => []
def bndI : D → List Int
  | .tuple [.str _, .int x, .tuple _] => [x]
  | .tuple [.str _, .int _, .int x, _] => [x]
  | _ => []
def prts : D → List D
  | .tuple [.str s, .tuple l] => if s = "not" then [.tuple l] else l
  | .tuple [.str _, .int _, .tuple l] => [.tuple l]
  | .tuple [.str _, .int _, .int _, g] => [g]
  | _ => []
def fv : Nat → D → List Int
  | 0, _ => []
  | n + 1, f => ownI f ++ (prts f).flatMap fun p => (fv n p).filter fun x => !decide (x ∈ bndI f)
def dpt : Nat → D → Int
  | 0, _ => 0
  | n + 1, f => ((prts f).map (dpt n)).foldl max 0 + ((bndI f).length : Int)
end LB

set_option Elab.async false
set_option linter.all false
set_option maxRecDepth 100000
namespace LB
open PySem TL
end LB

set_option Elab.async false
set_option linter.all false
set_option maxRecDepth 100000
namespace LB
open PySem TL
abbrev rat (row : List Int) (k : Int) : Int := row.getD k.toNat 0
def part (w : Wd) (row : List Int) : Wd where
  n := row.length
  m0 := (rangeI 0 row.length).filter fun k => decide (rat row k ∈ w.m0)
  m1 := (rangeI 0 row.length).filter fun k => decide (rat row k ∈ w.m1)
  ar := (rangeI 0 row.length).flatMap fun j => ((rangeI 0 row.length).filter fun k => decide ((rat row j, rat row k) ∈ w.ar)).map fun k => (j, k)
theorem lc2_typed {α γ : Type} {g : SG} {c : ST} {it1 : SI} {vs1 : List Nat} {g1 : SG} {c1 : ST} {e : SE} {env : TL.Env} (ι : α → D) (κ : γ → D) (G : α → List γ) : ∀ {zs : List α},
    (∀ a ∈ zs, ∃ env1 ds, g (ι a) env = some env1 ∧ c env1 = some true ∧ it1 env1 = some ds ∧ lcGo g1 c1 e (wipeE env1 vs1) ds = some ((G a).map κ)) → lcGo2 g c it1 vs1 g1 c1 e env (zs.map ι) = some ((zs.flatMap G).map κ)
  | [], _ => rfl
  | a :: zs, h => by
    obtain ⟨env1, ds, h1, h2, h3, h4⟩ := h a List.mem_cons_self
    have ih := lc2_typed ι κ G (zs := zs) fun b hb => h b (List.mem_cons_of_mem _ hb)
    simp only [List.map_cons, lcGo2, h1, h2, h3, h4, ih, Option.bind_some, if_true, Option.map_some, List.flatMap_cons, List.map_append]
theorem flat_len2 {α β : Type} {U : α → List β} {B : Nat} : ∀ {ps : List α}, (∀ p ∈ ps, (U p).length ≤ B) → (ps.flatMap U).length ≤ ps.length * B
  | [], _ => by simp
  | p :: ps, h => by
    rw [List.flatMap_cons, List.length_append, List.length_cons, Nat.add_mul]
    have := h p List.mem_cons_self
    have := flat_len2 (U := U) (ps := ps) fun q hq => h q (List.mem_cons_of_mem _ hq)
    omega
theorem rat_at {row : List Int} {k : Int} (h : k ∈ rangeI 0 row.length) : ixD (tI row) (.int k) = some (.int (rat row k)) := by
  obtain ⟨h0, h1⟩ := rangeI_mem.mp h
  refine ix_ti h0 ?_
  rw [List.getElem?_map, List.getElem?_eq_getElem (by omega)]
  simp only [Option.map_some, List.getD_eq_getElem?_getD, List.getElem?_eq_getElem (show k.toNat < row.length by omega), Option.getD_some]
theorem part_ok {w : Wd} {row : List Int} (hl : row.length ≤ 100) : m_part_of [w.d, tI row] = some (part w row).d := by
  have rg : ∀ {env : TL.Env}, env.getD 2 none = some (.int row.length) → iRng1 (eVar 2) env = some ((rangeI 0 row.length).map .int) := fun {env} e => by
    simp only [iRng1, eVar, e, Option.bind_some, toI]
    rw [rng_0 (by omega) (by omega)]
    rfl
  let E := fun (e3 e4 : Option D) => [some w.d, some (tI row), some (PyData.int row.length), e3, e4, none, none, none]
  have mk : ∀ (m : List Int) (v : Option D), eLc [7] (iRng1 (eVar 2)) (TL.gName 7) (tV (e2 inD (e2 ixD (eVar 1) (eVar 7)) (eVar 5))) (eVar 7) [some w.d, some (tI row), some (PyData.int row.length), none, none, some (tI m), none, v] = some (.list (((rangeI 0 row.length).filter fun k => decide (rat row k ∈ m)).map .int)) := fun m v => by
    have := lc_filter (g := TL.gName 7) (c := tV (e2 inD (e2 ixD (eVar 1) (eVar 7)) (eVar 5))) (e := eVar 7) (env := wipeE [some w.d, some (tI row), some (PyData.int row.length), none, none, some (tI m), none, v] [7]) PyData.int PyData.int (fun k => decide (rat row k ∈ m)) id (zs := rangeI 0 row.length) fun k hk => ⟨_, rfl, tV_go (e2_go (e2_go rfl rfl (rat_at hk)) rfl (in_ti _ _)), fun _ => rfl⟩
    rw [List.map_id] at this
    exact lc_go (rg rfl) this
  have h3 : e1 tupleD (eLc [5] (iSeq (e2 ixD (eVar 0) (eC (.int 1)))) (TL.gName 5) cYes (e1 tupleD (eLc [7] (iRng1 (eVar 2)) (TL.gName 7) (tV (e2 inD (e2 ixD (eVar 1) (eVar 7)) (eVar 5))) (eVar 7)))) (E none none) = some (.tuple [tI (part w row).m0, tI (part w row).m1]) := by
    have := lc_map (g := TL.gName 5) (e := e1 tupleD (eLc [7] (iRng1 (eVar 2)) (TL.gName 7) (tV (e2 inD (e2 ixD (eVar 1) (eVar 7)) (eVar 5))) (eVar 7))) (env := wipeE (E none none) [5]) tI tI (fun m => (rangeI 0 row.length).filter fun k => decide (rat row k ∈ m)) (zs := [w.m0, w.m1]) fun m hm => ⟨_, rfl, e1_go (mk m none) rfl⟩
    exact e1_go (lc_go (ds := [tI w.m0, tI w.m1]) rfl this) rfl
  let A := fun j => ((rangeI 0 row.length).filter fun k => decide ((rat row j, rat row k) ∈ w.ar)).map fun k => ((j, k) : Int × Int)
  have h4 : ∀ e3, e1 tupleD (eLc2 [6, 7] (iRng1 (eVar 2)) (TL.gName 6) cYes [7] (iRng1 (eVar 2)) (TL.gName 7) (tV (e2 inD (eTup [(e2 ixD (eVar 1) (eVar 6)), (e2 ixD (eVar 1) (eVar 7))]) (e2 ixD (eVar 0) (eC (.int 2))))) (eTup [(eVar 6), (eVar 7)])) (E e3 none) = some (tP (part w row).ar) := fun e3 => by
    have h5 := lc2_typed (g := TL.gName 6) (c := cYes) (it1 := iRng1 (eVar 2)) (vs1 := [7]) (g1 := TL.gName 7) (c1 := tV (e2 inD (eTup [(e2 ixD (eVar 1) (eVar 6)), (e2 ixD (eVar 1) (eVar 7))]) (e2 ixD (eVar 0) (eC (.int 2))))) (e := eTup [(eVar 6), (eVar 7)]) (env := wipeE (E e3 none) [6, 7]) PyData.int prD A (zs := rangeI 0 row.length) fun j hj => ⟨_, _, rfl, rfl, rg rfl, lc_filter (g := TL.gName 7) PyData.int prD (fun k => decide ((rat row j, rat row k) ∈ w.ar)) (fun k => (j, k)) fun k hk => ⟨_, rfl, tV_go (e2_go (tup2_go (e2_go rfl rfl (rat_at hj)) (e2_go rfl rfl (rat_at hk))) (e2_go rfl rfl rfl) (in_tp (_, _) w.ar)), fun _ => tup2_go rfl rfl⟩⟩
    have hlen : ((rangeI 0 row.length).flatMap A).length ≤ (rangeI 0 row.length).length * row.length := flat_len2 fun j hj => by
      rw [List.length_map]
      exact Nat.le_trans (List.length_filter_le _ _) (Nat.le_of_eq (rangeI_len _ _))
    rw [rangeI_len] at hlen
    have : row.length * row.length ≤ 100 * 100 := Nat.mul_le_mul hl hl
    refine e1_go (x := .list (((rangeI 0 row.length).flatMap A).map prD)) ?_ rfl
    simp only [eLc2]
    rw [rg rfl]
    simp only [Option.bind_some]
    rw [h5]
    simp only [Option.bind_some]
    rw [if_pos (small (by rw [List.length_map]; omega))]
  exact run_rt rfl (seq_go (asg_go (e1_go rfl (by rw [show lenD (tI row) = some (.int (row.map PyData.int).length) from rfl, List.length_map]))) (seq_go (asg_go h3) (seq_go (asg_go (h4 _)) (ret_go (tup3_go rfl rfl rfl)))))
section
variable {row : List Int} {n : Nat} (hrow : (rangeI 0 n).filter (fun a => decide (a ∈ row)) = row) (P : Int → Bool)
include hrow
end
end LB

set_option Elab.async false
set_option linter.all false
set_option maxRecDepth 100000
namespace LB
open PySem TL
section
variable {env e : TL.Env} {c c1 c2 : Row} {a b : WE} {d d1 d2 : D} {o : WOut}
end
section
variable {w : Wd} {g : D} {r : Row} {x : Int} {o : Option Int} {T : List D → Row → Option (D × Row)} {t : Int → Bool} (h0 : 0 ≤ x) (hx : r[x.toNat]? = some o) (hT : ∀ a, T [w.d, g] (r.set x.toNat (some a)) = some (.bool (t a), r.set x.toNat (some a)))
include h0 hx hT
variable (hw1 : 0 ≤ w.n) (hw2 : w.n ≤ 1000)
include hw1 hw2
omit h0 hx hT in
end
def Cv (r : Row) (l : List Int) : Prop := ∀ x ∈ l, ∃ a, r[x.toNat]? = some (some a)
theorem Cv.set {r : Row} {l l' : List Int} {x : Int} {a : Int} (hx : x.toNat < r.length) (h : Cv r l) (hl : ∀ y ∈ l', y ∈ l ∨ y = x) : Cv (r.set x.toNat (some a)) l' := fun y hy => by
  by_cases e : x.toNat = y.toNat
  · rw [← e]
    exact ⟨a, List.getElem?_set_self hx⟩
  · rcases hl y hy with h1 | h1
    · obtain ⟨b, hb⟩ := h y h1
      exact ⟨b, by rw [List.getElem?_set_ne e]; exact hb⟩
    · exact absurd (by rw [h1]) e
end LB

set_option Elab.async false
set_option linter.all false
set_option maxRecDepth 100000
namespace LB
open PySem TL
def rowO (r : Row) : D := .tuple (r.map ofO)
section
variable {w : Wd} {n : Nat} {f g : D} {r : Row} {x k : Int} (h0 : 0 ≤ x) (hx : x.toNat < r.length) (h6 : r.length ≤ 6) (hg : ixD f (.int (-1)) = some g) (t : Int → Bool) (ht : ∀ a, m__law_truth n [w.d, g, rowO (r.set x.toNat (some a))] = some (.bool (t a)))
include h0 hx h6 hg ht
end
end LB

set_option Elab.async false
set_option linter.all false
set_option maxRecDepth 100000
namespace LB
open PySem TL
inductive Tr : Nat → D → Prop
  | int {d : Nat} (i : Int) : Tr d (.int i)
  | bool {d : Nat} (c : Bool) : Tr d (.bool c)
  | str {d : Nat} {s : Str} : PyData.strOk s = true → Tr d (.str s)
  | none {d : Nat} : Tr d .none
  | tup {d : Nat} {ds : List D} : ds.length ≤ 1000 → (∀ x ∈ ds, Tr d x) → Tr (d + 1) (.tuple ds)
  | lst {d : Nat} {ds : List D} : ds.length ≤ 1000 → (∀ x ∈ ds, Tr d x) → Tr (d + 1) (.list ds)
section
variable {cs : List Nat} (h1 : 1 ≤ cs.length) (h8 : cs.length ≤ 8) (hc : ∀ c ∈ cs, c ∈ [97, 98, 99, 45])
include h1 h8 hc
end
end LB

set_option Elab.async false
set_option linter.all false
set_option maxRecDepth 100000
namespace LB
open PySem TL
def fc : Nat → D → Nat
  | 0, _ => 0
  | n + 1, f => (ownI f).length + ((prts f).map (fc n)).sum
structure Pz (top : Int) (e d : Nat) (f g : D) : Prop where
  fm : IsFm top six e g
  pu : ∀ N, e < N → m__law_pushed N [g] = some (.bool true)
  dp : ∀ N M, e < N → d < M → dpt N g ≤ dpt M f
  ct : ∀ N M, e < N → d < M → fc N g ≤ fc M f
  fr : ∀ N M, e < N → d < M → ∀ x ∈ fv N g, x ∈ fv M f
theorem Pz.mono {top : Int} {e e' d : Nat} {f g : D} (h : Pz top e d f g) (he : e ≤ e') : Pz top e' d f g :=
  ⟨h.fm.mono (fun w h => h) he, fun N hN => h.pu N (by omega), fun N M hN hM => h.dp N M (by omega) hM, fun N M hN hM => h.ct N M (by omega) hM, fun N M hN hM => h.fr N M (by omega) hM⟩
end LB

set_option Elab.async false
set_option linter.all false
set_option maxRecDepth 100000
namespace LB
open PySem TL
theorem ext_go {i : Nat} {a : SE} {env : TL.Env} {ds es : List D} (h1 : a env = some (.list es)) (h2 : env.getD i none = some (.list ds)) (h3 : ds.length + es.length ≤ 1000000) : sExt i a env = some (.nx (env.set i (some (.list (ds ++ es))))) := by
  simp only [sExt, h1, Option.bind_some, h2]
  rw [if_pos (small h3)]
theorem nnD_list {o : Option D} {ds : List D} (h : o = some (.list ds)) : nnD o = some (.list ds) := by rw [h]; rfl
def nl : Nat → D → List Int
  | 0, _ => []
  | n + 1, f => (ownI f ++ bndI f) ++ (prts f).flatMap (nl n)
end LB

set_option Elab.async false
set_option linter.all false
set_option maxRecDepth 100000
namespace LB
open PySem TL
end LB

set_option Elab.async false
set_option linter.all false
set_option maxRecDepth 100000
namespace LB
open PySem TL
theorem lst1_go {a : SE} {env : TL.Env} {x : D} (h : a env = some x) : eLst [a] env = some (.list [x]) := by
  simp only [eLst, eArgs, h, Option.bind_some, Option.map_some, List.length_cons, List.length_nil]
  rw [if_pos (small (by decide))]
def rowW (vs : List Int) : Row := vs.map some ++ List.replicate (6 - vs.length) none
section
variable {w : Wd} (hw1 : 0 ≤ w.n) (hw2 : w.n ≤ 1000) {B : Nat} {top : Int} {W : List Str} {d : Nat} {f : D} (h : IsFmB B top W d f) (ht : top ≤ 6) {vs : List Int} (h6 : vs.length ≤ 6) (hc : Cv (rowW vs) (fv 60 f))
include hw1 hw2 h ht h6 hc
end
def Ag (vs us l : List Int) : Prop := ∀ x ∈ l, vs.getD x.toNat 0 = us.getD x.toNat 0
theorem getD_set2 {vs : List Int} {x y : Nat} {a : Int} (h : x < vs.length) : (vs.set x a).getD y 0 = if x = y then a else vs.getD y 0 := by
  rw [List.getD_eq_getElem?_getD, List.getD_eq_getElem?_getD]
  by_cases e : x = y
  · subst e
    rw [List.getElem?_set_self h, if_pos rfl]
    rfl
  · rw [List.getElem?_set_ne e, if_neg e]
theorem Ag.set {vs us l l' : List Int} {x a : Int} (hx : x.toNat < vs.length) (hu : x.toNat < us.length) (h : Ag vs us l) (hl : ∀ y ∈ l', y ∈ l ∨ y = x) : Ag (vs.set x.toNat a) (us.set x.toNat a) l' := fun y hy => by
  rw [getD_set2 hx, getD_set2 hu]
  split
  · rfl
  · rename_i e
    rcases hl y hy with q | q
    · exact h y q
    · exact absurd (by rw [q]) e
end LB

set_option Elab.async false
set_option linter.all false
set_option maxRecDepth 100000
namespace LB
open PySem TL
end LB

set_option Elab.async false
set_option linter.all false
set_option maxRecDepth 100000
namespace LB
open PySem TL
def lx (t u : List Int) : Bool := lexL (fun a b : Int => decide (a < b)) t u
section
variable {w : Wd} (hw1 : 0 ≤ w.n) (hw2 : w.n ≤ 1000) {top : Int} {W : List Str} {d : Nat} {f : D} (h : IsFm top W d f) (ht : top ≤ 6) {k : Nat} (h6 : k ≤ 6) (hd : d < 20) (hs : ∀ j, j ≤ k → w.n.toNat ^ j ≤ 1000000) (hc : ∀ x ∈ fv 60 f, 0 ≤ x ∧ x < (k : Int))
include hw1 hw2 h ht h6 hd hs hc
end
end LB

set_option Elab.async false
set_option linter.all false
set_option maxRecDepth 100000
namespace LB
open PySem TL
theorem erase_perm {α : Type} : ∀ {l : List α} {i : Nat} (h : i < l.length), (l[i] :: l.eraseIdx i).Perm l
  | a :: l, 0, _ => List.Perm.refl _
  | a :: l, i + 1, h => by
    have := erase_perm (l := l) (i := i) (by simpa using h)
    rw [List.getElem_cons_succ, List.eraseIdx_cons_succ]
    exact (List.Perm.swap _ _ _).trans (this.cons a)
theorem erase_map {α β : Type} (f : α → β) : ∀ (l : List α) (i : Nat), (l.map f).eraseIdx i = (l.eraseIdx i).map f
  | [], _ => rfl
  | a :: l, 0 => rfl
  | a :: l, i + 1 => by
    rw [List.map_cons, List.eraseIdx_cons_succ, List.eraseIdx_cons_succ, List.map_cons, erase_map f l i]
theorem pop_ok {l : List Int} {i : Nat} (h : i < l.length) (hi : i ≤ 1000000) : popD (l.map .int) (i : Int) = some (.int l[i], (l.eraseIdx i).map .int) := by
  unfold popD
  have h1 : Nat.ble (i : Int).natAbs 1000000000 = true := Nat.ble_eq_true_of_le (by omega)
  have h2 : seqIndex? (i : Int) (l.map PyData.int).length = some i := by
    rw [List.length_map]
    unfold seqIndex?
    have a : ¬ (i : Int) < 0 := by omega
    have b : (0 : Int) ≤ i := by omega
    have c : (i : Int) < (l.length : Int) := by omega
    simp only [a, if_false, b, c, decide_true, Bool.and_self, if_true, Int.toNat_natCast]
  rw [if_pos h1, h2, Option.bind_some, List.getElem?_map, List.getElem?_eq_getElem h, Option.map_some, Option.map_some, erase_map]
theorem names_ok (rs : List Int) (hl : 0 < rs.length) (hr : ∀ r ∈ rs, 0 ≤ r ∧ r < 4096) (at_ : Int) (h0 : 0 ≤ at_) (n : Int) (n0 : 0 ≤ n) (n1 : n ≤ 1000) :
    ∃ ps : List Int, m__law_names [.list (rs.map .int), .int at_, .int n] = some (tI ps) ∧ ps.Perm (rangeI 0 n.toNat) := by
  let E := fun (l f : List Int) (k : Option D) => [some (PyData.list (rs.map .int)), some (.int at_), some (.int n), some (.list (l.map .int)), some (tI f), k]
  have hrng : rangeD 0 n = some ((rangeI 0 n.toNat).map .int) := rng_0 n0 (by omega)
  obtain ⟨e, he, l, f, k, rfl, hp, hf⟩ := for_range (g := TL.gName 5) (body := (sPopAdd 4 3 (e2 modD (e1 intD (e2 ixD (eVar 0) (e2 modD (e2 addD (eVar 1) (eVar 5)) (e1 lenD (eVar 0))))) (e1 lenD (eVar 3)))))
    (fun a env => ∃ (l f : List Int) (k : Option D), env = E l f k ∧ (f ++ l).Perm (rangeI 0 n.toNat) ∧ (f.length : Int) = a) (lo := 0) (n := n.toNat) (env := E (rangeI 0 n.toNat) [] none) ⟨_, _, _, rfl, List.Perm.refl _, rfl⟩ (by
      rintro a env a0 a1 ⟨l, f, k, rfl, hp, hf⟩
      have hlen := hp.length_eq
      rw [List.length_append, rangeI_len] at hlen
      have hl0 : 0 < l.length := by omega
      have q0 : 0 ≤ (at_ + a) % (rs.length : Int) := Int.emod_nonneg _ (by omega)
      have q1 : (at_ + a) % (rs.length : Int) < rs.length := Int.emod_lt_of_pos _ (by omega)
      have hix := ix_ints q0 q1
      have hmem := hr _ (TL.getD_mem (rs := rs) (i := ((at_ + a) % (rs.length : Int)).toNat) (by omega))
      generalize rs.getD ((at_ + a) % (rs.length : Int)).toNat 0 = v at hix hmem
      have i0 : 0 ≤ v % (l.length : Int) := Int.emod_nonneg _ (by omega)
      have i1 : v % (l.length : Int) < l.length := Int.emod_lt_of_pos _ (by omega)
      obtain ⟨i, hi⟩ : ∃ i : Nat, v % (l.length : Int) = (i : Int) := ⟨(v % (l.length : Int)).toNat, by omega⟩
      have hil : i < l.length := by omega
      have hev : (e2 modD (e1 intD (e2 ixD (eVar 0) (e2 modD (e2 addD (eVar 1) (eVar 5)) (e1 lenD (eVar 0))))) (e1 lenD (eVar 3))) (E l f (some (.int a))) = some (.int (i : Int)) := by
        refine e2_go (e1_go (e2_go rfl (e2_go (r := some (.int ((at_ + a) % (rs.length : Int)))) (e2_go rfl rfl (add_i _ _)) (e1_go rfl (len_l _)) ?_) hix) (int_i _)) (e1_go rfl (len_l _)) ?_
        · rw [List.length_map]
          exact mod_n (by omega)
        · rw [List.length_map, mod_n (by omega), hi]
      refine ⟨E l f (some (.int a)), rfl, E (l.eraseIdx i) (f ++ [l[i]]) (some (.int a)), .inl ?_, _, _, _, rfl, ?_, ?_⟩
      · simp only [sPopAdd]
        rw [show (E l f (some (.int a))).getD 4 none = some (.tuple (f.map .int)) from rfl, show (E l f (some (.int a))).getD 3 none = some (.list (l.map .int)) from rfl, hev]
        simp only [Option.bind_some, toI, pop_ok hil (by omega)]
        rw [if_pos (small (by rw [List.length_map]; omega))]
        simp only [E, tI, List.map_append, List.map_cons, List.map_nil]
        rfl
      · refine List.Perm.trans ?_ hp
        rw [List.append_assoc]
        exact (erase_perm hil).append_left f
      · rw [List.length_append, List.length_singleton]
        omega)
  refine ⟨f, run_rt rfl (seq_go (e := [some (PyData.list (rs.map .int)), some (.int at_), some (.int n), some (.list ((rangeI 0 n.toNat).map .int)), none, none]) (asg_go ?_) (seq_go (e := E (rangeI 0 n.toNat) [] none) (asg_go rfl) (seq_go (for_go (ds := (rangeI 0 n.toNat).map .int) ?_ he) (ret_go rfl)))), ?_⟩
  · simp only [eRngL]
    show (Option.bind (some (PyData.int n)) _) = _
    simp only [Option.bind_some, toI, hrng, Option.map_some]
  · simp only [iRng1]
    show (Option.bind (some (PyData.int n)) _) = _
    simp only [Option.bind_some, toI, hrng]
  · have hlen := hp.length_eq
    rw [List.length_append, rangeI_len] at hlen
    have : l = [] := List.eq_nil_of_length_eq_zero (by omega)
    rw [this, List.append_nil] at hp
    exact hp
theorem ix_tI {ps : List Int} {i : Int} (h0 : 0 ≤ i) (h : i < ps.length) : ixD (tI ps) (.int i) = some (.int (ps.getD i.toNat 0)) := by
  refine ix_ti h0 ?_
  have h' : i.toNat < ps.length := by omega
  rw [List.getElem?_map, List.getD_eq_getElem?_getD, List.getElem?_eq_getElem h']
  rfl
theorem asc1_of {n : Int} {l : List Int} (hn : l.Nodup) (hr : ∀ a ∈ l, 0 ≤ a ∧ a < n) : Asc1 n (isort ltI l) :=
  ⟨(isort_lt swoI antiI hn).imp fun h => of_decide_eq_true h, fun a ha => hr a ((isort_perm l).mem_iff.mp ha)⟩
def nmI (ps : List Int) (a : Int) : Int := ps.getD a.toNat 0
theorem nm_rng {ps : List Int} {n : Int} (n0 : 0 ≤ n) (hp : ps.Perm (rangeI 0 n.toNat)) {a : Int} (h0 : 0 ≤ a) (h1 : a < n) : 0 ≤ nmI ps a ∧ nmI ps a < n := by
  have hlen := hp.length_eq
  rw [rangeI_len] at hlen
  have := rangeI_mem.mp (hp.mem_iff.mp (TL.getD_mem (rs := ps) (i := a.toNat) (by omega)))
  unfold nmI
  omega
theorem nm_inj {ps : List Int} {n : Int} (n0 : 0 ≤ n) (hp : ps.Perm (rangeI 0 n.toNat)) {a b : Int} (a0 : 0 ≤ a) (a1 : a < n) (b0 : 0 ≤ b) (b1 : b < n) (e : nmI ps a = nmI ps b) : a = b := by
  have hlen := hp.length_eq
  rw [rangeI_len] at hlen
  have nd : ps.Nodup := hp.symm.nodup ((rangeI_asc 0 n.toNat).imp fun h e => by omega)
  unfold nmI at e
  have ha : a.toNat < ps.length := by omega
  have hb : b.toNat < ps.length := by omega
  rw [List.getD_eq_getElem?_getD, List.getElem?_eq_getElem ha, List.getD_eq_getElem?_getD, List.getElem?_eq_getElem hb] at e
  have e : ps[a.toNat] = ps[b.toNat] := e
  rcases Nat.lt_trichotomy a.toNat b.toNat with h | h | h
  · exact absurd e (List.pairwise_iff_getElem.mp nd _ _ ha hb h)
  · omega
  · exact absurd e.symm (List.pairwise_iff_getElem.mp nd _ _ hb ha h)
def Wd.ren (w : Wd) (ps : List Int) : Wd := ⟨w.n, isort ltI (w.m0.map (nmI ps)), isort ltI (w.m1.map (nmI ps)), isort ltPr (w.ar.map fun p => (nmI ps p.1, nmI ps p.2))⟩
theorem map_nodup {α β : Type} {f : α → β} : ∀ {l : List α}, (∀ a ∈ l, ∀ b ∈ l, f a = f b → a = b) → l.Nodup → (l.map f).Nodup
  | [], _, _ => List.nodup_nil
  | a :: l, h, hn => by
    have hn := List.nodup_cons.mp hn
    refine List.nodup_cons.mpr ⟨fun hm => ?_, map_nodup (fun x hx y hy => h x (List.mem_cons_of_mem _ hx) y (List.mem_cons_of_mem _ hy)) hn.2⟩
    obtain ⟨b, hb, e⟩ := List.mem_map.mp hm
    have := h b (List.mem_cons_of_mem _ hb) a List.mem_cons_self e
    exact hn.1 (this ▸ hb)
theorem Wd.ren_ok {w : Wd} (ok : w.Ok) {ps : List Int} (hp : ps.Perm (rangeI 0 w.n.toNat)) : (w.ren ps).Ok := by
  have lo := ok.lo
  have hi := ok.hi
  have one : ∀ l : List Int, Asc1 w.n l → Asc1 w.n (isort ltI (l.map (nmI ps))) := fun l h => asc1_of (map_nodup (fun a ha b hb e => nm_inj (by omega) hp (h.rng a ha).1 (h.rng a ha).2 (h.rng b hb).1 (h.rng b hb).2 e) (h.asc.imp fun h e => by omega)) fun x hx => by
    obtain ⟨a, ha, rfl⟩ := List.mem_map.mp hx
    exact nm_rng (by omega) hp (h.rng a ha).1 (h.rng a ha).2
  refine ⟨lo, hi, one _ ok.a0, one _ ok.a1, asc2_of (map_nodup (fun p hp1 q hq e => ?_) ok.ar.nodup) fun x hx => ?_⟩
  · have r1 := ok.ar.rng p hp1
    have r2 := ok.ar.rng q hq
    have e1 := nm_inj (by omega) hp r1.1 r1.2.1 r2.1 r2.2.1 (Prod.mk.inj e).1
    have e2 := nm_inj (by omega) hp r1.2.2.1 r1.2.2.2 r2.2.2.1 r2.2.2.2 (Prod.mk.inj e).2
    exact Prod.ext e1 e2
  · obtain ⟨p, hp1, rfl⟩ := List.mem_map.mp hx
    have r1 := ok.ar.rng p hp1
    have a := nm_rng (by omega) hp r1.1 r1.2.1
    have b := nm_rng (by omega) hp r1.2.2.1 r1.2.2.2
    exact ⟨a.1, a.2, b.1, b.2⟩
theorem renamed_ok {w : Wd} (ok : w.Ok) {ps : List Int} (hp : ps.Perm (rangeI 0 w.n.toNat)) : m__law_renamed [w.d, tI ps] = some (w.ren ps).d := by
  have hlen := hp.length_eq
  rw [rangeI_len] at hlen
  have lo := ok.lo
  have w0 : ixD w.d (.int 0) = some (.int w.n) := rfl
  have w1 : ixD w.d (.int 1) = some (.tuple [tI w.m0, tI w.m1]) := rfl
  have w2 : ixD w.d (.int 2) = some (tP w.ar) := rfl
  have mk : ∀ l : List Int, Asc1 w.n l → (e1 tupleD (e1 sortedD (eLc [4] (iSeq (eVar 3)) (TL.gName 4) cYes (e2 ixD (eVar 1) (eVar 4))))) [some w.d, some (tI ps), none, some (tI l), none, none] = some (tI (isort ltI (l.map (nmI ps)))) := fun l h => by
    refine e1_go (e1_go (lc_go (ds := l.map .int) rfl (lc_map .int .int (nmI ps) fun a ha => ⟨_, rfl, e2_go rfl rfl (ix_tI (h.rng a ha).1 (by have := (h.rng a ha).2; omega))⟩)) (sorted_ints _)) rfl
  have ml : eLc [3] (iSeq (e2 ixD (eVar 0) (eC (.int 1)))) (TL.gName 3) cYes (e1 tupleD (e1 sortedD (eLc [4] (iSeq (eVar 3)) (TL.gName 4) cYes (e2 ixD (eVar 1) (eVar 4))))) [some w.d, some (tI ps), none, none, none, none] = some (.list [tI (isort ltI (w.m0.map (nmI ps))), tI (isort ltI (w.m1.map (nmI ps)))]) := by
    refine lc_go (ds := [tI w.m0, tI w.m1]) rfl ?_
    simp only [lcGo, TL.gName, wipeE, List.set_cons_zero, List.set_cons_succ, Option.bind_some, cYes, if_true, mk w.m0 ok.a0, mk w.m1 ok.a1, Option.map_some]
  refine run_rt rfl (seq_go (e := [some w.d, some (tI ps), some (.tuple [tI (isort ltI (w.m0.map (nmI ps))), tI (isort ltI (w.m1.map (nmI ps)))]), none, none, none]) (asg_go (e1_go ml rfl)) (ret_go ?_))
  have al : (e1 tupleD (e1 sortedD (eLc [4, 5] (iSeq (e2 ixD (eVar 0) (eC (.int 2)))) (TL.gTup [(TL.gName 4), (TL.gName 5)]) cYes (eTup [(e2 ixD (eVar 1) (eVar 4)), (e2 ixD (eVar 1) (eVar 5))])))) [some w.d, some (tI ps), some (.tuple [tI (isort ltI (w.m0.map (nmI ps))), tI (isort ltI (w.m1.map (nmI ps)))]), none, none, none] = some (tP (isort ltPr (w.ar.map fun p => (nmI ps p.1, nmI ps p.2)))) := by
    refine e1_go (e1_go (lc_go (ds := w.ar.map prD) rfl (lc_map prD prD (fun p => (nmI ps p.1, nmI ps p.2)) fun p hp1 => ⟨_, rfl, ?_⟩)) (sorted_prs _)) rfl
    have r1 := ok.ar.rng p hp1
    simp only [eTup, eArgs]
    rw [e2_go rfl rfl (ix_tI r1.1 (by omega)), e2_go rfl rfl (ix_tI r1.2.2.1 (by omega))]
    simp only [Option.bind_some, Option.map_some, List.length_cons, List.length_nil]
    rw [if_pos (small (by decide))]
    rfl
  simp only [eTup, eArgs]
  rw [al, e2_go rfl rfl w0]
  simp only [Option.bind_some, Option.map_some, eVar, List.getD_cons_zero, List.getD_cons_succ, List.length_cons, List.length_nil]
  rw [if_pos (small (by decide))]
  rfl
end LB

set_option Elab.async false
set_option linter.all false
set_option maxRecDepth 100000
namespace LB
open PySem TL
theorem asc1_filter {n : Int} {l : List Int} (h : Asc1 n l) (p : Int → Bool) : Asc1 n (l.filter p) := ⟨h.asc.filter _, fun a ha => h.rng a (List.mem_filter.mp ha).1⟩
theorem asc2_filter {n : Int} {l : List (Int × Int)} (h : Asc2 n l) (p : Int × Int → Bool) : Asc2 n (l.filter p) := ⟨h.asc.filter _, fun a ha => h.rng a (List.mem_filter.mp ha).1⟩
theorem ne_pr (p q : Int × Int) : neD (prD p) (prD q) = some (.bool (!decide (p = q))) := by
  unfold neD
  rw [if_pos ⟨shaped_pr p, shaped_pr q⟩, eqv_pr]
def spec2 (k : Int) : Wd × Wd := match k.toNat with
  | 0 => (special 0, special 1)
  | 1 => (⟨2, [], [], [(0, 1)]⟩, special 0)
  | 2 => (special 5, special 6)
  | 3 => (special 2, special 3)
  | _ => (special 3, special 1)
theorem spec2_wd (k : Int) : (spec2 k).1.Ok ∧ (spec2 k).2.Ok := by
  have hs := special_wd
  have h1 : (⟨2, [], [], [(0, 1)]⟩ : Wd).Ok := ⟨by decide, by decide, ⟨List.Pairwise.nil, fun a h => (by cases h)⟩, ⟨List.Pairwise.nil, fun a h => (by cases h)⟩, ⟨by simp, fun p hp => by
    rw [List.mem_singleton.mp hp]; decide⟩⟩
  unfold spec2
  split
  · exact ⟨hs 0, hs 1⟩
  · exact ⟨h1, hs 0⟩
  · exact ⟨hs 5, hs 6⟩
  · exact ⟨hs 2, hs 3⟩
  · exact ⟨hs 3, hs 1⟩
theorem sortedT_ints (ns : List Int) : sortedD (.tuple (ns.map .int)) = some (.list ((isort ltI ns).map .int)) := sorted_ints ns
theorem sortedT_prs (ps : List (Int × Int)) : sortedD (.tuple (ps.map prD)) = some (.list ((isort ltPr ps).map prD)) := sorted_prs ps
theorem tup2D {a b : SE} {env : TL.Env} {x y : D} (h1 : a env = some x) (h2 : b env = some y) : eTup [a, b] env = some (.tuple [x, y]) := by
  simp only [eTup, eArgs, h1, h2, Option.bind_some, Option.map_some, List.length_cons, List.length_nil]
  rw [if_pos (small (by decide))]
theorem tup3D {a b c : SE} {env : TL.Env} {x y z : D} (h1 : a env = some x) (h2 : b env = some y) (h3 : c env = some z) : eTup [a, b, c] env = some (.tuple [x, y, z]) := by
  simp only [eTup, eArgs, h1, h2, h3, Option.bind_some, Option.map_some, List.length_cons, List.length_nil]
  rw [if_pos (small (by decide))]
theorem call2D {m : List D → Option D} {a b : SE} {env : TL.Env} {x y : D} {o : Option D} (h1 : a env = some x) (h2 : b env = some y) (h4 : m [x, y] = o) : eCall m [a, b] env = o := by
  simp only [eCall, eArgs, h1, h2, Option.bind_some, Option.map_some]
  exact h4
theorem call3D {m : List D → Option D} {a b c : SE} {env : TL.Env} {x y z : D} {o : Option D} (h1 : a env = some x) (h2 : b env = some y) (h3 : c env = some z) (h4 : m [x, y, z] = o) : eCall m [a, b, c] env = o := by
  simp only [eCall, eArgs, h1, h2, h3, Option.bind_some, Option.map_some]
  exact h4
theorem tVD {a : SE} {env : TL.Env} {b : Bool} (h : a env = some (.bool b)) : tV a env = some b := by
  simp only [tV, h, Option.bind_some, toB]
theorem pair_ok2 (rs : List Int) (hl : 20 ≤ rs.length) (hl2 : rs.length ≤ 1000) (hr : ∀ r ∈ rs, 0 ≤ r ∧ r < 4096) (most : Int) (h1 : 1 ≤ most) (h8 : most ≤ 8) :
    ∃ w u : Wd, m__law_pair [.list (rs.map .int), .int most] = some (.tuple [w.d, u.d]) ∧ w.Ok ∧ u.Ok ∧ w.n ≤ most ∧ u.n ≤ most := by
  obtain ⟨w, hw, ok, hwn⟩ := world_ok rs (by omega) hl2 hr most h1 h8
  have lo := ok.lo
  let R : D := .list (rs.map .int)
  have dk : ∀ {env : TL.Env} {k : Int}, env.getD 0 none = some R → 1 ≤ k → k ≤ rs.length → ∃ v, (e1 intD (e2 ixD (eVar 0) (e2 subD (e1 lenD (eVar 0)) (eC (.int k))))) env = some (.int v) ∧ 0 ≤ v ∧ v < 4096 := fun {env k} he k1 k2 => by
    refine ⟨rs.getD ((rs.length : Int) - k).toNat 0, e1_go (e2_go he (e2_go (r := some (.int ((rs.length : Int) - k))) (e1_go he (len_l _)) rfl (by rw [List.length_map]; rfl)) (ix_ints (by omega) (by omega))) (int_i _), ?_⟩
    exact hr _ (TL.getD_mem (by omega))
  have w0 : ixD w.d (.int 0) = some (.int w.n) := rfl
  obtain ⟨v, hv, v0, v1⟩ := dk (env := [some R, some (.int most), some w.d, some (.int w.n), none, none, none, none, none, none, none]) (k := 1) rfl (by decide) (by omega)
  obtain ⟨way, hway⟩ : ∃ way, v % 8 = way := ⟨_, rfl⟩
  have way0 : 0 ≤ way ∧ way < 8 := by omega
  let E := fun (e5 e6 e7 e8 e9 e10 : Option D) => [some R, some (.int most), some w.d, some (.int w.n), some (.int way), e5, e6, e7, e8, e9, e10]
  have eqw : ∀ {k : Int} {q : Bool} {e5 e6 e7 e8 e9 e10}, decide (way = k) = q → tV (e2 eqD (eVar 4) (eC (.int k))) (E e5 e6 e7 e8 e9 e10) = some q := fun hq => hq ▸ tVD (e2_go rfl rfl (eq_i _ _))
  have ltw : ∀ {k : Int} {q : Bool} {e5 e6 e7 e8 e9 e10}, decide (way < k) = q → tV (e2 ltD (eVar 4) (eC (.int k))) (E e5 e6 e7 e8 e9 e10) = some q := fun hq => hq ▸ tVD (e2_go rfl rfl (lt_i _ _))
  suffices h : ∃ u : Wd, u.Ok ∧ ∃ x : Wd, x.Ok ∧ (x.n ≤ most ∧ u.n ≤ most) ∧ _ = some (Out.rt (.tuple [x.d, u.d])) from by
    obtain ⟨u, hu, x, hx, hxn, hh⟩ := h
    exact ⟨x, u, run_rt rfl (seq_go (e := [some R, some (.int most), some w.d, none, none, none, none, none, none, none, none]) (asg_go (call2D rfl rfl hw)) (seq_go (e := [some R, some (.int most), some w.d, some (.int w.n), none, none, none, none, none, none, none]) (asg_go (e2_go rfl rfl w0)) (seq_go (e := E none none none none none none) (asg_go (e2_go hv rfl (by rw [mod_n (by decide), hway]))) hh))), hx, hu, hxn⟩
  cases c0 : decide (way = 0) with
  | true =>
    have hcut : cutT (rs.map PyData.int) (some 7) none = (rs.drop 7).map .int := by
      unfold cutT
      rw [List.length_map, show (some (7 : Int)) = some ((7 : Nat) : Int) from rfl, HT.sIx_nat, HT.sIx_none, Nat.min_eq_left (by omega), List.map_drop]
      exact List.take_of_length_le (by rw [List.length_drop, List.length_map]; omega)
    obtain ⟨u, hu, oku, hun⟩ := world_ok (rs.drop 7) (by rw [List.length_drop]; omega) (by rw [List.length_drop]; omega) (fun r hr' => hr r (List.mem_of_mem_drop hr')) most h1 h8
    refine ⟨u, oku, w, ok, ⟨hwn, hun⟩, seq_rt (if_t (eqw c0) (ret_go (tup2D rfl (call2D (x := .list ((rs.drop 7).map .int)) ?_ rfl hu))))⟩
    simp only [eSlice, ePart]
    show (Option.bind (some R) _) = _
    simp only [Option.bind_some, eC, toI, Option.map_some, cutD, R, hcut]
  | false =>
  suffices h : ∃ u : Wd, u.Ok ∧ ∃ x : Wd, x.Ok ∧ (x.n ≤ most ∧ u.n ≤ most) ∧ _ = some (Out.rt (.tuple [x.d, u.d])) from by
    obtain ⟨u, hu, x, hx, hxn, hh⟩ := h
    exact ⟨u, hu, x, hx, hxn, seq_go (if_f (eqw c0) rfl) hh⟩
  -- the rest behind the second if, at any rows and pair
  have rest : ∀ e8 e9 : Option D, ∃ u : Wd, u.Ok ∧ ∃ x : Wd, x.Ok ∧ (x.n ≤ most ∧ u.n ≤ most) ∧ (sSeq (sAsg (eCall m__law_renamed [(eVar 2), (eCall m__law_names [(eVar 0), (e2 subD (e1 lenD (eVar 0)) (eC (.int 12))), (eVar 3)])]) (TL.gName 5))
      (sSeq (sIf (tV (e2 ltD (eVar 4) (eC (.int 4))))
      (sRet (eTup [(eVar 2), (eVar 5)]))
      sNext)
      (sSeq (sAsg (e2 modD (e1 intD (e2 ixD (eVar 0) (e2 subD (e1 lenD (eVar 0)) (eC (.int 3))))) (eVar 3)) (TL.gName 6))
      (sSeq (sAsg (e2 modD (e1 intD (e2 ixD (eVar 0) (e2 subD (e1 lenD (eVar 0)) (eC (.int 4))))) (eVar 3)) (TL.gName 7))
      (sSeq (sIf (tV (e2 ltD (eVar 4) (eC (.int 7))))
      (sSeq (sIf (tV (e2 inD (eTup [(eVar 6), (eVar 7)]) (e2 ixD (eVar 5) (eC (.int 2)))))
      (sRet (eTup [(eVar 2), (eTup [(eVar 3), (e2 ixD (eVar 5) (eC (.int 1))), (e1 tupleD (eLc [9] (iSeq (e2 ixD (eVar 5) (eC (.int 2)))) (TL.gName 9) (tV (e2 neD (eVar 9) (eTup [(eVar 6), (eVar 7)]))) (eVar 9)))])]))
      sNext)
      (sRet (eTup [(eVar 2), (eTup [(eVar 3), (e2 ixD (eVar 5) (eC (.int 1))), (e1 tupleD (e1 sortedD (e2 addD (e2 ixD (eVar 5) (eC (.int 2))) (eTup [(eTup [(eVar 6), (eVar 7)])]))))])])))
      sNext)
      (sSeq (sIf (tV (e2 inD (eVar 6) (e2 ixD (e2 ixD (eVar 5) (eC (.int 1))) (eC (.int 0)))))
      (sRet (eTup [(eVar 2), (eTup [(eVar 3), (eTup [(e1 tupleD (eLc [10] (iSeq (e2 ixD (e2 ixD (eVar 5) (eC (.int 1))) (eC (.int 0)))) (TL.gName 10) (tV (e2 neD (eVar 10) (eVar 6))) (eVar 10))), (e2 ixD (e2 ixD (eVar 5) (eC (.int 1))) (eC (.int 1)))]), (e2 ixD (eVar 5) (eC (.int 2)))])]))
      sNext)
      (sRet (eTup [(eVar 2), (eTup [(eVar 3), (eTup [(e1 tupleD (e1 sortedD (e2 addD (e2 ixD (e2 ixD (eVar 5) (eC (.int 1))) (eC (.int 0))) (eTup [(eVar 6)])))), (e2 ixD (e2 ixD (eVar 5) (eC (.int 1))) (eC (.int 1)))]), (e2 ixD (eVar 5) (eC (.int 2)))])]))))))))
      (E none none none e8 e9 none) = some (Out.rt (.tuple [x.d, u.d])) := by
    intro e8 e9
    obtain ⟨ps, hps, pp⟩ := names_ok rs (by omega) hr ((rs.length : Int) - 12) (by omega) w.n (by omega) (by have := ok.hi; omega)
    have hu := renamed_ok ok pp
    have oku := Wd.ren_ok ok pp
    have hun : (w.ren ps).n = w.n := rfl
    generalize w.ren ps = u at hu oku hun
    have u1 : ixD u.d (.int 1) = some (.tuple [tI u.m0, tI u.m1]) := rfl
    have u2 : ixD u.d (.int 2) = some (tP u.ar) := rfl
    have u10 : ixD (.tuple [tI u.m0, tI u.m1]) (.int 0) = some (tI u.m0) := rfl
    have u11 : ixD (.tuple [tI u.m0, tI u.m1]) (.int 1) = some (tI u.m1) := rfl
    suffices h : ∃ u' : Wd, (u'.Ok ∧ u'.n = u.n) ∧ _ = some (Out.rt (.tuple [w.d, u'.d])) from by
      obtain ⟨u', ⟨h1, h3⟩, h2⟩ := h
      exact ⟨u', h1, w, ok, ⟨hwn, by omega⟩, seq_go (e := E (some u.d) none none e8 e9 none) (asg_go (call2D rfl (call3D rfl (e2_go (e1_go rfl (len_l _)) rfl (by rw [List.length_map]; rfl)) rfl hps) hu)) h2⟩
    cases c4 : decide (way < 4) with
    | true => exact ⟨u, ⟨oku, rfl⟩, seq_rt (if_t (ltw c4) (ret_go (tup2D rfl rfl)))⟩
    | false =>
    obtain ⟨x3, hx3, _, _⟩ := dk (env := E (some u.d) none none e8 e9 none) (k := 3) rfl (by decide) (by omega)
    have a0 : 0 ≤ x3 % w.n := Int.emod_nonneg _ (by omega)
    have a1 : x3 % w.n < w.n := Int.emod_lt_of_pos _ (by omega)
    have ha : (e2 modD (e1 intD (e2 ixD (eVar 0) (e2 subD (e1 lenD (eVar 0)) (eC (.int 3))))) (eVar 3)) (E (some u.d) none none e8 e9 none) = some (.int (x3 % w.n)) := e2_go hx3 rfl (mod_n (by omega))
    generalize x3 % w.n = a at a0 a1 ha
    obtain ⟨x4, hx4, _, _⟩ := dk (env := E (some u.d) (some (.int a)) none e8 e9 none) (k := 4) rfl (by decide) (by omega)
    have b0 : 0 ≤ x4 % w.n := Int.emod_nonneg _ (by omega)
    have b1 : x4 % w.n < w.n := Int.emod_lt_of_pos _ (by omega)
    have hb : (e2 modD (e1 intD (e2 ixD (eVar 0) (e2 subD (e1 lenD (eVar 0)) (eC (.int 4))))) (eVar 3)) (E (some u.d) (some (.int a)) none e8 e9 none) = some (.int (x4 % w.n)) := e2_go hx4 rfl (mod_n (by omega))
    generalize x4 % w.n = b at b0 b1 hb
    have hla : u.ar.length ≤ 1000 := by
      have hx : ∀ (l : List Int) {lo hi : Int}, l.Pairwise (· < ·) → (∀ a ∈ l, lo ≤ a ∧ a < hi) → lo ≤ hi → (l.length : Int) ≤ hi - lo := by
        intro l
        induction l with
        | nil => intro lo hi _ _ h; simp only [List.length_nil]; omega
        | cons x r ih =>
          intro lo hi hp hr h
          have hp := List.pairwise_cons.mp hp
          have hx := hr x List.mem_cons_self
          have := ih (lo := x + 1) (hi := hi) hp.2 (fun a ha => ⟨by have := hp.1 a ha; omega, (hr a (List.mem_cons_of_mem _ ha)).2⟩) (by omega)
          simp only [List.length_cons]
          omega
      have hi := oku.hi
      have := hx (u.ar.map fun p => 8 * p.1 + p.2) (lo := 0) (hi := 64) (List.pairwise_map.mpr (oku.ar.asc.imp_of_mem fun {a b} ha hb hab => by
        have r1 := oku.ar.rng a ha
        have r2 := oku.ar.rng b hb
        have := SrtO.lexB_iff.mp hab
        omega)) (fun a ha => by
          obtain ⟨p, hp, rfl⟩ := List.mem_map.mp ha
          have := oku.ar.rng p hp
          omega) (by decide)
      rw [List.length_map] at this
      omega
    let G := E (some u.d) (some (.int a)) (some (.int b)) e8 e9 none
    suffices h : ∃ u' : Wd, (u'.Ok ∧ u'.n = u.n) ∧ _ = some (Out.rt (.tuple [w.d, u'.d])) from by
      obtain ⟨u', h1, h2⟩ := h
      exact ⟨u', h1, seq_go (if_f (ltw c4) rfl) (seq_go (e := E (some u.d) (some (.int a)) none e8 e9 none) (asg_go ha) (seq_go (e := G) (asg_go hb) h2))⟩
    cases c7 : decide (way < 7) with
    | true =>
      have hin : tV (e2 inD (eTup [(eVar 6), (eVar 7)]) (e2 ixD (eVar 5) (eC (.int 2)))) G = some (decide ((a, b) ∈ u.ar)) := tVD (e2_go (tup2D rfl rfl) (e2_go rfl rfl u2) (in_tp (a, b) u.ar))
      cases cm : decide ((a, b) ∈ u.ar) with
      | true =>
        rw [cm] at hin
        refine ⟨⟨u.n, u.m0, u.m1, u.ar.filter fun p => !decide (p = (a, b))⟩, ⟨⟨oku.lo, oku.hi, oku.a0, oku.a1, asc2_filter oku.ar _⟩, rfl⟩, seq_rt (if_t (ltw c7) (seq_rt (if_t hin (ret_go (tup2D rfl (tup3D (x := .int u.n) (by rw [hun]; rfl) (e2_go rfl rfl u1) (e1_go (lc_go (ds := u.ar.map prD) ?_ (lc_filter (c := (tV (e2 neD (eVar 9) (eTup [(eVar 6), (eVar 7)])))) prD prD (fun p => !decide (p = (a, b))) id fun p hp => ⟨_, rfl, tVD (e2_go rfl (tup2D rfl rfl) (ne_pr p (a, b))), fun _ => rfl⟩)) (by rw [tuple_l, List.map_id]; rfl)))))))) ⟩
        simp only [iSeq]
        rw [e2_go rfl rfl u2]
        rfl
      | false =>
        rw [cm] at hin
        have hnm := of_decide_eq_false cm
        refine ⟨⟨u.n, u.m0, u.m1, isort ltPr (u.ar ++ [(a, b)])⟩, ⟨⟨oku.lo, oku.hi, oku.a0, oku.a1, asc2_of ?_ ?_⟩, rfl⟩, seq_rt (if_t (ltw c7) (seq_go (if_f hin rfl) (ret_go (tup2D rfl (tup3D (x := .int u.n) (by rw [hun]; rfl) (e2_go rfl rfl u1) (e1_go (e1_go (e2_go (x := tP u.ar) (y := .tuple [prD (a, b)]) (e2_go rfl rfl u2) (tup1_go (tup2D rfl rfl)) (cat_t (small (by simp only [List.length_map, List.length_cons, List.length_nil]; omega)))) ?_) (tuple_l _)))))))⟩
        · rw [List.nodup_append]
          exact ⟨oku.ar.nodup, List.nodup_cons.mpr ⟨by simp, List.nodup_nil⟩, fun p hp q hq e => by
            rw [List.mem_singleton] at hq
            subst e hq
            exact hnm hp⟩
        · intro p hp
          rcases List.mem_append.mp hp with hp | hp
          · exact oku.ar.rng p hp
          · rw [List.mem_singleton] at hp
            subst hp
            exact ⟨a0, by rw [hun]; exact a1, b0, by rw [hun]; exact b1⟩
        · have := sortedT_prs (u.ar ++ [(a, b)])
          rw [List.map_append] at this
          exact this
    | false =>
      have hin : tV (e2 inD (eVar 6) (e2 ixD (e2 ixD (eVar 5) (eC (.int 1))) (eC (.int 0)))) G = some (decide (a ∈ u.m0)) := tVD (e2_go rfl (e2_go (e2_go rfl rfl u1) rfl u10) (in_ti a u.m0))
      have hl0 : u.m0.length ≤ 1000 := by
        have hx : ∀ (l : List Int) {lo hi : Int}, l.Pairwise (· < ·) → (∀ a ∈ l, lo ≤ a ∧ a < hi) → lo ≤ hi → (l.length : Int) ≤ hi - lo := by
          intro l
          induction l with
          | nil => intro lo hi _ _ h; simp only [List.length_nil]; omega
          | cons x r ih =>
            intro lo hi hp hr h
            have hp := List.pairwise_cons.mp hp
            have hx := hr x List.mem_cons_self
            have := ih (lo := x + 1) (hi := hi) hp.2 (fun a ha => ⟨by have := hp.1 a ha; omega, (hr a (List.mem_cons_of_mem _ ha)).2⟩) (by omega)
            simp only [List.length_cons]
            omega
        have := hx u.m0 oku.a0.asc oku.a0.rng (by have := oku.lo; omega)
        have := oku.hi
        omega
      cases cm : decide (a ∈ u.m0) with
      | true =>
        rw [cm] at hin
        refine ⟨⟨u.n, u.m0.filter fun x => !decide (x = a), u.m1, u.ar⟩, ⟨⟨oku.lo, oku.hi, asc1_filter oku.a0 _, oku.a1, oku.ar⟩, rfl⟩, seq_go (if_f (ltw c7) rfl) (seq_rt (if_t hin (ret_go (tup2D rfl (tup3D (x := .int u.n) (by rw [hun]; rfl) (tup2D (e1_go (lc_go (ds := u.m0.map .int) ?_ (lc_filter (c := (tV (e2 neD (eVar 10) (eVar 6)))) PyData.int PyData.int (fun x => !decide (x = a)) id fun x hx => ⟨_, rfl, tVD (e2_go rfl rfl (ne_i x a)), fun _ => rfl⟩)) (by rw [tuple_l, List.map_id]; rfl)) (e2_go (e2_go rfl rfl u1) rfl u11)) (e2_go rfl rfl u2))))))⟩
        simp only [iSeq]
        rw [e2_go (e2_go rfl rfl u1) rfl u10]
        rfl
      | false =>
        rw [cm] at hin
        have hnm := of_decide_eq_false cm
        refine ⟨⟨u.n, isort ltI (u.m0 ++ [a]), u.m1, u.ar⟩, ⟨⟨oku.lo, oku.hi, asc1_of ?_ ?_, oku.a1, oku.ar⟩, rfl⟩, seq_go (if_f (ltw c7) rfl) (seq_go (if_f hin rfl) (ret_go (tup2D rfl (tup3D (x := .int u.n) (by rw [hun]; rfl) (tup2D (e1_go (e1_go (e2_go (x := tI u.m0) (y := .tuple [.int a]) (e2_go (e2_go rfl rfl u1) rfl u10) (tup1_go rfl) (cat_t (small (by simp only [List.length_map, List.length_cons, List.length_nil]; omega)))) ?_) (tuple_l _)) (e2_go (e2_go rfl rfl u1) rfl u11)) (e2_go rfl rfl u2)))))⟩
        · rw [List.nodup_append]
          exact ⟨oku.a0.asc.imp fun h e => by omega, List.nodup_cons.mpr ⟨by simp, List.nodup_nil⟩, fun p hp q hq e => by
            rw [List.mem_singleton] at hq
            subst e hq
            exact hnm hp⟩
        · intro p hp
          rcases List.mem_append.mp hp with hp | hp
          · exact oku.a0.rng p hp
          · rw [List.mem_singleton] at hp
            subst hp
            exact ⟨a0, by rw [hun]; exact a1⟩
        · have := sortedT_ints (u.m0 ++ [a])
          rw [List.map_append] at this
          exact this
  cases c1 : decide (way = 1) with
  | false =>
    obtain ⟨u, hu, x, hx, hxn, hh⟩ := rest none none
    exact ⟨u, hu, x, hx, hxn, seq_go (if_f (eqw c1) rfl) hh⟩
  | true =>
    obtain ⟨y, hy, y0, y1⟩ := dk (env := E none none none (some (.list [.tuple [(spec2 0).1.d, (spec2 0).2.d], .tuple [(spec2 1).1.d, (spec2 1).2.d], .tuple [(spec2 2).1.d, (spec2 2).2.d], .tuple [(spec2 3).1.d, (spec2 3).2.d], .tuple [(spec2 4).1.d, (spec2 4).2.d]])) none none) (k := 2) rfl (by decide) (by omega)
    have z : y % 5 = 0 ∨ y % 5 = 1 ∨ y % 5 = 2 ∨ y % 5 = 3 ∨ y % 5 = 4 := by omega
    have hix : ixD (.list [.tuple [(spec2 0).1.d, (spec2 0).2.d], .tuple [(spec2 1).1.d, (spec2 1).2.d], .tuple [(spec2 2).1.d, (spec2 2).2.d], .tuple [(spec2 3).1.d, (spec2 3).2.d], .tuple [(spec2 4).1.d, (spec2 4).2.d]]) (.int (y % 5)) = some (.tuple [(spec2 (y % 5)).1.d, (spec2 (y % 5)).2.d]) := by
      rcases z with h | h | h | h | h <;> rw [h] <;> rfl
    obtain ⟨ok1, ok2⟩ := spec2_wd (y % 5)
    generalize spec2 (y % 5) = sp at hix ok1 ok2
    obtain ⟨s1, s2⟩ := sp
    let PR : D := .tuple [s1.d, s2.d]
    let RW : D := .list [.tuple [(spec2 0).1.d, (spec2 0).2.d], .tuple [(spec2 1).1.d, (spec2 1).2.d], .tuple [(spec2 2).1.d, (spec2 2).2.d], .tuple [(spec2 3).1.d, (spec2 3).2.d], .tuple [(spec2 4).1.d, (spec2 4).2.d]]
    obtain ⟨mx, hmx⟩ : ∃ mx : Int, mx = (if s2.n > s1.n then s2.n else s1.n) := ⟨_, rfl⟩
    have htst : ∀ {q : Bool}, decide (mx ≤ most) = q → tV (e2 leD (e2 max2D (e2 ixD (e2 ixD (eVar 9) (eC (.int 0))) (eC (.int 0))) (e2 ixD (e2 ixD (eVar 9) (eC (.int 1))) (eC (.int 0)))) (eVar 1)) (E none none none (some RW) (some PR) none) = some q := fun hq => hq ▸ tVD (e2_go (e2_go (e2_go (e2_go (x := PR) rfl rfl rfl) rfl rfl) (e2_go (e2_go (x := PR) rfl rfl rfl) rfl rfl) (by rw [hmx]; rfl)) rfl (le_i _ _))
    have pre : ∀ {o : Option Out}, (sIf (tV (e2 leD (e2 max2D (e2 ixD (e2 ixD (eVar 9) (eC (.int 0))) (eC (.int 0))) (e2 ixD (e2 ixD (eVar 9) (eC (.int 1))) (eC (.int 0)))) (eVar 1))) (sRet (eVar 9)) sNext) (E none none none (some RW) (some PR) none) = o → (sIf (tV (e2 eqD (eVar 4) (eC (.int 1))))
      (sSeq (sAsg (eLst [(eTup [(eCall m__law_line [(eC (.int 3))]), (eCall m__law_line [(eC (.int 4))])]), (eTup [(eCall m__law_line [(eC (.int 2))]), (eCall m__law_line [(eC (.int 3))])]), (eTup [(eTup [(eC (.int 3)), (eTup [(eTup []), (eTup [])]), (eTup [])]), (eTup [(eC (.int 4)), (eTup [(eTup []), (eTup [])]), (eTup [])])]), (eTup [(eCall m__law_ring [(eC (.int 3))]), (eCall m__law_ring [(eC (.int 4))])]), (eTup [(eCall m__law_ring [(eC (.int 4))]), (eCall m__law_line [(eC (.int 4))])])]) (TL.gName 8))
      (sSeq (sAsg (e2 ixD (eVar 8) (e2 modD (e1 intD (e2 ixD (eVar 0) (e2 subD (e1 lenD (eVar 0)) (eC (.int 2))))) (eC (.int 5)))) (TL.gName 9))
      (sIf (tV (e2 leD (e2 max2D (e2 ixD (e2 ixD (eVar 9) (eC (.int 0))) (eC (.int 0))) (e2 ixD (e2 ixD (eVar 9) (eC (.int 1))) (eC (.int 0)))) (eVar 1)))
      (sRet (eVar 9))
      sNext)))
      sNext) (E none none none none none none) = o := fun h => if_t (eqw c1) (seq_go (e := E none none none (some RW) none none) (asg_go (d := RW) (by kernel_rfl)) (seq_go (e := E none none none (some RW) (some PR) none) (asg_go (d := PR) (e2_go rfl (e2_go hy rfl (mod_n (by decide))) hix)) h))
    cases cx : decide (mx ≤ most) with
    | true =>
      have hm := of_decide_eq_true cx
      exact ⟨s2, ok2, s1, ok1, by
        rw [hmx] at hm
        split at hm <;> omega, seq_rt (pre (if_t (htst cx) (ret_go rfl)))⟩
    | false =>
      obtain ⟨u, hu, x, hx, hxn, hh⟩ := rest (some RW) (some PR)
      exact ⟨u, hu, x, hx, hxn, seq_go (pre (if_f (htst cx) rfl)) hh⟩
end LB

set_option Elab.async false
set_option linter.all false
set_option maxRecDepth 100000
namespace LB
open PySem TL
theorem prenamed_ok {w : Wd} (ok : w.Ok) {ps : List Int} (hp : ps.Perm (rangeI 0 w.n.toNat)) : m_renamed [w.d, tI ps] = some (w.ren ps).d := by
  have hlen := hp.length_eq
  rw [rangeI_len] at hlen
  have lo := ok.lo
  let E := fun (e2 e6 e7 e8 : Option D) => [some w.d, some (tI ps), e2, some (.int w.n), some (.tuple [tI w.m0, tI w.m1]), some (tP w.ar), e6, e7, e8]
  have mk : ∀ l : List Int, Asc1 w.n l → (e1 tupleD (e1 sortedD (eLc [7] (iSeq (eVar 6)) (TL.gName 7) cYes (e2 ixD (eVar 1) (eVar 7))))) (E none (some (tI l)) none none) = some (tI (isort ltI (l.map (nmI ps)))) := fun l h => by
    refine e1_go (e1_go (lc_go (ds := l.map .int) rfl (lc_map .int .int (nmI ps) fun a ha => ⟨_, rfl, e2_go rfl rfl (ix_tI (h.rng a ha).1 (by have := (h.rng a ha).2; omega))⟩)) (sorted_ints _)) rfl
  have ml : eLc [6] (iSeq (eVar 4)) (TL.gName 6) cYes (e1 tupleD (e1 sortedD (eLc [7] (iSeq (eVar 6)) (TL.gName 7) cYes (e2 ixD (eVar 1) (eVar 7))))) (E none none none none) = some (.list [tI (isort ltI (w.m0.map (nmI ps))), tI (isort ltI (w.m1.map (nmI ps)))]) := by
    refine lc_go (ds := [tI w.m0, tI w.m1]) rfl ?_
    have m0 := mk w.m0 ok.a0
    have m1 := mk w.m1 ok.a1
    simp only [E] at m0 m1
    simp only [E, lcGo, TL.gName, wipeE, List.set_cons_zero, List.set_cons_succ, Option.bind_some, cYes, if_true, m0, m1, Option.map_some]
  refine run_rt rfl (seq_go (e := E none none none none) rfl (seq_go (e := E (some (.tuple [tI (isort ltI (w.m0.map (nmI ps))), tI (isort ltI (w.m1.map (nmI ps)))])) none none none) (asg_go (e1_go ml rfl)) (ret_go (tup3_go rfl rfl ?_))))
  refine e1_go (e1_go (lc_go (ds := w.ar.map prD) rfl (lc_map prD prD (fun p => (nmI ps p.1, nmI ps p.2)) fun p hp1 => ⟨_, rfl, ?_⟩)) (sorted_prs _)) rfl
  have r1 := ok.ar.rng p hp1
  exact tup2_go (e2_go rfl rfl (ix_tI r1.1 (by omega))) (e2_go rfl rfl (ix_tI r1.2.2.1 (by omega)))
def Wd.trn (w : Wd) : Wd := ⟨w.n, w.m0, w.m1, isort ltPr (w.ar.map fun p => (p.2, p.1))⟩
theorem isort_mem {α : Type} {lt : α → α → Bool} {l : List α} {x : α} : x ∈ isort lt l ↔ x ∈ l := (isort_perm l).mem_iff
section
variable {w : Wd} (ok : w.Ok) {ps : List Int} (hp : ps.Perm (rangeI 0 w.n.toNat))
include ok hp
theorem mem_ren1 {l : List Int} (hl : Asc1 w.n l) {a : Int} (a0 : 0 ≤ a) (a1 : a < w.n) : nmI ps a ∈ isort ltI (l.map (nmI ps)) ↔ a ∈ l := by
  rw [isort_mem]
  refine ⟨fun h => ?_, fun h => List.mem_map_of_mem h⟩
  obtain ⟨b, hb, e⟩ := List.mem_map.mp h
  have := hl.rng b hb
  rw [← nm_inj (by have := ok.lo; omega) hp this.1 this.2 a0 a1 e]
  exact hb
theorem mem_ren2 {a b : Int} (a0 : 0 ≤ a) (a1 : a < w.n) (b0 : 0 ≤ b) (b1 : b < w.n) : (nmI ps a, nmI ps b) ∈ (w.ren ps).ar ↔ (a, b) ∈ w.ar := by
  unfold Wd.ren
  rw [isort_mem]
  refine ⟨fun h => ?_, fun h => List.mem_map.mpr ⟨(a, b), h, rfl⟩⟩
  obtain ⟨q, hq, e⟩ := List.mem_map.mp h
  have r := ok.ar.rng q hq
  have n0 : 0 ≤ w.n := by have := ok.lo; omega
  have e1 := nm_inj n0 hp r.1 r.2.1 a0 a1 (Prod.mk.inj e).1
  have e2 := nm_inj n0 hp r.2.2.1 r.2.2.2 b0 b1 (Prod.mk.inj e).2
  rw [← e1, ← e2]
  exact hq
def InR (n : Int) (vs : List Int) : Prop := ∀ v ∈ vs, 0 ≤ v ∧ v < n
omit ok hp in
theorem InR.set {n : Int} {vs : List Int} (h : InR n vs) {x : Nat} {a : Int} (a0 : 0 ≤ a) (a1 : a < n) : InR n (vs.set x a) := fun v hv => by
  rcases List.mem_or_eq_of_mem_set hv with h1 | rfl
  · exact h v h1
  · exact ⟨a0, a1⟩
omit ok hp in
theorem InR.get {n : Int} {vs : List Int} (h : InR n vs) {x : Int} (hx : x < vs.length) (h0 : 0 ≤ x) : 0 ≤ vs.getD x.toNat 0 ∧ vs.getD x.toNat 0 < n := h _ (TL.getD_mem (by omega))
omit ok hp in
theorem getD_mapI {vs : List Int} {x : Int} (h0 : 0 ≤ x) (hx : x < vs.length) {g : Int → Int} : (vs.map g).getD x.toNat 0 = g (vs.getD x.toNat 0) := by
  rw [List.getD_eq_getElem?_getD, List.getD_eq_getElem?_getD, List.getElem?_map, List.getElem?_eq_getElem (by omega)]
  rfl
omit ok hp in
end
structure Tz (top : Int) (W : List Str) (d : Nat) (w : Wd) (f g : D) : Prop where
  fm : IsFm top W d g
  tr : ∀ n vs, d < n → tv w.trn n g vs = tv w n f vs
end LB

set_option Elab.async false
set_option linter.all false
set_option maxRecDepth 100000
namespace LB
open PySem TL
theorem ne_bbA (a b : Bool) : neD (.bool a) (.bool b) = some (.bool (!decide (a = b))) := by cases a <;> cases b <;> kernel_rfl
theorem eq_bb (a b : Bool) : eqD (.bool a) (.bool b) = some (.bool (decide (a = b))) := by cases a <;> cases b <;> kernel_rfl
theorem goes_ok (w u : Wd) (p q : Int × Int) : m_goes [w.d, u.d, prD p, prD q] = some (.bool (fitB w u p q)) ∧ m__law_fit [w.d, u.d, prD p, prD q] = some (.bool (fitB w u p q)) := by
  obtain ⟨a, b⟩ := p
  obtain ⟨c, d⟩ := q
  let E1 := fun e8 : Option D => [some w.d, some u.d, some (prD (a, b)), some (prD (c, d)), some (.int a), some (.int b), some (.int c), some (.int d), e8]
  let E2 := [some w.d, some u.d, some (prD (a, b)), some (prD (c, d)), some (.int a), some (.int b), some (.int c), some (.int d)]
  have w1 : ixD w.d (.int 1) = some (.tuple [tI w.m0, tI w.m1]) := rfl
  have u1 : ixD u.d (.int 1) = some (.tuple [tI u.m0, tI u.m1]) := rfl
  have w2 : ixD w.d (.int 2) = some (tP w.ar) := rfl
  have u2 : ixD u.d (.int 2) = some (tP u.ar) := rfl
  have same : ∀ {env : TL.Env}, env.getD 4 none = some (.int a) → env.getD 5 none = some (.int b) → env.getD 6 none = some (.int c) → env.getD 7 none = some (.int d) → tV (e2 neD (e2 eqD (eVar 4) (eVar 6)) (e2 eqD (eVar 5) (eVar 7))) env = some (!decide (decide (a = c) = decide (b = d))) := fun h4 h5 h6 h7 =>
    tVD (e2_go (e2_go h4 h6 (eq_i _ _)) (e2_go h5 h7 (eq_i _ _)) (ne_bbA _ _))
  have mk : ∀ {env : TL.Env} {e : SE} {i : Int} {mw mu : List Int}, env.getD 0 none = some w.d → env.getD 1 none = some u.d → env.getD 4 none = some (.int a) → env.getD 5 none = some (.int b) → e env = some (.int i) → ixD (.tuple [tI w.m0, tI w.m1]) (.int i) = some (tI mw) → ixD (.tuple [tI u.m0, tI u.m1]) (.int i) = some (tI mu) →
      (e2 neD (e2 inD (eVar 4) (e2 ixD (e2 ixD (eVar 0) (eC (.int 1))) e)) (e2 inD (eVar 5) (e2 ixD (e2 ixD (eVar 1) (eC (.int 1))) e))) env = some (.bool (!decide (decide (a ∈ mw) = decide (b ∈ mu)))) := fun h0 h1 h4 h5 he hw hu =>
    e2_go (e2_go h4 (e2_go (e2_go h0 rfl w1) he hw) (in_ti a _)) (e2_go h5 (e2_go (e2_go h1 rfl u1) he hu) (in_ti b _)) (ne_bbA _ _)
  have arr : ∀ {env : TL.Env}, env.getD 0 none = some w.d → env.getD 1 none = some u.d → env.getD 4 none = some (.int a) → env.getD 5 none = some (.int b) → env.getD 6 none = some (.int c) → env.getD 7 none = some (.int d) →
      (eAnd (e2 eqD (e2 inD (eTup [(eVar 4), (eVar 6)]) (e2 ixD (eVar 0) (eC (.int 2)))) (e2 inD (eTup [(eVar 5), (eVar 7)]) (e2 ixD (eVar 1) (eC (.int 2))))) (e2 eqD (e2 inD (eTup [(eVar 6), (eVar 4)]) (e2 ixD (eVar 0) (eC (.int 2)))) (e2 inD (eTup [(eVar 7), (eVar 5)]) (e2 ixD (eVar 1) (eC (.int 2)))))) env
      = some (.bool (decide (decide ((a, c) ∈ w.ar) = decide ((b, d) ∈ u.ar)) && decide (decide ((c, a) ∈ w.ar) = decide ((d, b) ∈ u.ar)))) := fun h0 h1 h4 h5 h6 h7 =>
    and_go (e2_go (e2_go (tup2D h4 h6) (e2_go h0 rfl w2) (in_tp (a, c) w.ar)) (e2_go (tup2D h5 h7) (e2_go h1 rfl u2) (in_tp (b, d) u.ar)) (eq_bb _ _)) fun _ => e2_go (e2_go (tup2D h6 h4) (e2_go h0 rfl w2) (in_tp (c, a) w.ar)) (e2_go (tup2D h7 h5) (e2_go h1 rfl u2) (in_tp (d, b) u.ar)) (eq_bb _ _)
  have hF : fitB w u (a, b) (c, d) = (decide (decide (a = c) = decide (b = d)) && (decide (decide (a ∈ w.m0) = decide (b ∈ u.m0)) && decide (decide (a ∈ w.m1) = decide (b ∈ u.m1))) && (decide (decide ((a, c) ∈ w.ar) = decide ((b, d) ∈ u.ar)) && decide (decide ((c, a) ∈ w.ar) = decide ((d, b) ∈ u.ar)))) := rfl
  rw [hF]
  have anyl : (e1 anyD (eLc [8] (iSeq (eTup [(eC (.int 0)), (eC (.int 1))])) (TL.gName 8) cYes (e2 neD (e2 inD (eVar 4) (e2 ixD (e2 ixD (eVar 0) (eC (.int 1))) (eVar 8))) (e2 inD (eVar 5) (e2 ixD (e2 ixD (eVar 1) (eC (.int 1))) (eVar 8)))))) (E1 none) = some (.bool (!decide (decide (a ∈ w.m0) = decide (b ∈ u.m0)) || !decide (decide (a ∈ w.m1) = decide (b ∈ u.m1)))) := by
    refine e1_go (x := .list [.bool (!decide (decide (a ∈ w.m0) = decide (b ∈ u.m0))), .bool (!decide (decide (a ∈ w.m1) = decide (b ∈ u.m1)))]) (lc_go (ds := [.int 0, .int 1]) ?_ ?_) ?_
    · simp only [iSeq]
      rw [tup2D rfl rfl]
      rfl
    · have z0 := mk (env := E1 (some (.int 0))) (e := eVar 8) (i := 0) (mw := w.m0) (mu := u.m0) rfl rfl rfl rfl rfl rfl rfl
      have z1 := mk (env := E1 (some (.int 1))) (e := eVar 8) (i := 1) (mw := w.m1) (mu := u.m1) rfl rfl rfl rfl rfl rfl rfl
      simp only [lcGo, E1, TL.gName, wipeE, List.set_cons_zero, List.set_cons_succ, Option.bind_some, cYes, if_true] at z0 z1 ⊢
      rw [z0, z1]
      rfl
    · show anyD (.list ([!decide (decide (a ∈ w.m0) = decide (b ∈ u.m0)), !decide (decide (a ∈ w.m1) = decide (b ∈ u.m1))].map .bool)) = _
      simp only [anyD, bools_of, Option.map_some, List.any_cons, List.any_nil, id, Bool.or_false]
  have unp1 : ∀ rest : SS, sSeq (sAsg (eVar 2) (TL.gTup [(TL.gName 4), (TL.gName 5)])) (sSeq (sAsg (eVar 3) (TL.gTup [(TL.gName 6), (TL.gName 7)])) rest) [some w.d, some u.d, some (prD (a, b)), some (prD (c, d)), none, none, none, none, none] = rest (E1 none) := fun rest => rfl
  have unp2 : ∀ rest : SS, sSeq (sAsg (eVar 2) (TL.gTup [(TL.gName 4), (TL.gName 5)])) (sSeq (sAsg (eVar 3) (TL.gTup [(TL.gName 6), (TL.gName 7)])) rest) [some w.d, some u.d, some (prD (a, b)), some (prD (c, d)), none, none, none, none] = rest E2 := fun rest => rfl
  have s1 := same (env := E1 none) rfl rfl rfl rfl
  have s2 := same (env := E2) rfl rfl rfl rfl
  have a1 := arr (env := E1 none) rfl rfl rfl rfl rfl rfl
  have a2 := arr (env := E2) rfl rfl rfl rfl rfl rfl
  have m0' := mk (env := E2) (e := eC (.int 0)) (i := 0) (mw := w.m0) (mu := u.m0) rfl rfl rfl rfl rfl rfl rfl
  have m1' := mk (env := E2) (e := eC (.int 1)) (i := 1) (mw := w.m1) (mu := u.m1) rfl rfl rfl rfl rfl rfl rfl
  generalize decide (decide (a = c) = decide (b = d)) = k1 at s1 s2 ⊢
  generalize decide (decide (a ∈ w.m0) = decide (b ∈ u.m0)) = k2 at anyl m0' ⊢
  generalize decide (decide (a ∈ w.m1) = decide (b ∈ u.m1)) = k3 at anyl m1' ⊢
  generalize (decide (decide ((a, c) ∈ w.ar) = decide ((b, d) ∈ u.ar)) && decide (decide ((c, a) ∈ w.ar) = decide ((d, b) ∈ u.ar))) = k4 at a1 a2 ⊢
  cases k1 with
  | false => exact ⟨run_rt rfl ((unp1 _).trans (seq_rt (if_t s1 (ret_go rfl)))), run_rt rfl ((unp2 _).trans (seq_rt (if_t s2 (ret_go rfl))))⟩
  | true =>
    cases k2 with
    | false => exact ⟨run_rt rfl ((unp1 _).trans (seq_go (if_f s1 rfl) (seq_rt (if_t (tVD anyl) (ret_go rfl))))), run_rt rfl ((unp2 _).trans (seq_go (if_f s2 rfl) (seq_rt (if_t (tOr_t (tVD m0')) (ret_go rfl)))))⟩
    | true =>
      cases k3 with
      | false => exact ⟨run_rt rfl ((unp1 _).trans (seq_go (if_f s1 rfl) (seq_rt (if_t (tVD anyl) (ret_go rfl))))), run_rt rfl ((unp2 _).trans (seq_go (if_f s2 rfl) (seq_rt (if_t (tOr_f (tVD m0') (tVD m1')) (ret_go rfl)))))⟩
      | true => exact ⟨run_rt rfl ((unp1 _).trans (seq_go (if_f s1 rfl) (seq_go (if_f (tVD anyl) rfl) (ret_go a1)))), run_rt rfl ((unp2 _).trans (seq_go (if_f s2 rfl) (seq_go (if_f (tOr_f (tVD m0') (tVD m1')) rfl) (ret_go a2))))⟩
end LB

set_option Elab.async false
set_option linter.all false
set_option maxRecDepth 100000
namespace LB
open PySem TL
def prsT (b : List Int) : List (Int × Int) := (rangeI 0 b.length).map fun k => (k, nmI b k)
def okX (w u : Wd) (b : List Int) (x : Int) : Bool := (prsT b ++ [((b.length : Int), x)]).all fun p => fitB w u (b.length, x) p
def lkF (w u : Wd) (L : List Int → List (List Int)) (b : List Int) (x : Int) : List (List Int) := if okX w u b x = true then L (b ++ [x]) else []
def lk (w u : Wd) : Nat → List Int → List (List Int)
  | 0, b => [b]
  | m + 1, b => (rangeI 0 u.n.toNat).flatMap (lkF w u (lk w u m) b)
theorem lk_len (w u : Wd) : ∀ m b, (lk w u m b).length ≤ u.n.toNat ^ m
  | 0, b => by rw [lk]; simp
  | m + 1, b => by
    rw [lk]
    have := flat_len2 (U := lkF w u (lk w u m) b) (B := u.n.toNat ^ m) (ps := rangeI 0 u.n.toNat) fun x _ => by
      unfold lkF
      split
      · exact lk_len w u m _
      · simp
    rw [rangeI_len] at this
    rw [Nat.pow_succ, Nat.mul_comm]
    exact this
theorem likes_ok {w u : Wd} (hu0 : 0 ≤ u.n) (hu1 : u.n ≤ 1000) : ∀ (m : Nat) {b : List Int} {n : Nat}, (b.length : Int) + m = w.n → m < n → b.length + m ≤ 100 → (∀ j, j ≤ m → u.n.toNat ^ j ≤ 1000000) → m_likenesses_2 n [w.d, u.d, tI b] = some (.list ((lk w u m b).map tI)) := by
  intro m
  induction m with
  | zero =>
    intro b n hn hm hl hb
    obtain ⟨n, rfl⟩ : ∃ k, n = k + 1 := ⟨n - 1, by omega⟩
    rw [m_likenesses_2]
    let E := [some w.d, some u.d, some (tI b), some (.int b.length), none, none, none, none, none]
    refine nnD_list (run_rt rfl (seq_go (e := E) (asg_go (e1_go rfl ((len_t _).trans (by rw [List.length_map])))) (seq_rt (if_t (tV_go (e2_go rfl (e2_go rfl rfl (wdn w)) ((eq_i _ _).trans ?_))) (ret_go (lst1_go rfl))))))
    rw [show (b.length : Int) = w.n by omega, decide_eq_true rfl]
  | succ m ih =>
    intro b n hn hm hl hb
    obtain ⟨n, rfl⟩ : ∃ k, n = k + 1 := ⟨n - 1, by omega⟩
    rw [m_likenesses_2]
    let E := fun (acc : List (List Int)) (e5 e6 : Option D) => [some w.d, some u.d, some (tI b), some (PyData.int b.length), some (PyData.list (acc.map tI)), e5, e6, none, none]
    have hpr : ∀ acc x e6, (e2 addD (eLc [7] (iRng1 (eVar 3)) (TL.gName 7) cYes (eTup [(eVar 7), (e2 ixD (eVar 2) (eVar 7))])) (eLst [(eTup [(eVar 3), (eVar 5)])])) (E acc (some (.int x)) e6) = some (.list ((prsT b ++ [((b.length : Int), x)]).map prD)) := fun acc x e6 => by
      have h1 := lc_map (g := TL.gName 7) (e := eTup [(eVar 7), (e2 ixD (eVar 2) (eVar 7))]) (env := wipeE (E acc (some (.int x)) e6) [7]) PyData.int prD (fun k => (k, nmI b k)) (zs := rangeI 0 b.length) fun k hk => ⟨_, rfl, tup2_go rfl (e2_go rfl rfl (ix_tI (rangeI_mem.mp hk).1 (by have := (rangeI_mem.mp hk).2; omega)))⟩
      refine e2_go (lc_go (ds := (rangeI 0 b.length).map .int) ?_ h1) (lst1_go (tup2_go rfl rfl)) ?_
      · show ((some (PyData.int (b.length : Int))).bind fun x => (toI x).bind fun n => rangeD 0 n) = some ((rangeI 0 b.length).map .int)
        simp only [Option.bind_some, toI]
        rw [rng_0 (by omega) (by omega)]
        rfl
      · rw [cat_l (small (by simp [rangeI_len]; omega)), List.map_append]
        rfl
    have hall : ∀ acc x, (e1 allD (eLc [8] (iSeq (eVar 6)) (TL.gName 8) cYes (eCall m_goes [(eVar 0), (eVar 1), (eTup [(eVar 3), (eVar 5)]), (eVar 8)]))) (E acc (some (.int x)) (some (.list ((prsT b ++ [((b.length : Int), x)]).map prD)))) = some (.bool (okX w u b x)) := fun acc x => by
      have h1 := lc_map (g := TL.gName 8) (e := eCall m_goes [(eVar 0), (eVar 1), (eTup [(eVar 3), (eVar 5)]), (eVar 8)]) (env := wipeE (E acc (some (.int x)) (some (.list ((prsT b ++ [((b.length : Int), x)]).map prD)))) [8]) prD PyData.bool (fun p => fitB w u (b.length, x) p) (zs := prsT b ++ [((b.length : Int), x)]) fun p hp => ⟨_, rfl, call4_go rfl rfl (tup2_go rfl rfl) rfl (goes_ok w u (b.length, x) p).1⟩
      refine e1_go (lc_go (ds := (prsT b ++ [((b.length : Int), x)]).map prD) rfl h1) ?_
      rw [all_b, List.all_map]
      rfl
    have loop : ∀ (xs : List Int) (acc : List (List Int)) (e5 e6 : Option D), acc.length + (xs.flatMap (lkF w u (lk w u m) b)).length ≤ 1000000 → ∃ e5' e6', forGo (TL.gName 5) (sSeq (sAsg (e2 addD (eLc [7] (iRng1 (eVar 3)) (TL.gName 7) cYes (eTup [(eVar 7), (e2 ixD (eVar 2) (eVar 7))])) (eLst [(eTup [(eVar 3), (eVar 5)])])) (TL.gName 6))
      (sIf (tV (e1 allD (eLc [8] (iSeq (eVar 6)) (TL.gName 8) cYes (eCall m_goes [(eVar 0), (eVar 1), (eTup [(eVar 3), (eVar 5)]), (eVar 8)]))))
      (sExt 4 (eCall (m_likenesses_2 n) [(eVar 0), (eVar 1), (e2 addD (eVar 2) (eTup [(eVar 5)]))]))
      sNext)) (xs.map .int) (E acc e5 e6) = some (.nx (E (acc ++ xs.flatMap (lkF w u (lk w u m) b)) e5' e6')) := by
      intro xs
      induction xs with
      | nil => exact fun acc e5 e6 _ => ⟨e5, e6, by simp only [List.flatMap_nil, List.append_nil]; rfl⟩
      | cons x xs ihx =>
        intro acc e5 e6 hlen
        rw [List.flatMap_cons, List.length_append] at hlen
        have hF : lkF w u (lk w u m) b x = if okX w u b x = true then lk w u m (b ++ [x]) else [] := rfl
        obtain ⟨e5', e6', h⟩ := ihx (acc ++ lkF w u (lk w u m) b x) (some (.int x)) (some (.list ((prsT b ++ [((b.length : Int), x)]).map prD))) (by rw [List.length_append]; omega)
        refine ⟨e5', e6', for_cons (e2 := E (acc ++ lkF w u (lk w u m) b x) (some (.int x)) (some (.list ((prsT b ++ [((b.length : Int), x)]).map prD)))) rfl (seq_go (e := E acc (some (.int x)) (some (.list ((prsT b ++ [((b.length : Int), x)]).map prD)))) (asg_go (hpr acc x e6)) ?_) ?_⟩
        · cases hk : okX w u b x with
          | true =>
            rw [hF, hk, if_pos rfl] at hlen ⊢
            refine if_t (tV_go ((hall acc x).trans (by rw [hk]))) ((ext_go (call3_go rfl rfl (e2_go rfl (tup1_go rfl) ((cat_t (small (by simp; omega))).trans (by
              show some (PyData.tuple (b.map .int ++ [PyData.int x])) = some (tI (b ++ [x]))
              rw [tI, List.map_append]; rfl))) (ih (b := b ++ [x]) (n := n) (by rw [List.length_append, List.length_singleton]; omega) (by omega) (by rw [List.length_append, List.length_singleton]; omega) fun j hj => hb j (by omega))) rfl (by simp only [List.length_map]; omega)).trans ?_)
            rw [← List.map_append]
            rfl
          | false =>
            rw [hF, hk, if_neg (by decide), List.append_nil]
            exact if_f (tV_go ((hall acc x).trans (by rw [hk]))) rfl
        · rw [List.flatMap_cons, ← List.append_assoc]
          exact h
    have hlen := lk_len w u (m + 1) b
    rw [lk] at hlen
    obtain ⟨e5', e6', hloop⟩ := loop (rangeI 0 u.n.toNat) [] none none (by
      have := hb (m + 1) (Nat.le_refl _)
      rw [List.length_nil]
      omega)
    rw [List.nil_append] at hloop
    refine nnD_list (run_rt rfl (seq_go (e := [some w.d, some u.d, some (tI b), some (.int b.length), none, none, none, none, none]) (asg_go (e1_go rfl ((len_t _).trans (by rw [List.length_map])))) (seq_go (e := [some w.d, some u.d, some (tI b), some (.int b.length), none, none, none, none, none]) (if_f (tV_go (e2_go rfl (e2_go rfl rfl (wdn w)) ((eq_i _ _).trans ?_))) rfl) (seq_go (e := E [] none none) (asg_go rfl) (seq_go (for_go (ds := (rangeI 0 u.n.toNat).map .int) ?_ hloop) (ret_go rfl))))))
    · rw [decide_eq_false (by omega)]
    · simp only [iRng1]
      rw [e2_go rfl rfl (wdn u)]
      simp only [Option.bind_some, toI]
      rw [rng_0 (by omega) (by omega)]
end LB

set_option Elab.async false
set_option linter.all false
set_option maxRecDepth 100000
namespace LB
open PySem TL
theorem tAnd_f {a b : ST} {env : TL.Env} (h : a env = some false) : TL.tAnd a b env = some false := by
  simp only [TL.tAnd, h, Option.bind_some]
  rfl
theorem tAnd_t {a b : ST} {env : TL.Env} {o : Option Bool} (h : a env = some true) (h2 : b env = o) : TL.tAnd a b env = o := by
  simp only [TL.tAnd, h, Option.bind_some, if_true]
  exact h2
end LB

set_option Elab.async false
set_option linter.all false
set_option maxRecDepth 100000
namespace LB
open PySem TL
theorem fit_all {w u : Wd} {p : Int × Int} (ps : List (Int × Int)) {env : TL.Env} : lcGo (TL.gName 4) cYes (eCall m_goes [(eVar 0), (eVar 1), (eVar 3), (eVar 4)]) [some w.d, some u.d, some (tP ps), some (prD p), none] (ps.map prD) = some ((ps.map fun q => fitB w u p q).map .bool) :=
  lc_map prD PyData.bool (fun q => fitB w u p q) fun q _ => ⟨_, rfl, call4_go rfl rfl rfl rfl (goes_ok w u p q).1⟩
theorem grows_ok (w u : Wd) (ps : List (Int × Int)) (p : Int × Int) : m_grows [w.d, u.d, tP ps, prD p] = some (.bool (growB w u ps p)) := by
  refine run_rt rfl (ret_go (and_go (call4_go rfl rfl rfl rfl (goes_ok w u p p).1) fun _ => e1_go (lc_go (ds := ps.map prD) rfl (fit_all (env := []) ps)) ?_))
  show allD (.list ((ps.map fun q => fitB w u p q).map .bool)) = _
  simp only [allD, bools_of, Option.map_some, List.all_map]
  rfl
theorem sorted_tp (ps : List (Int × Int)) : sortedD (tP ps) = some (.list ((isort ltPr ps).map prD)) := by
  have := sorted_prs ps
  simp only [sortedD, tP] at this ⊢
  exact this
theorem put_ok {ps : List (Int × Int)} (hl : ps.length ≤ 1000) (p : Int × Int) : m_put [tP ps, prD p] = some (tP (putP ps p)) := by
  refine run_rt rfl (ret_go ?_)
  simp only [eIf]
  rw [tV_go (e2_go rfl rfl (in_tp p ps))]
  simp only [Option.bind_some]
  unfold putP
  by_cases h : p ∈ ps
  · rw [decide_eq_true h, if_pos rfl, if_pos h]
    rfl
  · rw [decide_eq_false h, if_neg (by decide), if_neg h]
    have e : (e2 addD (eVar 0) (eTup [(eVar 1)])) [some (tP ps), some (prD p)] = some (tP (ps ++ [p])) := e2_go rfl (tup1_go rfl) ((cat_t (small (by rw [List.length_map]; simp; omega))).trans (by rw [tP, List.map_append]; rfl))
    exact e1_go (e1_go e (sorted_tp _)) rfl
theorem rngItems_ok {n : Int} (h0 : 0 ≤ n) (h : n ≤ 1000000) : rngItems (rngD 0 n) = some ((rangeI 0 n.toNat).map .int) := rng_0 h0 h
theorem any_loop {i : Nat} {g : SG} {c : ST} {α : Type} (ι : α → D) (P : α → Bool) (I : TL.Env → Prop) : ∀ (xs : List α) (env : TL.Env), I env → (∀ x ∈ xs, ∀ env, I env → ∃ e1, g (ι x) env = some e1 ∧ c e1 = some (P x) ∧ I e1) →
    (xs.any P = true ∧ forGo g (sIf c (sRet (eC (.bool true))) sNext) (xs.map ι) env = some (.rt (.bool true))) ∨ (xs.any P = false ∧ ∃ e, forGo g (sIf c (sRet (eC (.bool true))) sNext) (xs.map ι) env = some (.nx e) ∧ I e)
  | [], env, h, _ => .inr ⟨rfl, env, rfl, h⟩
  | x :: xs, env, h, step => by
    obtain ⟨e1, h1, h2, h3⟩ := step x List.mem_cons_self env h
    cases hp : P x with
    | true =>
      refine .inl ⟨by rw [List.any_cons, hp]; rfl, ?_⟩
      rw [List.map_cons]
      simp only [forGo, h1, Option.bind_some]
      rw [if_t (by rw [h2, hp]) (ret_go rfl)]
      rfl
    | false =>
      have hb : sIf c (sRet (eC (.bool true))) sNext e1 = some (.nx e1) := if_f (by rw [h2, hp]) rfl
      rcases any_loop (i := i) (g := g) (c := c) ι P I xs e1 h3 (fun y hy => step y (List.mem_cons_of_mem _ hy)) with ⟨h4, h5⟩ | ⟨h4, e, h5, h6⟩
      · exact .inl ⟨by rw [List.any_cons, hp, h4]; rfl, by rw [List.map_cons]; exact for_cons h1 hb h5⟩
      · exact .inr ⟨by rw [List.any_cons, hp, h4]; rfl, e, by rw [List.map_cons]; exact for_cons h1 hb h5, h6⟩
theorem runM_rt {np j nl : Nat} {body : SS} {ds : List D} {d : D} (hl : ds.length = np) (h : body ((ds.take j).map some ++ none :: ((ds.drop j).map some ++ List.replicate nl none)) = some (.rt d)) : runM np j nl body ds = some d := by
  unfold runM
  rw [if_pos hl, h]
  rfl
section
variable {w u : Wd} (wok : w.Ok) (uok : u.Ok)
include wok uok
theorem ans_ok {ps : List (Int × Int)} (hl : ps.length ≤ 1000) {k : Int} {K : List (Int × Int) → Bool} {R : List D → Option D} (side : Bool) {item : Int}
    (hR : ∀ o ∈ rangeI 0 (if side then w.n else u.n).toNat, ∀ p, p = (if side then (o, item) else (item, o)) → growB w u ps p = true → R [w.d, u.d, tP (putP ps p), .int k] = some (.bool (K (putP ps p)))) :
    m_can_answer_2 R [w.d, u.d, tP ps, .int k, .int item, .int (if side then 1 else 0)] = some (.bool ((rangeI 0 (if side then w.n else u.n).toNat).any fun o => growB w u ps (if side then (o, item) else (item, o)) && K (putP ps (if side then (o, item) else (item, o))))) := by
  have lw := wok.lo
  have lu := uok.lo
  have hw := wok.hi
  have hu := uok.hi
  let N : Int := if side then w.n else u.n
  have N0 : 0 ≤ N := by show 0 ≤ (if side = true then w.n else u.n); split <;> omega
  have N8 : N ≤ 8 := by show (if side = true then w.n else u.n) ≤ 8; split <;> omega
  let mk : Int → Int × Int := fun o => if side then (o, item) else (item, o)
  let E := fun (e7 e8 e9 e10 : Option D) => [some w.d, some u.d, some (tP ps), some (PyData.int k), none, some (PyData.int item), some (PyData.int (if side then 1 else 0)), e7, e8, e9, e10]
  have side0 : ∀ e7 e8 e9 e10, tV (e2 eqD (eVar 6) (eC (.int 0))) (E e7 e8 e9 e10) = some (!side) := fun e7 e8 e9 e10 => tV_go (e2_go rfl rfl ((eq_i _ _).trans (by cases side <;> rfl)))
  have h7 : (eRngV (eC (.int 0)) (eIf (tV (e2 eqD (eVar 6) (eC (.int 0)))) (e2 ixD (eVar 1) (eC (.int 0))) (e2 ixD (eVar 0) (eC (.int 0))))) (E none none none none) = some (rngD 0 N) := by
    have hi : eIf (tV (e2 eqD (eVar 6) (eC (.int 0)))) (e2 ixD (eVar 1) (eC (.int 0))) (e2 ixD (eVar 0) (eC (.int 0))) (E none none none none) = some (.int N) := by
      simp only [eIf]
      rw [side0]
      simp only [Option.bind_some]
      cases side with
      | false => exact e2_go rfl rfl (wdn u)
      | true => exact e2_go rfl rfl (wdn w)
    simp only [eRngV, hi, eC, Option.bind_some, toI, Option.map_some]
  have h8 : (eLc [10] (iRngO (eVar 7)) (TL.gName 10) cYes (eIf (tV (e2 eqD (eVar 6) (eC (.int 0)))) (eTup [(eVar 5), (eVar 10)]) (eTup [(eVar 10), (eVar 5)]))) (E (some (rngD 0 N)) none none none) = some (.list (((rangeI 0 N.toNat).map mk).map prD)) := by
    refine lc_go (ds := (rangeI 0 N.toNat).map .int) (rngItems_ok N0 (by omega)) (lc_map PyData.int prD mk fun o _ => ⟨E (some (rngD 0 N)) none none (some (.int o)), rfl, ?_⟩)
    simp only [eIf]
    rw [side0]
    simp only [Option.bind_some]
    show _ = some (prD (if side = true then (o, item) else (item, o)))
    cases side with
    | false => exact tup2_go rfl rfl
    | true => exact tup2_go rfl rfl
  have loop := any_loop (i := 9) (g := TL.gName 9) (c := TL.tAnd (tV (eCall m_grows [(eVar 0), (eVar 1), (eVar 2), (eVar 9)])) (tV (eCall R [(eVar 0), (eVar 1), (eCall m_put [(eVar 2), (eVar 9)]), (eVar 3)])))
    (fun o => prD (mk o)) (fun o => growB w u ps (mk o) && K (putP ps (mk o))) (fun env => ∃ e9, env = E (some (rngD 0 N)) (some (.list (((rangeI 0 N.toNat).map mk).map prD))) e9 none) (rangeI 0 N.toNat) (E (some (rngD 0 N)) (some (.list (((rangeI 0 N.toNat).map mk).map prD))) none none) ⟨_, rfl⟩ fun o ho env ⟨e9, he⟩ => by
      subst he
      refine ⟨_, rfl, ?_, _, rfl⟩
      have hg := tV_go (call4_go (a := eVar 0) (b := eVar 1) (c := eVar 2) (d := eVar 9) (env := E (some (rngD 0 N)) (some (.list (((rangeI 0 N.toNat).map mk).map prD))) (some (prD (mk o))) none) rfl rfl rfl rfl (grows_ok w u ps (mk o)))
      cases hb : growB w u ps (mk o) with
      | false =>
        rw [hb] at hg
        exact tAnd_f hg
      | true =>
        rw [hb] at hg
        refine tAnd_t hg (tV_go (call4_go rfl rfl (call2_go rfl rfl (put_ok hl (mk o))) rfl ?_))
        rw [Bool.true_and]
        exact hR o ho (mk o) rfl hb
  refine runM_rt rfl (seq_go (e := E (some (rngD 0 N)) none none none) (asg_go h7) (seq_go (e := E (some (rngD 0 N)) (some (.list (((rangeI 0 N.toNat).map mk).map prD))) none none) (asg_go h8) ?_))
  rcases loop with ⟨h1, h2⟩ | ⟨h1, e, h2, e9, he⟩
  · rw [h1]
    refine seq_rt (for_go (ds := (rangeI 0 N.toNat).map fun o => prD (mk o)) ?_ h2)
    show some _ = some _
    rw [List.map_map]; rfl
  · rw [h1]
    refine seq_go (e := e) (for_go (ds := (rangeI 0 N.toNat).map fun o => prD (mk o)) ?_ h2) (ret_go rfl)
    show some _ = some _
    rw [List.map_map]; rfl
end
theorem agp_all {α : Type} (ι : α → D) (P : α → Bool) {g : SG} {e : SE} {env : TL.Env} : ∀ {xs : List α}, (∀ x ∈ xs, ∃ e1, g (ι x) env = some e1 ∧ e e1 = some (.bool (P x))) → agGo true g e env (xs.map ι) = some (.bool (xs.all P))
  | [], _ => rfl
  | x :: xs, h => by
    obtain ⟨e1, h1, h2⟩ := h x List.mem_cons_self
    rw [List.map_cons]
    simp only [agGo, h1, h2, Option.bind_some, toB]
    cases hp : P x with
    | true => rw [if_pos rfl, agp_all ι P (fun y hy => h y (List.mem_cons_of_mem _ hy)), List.all_cons, hp]; rfl
    | false => rw [if_neg (by decide), List.all_cons, hp]; rfl
theorem sEnd_go {u : D → Bool} {sp : D → D → D → D} {i1 i2 : Nat} {fk e : SE} {env : TL.Env} {kd d a b : D} (h1 : fk env = some kd) (h2 : e env = some d) (h3 : env.getD i1 none = some a) (h4 : env.getD i2 none = some b) (hu : u kd = true) (hd : d = sp a b kd) (hn : noDict d = true) : sEnd u sp i1 i2 fk e env = some (.rt d) := by
  simp only [sEnd, h1, h2, h3, h4, Option.bind_some]
  rw [if_pos (by rw [hu, ← hd, deq_refl hn]; rfl)]
theorem sMemo_go {u : D → Bool} {sp : D → D → D → D} {i1 i2 : Nat} {fk : SE} {blk : SS} {env : TL.Env} {kd d a b : D} (h1 : fk env = some kd) (h2 : blk env = some (.rt d)) (h3 : env.getD i1 none = some a) (h4 : env.getD i2 none = some b) (hu : u kd = true) (hd : d = sp a b kd) (hn : noDict d = true) : sMemo u sp i1 i2 fk blk env = some (.rt d) := by
  simp only [sMemo, h1, h2, h3, h4, Option.bind_some]
  rw [if_pos (by rw [hu, ← hd, deq_refl hn]; rfl)]
theorem seqN_go {f g : SS} {env e : TL.Env} {o : Option Out} (h1 : f env = some (.nx e)) (h2 : g e = o) : sSeqN f g env = o := by
  simp only [sSeqN, h1, Option.bind_some]
  exact h2
structure Keys (w u : Wd) (C : List (Int × Int) → Nat → Prop) : Prop where
  ok : ∀ ps k, C ps k → okGo ps k = true
  ln : ∀ ps k, C ps k → ps.length ≤ 1000
  up : ∀ ps k a b, C ps (k + 1) → 0 ≤ a → a < w.n → 0 ≤ b → b < u.n → growB w u ps (a, b) = true → C (putP ps (a, b)) k
theorem spGo_of (w u : Wd) (ps : List (Int × Int)) (k : Nat) : spGo w.d u.d (.tuple [tP ps, .int k]) = .bool (canB w u k ps) := by
  show PyData.bool (canB (wdOf w.d) (wdOf u.d) (k : Int).toNat (prOf (tP ps))) = _
  rw [wdOf_d, wdOf_d, prOf_tP, Int.toNat_natCast]
theorem go_ok {w u : Wd} (wok : w.Ok) (uok : u.Ok) {C : List (Int × Int) → Nat → Prop} (kc : Keys w u C) (k n : Nat) (ps : List (Int × Int)) : C ps k → k < n → m_can_go_2 n [w.d, u.d, tP ps, .int k] = some (.bool (canB w u k ps)) := by
  induction n generalizing k ps with
  | zero => intro _ h; omega
  | succ n ih =>
   cases k with
   | zero => exact fun _ _ => runM_rt rfl (seq_rt (if_t (tV_go (e2_go rfl rfl (eq_i _ _))) (ret_go rfl)))
   | succ k =>
    intro hc hn
    have lw := wok.lo
    have lu := uok.lo
    have hw := wok.hi
    have hu := uok.hi
    have hln := kc.ln _ _ hc
    let E := fun (e5 e6 e7 : Option D) => [some w.d, some u.d, some (tP ps), some (PyData.int ((k + 1 : Nat) : Int)), none, e5, e6, e7]
    have key : ∀ e5 e6 e7, (eTup [(eVar 2), (eVar 3)]) (E e5 e6 e7) = some (.tuple [tP ps, .int ((k + 1 : Nat) : Int)]) := fun e5 e6 e7 => tup2_go rfl rfl
    have ku : uGo (.tuple [tP ps, .int ((k + 1 : Nat) : Int)]) = true := uGo_of (kc.ok _ _ hc)
    have sub1 : ∀ e5 e6 e7, (e2 subD (eVar 3) (eC (.int 1))) (E e5 e6 e7) = some (.int (k : Int)) := fun e5 e6 e7 => e2_go rfl rfl (by show some (PyData.int (((k + 1 : Nat) : Int) - 1)) = _; congr 2; omega)
    have forth : (eAg true [6] (iRng1 (e2 ixD (eVar 0) (eC (.int 0)))) (TL.gName 6) (eCall (m_can_answer_2 (m_can_go_2 n)) [(eVar 0), (eVar 1), (eVar 2), (e2 subD (eVar 3) (eC (.int 1))), (eVar 6), (eC (.int 0))])) (E none none none)
        = some (.bool ((rangeI 0 w.n.toNat).all fun a => (rangeI 0 u.n.toNat).any fun b => growB w u ps (a, b) && canB w u k (putP ps (a, b)))) := by
      simp only [eAg, iRng1]
      rw [e2_go rfl rfl (wdn w)]
      simp only [Option.bind_some, toI]
      rw [rng_0 (by omega) (by omega)]
      refine agp_all PyData.int _ fun a ha => ⟨E none (some (.int a)) none, rfl, ?_⟩
      have har := rangeI_mem.mp ha
      simp only [eCall, eArgs, sub1, eVar, eC, E, List.getD_cons_zero, List.getD_cons_succ, Option.bind_some, Option.map_some]
      exact ans_ok wok uok hln false (K := canB w u k) (fun o ho p hp hg => by
        subst hp
        have hor := rangeI_mem.mp ho
        simp only [Bool.false_eq_true, if_false] at hor hg ⊢
        exact ih k _ (kc.up _ _ _ _ hc (by omega) (by omega) (by omega) (by omega) hg) (by omega))
    have back : ∀ v5, (eAg true [7] (iRng1 (e2 ixD (eVar 1) (eC (.int 0)))) (TL.gName 7) (eCall (m_can_answer_2 (m_can_go_2 n)) [(eVar 0), (eVar 1), (eVar 2), (e2 subD (eVar 3) (eC (.int 1))), (eVar 7), (eC (.int 1))])) (E v5 none none)
        = some (.bool ((rangeI 0 u.n.toNat).all fun b => (rangeI 0 w.n.toNat).any fun a => growB w u ps (a, b) && canB w u k (putP ps (a, b)))) := fun v5 => by
      simp only [eAg, iRng1]
      rw [e2_go rfl rfl (wdn u)]
      simp only [Option.bind_some, toI]
      rw [rng_0 (by omega) (by omega)]
      refine agp_all PyData.int _ fun b hb => ⟨E v5 none (some (.int b)), rfl, ?_⟩
      have hbr := rangeI_mem.mp hb
      simp only [eCall, eArgs, sub1, eVar, eC, E, List.getD_cons_zero, List.getD_cons_succ, Option.bind_some, Option.map_some]
      exact ans_ok wok uok hln true (K := canB w u k) (fun o ho p hp hg => by
        subst hp
        have hor := rangeI_mem.mp ho
        simp only [if_true] at hor hg ⊢
        exact ih k _ (kc.up _ _ _ _ hc (by omega) (by omega) (by omega) (by omega) hg) (by omega))
    refine runM_rt rfl (seq_go (e := E none none none) (if_f (tV_go (e2_go rfl rfl ((eq_i _ _).trans (by rw [decide_eq_false (by omega)])))) rfl) ?_)
    have hd : PyData.bool (((rangeI 0 w.n.toNat).all fun a => (rangeI 0 u.n.toNat).any fun b => growB w u ps (a, b) && canB w u k (putP ps (a, b))) && (rangeI 0 u.n.toNat).all fun b => (rangeI 0 w.n.toNat).any fun a => growB w u ps (a, b) && canB w u k (putP ps (a, b))) = spGo w.d u.d (.tuple [tP ps, .int ((k + 1 : Nat) : Int)]) := by
      rw [spGo_of]
      rfl
    have hr : canB w u (k + 1) ps = (((rangeI 0 w.n.toNat).all fun a => (rangeI 0 u.n.toNat).any fun b => growB w u ps (a, b) && canB w u k (putP ps (a, b))) && (rangeI 0 u.n.toNat).all fun b => (rangeI 0 w.n.toNat).any fun a => growB w u ps (a, b) && canB w u k (putP ps (a, b))) := rfl
    rw [hr]
    exact sMemo_go (key _ _ _) (seqN_go (asg_go forth) (sEnd_go (key _ _ _) (and_go rfl fun _ => back _) rfl rfl ku hd rfl)) rfl rfl ku hd rfl
def C3 (w u : Wd) (ps : List (Int × Int)) (k : Nat) : Prop := ps.length + k ≤ 3 ∧ ∀ p ∈ ps, 0 ≤ p.1 ∧ p.1 < w.n ∧ 0 ≤ p.2 ∧ p.2 < u.n
theorem putP_mem {ps : List (Int × Int)} {p q : Int × Int} : q ∈ putP ps p ↔ q = p ∨ q ∈ ps := by
  unfold putP
  split
  · rename_i h
    exact ⟨.inr, fun z => z.elim (fun e => by rw [e]; exact h) id⟩
  · rw [(isort_perm _).mem_iff, List.mem_append, List.mem_singleton]
    exact or_comm
theorem putP_len (ps : List (Int × Int)) (p : Int × Int) : (putP ps p).length ≤ ps.length + 1 := by
  unfold putP
  split
  · omega
  · rw [(isort_perm _).length_eq, List.length_append, List.length_singleton]
    exact Nat.le_refl _
theorem keys3 {w u : Wd} (wok : w.Ok) (uok : u.Ok) : Keys w u (C3 w u) where
  ok := fun ps k ⟨h1, h2⟩ => by
    have hw := wok.hi
    have hu := uok.hi
    have ha : ps.all (inR 8) = true := List.all_eq_true.mpr fun p hp => by
      have := h2 p hp
      simp only [inR, Bool.and_eq_true, decide_eq_true_eq]
      omega
    simp only [okGo, ha, Bool.true_and, Bool.and_eq_true, Bool.or_eq_true, decide_eq_true_eq, Nat.ble_eq]
    exact ⟨by omega, .inl (by omega)⟩
  ln := fun ps k ⟨h1, _⟩ => by omega
  up := fun ps k a b ⟨h1, h2⟩ a0 a1 b0 b1 _ => by
    refine ⟨?_, fun p hp => ?_⟩
    · have := putP_len ps (a, b)
      omega
    · rcases putP_mem.mp hp with rfl | hp
      · exact ⟨a0, a1, b0, b1⟩
      · exact h2 p hp
theorem agree_ok {w u : Wd} (wok : w.Ok) (uok : u.Ok) {k : Nat} (hk : k ≤ 3) : m_agree_2 [w.d, u.d, .int k] = some (.bool (canB w u k [])) := by
  have := go_ok wok uok (keys3 wok uok) k 8 [] ⟨by simpa using hk, fun p hp => by cases hp⟩ (by omega)
  refine run_rt rfl (ret_go ?_)
  simp only [eCall, eArgs, eVar, eTup, List.map_cons, List.map_nil, List.replicate, List.append_nil, List.getD_cons_zero, List.getD_cons_succ, Option.bind_some, Option.map_some, List.length_nil, Nat.zero_le, if_true]
  exact this
end LB

set_option Elab.async false
set_option linter.all false
set_option maxRecDepth 100000
namespace LB
open PySem TL
theorem app_go' {a : SE} {i : Nat} {env : TL.Env} {d : D} {ds : List D} (h : a env = some d) (hi : env.getD i none = some (.list ds)) (hl : ds.length ≤ 1000000) : sApp i a env = some (.nx (env.set i (some (.list (ds ++ [d]))))) := by
  simp only [sApp, h, Option.bind_some, hi]
  rw [if_pos (small' hl)]
def carB (w u : Wd) (p q : Int × Int) : Bool :=
  !(decide (p.1 = q.1) && !decide (p.2 = q.2)) && (!(decide (p.1 ∈ w.m0) && !decide (p.2 ∈ u.m0)) && !(decide (p.1 ∈ w.m1) && !decide (p.2 ∈ u.m1)))
  && (!(decide ((p.1, q.1) ∈ w.ar) && !decide ((p.2, q.2) ∈ u.ar)) && !(decide ((q.1, p.1) ∈ w.ar) && !decide ((q.2, p.2) ∈ u.ar)))
theorem tAnd_b {a b : ST} {env : TL.Env} {x y : Bool} (h1 : a env = some x) (h2 : b env = some y) : TL.tAnd a b env = some (x && y) := by
  cases x with
  | true => rw [Bool.true_and]; exact tAnd_t h1 h2
  | false => rw [Bool.false_and]; exact tAnd_f h1
theorem tOr_b {a b : ST} {env : TL.Env} {x y : Bool} (h1 : a env = some x) (h2 : b env = some y) : TL.tOr a b env = some (x || y) := by
  cases x with
  | true => rw [Bool.true_or]; exact tOr_t h1
  | false => rw [Bool.false_or]; exact tOr_f h1 h2
def goW (way : Bool) (w u : Wd) (l : List (Int × Int)) : Bool := l.all fun p => l.all fun q => if way then carB w u p q else fitB w u p q
def waysW (way : Bool) (w u : Wd) : Nat → List (List Int)
  | 0 => [[]]
  | a + 1 => (waysW way w u a).flatMap fun t => ((rangeI 0 u.n.toNat).filter fun b => goW way w u (prsT t ++ [((a : Int), b)])).map fun b => t ++ [b]
theorem prsT_snoc (t : List Int) (b : Int) : prsT (t ++ [b]) = prsT t ++ [((t.length : Int), b)] := by
  unfold prsT
  rw [List.length_append, List.length_singleton]
  refine List.ext_getElem? fun i => ?_
  rw [List.getElem?_map]
  by_cases h : i < t.length
  · rw [List.getElem?_append_left (by rw [List.length_map, rangeI_len]; exact h), List.getElem?_map, rangeI_get (by omega), rangeI_get h, Option.map_some, Option.map_some]
    congr 2
    unfold nmI
    rw [List.getD_eq_getElem?_getD, List.getD_eq_getElem?_getD, List.getElem?_append_left (by omega)]
  · by_cases e : i = t.length
    · subst e
      rw [List.getElem?_append_right (by rw [List.length_map, rangeI_len]; exact Nat.le_refl _), List.length_map, rangeI_len, Nat.sub_self, rangeI_get (by omega), Option.map_some]
      show some _ = some _
      congr 2
      · omega
      · unfold nmI
        rw [List.getD_eq_getElem?_getD, List.getElem?_append_right (by omega)]
        simp
    · rw [List.getElem?_eq_none (by rw [rangeI_len]; omega), List.getElem?_eq_none (by rw [List.length_append, List.length_map, rangeI_len, List.length_singleton]; omega)]
      rfl
theorem goW_pre {way : Bool} {w u : Wd} {l m : List (Int × Int)} (h : goW way w u (l ++ m) = true) : goW way w u l = true := by
  refine List.all_eq_true.mpr fun p hp => List.all_eq_true.mpr fun q hq => ?_
  exact List.all_eq_true.mp (List.all_eq_true.mp h p (List.mem_append_left _ hp)) q (List.mem_append_left _ hq)
theorem waysW_mem {way : Bool} {w u : Wd} : ∀ {a : Nat} {t : List Int}, t ∈ waysW way w u a ↔ t.length = a ∧ InR u.n t ∧ goW way w u (prsT t) = true
  | 0, t => by
    rw [waysW, List.mem_singleton]
    constructor
    · rintro rfl
      exact ⟨rfl, (fun x hx => by cases hx), rfl⟩
    · rintro ⟨h, _⟩
      exact List.length_eq_zero_iff.mp h
  | a + 1, t => by
    rw [waysW]
    simp only [List.mem_flatMap, List.mem_map, List.mem_filter]
    constructor
    · rintro ⟨s, hs, b, ⟨hb, hg⟩, rfl⟩
      obtain ⟨h1, h2, h3⟩ := waysW_mem.mp hs
      have hb := rangeI_mem.mp hb
      refine ⟨by rw [List.length_append, h1]; rfl, fun x hx => ?_, ?_⟩
      · rcases List.mem_append.mp hx with hx | hx
        · exact h2 x hx
        · rw [List.mem_singleton.mp hx]; omega
      · rw [prsT_snoc, h1]
        exact hg
    · rintro ⟨h1, h2, h3⟩
      rcases List.eq_nil_or_concat t with h | ⟨s, b, h⟩
      · subst h
        simp at h1
      · rw [List.concat_eq_append] at h
        subst h
        rw [List.length_append, List.length_singleton] at h1
        have hb := h2 b (List.mem_append_right _ List.mem_cons_self)
        rw [prsT_snoc] at h3
        exact ⟨s, waysW_mem.mpr ⟨by omega, fun x hx => h2 x (List.mem_append_left _ hx), goW_pre h3⟩, b, ⟨rangeI_mem.mpr (by omega), by rw [show ((a : Nat) : Int) = (s.length : Int) by omega]; exact h3⟩, rfl⟩
end LB

set_option Elab.async false
set_option linter.all false
set_option maxRecDepth 100000
namespace LB
open PySem TL
def kvI (p : Int × Int) : D × D := (.int p.1, .int p.2)
def dI (f : List (Int × Int)) : D := mkI (f.map kvI)
theorem dget_I : ∀ (f : List (Int × Int)) (i : Int), dgetI (f.map kvI) i = (f.lookup i).map .int
  | [], _ => rfl
  | (j, v) :: f, i => by
    have ih := dget_I f i
    show (if j = i then _ else _) = _
    by_cases h : j = i
    · subst h
      rw [if_pos rfl, List.lookup_cons]
      simp
    · rw [if_neg h, ih, List.lookup_cons, show (i == j) = false from beq_eq_false_iff_ne.mpr fun e => h e.symm]
theorem dput_I {v : Int} : ∀ {f : List (Int × Int)} {i : Int}, f.lookup i = none → dputI (f.map kvI) i (.int v) = (f ++ [(i, v)]).map kvI
  | [], _, _ => rfl
  | (j, u) :: f, i, h => by
    rw [List.lookup_cons] at h
    by_cases e : j = i
    · subst e
      simp at h
    · rw [show (i == j) = false from beq_eq_false_iff_ne.mpr fun z => e z.symm] at h
      show (if j = i then _ else _) = _
      rw [if_neg e, dput_I h]
      rfl
theorem nin_I (f : List (Int × Int)) (i : Int) : ninI (.int i) (dI f) = some (.bool (f.lookup i).isNone) := by
  show some (PyData.bool (!(dgetI (f.map kvI) i).isSome)) = _
  rw [dget_I]
  cases f.lookup i <;> rfl
theorem in_I (f : List (Int × Int)) (i : Int) : TL.inI (.int i) (dI f) = some (.bool (f.lookup i).isSome) := by
  show some (PyData.bool (dgetI (f.map kvI) i).isSome) = _
  rw [dget_I]
  cases f.lookup i <;> rfl
theorem ix_I {f : List (Int × Int)} {i v : Int} (h : f.lookup i = some v) : ixI (dI f) (.int i) = some (.int v) := by
  show dgetI (f.map kvI) i = _
  rw [dget_I, h]
  rfl
theorem set_I {i : Nat} {fk fv : SE} {env : TL.Env} {f : List (Int × Int)} {k v : Int} (h1 : fk env = some (.int k)) (h2 : fv env = some (.int v)) (h3 : env.getD i none = some (dI f)) (h4 : f.lookup k = none) (h5 : f.length ≤ 1000000) :
    sSetI i fk fv env = some (.nx (env.set i (some (dI (f ++ [(k, v)]))))) := by
  simp only [sSetI, h1, h2, h3, Option.bind_some, keyI]
  show (if Nat.ble (f.map kvI).length 1000000 = true then some (Out.nx (env.set i (some (mkI (dputI (f.map kvI) k (.int v)))))) else none) = _
  rw [List.length_map, if_pos (Nat.ble_eq_true_of_le h5), dput_I h4]
  rfl
theorem look_app (f g : List (Int × Int)) (x : Int) : (f ++ g).lookup x = (f.lookup x).or (g.lookup x) := by
  induction f with
  | nil => rfl
  | cons p f ih =>
    rw [List.cons_append, List.lookup_cons, List.lookup_cons, ih]
    cases x == p.1 <;> rfl
theorem look_map {c : Int} {x : Int} : ∀ l : List Int, (l.map fun y => (y, c)).lookup x = if x ∈ l then some c else none
  | [] => rfl
  | y :: l => by
    rw [List.map_cons, List.lookup_cons, look_map l]
    by_cases h : x = y
    · subst h
      simp
    · rw [show (x == y) = false from beq_eq_false_iff_ne.mpr h]
      simp [h]
theorem look_key {x v : Int} : ∀ {f : List (Int × Int)}, f.lookup x = some v → x ∈ f.map (·.1)
  | [], h => by cases h
  | p :: f, h => by
    rw [List.lookup_cons] at h
    by_cases e : x = p.1
    · rw [e]
      exact List.mem_cons_self
    · rw [show (x == p.1) = false from beq_eq_false_iff_ne.mpr e] at h
      exact List.mem_cons_of_mem _ (look_key h)
theorem key_look {x : Int} : ∀ {f : List (Int × Int)}, x ∈ f.map (·.1) → ∃ v, f.lookup x = some v
  | [], h => by cases h
  | p :: f, h => by
    rw [List.lookup_cons]
    by_cases e : x = p.1
    · rw [e]
      exact ⟨p.2, by simp⟩
    · rw [show (x == p.1) = false from beq_eq_false_iff_ne.mpr e]
      rcases List.mem_cons.mp h with h | h
      · exact absurd h e
      · exact key_look h
def adjB (w : Wd) (x y : Int) : Bool := decide ((x, y) ∈ w.ar) || decide ((y, x) ∈ w.ar)
def Rb (w : Wd) (a : Int) : Nat → Int → Bool
  | 0, b => decide (b = a)
  | k + 1, b => Rb w a k b || (rangeI 0 w.n.toNat).any fun x => Rb w a k x && adjB w x b
theorem Rb.le {w : Wd} {a b : Int} {j k : Nat} (h : Rb w a j b = true) (hk : j ≤ k) : Rb w a k b = true := by
  induction k with
  | zero =>
    rw [Nat.le_zero.mp hk] at h
    exact h
  | succ k ih =>
    by_cases e : j = k + 1
    · exact e ▸ h
    · rw [Rb, ih (by omega), Bool.true_or]
theorem Rb.step {w : Wd} {a x b : Int} {k : Nat} (h : Rb w a k x = true) (hx : 0 ≤ x ∧ x < w.n) (e : adjB w x b = true) : Rb w a (k + 1) b = true := by
  rw [Rb, Bool.or_eq_true]
  exact .inr (List.any_eq_true.mpr ⟨x, rangeI_mem.mpr (by omega), by rw [h, e]; rfl⟩)
structure DI (w : Wd) (a : Int) (f : List (Int × Int)) : Prop where
  snd : ∀ b k, f.lookup b = some k → (0 ≤ b ∧ b < w.n) ∧ 0 ≤ k ∧ Rb w a k.toNat b = true
  cpl : ∀ (m : Nat) b, 0 ≤ b → b < w.n → Rb w a m b = true → ∃ k, f.lookup b = some k ∧ k ≤ (m : Int)
theorem DI.of {w : Wd} {a : Int} {f : List (Int × Int)} (a0 : f.lookup a = some 0) (up : ∀ b k, f.lookup b = some k → (0 ≤ b ∧ b < w.n) ∧ 0 ≤ k ∧ Rb w a k.toNat b = true)
    (pr : ∀ x k, f.lookup x = some k → ∀ y, 0 ≤ y → y < w.n → adjB w x y = true → ∃ j, f.lookup y = some j ∧ j ≤ k + 1) : DI w a f := by
  refine ⟨up, fun m => ?_⟩
  induction m with
  | zero =>
    intro b h0 h1 h
    rw [Rb, decide_eq_true_eq] at h
    exact ⟨0, h ▸ a0, by omega⟩
  | succ m ih =>
    intro b h0 h1 h
    rw [Rb, Bool.or_eq_true] at h
    rcases h with h | h
    · obtain ⟨k, e1, e2⟩ := ih b h0 h1 h
      exact ⟨k, e1, by omega⟩
    · obtain ⟨x, hx, hh⟩ := List.any_eq_true.mp h
      rw [Bool.and_eq_true] at hh
      have hx := rangeI_mem.mp hx
      obtain ⟨k, e1, e2⟩ := ih x hx.1 (by omega) hh.1
      obtain ⟨j, e3, e4⟩ := pr x k e1 b h0 h1 hh.2
      exact ⟨j, e3, by omega⟩
theorem DI.eq {w : Wd} {a : Int} {f g : List (Int × Int)} (hf : DI w a f) (hg : DI w a g) (b : Int) : f.lookup b = g.lookup b := by
  have half : ∀ {f g : List (Int × Int)}, DI w a f → DI w a g → ∀ k, f.lookup b = some k → ∃ j, g.lookup b = some j ∧ j ≤ k := fun {f g} hf hg k e => by
    obtain ⟨h1, h2, h3⟩ := hf.snd b k e
    obtain ⟨j, e1, e2⟩ := hg.cpl _ b h1.1 h1.2 h3
    exact ⟨j, e1, by omega⟩
  cases e : f.lookup b with
  | none =>
    cases e2 : g.lookup b with
    | none => rfl
    | some j =>
      obtain ⟨k, e3, _⟩ := half hg hf j e2
      rw [e] at e3
      cases e3
  | some k =>
    obtain ⟨j, e1, l1⟩ := half hf hg k e
    obtain ⟨k2, e2, l2⟩ := half hg hf j e1
    rw [e] at e2
    cases e2
    rw [e1, show k = j by omega]
theorem DI.ball {w : Wd} {a : Int} {f : List (Int × Int)} (h : DI w a f) {b : Int} (h0 : 0 ≤ b) (h1 : b < w.n) (r : Nat) : (match f.lookup b with | some k => decide (k ≤ (r : Int)) | none => false) = Rb w a r b := by
  cases hr : Rb w a r b with
  | true =>
    obtain ⟨k, e1, e2⟩ := h.cpl r b h0 h1 hr
    rw [e1]
    exact decide_eq_true e2
  | false =>
    cases e : f.lookup b with
    | none => rfl
    | some k =>
      obtain ⟨_, h3, h4⟩ := h.snd b k e
      refine decide_eq_false fun z => ?_
      have := Rb.le h4 (k := r) (by omega)
      rw [hr] at this
      cases this
def nbs (w : Wd) (x : Int) : List Int := (rangeI 0 w.n.toNat).filter fun b => !decide (b = x) && adjB w x b
theorem nbs_ok {w : Wd} (ok : w.Ok) (x : Int) : m_neighbours [w.d, .int x] = some (.list ((nbs w x).map .int)) := by
  have lo := ok.lo
  have hi := ok.hi
  have lc := lc_filter (g := TL.gName 2) (c := TL.tAnd (tV (e2 neD (eVar 2) (eVar 1))) (TL.tOr (tV (e2 inD (eTup [(eVar 1), (eVar 2)]) (e2 ixD (eVar 0) (eC (.int 2))))) (tV (e2 inD (eTup [(eVar 2), (eVar 1)]) (e2 ixD (eVar 0) (eC (.int 2))))))) (e := eVar 2) (env := wipeE [some w.d, some (.int x), none] [2]) PyData.int PyData.int (fun b => !decide (b = x) && adjB w x b) id (zs := rangeI 0 w.n.toNat) fun b hb => by
    refine ⟨_, rfl, ?_, fun _ => rfl⟩
    exact tAnd_b (tV_go (e2_go rfl rfl (ne_i b x))) (tOr_b (tV_go (e2_go (tup2_go rfl rfl) (e2_go rfl rfl rfl) (in_tp (x, b) w.ar))) (tV_go (e2_go (tup2_go rfl rfl) (e2_go rfl rfl rfl) (in_tp (b, x) w.ar))))
  rw [List.map_id] at lc
  exact run_rt rfl (ret_go (lc_go (rngI1 (n := w.n) (e2_go rfl rfl rfl) (by omega) (by omega)) lc))
theorem nbs_mem {w : Wd} {x y : Int} : y ∈ nbs w x ↔ (0 ≤ y ∧ y < w.n) ∧ y ≠ x ∧ adjB w x y = true := by
  unfold nbs
  rw [List.mem_filter, rangeI_mem, Bool.and_eq_true, Bool.not_eq_true', decide_eq_false_iff_not]
  constructor
  · rintro ⟨h1, h2, h3⟩
    exact ⟨by omega, h2, h3⟩
  · rintro ⟨h1, h2, h3⟩
    exact ⟨by omega, h2, h3⟩
theorem rngnd (lo : Int) (n : Nat) : (rangeI lo n).Nodup := (rangeI_asc lo n).imp fun h => Int.ne_of_lt h
theorem nbs_nodup (w : Wd) (x : Int) : (nbs w x).Nodup := (rngnd _ _).filter _
def newF (f : List (Int × Int)) (l : List Int) : List Int := l.filter fun y => (f.lookup y).isNone
def addF (f : List (Int × Int)) (h : Int) (l : List Int) : List (Int × Int) := f ++ (newF f l).map fun y => (y, h)
theorem addF_look {f : List (Int × Int)} {h : Int} {l : List Int} {x : Int} : (addF f h l).lookup x = (f.lookup x).or (if x ∈ l then some h else none) := by
  unfold addF
  rw [look_app, look_map]
  cases e : f.lookup x with
  | some k => rfl
  | none =>
    show (if x ∈ newF f l then some h else none) = if x ∈ l then some h else none
    have : x ∈ newF f l ↔ x ∈ l := by
      unfold newF
      rw [List.mem_filter, e]
      simp
    by_cases hm : x ∈ l
    · rw [if_pos (this.mpr hm), if_pos hm]
    · rw [if_neg (fun z => hm (this.mp z)), if_neg hm]
theorem addF_nd {f : List (Int × Int)} {h : Int} {l : List Int} (hf : (f.map (·.1)).Nodup) (hl : l.Nodup) : ((addF f h l).map (·.1)).Nodup := by
  unfold addF
  rw [List.map_append, List.map_map]
  have e : ((newF f l).map ((·.1) ∘ fun y => (y, h))) = newF f l := by
    rw [show ((·.1) ∘ fun (y : Int) => (y, h)) = id from rfl, List.map_id]
  rw [e]
  refine List.nodup_append.mpr ⟨hf, hl.filter _, fun x hx y hy he => ?_⟩
  subst he
  obtain ⟨v, hv⟩ := key_look hx
  have := (List.mem_filter.mp hy).2
  rw [hv] at this
  cases this
structure BI (w : Wd) (a : Int) (f : List (Int × Int)) (q : List Int) (h : Int) : Prop where
  a0 : f.lookup a = some 0
  up : ∀ y k, f.lookup y = some k → ((0 ≤ y ∧ y < w.n) ∧ 0 ≤ k ∧ Rb w a k.toNat y = true) ∧ k ≤ h + 1
  qq : ∃ q1 q2, q = q1 ++ q2 ∧ (∀ x ∈ q1, f.lookup x = some h) ∧ ∀ x ∈ q2, f.lookup x = some (h + 1)
  pr : ∀ x k, f.lookup x = some k → x ∉ q → ∀ y, 0 ≤ y → y < w.n → adjB w x y = true → ∃ j, f.lookup y = some j ∧ j ≤ k + 1
  nd : (f.map (·.1)).Nodup
  h0 : 0 ≤ h
theorem BI.len {w : Wd} {a : Int} {f : List (Int × Int)} {q : List Int} {h : Int} (b : BI w a f q h) : f.length ≤ w.n.toNat := by
  have := nodup_leM b.nd (m := rangeI 0 w.n.toNat) fun x hx => by
    obtain ⟨v, hv⟩ := key_look hx
    have := (b.up x v hv).1.1
    exact rangeI_mem.mpr (by omega)
  rw [List.length_map, rangeI_len] at this
  exact this
theorem BI.head {w : Wd} {a : Int} {f : List (Int × Int)} {x : Int} {q : List Int} {h : Int} (b : BI w a f (x :: q) h) : ∃ h', BI w a f (x :: q) h' ∧ f.lookup x = some h' ∧ ∃ q1 q2, q = q1 ++ q2 ∧ (∀ x ∈ q1, f.lookup x = some h') ∧ ∀ x ∈ q2, f.lookup x = some (h' + 1) := by
  obtain ⟨q1, q2, e, e1, e2⟩ := b.qq
  cases q1 with
  | cons z q1 =>
    injection e with ea eb
    subst ea
    exact ⟨h, b, e1 x List.mem_cons_self, q1, q2, eb, fun y hy => e1 y (List.mem_cons_of_mem _ hy), e2⟩
  | nil =>
    have e : x :: q = q2 := e
    subst e
    refine ⟨h + 1, ⟨b.a0, fun y k hy => ⟨(b.up y k hy).1, by have := (b.up y k hy).2; omega⟩, ⟨x :: q, [], by simp, e2, by simp⟩, b.pr, b.nd, by have := b.h0; omega⟩, e2 x List.mem_cons_self, q, [], by simp, fun y hy => e2 y (List.mem_cons_of_mem _ hy), by simp⟩
theorem BI.step {w : Wd} {a : Int} {f : List (Int × Int)} {x : Int} {q : List Int} {h : Int} (b : BI w a f (x :: q) h) (hx : f.lookup x = some h) (hq : ∃ q1 q2, q = q1 ++ q2 ∧ (∀ x ∈ q1, f.lookup x = some h) ∧ ∀ x ∈ q2, f.lookup x = some (h + 1)) :
    BI w a (addF f (h + 1) (nbs w x)) (q ++ newF f (nbs w x)) h := by
  have h0 := b.h0
  have old : ∀ {y k}, f.lookup y = some k → (addF f (h + 1) (nbs w x)).lookup y = some k := fun {y k} e => by rw [addF_look, e]; rfl
  have nw : ∀ {y}, y ∈ newF f (nbs w x) → (addF f (h + 1) (nbs w x)).lookup y = some (h + 1) := fun {y} hy => by
    obtain ⟨m1, m2⟩ := List.mem_filter.mp hy
    rw [addF_look, if_pos m1]
    cases e : f.lookup y with
    | none => rfl
    | some k => rw [e] at m2; cases m2
  have cs : ∀ {y k}, (addF f (h + 1) (nbs w x)).lookup y = some k → f.lookup y = some k ∨ f.lookup y = none ∧ y ∈ nbs w x ∧ k = h + 1 := fun {y k} e => by
    rw [addF_look] at e
    cases e2 : f.lookup y with
    | some j => rw [e2] at e; exact .inl e
    | none =>
      rw [e2] at e
      by_cases hm : y ∈ nbs w x
      · rw [if_pos hm] at e
        cases e
        exact .inr ⟨rfl, hm, rfl⟩
      · rw [if_neg hm] at e
        cases e
  obtain ⟨q1, q2, eq, e1, e2⟩ := hq
  obtain ⟨xr, _, xR⟩ := (b.up x h hx).1
  refine ⟨old b.a0, fun y k e => ?_, ⟨q1, q2 ++ newF f (nbs w x), by rw [eq, List.append_assoc], fun y hy => old (e1 y hy), fun y hy => ?_⟩, fun x0 k e hn y y0 y1 ha => ?_, addF_nd b.nd (nbs_nodup w x), h0⟩
  · rcases cs e with e | ⟨_, hm, rfl⟩
    · exact b.up y k e
    · obtain ⟨m1, _, m3⟩ := nbs_mem.mp hm
      refine ⟨⟨m1, by omega, ?_⟩, Int.le_refl _⟩
      rw [show (h + 1).toNat = h.toNat + 1 by omega]
      exact Rb.step xR xr m3
  · rcases List.mem_append.mp hy with hy | hy
    · exact old (e2 y hy)
    · exact nw hy
  · rw [List.mem_append, not_or] at hn
    by_cases hxx : x0 = x
    · subst hxx
      rw [old hx] at e
      cases e
      by_cases hyx : y = x0
      · subst hyx
        exact ⟨h, old hx, by omega⟩
      · cases e3 : f.lookup y with
        | some j => exact ⟨j, old e3, (b.up y j e3).2⟩
        | none => exact ⟨h + 1, nw (List.mem_filter.mpr ⟨nbs_mem.mpr ⟨⟨y0, y1⟩, hyx, ha⟩, by rw [e3]; rfl⟩), Int.le_refl _⟩
    · rcases cs e with e | ⟨e3, hm, _⟩
      · obtain ⟨j, j1, j2⟩ := b.pr x0 k e (fun z => (List.mem_cons.mp z).elim hxx hn.1) y y0 y1 ha
        exact ⟨j, old j1, j2⟩
      · exact absurd (List.mem_filter.mpr ⟨hm, by rw [e3]; rfl⟩) hn.2
def bodyN : SS := sIf (tV (e2 ninI (eVar 5) (eVar 2)))
      (sSeq (sSetI 2 (eVar 5) (e2 addD (e2 ixI (eVar 2) (eVar 4)) (eC (.int 1))))
      (sApp 3 (eVar 5)))
      sNext
def bodyW : SS := sSeq (sPopA 4 3 (eC (.int 0)))
      (sFor (iSeq (eCall m_neighbours [(eVar 0), (eVar 4)])) (TL.gName 5) bodyN)
theorem inner_ok {w : Wd} {a x h : Int} {f : List (Int × Int)} {q : List Int} (hx : f.lookup x = some h) (hf : f.length ≤ 1000) (hq : q.length ≤ 1000) {l : List Int} (hl : l.Nodup) (hl2 : l.length ≤ 1000) {o5 : Option D} :
    ∃ o, forGo (TL.gName 5) bodyN (l.map .int) [some w.d, some (.int a), some (dI f), some (.list (q.map .int)), some (.int x), o5] = some (.nx [some w.d, some (.int a), some (dI (addF f (h + 1) l)), some (.list ((q ++ newF f l).map .int)), some (.int x), o]) := by
  let E := fun (e2 e3 e5 : Option D) => [some w.d, some (PyData.int a), e2, e3, some (PyData.int x), e5]
  obtain ⟨e, he, o, rfl⟩ := for_invP (g := TL.gName 5) (body := bodyN) PyData.int (fun done env => ∃ o, env = E (some (dI (addF f (h + 1) done))) (some (.list ((q ++ newF f done).map .int))) o) l (E (some (dI f)) (some (.list (q.map .int))) o5) ⟨o5, by
      show _ = E (some (dI (f ++ []))) (some (.list ((q ++ []).map .int))) o5
      rw [List.append_nil, List.append_nil]⟩ (by
    rintro done y rest hxl env ⟨o, rfl⟩
    have hyd : y ∉ done := by
      have := hl
      rw [hxl] at this
      obtain ⟨_, _, h3⟩ := List.nodup_append.mp this
      exact fun z => h3 y z y List.mem_cons_self rfl
    have dl : done.length ≤ 1000 := by
      have := congrArg List.length hxl
      rw [List.length_append] at this
      omega
    have lk : (addF f (h + 1) done).lookup y = f.lookup y := by
      rw [addF_look, if_neg hyd]
      cases f.lookup y <;> rfl
    have lx : (addF f (h + 1) done).lookup x = some h := by rw [addF_look, hx]; rfl
    have nl : (newF f done).length ≤ 1000 := Nat.le_trans (List.length_filter_le _ _) dl
    have c : tV (e2 ninI (eVar 5) (eVar 2)) (E (some (dI (addF f (h + 1) done))) (some (.list ((q ++ newF f done).map .int))) (some (.int y))) = some (f.lookup y).isNone := tV_go (e2_go rfl rfl ((nin_I _ y).trans (by rw [lk])))
    refine ⟨_, rfl, ?_⟩
    cases hy : f.lookup y with
    | some k =>
      rw [hy] at c
      have e1 : newF f (done ++ [y]) = newF f done := by
        unfold newF
        rw [List.filter_append, List.filter_cons, hy]
        exact List.append_nil _
      refine ⟨_, .inl (if_f c rfl), some (.int y), ?_⟩
      unfold addF
      rw [e1]
      rfl
    | none =>
      rw [hy] at c
      have e1 : newF f (done ++ [y]) = newF f done ++ [y] := by
        unfold newF
        rw [List.filter_append, List.filter_cons, hy]
        rfl
      have e2' : addF f (h + 1) (done ++ [y]) = addF f (h + 1) done ++ [(y, h + 1)] := by
        unfold addF
        rw [e1, List.map_append, List.append_assoc]
        rfl
      refine ⟨E (some (dI (addF f (h + 1) done ++ [(y, h + 1)]))) (some (.list ((q ++ newF f done).map .int ++ [.int y]))) (some (.int y)), .inl (if_t c (seq_go (set_I (i := 2) (f := addF f (h + 1) done) (k := y) (v := h + 1) rfl (e2_go (e2_go rfl rfl (ix_I lx)) rfl (add_i _ _)) rfl (by rw [lk]; exact hy) (by
        unfold addF
        rw [List.length_append, List.length_map]
        omega)) (app_go' rfl rfl (by rw [List.length_map, List.length_append]; omega)))), some (.int y), ?_⟩
      rw [e2', e1, ← List.append_assoc, List.map_append (l₁ := q ++ newF f done)]
      rfl)
  exact ⟨o, he⟩
theorem while_ok {w : Wd} (ok : w.Ok) {a : Int} : ∀ (n : Nat) {f : List (Int × Int)} {q : List Int} {h : Int} {o4 o5 : Option D}, BI w a f q h → q.length + (w.n.toNat - f.length) < n → n ≤ 1000 →
    ∃ f' h' o4' o5', whileGo (tV (e2 gtD (e1 lenD (eVar 3)) (eC (.int 0)))) bodyW n [some w.d, some (.int a), some (dI f), some (.list (q.map .int)), o4, o5] = some (.nx [some w.d, some (.int a), some (dI f'), some (.list []), o4', o5']) ∧ BI w a f' [] h'
  | 0, _, _, _, _, _, _, hn, _ => absurd hn (Nat.not_lt_zero _)
  | n + 1, f, [], h, o4, o5, b, _, _ => ⟨f, h, o4, o5, rfl, b⟩
  | n + 1, f, x :: q, h, o4, o5, b, hn, hq5 => by
    have lo := ok.lo
    have hi := ok.hi
    obtain ⟨h, b, hx, hq⟩ := b.head
    have fl := b.len
    have b2 := b.step hx hq
    have fl2 := b2.len
    have nl : (nbs w x).length ≤ 8 := by
      have := List.length_filter_le (fun b => !decide (b = x) && adjB w x b) (rangeI 0 w.n.toNat)
      rw [rangeI_len] at this
      show ((rangeI 0 w.n.toNat).filter _).length ≤ 8
      omega
    have fle : (addF f (h + 1) (nbs w x)).length = f.length + (newF f (nbs w x)).length := by
      unfold addF
      rw [List.length_append, List.length_map]
    have nn : (newF f (nbs w x)).length ≤ 8 := Nat.le_trans (List.length_filter_le _ _) nl
    have hn : q.length + 1 + (w.n.toNat - f.length) < n + 1 := hn
    obtain ⟨o, hin⟩ := inner_ok (w := w) (a := a) hx (by omega) (q := q) (by omega) (nbs_nodup w x) (by omega) (o5 := o5)
    have hpop : sPopA 4 3 (eC (.int 0)) [some w.d, some (.int a), some (dI f), some (.list ((x :: q).map .int)), o4, o5] = some (.nx [some w.d, some (.int a), some (dI f), some (.list (q.map .int)), some (.int x), o5]) := by
      show (popD ((x :: q).map .int) 0).bind _ = _
      have := pop_ok (l := x :: q) (i := 0) (by simp) (by decide)
      rw [show ((0 : Nat) : Int) = 0 from rfl] at this
      rw [this]
      rfl
    have hb : bodyW [some w.d, some (.int a), some (dI f), some (.list ((x :: q).map .int)), o4, o5] = some (.nx [some w.d, some (.int a), some (dI (addF f (h + 1) (nbs w x))), some (.list ((q ++ newF f (nbs w x)).map .int)), some (.int x), o]) :=
      seq_go hpop (for_go (show iSeq (eCall m_neighbours [(eVar 0), (eVar 4)]) _ = some ((nbs w x).map .int) by
        show (eCall m_neighbours [(eVar 0), (eVar 4)] _).bind itemsD = _
        rw [call2_go rfl rfl (nbs_ok ok x)]
        rfl) hin)
    obtain ⟨f', h', o4', o5', hw, b'⟩ := while_ok ok n (o4 := some (.int x)) (o5 := o) b2 (by rw [List.length_append]; omega) (by omega)
    refine ⟨f', h', o4', o5', ?_, b'⟩
    have hc : tV (e2 gtD (e1 lenD (eVar 3)) (eC (.int 0))) [some w.d, some (.int a), some (dI f), some (.list ((x :: q).map .int)), o4, o5] = some true := by
      refine (tV_go (e2_go (e1_go rfl (len_l _)) rfl (gt_i _ _))).trans (congrArg some (decide_eq_true ?_))
      rw [List.length_map, List.length_cons]
      omega
    rw [whileGo, hc]
    simp only [Option.bind_some, if_true]
    rw [hb]
    exact hw
theorem dist_ok {w : Wd} (ok : w.Ok) {a : Int} (ha : 0 ≤ a ∧ a < w.n) : ∃ f, m_distances [w.d, .int a] = some (dI f) ∧ DI w a f := by
  have lo := ok.lo
  have hi := ok.hi
  have b0 : BI w a [(a, 0)] [a] 0 := by
    have lk : ∀ {y k : Int}, [(a, (0 : Int))].lookup y = some k → y = a ∧ k = 0 := fun {y k} e => by
      rw [List.lookup_cons] at e
      by_cases h : y = a
      · rw [h] at e
        simp at e
        exact ⟨h, e.symm⟩
      · rw [show (y == a) = false from beq_eq_false_iff_ne.mpr h] at e
        cases e
    have l0 : [(a, (0 : Int))].lookup a = some 0 := by simp
    refine ⟨l0, fun y k e => ?_, ⟨[a], [], rfl, fun x hx => ?_, by simp⟩, fun x k e hn => ?_, by simp, Int.le_refl _⟩
    · obtain ⟨rfl, rfl⟩ := lk e
      exact ⟨⟨ha, Int.le_refl _, decide_eq_true rfl⟩, by decide⟩
    · rw [List.mem_singleton.mp hx]
      exact l0
    · obtain ⟨rfl, _⟩ := lk e
      exact absurd List.mem_cons_self hn
  obtain ⟨f', h', o4, o5, hw, b⟩ := while_ok ok 1000 (o4 := none) (o5 := none) b0 (by simp only [List.length_cons, List.length_nil]; omega) (Nat.le_refl _)
  refine ⟨f', run_rt rfl (seq_go (e := [some w.d, some (.int a), some (dI [(a, 0)]), none, none, none]) rfl (seq_go (e := [some w.d, some (.int a), some (dI [(a, 0)]), some (.list [.int a]), none, none]) rfl (seq_go hw (ret_go rfl)))), .of b.a0 (fun y k e => (b.up y k e).1) fun x k e => b.pr x k e (by simp)⟩
end LB

set_option Elab.async false
set_option linter.all false
set_option maxRecDepth 100000
namespace LB
open PySem TL
structure LI (w : Wd) (a : Int) (f : List (Int × Int)) (t : Nat) : Prop where
  a0 : f.lookup a = some 0
  up : ∀ y k, f.lookup y = some k → ((0 ≤ y ∧ y < w.n) ∧ 0 ≤ k ∧ Rb w a k.toNat y = true) ∧ k ≤ (t : Int)
  pr : ∀ x k, f.lookup x = some k → k < (t : Int) → ∀ y, 0 ≤ y → y < w.n → adjB w x y = true → ∃ j, f.lookup y = some j ∧ j ≤ k + 1
  nd : (f.map (·.1)).Nodup
  ct : t + 1 ≤ f.length ∨ ∀ x, f.lookup x ≠ some (t : Int)
def moreL (w : Wd) (f : List (Int × Int)) (t : Nat) : List Int := (rangeI 0 w.n.toNat).filter fun y => (f.lookup y).isNone && decide (0 < ((f.map (·.1)).filter fun x => decide (f.lookup x = some (t : Int)) && adjB w x y).length)
theorem more_mem {w : Wd} {f : List (Int × Int)} {t : Nat} {y : Int} : y ∈ moreL w f t ↔ (0 ≤ y ∧ y < w.n) ∧ f.lookup y = none ∧ ∃ x, f.lookup x = some (t : Int) ∧ adjB w x y = true := by
  unfold moreL
  rw [List.mem_filter, rangeI_mem, Bool.and_eq_true, decide_eq_true_eq, List.length_pos_iff_exists_mem, Option.isNone_iff_eq_none]
  constructor
  · rintro ⟨h1, h2, x, hx⟩
    obtain ⟨_, h3⟩ := List.mem_filter.mp hx
    rw [Bool.and_eq_true, decide_eq_true_eq] at h3
    exact ⟨by omega, h2, x, h3⟩
  · rintro ⟨h1, h2, x, h3, h4⟩
    exact ⟨by omega, h2, x, List.mem_filter.mpr ⟨look_key h3, by rw [decide_eq_true h3, h4]; rfl⟩⟩
theorem LI.len {w : Wd} {a : Int} {f : List (Int × Int)} {t : Nat} (b : LI w a f t) : f.length ≤ w.n.toNat := by
  have := nodup_leM b.nd (m := rangeI 0 w.n.toNat) fun x hx => by
    obtain ⟨v, hv⟩ := key_look hx
    have := (b.up x v hv).1.1
    exact rangeI_mem.mpr (by omega)
  rw [List.length_map, rangeI_len] at this
  exact this
theorem newF_all {f : List (Int × Int)} {l : List Int} (h : ∀ y ∈ l, f.lookup y = none) : newF f l = l := List.filter_eq_self.mpr fun y hy => by rw [h y hy]; rfl
theorem LI.step {w : Wd} {a : Int} {f : List (Int × Int)} {t : Nat} (b : LI w a f t) : LI w a (addF f (t + 1) (moreL w f t)) (t + 1) := by
  have old : ∀ {y k}, f.lookup y = some k → (addF f (t + 1) (moreL w f t)).lookup y = some k := fun {y k} e => by rw [addF_look, e]; rfl
  have nw : ∀ {y}, y ∈ moreL w f t → (addF f (t + 1) (moreL w f t)).lookup y = some ((t : Int) + 1) := fun {y} hy => by
    rw [addF_look, if_pos hy, (more_mem.mp hy).2.1]
    rfl
  have cs : ∀ {y k}, (addF f (t + 1) (moreL w f t)).lookup y = some k → f.lookup y = some k ∨ y ∈ moreL w f t ∧ k = (t : Int) + 1 := fun {y k} e => by
    rw [addF_look] at e
    cases e2 : f.lookup y with
    | some j => rw [e2] at e; exact .inl e
    | none =>
      rw [e2] at e
      by_cases hm : y ∈ moreL w f t
      · rw [if_pos hm] at e
        cases e
        exact .inr ⟨hm, rfl⟩
      · rw [if_neg hm] at e
        cases e
  refine ⟨old b.a0, fun y k e => ?_, fun x k e hk y y0 y1 ha => ?_, addF_nd b.nd ((rngnd _ _).filter _), ?_⟩
  · rcases cs e with e | ⟨hm, rfl⟩
    · obtain ⟨h1, h2⟩ := b.up y k e
      exact ⟨h1, by omega⟩
    · obtain ⟨h1, h2, x, h3, h4⟩ := more_mem.mp hm
      obtain ⟨⟨xr, _, xR⟩, _⟩ := b.up x _ h3
      refine ⟨⟨h1, by omega, ?_⟩, by omega⟩
      rw [show ((t : Int) + 1).toNat = (t : Int).toNat + 1 by omega]
      exact Rb.step xR xr h4
  · rcases cs e with e | ⟨_, rfl⟩
    · by_cases hkt : k < (t : Int)
      · obtain ⟨j, j1, j2⟩ := b.pr x k e hkt y y0 y1 ha
        exact ⟨j, old j1, j2⟩
      · have : k = (t : Int) := by omega
        subst this
        cases e3 : f.lookup y with
        | some j => exact ⟨j, old e3, by have := (b.up y j e3).2; omega⟩
        | none => exact ⟨_, nw (more_mem.mpr ⟨⟨y0, y1⟩, e3, x, e, ha⟩), Int.le_refl _⟩
    · omega
  · have hl : (addF f (t + 1) (moreL w f t)).length = f.length + (moreL w f t).length := by
      unfold addF
      rw [List.length_append, List.length_map, newF_all fun y hy => (more_mem.mp hy).2.1]
    cases hm : moreL w f t with
    | nil =>
      refine .inr fun x e => ?_
      have e : (addF f (t + 1) []).lookup x = some (((t + 1 : Nat)) : Int) := e
      rw [addF_look] at e
      cases e2 : f.lookup x with
      | none => rw [e2] at e; simp at e
      | some j =>
        rw [e2] at e
        have e : j = ((t + 1 : Nat) : Int) := Option.some.inj e
        have := (b.up x j e2).2
        omega
    | cons y l =>
      refine .inl ?_
      rw [← hm, hl, hm, List.length_cons]
      obtain ⟨_, _, x, hx, _⟩ := more_mem.mp (show y ∈ moreL w f t by rw [hm]; exact List.mem_cons_self)
      rcases b.ct with h | h
      · omega
      · exact absurd hx (h x)
def ballL (w : Wd) (a : Int) (r : Nat) : List Int := (rangeI 0 w.n.toNat).filter fun b => Rb w a r b
theorem ball_lc {w : Wd} {a : Int} {f : List (Int × Int)} {r : Nat} (h : DI w a f) {o4 : Option D} : lcGo (TL.gName 4) (TL.tAnd (tV (e2 TL.inI (eVar 4) (eVar 3))) (tV (e2 leD (e2 ixI (eVar 3) (eVar 4)) (eVar 2)))) (eVar 4) (wipeE [some w.d, some (.int a), some (.int r), some (dI f), o4] [4]) ((rangeI 0 w.n.toNat).map .int) = some ((ballL w a r).map .int) := by
  have lc := lc_filter (g := TL.gName 4) (c := TL.tAnd (tV (e2 TL.inI (eVar 4) (eVar 3))) (tV (e2 leD (e2 ixI (eVar 3) (eVar 4)) (eVar 2)))) (e := eVar 4) (env := wipeE [some w.d, some (.int a), some (.int r), some (dI f), o4] [4]) PyData.int PyData.int (fun b => Rb w a r b) id (zs := rangeI 0 w.n.toNat) fun b hb => by
    have hb := rangeI_mem.mp hb
    refine ⟨_, rfl, ?_, fun _ => rfl⟩
    rw [← h.ball (b := b) (by omega) (by omega) r]
    have c1 : tV (e2 TL.inI (eVar 4) (eVar 3)) [some w.d, some (.int a), some (.int r), some (dI f), some (.int b)] = some (f.lookup b).isSome := tV_go (e2_go rfl rfl (in_I f b))
    cases e : f.lookup b with
    | none =>
      rw [e] at c1
      exact tAnd_f c1
    | some k =>
      rw [e] at c1
      exact tAnd_t c1 (tV_go (e2_go (e2_go rfl rfl (ix_I e)) rfl (le_i k r)))
  rw [List.map_id] at lc
  exact lc
theorem ball_ok {w : Wd} (ok : w.Ok) {a : Int} (ha : 0 ≤ a ∧ a < w.n) (r : Nat) : m_ball [w.d, .int a, .int r] = some (tI (ballL w a r)) := by
  have lo := ok.lo
  have hi := ok.hi
  obtain ⟨f, h1, h2⟩ := dist_ok ok ha
  exact run_rt rfl (seq_go (e := [some w.d, some (.int a), some (.int r), some (dI f), none]) (asg_go (call2_go rfl rfl h1)) (ret_go (e1_go (lc_go (rngI1 (n := w.n) (e2_go rfl rfl rfl) (by omega) (by omega)) (ball_lc h2)) (tuple_l _))))
theorem ball_nodup (w : Wd) (a : Int) (r : Nat) : (ballL w a r).Nodup := (rngnd _ _).filter _
theorem ball_mem {w : Wd} {a b : Int} {r : Nat} : b ∈ ballL w a r ↔ (0 ≤ b ∧ b < w.n) ∧ Rb w a r b = true := by
  unfold ballL
  rw [List.mem_filter, rangeI_mem]
  constructor
  · rintro ⟨h1, h2⟩
    exact ⟨by omega, h2⟩
  · rintro ⟨h1, h2⟩
    exact ⟨by omega, h2⟩
theorem ball_len {w : Wd} (ok : w.Ok) (a : Int) (r : Nat) : (ballL w a r).length ≤ w.n.toNat := by
  have := List.length_filter_le (fun b => Rb w a r b) (rangeI 0 w.n.toNat)
  rw [rangeI_len] at this
  exact this
theorem ball_self {w : Wd} {a : Int} (ha : 0 ≤ a ∧ a < w.n) (r : Nat) : a ∈ ballL w a r := ball_mem.mpr ⟨ha, Rb.le (j := 0) (decide_eq_true rfl) (Nat.zero_le _)⟩
end LB

set_option Elab.async false
set_option linter.all false
set_option maxRecDepth 100000
namespace LB
open PySem TL
theorem lk_pre {w u : Wd} : ∀ {m : Nat} {b t : List Int}, t ∈ lk w u m b → ∃ c, t = b ++ c ∧ c.length = m ∧ ∀ v ∈ c, 0 ≤ v ∧ v < u.n.toNat
  | 0, b, t, h => ⟨[], by rw [List.mem_singleton.mp h, List.append_nil], rfl, fun v h => by cases h⟩
  | m + 1, b, t, h => by
    rw [lk] at h
    obtain ⟨x, hx, h⟩ := List.mem_flatMap.mp h
    unfold lkF at h
    split at h
    · obtain ⟨c, h1, h2, h3⟩ := lk_pre h
      refine ⟨x :: c, by rw [h1, List.append_assoc]; rfl, by rw [List.length_cons, h2], fun v hv => ?_⟩
      rcases List.mem_cons.mp hv with rfl | hv
      · have := rangeI_mem.mp hx
        omega
      · exact h3 v hv
    · cases h
def Stp (w u : Wd) (k : Nat) (t : List Int) : Prop := ∀ j, k ≤ j → j < t.length → okX w u (t.take j) (t.getD j 0) = true
theorem mem_lk {w u : Wd} : ∀ {m : Nat} {b c : List Int}, c.length = m → (∀ v ∈ c, 0 ≤ v ∧ v < u.n.toNat) → (b ++ c ∈ lk w u m b ↔ Stp w u b.length (b ++ c))
  | 0, b, c, hc, _ => by
    have : c = [] := List.eq_nil_of_length_eq_zero hc
    subst this
    rw [List.append_nil]
    exact ⟨fun _ j h1 h2 => absurd h2 (by omega), fun _ => List.mem_singleton.mpr rfl⟩
  | m + 1, b, [], hc, _ => by cases hc
  | m + 1, b, x :: c, hc, hr => by
    have hc : c.length = m := by simpa using hc
    have e : b ++ x :: c = (b ++ [x]) ++ c := by rw [List.append_assoc]; rfl
    have ih := mem_lk (w := w) (u := u) (m := m) (b := b ++ [x]) hc fun v hv => hr v (List.mem_cons_of_mem _ hv)
    have hx := hr x List.mem_cons_self
    have t0 : (b ++ x :: c).take b.length = b := by rw [List.take_left]
    have g0 : (b ++ x :: c).getD b.length 0 = x := by
      rw [List.getD_eq_getElem?_getD, List.getElem?_append_right (Nat.le_refl _), Nat.sub_self]
      rfl
    rw [lk, List.mem_flatMap]
    constructor
    · rintro ⟨y, hy, h⟩
      unfold lkF at h
      split at h
      · rename_i hok
        obtain ⟨d, h1, _, _⟩ := lk_pre h
        have h1 : b ++ x :: c = b ++ y :: d := by rw [h1, List.append_assoc]; rfl
        have h2 := List.append_cancel_left h1
        have exy : x = y := (List.cons.inj h2).1
        subst exy
        rw [e] at h
        have S := ih.mp h
        intro j j1 j2
        by_cases hj : j = b.length
        · subst hj
          rw [t0, g0]
          exact hok
        · rw [e]
          exact S j (by rw [List.length_append, List.length_singleton]; omega) (by rw [← e]; exact j2)
      · cases h
    · intro S
      refine ⟨x, rangeI_mem.mpr ⟨hx.1, by omega⟩, ?_⟩
      have hok := S b.length (Nat.le_refl _) (by rw [List.length_append, List.length_cons]; omega)
      rw [t0, g0] at hok
      unfold lkF
      rw [if_pos hok, e]
      refine ih.mpr fun j j1 j2 => ?_
      rw [List.length_append, List.length_singleton] at j1
      rw [← e] at j2 ⊢
      exact S j (by omega) j2
theorem mem_lk0 {w u : Wd} {m : Nat} {t : List Int} : t ∈ lk w u m [] ↔ t.length = m ∧ InR u.n t ∧ Stp w u 0 t := by
  constructor
  · intro h
    obtain ⟨c, rfl, h2, h3⟩ := lk_pre h
    refine ⟨h2, fun v hv => by have := h3 v hv; omega, ?_⟩
    exact (mem_lk (w := w) (u := u) (b := []) h2 h3).mp h
  · rintro ⟨h1, h2, h3⟩
    exact (mem_lk (b := []) (c := t) h1 fun v hv => by have := h2 v hv; omega).mpr h3
theorem fit_iff {w u : Wd} {a b c d : Int} : fitB w u (a, b) (c, d) = true ↔ (a = c ↔ b = d) ∧ (a ∈ w.m0 ↔ b ∈ u.m0) ∧ (a ∈ w.m1 ↔ b ∈ u.m1) ∧ ((a, c) ∈ w.ar ↔ (b, d) ∈ u.ar) ∧ ((c, a) ∈ w.ar ↔ (d, b) ∈ u.ar) := by
  unfold fitB
  simp only [Bool.and_eq_true, decide_eq_true_eq, decide_eq_decide]
  constructor
  · rintro ⟨⟨h1, h2, h3⟩, h4, h5⟩
    exact ⟨h1, h2, h3, h4, h5⟩
  · rintro ⟨h1, h2, h3, h4, h5⟩
    exact ⟨⟨h1, h2, h3⟩, h4, h5⟩
theorem stp_iff {w u : Wd} {t : List Int} : Stp w u 0 t ↔ ∀ i j : Int, 0 ≤ i → i ≤ j → j < t.length → fitB w u (j, nmI t j) (i, nmI t i) = true := by
  have okj : ∀ j : Nat, j < t.length → (okX w u (t.take j) (t.getD j 0) = true ↔ ∀ i : Int, 0 ≤ i → i ≤ j → fitB w u ((j : Int), nmI t j) (i, nmI t i) = true) := fun j hj => by
    have hl : (t.take j).length = j := by rw [List.length_take]; omega
    have nj : t.getD j 0 = nmI t (j : Int) := by unfold nmI; rw [Int.toNat_natCast]
    unfold okX
    rw [hl, List.all_append, Bool.and_eq_true, List.all_eq_true, List.all_eq_true, nj]
    have np : ∀ i : Int, 0 ≤ i → i < j → nmI (t.take j) i = nmI t i := fun i h0 h1 => by
      unfold nmI
      rw [List.getD_eq_getElem?_getD, List.getD_eq_getElem?_getD, List.getElem?_take, if_pos (by omega)]
    constructor
    · rintro ⟨h1, h2⟩ i i0 i1
      by_cases e : i = j
      · subst e
        exact h2 _ (List.mem_singleton.mpr rfl)
      · have := h1 (i, nmI (t.take j) i) (List.mem_map.mpr ⟨i, rangeI_mem.mpr ⟨i0, by rw [hl]; omega⟩, rfl⟩)
        rwa [np i i0 (by omega)] at this
    · intro h
      refine ⟨fun p hp => ?_, fun p hp => ?_⟩
      · obtain ⟨i, hi, rfl⟩ := List.mem_map.mp hp
        obtain ⟨i0, i1⟩ := rangeI_mem.mp hi
        rw [hl] at i1
        rw [np i i0 (by omega)]
        exact h i i0 (by omega)
      · rw [List.mem_singleton.mp hp]
        exact h j (by omega) (by omega)
  constructor
  · intro S i j i0 ij jl
    have h := S j.toNat (Nat.zero_le _) (by omega)
    have := (okj j.toNat (by omega)).mp h i i0 (by omega)
    rwa [show ((j.toNat : Nat) : Int) = j by omega] at this
  · intro h j _ jl
    exact (okj j jl).mpr fun i i0 i1 => h i j i0 i1 (by omega)
theorem perm_of {l : List Int} : ∀ {r : List Int}, l.Nodup → (∀ x ∈ l, x ∈ r) → r.length ≤ l.length → r.Perm l := by
  induction l with
  | nil =>
    intro r _ _ h
    have : r = [] := List.eq_nil_of_length_eq_zero (by simpa using h)
    rw [this]
  | cons a l ih =>
    intro r hn hs hl
    have hn := List.nodup_cons.mp hn
    have ha := hs a List.mem_cons_self
    have p := List.perm_cons_erase ha
    have hlen := p.length_eq
    rw [List.length_cons] at hlen hl
    exact p.trans ((ih hn.2 (fun x hx => (List.mem_erase_of_ne fun (e : x = a) => hn.1 (e ▸ hx)).mpr (hs x (List.mem_cons_of_mem _ hx))) (by omega)).cons a)
theorem perm_rng {t : List Int} {n : Int} (n0 : 0 ≤ n) (hn : t.Nodup) (hl : (t.length : Int) = n) (hr : InR n t) : t.Perm (rangeI 0 n.toNat) :=
  (perm_of hn (fun x hx => rangeI_mem.mpr ⟨(hr x hx).1, by have := (hr x hx).2; omega⟩) (by rw [rangeI_len]; omega)).symm
theorem nodup_snoc {t : List Int} {x : Int} : (t ++ [x]).Nodup ↔ t.Nodup ∧ x ∉ t := by
  have p : (t ++ [x]).Perm (x :: t) := List.perm_append_comm
  rw [p.nodup_iff, List.nodup_cons]
  exact And.comm
end LB

set_option Elab.async false
set_option linter.all false
set_option maxRecDepth 100000
namespace LB
open PySem TL
def sideI (side : Bool) : Int := if side then 1 else 0
def swp (p : Int × Int) : Int × Int := (p.2, p.1)
theorem dec_comm (a b : Bool) : decide (a = b) = decide (b = a) := by cases a <;> cases b <;> rfl
theorem fit_swap (w u : Wd) (p q : Int × Int) : fitB w u p q = fitB u w (swp p) (swp q) := by
  unfold fitB swp
  rw [dec_comm (decide (p.1 = q.1)), dec_comm (decide (p.1 ∈ w.m0)), dec_comm (decide (p.1 ∈ w.m1)), dec_comm (decide ((p.1, q.1) ∈ w.ar)), dec_comm (decide ((q.1, p.1) ∈ w.ar))]
end LB

set_option Elab.async false
set_option linter.all false
set_option maxRecDepth 100000
namespace LB
open PySem TL
def InW (w u : Wd) (ps : List (Int × Int)) : Prop := ∀ p ∈ ps, (0 ≤ p.1 ∧ p.1 < w.n) ∧ 0 ≤ p.2 ∧ p.2 < u.n
theorem InW.put {w u : Wd} {ps : List (Int × Int)} (h : InW w u ps) {a b : Int} (ha : 0 ≤ a ∧ a < w.n) (hb : 0 ≤ b ∧ b < u.n) : InW w u (putP ps (a, b)) := fun p hp => by
  rcases putP_mem.mp hp with rfl | hp
  · exact ⟨ha, hb⟩
  · exact h p hp
theorem InW.nil {w u : Wd} : InW w u [] := fun p hp => by cases hp
theorem rgm {a n : Int} : a ∈ rangeI 0 n.toNat ↔ 0 ≤ a ∧ a < n := by
  rw [rangeI_mem]
  omega
theorem can_iff {w u : Wd} {k : Nat} {ps : List (Int × Int)} : canB w u (k + 1) ps = true ↔
    (∀ a, 0 ≤ a ∧ a < w.n → ∃ b, (0 ≤ b ∧ b < u.n) ∧ growB w u ps (a, b) = true ∧ canB w u k (putP ps (a, b)) = true) ∧
    ∀ b, 0 ≤ b ∧ b < u.n → ∃ a, (0 ≤ a ∧ a < w.n) ∧ growB w u ps (a, b) = true ∧ canB w u k (putP ps (a, b)) = true := by
  show ((_ && _) = true) ↔ _
  rw [Bool.and_eq_true, List.all_eq_true, List.all_eq_true]
  constructor
  · rintro ⟨h1, h2⟩
    refine ⟨fun a ha => ?_, fun b hb => ?_⟩
    · obtain ⟨b, hb, h⟩ := List.any_eq_true.mp (h1 a (rgm.mpr ha))
      rw [Bool.and_eq_true] at h
      exact ⟨b, rgm.mp hb, h.1, h.2⟩
    · obtain ⟨a, ha, h⟩ := List.any_eq_true.mp (h2 b (rgm.mpr hb))
      rw [Bool.and_eq_true] at h
      exact ⟨a, rgm.mp ha, h.1, h.2⟩
  · rintro ⟨h1, h2⟩
    refine ⟨fun a ha => ?_, fun b hb => ?_⟩
    · obtain ⟨b, hb, h3, h4⟩ := h1 a (rgm.mp ha)
      exact List.any_eq_true.mpr ⟨b, rgm.mpr hb, by rw [h3, h4]; rfl⟩
    · obtain ⟨a, ha, h3, h4⟩ := h2 b (rgm.mp hb)
      exact List.any_eq_true.mpr ⟨a, rgm.mpr ha, by rw [h3, h4]; rfl⟩
theorem grow_iff {w u : Wd} {ps : List (Int × Int)} {p : Int × Int} : growB w u ps p = true ↔ fitB w u p p = true ∧ ∀ q ∈ ps, fitB w u p q = true := by
  unfold growB
  rw [Bool.and_eq_true, List.all_eq_true]
section
variable {w u : Wd} (uok : u.Ok) {ns : List Int} (hp : ns.Perm (rangeI 0 u.n.toNat))
include uok hp
theorem fit_ren {p q : Int × Int} (h1 : 0 ≤ p.2 ∧ p.2 < u.n) (h2 : 0 ≤ q.2 ∧ q.2 < u.n) : fitB w (u.ren ns) (p.1, nmI ns p.2) (q.1, nmI ns q.2) = fitB w u p q := by
  have lo := uok.lo
  unfold fitB
  have e1 : decide (nmI ns p.2 = nmI ns q.2) = decide (p.2 = q.2) := decide_eq_decide.mpr ⟨fun e => nm_inj (by omega) hp h1.1 h1.2 h2.1 h2.2 e, fun e => by rw [e]⟩
  have e2 : decide (nmI ns p.2 ∈ (u.ren ns).m0) = decide (p.2 ∈ u.m0) := decide_eq_decide.mpr (mem_ren1 uok hp uok.a0 h1.1 h1.2)
  have e3 : decide (nmI ns p.2 ∈ (u.ren ns).m1) = decide (p.2 ∈ u.m1) := decide_eq_decide.mpr (mem_ren1 uok hp uok.a1 h1.1 h1.2)
  have e4 : decide ((nmI ns p.2, nmI ns q.2) ∈ (u.ren ns).ar) = decide ((p.2, q.2) ∈ u.ar) := decide_eq_decide.mpr (mem_ren2 uok hp h1.1 h1.2 h2.1 h2.2)
  have e5 : decide ((nmI ns q.2, nmI ns p.2) ∈ (u.ren ns).ar) = decide ((q.2, p.2) ∈ u.ar) := decide_eq_decide.mpr (mem_ren2 uok hp h2.1 h2.2 h1.1 h1.2)
  rw [e1, e2, e3, e4, e5]
end
section
variable {w t : Wd} (wok : w.Ok) (tok : t.Ok)
include wok tok
end
section
variable {w1 w2 u1 u2 : Wd} (h1 : w1.Ok) (h2 : w2.Ok) (k1 : u1.Ok) (k2 : u2.Ok)
include h1 h2 k1 k2
end
end LB

set_option Elab.async false
set_option linter.all false
set_option maxRecDepth 100000
namespace LB
open PySem TL
theorem fitIff {w u : Wd} {p q : Int × Int} : fitB w u p q = true ↔ (p.1 = q.1 ↔ p.2 = q.2) ∧ (p.1 ∈ w.m0 ↔ p.2 ∈ u.m0) ∧ (p.1 ∈ w.m1 ↔ p.2 ∈ u.m1) ∧ ((p.1, q.1) ∈ w.ar ↔ (p.2, q.2) ∈ u.ar) ∧ ((q.1, p.1) ∈ w.ar ↔ (q.2, p.2) ∈ u.ar) := by
  unfold fitB
  simp only [Bool.and_eq_true, decide_eq_true_eq, decide_eq_decide]
  exact ⟨fun ⟨⟨a, b, c⟩, d, e⟩ => ⟨a, b, c, d, e⟩, fun ⟨a, b, c, d, e⟩ => ⟨⟨a, b, c⟩, d, e⟩⟩
theorem fit_sym {w u : Wd} {p q : Int × Int} (h : fitB w u p q = true) (hq : fitB w u q q = true) : fitB w u q p = true := by
  rw [fitIff] at h hq ⊢
  exact ⟨⟨fun e => (h.1.mp e.symm).symm, fun e => (h.1.mpr e.symm).symm⟩, hq.2.1, hq.2.2.1, h.2.2.2.2, h.2.2.2.1⟩
mutual
def plainT : D → Bool
  | .str _ => true
  | .int _ => true
  | .tuple l => plainTs l
  | _ => false
def plainTs : List D → Bool
  | [] => true
  | d :: l => plainT d && plainTs l
end
end LB

set_option Elab.async false
set_option linter.all false
set_option maxRecDepth 100000
namespace LB
open PySem TL
def five : List Str := [Str.ofString "not", Str.ofString "and", Str.ofString "or", Str.ofString "some", Str.ofString "all"]
def nc : Nat → D → Nat
  | 0, _ => 0
  | n + 1, f => 1 + ((prts f).map (nc n)).sum
def Beg (a vs : List Int) : Prop := ∀ x : Nat, x < a.length → vs.getD x 0 = a.getD x 0
structure Dif (w u : Wd) (l : List (Int × Int)) (k : Nat) (f : D) : Prop where
  fm : ∀ top : Int, (l.length : Int) + k ≤ top → IsFmB 8 top five (2 * k + 1) f
  fr : ∀ N, 2 * k + 1 < N → ∀ x ∈ fv N f, 0 ≤ x ∧ x < l.length
  dp : ∀ N, 2 * k + 1 < N → dpt N f ≤ k
  tw : ∀ N vs, 2 * k + 1 < N → l.length + k ≤ vs.length → Beg (l.map (·.1)) vs → tv w N f vs = true
  tu : ∀ N vs, 2 * k + 1 < N → l.length + k ≤ vs.length → Beg (l.map (·.2)) vs → tv u N f vs = false
  ct : ∀ N, nc N f ≤ 4 * 9 ^ k
theorem Beg.snoc {l : List (Int × Int)} {vs : List Int} {i j : Int} (hl : l.length < vs.length) (h : Beg (l.map (·.1)) vs) : Beg ((l ++ [(i, j)]).map (·.1)) (vs.set l.length i) := fun x hx => by
  rw [List.length_map, List.length_append, List.length_singleton] at hx
  rw [getD_set2 hl, List.map_append]
  split
  · rename_i e
    subst e
    rw [List.getD_eq_getElem?_getD, List.getElem?_append_right (by rw [List.length_map]; omega)]
    simp
  · rename_i e
    rw [h x (by rw [List.length_map]; omega), List.getD_eq_getElem?_getD, List.getD_eq_getElem?_getD, List.getElem?_append_left (by rw [List.length_map]; omega)]
section
variable {w u : Wd} {l : List (Int × Int)} {k : Nat} {U : List D} {q o : Str}
end
end LB

set_option Elab.async false
set_option linter.all false
set_option maxRecDepth 100000
namespace LB
open PySem TL
structure Shp (f : D) : Prop where
  lay : PyData.canLay0 f = true
  dep : PyData.depth f ≤ 40
  pln : plainT f = true
end LB

set_option Elab.async false
set_option linter.all false
set_option maxRecDepth 100000
namespace LB
open PySem TL
theorem call5_go {m : List D → Option D} {a b c d e : SE} {env : TL.Env} {x y z v t : D} {o : Option D} (h1 : a env = some x) (h2 : b env = some y) (h3 : c env = some z) (h4 : d env = some v) (h5 : e env = some t) (h6 : m [x, y, z, v, t] = o) : eCall m [a, b, c, d, e] env = o := by
  simp only [eCall, eArgs, h1, h2, h3, h4, h5, Option.bind_some, Option.map_some]
  exact h6
section
variable {w u : Wd} (wok : w.Ok) (uok : u.Ok) {a b : List Int} (ha : a.length ≤ 100) (hb : b.length ≤ 100) {k : Int} {R : List D → Option D} {G : Int → Int → Option D}
  (hR : ∀ i, (0 ≤ i ∧ i < w.n) → ∀ j, (0 ≤ j ∧ j < u.n) → R [w.d, tI (a ++ [i]), u.d, tI (b ++ [j]), .int k] = some ((G i j).getD .none)) (hG : ∀ i j f, G i j = some f → Shp f)
include wok uok ha hb hR hG
end
structure KeysF (w u : Wd) (C : List (Int × Int) → Nat → Prop) : Prop where
  ok : ∀ l k, C l k → okDif (l.map (·.1)) (l.map (·.2)) k = true
  ln : ∀ l k, C l k → l.length + k ≤ 6
  up : ∀ l k a b, C l (k + 1) → (0 ≤ a ∧ a < w.n) → (0 ≤ b ∧ b < u.n) → C (l ++ [(a, b)]) k
def CF (w u : Wd) (l : List (Int × Int)) (k : Nat) : Prop := InW w u l ∧ l.length + k ≤ 3
theorem zip_maps : ∀ l : List (Int × Int), (l.map (·.1)).zip (l.map (·.2)) = l
  | [] => rfl
  | p :: l => by
    rw [List.map_cons, List.map_cons, List.zip_cons_cons, zip_maps l]
theorem inw_all {w u : Wd} {m : Nat} (hw : w.n ≤ m) (hu : u.n ≤ m) {l : List (Int × Int)} (h : InW w u l) : l.all (inR m) = true := List.all_eq_true.mpr fun p hp => by
  have := h p hp
  simp only [inR, Bool.and_eq_true, decide_eq_true_eq]
  omega
theorem InW.snoc {w u : Wd} {l : List (Int × Int)} (h : InW w u l) {a b : Int} (ha : 0 ≤ a ∧ a < w.n) (hb : 0 ≤ b ∧ b < u.n) : InW w u (l ++ [(a, b)]) := fun p hp => by
  rcases List.mem_append.mp hp with hp | hp
  · exact h p hp
  · rw [List.mem_singleton.mp hp]
    exact ⟨ha, hb⟩
theorem keysF {w u : Wd} (wok : w.Ok) (uok : u.Ok) : KeysF w u (CF w u) where
  ok := fun l k ⟨h1, h2⟩ => by
    unfold okDif
    have := inw_all (m := 8) wok.hi uok.hi h1
    simp only [zip_maps, List.length_map, Bool.and_eq_true, Bool.or_eq_true, decide_eq_true_eq, Nat.ble_eq, Nat.beq_eq, Int.toNat_natCast]
    exact ⟨⟨by omega, trivial⟩, .inl ⟨this, h2⟩⟩
  ln := fun l k ⟨_, h⟩ => by omega
  up := fun l k a b ⟨h1, h2⟩ ha hb => ⟨h1.snoc ha hb, by rw [List.length_append, List.length_singleton]; omega⟩
end LB

set_option Elab.async false
set_option linter.all false
set_option maxRecDepth 100000
namespace LB
open PySem TL
def pqs (w u : Wd) : List (Int × Int) := (rangeI 0 w.n.toNat).flatMap fun a => (rangeI 0 u.n.toNat).map fun b => (a, b)
def lastLt (ps : List (Int × Int)) (p : Int × Int) : Bool := match ps.getLast? with
  | some q => decide (q.1 < p.1)
  | none => true
def stdB (w u : Wd) (ps : List (Int × Int)) (p : Int × Int) : Bool := lastLt ps p && growB w u ps p
def mapsN (w u : Wd) : Nat → List (List (Int × Int))
  | 0 => [[]]
  | j + 1 => (mapsN w u j).flatMap fun ps => ((pqs w u).filter (stdB w u ps)).map fun p => ps ++ [p]
def upM (w u : Wd) : Nat → List (List (Int × Int))
  | 0 => [[]]
  | j + 1 => upM w u j ++ mapsN w u (j + 1)
def kp (t : TK 2) : List (Int × Int) := List.map (fun q : List Int => (q.getD 0 0, q.getD 1 0)) t
end LB

set_option Elab.async false
set_option linter.all false
set_option maxRecDepth 100000
namespace LB
open PySem TL
def mkI (w : Wd) (i : Int) : List Int := if i = 0 then w.m0 else w.m1
end LB

set_option Elab.async false
set_option linter.all false
set_option maxRecDepth 100000
namespace LB
open PySem TL
end LB

set_option Elab.async false
set_option linter.all false
set_option maxRecDepth 100000
namespace LB
open PySem TL
end LB

set_option Elab.async false
set_option linter.all false
set_option maxRecDepth 100000
namespace LB
open PySem TL
def wdf : D → Str
  | .tuple (.str s :: _) => s
  | _ => ""
def wl : Nat → D → List Str
  | 0, _ => []
  | n + 1, f => [wdf f] ++ (prts f).flatMap (wl n)
end LB

set_option Elab.async false
set_option linter.all false
set_option maxRecDepth 100000
namespace LB
open PySem TL
section
variable {w u : Wd} (wok : w.Ok) (uok : u.Ok) {k : Nat} (hk : k ≤ 3) {S : List (List (Int × Int))} (hp : S.Perm (upM w u k)) (hc : canB w u k [] = true)
include hp
include wok uok hk hc
end
end LB

set_option Elab.async false
set_option linter.all false
set_option maxRecDepth 100000
namespace LB
open PySem TL
end LB

set_option Elab.async false
set_option linter.all false
set_option maxRecDepth 100000
namespace LB
open PySem TL
end LB

set_option Elab.async false
set_option linter.all false
set_option maxRecDepth 100000
namespace LB
open PySem TL
end LB

set_option Elab.async false
set_option linter.all false
set_option maxRecDepth 100000
namespace LB
open PySem TL
end LB

set_option Elab.async false
set_option linter.all false
set_option maxRecDepth 100000
namespace LB
open PySem TL
end LB

set_option Elab.async false
set_option linter.all false
set_option maxRecDepth 100000
namespace LB
open PySem TL
end LB

set_option Elab.async false
set_option linter.all false
set_option maxRecDepth 100000
namespace LB
open PySem TL
section
variable {w : Wd} {row : List Int} (hrow : (rangeI 0 w.n.toNat).filter (fun a => decide (a ∈ row)) = row)
include hrow
end
end LB

set_option Elab.async false
set_option linter.all false
set_option maxRecDepth 100000
namespace LB
open PySem TL
def rs : Nat → D → Bool
  | 0, _ => false
  | n + 1, f => !decide (wdf f ∈ [Str.ofString "all", Str.ofString "least"]) && (if wdf f = "not" then decide (wdf ((prts f).headD .none) ∈ [Str.ofString "same", Str.ofString "mark", Str.ofString "arrow"]) else (prts f).all (rs n))
end LB

set_option Elab.async false
set_option linter.all false
set_option maxRecDepth 100000
namespace LB
open PySem TL
end LB

set_option Elab.async false
set_option linter.all false
set_option maxRecDepth 100000
namespace LB
open PySem TL
end LB

set_option Elab.async false
set_option linter.all false
set_option maxRecDepth 100000
namespace LB
open PySem TL
def wi (w u v : Wd) (i : Int) : Wd := if i = 0 then w else if i = 1 then u else v
end LB

set_option Elab.async false
set_option linter.all false
set_option maxRecDepth 100000
namespace LB
open PySem TL
end LB

set_option Elab.async false
set_option linter.all false
set_option maxRecDepth 100000
namespace LB
open PySem TL
theorem shaped_tis (l : List (List Int)) : SeqAt.shaped (.list (l.map tI)) = true := by
  have c1 : ∀ t, PyData.canLay0 (tI t) = true := fun t => by simp [tI, PyData.canLay0, lay_ints]
  have d1 : ∀ t, (tI t).depth = 1 := fun t => by simp [tI, PyData.depth, dep_ints]
  have h : ∀ l : List (List Int), PyData.canLayAll0 (l.map tI) = true ∧ PyData.depthAll (l.map tI) ≤ 1 := fun l => by
    induction l with
    | nil => simp [PyData.canLayAll0, PyData.depthAll]
    | cons t l ih =>
      simp only [List.map_cons, PyData.canLayAll0, PyData.depthAll, c1, d1, Bool.true_and]
      exact ⟨ih.1, by have := ih.2; omega⟩
  exact shaped_of (by simp [PyData.canLay0, (h l).1]) (by
    have := (h l).2
    simp only [PyData.depth]
    omega)
theorem eq_nil (l : List (List Int)) : eqD (.list (l.map tI)) (.list []) = some (.bool l.isEmpty) ∧ neD (.list (l.map tI)) (.list []) = some (.bool (!l.isEmpty)) := by
  have hz : PyData.eqv (.list (l.map tI)) (.list []) = l.isEmpty := by cases l <;> simp [PyData.eqv, PyData.eqvAll]
  unfold eqD neD
  rw [if_pos ⟨shaped_tis l, shaped_tis []⟩, if_pos ⟨shaped_tis l, shaped_tis []⟩, hz]
  exact ⟨rfl, rfl⟩
section
variable {w u : Wd} (wok : w.Ok) (uok : u.Ok) (wn : w.n ≤ 5)
include wok uok wn
omit wok uok wn in
end
end LB

set_option Elab.async false
set_option linter.all false
set_option maxRecDepth 100000
namespace LB
open PySem TL
end LB

set_option Elab.async false
set_option linter.all false
set_option maxRecDepth 100000
namespace LB
open PySem TL
section
variable {w u : Wd} (wok : w.Ok) (uok : u.Ok)
include wok uok
end
end LB

set_option Elab.async false
set_option linter.all false
set_option maxRecDepth 100000
namespace LB
open PySem TL
end LB

set_option Elab.async false
set_option linter.all false
set_option maxRecDepth 100000
namespace LB
open PySem TL
theorem part_Ok {w : Wd} {row : List Int} (h1 : 1 ≤ row.length) (h8 : row.length ≤ 8) : (part w row).Ok := by
  refine ⟨by show (1 : Int) ≤ (row.length : Int); omega, by show (row.length : Int) ≤ 8; omega, ?_, ?_, ?_⟩
  · exact ⟨(rangeI_asc 0 _).filter _, fun a ha => by
      have := rangeI_mem.mp (List.mem_filter.mp ha).1
      show 0 ≤ a ∧ a < (row.length : Int)
      omega⟩
  · exact ⟨(rangeI_asc 0 _).filter _, fun a ha => by
      have := rangeI_mem.mp (List.mem_filter.mp ha).1
      show 0 ≤ a ∧ a < (row.length : Int)
      omega⟩
  · constructor
    · have key : ∀ l : List Int, l.Pairwise (· < ·) → (l.flatMap fun j => ((rangeI 0 row.length).filter fun k => decide ((rat row j, rat row k) ∈ w.ar)).map fun k => (j, k)).Pairwise fun p q => ltPr p q = true := by
        intro l
        induction l with
        | nil => exact fun _ => .nil
        | cons a l ih =>
          intro h
          obtain ⟨h1, h2⟩ := List.pairwise_cons.mp h
          rw [List.flatMap_cons, List.pairwise_append]
          refine ⟨?_, ih h2, ?_⟩
          · refine List.pairwise_map.mpr (((rangeI_asc 0 _).filter _).imp fun {x y} hxy => ?_)
            exact SrtO.lexB_iff.mpr (.inr ⟨rfl, hxy⟩)
          · intro p hp q hq
            obtain ⟨x, _, rfl⟩ := List.mem_map.mp hp
            obtain ⟨b, hb, hq⟩ := List.mem_flatMap.mp hq
            obtain ⟨y, _, rfl⟩ := List.mem_map.mp hq
            exact SrtO.lexB_iff.mpr (.inl (h1 b hb))
      exact key _ (rangeI_asc 0 _)
    · intro p hp
      obtain ⟨j, hj, hp⟩ := List.mem_flatMap.mp hp
      obtain ⟨k, hk, rfl⟩ := List.mem_map.mp hp
      have a := rangeI_mem.mp hj
      have b := rangeI_mem.mp (List.mem_filter.mp hk).1
      show 0 ≤ j ∧ j < (row.length : Int) ∧ 0 ≤ k ∧ k < (row.length : Int)
      omega
end LB

set_option Elab.async false
set_option linter.all false
set_option maxRecDepth 100000
namespace LB
open PySem TL
theorem place_idx {a : Int} : ∀ {l : List Int} {i : Nat}, a ∈ l → placeD (.int a) (l.map .int) i = some (i + l.idxOf a)
  | [], _, h => by cases h
  | b :: l, i, h => by
    rw [List.map_cons, placeD, List.idxOf_cons]
    rw [eqv_int]
    by_cases e : b = a
    · rw [decide_eq_true e, if_pos rfl, show (b == a) = true from beq_iff_eq.mpr e]
      rfl
    · rw [decide_eq_false e, if_neg Bool.false_ne_true, show (b == a) = false from beq_eq_false_iff_ne.mpr e, place_idx ((List.mem_cons.mp h).elim (fun z => absurd z.symm e) id)]
      show _ = some (i + (l.idxOf a + 1))
      congr 1
      omega
theorem idx_ti {a : Int} {l : List Int} (h : a ∈ l) : idxD (tI l) (.int a) = some (.int (l.idxOf a)) := by
  show (if SeqAt.shaped (tI l) = true ∧ SeqAt.shaped (.int a) = true then (placeD (.int a) (l.map .int) 0).map fun (i : Nat) => PyData.int (i : Int) else none) = _
  rw [if_pos ⟨shaped_ti l, shaped_int a⟩, place_idx h, Nat.zero_add]
  rfl
def alikeB (w : Wd) (a : Int) (u : Wd) (b : Int) (r : Nat) : Bool :=
  decide ((ballL w a r).length = (ballL u b r).length) && (lk (part w (ballL w a r)) (part u (ballL u b r)) (ballL w a r).length []).any fun t => decide (nmI t ((ballL w a r).idxOf a) = ((ballL u b r).idxOf b : Int))
theorem idx_lt2 {l : List Int} {a : Int} (h : a ∈ l) : l.idxOf a < l.length := List.idxOf_lt_length_iff.mpr h
theorem lk_ways {w u : Wd} (wok : w.Ok) (uok : u.Ok) {t : List Int} : t ∈ lk w u w.n.toNat [] ↔ t ∈ waysW false w u w.n.toNat := by
  rw [mem_lk0, waysW_mem]
  refine and_congr_right fun hl => and_congr_right fun hr => ?_
  rw [stp_iff]
  unfold goW
  rw [List.all_eq_true]
  constructor
  · intro h p hp
    rw [List.all_eq_true]
    intro q hq
    obtain ⟨i, hi, rfl⟩ := List.mem_map.mp hp
    obtain ⟨j, hj, rfl⟩ := List.mem_map.mp hq
    have hi := rangeI_mem.mp hi
    have hj := rangeI_mem.mp hj
    show fitB w u (i, nmI t i) (j, nmI t j) = true
    by_cases hij : j ≤ i
    · exact h j i hj.1 hij (by omega)
    · have h1 := h i j hi.1 (by omega) (by omega)
      exact fit_sym h1 (h i i hi.1 (Int.le_refl _) (by omega))
  · intro h i j h0 hij hj
    have hm : ∀ x : Int, 0 ≤ x → x < t.length → (x, nmI t x) ∈ prsT t := fun x x0 x1 => List.mem_map.mpr ⟨x, rangeI_mem.mpr (by omega), rfl⟩
    exact List.all_eq_true.mp (h _ (hm j (by omega) hj)) _ (hm i h0 (by omega))
end LB

set_option Elab.async false
set_option linter.all false
set_option maxRecDepth 100000
namespace LB
open PySem TL
end LB

set_option Elab.async false
set_option linter.all false
set_option maxRecDepth 100000
namespace LB
open PySem TL
def backL (ps : List Int) (n : Nat) : List Int := (rangeI 0 n).map fun k => (ps.idxOf k : Int)
theorem back_nm {ps : List Int} {n : Nat} (hp : ps.Perm (rangeI 0 n)) {a : Int} (a0 : 0 ≤ a) (a1 : a < n) : nmI (backL ps n) (nmI ps a) = a := by
  have pl : ps.length = n := by rw [hp.length_eq, rangeI_len]
  have nd : ps.Nodup := hp.nodup_iff.mpr (rngnd 0 n)
  have r := nm_rng (ps := ps) (n := (n : Int)) (by omega) (by rw [Int.toNat_natCast]; exact hp) a0 a1
  unfold backL
  have hm : (nmI ps a).toNat < n := by omega
  show ((rangeI 0 n).map fun k => (ps.idxOf k : Int)).getD (nmI ps a).toNat 0 = a
  rw [List.getD_eq_getElem?_getD, List.getElem?_map, rangeI_get hm]
  show ((ps.idxOf (0 + ((nmI ps a).toNat : Int)) : Nat) : Int) = a
  rw [show (0 : Int) + ((nmI ps a).toNat : Int) = nmI ps a by omega]
  have h1 : a.toNat < ps.length := by omega
  have : nmI ps a = ps[a.toNat] := by
    show ps.getD a.toNat 0 = _
    rw [List.getD_eq_getElem?_getD, List.getElem?_eq_getElem h1]
    rfl
  rw [this, nd.idxOf_getElem _ h1]
  omega
theorem back_perm {ps : List Int} {n : Nat} (hp : ps.Perm (rangeI 0 n)) : (backL ps n).Perm (rangeI 0 n) := by
  have pl : ps.length = n := by rw [hp.length_eq, rangeI_len]
  have := perm_rng (t := backL ps n) (n := (n : Int)) (by omega) (map_nodup (fun a ha b hb e => by
      have ha : a ∈ ps := hp.mem_iff.mpr ha
      have hb : b ∈ ps := hp.mem_iff.mpr hb
      have e : ps.idxOf a = ps.idxOf b := by have e : (ps.idxOf a : Int) = ps.idxOf b := e; omega
      have h1 := List.getElem_idxOf (idx_lt2 ha)
      have h2 := List.getElem_idxOf (idx_lt2 hb)
      rw [← h1, ← h2]
      simp only [e]) (rngnd 0 n)) (by unfold backL; rw [List.length_map, rangeI_len]) fun v hv => by
    obtain ⟨k, hk, rfl⟩ := List.mem_map.mp hv
    have := idx_lt2 (hp.mem_iff.mpr hk)
    omega
  rw [Int.toNat_natCast] at this
  exact this
end LB

set_option Elab.async false
set_option linter.all false
set_option maxRecDepth 100000
namespace LB
open PySem TL
structure Lk (W U : Wd) (t : List Int) : Prop where
  len : (t.length : Int) = W.n
  nn : W.n = U.n
  rg : InR U.n t
  ft : ∀ i j, 0 ≤ i → i < W.n → 0 ≤ j → j < W.n → fitB W U (i, nmI t i) (j, nmI t j) = true
theorem Lk.r {W U : Wd} {t : List Int} (h : Lk W U t) {i : Int} (h0 : 0 ≤ i) (h1 : i < W.n) : 0 ≤ nmI t i ∧ nmI t i < U.n := h.rg.get (x := i) (by have := h.len; omega) h0
theorem Lk.inj {W U : Wd} {t : List Int} (h : Lk W U t) {i j : Int} (i0 : 0 ≤ i) (i1 : i < W.n) (j0 : 0 ≤ j) (j1 : j < W.n) (e : nmI t i = nmI t j) : i = j := (fit_iff.mp (h.ft i j i0 i1 j0 j1)).1.mpr e
theorem nm_get {t : List Int} {i : Nat} (h : i < t.length) : nmI t (i : Int) = t[i] := by
  show t.getD (i : Int).toNat 0 = _
  rw [Int.toNat_natCast, List.getD_eq_getElem?_getD, List.getElem?_eq_getElem h]
  rfl
theorem Lk.perm {W U : Wd} {t : List Int} (h : Lk W U t) (w0 : 0 ≤ W.n) : t.Perm (rangeI 0 W.n.toNat) := by
  refine perm_rng w0 ?_ h.len (by rw [h.nn]; exact h.rg)
  rw [List.Nodup, List.pairwise_iff_getElem]
  intro i j hi hj hij e
  have hl := h.len
  have := h.inj (i := (i : Int)) (j := (j : Int)) (by omega) (by omega) (by omega) (by omega) (by rw [nm_get hi, nm_get hj, e])
  omega
theorem Lk.sym {W U : Wd} {t : List Int} (h : Lk W U t) (w0 : 0 ≤ W.n) : Lk U W (backL t W.n.toNat) ∧ ∀ i, 0 ≤ i → i < W.n → nmI (backL t W.n.toNat) (nmI t i) = i := by
  have hp := h.perm w0
  have bp := back_perm hp
  have bl : (backL t W.n.toNat).length = W.n.toNat := by rw [bp.length_eq, rangeI_len]
  have bk : ∀ i, 0 ≤ i → i < W.n → nmI (backL t W.n.toNat) (nmI t i) = i := fun i h0 h1 => back_nm hp h0 (by omega)
  have sur : ∀ v, 0 ≤ v → v < U.n → ∃ i, 0 ≤ i ∧ i < W.n ∧ nmI t i = v := fun v v0 v1 => by
    have hv : v ∈ t := hp.mem_iff.mpr (rangeI_mem.mpr ⟨v0, by have := h.nn; omega⟩)
    obtain ⟨i, hi⟩ := List.mem_iff_getElem?.mp hv
    have hl := (List.getElem?_eq_some_iff.mp hi).1
    have := h.len
    exact ⟨(i : Int), by omega, by omega, by rw [nm_get hl]; exact (List.getElem?_eq_some_iff.mp hi).2⟩
  refine ⟨⟨by rw [bl, h.nn]; have := h.nn; omega, h.nn.symm, fun v hv => ?_, fun i j i0 i1 j0 j1 => ?_⟩, bk⟩
  · have := rangeI_mem.mp (bp.mem_iff.mp hv)
    omega
  · obtain ⟨p, p0, p1, rfl⟩ := sur i i0 i1
    obtain ⟨q, q0, q1, rfl⟩ := sur j j0 j1
    rw [bk p p0 p1, bk q q0 q1, fit_swap]
    exact h.ft p q p0 p1 q0 q1
theorem fit_tr {W U V : Wd} {a b c a' b' c' : Int} (h1 : fitB W U (a, b) (a', b') = true) (h2 : fitB U V (b, c) (b', c') = true) : fitB W V (a, c) (a', c') = true := by
  obtain ⟨x1, x2, x3, x4, x5⟩ := fit_iff.mp h1
  obtain ⟨y1, y2, y3, y4, y5⟩ := fit_iff.mp h2
  exact fit_iff.mpr ⟨x1.trans y1, x2.trans y2, x3.trans y3, x4.trans y4, x5.trans y5⟩
theorem Lk.trans {W U V : Wd} {t s : List Int} (h : Lk W U t) (g : Lk U V s) : Lk W V (t.map (nmI s)) ∧ ∀ i, 0 ≤ i → i < W.n → nmI (t.map (nmI s)) i = nmI s (nmI t i) := by
  have nm : ∀ i, 0 ≤ i → i < W.n → nmI (t.map (nmI s)) i = nmI s (nmI t i) := fun i h0 h1 => getD_mapI h0 (by have := h.len; omega)
  refine ⟨⟨by rw [List.length_map]; exact h.len, h.nn.trans g.nn, fun v hv => ?_, fun i j i0 i1 j0 j1 => ?_⟩, nm⟩
  · obtain ⟨x, hx, rfl⟩ := List.mem_map.mp hv
    have := h.rg x hx
    exact g.r this.1 this.2
  · rw [nm i i0 i1, nm j j0 j1]
    have ri := h.r i0 i1
    have rj := h.r j0 j1
    exact fit_tr (h.ft i j i0 i1 j0 j1) (g.ft _ _ ri.1 ri.2 rj.1 rj.2)
theorem rng_nm {n : Nat} {i : Int} (h0 : 0 ≤ i) (h1 : i < n) : nmI (rangeI 0 n) i = i := by
  show (rangeI 0 n).getD i.toNat 0 = i
  rw [List.getD_eq_getElem?_getD, rangeI_get (by omega)]
  show (0 : Int) + (i.toNat : Int) = i
  omega
theorem Lk.refl {W : Wd} (w0 : 0 ≤ W.n) : Lk W W (rangeI 0 W.n.toNat) := by
  refine ⟨by rw [rangeI_len]; omega, rfl, fun v hv => by have := rangeI_mem.mp hv; omega, fun i j i0 i1 j0 j1 => ?_⟩
  rw [rng_nm i0 (by omega), rng_nm j0 (by omega)]
  exact fit_iff.mpr ⟨Iff.rfl, Iff.rfl, Iff.rfl, Iff.rfl, Iff.rfl⟩
theorem mem_lkL {W U : Wd} (wok : W.Ok) (uok : U.Ok) (e : W.n = U.n) {t : List Int} : t ∈ lk W U W.n.toNat [] ↔ Lk W U t := by
  have lo := wok.lo
  rw [lk_ways wok uok, waysW_mem]
  unfold goW
  constructor
  · rintro ⟨h1, h2, h3⟩
    have hm : ∀ x : Int, 0 ≤ x → x < W.n → (x, nmI t x) ∈ prsT t := fun x x0 x1 => List.mem_map.mpr ⟨x, rangeI_mem.mpr (by omega), rfl⟩
    exact ⟨by omega, e, h2, fun i j i0 i1 j0 j1 => List.all_eq_true.mp (List.all_eq_true.mp h3 _ (hm i i0 i1)) _ (hm j j0 j1)⟩
  · intro h
    have hl := h.len
    refine ⟨by omega, h.rg, ?_⟩
    rw [List.all_eq_true]
    intro p hp
    rw [List.all_eq_true]
    intro q hq
    obtain ⟨i, hi, rfl⟩ := List.mem_map.mp hp
    obtain ⟨j, hj, rfl⟩ := List.mem_map.mp hq
    have hi := rangeI_mem.mp hi
    have hj := rangeI_mem.mp hj
    exact h.ft i j (by omega) (by omega) (by omega) (by omega)
structure It' (w : Wd) (a : Int) : Prop where
  ok : w.Ok
  h0 : 0 ≤ a
  h1 : a < w.n
theorem It'.len {w : Wd} {a : Int} (i : It' w a) (r : Nat) : 1 ≤ (ballL w a r).length ∧ (ballL w a r).length ≤ 8 := by
  have := ball_len i.ok a r
  have := i.ok.hi
  exact ⟨List.length_pos_iff_exists_mem.mpr ⟨a, ball_self ⟨i.h0, i.h1⟩ r⟩, by omega⟩
theorem It'.pok {w : Wd} {a : Int} (i : It' w a) (r : Nat) : (part w (ballL w a r)).Ok := part_Ok (i.len r).1 (i.len r).2
theorem It'.ix {w : Wd} {a : Int} (i : It' w a) (r : Nat) : (ballL w a r).idxOf a < (ballL w a r).length := idx_lt2 (ball_self ⟨i.h0, i.h1⟩ r)
theorem alike_iff {w u : Wd} {a b : Int} (i : It' w a) (j : It' u b) (r : Nat) : alikeB w a u b r = true ↔ ∃ t, Lk (part w (ballL w a r)) (part u (ballL u b r)) t ∧ nmI t ((ballL w a r).idxOf a) = ((ballL u b r).idxOf b : Int) := by
  unfold alikeB
  rw [Bool.and_eq_true, decide_eq_true_eq, List.any_eq_true]
  constructor
  · rintro ⟨h1, t, h2, h3⟩
    exact ⟨t, (mem_lkL (i.pok r) (j.pok r) (by show ((ballL w a r).length : Int) = (ballL u b r).length; omega)).mp h2, of_decide_eq_true h3⟩
  · rintro ⟨t, h1, h2⟩
    have e : ((ballL w a r).length : Int) = (ballL u b r).length := h1.nn
    exact ⟨by omega, t, (mem_lkL (i.pok r) (j.pok r) e).mpr h1, decide_eq_true h2⟩
theorem alike_refl {w : Wd} {a : Int} (i : It' w a) (r : Nat) : alikeB w a w a r = true := by
  have := i.ix r
  exact (alike_iff i i r).mpr ⟨_, .refl (by show (0 : Int) ≤ ((ballL w a r).length : Int); omega), rng_nm (by omega) (by show _ < ((((ballL w a r).length : Int)).toNat : Int); omega)⟩
theorem alike_symm {w u : Wd} {a b : Int} (i : It' w a) (j : It' u b) {r : Nat} (h : alikeB w a u b r = true) : alikeB u b w a r = true := by
  obtain ⟨t, h1, h2⟩ := (alike_iff i j r).mp h
  obtain ⟨h3, h4⟩ := h1.sym (by show (0 : Int) ≤ ((ballL w a r).length : Int); omega)
  refine (alike_iff j i r).mpr ⟨_, h3, ?_⟩
  rw [← h2]
  have := i.ix r
  exact h4 _ (by omega) (by show _ < ((ballL w a r).length : Int); omega)
theorem alike_trans {w u v : Wd} {a b c : Int} (i : It' w a) (j : It' u b) (k : It' v c) {r : Nat} (h : alikeB w a u b r = true) (g : alikeB u b v c r = true) : alikeB w a v c r = true := by
  obtain ⟨t, h1, h2⟩ := (alike_iff i j r).mp h
  obtain ⟨s, g1, g2⟩ := (alike_iff j k r).mp g
  obtain ⟨h3, h4⟩ := h1.trans g1
  have := i.ix r
  exact (alike_iff i k r).mpr ⟨_, h3, by rw [h4 _ (by omega) (by show _ < ((ballL w a r).length : Int); omega), h2, g2]⟩
theorem alike_comm {w u : Wd} {a b : Int} (i : It' w a) (j : It' u b) (r : Nat) : alikeB w a u b r = alikeB u b w a r := Bool.eq_iff_iff.mpr ⟨alike_symm i j, alike_symm j i⟩
def knd (v : Wd) (z : Int) (x : Wd) (r : Nat) : List Int := (rangeI 0 x.n.toNat).filter fun y => alikeB v z x y r
theorem knd_mem {v x : Wd} {z y : Int} {r : Nat} : y ∈ knd v z x r ↔ (0 ≤ y ∧ y < x.n) ∧ alikeB v z x y r = true := by
  unfold knd
  rw [List.mem_filter, rangeI_mem]
  constructor
  · rintro ⟨h1, h2⟩
    exact ⟨by omega, h2⟩
  · rintro ⟨h1, h2⟩
    exact ⟨by omega, h2⟩
theorem knd_nd (v : Wd) (z : Int) (x : Wd) (r : Nat) : (knd v z x r).Nodup := (rngnd _ _).filter _
structure Mt (w u : Wd) (r : Nat) (nm : List Int) : Prop where
  nd : nm.Nodup
  al : ∀ i : Int, 0 ≤ i → i < nm.length → (0 ≤ nmI nm i ∧ nmI nm i < u.n) ∧ alikeB w i u (nmI nm i) r = true
theorem Mt.next {w u : Wd} (wok : w.Ok) (uok : u.Ok) {r : Nat} {nm : List Int} (m : Mt w u r nm) {k : Int} (hk : k = nm.length) (hkn : k < w.n) (hc : (knd w k w r).length ≤ (knd w k u r).length) : ∃ b, b ∈ knd w k u r ∧ b ∉ nm := by
  have ik : It' w k := ⟨wok, by omega, hkn⟩
  refine Classical.byContradiction fun no => ?_
  have sub : ∀ b ∈ knd w k u r, b ∈ ((knd w k w r).erase k).map (nmI nm) := fun b hb => by
    have hbn : b ∈ nm := Classical.byContradiction fun z => no ⟨b, hb, z⟩
    obtain ⟨hb1, hb2⟩ := knd_mem.mp hb
    have jb : It' u b := ⟨uok, hb1.1, hb1.2⟩
    obtain ⟨i, hi⟩ := List.mem_iff_getElem?.mp hbn
    have hl := (List.getElem?_eq_some_iff.mp hi).1
    have e : nmI nm (i : Int) = b := by rw [nm_get hl]; exact (List.getElem?_eq_some_iff.mp hi).2
    have ia := (m.al (i : Int) (by omega) (by omega)).2
    rw [e] at ia
    have ii : It' w (i : Int) := ⟨wok, by omega, by omega⟩
    have hki := alike_trans ik jb ii hb2 (alike_symm ii jb ia)
    refine List.mem_map.mpr ⟨(i : Int), ?_, e⟩
    rw [(knd_nd w k w r).mem_erase_iff]
    exact ⟨by omega, knd_mem.mpr ⟨⟨by omega, by omega⟩, hki⟩⟩
  have h1 := nodup_leM (knd_nd w k u r) sub
  have hm : k ∈ knd w k w r := knd_mem.mpr ⟨⟨ik.h0, hkn⟩, alike_refl ik r⟩
  rw [List.length_map, List.length_erase_of_mem hm] at h1
  have : 0 < (knd w k w r).length := List.length_pos_iff_exists_mem.mpr ⟨k, hm⟩
  omega
theorem Mt.snoc {w u : Wd} {r : Nat} {nm : List Int} (m : Mt w u r nm) {k b : Int} (hk : k = nm.length) (hb : b ∈ knd w k u r) (hn : b ∉ nm) : Mt w u r (nm ++ [b]) := by
  obtain ⟨h1, h2⟩ := knd_mem.mp hb
  refine ⟨nodup_snoc.mpr ⟨m.nd, hn⟩, fun i h0 hi => ?_⟩
  rw [List.length_append, List.length_singleton] at hi
  by_cases e : i = nm.length
  · have : nmI (nm ++ [b]) i = b := by
      show (nm ++ [b]).getD i.toNat 0 = b
      rw [List.getD_eq_getElem?_getD, List.getElem?_append_right (by omega), e, Int.toNat_natCast, Nat.sub_self]
      rfl
    rw [this, e, ← hk]
    exact ⟨h1, h2⟩
  · have : nmI (nm ++ [b]) i = nmI nm i := by
      show (nm ++ [b]).getD i.toNat 0 = nm.getD i.toNat 0
      rw [List.getD_eq_getElem?_getD, List.getD_eq_getElem?_getD, List.getElem?_append_left (by omega)]
    rw [this]
    exact m.al i h0 (by omega)
theorem Mt.nil {w u : Wd} {r : Nat} : Mt w u r [] := ⟨.nil, fun i h0 h1 => by have : i < 0 := h1; omega⟩
theorem Mt.ex {w u : Wd} (wok : w.Ok) (uok : u.Ok) {r : Nat} (hc : ∀ k, 0 ≤ k → k < w.n → (knd w k w r).length ≤ (knd w k u r).length) : ∀ n : Nat, (n : Int) ≤ w.n → ∃ nm, nm.length = n ∧ Mt w u r nm
  | 0, _ => ⟨[], rfl, .nil⟩
  | n + 1, hn => by
    obtain ⟨nm, h1, h2⟩ := Mt.ex wok uok hc n (by omega)
    obtain ⟨b, h3, h4⟩ := h2.next wok uok (k := (n : Int)) (by omega) (by omega) (hc n (by omega) (by omega))
    exact ⟨nm ++ [b], by rw [List.length_append, h1]; rfl, h2.snoc (by omega) h3 h4⟩
theorem Mt.le {w u : Wd} {r : Nat} {nm : List Int} (m : Mt w u r nm) : nm.length ≤ u.n.toNat := by
  have := nodup_leM m.nd (m := rangeI 0 u.n.toNat) fun v hv => by
    obtain ⟨i, hi⟩ := List.mem_iff_getElem?.mp hv
    have hl := (List.getElem?_eq_some_iff.mp hi).1
    have e : nmI nm (i : Int) = v := by rw [nm_get hl]; exact (List.getElem?_eq_some_iff.mp hi).2
    have := (m.al (i : Int) (by omega) (by omega)).1
    rw [e] at this
    exact rangeI_mem.mpr (by omega)
  rw [rangeI_len] at this
  exact this
theorem Mt.perm {w u : Wd} {r : Nat} {nm : List Int} (m : Mt w u r nm) (hl : (nm.length : Int) = u.n) (u0 : 0 ≤ u.n) : nm.Perm (rangeI 0 u.n.toNat) := perm_rng u0 m.nd hl fun v hv => by
  obtain ⟨i, hi⟩ := List.mem_iff_getElem?.mp hv
  have hl := (List.getElem?_eq_some_iff.mp hi).1
  have e : nmI nm (i : Int) = v := by rw [nm_get hl]; exact (List.getElem?_eq_some_iff.mp hi).2
  have := (m.al (i : Int) (by omega) (by omega)).1
  rw [e] at this
  exact this
theorem fair_size {w u : Wd} (wok : w.Ok) (uok : u.Ok) {r : Nat} (hc : ∀ k, 0 ≤ k → k < w.n → (knd w k w r).length = (knd w k u r).length) (hd : ∀ k, 0 ≤ k → k < u.n → (knd u k w r).length = (knd u k u r).length) : w.n = u.n := by
  have := wok.lo
  have := uok.lo
  obtain ⟨nm, h1, h2⟩ := Mt.ex wok uok (fun k h0 h1 => Nat.le_of_eq (hc k h0 h1)) w.n.toNat (by omega)
  obtain ⟨nm', h1', h2'⟩ := Mt.ex uok wok (fun k h0 h1 => Nat.le_of_eq (hd k h0 h1).symm) u.n.toNat (by omega)
  have := h2.le
  have := h2'.le
  omega
end LB

set_option Elab.async false
set_option linter.all false
set_option maxRecDepth 100000
namespace LB
open PySem TL
theorem for_or {α : Type} {g : SG} {body : SS} (ι : α → D) (I : TL.Env → Prop) (P : α → Prop) (B : D → Prop) : ∀ (xs : List α) (env : TL.Env), I env →
    (∀ x ∈ xs, ∀ env, I env → ∃ e1, g (ι x) env = some e1 ∧ ((P x ∧ ∃ e2, body e1 = some (.nx e2) ∧ I e2) ∨ ∃ d, B d ∧ body e1 = some (.rt d))) →
    ((∀ x ∈ xs, P x) ∧ ∃ e, forGo g body (xs.map ι) env = some (.nx e) ∧ I e) ∨ ∃ d, B d ∧ forGo g body (xs.map ι) env = some (.rt d)
  | [], env, h, _ => .inl ⟨(fun _ h => by cases h), env, rfl, h⟩
  | x :: xs, env, h, step => by
    obtain ⟨e1, h1, h2⟩ := step x List.mem_cons_self env h
    rcases h2 with ⟨hp, e2, h3, h4⟩ | ⟨d, hd, h3⟩
    · rcases for_or ι I P B xs e2 h4 (fun y hy => step y (List.mem_cons_of_mem _ hy)) with ⟨h5, e, h6, h7⟩ | ⟨d, h5, h6⟩
      · exact .inl ⟨fun y hy => (List.mem_cons.mp hy).elim (fun e => e ▸ hp) (h5 y), e, by rw [List.map_cons]; exact for_cons h1 h3 h6, h7⟩
      · exact .inr ⟨d, h5, by rw [List.map_cons]; exact for_cons h1 h3 h6⟩
    · refine .inr ⟨d, hd, ?_⟩
      rw [List.map_cons]
      simp only [forGo, h1, Option.bind_some, h3]
def mineW (s : Bool) (w u : Wd) : Wd := if s then u else w
section
variable {w u : Wd} (wok : w.Ok) (uok : u.Ok) (w5 : w.n ≤ 5) (u5 : u.n ≤ 5) (r : Nat)
include wok uok w5 u5
inductive NearR (w u : Wd) (r : Nat) : D → Prop
  | counted (s : Bool) (item : Int) : It' (mineW s w u) item → (knd (mineW s w u) item w r).length ≠ (knd (mineW s w u) item u r).length → NearR w u r (.tuple [.str "counted", .int (sideI s), .int item])
  | matched (nm : List Int) : (∀ k, 0 ≤ k → k < w.n → (knd w k w r).length = (knd w k u r).length) → (∀ k, 0 ≤ k → k < u.n → (knd u k w r).length = (knd u k u r).length) → (nm.length : Int) = w.n → Mt w u r nm → NearR w u r (.tuple [.str "matched", tI nm])
end
end LB

set_option Elab.async false
set_option linter.all false
set_option maxRecDepth 100000
namespace LB
open PySem TL
end LB

set_option Elab.async false
set_option linter.all false
set_option maxRecDepth 100000
namespace LB
open PySem TL
local macro_rules | `(tactic| walk_at "ev") => `(tactic| simp only [List.length_cons, List.length_nil, if_true, List.map_cons, List.map_nil, List.replicate, List.cons_append, List.nil_append, sSeq, sAsg, eLst, eTup, eArgs, Option.bind_some, Option.map_some, eC, eVar, eCall, e1, e2, eIf, eAnd, eOr, eNot, eChain, TL.gName, TL.gTup, gAll, List.getD_cons_zero, List.getD_cons_succ, List.set_cons_zero, List.set_cons_succ, sFor, iRng1, iRng2, iSeq, itemsD, toI, toB, sIf, sRet, sNext, tV, TL.tAnd, TL.tOr, TL.tNot, add_i, sub_i, lt_i, le_i, gt_i, ge_i, eq_i, ne_i, int_i, len_l, len_t, tuple_l, tuple_t, list_l, list_t, outD, Bool.false_eq_true, if_false, sApp, Nat.zero_le, wipeE, cYes, eSlice, ePart])
def sz : Nat → D → Nat
  | n + 1, .tuple ds => 1 + (ds.map (sz n)).sum
  | _, _ => 1
theorem both {P Q : D → Prop} {l : List D} (hq : ∀ x ∈ l, Q x) (hp : ∀ x ∈ l, P x) : ∀ x ∈ l, P x ∧ Q x := fun x hx => ⟨hp x hx, hq x hx⟩
end LB

set_option Elab.async false
set_option linter.all false
set_option maxRecDepth 100000
namespace LB
open PySem TL
section
variable {way : Bool} {w u : Wd} {t : List Int} (ht : t ∈ waysW way w u w.n.toNat)
include ht
end
end LB

set_option Elab.async false
set_option linter.all false
set_option maxRecDepth 100000
namespace LB
open PySem TL
end LB

set_option Elab.async false
set_option linter.all false
set_option maxRecDepth 100000
namespace LB
open PySem TL
section
variable {w u : Wd} (wok : w.Ok) (uok : u.Ok) (w5 : w.n ≤ 5) (u5 : u.n ≤ 5) (r : Nat)
include wok uok w5 u5
end
end LB

set_option Elab.async false
set_option linter.all false
set_option maxRecDepth 100000
namespace LB
open PySem TL
section
variable {w u : Wd} (wok : w.Ok) (uok : u.Ok) (w5 : w.n ≤ 5) (u5 : u.n ≤ 5) (r : Nat)
include wok uok w5 u5
end
end LB

set_option Elab.async false
set_option linter.all false
set_option maxRecDepth 100000
namespace LB
open PySem TL
theorem rat_gt {l : List Int} {i : Int} (h0 : 0 ≤ i) (h1 : i < l.length) : ∃ h : i.toNat < l.length, rat l i = l[i.toNat] := by
  have h : i.toNat < l.length := by omega
  refine ⟨h, ?_⟩
  show l.getD i.toNat 0 = _
  rw [List.getD_eq_getElem?_getD, List.getElem?_eq_getElem h]
  rfl
theorem part_ar {w : Wd} {X : List Int} {i j : Int} (i0 : 0 ≤ i) (i1 : i < X.length) (j0 : 0 ≤ j) (j1 : j < X.length) : (i, j) ∈ (part w X).ar ↔ (rat X i, rat X j) ∈ w.ar := by
  simp only [part, List.mem_flatMap, List.mem_map, List.mem_filter, decide_eq_true_iff, rangeI_mem, Prod.mk.injEq]
  constructor
  · rintro ⟨j', hj, k, ⟨hk, h⟩, rfl, rfl⟩
    exact h
  · intro h
    exact ⟨_, ⟨i0, by omega⟩, _, ⟨⟨j0, by omega⟩, h⟩, rfl, rfl⟩
theorem part_m0 {w : Wd} {X : List Int} {i : Int} (i0 : 0 ≤ i) (i1 : i < X.length) : (i ∈ (part w X).m0 ↔ rat X i ∈ w.m0) ∧ (i ∈ (part w X).m1 ↔ rat X i ∈ w.m1) := by
  simp only [part, List.mem_filter, decide_eq_true_iff, rangeI_mem]
  exact ⟨⟨fun h => h.2, fun h => ⟨⟨i0, by omega⟩, h⟩⟩, ⟨fun h => h.2, fun h => ⟨⟨i0, by omega⟩, h⟩⟩⟩
theorem rat_inj {X : List Int} (hn : X.Nodup) {i j : Int} (i0 : 0 ≤ i) (i1 : i < X.length) (j0 : 0 ≤ j) (j1 : j < X.length) : rat X i = rat X j ↔ i = j := by
  obtain ⟨h1, e1⟩ := rat_gt i0 i1
  obtain ⟨h2, e2⟩ := rat_gt j0 j1
  rw [e1, e2, List.getElem_inj hn]
  omega
theorem fit_part {w u : Wd} {X Y : List Int} (hX : X.Nodup) (hY : Y.Nodup) {i i' j j' : Int} (i0 : 0 ≤ i) (i1 : i < X.length) (j0 : 0 ≤ j) (j1 : j < X.length) (i0' : 0 ≤ i') (i1' : i' < Y.length) (j0' : 0 ≤ j') (j1' : j' < Y.length) (h : fitB (part w X) (part u Y) (i, i') (j, j') = true) :
    fitB w u (rat X i, rat Y i') (rat X j, rat Y j') = true := by
  obtain ⟨h1, h2, h3, h4, h5⟩ := fit_iff.mp h
  refine fit_iff.mpr ⟨?_, ?_, ?_, ?_, ?_⟩
  · rw [rat_inj hX i0 i1 j0 j1, rat_inj hY i0' i1' j0' j1']
    exact h1
  · rw [← (part_m0 i0 i1).1, ← (part_m0 i0' i1').1]
    exact h2
  · rw [← (part_m0 i0 i1).2, ← (part_m0 i0' i1').2]
    exact h3
  · rw [← part_ar i0 i1 j0 j1, ← part_ar i0' i1' j0' j1']
    exact h4
  · rw [← part_ar j0 j1 i0 i1, ← part_ar j0' j1' i0' i1']
    exact h5
theorem rat_idx {X : List Int} {a : Int} (h : a ∈ X) : rat X (X.idxOf a : Nat) = a := by
  have hl := idx_lt2 h
  obtain ⟨h1, e1⟩ := rat_gt (l := X) (i := (X.idxOf a : Nat)) (by omega) (by omega)
  rw [e1]
  simp
structure Loc (w u : Wd) (a b : Int) (r : Nat) (G : Int → Int → Prop) : Prop where
  ab : G a b
  rg : ∀ {x y}, G x y → (0 ≤ x ∧ x < w.n) ∧ (0 ≤ y ∧ y < u.n)
  fwd : ∀ x, x ∈ ballL w a r → ∃ y, G x y
  bwd : ∀ y, y ∈ ballL u b r → ∃ x, G x y
  ft : ∀ {x y x' y'}, G x y → G x' y' → fitB w u (x, y) (x', y') = true
theorem alike_loc {w u : Wd} {a b : Int} (i : It' w a) (j : It' u b) {r : Nat} (h : alikeB w a u b r = true) : ∃ G, Loc w u a b r G := by
  obtain ⟨t, ht, hab⟩ := (alike_iff i j r).mp h
  let X := ballL w a r
  let Y := ballL u b r
  have hX : X.Nodup := ball_nodup w a r
  have hY : Y.Nodup := ball_nodup u b r
  have wn : (part w X).n = (X.length : Int) := rfl
  have un : (part u Y).n = (Y.length : Int) := rfl
  have rng : ∀ k : Int, 0 ≤ k → k < X.length → 0 ≤ nmI t k ∧ nmI t k < Y.length := fun k k0 k1 => ht.r k0 k1
  have aX : a ∈ X := ball_self ⟨i.h0, i.h1⟩ r
  have bY : b ∈ Y := ball_self ⟨j.h0, j.h1⟩ r
  have mX : ∀ {k : Int}, 0 ≤ k → k < X.length → rat X k ∈ X := fun {k} k0 k1 => by
    obtain ⟨h1, e⟩ := rat_gt k0 k1
    rw [e]
    exact List.getElem_mem h1
  have mY : ∀ {k : Int}, 0 ≤ k → k < Y.length → rat Y k ∈ Y := fun {k} k0 k1 => by
    obtain ⟨h1, e⟩ := rat_gt k0 k1
    rw [e]
    exact List.getElem_mem h1
  have aI := idx_lt2 aX
  refine ⟨fun x y => ∃ k : Int, 0 ≤ k ∧ k < X.length ∧ x = rat X k ∧ y = rat Y (nmI t k), ⟨(X.idxOf a : Nat), Int.natCast_nonneg _, Int.ofNat_lt.mpr aI, (rat_idx aX).symm, ?_⟩, ?_, ?_, ?_, ?_⟩
  · rw [hab]
    exact (rat_idx bY).symm
  · rintro x y ⟨k, k0, k1, rfl, rfl⟩
    exact ⟨(ball_mem.mp (mX k0 k1)).1, (ball_mem.mp (mY (rng k k0 k1).1 (rng k k0 k1).2)).1⟩
  · intro x hx
    exact ⟨_, (X.idxOf x : Nat), Int.natCast_nonneg _, Int.ofNat_lt.mpr (idx_lt2 hx), (rat_idx hx).symm, rfl⟩
  · intro y hy
    have hy2 : Y.idxOf y < Y.length := idx_lt2 hy
    have hp := ht.perm (by rw [wn]; omega)
    have hm : ((Y.idxOf y : Nat) : Int) ∈ t := hp.mem_iff.mpr (rangeI_mem.mpr ⟨by omega, by
      have e : (X.length : Int) = Y.length := ht.nn
      rw [wn]
      omega⟩)
    obtain ⟨n, hn, e⟩ := List.getElem_of_mem hm
    have tl : (t.length : Int) = X.length := ht.len
    refine ⟨_, (n : Int), by omega, by omega, rfl, ?_⟩
    rw [nm_get hn, e]
    exact (rat_idx hy).symm
  · rintro x y x' y' ⟨k, k0, k1, rfl, rfl⟩ ⟨l, l0, l1, rfl, rfl⟩
    exact fit_part hX hY k0 k1 l0 l1 (rng k k0 k1).1 (rng k k0 k1).2 (rng l l0 l1).1 (rng l l0 l1).2 (ht.ft k l k0 k1 l0 l1)
theorem Loc.sym {w u : Wd} {a b : Int} {r : Nat} {G : Int → Int → Prop} (h : Loc w u a b r G) : Loc u w b a r fun y x => G x y :=
  ⟨h.ab, fun g => (h.rg g).symm, h.bwd, h.fwd, fun {x y x' y'} g g' => by
    obtain ⟨h1, h2, h3, h4, h5⟩ := fit_iff.mp (h.ft g g')
    exact fit_iff.mpr ⟨h1.symm, h2.symm, h3.symm, h4.symm, h5.symm⟩⟩
def sameT (w u : Wd) (x y : Int) : Prop := fitB w u (x, y) (x, y) = true
theorem sameT_iff {w u : Wd} {x y : Int} : sameT w u x y ↔ (x ∈ w.m0 ↔ y ∈ u.m0) ∧ (x ∈ w.m1 ↔ y ∈ u.m1) ∧ ((x, x) ∈ w.ar ↔ (y, y) ∈ u.ar) := by
  unfold sameT
  rw [fit_iff]
  exact ⟨fun h => ⟨h.2.1, h.2.2.1, h.2.2.2.1⟩, fun h => ⟨⟨fun _ => rfl, fun _ => rfl⟩, h.1, h.2.1, h.2.2, h.2.2⟩⟩
theorem sameT_tr {w u v : Wd} {x y z : Int} (h : sameT w u x y) (g : sameT u v y z) : sameT w v x z := by
  rw [sameT_iff] at *
  exact ⟨h.1.trans g.1, h.2.1.trans g.2.1, h.2.2.trans g.2.2⟩
theorem sameT_sy {w u : Wd} {x y : Int} (h : sameT w u x y) : sameT u w y x := by
  rw [sameT_iff] at *
  exact ⟨h.1.symm, h.2.1.symm, h.2.2.symm⟩
def clo (w : Wd) (a x : Int) : Prop := x = a ∨ (a, x) ∈ w.ar ∨ (x, a) ∈ w.ar
structure Full (w u : Wd) (f : Int → Int) : Prop where
  rg : ∀ x, 0 ≤ x ∧ x < w.n → (0 ≤ f x ∧ f x < u.n) ∧ sameT w u x (f x)
  inj : ∀ x y, (0 ≤ x ∧ x < w.n) → (0 ≤ y ∧ y < w.n) → f x = f y → x = y
theorem map_len {l m : List Int} (f : Int → Int) (hl : l.Nodup) (hi : ∀ x ∈ l, ∀ y ∈ l, f x = f y → x = y) (hm : ∀ x ∈ l, f x ∈ m) : l.length ≤ m.length := by
  have h1 : (l.map f).Nodup := by
    refine List.pairwise_map.mpr (List.Pairwise.imp_of_mem ?_ hl)
    intro x y hx hy hne e
    exact hne (hi x hx y hy e)
  have h2 : (l.map f).length ≤ m.length := h1.length_le_of_subset fun z hz => by
    obtain ⟨x, hx, rfl⟩ := List.mem_map.mp hz
    exact hm x hx
  rwa [List.length_map] at h2
open Classical in
theorem far_partner {w u : Wd} {f : Int → Int} (F : Full w u f) {a b : Int} {r : Nat} {G : Int → Int → Prop} (L : Loc w u a b r G) (hr : 1 ≤ r) (hb : 0 ≤ b ∧ b < u.n) {x : Int} (hx : 0 ≤ x ∧ x < w.n) (hn : ¬ clo w a x) :
    ∃ y, (0 ≤ y ∧ y < u.n) ∧ sameT w u x y ∧ ¬ clo u b y := by
  apply Classical.byContradiction
  intro hno
  have hno : ∀ y, (0 ≤ y ∧ y < u.n) → sameT w u x y → clo u b y := fun y h1 h2 => Classical.byContradiction fun h3 => hno ⟨y, h1, h2, h3⟩
  let Tw := (rangeI 0 w.n.toNat).filter fun z => decide (sameT w w x z)
  let Tu := (rangeI 0 u.n.toNat).filter fun z => decide (sameT w u x z)
  let Nw := Tw.filter fun z => decide (clo w a z)
  have mTw : ∀ {z}, z ∈ Tw ↔ (0 ≤ z ∧ z < w.n) ∧ sameT w w x z := fun {z} => by
    show z ∈ List.filter _ _ ↔ _
    rw [List.mem_filter, decide_eq_true_iff, rangeI_mem]
    refine and_congr ?_ Iff.rfl
    omega
  have mTu : ∀ {z}, z ∈ Tu ↔ (0 ≤ z ∧ z < u.n) ∧ sameT w u x z := fun {z} => by
    show z ∈ List.filter _ _ ↔ _
    rw [List.mem_filter, decide_eq_true_iff, rangeI_mem]
    refine and_congr ?_ Iff.rfl
    omega
  have nTw : Tw.Nodup := (rngnd _ _).filter _
  have nTu : Tu.Nodup := (rngnd _ _).filter _
  have l1 : Tw.length ≤ Tu.length := map_len f nTw (fun z hz z' hz' e => F.inj z z' (mTw.mp hz).1 (mTw.mp hz').1 e) fun z hz => by
    obtain ⟨h1, h2⟩ := mTw.mp hz
    exact mTu.mpr ⟨(F.rg z h1).1, sameT_tr h2 (F.rg z h1).2⟩
  -- back into the neighbours of a
  have near : ∀ y, y ∈ Tu → ∃ z, G z y ∧ z ∈ Nw := fun y hy => by
    obtain ⟨h1, h2⟩ := mTu.mp hy
    have hc := hno y h1 h2
    have hball : y ∈ ballL u b r := by
      refine ball_mem.mpr ⟨h1, Rb.le (j := 1) ?_ hr⟩
      rcases hc with e | e | e
      · exact Rb.le (j := 0) (decide_eq_true e) (by decide)
      all_goals
        by_cases hyb : y = b
        · exact Rb.le (j := 0) (decide_eq_true hyb) (by decide)
        · refine Rb.step (x := b) (decide_eq_true rfl) hb ?_
          unfold adjB
          simp [e, hyb]
    obtain ⟨z, hz⟩ := L.bwd y hball
    obtain ⟨f1, f2, f3, f4, f5⟩ := fit_iff.mp (L.ft hz L.ab)
    refine ⟨z, hz, List.mem_filter.mpr ⟨mTw.mpr ⟨(L.rg hz).1, sameT_tr h2 (sameT_sy (L.ft hz hz))⟩, decide_eq_true ?_⟩⟩
    rcases hc with e | e | e
    · exact .inl (f1.mpr e)
    · exact .inr (.inl (f5.mpr e))
    · exact .inr (.inr (f4.mpr e))
  have l2 : Tu.length ≤ Nw.length := by
    let g : Int → Int := fun y => if h : y ∈ Tu then (near y h).choose else 0
    refine map_len g nTu (fun y hy y' hy' e => ?_) fun y hy => ?_
    · have e1 : g y = (near y hy).choose := dif_pos hy
      have e2 : g y' = (near y' hy').choose := dif_pos hy'
      have g1 := (near y hy).choose_spec.1
      have g2 := (near y' hy').choose_spec.1
      rw [← e1] at g1
      rw [← e2, ← e] at g2
      exact (fit_iff.mp (L.ft g1 g2)).1.mp rfl
    · have e1 : g y = (near y hy).choose := dif_pos hy
      rw [e1]
      exact (near y hy).choose_spec.2
  have l3 : Nw.length < Tw.length := by
    refine List.length_filter_lt_length_iff_exists.mpr ⟨x, mTw.mpr ⟨hx, sameT_iff.mpr ⟨Iff.rfl, Iff.rfl, Iff.rfl⟩⟩, ?_⟩
    rw [decide_eq_true_iff]
    exact hn
  omega
theorem one_more {w u : Wd} {f : Int → Int} (F : Full w u f) {a b : Int} {r : Nat} {G : Int → Int → Prop} (L : Loc w u a b r G) (hr : 1 ≤ r) (ha : 0 ≤ a ∧ a < w.n) (hb : 0 ≤ b ∧ b < u.n) {x : Int} (hx : 0 ≤ x ∧ x < w.n) :
    ∃ y, (0 ≤ y ∧ y < u.n) ∧ growB w u [(a, b)] (x, y) = true := by
  by_cases hc : clo w a x
  · have hball : x ∈ ballL w a r := by
      refine ball_mem.mpr ⟨hx, Rb.le (j := 1) ?_ hr⟩
      rcases hc with e | e | e
      · exact Rb.le (j := 0) (decide_eq_true e) (by decide)
      all_goals
        by_cases hyb : x = a
        · exact Rb.le (j := 0) (decide_eq_true hyb) (by decide)
        · refine Rb.step (x := a) (decide_eq_true rfl) ha ?_
          unfold adjB
          simp [e, hyb]
    obtain ⟨y, hy⟩ := L.fwd x hball
    exact ⟨y, (L.rg hy).2, grow_iff.mpr ⟨L.ft hy hy, fun q hq => by rw [List.mem_singleton.mp hq]; exact L.ft hy L.ab⟩⟩
  · obtain ⟨y, h1, h2, h3⟩ := far_partner F L hr hb hx hc
    refine ⟨y, h1, grow_iff.mpr ⟨h2, fun q hq => ?_⟩⟩
    rw [List.mem_singleton.mp hq]
    have n1 : ¬ x = a := fun e => hc (.inl e)
    have n2 : ¬ (a, x) ∈ w.ar := fun e => hc (.inr (.inl e))
    have n3 : ¬ (x, a) ∈ w.ar := fun e => hc (.inr (.inr e))
    have m1 : ¬ y = b := fun e => h3 (.inl e)
    have m2 : ¬ (b, y) ∈ u.ar := fun e => h3 (.inr (.inl e))
    have m3 : ¬ (y, b) ∈ u.ar := fun e => h3 (.inr (.inr e))
    obtain ⟨t1, t2, t3⟩ := sameT_iff.mp h2
    exact fit_iff.mpr ⟨by simp [n1, m1], t1, t2, by simp [n3, m3], by simp [n2, m2]⟩
theorem grow_swap {w u : Wd} {a b x y : Int} (h : growB u w [(b, a)] (y, x) = true) : growB w u [(a, b)] (x, y) = true := by
  obtain ⟨h1, h2⟩ := grow_iff.mp h
  have sw : ∀ {x y x' y' : Int}, fitB u w (y, x) (y', x') = true → fitB w u (x, y) (x', y') = true := fun {x y x' y'} h => by
    obtain ⟨h1, h2, h3, h4, h5⟩ := fit_iff.mp h
    exact fit_iff.mpr ⟨h1.symm, h2.symm, h3.symm, h4.symm, h5.symm⟩
  exact grow_iff.mpr ⟨sw h1, fun q hq => by
    rw [List.mem_singleton.mp hq]
    exact sw (h2 _ (List.mem_singleton.mpr rfl))⟩
theorem one_round {w u : Wd} {f g : Int → Int} (F : Full w u f) (B : Full u w g) {a b : Int} {r : Nat} (hr : 1 ≤ r) (i : It' w a) (j : It' u b) (h : alikeB w a u b r = true) : canB w u 1 [(a, b)] = true := by
  obtain ⟨G, L⟩ := alike_loc i j h
  refine can_iff.mpr ⟨fun x hx => ?_, fun y hy => ?_⟩
  · obtain ⟨y, h1, h2⟩ := one_more F L hr ⟨i.h0, i.h1⟩ ⟨j.h0, j.h1⟩ hx
    exact ⟨y, h1, h2, rfl⟩
  · obtain ⟨x, h1, h2⟩ := one_more B L.sym hr ⟨j.h0, j.h1⟩ ⟨i.h0, i.h1⟩ hy
    exact ⟨x, h1, grow_swap h2, rfl⟩
theorem alike_same {w u : Wd} {a b : Int} (i : It' w a) (j : It' u b) {r : Nat} (h : alikeB w a u b r = true) : sameT w u a b := by
  obtain ⟨G, L⟩ := alike_loc i j h
  exact L.ft L.ab L.ab
theorem put_nil (p : Int × Int) : putP [] p = [p] := by
  unfold putP
  rw [if_neg (by simp)]
  rfl
theorem hanf2 {w u : Wd} (wok : w.Ok) (uok : u.Ok) {r : Nat} {nm : List Int} (hl : (nm.length : Int) = w.n) (hn : w.n = u.n) (M : Mt w u r nm) (k : Nat) (hk : k = 0 ∨ 1 ≤ r ∧ k ≤ 2) : canB w u k [] = true := by
  have wl := wok.lo
  have ul := uok.lo
  have hp := M.perm (by omega) (by omega)
  have al : ∀ x, (0 ≤ x ∧ x < w.n) → (0 ≤ nmI nm x ∧ nmI nm x < u.n) ∧ alikeB w x u (nmI nm x) r = true := fun x hx => M.al x hx.1 (by omega)
  have F : Full w u (nmI nm) := ⟨fun x hx => ⟨(al x hx).1, alike_same ⟨wok, hx.1, hx.2⟩ ⟨uok, (al x hx).1.1, (al x hx).1.2⟩ (al x hx).2⟩, fun x y hx hy e => by
    have h1 : x.toNat < nm.length := by omega
    have h2 : y.toNat < nm.length := by omega
    have e1 := nm_get h1
    have e2 := nm_get h2
    rw [show ((x.toNat : Nat) : Int) = x by omega] at e1
    rw [show ((y.toNat : Nat) : Int) = y by omega] at e2
    rw [e1, e2, List.getElem_inj M.nd] at e
    omega⟩
  have back : ∀ y, (0 ≤ y ∧ y < u.n) → ∃ x, (0 ≤ x ∧ x < w.n) ∧ nmI nm x = y := fun y hy => by
    obtain ⟨n, h1, e⟩ := List.getElem_of_mem (hp.mem_iff.mpr (rangeI_mem.mpr (show 0 ≤ y ∧ y < 0 + (u.n.toNat : Int) by omega)))
    exact ⟨n, by omega, by rw [nm_get h1, e]⟩
  have B : ∃ g, Full u w g := by
    classical
    let g : Int → Int := fun y => if h : 0 ≤ y ∧ y < u.n then (back y h).choose else 0
    have gs : ∀ y (h : 0 ≤ y ∧ y < u.n), (0 ≤ g y ∧ g y < w.n) ∧ nmI nm (g y) = y := fun y h => by
      have e : g y = (back y h).choose := dif_pos h
      rw [e]
      exact (back y h).choose_spec
    refine ⟨g, fun y hy => ⟨(gs y hy).1, ?_⟩, fun y z hy hz e => ?_⟩
    · have := (F.rg (g y) (gs y hy).1).2
      rw [(gs y hy).2] at this
      exact sameT_sy this
    · rw [← (gs y hy).2, e, (gs z hz).2]
  obtain ⟨g, B⟩ := B
  have two : ∀ j : Nat, (j = 0 ∨ (1 ≤ r ∧ j = 1)) → canB w u (j + 1) [] = true := fun j hj => by
    have step : ∀ x, (0 ≤ x ∧ x < w.n) → growB w u [] (x, nmI nm x) = true ∧ canB w u j (putP [] (x, nmI nm x)) = true := fun x hx => by
      refine ⟨grow_iff.mpr ⟨(F.rg x hx).2, fun q hq => by cases hq⟩, ?_⟩
      rw [put_nil]
      rcases hj with rfl | ⟨hr, rfl⟩
      · rfl
      · exact one_round F B hr ⟨wok, hx.1, hx.2⟩ ⟨uok, (al x hx).1.1, (al x hx).1.2⟩ (al x hx).2
    refine can_iff.mpr ⟨fun x hx => ⟨nmI nm x, (al x hx).1, step x hx⟩, fun y hy => ?_⟩
    obtain ⟨x, hx, e⟩ := back y hy
    have := step x hx
    rw [e] at this
    exact ⟨x, hx, this⟩
  rcases hk with rfl | ⟨hr, hk⟩
  · rfl
  · match k, hk with
    | 0, _ => rfl
    | 1, _ => exact two 0 (.inl rfl)
    | 2, _ => exact two 1 (.inr ⟨hr, rfl⟩)
end LB

set_option Elab.async false
set_option linter.all false
set_option maxRecDepth 100000
namespace LB
open PySem TL
theorem look_ok6 {w u : Wd} (wok : w.Ok) (uok : u.Ok) (w5 : w.n ≤ 6) (u5 : u.n ≤ 6) {a b : Int} (ha : 0 ≤ a ∧ a < w.n) (hb : 0 ≤ b ∧ b < u.n) (r : Nat) :
    m_look_alike_2 [w.d, .int a, u.d, .int b, .int r] = some (.bool (alikeB w a u b r)) := by
  let X := ballL w a r
  let Y := ballL u b r
  have xl := ball_len wok a r
  have yl := ball_len uok b r
  have xa : a ∈ X := ball_self ha r
  have yb : b ∈ Y := ball_self hb r
  have x1 : 1 ≤ X.length := List.length_pos_iff_exists_mem.mpr ⟨a, xa⟩
  have y1 : 1 ≤ Y.length := List.length_pos_iff_exists_mem.mpr ⟨b, yb⟩
  let E := fun (e5 e6 e7 e8 : Option D) => [some w.d, some (PyData.int a), some u.d, some (PyData.int b), some (PyData.int r), e5, e6, e7, e8, none]
  have x8 : X.length ≤ 8 := by have := wok.hi; show (ballL w a r).length ≤ 8; omega
  have y8 : Y.length ≤ 8 := by have := uok.hi; show (ballL u b r).length ≤ 8; omega
  have eqt : eTup [(eCall m_ball [(eVar 0), (eVar 1), (eVar 4)]), (eCall m_ball [(eVar 2), (eVar 3), (eVar 4)])] (E none none none none) = some (.tuple [tI X, tI Y]) := tup2_go (call3_go rfl rfl rfl (ball_ok wok ha r)) (call3_go rfl rfl rfl (ball_ok uok hb r))
  have c1 : tV (e2 neD (e1 lenD (eVar 5)) (e1 lenD (eVar 6))) (E (some (tI X)) (some (tI Y)) none none) = some (!decide (X.length = Y.length)) := by
    refine (tV_go (e2_go (e1_go rfl (len_t _)) (e1_go rfl (len_t _)) (ne_i _ _))).trans (congrArg some (congrArg Bool.not ?_))
    rw [List.length_map, List.length_map]
    exact decide_eq_decide.mpr (by omega)
  refine run_rt rfl (seq_go (e := E (some (tI X)) (some (tI Y)) none none) (by
    show ((eTup _ (E none none none none)).bind _) = _
    rw [eqt]
    rfl) ?_)
  show _ = some (Out.rt (.bool (decide (X.length = Y.length) && _)))
  cases hc : decide (X.length = Y.length) with
  | false =>
    rw [hc] at c1
    exact seq_rt (if_t c1 (ret_go rfl))
  | true =>
    rw [hc] at c1
    have hxy : X.length = Y.length := of_decide_eq_true hc
    refine seq_go (if_f c1 rfl) (seq_go (e := E (some (tI X)) (some (tI Y)) (some (part w X).d) (some (part u Y).d)) ?_ (ret_go ?_))
    · simp only [sPar, call2_go (a := eVar 0) (b := eVar 5) (env := E (some (tI X)) (some (tI Y)) none none) rfl rfl (part_ok (w := w) (row := X) (by omega)), call2_go (a := eVar 2) (b := eVar 6) (env := E (some (tI X)) (some (tI Y)) none none) rfl rfl (part_ok (w := u) (row := Y) (by omega)), Option.bind_some]
      rfl
    · let L := lk (part w X) (part u Y) X.length []
      have hlk : m_likenesses_2 60 [(part w X).d, (part u Y).d, tI []] = some (.list (L.map tI)) := likes_ok (by show (0 : Int) ≤ (Y.length : Int); omega) (by show (Y.length : Int) ≤ 1000; omega) X.length (by show ((0 : Nat) : Int) + X.length = (X.length : Int); omega) (by omega) (by show 0 + X.length ≤ 100; omega) fun j hj => by
        have h1 : (part u Y).n.toNat ≤ 6 := by show ((Y.length : Int)).toNat ≤ 6; show ((ballL u b r).length : Int).toNat ≤ 6; omega
        have h2 : (part u Y).n.toNat ^ j ≤ 6 ^ j := Nat.pow_le_pow_left h1 j
        have h3 : 6 ^ j ≤ 6 ^ 6 := Nat.pow_le_pow_right (by decide) (by have : X.length ≤ 6 := (by show (ballL w a r).length ≤ 6; omega); omega)
        have : (6 : Nat) ^ 6 = 46656 := by decide
        omega
      have lc := lc_map (g := TL.gName 9) (e := e2 eqD (e2 ixD (eVar 9) (e2 idxD (eVar 5) (eVar 1))) (e2 idxD (eVar 6) (eVar 3))) (env := wipeE (E (some (tI X)) (some (tI Y)) (some (part w X).d) (some (part u Y).d)) [9]) tI PyData.bool (fun t => decide (nmI t (X.idxOf a) = (Y.idxOf b : Int))) (zs := L) fun t ht => by
        obtain ⟨tl, _⟩ := mem_lk0.mp ht
        have := idx_lt2 xa
        exact ⟨_, rfl, e2_go (e2_go rfl (e2_go rfl rfl (idx_ti xa)) (ix_at PyData.int 0 (l := t) (by omega) (by omega))) (e2_go rfl rfl (idx_ti yb)) (eq_i _ _)⟩
      refine (e1_go (lc_go (show iSeq (eCall (m_likenesses_2 60) [(eVar 7), (eVar 8), (eTup [])]) _ = some (L.map tI) by
        show (eCall (m_likenesses_2 60) [(eVar 7), (eVar 8), (eTup [])] _).bind itemsD = _
        rw [call3_go (a := eVar 7) (b := eVar 8) (c := eTup []) rfl rfl rfl hlk]
        rfl) lc) (any_b _)).trans ?_
      rw [List.any_map]
      rfl
section
variable {w u : Wd} (wok : w.Ok) (uok : u.Ok) (w5 : w.n ≤ 6) (u5 : u.n ≤ 6) (r : Nat)
include wok uok w5 u5
theorem mine_ok6 (s : Bool) : (mineW s w u).Ok ∧ (mineW s w u).n ≤ 6 := by
  cases s
  · exact ⟨wok, w5⟩
  · exact ⟨uok, u5⟩
theorem looks_ok6 (s : Bool) {item : Int} (h : It' (mineW s w u) item) : m_looks_like_2 [w.d, u.d, .int (sideI s), .int item, .int r] = some (.tuple [.list ((knd (mineW s w u) item w r).map .int), .list ((knd (mineW s w u) item u r).map .int)]) := by
  have wl := wok.lo
  have ul := uok.lo
  obtain ⟨mok, m5⟩ := mine_ok6 wok uok w5 u5 s
  let M := mineW s w u
  let E := fun (e5 e6 : Option D) => [some w.d, some u.d, some (PyData.int (sideI s)), some (PyData.int item), some (PyData.int r), e5, e6, none, none]
  have hm : eIf (tV (e2 eqD (eVar 2) (eC (.int 0)))) (eVar 0) (eVar 1) (E none none) = some M.d := by
    have c : tV (e2 eqD (eVar 2) (eC (.int 0))) (E none none) = some (decide (sideI s = 0)) := tV_go (e2_go rfl rfl (eq_i _ _))
    simp only [eIf, c, Option.bind_some]
    cases s <;> rfl
  have part : ∀ {x : Wd} {i j : Nat} (xok : x.Ok) (x5 : x.n ≤ 6) {env : TL.Env}, (∀ a : Int, ((wipeE env [j]).set j (some (.int a))).getD i none = some x.d) → (∀ a : Int, ((wipeE env [j]).set j (some (.int a))).getD 5 none = some M.d) → (∀ a : Int, ((wipeE env [j]).set j (some (.int a))).getD 3 none = some (.int item)) → (∀ a : Int, ((wipeE env [j]).set j (some (.int a))).getD 4 none = some (.int r)) → (∀ a : Int, ((wipeE env [j]).set j (some (.int a))).getD j none = some (.int a)) → env.getD i none = some x.d →
      eLc [j] (iRng1 (e2 ixD (eVar i) (eC (.int 0)))) (TL.gName j) (tV (eCall m_look_alike_2 [(eVar i), (eVar j), (eVar 5), (eVar 3), (eVar 4)])) (eVar j) env = some (.list ((knd M item x r).map .int)) := fun {x i j} xok x5 {env} g1 g2 g3 g4 g5 g6 => by
    have xl := xok.lo
    have lc := lc_filter (g := TL.gName j) (c := tV (eCall m_look_alike_2 [(eVar i), (eVar j), (eVar 5), (eVar 3), (eVar 4)])) (e := eVar j) (env := wipeE env [j]) PyData.int PyData.int (fun y => alikeB M item x y r) id (zs := rangeI 0 x.n.toNat) fun y hy => by
      have hy := rangeI_mem.mp hy
      have iy : It' x y := ⟨xok, hy.1, by omega⟩
      refine ⟨_, rfl, ?_, fun _ => g5 y⟩
      rw [alike_comm h iy r]
      exact tV_go (call5_go (g1 y) (g5 y) (g2 y) (g3 y) (g4 y) (look_ok6 xok mok x5 m5 ⟨iy.h0, iy.h1⟩ ⟨h.h0, h.h1⟩ r))
    rw [List.map_id] at lc
    exact lc_go (rngI1 (n := x.n) (e2_go g6 rfl rfl) (by omega) (by omega)) lc
  refine run_rt rfl (seq_go (e := E (some M.d) none) (asg_go hm) (seq_go (e := E (some M.d) (some (.list ((knd M item w r).map .int)))) (asg_go (part (x := w) (i := 0) (j := 7) wok w5 (fun _ => rfl) (fun _ => rfl) (fun _ => rfl) (fun _ => rfl) (fun _ => rfl) rfl)) (ret_go (tup2_go rfl (part (x := u) (i := 1) (j := 8) uok u5 (fun _ => rfl) (fun _ => rfl) (fun _ => rfl) (fun _ => rfl) (fun _ => rfl) rfl)))))
theorem near_ok6 : ∃ d, m_near_paper_2 [w.d, u.d, .int r] = some d ∧ NearR w u r d := by
  have wl := wok.lo
  have ul := uok.lo
  let E := fun (e3 e4 e5 e6 e7 e8 : Option D) => [some w.d, some u.d, some (PyData.int r), e3, e4, e5, e6, e7, e8, none]
  have inner : ∀ (s : Bool) (e6 e7 e8 : Option D), ((∀ k, 0 ≤ k → k < (mineW s w u).n → (knd (mineW s w u) k w r).length = (knd (mineW s w u) k u r).length) ∧ ∃ f6 f7 f8, sFor (iRng1 (eIf (tV (e2 eqD (eVar 3) (eC (.int 0)))) (e2 ixD (eVar 0) (eC (.int 0))) (e2 ixD (eVar 1) (eC (.int 0))))) (TL.gName 6)
      (sSeq (sAsg (eCall m_looks_like_2 [(eVar 0), (eVar 1), (eVar 3), (eVar 6), (eVar 2)]) (TL.gTup [(TL.gName 8), (TL.gName 7)]))
      (sIf (tV (e2 neD (e1 lenD (eVar 8)) (e1 lenD (eVar 7))))
      (sRet (eTup [(eC (.str "counted")), (eVar 3), (eVar 6)]))
      sNext)) (E (some (.int (sideI s))) none none e6 e7 e8) = some (.nx (E (some (.int (sideI s))) none none f6 f7 f8))) ∨ ∃ d, NearR w u r d ∧ sFor (iRng1 (eIf (tV (e2 eqD (eVar 3) (eC (.int 0)))) (e2 ixD (eVar 0) (eC (.int 0))) (e2 ixD (eVar 1) (eC (.int 0))))) (TL.gName 6)
      (sSeq (sAsg (eCall m_looks_like_2 [(eVar 0), (eVar 1), (eVar 3), (eVar 6), (eVar 2)]) (TL.gTup [(TL.gName 8), (TL.gName 7)]))
      (sIf (tV (e2 neD (e1 lenD (eVar 8)) (e1 lenD (eVar 7))))
      (sRet (eTup [(eC (.str "counted")), (eVar 3), (eVar 6)]))
      sNext)) (E (some (.int (sideI s))) none none e6 e7 e8) = some (.rt d) := fun s e6 e7 e8 => by
    obtain ⟨mok, m5⟩ := mine_ok6 wok uok w5 u5 s
    have ml := mok.lo
    have hit : iRng1 (eIf (tV (e2 eqD (eVar 3) (eC (.int 0)))) (e2 ixD (eVar 0) (eC (.int 0))) (e2 ixD (eVar 1) (eC (.int 0)))) (E (some (.int (sideI s))) none none e6 e7 e8) = some ((rangeI 0 (mineW s w u).n.toNat).map .int) := by
      refine rngI1 (n := (mineW s w u).n) ?_ (by omega) (by omega)
      have c : tV (e2 eqD (eVar 3) (eC (.int 0))) (E (some (.int (sideI s))) none none e6 e7 e8) = some (decide (sideI s = 0)) := tV_go (e2_go rfl rfl (eq_i _ _))
      simp only [eIf, c, Option.bind_some]
      cases s <;> rfl
    rcases for_or (g := TL.gName 6) (body := (sSeq (sAsg (eCall m_looks_like_2 [(eVar 0), (eVar 1), (eVar 3), (eVar 6), (eVar 2)]) (TL.gTup [(TL.gName 8), (TL.gName 7)]))
      (sIf (tV (e2 neD (e1 lenD (eVar 8)) (e1 lenD (eVar 7))))
      (sRet (eTup [(eC (.str "counted")), (eVar 3), (eVar 6)]))
      sNext))) PyData.int (fun env => ∃ f6 f7 f8, env = E (some (.int (sideI s))) none none f6 f7 f8) (fun k => (knd (mineW s w u) k w r).length = (knd (mineW s w u) k u r).length) (NearR w u r) (rangeI 0 (mineW s w u).n.toNat) (E (some (.int (sideI s))) none none e6 e7 e8) ⟨_, _, _, rfl⟩ (by
      rintro k hk env ⟨f6, f7, f8, rfl⟩
      have hk := rangeI_mem.mp hk
      have ik : It' (mineW s w u) k := ⟨mok, hk.1, by omega⟩
      have lk := looks_ok6 wok uok w5 u5 r s ik
      let F := E (some (.int (sideI s))) none none (some (.int k)) (some (.list ((knd (mineW s w u) k u r).map .int))) (some (.list ((knd (mineW s w u) k w r).map .int)))
      have h1 : sAsg (eCall m_looks_like_2 [(eVar 0), (eVar 1), (eVar 3), (eVar 6), (eVar 2)]) (TL.gTup [(TL.gName 8), (TL.gName 7)]) (E (some (.int (sideI s))) none none (some (.int k)) f7 f8) = some (.nx F) := by
        show (eCall m_looks_like_2 [(eVar 0), (eVar 1), (eVar 3), (eVar 6), (eVar 2)] (E (some (.int (sideI s))) none none (some (.int k)) f7 f8)).bind _ = _
        rw [call5_go rfl rfl rfl rfl rfl lk]
        rfl
      have c : tV (e2 neD (e1 lenD (eVar 8)) (e1 lenD (eVar 7))) F = some (!decide ((knd (mineW s w u) k w r).length = (knd (mineW s w u) k u r).length)) := by
        refine (tV_go (e2_go (e1_go rfl (len_l _)) (e1_go rfl (len_l _)) (ne_i _ _))).trans (congrArg some (congrArg Bool.not ?_))
        rw [List.length_map, List.length_map]
        exact decide_eq_decide.mpr (by omega)
      refine ⟨_, rfl, ?_⟩
      by_cases hc : (knd (mineW s w u) k w r).length = (knd (mineW s w u) k u r).length
      · rw [decide_eq_true hc] at c
        exact .inl ⟨hc, F, seq_go h1 (if_f c rfl), _, _, _, rfl⟩
      · rw [decide_eq_false hc] at c
        exact .inr ⟨_, .counted s k ik hc, seq_go h1 (if_t c (ret_go (tup3_go rfl rfl rfl)))⟩) with ⟨h1, e, h2, f6, f7, f8, rfl⟩ | ⟨d, h1, h2⟩
    · exact .inl ⟨fun k k0 k1 => h1 k (rangeI_mem.mpr (by omega)), f6, f7, f8, for_go hit h2⟩
    · exact .inr ⟨d, h1, for_go hit h2⟩
  have outer : iSeq (eTup [(eC (.int 0)), (eC (.int 1))]) (E none none none none none none) = some ([false, true].map fun s => .int (sideI s)) := by kernel_rfl
  rcases for_or (g := TL.gName 3) (body := sFor (iRng1 (eIf (tV (e2 eqD (eVar 3) (eC (.int 0)))) (e2 ixD (eVar 0) (eC (.int 0))) (e2 ixD (eVar 1) (eC (.int 0))))) (TL.gName 6)
      (sSeq (sAsg (eCall m_looks_like_2 [(eVar 0), (eVar 1), (eVar 3), (eVar 6), (eVar 2)]) (TL.gTup [(TL.gName 8), (TL.gName 7)]))
      (sIf (tV (e2 neD (e1 lenD (eVar 8)) (e1 lenD (eVar 7))))
      (sRet (eTup [(eC (.str "counted")), (eVar 3), (eVar 6)]))
      sNext))) (fun s => PyData.int (sideI s)) (fun env => ∃ f3 f6 f7 f8, env = E f3 none none f6 f7 f8) (fun s => ∀ k, 0 ≤ k → k < (mineW s w u).n → (knd (mineW s w u) k w r).length = (knd (mineW s w u) k u r).length) (NearR w u r) [false, true] (E none none none none none none) ⟨_, _, _, _, rfl⟩ (by
    rintro s hs env ⟨f3, f6, f7, f8, rfl⟩
    refine ⟨_, rfl, ?_⟩
    rcases inner s f6 f7 f8 with ⟨h1, g6, g7, g8, h2⟩ | ⟨d, h1, h2⟩
    · exact .inl ⟨h1, _, h2, _, _, _, _, rfl⟩
    · exact .inr ⟨d, h1, h2⟩) with ⟨h1, e, h2, f3, f6, f7, f8, rfl⟩ | ⟨d, h1, h2⟩
  rotate_left
  · exact ⟨d, run_rt rfl (seq_rt (for_go outer h2)), h1⟩
  have cw : ∀ k, 0 ≤ k → k < w.n → (knd w k w r).length = (knd w k u r).length := h1 false (by simp)
  have cu : ∀ k, 0 ≤ k → k < u.n → (knd u k w r).length = (knd u k u r).length := h1 true (by simp)
  obtain ⟨e, h3, nm, f5, f7', rfl, nl, nm2⟩ := for_invP (g := TL.gName 5) (body := (sSeq (sAsg (e2 ixD (eCall m_looks_like_2 [(eVar 0), (eVar 1), (eC (.int 0)), (eVar 5), (eVar 2)]) (eC (.int 1))) (TL.gName 7))
      (sApp 4 (e2 ixD (eLc [9] (iSeq (eVar 7)) (TL.gName 9) (tV (e2 ninD (eVar 9) (eVar 4))) (eVar 9)) (eC (.int 0)))))) PyData.int (fun done env => ∃ nm f5 f7, env = E f3 (some (.list (nm.map .int))) f5 f6 f7 f8 ∧ nm.length = done.length ∧ Mt w u r nm) (rangeI 0 w.n.toNat) (E f3 (some (.list [])) none f6 f7 f8) ⟨[], none, f7, rfl, rfl, .nil⟩ (by
    rintro done k rest hx env ⟨nm, f5, f7, rfl, nl, mt⟩
    have dl : done.length < w.n.toNat := by
      have := congrArg List.length hx
      rw [rangeI_len, List.length_append, List.length_cons] at this
      omega
    have hk : k = (done.length : Int) := by
      have := rangeI_get (lo := 0) (n := w.n.toNat) dl
      rw [hx, List.getElem?_append_right (Nat.le_refl _), Nat.sub_self] at this
      simpa using this
    have ik : It' w k := ⟨wok, by omega, by omega⟩
    have lk := looks_ok6 wok uok w5 u5 r false ik
    obtain ⟨b, b1, b2⟩ := mt.next wok uok (k := k) (by omega) ik.h1 (Nat.le_of_eq (cw k ik.h0 ik.h1))
    let T := knd w k u r
    let C := T.filter fun b => !decide (b ∈ nm)
    have hb : b ∈ C := List.mem_filter.mpr ⟨b1, by rw [decide_eq_false b2]; rfl⟩
    have cp : 0 < C.length := List.length_pos_iff_exists_mem.mpr ⟨b, hb⟩
    let F := E f3 (some (.list (nm.map .int))) (some (.int k)) f6 (some (.list (T.map .int))) f8
    have lc := lc_filter (g := TL.gName 9) (c := tV (e2 ninD (eVar 9) (eVar 4))) (e := eVar 9) (env := wipeE F [9]) PyData.int PyData.int (fun b => !decide (b ∈ nm)) id (zs := T) fun b hb => ⟨_, rfl, tV_go (e2_go rfl rfl (nin_of (in_li b nm))), fun _ => rfl⟩
    rw [List.map_id] at lc
    have hc : C.getD 0 0 ∈ C := TL.getD_mem cp
    obtain ⟨c1, c2⟩ := List.mem_filter.mp hc
    have c2 : C.getD 0 0 ∉ nm := by
      rw [Bool.not_eq_true', decide_eq_false_iff_not] at c2
      exact c2
    have nml := mt.le
    refine ⟨_, rfl, E f3 (some (.list (nm.map .int ++ [.int (C.getD 0 0)]))) (some (.int k)) f6 (some (.list (T.map .int))) f8, .inl (seq_go (e := F) (asg_go (e2_go (call5_go rfl rfl rfl rfl rfl lk) rfl rfl)) (app_go' (e2_go (lc_go (ds := T.map .int) rfl lc) rfl (ix_ints (rs := C) (i := 0) (by decide) (by omega))) rfl (by rw [List.length_map]; have := uok.hi; omega))), nm ++ [C.getD 0 0], _, _, by rw [List.map_append]; rfl, by rw [List.length_append, List.length_append, nl]; rfl, mt.snoc (k := k) (by omega) c1 c2⟩)
  refine ⟨.tuple [.str "matched", tI nm], run_rt rfl (seq_go (for_go outer h2) (seq_go (e := E f3 (some (.list [])) none f6 f7 f8) rfl (seq_go (for_go (rngI1 (n := w.n) (e2_go rfl rfl rfl) (by omega) (by omega)) h3) (ret_go (tup2_go rfl (e1_go rfl (tuple_l _))))))), .matched nm cw cu (by rw [nl, rangeI_len]; omega) nm2⟩
end

theorem fit_part2 {w u : Wd} {X Y : List Int} (hX : X.Nodup) (hY : Y.Nodup) {i i' j j' : Int} (i0 : 0 ≤ i) (i1 : i < X.length) (j0 : 0 ≤ j) (j1 : j < X.length) (i0' : 0 ≤ i') (i1' : i' < Y.length) (j0' : 0 ≤ j') (j1' : j' < Y.length) (h : fitB w u (rat X i, rat Y i') (rat X j, rat Y j') = true) :
    fitB (part w X) (part u Y) (i, i') (j, j') = true := by
  obtain ⟨h1, h2, h3, h4, h5⟩ := fit_iff.mp h
  refine fit_iff.mpr ⟨?_, ?_, ?_, ?_, ?_⟩
  · rw [rat_inj hX i0 i1 j0 j1, rat_inj hY i0' i1' j0' j1'] at h1
    exact h1
  · rw [(part_m0 i0 i1).1, (part_m0 i0' i1').1]
    exact h2
  · rw [(part_m0 i0 i1).2, (part_m0 i0' i1').2]
    exact h3
  · rw [part_ar i0 i1 j0 j1, part_ar i0' i1' j0' j1']
    exact h4
  · rw [part_ar j0 j1 i0 i1, part_ar j0' j1' i0' i1']
    exact h5
structure Iso (w u : Wd) (f : Int → Int) : Prop where
  rg : ∀ {x}, (0 ≤ x ∧ x < w.n) → 0 ≤ f x ∧ f x < u.n
  on : ∀ {y}, (0 ≤ y ∧ y < u.n) → ∃ x, (0 ≤ x ∧ x < w.n) ∧ f x = y
  ft : ∀ {x y}, (0 ≤ x ∧ x < w.n) → (0 ≤ y ∧ y < w.n) → fitB w u (x, f x) (y, f y) = true
theorem Iso.inj {w u : Wd} {f : Int → Int} (h : Iso w u f) {x y : Int} (hx : 0 ≤ x ∧ x < w.n) (hy : 0 ≤ y ∧ y < w.n) (e : f x = f y) : x = y := (fit_iff.mp (h.ft hx hy)).1.mpr e
theorem Iso.rb {w u : Wd} {f : Int → Int} (h : Iso w u f) {a : Int} (ha : 0 ≤ a ∧ a < w.n) : ∀ (r : Nat) {x : Int}, (0 ≤ x ∧ x < w.n) → Rb u (f a) r (f x) = Rb w a r x
  | 0, x, hx => decide_eq_decide.mpr ⟨fun e => h.inj hx ha e, fun e => by rw [e]⟩
  | r + 1, x, hx => by
    rw [Rb, Rb, h.rb ha r hx]
    congr 1
    have ad : ∀ {y}, (0 ≤ y ∧ y < w.n) → adjB u (f y) (f x) = adjB w y x := fun {y} hy => by
      obtain ⟨_, _, _, h4, h5⟩ := fit_iff.mp (h.ft hy hx)
      unfold adjB
      rw [decide_eq_decide.mpr h4.symm, decide_eq_decide.mpr h5.symm]
    rw [Bool.eq_iff_iff, List.any_eq_true, List.any_eq_true]
    constructor
    · rintro ⟨y, hy, e⟩
      have hy := rangeI_mem.mp hy
      obtain ⟨z, hz, rfl⟩ := h.on (y := y) (by omega)
      rw [h.rb ha r hz, ad hz] at e
      exact ⟨z, rangeI_mem.mpr (by omega), e⟩
    · rintro ⟨y, hy, e⟩
      have hy := rangeI_mem.mp hy
      have hy : 0 ≤ y ∧ y < w.n := by omega
      have := h.rg hy
      exact ⟨f y, rangeI_mem.mpr (by omega), by rw [h.rb ha r hy, ad hy]; exact e⟩
theorem Iso.ball {w u : Wd} {f : Int → Int} (h : Iso w u f) {a : Int} (ha : 0 ≤ a ∧ a < w.n) (r : Nat) : (ballL u (f a) r).Perm ((ballL w a r).map f) := by
  refine (List.perm_ext_iff_of_nodup (ball_nodup _ _ _) ?_).mpr fun y => ?_
  · refine List.pairwise_map.mpr (List.Pairwise.imp_of_mem ?_ (ball_nodup w a r))
    intro x y hx hy hne e
    exact hne (h.inj (ball_mem.mp hx).1 (ball_mem.mp hy).1 e)
  · rw [ball_mem, List.mem_map]
    constructor
    · rintro ⟨hy, e⟩
      obtain ⟨x, hx, rfl⟩ := h.on hy
      exact ⟨x, ball_mem.mpr ⟨hx, by rw [← h.rb ha r hx]; exact e⟩, rfl⟩
    · rintro ⟨x, hx, rfl⟩
      obtain ⟨h1, h2⟩ := ball_mem.mp hx
      exact ⟨h.rg h1, by rw [h.rb ha r h1]; exact h2⟩
theorem Iso.alike {w u : Wd} (wok : w.Ok) (uok : u.Ok) {f : Int → Int} (h : Iso w u f) {a : Int} (ha : 0 ≤ a ∧ a < w.n) (r : Nat) : alikeB w a u (f a) r = true := by
  have hfa := h.rg ha
  have i : It' w a := ⟨wok, ha.1, ha.2⟩
  have j : It' u (f a) := ⟨uok, hfa.1, hfa.2⟩
  let X := ballL w a r
  let Y := ballL u (f a) r
  have hX : X.Nodup := ball_nodup w a r
  have hY : Y.Nodup := ball_nodup u (f a) r
  have hp := h.ball ha r
  have hl : Y.length = X.length := by rw [hp.length_eq, List.length_map]
  have mY : ∀ {x}, x ∈ X → f x ∈ Y := fun {x} hx => hp.mem_iff.mpr (List.mem_map.mpr ⟨x, hx, rfl⟩)
  let t : List Int := X.map fun x => ((Y.idxOf (f x) : Nat) : Int)
  have tl : t.length = X.length := List.length_map _
  have at_ : ∀ k : Int, 0 ≤ k → k < X.length → nmI t k = (Y.idxOf (f (rat X k)) : Nat) ∧ rat X k ∈ X := fun k k0 k1 => by
    obtain ⟨h1, e⟩ := rat_gt k0 k1
    have h2 : k.toNat < t.length := by omega
    have e2 := nm_get h2
    rw [show ((k.toNat : Nat) : Int) = k by omega] at e2
    rw [e2, e]
    exact ⟨List.getElem_map .., List.getElem_mem h1⟩
  have aX : a ∈ X := ball_self ha r
  refine (alike_iff i j r).mpr ⟨t, ⟨by rw [tl]; rfl, by show (X.length : Int) = Y.length; omega, fun v hv => ?_, fun p q p0 p1 q0 q1 => ?_⟩, ?_⟩
  · obtain ⟨x, hx, rfl⟩ := List.mem_map.mp hv
    have := idx_lt2 (mY hx)
    show (0 : Int) ≤ _ ∧ _ < (Y.length : Int)
    omega
  · obtain ⟨e1, m1⟩ := at_ p p0 p1
    obtain ⟨e2, m2⟩ := at_ q q0 q1
    have l1 := idx_lt2 (mY m1)
    have l2 := idx_lt2 (mY m2)
    rw [e1, e2]
    refine fit_part2 hX hY p0 p1 q0 q1 (by omega) (by omega) (by omega) (by omega) ?_
    rw [rat_idx (mY m1), rat_idx (mY m2)]
    exact h.ft (ball_mem.mp m1).1 (ball_mem.mp m2).1
  · have l := idx_lt2 aX
    obtain ⟨e1, _⟩ := at_ (X.idxOf a : Nat) (by omega) (by omega)
    rw [e1, rat_idx aX]
theorem Iso.knd {w u : Wd} (wok : w.Ok) (uok : u.Ok) {f : Int → Int} (h : Iso w u f) {v : Wd} {z : Int} (hz : It' v z) (r : Nat) : (knd v z w r).length = (knd v z u r).length := by
  apply Nat.le_antisymm
  · refine map_len f (knd_nd _ _ _ _) (fun x hx y hy e => h.inj (knd_mem.mp hx).1 (knd_mem.mp hy).1 e) fun x hx => ?_
    obtain ⟨h1, h2⟩ := knd_mem.mp hx
    have := h.rg h1
    exact knd_mem.mpr ⟨this, alike_trans hz ⟨wok, h1.1, h1.2⟩ ⟨uok, this.1, this.2⟩ h2 (h.alike wok uok h1 r)⟩
  · classical
    let g : Int → Int := fun y => if hy : 0 ≤ y ∧ y < u.n then (h.on hy).choose else 0
    have gs : ∀ y (hy : 0 ≤ y ∧ y < u.n), (0 ≤ g y ∧ g y < w.n) ∧ f (g y) = y := fun y hy => by
      have e : g y = (h.on hy).choose := dif_pos hy
      rw [e]
      exact (h.on hy).choose_spec
    refine map_len g (knd_nd _ _ _ _) (fun x hx y hy e => ?_) fun y hy => ?_
    · rw [← (gs x (knd_mem.mp hx).1).2, e, (gs y (knd_mem.mp hy).1).2]
    · obtain ⟨h1, h2⟩ := knd_mem.mp hy
      obtain ⟨g1, g2⟩ := gs y h1
      have al := h.alike wok uok g1 r
      rw [g2] at al
      exact knd_mem.mpr ⟨g1, alike_trans hz ⟨uok, h1.1, h1.2⟩ ⟨wok, g1.1, g1.2⟩ h2 (alike_symm ⟨wok, g1.1, g1.2⟩ ⟨uok, h1.1, h1.2⟩ al)⟩
theorem ren_iso {w : Wd} (ok : w.Ok) {ps : List Int} (hp : ps.Perm (rangeI 0 w.n.toNat)) : Iso w (w.ren ps) (nmI ps) := by
  have lo := ok.lo
  have rn : (w.ren ps).n = w.n := rfl
  refine ⟨fun {x} hx => nm_rng (by omega) hp hx.1 hx.2, fun {y} hy => ?_, fun {x y} hx hy => ?_⟩
  · obtain ⟨n, h1, e⟩ := List.getElem_of_mem (hp.mem_iff.mpr (rangeI_mem.mpr (show 0 ≤ y ∧ y < 0 + (w.n.toNat : Int) by omega)))
    have := hp.length_eq
    rw [rangeI_len] at this
    exact ⟨n, by omega, by rw [nm_get h1, e]⟩
  · have e := fit_ren (w := w) ok hp (p := (x, x)) (q := (y, y)) hx hy
    rw [e]
    exact fit_iff.mpr ⟨Iff.rfl, Iff.rfl, Iff.rfl, Iff.rfl, Iff.rfl⟩
end LB

set_option Elab.async false
set_option linter.all false
set_option maxRecDepth 100000
namespace LB
open PySem TL
end LB

set_option Elab.async false
set_option linter.all false
set_option maxRecDepth 100000
namespace LB
open PySem TL
def w33 : Wd := ⟨6, [], [], [(0, 1), (1, 2), (2, 0), (3, 4), (4, 5), (5, 3)]⟩
def w6 : Wd := ⟨6, [], [], [(0, 1), (1, 2), (2, 3), (3, 4), (4, 5), (5, 0)]⟩
theorem ok_of {w : Wd} (h : (decide (1 ≤ w.n) && decide (w.n ≤ 8) && decide (w.m0 = []) && decide (w.m1 = []) && decide (w.ar.Pairwise fun p q => ltPr p q = true) && w.ar.all fun p => decide (0 ≤ p.1) && decide (p.1 < w.n) && decide (0 ≤ p.2) && decide (p.2 < w.n)) = true) : w.Ok := by
  simp only [Bool.and_eq_true, decide_eq_true_eq, List.all_eq_true] at h
  obtain ⟨⟨⟨⟨⟨h1, h2⟩, h3⟩, h4⟩, h5⟩, h6⟩ := h
  refine ⟨h1, h2, ?_, ?_, ⟨h5, fun p hp => ?_⟩⟩
  · rw [h3]; exact ⟨List.Pairwise.nil, fun a h => by cases h⟩
  · rw [h4]; exact ⟨List.Pairwise.nil, fun a h => by cases h⟩
  · obtain ⟨⟨⟨q1, q2⟩, q3⟩, q4⟩ := h6 p hp
    exact ⟨q1, q2, q3, q4⟩
theorem w33_ok : w33.Ok := ok_of (by decide)
theorem w6_ok : w6.Ok := ok_of (by decide)
theorem m_eq : eqD (.str "matched") (.str "matched") = some (.bool true) ∧ eqD (.str "counted") (.str "matched") = some (.bool false) ∧ neD (.str "matched") (.str "matched") = some (.bool false) := by
  refine ⟨?_, ?_, ?_⟩ <;> kernel_rfl
theorem law_true_k60 (ns : List Int) (h : ns.length ≤ 63) : m_law_k60 [.list (ns.map .int)] = some (.bool true) := by
  obtain ⟨c, hc⟩ := cell_ok ns 0
  obtain ⟨rs, hd, hl, hr⟩ := draws_ok c 90 (by decide)
  obtain ⟨w0, u0, hp, wok0, uok0, wn0, un0⟩ := pair_ok2 rs (by omega) (by omega) hr 5 (by decide) (by decide)
  let E := fun (e2 e3 e4 e5 e6 e7 e8 : Option D) => [some (PyData.list (ns.map .int)), some (PyData.list (rs.map .int)), e2, e3, e4, e5, e6, e7, e8]
  have pick : ∃ w u : Wd, w.Ok ∧ u.Ok ∧ w.n ≤ 6 ∧ u.n ≤ 6 ∧ (sIf (tV (e2 eqD (e2 modD (e2 ixD (eVar 1) (eC (.int 70))) (eC (.int 5))) (eC (.int 1))))
      (sPar 5 6 (eCall m__law_beside [(eCall m__law_ring [(eC (.int 3))]), (eCall m__law_ring [(eC (.int 3))])]) (eCall m__law_ring [(eC (.int 6))]))
      sNext) (E none none none (some w0.d) (some u0.d) none none) = some (.nx (E none none none (some w.d) (some u.d) none none)) := by
    have c : tV (e2 eqD (e2 modD (e2 ixD (eVar 1) (eC (.int 70))) (eC (.int 5))) (eC (.int 1))) (E none none none (some w0.d) (some u0.d) none none) = some (decide (rs.getD 70 0 % 5 = 1)) := tV_go (e2_go (e2_go (e2_go rfl rfl (ix_ints (i := 70) (by omega) (by omega))) rfl (mod_n (by decide))) rfl (eq_i _ _))
    cases hq : decide (rs.getD 70 0 % 5 = 1) with
    | false => exact ⟨w0, u0, wok0, uok0, by omega, by omega, if_f (c.trans (by rw [hq])) rfl⟩
    | true =>
      refine ⟨w33, w6, w33_ok, w6_ok, by decide, by decide, if_t (c.trans (by rw [hq])) ?_⟩
      have h1 : eCall m__law_beside [(eCall m__law_ring [(eC (.int 3))]), (eCall m__law_ring [(eC (.int 3))])] (E none none none (some w0.d) (some u0.d) none none) = some w33.d := by kernel_rfl
      have h2 : eCall m__law_ring [(eC (.int 6))] (E none none none (some w0.d) (some u0.d) none none) = some w6.d := by kernel_rfl
      simp only [sPar, h1, h2, Option.bind_some, Option.map_some]
      rfl
  obtain ⟨w, u, wok, uok, w6', u6', hpick⟩ := pick
  have wlo := wok.lo
  have ulo := uok.lo
  obtain ⟨ps, hps, pp⟩ := names_ok rs (by omega) hr 71 (by decide) w.n (by omega) (by omega)
  have iso := ren_iso wok pp
  have rok : (w.ren ps).Ok := Wd.ren_ok wok pp
  obtain ⟨v, hv, nv⟩ := near_ok6 wok rok w6' (show (w.ren ps).n ≤ 6 from w6') 3
  have hv0 : ∃ z, v = .tuple [.str "matched", z] := by
    cases nv with
    | counted s item hi hne =>
      exact absurd (iso.knd wok rok hi 3) hne
    | matched nm _ _ _ _ => exact ⟨_, rfl⟩
  obtain ⟨z, rfl⟩ := hv0
  refine run_rt rfl (seq_go (e := E none none none none none none none) (asg_go (call2_go (call2_go rfl rfl hc) rfl hd)) ?_)
  refine seq_go (e := E none none none (some w0.d) (some u0.d) none none) (by
    show (eCall m__law_pair [(eVar 1), (eC (.int 5))] (E none none none none none none none)).bind _ = _
    rw [call2_go rfl rfl hp]
    rfl) (seq_go hpick ?_)
  refine seq_for_invP PyData.int (fun done env => ∃ e2 e7 e8, env = E e2 none none (some w.d) (some u.d) e7 e8) (rangeI 0 3) (rngI1 (n := 3) rfl (by decide) (by decide)) ⟨none, none, none, rfl⟩ ?_ ?_
  · rintro done k rest hx env ⟨e2, e7, e8, rfl⟩
    have hk := rangeI_mem.mp (show k ∈ rangeI 0 3 by rw [hx]; exact List.mem_append_right _ List.mem_cons_self)
    have ne : ∃ (j r : Nat), k = j ∧ j ≤ 3 ∧ m_near_enough [.int j] = some (.int r) ∧ (j = 0 ∨ 1 ≤ r ∧ j ≤ 2) := by
      have : k = 0 ∨ k = 1 ∨ k = 2 := by omega
      rcases this with rfl | rfl | rfl
      · exact ⟨0, 0, rfl, by decide, by kernel_rfl, .inl rfl⟩
      · exact ⟨1, 1, rfl, by decide, by kernel_rfl, .inr ⟨by decide, by decide⟩⟩
      · exact ⟨2, 4, rfl, by decide, by kernel_rfl, .inr ⟨by decide, by decide⟩⟩
    obtain ⟨j, r, rfl, hj, hr, hjr⟩ := ne
    obtain ⟨t, ht, nt⟩ := near_ok6 wok uok w6' u6' r
    refine ⟨_, rfl, E (some (.int j)) none none (some w.d) (some u.d) (some (.int r)) (some t), .inl (seq_go (e := E (some (.int j)) none none (some w.d) (some u.d) (some (.int r)) e8) (asg_go (call1_go rfl hr)) (seq_go (asg_go (call3_go rfl rfl rfl ht)) (if_f ?_ rfl))), _, _, _, rfl⟩
    cases nt with
    | counted s item hi hne =>
      exact tAnd_f (tV_go (e2_go (e2_go rfl rfl rfl) rfl m_eq.2.1))
    | matched nm c1 c2 hlen M =>
      have ag := agree_ok wok uok hj
      rw [hanf2 wok uok hlen (fair_size wok uok c1 c2) M j hjr] at ag
      exact tAnd_t (tV_go (e2_go (e2_go rfl rfl rfl) rfl m_eq.1)) (tV_go (e2_go (call3_go rfl rfl rfl ag) rfl rfl))
  · rintro env ⟨e2, e7, e8, rfl⟩
    refine seq_go (e := E e2 (some (tI ps)) none (some w.d) (some u.d) e7 e8) (asg_go (call3_go rfl rfl (e2_go rfl rfl (wdn w)) hps)) (seq_go (if_f (tV_go (e2_go (e2_go (call3_go rfl (call2_go rfl rfl (prenamed_ok wok pp)) rfl hv) rfl rfl) rfl m_eq.2.2)) rfl) ?_)
    clear hv nv hps hpick hp
    generalize some w.d = W
    generalize some u.d = U
    generalize some (tI ps) = N
    simp only [E]
    generalize some (PyData.list (rs.map .int)) = R
    generalize some (PyData.list (ns.map .int)) = S
    kernel_rfl
end LB

set_option Elab.async false
set_option linter.all false
set_option maxRecDepth 100000
set_option maxHeartbeats 4000000
namespace K60
open PySem PySem.Spec PyProof.Rows L2 TL
def topS (i : Nat) : Stmt := PySem.Challenge.pw_backforth_k60_whole_near_worlds_agree.main.body.getD i (.Pass ⟨0, 0, 0, 0⟩)
structure Top (K : PySem.W.Frag) (mg : Str → Option Value) (w : World) (base : Heap) where
  f_goes : Addr
  fd_goes : FuncData
  F_goes : Fun K "goes" "goes" (topS 1) f_goes fd_goes
  g_goes : mg "goes" = some (.ref f_goes)
  b_goes : Binds K fd_goes ["one", "two", "first", "last"] []
  f_grows : Addr
  fd_grows : FuncData
  F_grows : Fun K "grows" "grows" (topS 2) f_grows fd_grows
  g_grows : mg "grows" = some (.ref f_grows)
  b_grows : Binds K fd_grows ["one", "two", "pairs", "pair"] []
  f_put : Addr
  fd_put : FuncData
  F_put : Fun K "put" "put" (topS 3) f_put fd_put
  g_put : mg "put" = some (.ref f_put)
  b_put : Binds K fd_put ["pairs", "pair"] []
  f_can_answer : Addr
  fd_can_answer : FuncData
  F_can_answer : Fun K "can_answer" "can_answer" (topS 5) f_can_answer fd_can_answer
  g_can_answer : mg "can_answer" = some (.ref f_can_answer)
  b_can_answer : Binds K fd_can_answer ["one", "two", "pairs", "k", "known", "item", "place"] []
  f_can_go : Addr
  fd_can_go : FuncData
  c_can_go : Addr
  p_can_go : Addr
  F_can_go : FunC K "can_go" "can_go" (topS 6) f_can_go fd_can_go c_can_go
  g_can_go : mg "can_go" = some (.ref f_can_go)
  b_can_go : Binds K fd_can_go ["one", "two", "pairs", "k", "known"] []
  t_can_go : PySem.W.tabIn K "can_go" = some (c_can_go, p_can_go)
  tb_can_go : GxR.TabB base mg c_can_go p_can_go
  f_agree : Addr
  fd_agree : FuncData
  F_agree : Fun K "agree" "agree" (topS 7) f_agree fd_agree
  g_agree : mg "agree" = some (.ref f_agree)
  b_agree : Binds K fd_agree ["one", "two", "k"] []
  f_renamed : Addr
  fd_renamed : FuncData
  F_renamed : Fun K "renamed" "renamed" (topS 9) f_renamed fd_renamed
  g_renamed : mg "renamed" = some (.ref f_renamed)
  b_renamed : Binds K fd_renamed ["world", "names"] []
  f_part_of : Addr
  fd_part_of : FuncData
  F_part_of : Fun K "part_of" "part_of" (topS 10) f_part_of fd_part_of
  g_part_of : mg "part_of" = some (.ref f_part_of)
  b_part_of : Binds K fd_part_of ["world", "items"] []
  f_likenesses : Addr
  fd_likenesses : FuncData
  F_likenesses : Fun K "likenesses" "likenesses" (topS 12) f_likenesses fd_likenesses
  g_likenesses : mg "likenesses" = some (.ref f_likenesses)
  b_likenesses : Binds K fd_likenesses ["one", "two", "begun"] []
  f_neighbours : Addr
  fd_neighbours : FuncData
  F_neighbours : Fun K "neighbours" "neighbours" (topS 14) f_neighbours fd_neighbours
  g_neighbours : mg "neighbours" = some (.ref f_neighbours)
  b_neighbours : Binds K fd_neighbours ["world", "a"] []
  f_distances : Addr
  fd_distances : FuncData
  F_distances : Fun K "distances" "distances" (topS 15) f_distances fd_distances
  g_distances : mg "distances" = some (.ref f_distances)
  b_distances : Binds K fd_distances ["world", "a"] []
  f_ball : Addr
  fd_ball : FuncData
  F_ball : Fun K "ball" "ball" (topS 16) f_ball fd_ball
  g_ball : mg "ball" = some (.ref f_ball)
  b_ball : Binds K fd_ball ["world", "a", "r"] []
  f_look_alike : Addr
  fd_look_alike : FuncData
  F_look_alike : Fun K "look_alike" "look_alike" (topS 17) f_look_alike fd_look_alike
  g_look_alike : mg "look_alike" = some (.ref f_look_alike)
  b_look_alike : Binds K fd_look_alike ["one", "a", "two", "b", "r"] []
  f_looks_like : Addr
  fd_looks_like : FuncData
  F_looks_like : Fun K "looks_like" "looks_like" (topS 18) f_looks_like fd_looks_like
  g_looks_like : mg "looks_like" = some (.ref f_looks_like)
  b_looks_like : Binds K fd_looks_like ["one", "two", "side", "item", "r"] []
  f_near_paper : Addr
  fd_near_paper : FuncData
  F_near_paper : Fun K "near_paper" "near_paper" (topS 19) f_near_paper fd_near_paper
  g_near_paper : mg "near_paper" = some (.ref f_near_paper)
  b_near_paper : Binds K fd_near_paper ["one", "two", "r"] []
  f_near_enough : Addr
  fd_near_enough : FuncData
  F_near_enough : Fun K "near_enough" "near_enough" (topS 20) f_near_enough fd_near_enough
  g_near_enough : mg "near_enough" = some (.ref f_near_enough)
  b_near_enough : Binds K fd_near_enough ["k"] []
  f__law_cell : Addr
  fd__law_cell : FuncData
  F__law_cell : Fun K "_law_cell" "_law_cell" (topS 22) f__law_cell fd__law_cell
  g__law_cell : mg "_law_cell" = some (.ref f__law_cell)
  b__law_cell : Binds K fd__law_cell ["script", "k"] []
  f__law_draws : Addr
  fd__law_draws : FuncData
  F__law_draws : Fun K "_law_draws" "_law_draws" (topS 23) f__law_draws fd__law_draws
  g__law_draws : mg "_law_draws" = some (.ref f__law_draws)
  b__law_draws : Binds K fd__law_draws ["cell", "amount"] []
  f__law_kind : Addr
  fd__law_kind : FuncData
  F__law_kind : Fun K "_law_kind" "_law_kind" (topS 24) f__law_kind fd__law_kind
  g__law_kind : mg "_law_kind" = some (.ref f__law_kind)
  b__law_kind : Binds K fd__law_kind ["x"] []
  f__law_equal : Addr
  fd__law_equal : FuncData
  F__law_equal : Fun K "_law_equal" "_law_equal" (topS 25) f__law_equal fd__law_equal
  g__law_equal : mg "_law_equal" = some (.ref f__law_equal)
  b__law_equal : Binds K fd__law_equal ["x", "due"] []
  f__law_names : Addr
  fd__law_names : FuncData
  F__law_names : Fun K "_law_names" "_law_names" (topS 26) f__law_names fd__law_names
  g__law_names : mg "_law_names" = some (.ref f__law_names)
  b__law_names : Binds K fd__law_names ["draws", "at", "n"] []
  f__law_line : Addr
  fd__law_line : FuncData
  F__law_line : Fun K "_law_line" "_law_line" (topS 27) f__law_line fd__law_line
  g__law_line : mg "_law_line" = some (.ref f__law_line)
  b__law_line : Binds K fd__law_line ["n"] []
  f__law_ring : Addr
  fd__law_ring : FuncData
  F__law_ring : Fun K "_law_ring" "_law_ring" (topS 28) f__law_ring fd__law_ring
  g__law_ring : mg "_law_ring" = some (.ref f__law_ring)
  b__law_ring : Binds K fd__law_ring ["n"] []
  f__law_both_ways : Addr
  fd__law_both_ways : FuncData
  F__law_both_ways : Fun K "_law_both_ways" "_law_both_ways" (topS 29) f__law_both_ways fd__law_both_ways
  g__law_both_ways : mg "_law_both_ways" = some (.ref f__law_both_ways)
  b__law_both_ways : Binds K fd__law_both_ways ["n", "edges"] []
  f__law_renamed : Addr
  fd__law_renamed : FuncData
  F__law_renamed : Fun K "_law_renamed" "_law_renamed" (topS 30) f__law_renamed fd__law_renamed
  g__law_renamed : mg "_law_renamed" = some (.ref f__law_renamed)
  b__law_renamed : Binds K fd__law_renamed ["world", "names"] []
  f__law_beside : Addr
  fd__law_beside : FuncData
  F__law_beside : Fun K "_law_beside" "_law_beside" (topS 31) f__law_beside fd__law_beside
  g__law_beside : mg "_law_beside" = some (.ref f__law_beside)
  b__law_beside : Binds K fd__law_beside ["one", "two"] []
  f__law_special : Addr
  fd__law_special : FuncData
  F__law_special : Fun K "_law_special" "_law_special" (topS 32) f__law_special fd__law_special
  g__law_special : mg "_law_special" = some (.ref f__law_special)
  b__law_special : Binds K fd__law_special ["number"] []
  f__law_world : Addr
  fd__law_world : FuncData
  F__law_world : Fun K "_law_world" "_law_world" (topS 33) f__law_world fd__law_world
  g__law_world : mg "_law_world" = some (.ref f__law_world)
  b__law_world : Binds K fd__law_world ["draws", "most"] []
  f__law_pair : Addr
  fd__law_pair : FuncData
  F__law_pair : Fun K "_law_pair" "_law_pair" (topS 34) f__law_pair fd__law_pair
  g__law_pair : mg "_law_pair" = some (.ref f__law_pair)
  b__law_pair : Binds K fd__law_pair ["draws", "most"] []
  f_law : Addr
  fd_law : FuncData
  F_law : Fun K "law" "law" (topS 35) f_law fd_law
  g_law : mg "law" = some (.ref f_law)
  b_law : Binds K fd_law ["script"] []
  z_all : mg "all" = none
  z_any : mg "any" = none
  z_bool : mg "bool" = none
  z_dense_truth : mg "dense_truth" = none
  z_dict : mg "dict" = none
  z_int : mg "int" = none
  z_isinstance : mg "isinstance" = none
  z_len : mg "len" = none
  z_line_truth : mg "line_truth" = none
  z_list : mg "list" = none
  z_max : mg "max" = none
  z_range : mg "range" = none
  z_sorted : mg "sorted" = none
  z_steps_truth : mg "steps_truth" = none
  z_str : mg "str" = none
  z_truth : mg "truth" = none
  z_tuple : mg "tuple" = none
end K60

set_option Elab.async false
set_option linter.all false
set_option maxRecDepth 100000
set_option maxHeartbeats 4000000
namespace K60
open PySem PySem.Spec PyProof.Rows L2 TL
section
variable {P : Program} {w : World} {K : PySem.W.Frag} {mg : Str → Option Value} {base : Heap}
abbrev s_goes : Stmt := topS 1
theorem sc_goes : FnScope ["one", "two", "first", "last", "a", "b", "c", "d", "i"] ["one", "two", "first", "last"] (defScope s_goes) := ⟨rfl, rfl, rfl, by decide +kernel, rfl, by decide +kernel, by decide +kernel⟩
theorem ok_goes (T : Top K mg w base) : FnOk P w K mg base CX0 1 T.f_goes T.fd_goes ["one", "two", "first", "last"] (spV ⟨K, mg, P, w⟩ 4 LB.m_goes) :=
  fnV (G := ⟨K, mg, P, w⟩) T.F_goes sc_goes rfl (Oe := []) fun cdv A outer s H E hr =>
    (bc (sasg (ev 2) (gt rfl (gsc (gn 4 sc_goes.nd) (gsc (gn 5 sc_goes.nd) gsn))))
      (bc (sasg (ev 3) (gt rfl (gsc (gn 6 sc_goes.nd) (gsc (gn 7 sc_goes.nd) gsn))))
      (bc (sif (O' := []) (tc (o_ne (u64 hr)) (vb (ec (o_eq (u64 hr)) (eb 4) (eb 6))) (vb (ec (o_eq (u64 hr)) (eb 5) (eb 7))))
      (bo (sret ebl))
      bn)
      (bc (sif (O' := []) (tv (eB (c_any rfl) rfl T.z_any (by decide +kernel) (nb (elc (own := [("i", 8)]) rfl sc_goes.nd (iseqB (vb (etup (ac ei (ac ei an))))) (blkOk_by (by kernel_rfl)) (fun _ _ _ _ _ => (gn 8 sc_goes.nd)) (fun _ _ _ _ _ => pyes) (fun _ _ _ _ _ => (ec (o_ne (u64 hr)) (vb (ec (o_in (u65 hr)) (eb 4) (vb (eix (vb (eix (eb 0) (vb ei))) (eb 8))))) (vb (ec (o_in (u65 hr)) (eb 5) (vb (eix (vb (eix (eb 1) (vb ei))) (eb 8)))))))))))
      (bo (sret ebl))
      bn)
      (bo (sret (eand (ec (o_eq (u64 hr)) (vb (ec (o_in (u65 hr)) (vb (etup (ac (ev 4) (ac (ev 6) an)))) (vb (eix (eb 0) (vb ei))))) (vb (ec (o_in (u65 hr)) (vb (etup (ac (ev 5) (ac (ev 7) an)))) (vb (eix (eb 1) (vb ei)))))) (eone (ec (o_eq (u64 hr)) (vb (ec (o_in (u65 hr)) (vb (etup (ac (ev 6) (ac (ev 4) an)))) (vb (eix (eb 0) (vb ei))))) (vb (ec (o_in (u65 hr)) (vb (etup (ac (ev 7) (ac (ev 5) an)))) (vb (eix (eb 1) (vb ei))))))))))))))
abbrev s_grows : Stmt := topS 2
theorem sc_grows : FnScope ["one", "two", "pairs", "pair", "other"] ["one", "two", "pairs", "pair"] (defScope s_grows) := ⟨rfl, rfl, rfl, by decide +kernel, rfl, by decide +kernel, by decide +kernel⟩
theorem ok_grows (T : Top K mg w base) : FnOk P w K mg base CX0 2 T.f_grows T.fd_grows ["one", "two", "pairs", "pair"] (spV ⟨K, mg, P, w⟩ 4 LB.m_grows) :=
  fnV (G := ⟨K, mg, P, w⟩) T.F_grows sc_grows rfl (Oe := []) fun cdv A outer s H E hr =>
    (bo (sret (eand (ecall (ok_goes T) (hr.mono (by omega)) rfl T.g_goes T.F_goes.kp T.b_goes (ac (ev 0) (ac (ev 1) (ac (ev 3) (ac (ev 3) an))))) (eone (eB (c_all rfl) rfl T.z_all (by decide +kernel) (nb (elc (own := [("other", 4)]) rfl sc_grows.nd (iseqB (eb 2)) (blkOk_by (by kernel_rfl)) (fun _ _ _ _ _ => (gn 4 sc_grows.nd)) (fun _ _ _ _ _ => pyes) (fun _ _ _ _ _ => (ecall (ok_goes T) (hr.mono (by omega)) rfl T.g_goes T.F_goes.kp T.b_goes (ac (ev 0) (ac (ev 1) (ac (ev 3) (ac (ev 4) an)))))))))))))
abbrev s_put : Stmt := topS 3
theorem sc_put : FnScope ["pairs", "pair"] ["pairs", "pair"] (defScope s_put) := ⟨rfl, rfl, rfl, by decide +kernel, rfl, by decide +kernel, by decide +kernel⟩
theorem ok_put (T : Top K mg w base) : FnOk P w K mg base CX0 1 T.f_put T.fd_put ["pairs", "pair"] (spV ⟨K, mg, P, w⟩ 2 LB.m_put) :=
  fnV (G := ⟨K, mg, P, w⟩) T.F_put sc_put rfl (Oe := []) fun cdv A outer s H E hr =>
    (bo (sret (eif (tc (o_in (u65 hr)) (eb 1) (eb 0)) (ev 0) (eT c_tuple rfl T.z_tuple (by decide +kernel) (nb (eBN c_sorted rfl T.z_sorted (by decide +kernel) (vb (eo o_add (eb 0) (vb (etup (ac (ev 1) an)))))))))))
abbrev s_can_answer : Stmt := topS 5
theorem sc_can_answer : FnScope ["one", "two", "pairs", "k", "known", "item", "place", "others", "answers", "pair", "other"] ["one", "two", "pairs", "k", "known", "item", "place"] (defScope s_can_answer) := ⟨rfl, rfl, rfl, by decide +kernel, rfl, by decide +kernel, by decide +kernel⟩
theorem ok_can_answer (T : Top K mg w base) (n : Nat) (ih : FnOk P w K mg base CX0 (3 * n + 2) T.f_can_go T.fd_can_go ["one", "two", "pairs", "k", "known"] (spM ⟨P, w, ⟨K, mg, P, w⟩, LB.uGo, LB.spGo⟩ 4 4 0 1 (LB.m_can_go_2 n))) : FnOk P w K mg base CX0 (3 * n + 3) T.f_can_answer T.fd_can_answer ["one", "two", "pairs", "k", "known", "item", "place"] (spM ⟨P, w, ⟨K, mg, P, w⟩, LB.uGo, LB.spGo⟩ 6 4 0 1 (LB.m_can_answer_2 (LB.m_can_go_2 n))) :=
  fnM (G := ⟨K, mg, P, w⟩) (k := 3 * n + 2) (S := ⟨4, 0, 1⟩) T.F_can_answer sc_can_answer rfl rfl ⟨rfl, by decide⟩ (by decide) (by decide) fun cdv A outer s H E hr =>
    (mbc (mset 7 sc_can_answer.nd (mlift (erngV1 rfl T.z_range (eif (tc (o_eq (u64 hr)) (eb 6) (vb ei)) (eix (eb 1) (vb ei)) (eix (eb 0) (vb ei))))))
      (mbc (msetL (own := [("other", 10)]) 8 rfl sc_can_answer.nd (sw_true rfl rfl rfl (by decide +kernel)) (irngO (ev 7)) (blkOk_by (by kernel_rfl)) (fun _ _ _ _ _ => (gn 10 sc_can_answer.nd)) (fun _ _ _ _ _ => (mpT pyes)) (fun _ _ _ _ _ => (mlift (eif (tc (o_eq (u64 hr)) (eb 6) (vb ei)) (etup (ac (ev 5) (ac (ev 10) an))) (etup (ac (ev 10) (ac (ev 5) an)))))) (keep_name 10))
      (mbc (mfor (O := []) PassesOwn.never rfl (iseq (ev 8)) (gn 9 sc_can_answer.nd)
      (mbo (mif_ (O' := []) (mtw (mtand (mliftT (tv (ecall (ok_grows T) (hr.mono (by omega)) rfl T.g_grows T.F_grows.kp T.b_grows (ac (ev 0) (ac (ev 1) (ac (ev 2) (ac (ev 9) an))))))) (mtone1 (mtv (mcall ih (hr.mono (by omega)) rfl T.g_can_go T.F_can_go.kp T.b_can_go (mk_cons (mlift (ev 0)) (mk_cons (mlift (ev 1)) (mk_cons (mlift (ecall (ok_put T) (hr.mono (by omega)) rfl T.g_put T.F_put.kp T.b_put (ac (ev 2) (ac (ev 9) an)))) (mk_cons (mlift (ev 3)) (mk_here man))))))))))
      (mbo (mret (mlift ebl)))
      mbn)) (keep_name 9))
      (mbo (mret (mlift ebl))))))
abbrev s_can_go : Stmt := topS 6
theorem sc_can_go : FnScope ["one", "two", "pairs", "k", "known", "forth", "a", "b"] ["one", "two", "pairs", "k", "known"] (defScope s_can_go) := ⟨rfl, rfl, rfl, by decide +kernel, rfl, by decide +kernel, by decide +kernel⟩
theorem ok_can_go (T : Top K mg w base) : ∀ n, FnOk P w K mg base CX0 (3 * n + 2) T.f_can_go T.fd_can_go ["one", "two", "pairs", "k", "known"] (spM ⟨P, w, ⟨K, mg, P, w⟩, LB.uGo, LB.spGo⟩ 4 4 0 1 (LB.m_can_go_2 n))
  | 0 => fnNever fun vs H Q E h => by obtain ⟨_, _, _, _, _, _, _, _, _, _, _, _, _, _, _, h, _⟩ := h; cases h
  | n + 1 => by
    have ih := ok_can_go T n
    exact fnMC (G := ⟨K, mg, P, w⟩) (k := 3 * n + 4) (S := ⟨4, 0, 1⟩) T.F_can_go sc_can_go rfl rfl ⟨rfl, by decide⟩ (by decide) (by decide) fun A outer s H E hr =>
    (mbc (mif_ (O' := []) (mliftT (tc (o_eq (u64 hr)) (eb 3) (vb ei)))
      (mbo (mret (mlift ebl)))
      mbn)
      (mmemo LB.ok_uGo (u64 hr) (etup (ac (ev 2) (ac (ev 3) an))) (etup (ac (ev 2) (ac (ev 3) an)))
      (mbk_cons (mset 5 sc_can_go.nd (mall (own := [("a", 6)]) T.t_can_go T.tb_can_go rfl hr rfl T.z_all sc_can_go.nd (genOk_by (by kernel_rfl) rfl (by kernel_rfl) (by kernel_rfl)) (irng1 rfl T.z_range (eix (eb 0) (vb ei))) (fun _ _ _ _ _ _ _ => (gn 6 sc_can_go.nd)) (fun _ _ _ _ _ _ _ hr' => (mcall (ok_can_answer T n ih) (hr'.mono (by omega)) rfl T.g_can_answer T.F_can_answer.kp T.b_can_answer (mk_cons (mlift (ev 0)) (mk_cons (mlift (ev 1)) (mk_cons (mlift (ev 2)) (mk_cons (mlift (eo o_sub (eb 3) (vb ei))) (mk_here (mac (mlift (ev 6)) (mac (mlift ei) man))))))))) (keep_name 6)))
      (mbk_end LB.ok_uGo (u64 hr) (etup (ac (ev 2) (ac (ev 3) an))) (mand (mlift (ev 5)) (mone (mall (own := [("b", 7)]) T.t_can_go T.tb_can_go rfl hr rfl T.z_all sc_can_go.nd (genOk_by (by kernel_rfl) rfl (by kernel_rfl) (by kernel_rfl)) (irng1 rfl T.z_range (eix (eb 1) (vb ei))) (fun _ _ _ _ _ _ _ => (gn 7 sc_can_go.nd)) (fun _ _ _ _ _ _ _ hr' => (mcall (ok_can_answer T n ih) (hr'.mono (by omega)) rfl T.g_can_answer T.F_can_answer.kp T.b_can_answer (mk_cons (mlift (ev 0)) (mk_cons (mlift (ev 1)) (mk_cons (mlift (ev 2)) (mk_cons (mlift (eo o_sub (eb 3) (vb ei))) (mk_here (mac (mlift (ev 7)) (mac (mlift ei) man))))))))) (keep_name 7))))))))
abbrev s_agree : Stmt := topS 7
theorem sc_agree : FnScope ["one", "two", "k"] ["one", "two", "k"] (defScope s_agree) := ⟨rfl, rfl, rfl, by decide +kernel, rfl, by decide +kernel, by decide +kernel⟩
theorem ok_agree (T : Top K mg w base) : FnOk P w K mg base CX0 27 T.f_agree T.fd_agree ["one", "two", "k"] (spV ⟨K, mg, P, w⟩ 3 LB.m_agree_2) :=
  fnV (G := ⟨K, mg, P, w⟩) T.F_agree sc_agree rfl (Oe := []) fun cdv A outer s H E hr =>
    (bo (sret (ecallM (u := LB.uGo) (sp := LB.spGo) (ok_can_go T 8) (hr.mono (by omega)) rfl T.g_can_go T.F_can_go.kp T.b_can_go (ak_cons (ev 0) (ak_cons (ev 1) (ak_cons (etup an) (ak_cons (ev 2) ak_end)))))))
abbrev s_renamed : Stmt := topS 9
theorem sc_renamed : FnScope ["world", "names", "places", "n", "marks", "arrows", "items", "a", "b"] ["world", "names"] (defScope s_renamed) := ⟨rfl, rfl, rfl, by decide +kernel, rfl, by decide +kernel, by decide +kernel⟩
theorem ok_renamed (T : Top K mg w base) : FnOk P w K mg base CX0 1 T.f_renamed T.fd_renamed ["world", "names"] (spV ⟨K, mg, P, w⟩ 2 LB.m_renamed) :=
  fnV (G := ⟨K, mg, P, w⟩) T.F_renamed sc_renamed rfl (Oe := []) fun cdv A outer s H E hr =>
    (bc (sasg (ev 0) (gt rfl (gsc (gn 3 sc_renamed.nd) (gsc (gn 4 sc_renamed.nd) (gsc (gn 5 sc_renamed.nd) gsn)))))
      (bc (sset 2 sc_renamed.nd (eT c_tuple rfl T.z_tuple (by decide +kernel) (nb (elc (own := [("items", 6)]) rfl sc_renamed.nd (iseqB (eb 4)) (blkOk_by (by kernel_rfl)) (fun _ _ _ _ _ => (gn 6 sc_renamed.nd)) (fun _ _ _ _ _ => pyes) (fun _ _ _ _ _ => (eT c_tuple rfl T.z_tuple (by decide +kernel) (nb (eBN c_sorted rfl T.z_sorted (by decide +kernel) (nb (elc (own := [("a", 7)]) rfl sc_renamed.nd (iseqB (eb 6)) (blkOk_by (by kernel_rfl)) (fun _ _ _ _ _ => (gn 7 sc_renamed.nd)) (fun _ _ _ _ _ => pyes) (fun _ _ _ _ _ => (eix (eb 1) (eb 7)))))))))))))
      (bo (sret (etup (ac (ev 3) (ac (ev 2) (ac (eT c_tuple rfl T.z_tuple (by decide +kernel) (nb (eBN c_sorted rfl T.z_sorted (by decide +kernel) (nb (elc (own := [("a", 7), ("b", 8)]) rfl sc_renamed.nd (iseqB (eb 5)) (blkOk_by (by kernel_rfl)) (fun _ _ _ _ _ => (gt rfl (gsc (gn 7 sc_renamed.nd) (gsc (gn 8 sc_renamed.nd) gsn)))) (fun _ _ _ _ _ => pyes) (fun _ _ _ _ _ => (etup (ac (eix (eb 1) (eb 7)) (ac (eix (eb 1) (eb 8)) an))))))))) an))))))))
abbrev s_part_of : Stmt := topS 10
theorem sc_part_of : FnScope ["world", "items", "size", "marks", "arrows", "row", "j", "k"] ["world", "items"] (defScope s_part_of) := ⟨rfl, rfl, rfl, by decide +kernel, rfl, by decide +kernel, by decide +kernel⟩
theorem ok_part_of (T : Top K mg w base) : FnOk P w K mg base CX0 1 T.f_part_of T.fd_part_of ["world", "items"] (spV ⟨K, mg, P, w⟩ 2 LB.m_part_of) :=
  fnV (G := ⟨K, mg, P, w⟩) T.F_part_of sc_part_of rfl (Oe := []) fun cdv A outer s H E hr =>
    (bc (sset 2 sc_part_of.nd (eB c_len rfl T.z_len (by decide +kernel) (eb 1)))
      (bc (sset 3 sc_part_of.nd (eT c_tuple rfl T.z_tuple (by decide +kernel) (nb (elc (own := [("row", 5)]) rfl sc_part_of.nd (iseqB (vb (eix (eb 0) (vb ei)))) (blkOk_by (by kernel_rfl)) (fun _ _ _ _ _ => (gn 5 sc_part_of.nd)) (fun _ _ _ _ _ => pyes) (fun _ _ _ _ _ => (eT c_tuple rfl T.z_tuple (by decide +kernel) (nb (elc (own := [("k", 7)]) rfl sc_part_of.nd (iv_b (irng1 rfl T.z_range (ev 2))) (blkOk_by (by kernel_rfl)) (fun _ _ _ _ _ => (gn 7 sc_part_of.nd)) (fun _ _ _ _ _ => (pone (tc (o_in (u65 hr)) (vb (eix (eb 1) (eb 7))) (eb 5)))) (fun _ _ _ _ _ => (ev 7))))))))))
      (bc (sset 4 sc_part_of.nd (eT c_tuple rfl T.z_tuple (by decide +kernel) (nb (elc2 (own := [("j", 6), ("k", 7)]) (vs1 := [7]) rfl sc_part_of.nd (iv_b (irng1 rfl T.z_range (ev 2))) (blkOk_by (by kernel_rfl)) (by decide) (fun _ _ _ _ _ => (gn 6 sc_part_of.nd)) (fun _ _ _ _ _ => pyes) (fun _ _ _ _ _ => (irng1 rfl T.z_range (ev 2))) (fun _ _ _ _ _ => (gn 7 sc_part_of.nd)) (fun _ _ _ _ _ => (pone (tc (o_in (u65 hr)) (vb (etup (ac (eix (eb 1) (eb 6)) (ac (eix (eb 1) (eb 7)) an)))) (vb (eix (eb 0) (vb ei)))))) (fun _ _ _ _ _ => (etup (ac (ev 6) (ac (ev 7) an))))))))
      (bo (sret (etup (ac (ev 2) (ac (ev 3) (ac (ev 4) an)))))))))
abbrev s_likenesses : Stmt := topS 12
theorem sc_likenesses : FnScope ["one", "two", "begun", "at", "found", "name", "pairs", "k", "pair"] ["one", "two", "begun"] (defScope s_likenesses) := ⟨rfl, rfl, rfl, by decide +kernel, rfl, by decide +kernel, by decide +kernel⟩
theorem ok_likenesses (T : Top K mg w base) : ∀ n, FnOk P w K mg base CX0 (n + 1) T.f_likenesses T.fd_likenesses ["one", "two", "begun"] (spN ⟨K, mg, P, w⟩ 3 (LB.m_likenesses_2 n))
  | 0 => fnNever fun vs H Q E h => by obtain ⟨_, _, _, _, _, _, h, _⟩ := h; cases h
  | n + 1 => by
    have ih := ok_likenesses T n
    exact fnN (G := ⟨K, mg, P, w⟩) T.F_likenesses sc_likenesses rfl (Oe := []) fun cdv A outer s H E hr =>
    (bc (sset 3 sc_likenesses.nd (eB c_len rfl T.z_len (by decide +kernel) (eb 2)))
      (bc (sif (O' := []) (tc (o_eq (u64 hr)) (eb 3) (vb (eix (eb 0) (vb ei))))
      (bo (sretN (elst (ac (ev 2) an))))
      bn)
      (bc (ssetN 4 sc_likenesses.nd (elst an))
      (bc (sfor (O := [4]) PassesOwn.never rfl (irng1 rfl T.z_range (eix (eb 1) (vb ei))) (gn 5 sc_likenesses.nd)
      (bc (sset 6 sc_likenesses.nd (eo o_add (nb (elc (own := [("k", 7)]) rfl sc_likenesses.nd (iv_b (irng1 rfl T.z_range (ev 3))) (blkOk_by (by kernel_rfl)) (fun _ _ _ _ _ => (gn 7 sc_likenesses.nd)) (fun _ _ _ _ _ => pyes) (fun _ _ _ _ _ => (etup (ac (ev 7) (ac (eix (eb 2) (eb 7)) an)))))) (nb (elst (ac (etup (ac (ev 3) (ac (ev 5) an))) an)))))
      (bo (sif (O' := [4]) (tv (eB (c_all rfl) rfl T.z_all (by decide +kernel) (nb (elc (own := [("pair", 8)]) rfl sc_likenesses.nd (iseqB (eb 6)) (blkOk_by (by kernel_rfl)) (fun _ _ _ _ _ => (gn 8 sc_likenesses.nd)) (fun _ _ _ _ _ => pyes) (fun _ _ _ _ _ => (ecall (ok_goes T) (hr.mono (by omega)) rfl T.g_goes T.F_goes.kp T.b_goes (ac (ev 0) (ac (ev 1) (ac (etup (ac (ev 3) (ac (ev 5) an))) (ac (ev 8) an))))))))))
      (bo (sext 4 (ecallN ih (hr.mono (by omega)) rfl T.g_likenesses T.F_likenesses.kp T.b_likenesses (ac (ev 0) (ac (ev 1) (ac (eo o_add (eb 2) (vb (etup (ac (ev 5) an)))) an))))))
      bn))))
      (bo (sretO 4))))))
abbrev s_neighbours : Stmt := topS 14
theorem sc_neighbours : FnScope ["world", "a", "b"] ["world", "a"] (defScope s_neighbours) := ⟨rfl, rfl, rfl, by decide +kernel, rfl, by decide +kernel, by decide +kernel⟩
theorem ok_neighbours (T : Top K mg w base) : FnOk P w K mg base CX0 1 T.f_neighbours T.fd_neighbours ["world", "a"] (spV ⟨K, mg, P, w⟩ 2 LB.m_neighbours) :=
  fnV (G := ⟨K, mg, P, w⟩) T.F_neighbours sc_neighbours rfl (Oe := []) fun cdv A outer s H E hr =>
    (bo (sret (nv (elc (own := [("b", 2)]) rfl sc_neighbours.nd (iv_b (irng1 rfl T.z_range (eix (eb 0) (vb ei)))) (blkOk_by (by kernel_rfl)) (fun _ _ _ _ _ => (gn 2 sc_neighbours.nd)) (fun _ _ _ _ _ => (pone (tw (tand (tc (o_ne (u64 hr)) (eb 2) (eb 1)) (tone1 (tw (tor (tc (o_in (u65 hr)) (vb (etup (ac (ev 1) (ac (ev 2) an)))) (vb (eix (eb 0) (vb ei)))) (tone2 (tc (o_in (u65 hr)) (vb (etup (ac (ev 2) (ac (ev 1) an)))) (vb (eix (eb 0) (vb ei)))))))))))) (fun _ _ _ _ _ => (ev 2))))))
abbrev s_distances : Stmt := topS 15
theorem sc_distances : FnScope ["world", "a", "found", "waiting", "here", "item"] ["world", "a"] (defScope s_distances) := ⟨rfl, rfl, rfl, by decide +kernel, rfl, by decide +kernel, by decide +kernel⟩
theorem ok_distances (T : Top K mg w base) : FnOk P w K mg base CX0 2 T.f_distances T.fd_distances ["world", "a"] (spV ⟨K, mg, P, w⟩ 2 LB.m_distances) :=
  fnV (G := ⟨K, mg, P, w⟩) T.F_distances sc_distances rfl (Oe := []) fun cdv A outer s H E hr =>
    (bc (ssetN 2 sc_distances.nd (eoneI (ev 1) ei))
      (bc (ssetN 3 sc_distances.nd (elst (ac (ev 1) an)))
      (bc (swhile (O := [3, 2]) 1000 PassesOwn.never (tc (o_gt (u0 hr)) (vb (eB c_len rfl T.z_len (by decide +kernel) (eb 3))) (vb ei))
      (bc (spopA 4 3 sc_distances.nd ei)
      (bo (sfor (O := [3, 2]) PassesOwn.never rfl (iseq (ecall (ok_neighbours T) (hr.mono (by omega)) rfl T.g_neighbours T.F_neighbours.kp T.b_neighbours (ac (ev 0) (ac (ev 4) an)))) (gn 5 sc_distances.nd)
      (bo (sif (O' := [3, 2]) (tc (o_ninI (u64 hr)) (eb 5) (eb 2))
      (bc (ssetI (u64 hr) 2 (ev 5) (eo o_add (vb (eixI (u64 hr) (eb 2) (ev 4))) (vb ei)))
      (bo (sapp 3 (ev 5))))
      bn))))))
      (bo (spre (O' := [3]) (sret (ev 2)))))))
abbrev s_ball : Stmt := topS 16
theorem sc_ball : FnScope ["world", "a", "r", "found", "b"] ["world", "a", "r"] (defScope s_ball) := ⟨rfl, rfl, rfl, by decide +kernel, rfl, by decide +kernel, by decide +kernel⟩
theorem ok_ball (T : Top K mg w base) : FnOk P w K mg base CX0 3 T.f_ball T.fd_ball ["world", "a", "r"] (spV ⟨K, mg, P, w⟩ 3 LB.m_ball) :=
  fnV (G := ⟨K, mg, P, w⟩) T.F_ball sc_ball rfl (Oe := []) fun cdv A outer s H E hr =>
    (bc (sset 3 sc_ball.nd (ecall (ok_distances T) (hr.mono (by omega)) rfl T.g_distances T.F_distances.kp T.b_distances (ac (ev 0) (ac (ev 1) an))))
      (bo (sret (eT c_tuple rfl T.z_tuple (by decide +kernel) (nb (elc (own := [("b", 4)]) rfl sc_ball.nd (iv_b (irng1 rfl T.z_range (eix (eb 0) (vb ei)))) (blkOk_by (by kernel_rfl)) (fun _ _ _ _ _ => (gn 4 sc_ball.nd)) (fun _ _ _ _ _ => (pone (tw (tand (tc (o_inI (u64 hr)) (eb 4) (eb 3)) (tone1 (tc (o_le (u0 hr)) (vb (eixI (u64 hr) (eb 3) (ev 4))) (eb 2))))))) (fun _ _ _ _ _ => (ev 4))))))))
abbrev s_look_alike : Stmt := topS 17
theorem sc_look_alike : FnScope ["one", "a", "two", "b", "r", "ones", "twos", "here", "there", "names"] ["one", "a", "two", "b", "r"] (defScope s_look_alike) := ⟨rfl, rfl, rfl, by decide +kernel, rfl, by decide +kernel, by decide +kernel⟩
theorem ok_look_alike (T : Top K mg w base) : FnOk P w K mg base CX0 62 T.f_look_alike T.fd_look_alike ["one", "a", "two", "b", "r"] (spV ⟨K, mg, P, w⟩ 5 LB.m_look_alike_2) :=
  fnV (G := ⟨K, mg, P, w⟩) T.F_look_alike sc_look_alike rfl (Oe := []) fun cdv A outer s H E hr =>
    (bc (sasg (etup (ac (ecall (ok_ball T) (hr.mono (by omega)) rfl T.g_ball T.F_ball.kp T.b_ball (ac (ev 0) (ac (ev 1) (ac (ev 4) an)))) (ac (ecall (ok_ball T) (hr.mono (by omega)) rfl T.g_ball T.F_ball.kp T.b_ball (ac (ev 2) (ac (ev 3) (ac (ev 4) an)))) an))) (gt rfl (gsc (gn 5 sc_look_alike.nd) (gsc (gn 6 sc_look_alike.nd) gsn))))
      (bc (sif (O' := []) (tc (o_ne (u64 hr)) (vb (eB c_len rfl T.z_len (by decide +kernel) (eb 5))) (vb (eB c_len rfl T.z_len (by decide +kernel) (eb 6))))
      (bo (sret ebl))
      bn)
      (bc (spar 7 8 rfl sc_look_alike.nd (ecall (ok_part_of T) (hr.mono (by omega)) rfl T.g_part_of T.F_part_of.kp T.b_part_of (ac (ev 0) (ac (ev 5) an))) (ecall (ok_part_of T) (hr.mono (by omega)) rfl T.g_part_of T.F_part_of.kp T.b_part_of (ac (ev 2) (ac (ev 6) an))))
      (bo (sret (eB (c_any rfl) rfl T.z_any (by decide +kernel) (nb (elc (own := [("names", 9)]) rfl sc_look_alike.nd (iseqB (nb (ecallN (ok_likenesses T 60) (hr.mono (by omega)) rfl T.g_likenesses T.F_likenesses.kp T.b_likenesses (ac (ev 7) (ac (ev 8) (ac (etup an) an)))))) (blkOk_by (by kernel_rfl)) (fun _ _ _ _ _ => (gn 9 sc_look_alike.nd)) (fun _ _ _ _ _ => pyes) (fun _ _ _ _ _ => (ec (o_eq (u64 hr)) (vb (eix (eb 9) (vb (eidx (u65 hr) (eb 5) (eb 1))))) (vb (eidx (u65 hr) (eb 6) (eb 3)))))))))))))
abbrev s_looks_like : Stmt := topS 18
theorem sc_looks_like : FnScope ["one", "two", "side", "item", "r", "mine", "ones", "a", "b"] ["one", "two", "side", "item", "r"] (defScope s_looks_like) := ⟨rfl, rfl, rfl, by decide +kernel, rfl, by decide +kernel, by decide +kernel⟩
theorem ok_looks_like (T : Top K mg w base) : FnOk P w K mg base CX0 63 T.f_looks_like T.fd_looks_like ["one", "two", "side", "item", "r"] (spV ⟨K, mg, P, w⟩ 5 LB.m_looks_like_2) :=
  fnV (G := ⟨K, mg, P, w⟩) T.F_looks_like sc_looks_like rfl (Oe := []) fun cdv A outer s H E hr =>
    (bc (sset 5 sc_looks_like.nd (eif (tc (o_eq (u64 hr)) (eb 2) (vb ei)) (ev 0) (ev 1)))
      (bc (sless (O' := [6]) (O'' := []) (ssetLN (own := [("a", 7)]) 6 rfl sc_looks_like.nd (sw_true rfl rfl rfl (by decide +kernel)) (iv_b (irng1 rfl T.z_range (eix (eb 0) (vb ei)))) (blkOk_by (by kernel_rfl)) (fun _ _ _ _ _ => (gn 7 sc_looks_like.nd)) (fun _ _ _ _ _ => (pone (tv (ecall (ok_look_alike T) (hr.mono (by omega)) rfl T.g_look_alike T.F_look_alike.kp T.b_look_alike (ac (ev 0) (ac (ev 7) (ac (ev 5) (ac (ev 3) (ac (ev 4) an))))))))) (fun _ _ _ _ _ => (ev 7))))
      (bo (sret (etup (ac (ev 6) (ac (nv (elc (own := [("b", 8)]) rfl sc_looks_like.nd (iv_b (irng1 rfl T.z_range (eix (eb 1) (vb ei)))) (blkOk_by (by kernel_rfl)) (fun _ _ _ _ _ => (gn 8 sc_looks_like.nd)) (fun _ _ _ _ _ => (pone (tv (ecall (ok_look_alike T) (hr.mono (by omega)) rfl T.g_look_alike T.F_look_alike.kp T.b_look_alike (ac (ev 1) (ac (ev 8) (ac (ev 5) (ac (ev 3) (ac (ev 4) an))))))))) (fun _ _ _ _ _ => (ev 8)))) an)))))))
abbrev s_near_paper : Stmt := topS 19
theorem sc_near_paper : FnScope ["one", "two", "r", "side", "names", "a", "item", "twos", "ones", "b"] ["one", "two", "r"] (defScope s_near_paper) := ⟨rfl, rfl, rfl, by decide +kernel, rfl, by decide +kernel, by decide +kernel⟩
theorem ok_near_paper (T : Top K mg w base) : FnOk P w K mg base CX0 64 T.f_near_paper T.fd_near_paper ["one", "two", "r"] (spV ⟨K, mg, P, w⟩ 3 LB.m_near_paper_2) :=
  fnV (G := ⟨K, mg, P, w⟩) T.F_near_paper sc_near_paper rfl (Oe := []) fun cdv A outer s H E hr =>
    (bc (sfor (O := []) PassesOwn.never rfl (iseq (etup (ac ei (ac ei an)))) (gn 3 sc_near_paper.nd)
      (bo (sfor (O := []) PassesOwn.never rfl (irng1 rfl T.z_range (eif (tc (o_eq (u64 hr)) (eb 3) (vb ei)) (eix (eb 0) (vb ei)) (eix (eb 1) (vb ei)))) (gn 6 sc_near_paper.nd)
      (bc (sasg (ecall (ok_looks_like T) (hr.mono (by omega)) rfl T.g_looks_like T.F_looks_like.kp T.b_looks_like (ac (ev 0) (ac (ev 1) (ac (ev 3) (ac (ev 6) (ac (ev 2) an)))))) (gt rfl (gsc (gn 8 sc_near_paper.nd) (gsc (gn 7 sc_near_paper.nd) gsn))))
      (bo (sif (O' := []) (tc (o_ne (u64 hr)) (vb (eB c_len rfl T.z_len (by decide +kernel) (eb 8))) (vb (eB c_len rfl T.z_len (by decide +kernel) (eb 7))))
      (bo (sret (etup (ac es (ac (ev 3) (ac (ev 6) an))))))
      bn))))))
      (bc (ssetN 4 sc_near_paper.nd (elst an))
      (bc (sfor (O := [4]) PassesOwn.never rfl (irng1 rfl T.z_range (eix (eb 0) (vb ei))) (gn 5 sc_near_paper.nd)
      (bc (sset 7 sc_near_paper.nd (eix (vb (ecall (ok_looks_like T) (hr.mono (by omega)) rfl T.g_looks_like T.F_looks_like.kp T.b_looks_like (ac (ev 0) (ac (ev 1) (ac ei (ac (ev 5) (ac (ev 2) an))))))) (vb ei)))
      (bo (sapp 4 (eix (nb (elc (own := [("b", 9)]) rfl sc_near_paper.nd (iseqB (eb 7)) (blkOk_by (by kernel_rfl)) (fun _ _ _ _ _ => (gn 9 sc_near_paper.nd)) (fun _ _ _ _ _ => (pone (tc (o_nin (u65 hr)) (eb 9) (eb 4)))) (fun _ _ _ _ _ => (ev 9)))) (vb ei))))))
      (bo (sret (etup (ac es (ac (eT c_tuple rfl T.z_tuple (by decide +kernel) (eb 4)) an))))))))
abbrev s_near_enough : Stmt := topS 20
theorem sc_near_enough : FnScope ["k", "found", "_"] ["k"] (defScope s_near_enough) := ⟨rfl, rfl, rfl, by decide +kernel, rfl, by decide +kernel, by decide +kernel⟩
theorem ok_near_enough (T : Top K mg w base) : FnOk P w K mg base CX0 1 T.f_near_enough T.fd_near_enough ["k"] (spV ⟨K, mg, P, w⟩ 1 LB.m_near_enough) :=
  fnV (G := ⟨K, mg, P, w⟩) T.F_near_enough sc_near_enough rfl (Oe := []) fun cdv A outer s H E hr =>
    (bc (sset 1 sc_near_enough.nd ei)
      (bc (sfor (O := []) PassesOwn.never rfl (irng1 rfl T.z_range (ev 0)) (gn 2 sc_near_enough.nd)
      (bo (sset 1 sc_near_enough.nd (eo o_add (vb (eo o_mul (vb ei) (eb 1))) (vb ei)))))
      (bo (sret (ev 1)))))
abbrev s__law_cell : Stmt := topS 22
theorem sc__law_cell : FnScope ["script", "k"] ["script", "k"] (defScope s__law_cell) := ⟨rfl, rfl, rfl, by decide +kernel, rfl, by decide +kernel, by decide +kernel⟩
theorem ok__law_cell (T : Top K mg w base) : FnOk P w K mg base CX0 1 T.f__law_cell T.fd__law_cell ["script", "k"] (spV ⟨K, mg, P, w⟩ 2 LB.m__law_cell) :=
  fnV (G := ⟨K, mg, P, w⟩) T.F__law_cell sc__law_cell rfl (Oe := []) fun cdv A outer s H E hr =>
    (bc (sif (O' := []) (tc (o_lt (u0 hr)) (eb 1) (vb (eB c_len rfl T.z_len (by decide +kernel) (eb 0))))
      (bo (sret (eix (eb 0) (eb 1))))
      bn)
      (bo (sret ei)))
abbrev s__law_draws : Stmt := topS 23
theorem sc__law_draws : FnScope ["cell", "amount", "rows", "left", "k", "blended"] ["cell", "amount"] (defScope s__law_draws) := ⟨rfl, rfl, rfl, by decide +kernel, rfl, by decide +kernel, by decide +kernel⟩
theorem ok__law_draws (T : Top K mg w base) : FnOk P w K mg base CX0 1 T.f__law_draws T.fd__law_draws ["cell", "amount"] (spV ⟨K, mg, P, w⟩ 2 LB.m__law_draws) :=
  fnV (G := ⟨K, mg, P, w⟩) T.F__law_draws sc__law_draws rfl (Oe := []) fun cdv A outer s H E hr =>
    (bc (ssetN 2 sc__law_draws.nd (elst an))
      (bc (sset 3 sc__law_draws.nd (ev 0))
      (bc (sfor (O := [2]) PassesOwn.never rfl (irng1 rfl T.z_range (ev 1)) (gn 4 sc__law_draws.nd)
      (bo (sif (O' := [2]) (tw (tand (tc (o_ge (u0 hr)) (eb 0) (vb (eo o_pow (vb ei) (vb ei)))) (tone1 (tc (o_gt (u0 hr)) (eb 3) (vb ei)))))
      (bc (sapp 2 (eo o_mod (vb (eT c_int rfl T.z_int (by decide +kernel) (eb 3))) (vb ei)))
      (bo (sset 3 sc__law_draws.nd (eo o_fdiv (eb 3) (vb ei)))))
      (bc (sset 5 sc__law_draws.nd (eo o_mod (vb (eT c_int rfl T.z_int (by decide +kernel) (vb (eo o_add (vb (eo o_mul (eb 0) (vb ei))) (vb (eo o_mul (vb (eo o_add (eb 4) (vb ei))) (vb ei))))))) (vb ei)))
      (bc (sset 5 sc__law_draws.nd (eo o_mod (vb (eT c_int rfl T.z_int (by decide +kernel) (vb (eo o_add (vb (eo o_add (vb (eo o_mul (eb 5) (eb 5))) (vb (eo o_mul (eb 5) (vb ei))))) (vb (eo o_mul (eb 4) (vb ei))))))) (vb ei)))
      (bc (sset 5 sc__law_draws.nd (eo o_mod (vb (eT c_int rfl T.z_int (by decide +kernel) (vb (eo o_add (vb (eo o_add (vb (eo o_mul (eb 5) (eb 5))) (eb 0))) (vb (eo o_mul (vb ei) (eb 4))))))) (vb ei)))
      (bo (sapp 2 (eo o_mod (vb (eo o_fdiv (eb 5) (vb ei))) (vb ei))))))))))
      (bo (spre (O' := []) (sret (ev 2)))))))
abbrev s__law_kind : Stmt := topS 24
theorem sc__law_kind : FnScope ["x"] ["x"] (defScope s__law_kind) := ⟨rfl, rfl, rfl, by decide +kernel, rfl, by decide +kernel, by decide +kernel⟩
theorem ok__law_kind (T : Top K mg w base) : FnOk P w K mg base CX0 1 T.f__law_kind T.fd__law_kind ["x"] (spV ⟨K, mg, P, w⟩ 1 LB.m__law_kind) :=
  fnV (G := ⟨K, mg, P, w⟩) T.F__law_kind sc__law_kind rfl (Oe := []) fun cdv A outer s H E hr =>
    (bc (sif (O' := []) (tv (eisi .bool rfl T.z_isinstance rfl T.z_bool (by decide +kernel) (eb 0)))
      (bo (sret ei))
      bn)
      (bc (sif (O' := []) (tv (eisi .int rfl T.z_isinstance rfl T.z_int (by decide +kernel) (eb 0)))
      (bo (sret ei))
      bn)
      (bc (sif (O' := []) (tv (eisi .str rfl T.z_isinstance rfl T.z_str (by decide +kernel) (eb 0)))
      (bo (sret ei))
      bn)
      (bc (sif (O' := []) (tv (eisi .tuple rfl T.z_isinstance rfl T.z_tuple (by decide +kernel) (eb 0)))
      (bo (sret ei))
      bn)
      (bc (sif (O' := []) (tv (eisi .list rfl T.z_isinstance rfl T.z_list (by decide +kernel) (eb 0)))
      (bo (sret ei))
      bn)
      (bc (sif (O' := []) (tv (eisi .dict rfl T.z_isinstance rfl T.z_dict (by decide +kernel) (eb 0)))
      (bo (sret ei))
      bn)
      (bo (sret ei))))))))
abbrev s__law_equal : Stmt := topS 25
theorem sc__law_equal : FnScope ["x", "due", "key", "k", "other"] ["x", "due"] (defScope s__law_equal) := ⟨rfl, rfl, rfl, by decide +kernel, rfl, by decide +kernel, by decide +kernel⟩
theorem ok__law_equal (T : Top K mg w base) : ∀ n, FnOk P w K mg base CX0 (n + 1) T.f__law_equal T.fd__law_equal ["x", "due"] (spV ⟨K, mg, P, w⟩ 2 (LB.m__law_equal n))
  | 0 => fnNever fun vs H Q E h => by obtain ⟨_, _, _, _, _, _, h, _⟩ := h; cases h
  | n + 1 => by
    have ih := ok__law_equal T n
    exact fnV (G := ⟨K, mg, P, w⟩) T.F__law_equal sc__law_equal rfl (Oe := []) fun cdv A outer s H E hr =>
    (bc (sif (O' := []) (tc (o_ne (u64 hr)) (vb (ecall (ok__law_kind T) (hr.mono (by omega)) rfl T.g__law_kind T.F__law_kind.kp T.b__law_kind (ac (ev 0) an))) (vb (ecall (ok__law_kind T) (hr.mono (by omega)) rfl T.g__law_kind T.F__law_kind.kp T.b__law_kind (ac (ev 1) an))))
      (bo (sret ebl))
      bn)
      (bc (sif (O' := []) (tw (tor (tv (eisi .tuple rfl T.z_isinstance rfl T.z_tuple (by decide +kernel) (eb 1))) (tone2 (tv (eisi .list rfl T.z_isinstance rfl T.z_list (by decide +kernel) (eb 1))))))
      (bc (sif (O' := []) (tc (o_ne (u64 hr)) (vb (eB c_len rfl T.z_len (by decide +kernel) (eb 0))) (vb (eB c_len rfl T.z_len (by decide +kernel) (eb 1))))
      (bo (sret ebl))
      bn)
      (bo (sret (ec (o_eq (u64 hr)) (vb (eB c_len rfl T.z_len (by decide +kernel) (nb (elc (own := [("k", 3)]) rfl sc__law_equal.nd (iv_b (irng1 rfl T.z_range (eB c_len rfl T.z_len (by decide +kernel) (eb 1)))) (blkOk_by (by kernel_rfl)) (fun _ _ _ _ _ => (gn 3 sc__law_equal.nd)) (fun _ _ _ _ _ => (pone (tnot (tv (ecall ih (hr.mono (by omega)) rfl T.g__law_equal T.F__law_equal.kp T.b__law_equal (ac (eix (eb 0) (eb 3)) (ac (eix (eb 1) (eb 3)) an))))))) (fun _ _ _ _ _ => (ev 3)))))) (vb ei)))))
      bn)
      (bc (sif (O' := []) (tv (eisi .dict rfl T.z_isinstance rfl T.z_dict (by decide +kernel) (eb 1)))
      (bc (sif (O' := []) (tc (o_ne (u64 hr)) (vb (eB c_len rfl T.z_len (by decide +kernel) (eb 0))) (vb (eB c_len rfl T.z_len (by decide +kernel) (eb 1))))
      (bo (sret ebl))
      bn)
      (bc (sfor (O := []) PassesOwn.never rfl (iseq (ev 0)) (gn 2 sc__law_equal.nd)
      (bc (sif (O' := []) (tw (tor (tc (o_nin (u65 hr)) (eb 2) (eb 1)) (tone2 (tnot (tv (ecall ih (hr.mono (by omega)) rfl T.g__law_equal T.F__law_equal.kp T.b__law_equal (ac (eix (eb 0) (eb 2)) (ac (eix (eb 1) (eb 2)) an))))))))
      (bo (sret ebl))
      bn)
      (bo (sif (O' := []) (tc (o_eq (u64 hr)) (vb (eB c_len rfl T.z_len (by decide +kernel) (nb (elc (own := [("other", 4)]) rfl sc__law_equal.nd (iseqB (eb 1)) (blkOk_by (by kernel_rfl)) (fun _ _ _ _ _ => (gn 4 sc__law_equal.nd)) (fun _ _ _ _ _ => (pone (tw (tand (tc (o_eq (u64 hr)) (eb 4) (eb 2)) (tone1 (tv (ecall ih (hr.mono (by omega)) rfl T.g__law_equal T.F__law_equal.kp T.b__law_equal (ac (ev 2) (ac (ev 4) an))))))))) (fun _ _ _ _ _ => (ev 4)))))) (vb ei))
      (bo (sret ebl))
      bn))))
      (bo (sret ebl))))
      bn)
      (bo (sret (ec (o_eq (u64 hr)) (eb 0) (eb 1)))))))
abbrev s__law_names : Stmt := topS 26
theorem sc__law_names : FnScope ["draws", "at", "n", "left", "found", "k"] ["draws", "at", "n"] (defScope s__law_names) := ⟨rfl, rfl, rfl, by decide +kernel, rfl, by decide +kernel, by decide +kernel⟩
theorem ok__law_names (T : Top K mg w base) : FnOk P w K mg base CX0 1 T.f__law_names T.fd__law_names ["draws", "at", "n"] (spV ⟨K, mg, P, w⟩ 3 LB.m__law_names) :=
  fnV (G := ⟨K, mg, P, w⟩) T.F__law_names sc__law_names rfl (Oe := []) fun cdv A outer s H E hr =>
    (bc (ssetN 3 sc__law_names.nd (erngL rfl rfl T.z_list rfl T.z_range (ev 2)))
      (bc (sset 4 sc__law_names.nd (etup an))
      (bc (sfor (O := [3]) PassesOwn.never rfl (irng1 rfl T.z_range (ev 2)) (gn 5 sc__law_names.nd)
      (bo (spopAdd 4 3 sc__law_names.nd (eo o_mod (vb (eT c_int rfl T.z_int (by decide +kernel) (vb (eix (eb 0) (vb (eo o_mod (vb (eo o_add (eb 1) (eb 5))) (vb (eB c_len rfl T.z_len (by decide +kernel) (eb 0))))))))) (vb (eB c_len rfl T.z_len (by decide +kernel) (eb 3)))))))
      (bo (sret (ev 4))))))
abbrev s__law_line : Stmt := topS 27
theorem sc__law_line : FnScope ["n", "pairs", "a", "b"] ["n"] (defScope s__law_line) := ⟨rfl, rfl, rfl, by decide +kernel, rfl, by decide +kernel, by decide +kernel⟩
theorem ok__law_line (T : Top K mg w base) : FnOk P w K mg base CX0 1 T.f__law_line T.fd__law_line ["n"] (spV ⟨K, mg, P, w⟩ 1 LB.m__law_line) :=
  fnV (G := ⟨K, mg, P, w⟩) T.F__law_line sc__law_line rfl (Oe := []) fun cdv A outer s H E hr =>
    (bc (sset 1 sc__law_line.nd (etup an))
      (bc (sfor (O := []) PassesOwn.never rfl (irng1 rfl T.z_range (ev 0)) (gn 2 sc__law_line.nd)
      (bo (sset 1 sc__law_line.nd (eo o_add (eb 1) (vb (eT c_tuple rfl T.z_tuple (by decide +kernel) (nb (elc (own := [("b", 3)]) rfl sc__law_line.nd (iv_b (irng2 rfl T.z_range (eo o_add (eb 2) (vb ei)) (ev 0))) (blkOk_by (by kernel_rfl)) (fun _ _ _ _ _ => (gn 3 sc__law_line.nd)) (fun _ _ _ _ _ => pyes) (fun _ _ _ _ _ => (etup (ac (ev 2) (ac (ev 3) an))))))))))))
      (bo (sret (etup (ac (ev 0) (ac (etup (ac (etup an) (ac (etup an) an))) (ac (ev 1) an))))))))
abbrev s__law_ring : Stmt := topS 28
theorem sc__law_ring : FnScope ["n", "a"] ["n"] (defScope s__law_ring) := ⟨rfl, rfl, rfl, by decide +kernel, rfl, by decide +kernel, by decide +kernel⟩
theorem ok__law_ring (T : Top K mg w base) : FnOk P w K mg base CX0 1 T.f__law_ring T.fd__law_ring ["n"] (spV ⟨K, mg, P, w⟩ 1 LB.m__law_ring) :=
  fnV (G := ⟨K, mg, P, w⟩) T.F__law_ring sc__law_ring rfl (Oe := []) fun cdv A outer s H E hr =>
    (bo (sret (etup (ac (ev 0) (ac (etup (ac (etup an) (ac (etup an) an))) (ac (eT c_tuple rfl T.z_tuple (by decide +kernel) (nb (eBN c_sorted rfl T.z_sorted (by decide +kernel) (nb (elc (own := [("a", 1)]) rfl sc__law_ring.nd (iv_b (irng1 rfl T.z_range (ev 0))) (blkOk_by (by kernel_rfl)) (fun _ _ _ _ _ => (gn 1 sc__law_ring.nd)) (fun _ _ _ _ _ => pyes) (fun _ _ _ _ _ => (etup (ac (ev 1) (ac (eo o_mod (vb (eo o_add (eb 1) (vb ei))) (eb 0)) an))))))))) an))))))
abbrev s__law_both_ways : Stmt := topS 29
theorem sc__law_both_ways : FnScope ["n", "edges", "pair", "a", "b"] ["n", "edges"] (defScope s__law_both_ways) := ⟨rfl, rfl, rfl, by decide +kernel, rfl, by decide +kernel, by decide +kernel⟩
theorem ok__law_both_ways (T : Top K mg w base) : FnOk P w K mg base CX0 1 T.f__law_both_ways T.fd__law_both_ways ["n", "edges"] (spV ⟨K, mg, P, w⟩ 2 LB.m__law_both_ways) :=
  fnV (G := ⟨K, mg, P, w⟩) T.F__law_both_ways sc__law_both_ways rfl (Oe := []) fun cdv A outer s H E hr =>
    (bo (sret (etup (ac (ev 0) (ac (etup (ac (etup an) (ac (etup an) an))) (ac (eT c_tuple rfl T.z_tuple (by decide +kernel) (nb (eBN c_sorted rfl T.z_sorted (by decide +kernel) (vb (eo o_add (nb (elc (own := [("pair", 2)]) rfl sc__law_both_ways.nd (iseqB (eb 1)) (blkOk_by (by kernel_rfl)) (fun _ _ _ _ _ => (gn 2 sc__law_both_ways.nd)) (fun _ _ _ _ _ => pyes) (fun _ _ _ _ _ => (ev 2)))) (nb (elc (own := [("a", 3), ("b", 4)]) rfl sc__law_both_ways.nd (iseqB (eb 1)) (blkOk_by (by kernel_rfl)) (fun _ _ _ _ _ => (gt rfl (gsc (gn 3 sc__law_both_ways.nd) (gsc (gn 4 sc__law_both_ways.nd) gsn)))) (fun _ _ _ _ _ => pyes) (fun _ _ _ _ _ => (etup (ac (ev 4) (ac (ev 3) an))))))))))) an))))))
abbrev s__law_renamed : Stmt := topS 30
theorem sc__law_renamed : FnScope ["world", "names", "marks", "items", "a", "b"] ["world", "names"] (defScope s__law_renamed) := ⟨rfl, rfl, rfl, by decide +kernel, rfl, by decide +kernel, by decide +kernel⟩
theorem ok__law_renamed (T : Top K mg w base) : FnOk P w K mg base CX0 1 T.f__law_renamed T.fd__law_renamed ["world", "names"] (spV ⟨K, mg, P, w⟩ 2 LB.m__law_renamed) :=
  fnV (G := ⟨K, mg, P, w⟩) T.F__law_renamed sc__law_renamed rfl (Oe := []) fun cdv A outer s H E hr =>
    (bc (sset 2 sc__law_renamed.nd (eT c_tuple rfl T.z_tuple (by decide +kernel) (nb (elc (own := [("items", 3)]) rfl sc__law_renamed.nd (iseqB (vb (eix (eb 0) (vb ei)))) (blkOk_by (by kernel_rfl)) (fun _ _ _ _ _ => (gn 3 sc__law_renamed.nd)) (fun _ _ _ _ _ => pyes) (fun _ _ _ _ _ => (eT c_tuple rfl T.z_tuple (by decide +kernel) (nb (eBN c_sorted rfl T.z_sorted (by decide +kernel) (nb (elc (own := [("a", 4)]) rfl sc__law_renamed.nd (iseqB (eb 3)) (blkOk_by (by kernel_rfl)) (fun _ _ _ _ _ => (gn 4 sc__law_renamed.nd)) (fun _ _ _ _ _ => pyes) (fun _ _ _ _ _ => (eix (eb 1) (eb 4)))))))))))))
      (bo (sret (etup (ac (eix (eb 0) (vb ei)) (ac (ev 2) (ac (eT c_tuple rfl T.z_tuple (by decide +kernel) (nb (eBN c_sorted rfl T.z_sorted (by decide +kernel) (nb (elc (own := [("a", 4), ("b", 5)]) rfl sc__law_renamed.nd (iseqB (vb (eix (eb 0) (vb ei)))) (blkOk_by (by kernel_rfl)) (fun _ _ _ _ _ => (gt rfl (gsc (gn 4 sc__law_renamed.nd) (gsc (gn 5 sc__law_renamed.nd) gsn)))) (fun _ _ _ _ _ => pyes) (fun _ _ _ _ _ => (etup (ac (eix (eb 1) (eb 4)) (ac (eix (eb 1) (eb 5)) an))))))))) an)))))))
abbrev s__law_beside : Stmt := topS 31
theorem sc__law_beside : FnScope ["one", "two", "by", "marks", "i", "a", "b"] ["one", "two"] (defScope s__law_beside) := ⟨rfl, rfl, rfl, by decide +kernel, rfl, by decide +kernel, by decide +kernel⟩
theorem ok__law_beside (T : Top K mg w base) : FnOk P w K mg base CX0 1 T.f__law_beside T.fd__law_beside ["one", "two"] (spV ⟨K, mg, P, w⟩ 2 LB.m__law_beside) :=
  fnV (G := ⟨K, mg, P, w⟩) T.F__law_beside sc__law_beside rfl (Oe := []) fun cdv A outer s H E hr =>
    (bc (sset 2 sc__law_beside.nd (eix (eb 0) (vb ei)))
      (bc (sset 3 sc__law_beside.nd (eT c_tuple rfl T.z_tuple (by decide +kernel) (nb (elc (own := [("i", 4)]) rfl sc__law_beside.nd (iv_b (irng1 rfl T.z_range ei)) (blkOk_by (by kernel_rfl)) (fun _ _ _ _ _ => (gn 4 sc__law_beside.nd)) (fun _ _ _ _ _ => pyes) (fun _ _ _ _ _ => (eo o_add (vb (eix (vb (eix (eb 0) (vb ei))) (eb 4))) (vb (eT c_tuple rfl T.z_tuple (by decide +kernel) (nb (elc (own := [("a", 5)]) rfl sc__law_beside.nd (iseqB (vb (eix (vb (eix (eb 1) (vb ei))) (eb 4)))) (blkOk_by (by kernel_rfl)) (fun _ _ _ _ _ => (gn 5 sc__law_beside.nd)) (fun _ _ _ _ _ => pyes) (fun _ _ _ _ _ => (eo o_add (eb 5) (eb 2)))))))))))))
      (bo (sret (etup (ac (eo o_add (eb 2) (vb (eix (eb 1) (vb ei)))) (ac (ev 3) (ac (eo o_add (vb (eix (eb 0) (vb ei))) (vb (eT c_tuple rfl T.z_tuple (by decide +kernel) (nb (elc (own := [("a", 5), ("b", 6)]) rfl sc__law_beside.nd (iseqB (vb (eix (eb 1) (vb ei)))) (blkOk_by (by kernel_rfl)) (fun _ _ _ _ _ => (gt rfl (gsc (gn 5 sc__law_beside.nd) (gsc (gn 6 sc__law_beside.nd) gsn)))) (fun _ _ _ _ _ => pyes) (fun _ _ _ _ _ => (etup (ac (eo o_add (eb 5) (eb 2)) (ac (eo o_add (eb 6) (eb 2)) an))))))))) an))))))))
abbrev s__law_special : Stmt := topS 32
theorem sc__law_special : FnScope ["number", "rows"] ["number"] (defScope s__law_special) := ⟨rfl, rfl, rfl, by decide +kernel, rfl, by decide +kernel, by decide +kernel⟩
theorem ok__law_special (T : Top K mg w base) : FnOk P w K mg base CX0 2 T.f__law_special T.fd__law_special ["number"] (spV ⟨K, mg, P, w⟩ 1 LB.m__law_special) :=
  fnV (G := ⟨K, mg, P, w⟩) T.F__law_special sc__law_special rfl (Oe := []) fun cdv A outer s H E hr =>
    (bc (sset 1 sc__law_special.nd (nv (elst (ac (ecall (ok__law_line T) (hr.mono (by omega)) rfl T.g__law_line T.F__law_line.kp T.b__law_line (ac ei an)) (ac (ecall (ok__law_line T) (hr.mono (by omega)) rfl T.g__law_line T.F__law_line.kp T.b__law_line (ac ei an)) (ac (ecall (ok__law_ring T) (hr.mono (by omega)) rfl T.g__law_ring T.F__law_ring.kp T.b__law_ring (ac ei an)) (ac (ecall (ok__law_ring T) (hr.mono (by omega)) rfl T.g__law_ring T.F__law_ring.kp T.b__law_ring (ac ei an)) (ac (etup (ac ei (ac (etup (ac (etup an) (ac (etup an) an))) (ac (etup an) an)))) (ac (etup (ac ei (ac (etup (ac (etup an) (ac (etup an) an))) (ac (etup an) an)))) (ac (etup (ac ei (ac (etup (ac (etup an) (ac (etup an) an))) (ac (etup an) an)))) an))))))))))
      (bc (sset 1 sc__law_special.nd (eo o_add (eb 1) (nb (elst (ac (ecall (ok__law_both_ways T) (hr.mono (by omega)) rfl T.g__law_both_ways T.F__law_both_ways.kp T.b__law_both_ways (ac ei (ac (etup (ac (etup (ac ei (ac ei an))) (ac (etup (ac ei (ac ei an))) (ac (etup (ac ei (ac ei an))) an)))) an))) (ac (ecall (ok__law_both_ways T) (hr.mono (by omega)) rfl T.g__law_both_ways T.F__law_both_ways.kp T.b__law_both_ways (ac ei (ac (etup (ac (etup (ac ei (ac ei an))) (ac (etup (ac ei (ac ei an))) (ac (etup (ac ei (ac ei an))) (ac (etup (ac ei (ac ei an))) an))))) an))) (ac (ecall (ok__law_both_ways T) (hr.mono (by omega)) rfl T.g__law_both_ways T.F__law_both_ways.kp T.b__law_both_ways (ac ei (ac (etup (ac (etup (ac ei (ac ei an))) (ac (etup (ac ei (ac ei an))) (ac (etup (ac ei (ac ei an))) an)))) an))) an)))))))
      (bo (sret (eix (eb 1) (vb (eo o_mod (eb 0) (vb (eB c_len rfl T.z_len (by decide +kernel) (eb 1))))))))))
abbrev s__law_world : Stmt := topS 33
theorem sc__law_world : FnScope ["draws", "most", "n", "dense", "marked", "marks", "i", "arrows", "at", "a", "b"] ["draws", "most"] (defScope s__law_world) := ⟨rfl, rfl, rfl, by decide +kernel, rfl, by decide +kernel, by decide +kernel⟩
theorem ok__law_world (T : Top K mg w base) : FnOk P w K mg base CX0 3 T.f__law_world T.fd__law_world ["draws", "most"] (spV ⟨K, mg, P, w⟩ 2 LB.m__law_world) :=
  fnV (G := ⟨K, mg, P, w⟩) T.F__law_world sc__law_world rfl (Oe := []) fun cdv A outer s H E hr =>
    (bc (sset 2 sc__law_world.nd (eo o_add (vb ei) (vb (eo o_mod (vb (eT c_int rfl T.z_int (by decide +kernel) (vb (eix (eb 0) (vb ei))))) (eb 1)))))
      (bc (sif (O' := []) (tw (tand (tc (o_eq (u64 hr)) (vb (eo o_mod (vb (eix (eb 0) (vb ei))) (vb ei))) (vb ei)) (tone1 (tc (o_le (u0 hr)) (vb (eix (vb (ecall (ok__law_special T) (hr.mono (by omega)) rfl T.g__law_special T.F__law_special.kp T.b__law_special (ac (eT c_int rfl T.z_int (by decide +kernel) (vb (eix (eb 0) (vb ei)))) an))) (vb ei))) (eb 1)))))
      (bo (sret (ecall (ok__law_special T) (hr.mono (by omega)) rfl T.g__law_special T.F__law_special.kp T.b__law_special (ac (eT c_int rfl T.z_int (by decide +kernel) (vb (eix (eb 0) (vb ei)))) an))))
      bn)
      (bc (sset 3 sc__law_world.nd (eix (nb (elst (ac ei (ac ei (ac ei (ac ei an)))))) (vb (eo o_mod (vb (eo o_fdiv (vb (eT c_int rfl T.z_int (by decide +kernel) (vb (eix (eb 0) (vb ei))))) (vb ei))) (vb ei)))))
      (bc (sset 4 sc__law_world.nd (eix (nb (elst (ac ei (ac ei (ac ei (ac ei an)))))) (vb (eo o_mod (vb (eo o_fdiv (vb (eT c_int rfl T.z_int (by decide +kernel) (vb (eix (eb 0) (vb ei))))) (vb ei))) (vb ei)))))
      (bc (sset 5 sc__law_world.nd (etup an))
      (bc (sfor (O := []) PassesOwn.never rfl (irng1 rfl T.z_range ei) (gn 6 sc__law_world.nd)
      (bo (sset 5 sc__law_world.nd (eo o_add (eb 5) (vb (etup (ac (eT c_tuple rfl T.z_tuple (by decide +kernel) (nb (elc (own := [("a", 9)]) rfl sc__law_world.nd (iv_b (irng1 rfl T.z_range (ev 2))) (blkOk_by (by kernel_rfl)) (fun _ _ _ _ _ => (gn 9 sc__law_world.nd)) (fun _ _ _ _ _ => (pone (tc (o_eq (u64 hr)) (vb (eo o_mod (vb (eo o_fdiv (vb (eT c_int rfl T.z_int (by decide +kernel) (vb (eix (eb 0) (vb (eo o_add (vb ei) (eb 9))))))) (vb (eo o_add (vb ei) (eb 6))))) (eb 4))) (vb ei)))) (fun _ _ _ _ _ => (ev 9))))) an)))))))
      (bc (ssetN 7 sc__law_world.nd (elst an))
      (bc (sset 8 sc__law_world.nd ei)
      (bc (sfor (O := [7]) PassesOwn.never rfl (irng1 rfl T.z_range (ev 2)) (gn 9 sc__law_world.nd)
      (bo (sfor (O := [7]) PassesOwn.never rfl (irng1 rfl T.z_range (ev 2)) (gn 10 sc__law_world.nd)
      (bc (sif (O' := [7]) (tc (o_eq (u64 hr)) (vb (eo o_mod (vb (eo o_fdiv (vb (eT c_int rfl T.z_int (by decide +kernel) (vb (eix (eb 0) (vb (eo o_mod (eb 8) (vb (eB c_len rfl T.z_len (by decide +kernel) (eb 0))))))))) (vb (eo o_add (vb ei) (vb (eo o_fdiv (eb 8) (vb (eB c_len rfl T.z_len (by decide +kernel) (eb 0))))))))) (eb 3))) (vb ei))
      (bo (sapp 7 (etup (ac (ev 9) (ac (ev 10) an)))))
      bn)
      (bo (sset 8 sc__law_world.nd (eo o_add (eb 8) (vb ei))))))))
      (bc (sif (O' := [7]) (tc (o_eq (u64 hr)) (vb (eo o_mod (vb (eix (eb 0) (vb ei))) (vb ei))) (vb ei))
      (bc (spre (O' := []) (ssetN 7 sc__law_world.nd (eoN o_addN (eb 7) (nb (elc (own := [("a", 9), ("b", 10)]) rfl sc__law_world.nd (iseqB (eb 7)) (blkOk_by (by kernel_rfl)) (fun _ _ _ _ _ => (gt rfl (gsc (gn 9 sc__law_world.nd) (gsc (gn 10 sc__law_world.nd) gsn)))) (fun _ _ _ _ _ => (pone (tc (o_nin (u65 hr)) (vb (etup (ac (ev 10) (ac (ev 9) an)))) (eb 7)))) (fun _ _ _ _ _ => (etup (ac (ev 10) (ac (ev 9) an)))))))))
      (bo (spre (O' := []) (ssetN 7 sc__law_world.nd (elc (own := [("a", 9), ("b", 10)]) rfl sc__law_world.nd (iseqB (eb 7)) (blkOk_by (by kernel_rfl)) (fun _ _ _ _ _ => (gt rfl (gsc (gn 9 sc__law_world.nd) (gsc (gn 10 sc__law_world.nd) gsn)))) (fun _ _ _ _ _ => (pone (tc (o_ne (u64 hr)) (eb 9) (eb 10)))) (fun _ _ _ _ _ => (etup (ac (ev 9) (ac (ev 10) an)))))))))
      bn)
      (bo (sret (etup (ac (ev 2) (ac (ev 5) (ac (eT c_tuple rfl T.z_tuple (by decide +kernel) (nb (eBN c_sorted rfl T.z_sorted (by decide +kernel) (eb 7)))) an))))))))))))))))
abbrev s__law_pair : Stmt := topS 34
theorem sc__law_pair : FnScope ["draws", "most", "one", "n", "way", "two", "a", "b", "rows", "pair", "c"] ["draws", "most"] (defScope s__law_pair) := ⟨rfl, rfl, rfl, by decide +kernel, rfl, by decide +kernel, by decide +kernel⟩
theorem ok__law_pair (T : Top K mg w base) : FnOk P w K mg base CX0 4 T.f__law_pair T.fd__law_pair ["draws", "most"] (spV ⟨K, mg, P, w⟩ 2 LB.m__law_pair) :=
  fnV (G := ⟨K, mg, P, w⟩) T.F__law_pair sc__law_pair rfl (Oe := []) fun cdv A outer s H E hr =>
    (bc (sset 2 sc__law_pair.nd (ecall (ok__law_world T) (hr.mono (by omega)) rfl T.g__law_world T.F__law_world.kp T.b__law_world (ac (ev 0) (ac (ev 1) an))))
      (bc (sset 3 sc__law_pair.nd (eix (eb 2) (vb ei)))
      (bc (sset 4 sc__law_pair.nd (eo o_mod (vb (eT c_int rfl T.z_int (by decide +kernel) (vb (eix (eb 0) (vb (eo o_sub (vb (eB c_len rfl T.z_len (by decide +kernel) (eb 0))) (vb ei))))))) (vb ei)))
      (bc (sif (O' := []) (tc (o_eq (u64 hr)) (eb 4) (vb ei))
      (bo (sret (etup (ac (ev 2) (ac (ecall (ok__law_world T) (hr.mono (by omega)) rfl T.g__law_world T.F__law_world.kp T.b__law_world (ac (esl (eb 0) (TL.os ei) on) (ac (ev 1) an))) an)))))
      bn)
      (bc (sif (O' := []) (tc (o_eq (u64 hr)) (eb 4) (vb ei))
      (bc (sset 8 sc__law_pair.nd (nv (elst (ac (etup (ac (ecall (ok__law_line T) (hr.mono (by omega)) rfl T.g__law_line T.F__law_line.kp T.b__law_line (ac ei an)) (ac (ecall (ok__law_line T) (hr.mono (by omega)) rfl T.g__law_line T.F__law_line.kp T.b__law_line (ac ei an)) an))) (ac (etup (ac (ecall (ok__law_line T) (hr.mono (by omega)) rfl T.g__law_line T.F__law_line.kp T.b__law_line (ac ei an)) (ac (ecall (ok__law_line T) (hr.mono (by omega)) rfl T.g__law_line T.F__law_line.kp T.b__law_line (ac ei an)) an))) (ac (etup (ac (etup (ac ei (ac (etup (ac (etup an) (ac (etup an) an))) (ac (etup an) an)))) (ac (etup (ac ei (ac (etup (ac (etup an) (ac (etup an) an))) (ac (etup an) an)))) an))) (ac (etup (ac (ecall (ok__law_ring T) (hr.mono (by omega)) rfl T.g__law_ring T.F__law_ring.kp T.b__law_ring (ac ei an)) (ac (ecall (ok__law_ring T) (hr.mono (by omega)) rfl T.g__law_ring T.F__law_ring.kp T.b__law_ring (ac ei an)) an))) (ac (etup (ac (ecall (ok__law_ring T) (hr.mono (by omega)) rfl T.g__law_ring T.F__law_ring.kp T.b__law_ring (ac ei an)) (ac (ecall (ok__law_line T) (hr.mono (by omega)) rfl T.g__law_line T.F__law_line.kp T.b__law_line (ac ei an)) an))) an))))))))
      (bc (sset 9 sc__law_pair.nd (eix (eb 8) (vb (eo o_mod (vb (eT c_int rfl T.z_int (by decide +kernel) (vb (eix (eb 0) (vb (eo o_sub (vb (eB c_len rfl T.z_len (by decide +kernel) (eb 0))) (vb ei))))))) (vb ei)))))
      (bo (sif (O' := []) (tc (o_le (u0 hr)) (vb (eB2 (c_max2 rfl) rfl T.z_max (by decide +kernel) (vb (eix (vb (eix (eb 9) (vb ei))) (vb ei))) (vb (eix (vb (eix (eb 9) (vb ei))) (vb ei))))) (eb 1))
      (bo (sret (ev 9)))
      bn))))
      bn)
      (bc (sset 5 sc__law_pair.nd (ecall (ok__law_renamed T) (hr.mono (by omega)) rfl T.g__law_renamed T.F__law_renamed.kp T.b__law_renamed (ac (ev 2) (ac (ecall (ok__law_names T) (hr.mono (by omega)) rfl T.g__law_names T.F__law_names.kp T.b__law_names (ac (ev 0) (ac (eo o_sub (vb (eB c_len rfl T.z_len (by decide +kernel) (eb 0))) (vb ei)) (ac (ev 3) an)))) an))))
      (bc (sif (O' := []) (tc (o_lt (u0 hr)) (eb 4) (vb ei))
      (bo (sret (etup (ac (ev 2) (ac (ev 5) an)))))
      bn)
      (bc (sset 6 sc__law_pair.nd (eo o_mod (vb (eT c_int rfl T.z_int (by decide +kernel) (vb (eix (eb 0) (vb (eo o_sub (vb (eB c_len rfl T.z_len (by decide +kernel) (eb 0))) (vb ei))))))) (eb 3)))
      (bc (sset 7 sc__law_pair.nd (eo o_mod (vb (eT c_int rfl T.z_int (by decide +kernel) (vb (eix (eb 0) (vb (eo o_sub (vb (eB c_len rfl T.z_len (by decide +kernel) (eb 0))) (vb ei))))))) (eb 3)))
      (bc (sif (O' := []) (tc (o_lt (u0 hr)) (eb 4) (vb ei))
      (bc (sif (O' := []) (tc (o_in (u65 hr)) (vb (etup (ac (ev 6) (ac (ev 7) an)))) (vb (eix (eb 5) (vb ei))))
      (bo (sret (etup (ac (ev 2) (ac (etup (ac (ev 3) (ac (eix (eb 5) (vb ei)) (ac (eT c_tuple rfl T.z_tuple (by decide +kernel) (nb (elc (own := [("pair", 9)]) rfl sc__law_pair.nd (iseqB (vb (eix (eb 5) (vb ei)))) (blkOk_by (by kernel_rfl)) (fun _ _ _ _ _ => (gn 9 sc__law_pair.nd)) (fun _ _ _ _ _ => (pone (tc (o_ne (u64 hr)) (eb 9) (vb (etup (ac (ev 6) (ac (ev 7) an))))))) (fun _ _ _ _ _ => (ev 9))))) an)))) an)))))
      bn)
      (bo (sret (etup (ac (ev 2) (ac (etup (ac (ev 3) (ac (eix (eb 5) (vb ei)) (ac (eT c_tuple rfl T.z_tuple (by decide +kernel) (nb (eBN c_sorted rfl T.z_sorted (by decide +kernel) (vb (eo o_add (vb (eix (eb 5) (vb ei))) (vb (etup (ac (etup (ac (ev 6) (ac (ev 7) an))) an)))))))) an)))) an))))))
      bn)
      (bc (sif (O' := []) (tc (o_in (u65 hr)) (eb 6) (vb (eix (vb (eix (eb 5) (vb ei))) (vb ei))))
      (bo (sret (etup (ac (ev 2) (ac (etup (ac (ev 3) (ac (etup (ac (eT c_tuple rfl T.z_tuple (by decide +kernel) (nb (elc (own := [("c", 10)]) rfl sc__law_pair.nd (iseqB (vb (eix (vb (eix (eb 5) (vb ei))) (vb ei)))) (blkOk_by (by kernel_rfl)) (fun _ _ _ _ _ => (gn 10 sc__law_pair.nd)) (fun _ _ _ _ _ => (pone (tc (o_ne (u64 hr)) (eb 10) (eb 6)))) (fun _ _ _ _ _ => (ev 10))))) (ac (eix (vb (eix (eb 5) (vb ei))) (vb ei)) an))) (ac (eix (eb 5) (vb ei)) an)))) an)))))
      bn)
      (bo (sret (etup (ac (ev 2) (ac (etup (ac (ev 3) (ac (etup (ac (eT c_tuple rfl T.z_tuple (by decide +kernel) (nb (eBN c_sorted rfl T.z_sorted (by decide +kernel) (vb (eo o_add (vb (eix (vb (eix (eb 5) (vb ei))) (vb ei))) (vb (etup (ac (ev 6) an)))))))) (ac (eix (vb (eix (eb 5) (vb ei))) (vb ei)) an))) (ac (eix (eb 5) (vb ei)) an)))) an))))))))))))))))
abbrev s_law : Stmt := topS 35
theorem sc_law : FnScope ["script", "draws", "k", "names", "power", "one", "two", "r", "told"] ["script"] (defScope s_law) := ⟨rfl, rfl, rfl, by decide +kernel, rfl, by decide +kernel, by decide +kernel⟩
theorem ok_law (T : Top K mg w base) : FnOk P w K mg base CX0 65 T.f_law T.fd_law ["script"] (spV ⟨K, mg, P, w⟩ 1 LB.m_law_k60) :=
  fnV (G := ⟨K, mg, P, w⟩) T.F_law sc_law rfl (Oe := []) fun cdv A outer s H E hr =>
    (bc (sset 1 sc_law.nd (ecall (ok__law_draws T) (hr.mono (by omega)) rfl T.g__law_draws T.F__law_draws.kp T.b__law_draws (ac (ecall (ok__law_cell T) (hr.mono (by omega)) rfl T.g__law_cell T.F__law_cell.kp T.b__law_cell (ac (ev 0) (ac ei an))) (ac ei an))))
      (bc (sasg (ecall (ok__law_pair T) (hr.mono (by omega)) rfl T.g__law_pair T.F__law_pair.kp T.b__law_pair (ac (ev 1) (ac ei an))) (gt rfl (gsc (gn 5 sc_law.nd) (gsc (gn 6 sc_law.nd) gsn))))
      (bc (sif (O' := []) (tc (o_eq (u64 hr)) (vb (eo o_mod (vb (eix (eb 1) (vb ei))) (vb ei))) (vb ei))
      (bo (spar 5 6 rfl sc_law.nd (ecall (ok__law_beside T) (hr.mono (by omega)) rfl T.g__law_beside T.F__law_beside.kp T.b__law_beside (ac (ecall (ok__law_ring T) (hr.mono (by omega)) rfl T.g__law_ring T.F__law_ring.kp T.b__law_ring (ac ei an)) (ac (ecall (ok__law_ring T) (hr.mono (by omega)) rfl T.g__law_ring T.F__law_ring.kp T.b__law_ring (ac ei an)) an))) (ecall (ok__law_ring T) (hr.mono (by omega)) rfl T.g__law_ring T.F__law_ring.kp T.b__law_ring (ac ei an))))
      bn)
      (bc (sfor (O := []) PassesOwn.never rfl (irng1 rfl T.z_range ei) (gn 2 sc_law.nd)
      (bc (sset 7 sc_law.nd (ecall (ok_near_enough T) (hr.mono (by omega)) rfl T.g_near_enough T.F_near_enough.kp T.b_near_enough (ac (ev 2) an)))
      (bc (sset 8 sc_law.nd (ecall (ok_near_paper T) (hr.mono (by omega)) rfl T.g_near_paper T.F_near_paper.kp T.b_near_paper (ac (ev 5) (ac (ev 6) (ac (ev 7) an)))))
      (bo (sif (O' := []) (tw (tand (tc (o_eq (u64 hr)) (vb (eix (eb 8) (vb ei))) (vb es)) (tone1 (tc o_isnt (vb (ecall (ok_agree T) (hr.mono (by omega)) rfl T.g_agree T.F_agree.kp T.b_agree (ac (ev 5) (ac (ev 6) (ac (ev 2) an))))) (vb ebl)))))
      (bo (sret ebl))
      bn)))))
      (bc (sset 3 sc_law.nd (ecall (ok__law_names T) (hr.mono (by omega)) rfl T.g__law_names T.F__law_names.kp T.b__law_names (ac (ev 1) (ac ei (ac (eix (eb 5) (vb ei)) an)))))
      (bc (sif (O' := []) (tc (o_ne (u64 hr)) (vb (eix (vb (ecall (ok_near_paper T) (hr.mono (by omega)) rfl T.g_near_paper T.F_near_paper.kp T.b_near_paper (ac (ev 5) (ac (ecall (ok_renamed T) (hr.mono (by omega)) rfl T.g_renamed T.F_renamed.kp T.b_renamed (ac (ev 5) (ac (ev 3) an))) (ac ei an))))) (vb ei))) (vb es))
      (bo (sret ebl))
      bn)
      (bc (sset 4 sc_law.nd ei)
      (bc (sfor (O := []) PassesOwn.never rfl (irng1 rfl T.z_range ei) (gn 2 sc_law.nd)
      (bc (sif (O' := []) (tnot (tv (ecall (ok__law_equal T 60) (hr.mono (by omega)) rfl T.g__law_equal T.F__law_equal.kp T.b__law_equal (ac (ecall (ok_near_enough T) (hr.mono (by omega)) rfl T.g_near_enough T.F_near_enough.kp T.b_near_enough (ac (ev 2) an)) (ac (eo o_fdiv (vb (eo o_sub (eb 4) (vb ei))) (vb ei)) an)))))
      (bo (sret ebl))
      bn)
      (bo (sset 4 sc_law.nd (eo o_mul (eb 4) (vb ei))))))
      (bo (sret ebl))))))))))
end
end K60

set_option Elab.async false
set_option linter.all false
set_option maxRecDepth 100000
set_option maxHeartbeats 4000000
namespace K60
open PySem PySem.Spec PyProof.Rows L2 TL
def spLaw (K : PySem.W.Frag) (tabs : List (Addr × Addr)) : Sp := fun vs H Q _ => ∃ (a : Addr) (ns : List Int), vs = [.ref a] ∧ SqL K H a (ns.map V.int) ∧ ns.length ≤ 63 ∧ (∀ p ∈ tabs, H p.2 = some (.tbl #[])) ∧ ∀ H', Q (.bl true) H'
theorem rp_ints {G : Gx} {F : Hp} : ∀ ns : List Int, RpAll G F (ns.map V.int) (ns.map .int)
  | [] => .nil
  | i :: r => .cons (.int i) (rp_ints r)
theorem ok_end {P : Program} {w : World} {K : PySem.W.Frag} {mg : Str → Option Value} {base : Heap} (T : Top K mg w base) (hN_truth : PySem.W.tabIn K "truth" = none) (hN_dense_truth : PySem.W.tabIn K "dense_truth" = none) (hN_steps_truth : PySem.W.tabIn K "steps_truth" = none) (hN_line_truth : PySem.W.tabIn K "line_truth" = none) : FnOk P w K mg base CX0 65 T.f_law T.fd_law ["script"] (spLaw K [(T.c_can_go, T.p_can_go)]) :=
  (ok_law T).imp fun vs H Q E ⟨a, ns, e, hS, hl, hT, q⟩ => by
    subst e
    refine ⟨noT H, [.list (ns.map .int)], .bool true, ⟨noT_le, fun x hx c P e => ?_⟩, .cons (.lst (noT_seq hS) (rp_ints ns)) .nil, rfl, LB.law_true_k60 ns hl, fun v F' H' g r => ?_⟩
    · simp only [tabNames, List.mem_cons, List.not_mem_nil, or_false] at hx
      rcases hx with rfl | rfl | rfl | rfl | rfl
      · rw [hN_truth] at e
        cases e
      · rw [T.t_can_go] at e
        cases e
        have h1 := hT (T.c_can_go, T.p_can_go) (by simp)
        exact ⟨noT_tbl h1, #[], h1, True.intro⟩
      · rw [hN_dense_truth] at e
        cases e
      · rw [hN_steps_truth] at e
        cases e
      · rw [hN_line_truth] at e
        cases e
    · cases r
      exact q H'
theorem all_mk {l : PySem.W.OpenLaw} {w : World} {K : PySem.W.Frag} {h : Heap} {mg : Str → Option Value} {fa : Addr} (X : K.In h) (G : h.Ns mainGlobals mg) (hfa : mg "law" = some (.ref fa)) (hTab : TabsAtH K ["can_go"] h)
    {f0 : Addr} {od0 an0 : Option Addr} {sl0 : Array (Option Value)} {oc0 kV0 dc0 pm0 cd0 ct0 : Value}
    {f1 : Addr} {od1 an1 : Option Addr} {sl1 : Array (Option Value)} {oc1 kV1 dc1 pm1 cd1 ct1 : Value}
    {f2 : Addr} {od2 an2 : Option Addr} {sl2 : Array (Option Value)} {oc2 kV2 dc2 pm2 cd2 ct2 : Value}
    {f3 : Addr} {od3 an3 : Option Addr} {sl3 : Array (Option Value)} {oc3 kV3 dc3 pm3 cd3 ct3 : Value}
    {f4 : Addr} {od4 an4 : Option Addr} {sl4 : Array (Option Value)} {oc4 kV4 dc4 pm4 ct4 : Value}
    {f5 : Addr} {od5 an5 : Option Addr} {sl5 : Array (Option Value)} {oc5 kV5 dc5 pm5 cd5 ct5 : Value}
    {f6 : Addr} {od6 an6 : Option Addr} {sl6 : Array (Option Value)} {oc6 kV6 dc6 pm6 cd6 ct6 : Value}
    {f7 : Addr} {od7 an7 : Option Addr} {sl7 : Array (Option Value)} {oc7 kV7 dc7 pm7 cd7 ct7 : Value}
    {f8 : Addr} {od8 an8 : Option Addr} {sl8 : Array (Option Value)} {oc8 kV8 dc8 pm8 cd8 ct8 : Value}
    {f9 : Addr} {od9 an9 : Option Addr} {sl9 : Array (Option Value)} {oc9 kV9 dc9 pm9 cd9 ct9 : Value}
    {f10 : Addr} {od10 an10 : Option Addr} {sl10 : Array (Option Value)} {oc10 kV10 dc10 pm10 cd10 ct10 : Value}
    {f11 : Addr} {od11 an11 : Option Addr} {sl11 : Array (Option Value)} {oc11 kV11 dc11 pm11 cd11 ct11 : Value}
    {f12 : Addr} {od12 an12 : Option Addr} {sl12 : Array (Option Value)} {oc12 kV12 dc12 pm12 cd12 ct12 : Value}
    {f13 : Addr} {od13 an13 : Option Addr} {sl13 : Array (Option Value)} {oc13 kV13 dc13 pm13 cd13 ct13 : Value}
    {f14 : Addr} {od14 an14 : Option Addr} {sl14 : Array (Option Value)} {oc14 kV14 dc14 pm14 cd14 ct14 : Value}
    {f15 : Addr} {od15 an15 : Option Addr} {sl15 : Array (Option Value)} {oc15 kV15 dc15 pm15 cd15 ct15 : Value}
    {f16 : Addr} {od16 an16 : Option Addr} {sl16 : Array (Option Value)} {oc16 kV16 dc16 pm16 cd16 ct16 : Value}
    {f17 : Addr} {od17 an17 : Option Addr} {sl17 : Array (Option Value)} {oc17 kV17 dc17 pm17 cd17 ct17 : Value}
    {f18 : Addr} {od18 an18 : Option Addr} {sl18 : Array (Option Value)} {oc18 kV18 dc18 pm18 cd18 ct18 : Value}
    {f19 : Addr} {od19 an19 : Option Addr} {sl19 : Array (Option Value)} {oc19 kV19 dc19 pm19 cd19 ct19 : Value}
    {f20 : Addr} {od20 an20 : Option Addr} {sl20 : Array (Option Value)} {oc20 kV20 dc20 pm20 cd20 ct20 : Value}
    {f21 : Addr} {od21 an21 : Option Addr} {sl21 : Array (Option Value)} {oc21 kV21 dc21 pm21 cd21 ct21 : Value}
    {f22 : Addr} {od22 an22 : Option Addr} {sl22 : Array (Option Value)} {oc22 kV22 dc22 pm22 cd22 ct22 : Value}
    {f23 : Addr} {od23 an23 : Option Addr} {sl23 : Array (Option Value)} {oc23 kV23 dc23 pm23 cd23 ct23 : Value}
    {f24 : Addr} {od24 an24 : Option Addr} {sl24 : Array (Option Value)} {oc24 kV24 dc24 pm24 cd24 ct24 : Value}
    {f25 : Addr} {od25 an25 : Option Addr} {sl25 : Array (Option Value)} {oc25 kV25 dc25 pm25 cd25 ct25 : Value}
    {f26 : Addr} {od26 an26 : Option Addr} {sl26 : Array (Option Value)} {oc26 kV26 dc26 pm26 cd26 ct26 : Value}
    {f27 : Addr} {od27 an27 : Option Addr} {sl27 : Array (Option Value)} {oc27 kV27 dc27 pm27 cd27 ct27 : Value}
    {f28 : Addr} {od28 an28 : Option Addr} {sl28 : Array (Option Value)} {oc28 kV28 dc28 pm28 cd28 ct28 : Value}
    {f29 : Addr} {od29 an29 : Option Addr} {sl29 : Array (Option Value)} {oc29 kV29 dc29 pm29 cd29 ct29 : Value}
    (a0 : PySem.W.nsIn K mainGlobals "goes" = some (some (.ref f0))) (l0 : K.lookup f0 = some ⟨oc0, od0, .func (PySem.W.fnOf "goes" "goes" (defArgs (topS 1)) (defBody (topS 1)) (defScope (topS 1)) .none kV0 dc0 pm0 an0 cd0 ct0), sl0⟩) (c0 : PySem.W.codeIn K cd0 "goes" = true) (k0 : PySem.W.keepIn K (.ref f0) = true)
    (a1 : PySem.W.nsIn K mainGlobals "grows" = some (some (.ref f1))) (l1 : K.lookup f1 = some ⟨oc1, od1, .func (PySem.W.fnOf "grows" "grows" (defArgs (topS 2)) (defBody (topS 2)) (defScope (topS 2)) .none kV1 dc1 pm1 an1 cd1 ct1), sl1⟩) (c1 : PySem.W.codeIn K cd1 "grows" = true) (k1 : PySem.W.keepIn K (.ref f1) = true)
    (a2 : PySem.W.nsIn K mainGlobals "put" = some (some (.ref f2))) (l2 : K.lookup f2 = some ⟨oc2, od2, .func (PySem.W.fnOf "put" "put" (defArgs (topS 3)) (defBody (topS 3)) (defScope (topS 3)) .none kV2 dc2 pm2 an2 cd2 ct2), sl2⟩) (c2 : PySem.W.codeIn K cd2 "put" = true) (k2 : PySem.W.keepIn K (.ref f2) = true)
    (a3 : PySem.W.nsIn K mainGlobals "can_answer" = some (some (.ref f3))) (l3 : K.lookup f3 = some ⟨oc3, od3, .func (PySem.W.fnOf "can_answer" "can_answer" (defArgs (topS 5)) (defBody (topS 5)) (defScope (topS 5)) .none kV3 dc3 pm3 an3 cd3 ct3), sl3⟩) (c3 : PySem.W.codeIn K cd3 "can_answer" = true) (k3 : PySem.W.keepIn K (.ref f3) = true)
    {C4 P4 : Addr} {ec4 : Value} {dc_4 : Option Addr} {vs4 : Array Value} {sc4 : Array (Option Value)} (a4 : PySem.W.nsIn K mainGlobals "can_go" = some (some (.ref f4))) (l4 : K.lookup f4 = some ⟨oc4, od4, .func (PySem.W.fnOf "can_go" "can_go" (defArgs (topS 6)) (defBody (topS 6)) (defScope (topS 6)) .none kV4 dc4 pm4 an4 (.ref C4) ct4), sl4⟩) (c4 : PySem.W.codeIn K (.ref C4) "can_go" = true) (k4 : PySem.W.keepIn K (.ref f4) = true) (y4 : K.lookup C4 = some ⟨ec4, dc_4, .fields vs4, sc4⟩) (v4 : (vs4[11]? : Option Value) = some (.ref P4)) (n4 : K.lookup P4 = none)
    (a5 : PySem.W.nsIn K mainGlobals "agree" = some (some (.ref f5))) (l5 : K.lookup f5 = some ⟨oc5, od5, .func (PySem.W.fnOf "agree" "agree" (defArgs (topS 7)) (defBody (topS 7)) (defScope (topS 7)) .none kV5 dc5 pm5 an5 cd5 ct5), sl5⟩) (c5 : PySem.W.codeIn K cd5 "agree" = true) (k5 : PySem.W.keepIn K (.ref f5) = true)
    (a6 : PySem.W.nsIn K mainGlobals "renamed" = some (some (.ref f6))) (l6 : K.lookup f6 = some ⟨oc6, od6, .func (PySem.W.fnOf "renamed" "renamed" (defArgs (topS 9)) (defBody (topS 9)) (defScope (topS 9)) .none kV6 dc6 pm6 an6 cd6 ct6), sl6⟩) (c6 : PySem.W.codeIn K cd6 "renamed" = true) (k6 : PySem.W.keepIn K (.ref f6) = true)
    (a7 : PySem.W.nsIn K mainGlobals "part_of" = some (some (.ref f7))) (l7 : K.lookup f7 = some ⟨oc7, od7, .func (PySem.W.fnOf "part_of" "part_of" (defArgs (topS 10)) (defBody (topS 10)) (defScope (topS 10)) .none kV7 dc7 pm7 an7 cd7 ct7), sl7⟩) (c7 : PySem.W.codeIn K cd7 "part_of" = true) (k7 : PySem.W.keepIn K (.ref f7) = true)
    (a8 : PySem.W.nsIn K mainGlobals "likenesses" = some (some (.ref f8))) (l8 : K.lookup f8 = some ⟨oc8, od8, .func (PySem.W.fnOf "likenesses" "likenesses" (defArgs (topS 12)) (defBody (topS 12)) (defScope (topS 12)) .none kV8 dc8 pm8 an8 cd8 ct8), sl8⟩) (c8 : PySem.W.codeIn K cd8 "likenesses" = true) (k8 : PySem.W.keepIn K (.ref f8) = true)
    (a9 : PySem.W.nsIn K mainGlobals "neighbours" = some (some (.ref f9))) (l9 : K.lookup f9 = some ⟨oc9, od9, .func (PySem.W.fnOf "neighbours" "neighbours" (defArgs (topS 14)) (defBody (topS 14)) (defScope (topS 14)) .none kV9 dc9 pm9 an9 cd9 ct9), sl9⟩) (c9 : PySem.W.codeIn K cd9 "neighbours" = true) (k9 : PySem.W.keepIn K (.ref f9) = true)
    (a10 : PySem.W.nsIn K mainGlobals "distances" = some (some (.ref f10))) (l10 : K.lookup f10 = some ⟨oc10, od10, .func (PySem.W.fnOf "distances" "distances" (defArgs (topS 15)) (defBody (topS 15)) (defScope (topS 15)) .none kV10 dc10 pm10 an10 cd10 ct10), sl10⟩) (c10 : PySem.W.codeIn K cd10 "distances" = true) (k10 : PySem.W.keepIn K (.ref f10) = true)
    (a11 : PySem.W.nsIn K mainGlobals "ball" = some (some (.ref f11))) (l11 : K.lookup f11 = some ⟨oc11, od11, .func (PySem.W.fnOf "ball" "ball" (defArgs (topS 16)) (defBody (topS 16)) (defScope (topS 16)) .none kV11 dc11 pm11 an11 cd11 ct11), sl11⟩) (c11 : PySem.W.codeIn K cd11 "ball" = true) (k11 : PySem.W.keepIn K (.ref f11) = true)
    (a12 : PySem.W.nsIn K mainGlobals "look_alike" = some (some (.ref f12))) (l12 : K.lookup f12 = some ⟨oc12, od12, .func (PySem.W.fnOf "look_alike" "look_alike" (defArgs (topS 17)) (defBody (topS 17)) (defScope (topS 17)) .none kV12 dc12 pm12 an12 cd12 ct12), sl12⟩) (c12 : PySem.W.codeIn K cd12 "look_alike" = true) (k12 : PySem.W.keepIn K (.ref f12) = true)
    (a13 : PySem.W.nsIn K mainGlobals "looks_like" = some (some (.ref f13))) (l13 : K.lookup f13 = some ⟨oc13, od13, .func (PySem.W.fnOf "looks_like" "looks_like" (defArgs (topS 18)) (defBody (topS 18)) (defScope (topS 18)) .none kV13 dc13 pm13 an13 cd13 ct13), sl13⟩) (c13 : PySem.W.codeIn K cd13 "looks_like" = true) (k13 : PySem.W.keepIn K (.ref f13) = true)
    (a14 : PySem.W.nsIn K mainGlobals "near_paper" = some (some (.ref f14))) (l14 : K.lookup f14 = some ⟨oc14, od14, .func (PySem.W.fnOf "near_paper" "near_paper" (defArgs (topS 19)) (defBody (topS 19)) (defScope (topS 19)) .none kV14 dc14 pm14 an14 cd14 ct14), sl14⟩) (c14 : PySem.W.codeIn K cd14 "near_paper" = true) (k14 : PySem.W.keepIn K (.ref f14) = true)
    (a15 : PySem.W.nsIn K mainGlobals "near_enough" = some (some (.ref f15))) (l15 : K.lookup f15 = some ⟨oc15, od15, .func (PySem.W.fnOf "near_enough" "near_enough" (defArgs (topS 20)) (defBody (topS 20)) (defScope (topS 20)) .none kV15 dc15 pm15 an15 cd15 ct15), sl15⟩) (c15 : PySem.W.codeIn K cd15 "near_enough" = true) (k15 : PySem.W.keepIn K (.ref f15) = true)
    (a16 : PySem.W.nsIn K mainGlobals "_law_cell" = some (some (.ref f16))) (l16 : K.lookup f16 = some ⟨oc16, od16, .func (PySem.W.fnOf "_law_cell" "_law_cell" (defArgs (topS 22)) (defBody (topS 22)) (defScope (topS 22)) .none kV16 dc16 pm16 an16 cd16 ct16), sl16⟩) (c16 : PySem.W.codeIn K cd16 "_law_cell" = true) (k16 : PySem.W.keepIn K (.ref f16) = true)
    (a17 : PySem.W.nsIn K mainGlobals "_law_draws" = some (some (.ref f17))) (l17 : K.lookup f17 = some ⟨oc17, od17, .func (PySem.W.fnOf "_law_draws" "_law_draws" (defArgs (topS 23)) (defBody (topS 23)) (defScope (topS 23)) .none kV17 dc17 pm17 an17 cd17 ct17), sl17⟩) (c17 : PySem.W.codeIn K cd17 "_law_draws" = true) (k17 : PySem.W.keepIn K (.ref f17) = true)
    (a18 : PySem.W.nsIn K mainGlobals "_law_kind" = some (some (.ref f18))) (l18 : K.lookup f18 = some ⟨oc18, od18, .func (PySem.W.fnOf "_law_kind" "_law_kind" (defArgs (topS 24)) (defBody (topS 24)) (defScope (topS 24)) .none kV18 dc18 pm18 an18 cd18 ct18), sl18⟩) (c18 : PySem.W.codeIn K cd18 "_law_kind" = true) (k18 : PySem.W.keepIn K (.ref f18) = true)
    (a19 : PySem.W.nsIn K mainGlobals "_law_equal" = some (some (.ref f19))) (l19 : K.lookup f19 = some ⟨oc19, od19, .func (PySem.W.fnOf "_law_equal" "_law_equal" (defArgs (topS 25)) (defBody (topS 25)) (defScope (topS 25)) .none kV19 dc19 pm19 an19 cd19 ct19), sl19⟩) (c19 : PySem.W.codeIn K cd19 "_law_equal" = true) (k19 : PySem.W.keepIn K (.ref f19) = true)
    (a20 : PySem.W.nsIn K mainGlobals "_law_names" = some (some (.ref f20))) (l20 : K.lookup f20 = some ⟨oc20, od20, .func (PySem.W.fnOf "_law_names" "_law_names" (defArgs (topS 26)) (defBody (topS 26)) (defScope (topS 26)) .none kV20 dc20 pm20 an20 cd20 ct20), sl20⟩) (c20 : PySem.W.codeIn K cd20 "_law_names" = true) (k20 : PySem.W.keepIn K (.ref f20) = true)
    (a21 : PySem.W.nsIn K mainGlobals "_law_line" = some (some (.ref f21))) (l21 : K.lookup f21 = some ⟨oc21, od21, .func (PySem.W.fnOf "_law_line" "_law_line" (defArgs (topS 27)) (defBody (topS 27)) (defScope (topS 27)) .none kV21 dc21 pm21 an21 cd21 ct21), sl21⟩) (c21 : PySem.W.codeIn K cd21 "_law_line" = true) (k21 : PySem.W.keepIn K (.ref f21) = true)
    (a22 : PySem.W.nsIn K mainGlobals "_law_ring" = some (some (.ref f22))) (l22 : K.lookup f22 = some ⟨oc22, od22, .func (PySem.W.fnOf "_law_ring" "_law_ring" (defArgs (topS 28)) (defBody (topS 28)) (defScope (topS 28)) .none kV22 dc22 pm22 an22 cd22 ct22), sl22⟩) (c22 : PySem.W.codeIn K cd22 "_law_ring" = true) (k22 : PySem.W.keepIn K (.ref f22) = true)
    (a23 : PySem.W.nsIn K mainGlobals "_law_both_ways" = some (some (.ref f23))) (l23 : K.lookup f23 = some ⟨oc23, od23, .func (PySem.W.fnOf "_law_both_ways" "_law_both_ways" (defArgs (topS 29)) (defBody (topS 29)) (defScope (topS 29)) .none kV23 dc23 pm23 an23 cd23 ct23), sl23⟩) (c23 : PySem.W.codeIn K cd23 "_law_both_ways" = true) (k23 : PySem.W.keepIn K (.ref f23) = true)
    (a24 : PySem.W.nsIn K mainGlobals "_law_renamed" = some (some (.ref f24))) (l24 : K.lookup f24 = some ⟨oc24, od24, .func (PySem.W.fnOf "_law_renamed" "_law_renamed" (defArgs (topS 30)) (defBody (topS 30)) (defScope (topS 30)) .none kV24 dc24 pm24 an24 cd24 ct24), sl24⟩) (c24 : PySem.W.codeIn K cd24 "_law_renamed" = true) (k24 : PySem.W.keepIn K (.ref f24) = true)
    (a25 : PySem.W.nsIn K mainGlobals "_law_beside" = some (some (.ref f25))) (l25 : K.lookup f25 = some ⟨oc25, od25, .func (PySem.W.fnOf "_law_beside" "_law_beside" (defArgs (topS 31)) (defBody (topS 31)) (defScope (topS 31)) .none kV25 dc25 pm25 an25 cd25 ct25), sl25⟩) (c25 : PySem.W.codeIn K cd25 "_law_beside" = true) (k25 : PySem.W.keepIn K (.ref f25) = true)
    (a26 : PySem.W.nsIn K mainGlobals "_law_special" = some (some (.ref f26))) (l26 : K.lookup f26 = some ⟨oc26, od26, .func (PySem.W.fnOf "_law_special" "_law_special" (defArgs (topS 32)) (defBody (topS 32)) (defScope (topS 32)) .none kV26 dc26 pm26 an26 cd26 ct26), sl26⟩) (c26 : PySem.W.codeIn K cd26 "_law_special" = true) (k26 : PySem.W.keepIn K (.ref f26) = true)
    (a27 : PySem.W.nsIn K mainGlobals "_law_world" = some (some (.ref f27))) (l27 : K.lookup f27 = some ⟨oc27, od27, .func (PySem.W.fnOf "_law_world" "_law_world" (defArgs (topS 33)) (defBody (topS 33)) (defScope (topS 33)) .none kV27 dc27 pm27 an27 cd27 ct27), sl27⟩) (c27 : PySem.W.codeIn K cd27 "_law_world" = true) (k27 : PySem.W.keepIn K (.ref f27) = true)
    (a28 : PySem.W.nsIn K mainGlobals "_law_pair" = some (some (.ref f28))) (l28 : K.lookup f28 = some ⟨oc28, od28, .func (PySem.W.fnOf "_law_pair" "_law_pair" (defArgs (topS 34)) (defBody (topS 34)) (defScope (topS 34)) .none kV28 dc28 pm28 an28 cd28 ct28), sl28⟩) (c28 : PySem.W.codeIn K cd28 "_law_pair" = true) (k28 : PySem.W.keepIn K (.ref f28) = true)
    (a29 : PySem.W.nsIn K mainGlobals "law" = some (some (.ref f29))) (l29 : K.lookup f29 = some ⟨oc29, od29, .func (PySem.W.fnOf "law" "law" (defArgs (topS 35)) (defBody (topS 35)) (defScope (topS 35)) .none kV29 dc29 pm29 an29 cd29 ct29), sl29⟩) (c29 : PySem.W.codeIn K cd29 "law" = true) (k29 : PySem.W.keepIn K (.ref f29) = true)
    (zz_all : PySem.W.nsIn K mainGlobals "all" = some none)
    (zz_any : PySem.W.nsIn K mainGlobals "any" = some none)
    (zz_bool : PySem.W.nsIn K mainGlobals "bool" = some none)
    (zz_dense_truth : PySem.W.nsIn K mainGlobals "dense_truth" = some none)
    (zz_dict : PySem.W.nsIn K mainGlobals "dict" = some none)
    (zz_int : PySem.W.nsIn K mainGlobals "int" = some none)
    (zz_isinstance : PySem.W.nsIn K mainGlobals "isinstance" = some none)
    (zz_len : PySem.W.nsIn K mainGlobals "len" = some none)
    (zz_line_truth : PySem.W.nsIn K mainGlobals "line_truth" = some none)
    (zz_list : PySem.W.nsIn K mainGlobals "list" = some none)
    (zz_max : PySem.W.nsIn K mainGlobals "max" = some none)
    (zz_range : PySem.W.nsIn K mainGlobals "range" = some none)
    (zz_sorted : PySem.W.nsIn K mainGlobals "sorted" = some none)
    (zz_steps_truth : PySem.W.nsIn K mainGlobals "steps_truth" = some none)
    (zz_str : PySem.W.nsIn K mainGlobals "str" = some none)
    (zz_truth : PySem.W.nsIn K mainGlobals "truth" = some none)
    (zz_tuple : PySem.W.nsIn K mainGlobals "tuple" = some none) :
    LamX.LawAtS l w K CX0 65 63 "script" mg fa h := by
  have e := hfa.symm.trans (PySem.W.mg_of X G a29)
  cases e
  let T : ∀ (base : Heap) (tb4 : GxR.TabB base mg C4 P4), Top K mg w base := fun base tb4 => {
    f_goes := f0, fd_goes := _, F_goes := fun_mk (st := topS 1) l0 c0 k0, g_goes := PySem.W.mg_of X G a0, b_goes := (fun_mk (st := topS 1) l0 c0 k0).binds (ps := ["one", "two", "first", "last"]) fun _ _ _ _ _ _ us hl => match us, hl with | [_, _, _, _], _ => rfl,
    f_grows := f1, fd_grows := _, F_grows := fun_mk (st := topS 2) l1 c1 k1, g_grows := PySem.W.mg_of X G a1, b_grows := (fun_mk (st := topS 2) l1 c1 k1).binds (ps := ["one", "two", "pairs", "pair"]) fun _ _ _ _ _ _ us hl => match us, hl with | [_, _, _, _], _ => rfl,
    f_put := f2, fd_put := _, F_put := fun_mk (st := topS 3) l2 c2 k2, g_put := PySem.W.mg_of X G a2, b_put := (fun_mk (st := topS 3) l2 c2 k2).binds (ps := ["pairs", "pair"]) fun _ _ _ _ _ _ us hl => match us, hl with | [_, _], _ => rfl,
    f_can_answer := f3, fd_can_answer := _, F_can_answer := fun_mk (st := topS 5) l3 c3 k3, g_can_answer := PySem.W.mg_of X G a3, b_can_answer := (fun_mk (st := topS 5) l3 c3 k3).binds (ps := ["one", "two", "pairs", "k", "known", "item", "place"]) fun _ _ _ _ _ _ us hl => match us, hl with | [_, _, _, _, _, _, _], _ => rfl,
    f_can_go := f4, fd_can_go := _, c_can_go := C4, p_can_go := P4, F_can_go := funC_mk (st := topS 6) l4 c4 k4, g_can_go := PySem.W.mg_of X G a4, b_can_go := (funC_mk (st := topS 6) l4 c4 k4).f.binds (ps := ["one", "two", "pairs", "k", "known"]) fun _ _ _ _ _ _ us hl => match us, hl with | [_, _, _, _, _], _ => rfl, t_can_go := tabIn_of a4 l4 rfl y4 v4, tb_can_go := tb4,
    f_agree := f5, fd_agree := _, F_agree := fun_mk (st := topS 7) l5 c5 k5, g_agree := PySem.W.mg_of X G a5, b_agree := (fun_mk (st := topS 7) l5 c5 k5).binds (ps := ["one", "two", "k"]) fun _ _ _ _ _ _ us hl => match us, hl with | [_, _, _], _ => rfl,
    f_renamed := f6, fd_renamed := _, F_renamed := fun_mk (st := topS 9) l6 c6 k6, g_renamed := PySem.W.mg_of X G a6, b_renamed := (fun_mk (st := topS 9) l6 c6 k6).binds (ps := ["world", "names"]) fun _ _ _ _ _ _ us hl => match us, hl with | [_, _], _ => rfl,
    f_part_of := f7, fd_part_of := _, F_part_of := fun_mk (st := topS 10) l7 c7 k7, g_part_of := PySem.W.mg_of X G a7, b_part_of := (fun_mk (st := topS 10) l7 c7 k7).binds (ps := ["world", "items"]) fun _ _ _ _ _ _ us hl => match us, hl with | [_, _], _ => rfl,
    f_likenesses := f8, fd_likenesses := _, F_likenesses := fun_mk (st := topS 12) l8 c8 k8, g_likenesses := PySem.W.mg_of X G a8, b_likenesses := (fun_mk (st := topS 12) l8 c8 k8).binds (ps := ["one", "two", "begun"]) fun _ _ _ _ _ _ us hl => match us, hl with | [_, _, _], _ => rfl,
    f_neighbours := f9, fd_neighbours := _, F_neighbours := fun_mk (st := topS 14) l9 c9 k9, g_neighbours := PySem.W.mg_of X G a9, b_neighbours := (fun_mk (st := topS 14) l9 c9 k9).binds (ps := ["world", "a"]) fun _ _ _ _ _ _ us hl => match us, hl with | [_, _], _ => rfl,
    f_distances := f10, fd_distances := _, F_distances := fun_mk (st := topS 15) l10 c10 k10, g_distances := PySem.W.mg_of X G a10, b_distances := (fun_mk (st := topS 15) l10 c10 k10).binds (ps := ["world", "a"]) fun _ _ _ _ _ _ us hl => match us, hl with | [_, _], _ => rfl,
    f_ball := f11, fd_ball := _, F_ball := fun_mk (st := topS 16) l11 c11 k11, g_ball := PySem.W.mg_of X G a11, b_ball := (fun_mk (st := topS 16) l11 c11 k11).binds (ps := ["world", "a", "r"]) fun _ _ _ _ _ _ us hl => match us, hl with | [_, _, _], _ => rfl,
    f_look_alike := f12, fd_look_alike := _, F_look_alike := fun_mk (st := topS 17) l12 c12 k12, g_look_alike := PySem.W.mg_of X G a12, b_look_alike := (fun_mk (st := topS 17) l12 c12 k12).binds (ps := ["one", "a", "two", "b", "r"]) fun _ _ _ _ _ _ us hl => match us, hl with | [_, _, _, _, _], _ => rfl,
    f_looks_like := f13, fd_looks_like := _, F_looks_like := fun_mk (st := topS 18) l13 c13 k13, g_looks_like := PySem.W.mg_of X G a13, b_looks_like := (fun_mk (st := topS 18) l13 c13 k13).binds (ps := ["one", "two", "side", "item", "r"]) fun _ _ _ _ _ _ us hl => match us, hl with | [_, _, _, _, _], _ => rfl,
    f_near_paper := f14, fd_near_paper := _, F_near_paper := fun_mk (st := topS 19) l14 c14 k14, g_near_paper := PySem.W.mg_of X G a14, b_near_paper := (fun_mk (st := topS 19) l14 c14 k14).binds (ps := ["one", "two", "r"]) fun _ _ _ _ _ _ us hl => match us, hl with | [_, _, _], _ => rfl,
    f_near_enough := f15, fd_near_enough := _, F_near_enough := fun_mk (st := topS 20) l15 c15 k15, g_near_enough := PySem.W.mg_of X G a15, b_near_enough := (fun_mk (st := topS 20) l15 c15 k15).binds (ps := ["k"]) fun _ _ _ _ _ _ us hl => match us, hl with | [_], _ => rfl,
    f__law_cell := f16, fd__law_cell := _, F__law_cell := fun_mk (st := topS 22) l16 c16 k16, g__law_cell := PySem.W.mg_of X G a16, b__law_cell := (fun_mk (st := topS 22) l16 c16 k16).binds (ps := ["script", "k"]) fun _ _ _ _ _ _ us hl => match us, hl with | [_, _], _ => rfl,
    f__law_draws := f17, fd__law_draws := _, F__law_draws := fun_mk (st := topS 23) l17 c17 k17, g__law_draws := PySem.W.mg_of X G a17, b__law_draws := (fun_mk (st := topS 23) l17 c17 k17).binds (ps := ["cell", "amount"]) fun _ _ _ _ _ _ us hl => match us, hl with | [_, _], _ => rfl,
    f__law_kind := f18, fd__law_kind := _, F__law_kind := fun_mk (st := topS 24) l18 c18 k18, g__law_kind := PySem.W.mg_of X G a18, b__law_kind := (fun_mk (st := topS 24) l18 c18 k18).binds (ps := ["x"]) fun _ _ _ _ _ _ us hl => match us, hl with | [_], _ => rfl,
    f__law_equal := f19, fd__law_equal := _, F__law_equal := fun_mk (st := topS 25) l19 c19 k19, g__law_equal := PySem.W.mg_of X G a19, b__law_equal := (fun_mk (st := topS 25) l19 c19 k19).binds (ps := ["x", "due"]) fun _ _ _ _ _ _ us hl => match us, hl with | [_, _], _ => rfl,
    f__law_names := f20, fd__law_names := _, F__law_names := fun_mk (st := topS 26) l20 c20 k20, g__law_names := PySem.W.mg_of X G a20, b__law_names := (fun_mk (st := topS 26) l20 c20 k20).binds (ps := ["draws", "at", "n"]) fun _ _ _ _ _ _ us hl => match us, hl with | [_, _, _], _ => rfl,
    f__law_line := f21, fd__law_line := _, F__law_line := fun_mk (st := topS 27) l21 c21 k21, g__law_line := PySem.W.mg_of X G a21, b__law_line := (fun_mk (st := topS 27) l21 c21 k21).binds (ps := ["n"]) fun _ _ _ _ _ _ us hl => match us, hl with | [_], _ => rfl,
    f__law_ring := f22, fd__law_ring := _, F__law_ring := fun_mk (st := topS 28) l22 c22 k22, g__law_ring := PySem.W.mg_of X G a22, b__law_ring := (fun_mk (st := topS 28) l22 c22 k22).binds (ps := ["n"]) fun _ _ _ _ _ _ us hl => match us, hl with | [_], _ => rfl,
    f__law_both_ways := f23, fd__law_both_ways := _, F__law_both_ways := fun_mk (st := topS 29) l23 c23 k23, g__law_both_ways := PySem.W.mg_of X G a23, b__law_both_ways := (fun_mk (st := topS 29) l23 c23 k23).binds (ps := ["n", "edges"]) fun _ _ _ _ _ _ us hl => match us, hl with | [_, _], _ => rfl,
    f__law_renamed := f24, fd__law_renamed := _, F__law_renamed := fun_mk (st := topS 30) l24 c24 k24, g__law_renamed := PySem.W.mg_of X G a24, b__law_renamed := (fun_mk (st := topS 30) l24 c24 k24).binds (ps := ["world", "names"]) fun _ _ _ _ _ _ us hl => match us, hl with | [_, _], _ => rfl,
    f__law_beside := f25, fd__law_beside := _, F__law_beside := fun_mk (st := topS 31) l25 c25 k25, g__law_beside := PySem.W.mg_of X G a25, b__law_beside := (fun_mk (st := topS 31) l25 c25 k25).binds (ps := ["one", "two"]) fun _ _ _ _ _ _ us hl => match us, hl with | [_, _], _ => rfl,
    f__law_special := f26, fd__law_special := _, F__law_special := fun_mk (st := topS 32) l26 c26 k26, g__law_special := PySem.W.mg_of X G a26, b__law_special := (fun_mk (st := topS 32) l26 c26 k26).binds (ps := ["number"]) fun _ _ _ _ _ _ us hl => match us, hl with | [_], _ => rfl,
    f__law_world := f27, fd__law_world := _, F__law_world := fun_mk (st := topS 33) l27 c27 k27, g__law_world := PySem.W.mg_of X G a27, b__law_world := (fun_mk (st := topS 33) l27 c27 k27).binds (ps := ["draws", "most"]) fun _ _ _ _ _ _ us hl => match us, hl with | [_, _], _ => rfl,
    f__law_pair := f28, fd__law_pair := _, F__law_pair := fun_mk (st := topS 34) l28 c28 k28, g__law_pair := PySem.W.mg_of X G a28, b__law_pair := (fun_mk (st := topS 34) l28 c28 k28).binds (ps := ["draws", "most"]) fun _ _ _ _ _ _ us hl => match us, hl with | [_, _], _ => rfl,
    f_law := fa, fd_law := _, F_law := fun_mk (st := topS 35) l29 c29 k29, g_law := PySem.W.mg_of X G a29, b_law := (fun_mk (st := topS 35) l29 c29 k29).binds (ps := ["script"]) fun _ _ _ _ _ _ us hl => match us, hl with | [_], _ => rfl,
    z_all := PySem.W.mg_none_of X G zz_all,
    z_any := PySem.W.mg_none_of X G zz_any,
    z_bool := PySem.W.mg_none_of X G zz_bool,
    z_dense_truth := PySem.W.mg_none_of X G zz_dense_truth,
    z_dict := PySem.W.mg_none_of X G zz_dict,
    z_int := PySem.W.mg_none_of X G zz_int,
    z_isinstance := PySem.W.mg_none_of X G zz_isinstance,
    z_len := PySem.W.mg_none_of X G zz_len,
    z_line_truth := PySem.W.mg_none_of X G zz_line_truth,
    z_list := PySem.W.mg_none_of X G zz_list,
    z_max := PySem.W.mg_none_of X G zz_max,
    z_range := PySem.W.mg_none_of X G zz_range,
    z_sorted := PySem.W.mg_none_of X G zz_sorted,
    z_steps_truth := PySem.W.mg_none_of X G zz_steps_truth,
    z_str := PySem.W.mg_none_of X G zz_str,
    z_truth := PySem.W.mg_none_of X G zz_truth,
    z_tuple := PySem.W.mg_none_of X G zz_tuple }
  refine ⟨PySem.W.fnOf "law" "law" (defArgs (topS 35)) (defBody (topS 35)) (defScope (topS 35)) .none kV29 dc29 pm29 an29 cd29 ct29, [(C4, P4)], spLaw K [(C4, P4)], fun p hp => ?_, fun p hp => ?_, fun p hp => ?_, fun s v => .of_eq rfl, fun H a ns hl _ hH hS => ⟨a, ns, rfl, hS, hl, hH, fun _ => rfl⟩, fun base _ _ tb => ok_end (T base ⟨(tb (C4, P4) (by simp)).code, (tb (C4, P4) (by simp)).bm, (tb (C4, P4) (by simp)).gP⟩) (tabIn_none zz_truth) (tabIn_none zz_dense_truth) (tabIn_none zz_steps_truth) (tabIn_none zz_line_truth)⟩
  all_goals
    simp only [List.mem_cons, List.not_mem_nil, or_false] at hp
    first | (cases hp; done) | skip
  · rcases hp with rfl
    · exact (hTab "can_go" (by simp) _ _ (tabIn_of a4 l4 rfl y4 v4)).2
  · rcases hp with rfl
    · exact n4
  · rcases hp with rfl
    · exact (hTab "can_go" (by simp) _ _ (tabIn_of a4 l4 rfl y4 v4)).1
end K60
open PySem PySem.W PyProof.Rows
set_option maxHeartbeats 0 in
theorem PySem.Challenge.cw_backforth_k60_whole_near_worlds_agree_holds : PySem.Challenge.rw_backforth_k60_whole_near_worlds_agree.Holds := by
  w_on; o_law; k_head; (case hw => w_witness2)
  k_fill
  refine TL.walk_tabs (l := PySem.Challenge.rw_backforth_k60_whole_near_worlds_agree) (n := 63) (k := 65) (x := "script") (CX := fun _ => L2.CX0) ["can_go"] rfl (by decide) rfl ⟨rfl, by decide, by decide⟩ (by kernel_rfl) (fun w h Y => PySem.W.kIn_of Y) ?F (fun _ _ _ _ _ h => h)
  case F =>
    intro w mg fa h KX G hmg hT
    refine' K60.all_mk KX G hmg hT ?a0 ?l0 ?c0 ?k0 ?a1 ?l1 ?c1 ?k1 ?a2 ?l2 ?c2 ?k2 ?a3 ?l3 ?c3 ?k3 ?a4 ?l4 ?c4 ?k4 ?y4 ?v4 ?n4 ?a5 ?l5 ?c5 ?k5 ?a6 ?l6 ?c6 ?k6 ?a7 ?l7 ?c7 ?k7 ?a8 ?l8 ?c8 ?k8 ?a9 ?l9 ?c9 ?k9 ?a10 ?l10 ?c10 ?k10 ?a11 ?l11 ?c11 ?k11 ?a12 ?l12 ?c12 ?k12 ?a13 ?l13 ?c13 ?k13 ?a14 ?l14 ?c14 ?k14 ?a15 ?l15 ?c15 ?k15 ?a16 ?l16 ?c16 ?k16 ?a17 ?l17 ?c17 ?k17 ?a18 ?l18 ?c18 ?k18 ?a19 ?l19 ?c19 ?k19 ?a20 ?l20 ?c20 ?k20 ?a21 ?l21 ?c21 ?k21 ?a22 ?l22 ?c22 ?k22 ?a23 ?l23 ?c23 ?k23 ?a24 ?l24 ?c24 ?k24 ?a25 ?l25 ?c25 ?k25 ?a26 ?l26 ?c26 ?k26 ?a27 ?l27 ?c27 ?k27 ?a28 ?l28 ?c28 ?k28 ?a29 ?l29 ?c29 ?k29 ?zz_all ?zz_any ?zz_bool ?zz_dense_truth ?zz_dict ?zz_int ?zz_isinstance ?zz_len ?zz_line_truth ?zz_list ?zz_max ?zz_range ?zz_sorted ?zz_steps_truth ?zz_str ?zz_truth ?zz_tuple
    (case a0 => k_is); (case l0 => k_is); (case c0 => k_is); (case k0 => k_is); (case a1 => k_is); (case l1 => k_is); (case c1 => k_is); (case k1 => k_is); (case a2 => k_is); (case l2 => k_is); (case c2 => k_is); (case k2 => k_is); (case a3 => k_is); (case l3 => k_is); (case c3 => k_is); (case k3 => k_is); (case a4 => k_is); (case l4 => k_is); (case c4 => k_is); (case k4 => k_is); (case y4 => k_is); (case v4 => rfl); (case n4 => kernel_rfl); (case a5 => k_is); (case l5 => k_is); (case c5 => k_is); (case k5 => k_is); (case a6 => k_is); (case l6 => k_is); (case c6 => k_is); (case k6 => k_is); (case a7 => k_is); (case l7 => k_is); (case c7 => k_is); (case k7 => k_is); (case a8 => k_is); (case l8 => k_is); (case c8 => k_is); (case k8 => k_is); (case a9 => k_is); (case l9 => k_is); (case c9 => k_is); (case k9 => k_is); (case a10 => k_is); (case l10 => k_is); (case c10 => k_is); (case k10 => k_is); (case a11 => k_is); (case l11 => k_is); (case c11 => k_is); (case k11 => k_is); (case a12 => k_is); (case l12 => k_is); (case c12 => k_is); (case k12 => k_is); (case a13 => k_is); (case l13 => k_is); (case c13 => k_is); (case k13 => k_is); (case a14 => k_is); (case l14 => k_is); (case c14 => k_is); (case k14 => k_is); (case a15 => k_is); (case l15 => k_is); (case c15 => k_is); (case k15 => k_is); (case a16 => k_is); (case l16 => k_is); (case c16 => k_is); (case k16 => k_is); (case a17 => k_is); (case l17 => k_is); (case c17 => k_is); (case k17 => k_is); (case a18 => k_is); (case l18 => k_is); (case c18 => k_is); (case k18 => k_is); (case a19 => k_is); (case l19 => k_is); (case c19 => k_is); (case k19 => k_is); (case a20 => k_is); (case l20 => k_is); (case c20 => k_is); (case k20 => k_is); (case a21 => k_is); (case l21 => k_is); (case c21 => k_is); (case k21 => k_is); (case a22 => k_is); (case l22 => k_is); (case c22 => k_is); (case k22 => k_is); (case a23 => k_is); (case l23 => k_is); (case c23 => k_is); (case k23 => k_is); (case a24 => k_is); (case l24 => k_is); (case c24 => k_is); (case k24 => k_is); (case a25 => k_is); (case l25 => k_is); (case c25 => k_is); (case k25 => k_is); (case a26 => k_is); (case l26 => k_is); (case c26 => k_is); (case k26 => k_is); (case a27 => k_is); (case l27 => k_is); (case c27 => k_is); (case k27 => k_is); (case a28 => k_is); (case l28 => k_is); (case c28 => k_is); (case k28 => k_is); (case a29 => k_is); (case l29 => k_is); (case c29 => k_is); (case k29 => k_is); (case zz_all => k_is); (case zz_any => k_is); (case zz_bool => k_is); (case zz_dense_truth => k_is); (case zz_dict => k_is); (case zz_int => k_is); (case zz_isinstance => k_is); (case zz_len => k_is); (case zz_line_truth => k_is); (case zz_list => k_is); (case zz_max => k_is); (case zz_range => k_is); (case zz_sorted => k_is); (case zz_steps_truth => k_is); (case zz_str => k_is); (case zz_truth => k_is); (case zz_tuple => k_is)

