import PyProof.Rows.All
import Wide.All
import OpenK.AllK
import Wide.FinOn
import HandS.ForMost
import HandS.Conv
import HandS.Deep
import HandS.TupAny
import HandS.TupLe
import HandS.IsInst
import HandS.Style
import HandS.SortRule
import HandS.SortInts
import HandS.AnyAll
import HandS.GenOver
import HandS.GenList
import HandS.Dict
import KE.KDictKeyed
import HandS.TupMul
import HandS.Strs
import HandS.Defaults
import HandS.More
import HandS.Text
import HandS.SetFor
import HandS.SortKw
import PyProof.MinMaxWalk
import PyProof.WalkInts
import PyProof.GenQ
import PyProof.ConsumeS
import HandS.EndTab
import KE.DataMinMax
import HandS.CallLocal
import HandS.RevRange
import HandS.WideBits
import HandS.Replace
import HandS.TupSets
import HandS.Exc
import HandS.ExcOwn
import HandS.ExcIs
import HandS.WordsExc
import HandS.DictComp
import KE.SortData
import KE.GoesEnum
import HandS.Iter
import KE.DataFind
import PySem.Challenge.RW_backforth_k48_orbits_listed
set_option Elab.async false
set_option linter.all false
set_option maxRecDepth 100000
namespace TL
open PySem
abbrev D := PyData
abbrev Env := List (Option D)
abbrev SE := Env → Option D
abbrev ST := Env → Option Bool
abbrev SI := Env → Option (List D)
abbrev SG := D → Env → Option Env
inductive Out where
  | nx (e : Env) | rt (d : D) | bk (e : Env) | ct (e : Env)
abbrev SS := Env → Option Out

@[simp] def toB : D → Option Bool
  | .bool b => some b
  | _ => none
@[simp] def toI : D → Option Int
  | .int i => some i
  | _ => none
def intsOf : List D → Option (List Int)
  | [] => some []
  | .int i :: r => (intsOf r).map (i :: ·)
  | _ => none
def boolsOf : List D → Option (List Bool)
  | [] => some []
  | .bool i :: r => (boolsOf r).map (i :: ·)
  | _ => none

def addD : D → D → Option D
  | .int a, .int b => some (.int (a + b))
  | .str a, .str b => if a.length + b.length ≤ sizeLine then some (.str (a ++ b)) else none
  | .tuple a, .tuple b => if a.length + b.length ≤ sizeLine then some (.tuple (a ++ b)) else none
  | .list a, .list b => if a.length + b.length ≤ sizeLine then some (.list (a ++ b)) else none
  | _, _ => none
def addLD : D → D → Option D
  | .list a, .list b => addD (.list a) (.list b)
  | _, _ => none
def subD : D → D → Option D
  | .int a, .int b => some (.int (a - b))
  | _, _ => none
def okMul (a b : Int) : Bool := Nat.blt a.natAbs (2 ^ 64) || Nat.blt b.natAbs (2 ^ 64)
def okDiv (b : Int) : Bool := Nat.ble 1 b.toNat && Nat.ble b.toNat 1073741823
def okPow (a b : Int) : Bool := Nat.ble b.natAbs b.toNat && Nat.ble b.toNat 1000000 && Nat.blt a.natAbs (2 ^ 64)
def okRng (lo hi : Int) : Bool := Nat.ble lo.natAbs 4000000000000000000 && Nat.ble hi.natAbs 4000000000000000000 && Nat.ble (hi - lo).toNat sizeLine
def mulD : D → D → Option D
  | .int a, .int b => if okMul a b = true then some (.int (a * b)) else none
  | _, _ => none
def fdivD : D → D → Option D
  | .int a, .int b => if okDiv b = true then some (.int (a / b)) else none
  | _, _ => none
def modD : D → D → Option D
  | .int a, .int b => if 0 < b then some (.int (a % b)) else none
  | _, _ => none
def powD : D → D → Option D
  | .int a, .int b => if okPow a b = true then some (.int (a ^ b.toNat)) else none
  | _, _ => none
def negD : D → Option D
  | .int a => some (.int (-a))
  | _ => none
def eqD (a b : D) : Option D := if SeqAt.shaped a = true ∧ SeqAt.shaped b = true then some (.bool (PyData.eqv a b)) else none
def neD (a b : D) : Option D := if SeqAt.shaped a = true ∧ SeqAt.shaped b = true then some (.bool (!PyData.eqv a b)) else none
def lexLt : List Int → List Int → Bool
  | [], [] => false
  | [], _ :: _ => true
  | _ :: _, [] => false
  | x :: xs, y :: ys => if x = y then lexLt xs ys else decide (x < y)
def ltD : D → D → Option D
  | .int a, .int b => some (.bool (decide (a < b)))
  | .tuple a, .tuple b => (intsOf a).bind fun x => (intsOf b).map fun y => .bool (lexLt x y)
  | _, _ => none
def leD : D → D → Option D
  | .int a, .int b => some (.bool (decide (a ≤ b)))
  | .tuple a, .tuple b => (intsOf a).bind fun x => (intsOf b).map fun y => .bool (!lexLt y x)
  | _, _ => none
def gtD : D → D → Option D
  | .int a, .int b => some (.bool (decide (b < a)))
  | .tuple a, .tuple b => (intsOf a).bind fun x => (intsOf b).map fun y => .bool (lexLt y x)
  | _, _ => none
def geD : D → D → Option D
  | .int a, .int b => some (.bool (decide (b ≤ a)))
  | .tuple a, .tuple b => (intsOf a).bind fun x => (intsOf b).map fun y => .bool (!lexLt x y)
  | _, _ => none
@[simp] def isNoneD : D → Bool
  | .none => true
  | _ => false
def isD : D → D → Option D
  | a, .none => some (.bool (isNoneD a))
  | .bool a, .bool b => some (.bool (decide (a = b)))
  | _, _ => none
def inD : D → D → Option D
  | a, .list ds => if SeqAt.shaped a = true ∧ SeqAt.shaped (.list ds) = true then some (.bool (ds.any fun z => PyData.eqv z a)) else none
  | a, .tuple ds => if SeqAt.shaped a = true ∧ SeqAt.shaped (.tuple ds) = true then some (.bool (ds.any fun z => PyData.eqv z a)) else none
  | _, _ => none
def ninD (a b : D) : Option D := match inD a b with
  | some (.bool c) => some (.bool (!c))
  | _ => none
def ixD : D → D → Option D
  | .list ds, .int i => L2.atI ds i
  | .tuple ds, .int i => L2.atI ds i
  | .str z, .int i => if z.length ≤ sizeLine then (L2.atI z.cps.toList i).map fun c => .str ⟨#[c]⟩ else none
  | _, _ => none
def cutT {α : Type} (xs : List α) (lo hi : Option Int) : List α := (xs.drop (HT.sIx xs.length 0 lo)).take (HT.sIx xs.length xs.length hi - HT.sIx xs.length 0 lo)
def cutD (lo hi : Option Int) : D → Option D
  | .list ds => some (.list (cutT ds lo hi))
  | .tuple ds => some (.tuple (cutT ds lo hi))
  | _ => none
def lenD : D → Option D
  | .list ds => some (.int ds.length)
  | .tuple ds => some (.int ds.length)
  | .str z => if z.length ≤ sizeLine then some (.int z.length) else none
  | _ => none
def listD : D → Option D
  | .list ds => some (.list ds)
  | .tuple ds => some (.list ds)
  | _ => none
def tupleD : D → Option D
  | .list ds => some (.tuple ds)
  | .tuple ds => some (.tuple ds)
  | _ => none
def intD : D → Option D
  | .int i => some (.int i)
  | .bool b => some (.int (if b then 1 else 0))
  | _ => none
def allD : D → Option D
  | .list ds => (boolsOf ds).map fun bs => .bool (bs.all id)
  | _ => none
def anyD : D → Option D
  | .list ds => (boolsOf ds).map fun bs => .bool (bs.any id)
  | _ => none
inductive Ty where | int | bool | str | tuple | list | dict
def isTy : Ty → D → Bool
  | .int, .int _ => true
  | .int, .bool _ => true
  | .bool, .bool _ => true
  | .str, .str _ => true
  | .tuple, .tuple _ => true
  | .list, .list _ => true
  | _, _ => false
def isiD (t : Ty) : D → Option D
  | .dict _ => none
  | d => some (.bool (isTy t d))
def insB {α : Type} (lt : α → α → Bool) (x : α) : List α → List α
  | [] => [x]
  | y :: r => if lt y x = true then y :: insB lt x r else x :: y :: r
def isort {α : Type} (lt : α → α → Bool) : List α → List α
  | [] => []
  | x :: r => insB lt x (isort lt r)
def ltI (a b : Int) : Bool := decide (a < b)
def ltPr (p q : Int × Int) : Bool := if p.1 = q.1 then decide (p.2 < q.2) else decide (p.1 < q.1)
def prsOf : List D → Option (List (Int × Int))
  | [] => some []
  | .tuple [.int i, .int j] :: r => (prsOf r).map ((i, j) :: ·)
  | _ => none
def prD (p : Int × Int) : D := .tuple [.int p.1, .int p.2]
def sortL (ds : List D) : Option (List D) := match intsOf ds with
  | some ns => some ((isort ltI ns).map .int)
  | none => (prsOf ds).map fun ps => (isort ltPr ps).map prD
def sortedD : D → Option D
  | .list ds => (sortL ds).map .list
  | .tuple ds => (sortL ds).map .list
  | _ => none
@[simp] def eVar (i : Nat) : SE := fun env => env.getD i none
@[simp] def eC (d : D) : SE := fun _ => some d
@[simp] def e1 (op : D → Option D) (a : SE) : SE := fun env => (a env).bind op
@[simp] def e2 (op : D → D → Option D) (a b : SE) : SE := fun env => (a env).bind fun x => (b env).bind fun y => op x y
@[simp] def eIf (c : ST) (a b : SE) : SE := fun env => (c env).bind fun k => if k = true then a env else b env
@[simp] def eAnd (a b : SE) : SE := fun env => (a env).bind fun x => (toB x).bind fun k => if k = true then b env else some (.bool false)
@[simp] def eOr (a b : SE) : SE := fun env => (a env).bind fun x => (toB x).bind fun k => if k = true then some (.bool true) else b env
@[simp] def eNot (a : SE) : SE := fun env => (a env).bind fun x => (toB x).map fun k => .bool (!k)
@[simp] def eChain (o1 o2 : D → D → Option D) (a b c : SE) : SE := fun env => (a env).bind fun x => (b env).bind fun y => (o1 x y).bind fun z => (toB z).bind fun k =>
  if k = true then (c env).bind fun w => o2 y w else some (.bool false)
@[simp] def eArgs : List SE → SI
  | [] => fun _ => some []
  | a :: r => fun env => (a env).bind fun x => (eArgs r env).map (x :: ·)
@[simp] def eTup (l : List SE) : SE := fun env => (eArgs l env).bind fun ds => if ds.length ≤ sizeLine then some (.tuple ds) else none
@[simp] def eLst (l : List SE) : SE := fun env => (eArgs l env).bind fun ds => if ds.length ≤ sizeLine then some (.list ds) else none
@[simp] def eCall (m : List D → Option D) (l : List SE) : SE := fun env => (eArgs l env).bind m
@[simp] def ePart : Option SE → Env → Option (Option Int)
  | none, _ => some none
  | some a, env => (a env).bind fun x => (toI x).map some
@[simp] def eSlice (a : SE) (lo hi : Option SE) : SE := fun env => (a env).bind fun x => (ePart lo env).bind fun l => (ePart hi env).bind fun h => cutD l h x
@[simp] def itemsD : D → Option (List D)
  | .list ds => some ds
  | .tuple ds => some ds
  | _ => none
@[simp] def iSeq (a : SE) : SI := fun env => (a env).bind itemsD
def rangeL (lo : Int) : Nat → List D
  | 0 => []
  | n + 1 => .int lo :: rangeL (lo + 1) n
def rangeD (lo hi : Int) : Option (List D) := if okRng lo hi = true then some (rangeL lo (hi - lo).toNat) else none
@[simp] def iRng1 (a : SE) : SI := fun env => (a env).bind fun x => (toI x).bind fun n => rangeD 0 n
@[simp] def iRng2 (a b : SE) : SI := fun env => (a env).bind fun x => (b env).bind fun y => (toI x).bind fun n => (toI y).bind fun m => rangeD n m
@[simp] def gName (i : Nat) : SG := fun d env => some (env.set i (some d))
@[simp] def gAll : List SG → List D → Env → Option Env
  | [], [], env => some env
  | g :: gs, d :: ds, env => (g d env).bind fun e => gAll gs ds e
  | _, _, _ => none
@[simp] def gTup (gs : List SG) : SG := fun d env => match d with
  | .tuple ds => gAll gs ds env
  | _ => none
@[simp] def wipeE (env : Env) : List Nat → Env
  | [] => env
  | i :: r => (wipeE env r).set i none
@[simp] def cYes : ST := fun _ => some true
def lcGo (g : SG) (c : ST) (e : SE) (env : Env) : List D → Option (List D)
  | [] => some []
  | x :: xs => (g x env).bind fun env1 => (c env1).bind fun k =>
    if k = true then (e env1).bind fun y => (lcGo g c e env xs).map (y :: ·) else lcGo g c e env xs
@[simp] def eLc (vs : List Nat) (it : SI) (g : SG) (c : ST) (e : SE) : SE := fun env => (it env).bind fun ds => (lcGo g c e (wipeE env vs) ds).map .list
def lcGo2 (g : SG) (c : ST) (it1 : SI) (vs1 : List Nat) (g1 : SG) (c1 : ST) (e : SE) (env : Env) : List D → Option (List D)
  | [] => some []
  | x :: xs => (g x env).bind fun env1 => (c env1).bind fun k =>
    if k = true then (it1 env1).bind fun ds => (lcGo g1 c1 e (wipeE env1 vs1) ds).bind fun a => (lcGo2 g c it1 vs1 g1 c1 e env xs).map (a ++ ·) else lcGo2 g c it1 vs1 g1 c1 e env xs
@[simp] def eLc2 (vs : List Nat) (it : SI) (g : SG) (c : ST) (vs1 : List Nat) (it1 : SI) (g1 : SG) (c1 : ST) (e : SE) : SE := fun env => (it env).bind fun ds => (lcGo2 g c it1 vs1 g1 c1 e (wipeE env vs) ds).bind fun r =>
  if r.length ≤ sizeLine then some (.list r) else none
@[simp] def tV (a : SE) : ST := fun env => (a env).bind toB
@[simp] def tAnd (a b : ST) : ST := fun env => (a env).bind fun k => if k = true then b env else some false
@[simp] def tOr (a b : ST) : ST := fun env => (a env).bind fun k => if k = true then some true else b env
@[simp] def tNot (a : ST) : ST := fun env => (a env).map (!·)
@[simp] def sNext : SS := fun env => some (.nx env)
@[simp] def sSeq (a b : SS) : SS := fun env => (a env).bind fun o => match o with
  | .nx e => b e
  | .rt d => some (.rt d)
  | .bk e => some (.bk e)
  | .ct e => some (.ct e)
@[simp] def sBreak : SS := fun env => some (.bk env)
@[simp] def sCont : SS := fun env => some (.ct env)
@[simp] def sRet (a : SE) : SS := fun env => (a env).map .rt
@[simp] def sIf (c : ST) (a b : SS) : SS := fun env => (c env).bind fun k => if k = true then a env else b env
@[simp] def sAsg (a : SE) (g : SG) : SS := fun env => (a env).bind fun d => (g d env).map .nx
@[simp] def sDrop (a : SE) : SS := fun env => (a env).map fun _ => .nx env
@[simp] def sPar (i j : Nat) (a b : SE) : SS := fun env => (a env).bind fun x => (b env).map fun y => .nx ((env.set i (some x)).set j (some y))
@[simp] def sAug (op : D → D → Option D) (i : Nat) (a : SE) : SS := fun env => (env.getD i none).bind fun x => (a env).bind fun y => (op x y).map fun z => .nx (env.set i (some z))
@[simp] def sApp (i : Nat) (a : SE) : SS := fun env => (a env).bind fun y => match env.getD i none with
  | some (.list ds) => if ds.length < sizeLine then some (.nx (env.set i (some (.list (ds ++ [y]))))) else none
  | _ => none
@[simp] def sExt (i : Nat) (a : SE) : SS := fun env => (a env).bind fun y => match env.getD i none, y with
  | some (.list ds), .list es => if ds.length + es.length ≤ sizeLine then some (.nx (env.set i (some (.list (ds ++ es))))) else none
  | _, _ => none
def forGo (g : SG) (body : SS) : List D → Env → Option Out
  | [], env => some (.nx env)
  | x :: xs, env => (g x env).bind fun env1 => (body env1).bind fun o => match o with
    | .nx e => forGo g body xs e
    | .ct e => forGo g body xs e
    | .bk e => some (.nx e)
    | .rt d => some (.rt d)
@[simp] def sFor (it : SI) (g : SG) (body : SS) : SS := fun env => (it env).bind fun ds => forGo g body ds env
def whileGo (c : ST) (body : SS) : Nat → Env → Option Out
  | 0, _ => none
  | n + 1, env => (c env).bind fun k => if k = true then (body env).bind fun o => match o with
    | .nx e => whileGo c body n e
    | .ct e => whileGo c body n e
    | .bk e => some (.nx e)
    | .rt d => some (.rt d) else some (.nx env)
@[simp] def sWhile (fuel : Nat) (c : ST) (body : SS) : SS := whileGo c body fuel
@[simp] def outD : Out → Option D
  | .rt d => some d
  | .nx _ => some .none
  | _ => none
def nnD (o : Option D) : Option D := o.bind fun d => match d with | .none => none | d => some d
def runF (np nl : Nat) (body : SS) (ds : List D) : Option D :=
  if ds.length = np then (body (ds.map some ++ List.replicate nl none)).bind outD else none
end TL

set_option Elab.async false
set_option linter.all false
set_option maxRecDepth 100000
namespace TL
open PySem
theorem mul_l {a b : Int} (h1 : -(2 ^ 64) < a) (h2 : a < 2 ^ 64) : mulD (.int a) (.int b) = some (.int (a * b)) := by
  have h : okMul a b = true := by
    simp only [okMul, Bool.or_eq_true, Nat.blt_eq]
    exact .inl (by omega)
  simp only [mulD, h, if_true]
theorem mul_r {a b : Int} (h1 : -(2 ^ 64) < b) (h2 : b < 2 ^ 64) : mulD (.int a) (.int b) = some (.int (a * b)) := by
  have h : okMul a b = true := by
    simp only [okMul, Bool.or_eq_true, Nat.blt_eq]
    exact .inr (by omega)
  simp only [mulD, h, if_true]
theorem pow_18 : powD (.int 10) (.int 18) = some (.int 1000000000000000000) := by kernel_rfl
theorem mod_n {a b : Int} (h : 0 < b) : modD (.int a) (.int b) = some (.int (a % b)) := by
  show (if 0 < b then _ else _) = _
  rw [if_pos h]
theorem fdiv_n {a b : Int} (h : 0 < b) (h2 : b < 1073741824) : fdivD (.int a) (.int b) = some (.int (a / b)) := by
  have h : okDiv b = true := by
    simp only [okDiv, Bool.and_eq_true, Nat.ble_eq]
    exact ⟨by omega, by omega⟩
  simp only [fdivD, h, if_true]
@[simp] theorem add_i (a b : Int) : addD (.int a) (.int b) = some (.int (a + b)) := rfl
@[simp] theorem sub_i (a b : Int) : subD (.int a) (.int b) = some (.int (a - b)) := rfl
@[simp] theorem lt_i (a b : Int) : ltD (.int a) (.int b) = some (.bool (decide (a < b))) := rfl
@[simp] theorem le_i (a b : Int) : leD (.int a) (.int b) = some (.bool (decide (a ≤ b))) := rfl
@[simp] theorem gt_i (a b : Int) : gtD (.int a) (.int b) = some (.bool (decide (b < a))) := rfl
@[simp] theorem ge_i (a b : Int) : geD (.int a) (.int b) = some (.bool (decide (b ≤ a))) := rfl
@[simp] theorem int_i (a : Int) : intD (.int a) = some (.int a) := rfl
@[simp] theorem len_l (ds : List D) : lenD (.list ds) = some (.int ds.length) := rfl
@[simp] theorem len_t (ds : List D) : lenD (.tuple ds) = some (.int ds.length) := rfl
@[simp] theorem tuple_l (ds : List D) : tupleD (.list ds) = some (.tuple ds) := rfl
@[simp] theorem tuple_t (ds : List D) : tupleD (.tuple ds) = some (.tuple ds) := rfl
@[simp] theorem list_l (ds : List D) : listD (.list ds) = some (.list ds) := rfl
@[simp] theorem list_t (ds : List D) : listD (.tuple ds) = some (.list ds) := rfl
theorem shaped_int (i : Int) : SeqAt.shaped (.int i) = true := by simp [SeqAt.shaped, PyData.canLay0, PyData.depth]
@[simp] theorem eq_i (a b : Int) : eqD (.int a) (.int b) = some (.bool (decide (a = b))) := by
  unfold eqD
  rw [if_pos ⟨shaped_int a, shaped_int b⟩]
  simp [PyData.eqv]
  by_cases h : a = b <;> simp [h]
@[simp] theorem ne_i (a b : Int) : neD (.int a) (.int b) = some (.bool (!decide (a = b))) := by
  unfold neD
  rw [if_pos ⟨shaped_int a, shaped_int b⟩]
  simp [PyData.eqv]
  by_cases h : a = b <;> simp [h]
@[simp] theorem is_b (a b : Bool) : isD (.bool a) (.bool b) = some (.bool (decide (a = b))) := rfl
@[simp] theorem is_n (a : D) : isD a .none = some (.bool (isNoneD a)) := by cases a <;> rfl
theorem small {n : Nat} (h : n ≤ 1000000) : n ≤ sizeLine := Nat.le_trans h (by decide)
theorem small' {n : Nat} (h : n ≤ 1000000) : n < sizeLine := Nat.lt_of_le_of_lt h (by decide)
theorem rng_n {lo hi : Int} (h1 : -1000000 ≤ lo) (h2 : lo ≤ 1000000) (h3 : -1000000 ≤ hi) (h4 : hi ≤ 1000000) : rangeD lo hi = some (rangeL lo (hi - lo).toNat) := by
  have h : okRng lo hi = true := by
    simp only [okRng, Bool.and_eq_true, Nat.ble_eq]
    exact ⟨⟨by omega, by omega⟩, Nat.le_trans (m := 2000000) (by omega) (by decide)⟩
  simp only [rangeD, h, if_true]
theorem ix_l {ds : List D} {i : Nat} {d : D} (h : ds[i]? = some d) : ixD (.list ds) (.int i) = some d := L2.atI_nat h
theorem ix_t {ds : List D} {i : Nat} {d : D} (h : ds[i]? = some d) : ixD (.tuple ds) (.int i) = some d := L2.atI_nat h
theorem ix_li {ds : List D} {i : Int} {d : D} (h0 : 0 ≤ i) (h : ds[i.toNat]? = some d) : ixD (.list ds) (.int i) = some d := by
  have := ix_l h
  rwa [Int.toNat_of_nonneg h0] at this
theorem ix_ti {ds : List D} {i : Int} {d : D} (h0 : 0 ≤ i) (h : ds[i.toNat]? = some d) : ixD (.tuple ds) (.int i) = some d := by
  have := ix_t h
  rwa [Int.toNat_of_nonneg h0] at this
theorem cat_t {a b : List D} (h : a.length + b.length ≤ sizeLine) : addD (.tuple a) (.tuple b) = some (.tuple (a ++ b)) := by
  show (if _ then _ else _) = _
  rw [if_pos h]
theorem cat_l {a b : List D} (h : a.length + b.length ≤ sizeLine) : addD (.list a) (.list b) = some (.list (a ++ b)) := by
  show (if _ then _ else _) = _
  rw [if_pos h]
theorem for_inv {g : SG} {body : SS} (I : Nat → Env → Prop) : ∀ (xs : List D) (i : Nat) (env : Env), I i env →
    (∀ j x env, xs[j]? = some x → I (i + j) env → ∃ e1, g x env = some e1 ∧ ∃ e2, (body e1 = some (.nx e2) ∨ body e1 = some (.ct e2)) ∧ I (i + j + 1) e2) → ∃ e, forGo g body xs env = some (.nx e) ∧ I (i + xs.length) e
  | [], i, env, h, _ => ⟨env, rfl, h⟩
  | x :: xs, i, env, h, step => by
    obtain ⟨e1, h1, e2, h2, h3⟩ := step 0 x env rfl h
    obtain ⟨e, h4, h5⟩ := for_inv I xs (i + 1) e2 h3 fun j y env' hy hI => by
      have := step (j + 1) y env' hy (by rw [show i + (j + 1) = i + 1 + j by omega]; exact hI)
      rwa [show i + (j + 1) + 1 = i + 1 + j + 1 by omega] at this
    refine ⟨e, ?_, by rw [show i + (x :: xs).length = i + 1 + xs.length by simp only [List.length_cons]; omega]; exact h5⟩
    simp only [forGo, h1, Option.bind_some]
    rcases h2 with h2 | h2 <;> (rw [h2]; exact h4)
theorem for_rng {g : SG} {body : SS} (I : Nat → Env → Prop) {lo : Int} {n : Nat} {env : Env} (h0 : I 0 env)
    (step : ∀ j env, j < n → I j env → ∃ e1, g (.int (lo + j)) env = some e1 ∧ ∃ e2, (body e1 = some (.nx e2) ∨ body e1 = some (.ct e2)) ∧ I (j + 1) e2) : ∃ e, forGo g body (rangeL lo n) env = some (.nx e) ∧ I n e := by
  have len : ∀ (lo : Int) n, (rangeL lo n).length = n := fun lo n => by
    induction n generalizing lo with
    | zero => rfl
    | succ n ih => exact congrArg (· + 1) (ih (lo + 1))
  have get : ∀ (n : Nat) (lo : Int) (j : Nat) x, (rangeL lo n)[j]? = some x → j < n ∧ x = .int (lo + j) := by
    intro n
    induction n with
    | zero => intro lo j x h; simp [rangeL] at h
    | succ n ih =>
      intro lo j x h
      cases j with
      | zero => simp [rangeL] at h; exact ⟨by omega, by rw [← h]; simp⟩
      | succ j =>
        obtain ⟨h1, h2⟩ := ih (lo + 1) j x h
        exact ⟨by omega, by rw [h2]; congr 1; omega⟩
  obtain ⟨e, h1, h2⟩ := for_inv I (rangeL lo n) 0 env h0 fun j x env hx hI => by
    obtain ⟨h3, h4⟩ := get n lo j x hx
    subst h4
    rw [Nat.zero_add] at hI ⊢
    exact step j env h3 hI
  rw [len, Nat.zero_add] at h2
  exact ⟨e, h1, h2⟩
section
variable {α : Type} {lt : α → α → Bool}
theorem insB_perm (x : α) : ∀ l : List α, (insB lt x l).Perm (x :: l)
  | [] => List.Perm.refl _
  | y :: r => by
    unfold insB
    split
    · exact ((insB_perm x r).cons y).trans (List.Perm.swap x y r)
    · exact List.Perm.refl _
theorem isort_perm : ∀ l : List α, (isort lt l).Perm l
  | [] => List.Perm.refl _
  | x :: r => (insB_perm x (isort lt r)).trans ((isort_perm r).cons x)
abbrev Asc (lt : α → α → Bool) (l : List α) : Prop := l.Pairwise fun a b => lt b a = false
theorem insB_asc (O : SrtO.Swo lt) (x : α) : ∀ l : List α, Asc lt l → Asc lt (insB lt x l)
  | [], _ => List.pairwise_singleton _ _
  | y :: r, h => by
    have hy := List.pairwise_cons.mp h
    unfold insB
    split
    · rename_i hlt
      refine List.pairwise_cons.mpr ⟨fun z hz => ?_, insB_asc O x r hy.2⟩
      rcases List.mem_cons.mp ((insB_perm x r).mem_iff.mp hz) with e | hz
      · rw [e]
        exact O.asym y x hlt
      · exact hy.1 z hz
    · rename_i hlt
      exact List.pairwise_cons.mpr ⟨fun z hz => by
        rcases List.mem_cons.mp hz with e | hz
        · rw [e]; exact Bool.eq_false_iff.mpr hlt
        · exact O.tr x y z (Bool.eq_false_iff.mpr hlt) (hy.1 z hz), h⟩
theorem isort_asc (O : SrtO.Swo lt) : ∀ l : List α, Asc lt (isort lt l)
  | [] => List.Pairwise.nil
  | x :: r => insB_asc O x _ (isort_asc O r)
theorem asc_uniq (anti : ∀ x y, lt x y = false → lt y x = false → x = y) : ∀ {l m : List α}, l.Perm m → Asc lt l → Asc lt m → l = m
  | [], m, p, _, _ => (List.Perm.eq_nil p.symm).symm
  | x :: l, [], p, _, _ => absurd p.length_eq (by simp)
  | x :: l, y :: m, p, hl, hm => by
    have h1 := List.pairwise_cons.mp hl
    have h2 := List.pairwise_cons.mp hm
    have e : x = y := by
      rcases List.mem_cons.mp (p.mem_iff.mp (List.mem_cons_self (a := x) (l := l))) with e | hx
      · exact e
      · rcases List.mem_cons.mp (p.mem_iff.mpr (List.mem_cons_self (a := y) (l := m))) with e | hy
        · exact e.symm
        · exact anti x y (h2.1 x hx) (h1.1 y hy)
    subst e
    rw [asc_uniq anti p.cons_inv h1.2 h2.2]
end
theorem swoI : SrtO.Swo ltI := ⟨fun x y h => by
  have h' := of_decide_eq_true h
  exact decide_eq_false (by omega), fun x y z h1 h2 => by
  have a := of_decide_eq_false h1
  have b := of_decide_eq_false h2
  exact decide_eq_false (by omega)⟩
theorem antiI (x y : Int) (h1 : ltI x y = false) (h2 : ltI y x = false) : x = y := by
  have a := of_decide_eq_false h1
  have b := of_decide_eq_false h2
  omega
theorem swoP : SrtO.Swo ltPr := by
  refine ⟨fun x y h => ?_, fun x y z h1 h2 => ?_⟩
  · have a := SrtO.lexB_iff.mp h
    refine SrtO.lexB_no.mpr ?_
    omega
  · have a := SrtO.lexB_no.mp h1
    have b := SrtO.lexB_no.mp h2
    refine SrtO.lexB_no.mpr ?_
    omega
theorem antiP (p q : Int × Int) (h1 : ltPr p q = false) (h2 : ltPr q p = false) : p = q := by
  have a := SrtO.lexB_no.mp h1
  have b := SrtO.lexB_no.mp h2
  have e1 : p.1 = q.1 := by omega
  have e2 : p.2 = q.2 := by omega
  exact Prod.ext e1 e2
theorem isort_lt {α : Type} {lt : α → α → Bool} (O : SrtO.Swo lt) (anti : ∀ x y, lt x y = false → lt y x = false → x = y) {l : List α} (hn : l.Nodup) : (isort lt l).Pairwise fun a b => lt a b = true := by
  have h1 := isort_asc O l
  have h2 : (isort lt l).Nodup := (isort_perm l).symm.nodup hn
  have := h1.and h2
  refine this.imp fun {a b} h => ?_
  cases q : lt a b with
  | true => rfl
  | false => exact absurd (anti a b q h.1) h.2
theorem ints_of (ns : List Int) : intsOf (ns.map .int) = some ns := by
  induction ns with
  | nil => rfl
  | cons n r ih => simp only [List.map_cons, intsOf, ih, Option.map_some]
theorem sorted_prs (ps : List (Int × Int)) : sortedD (.list (ps.map prD)) = some (.list ((isort ltPr ps).map prD)) := by
  have h : ∀ ps : List (Int × Int), prsOf (ps.map prD) = some ps := by
    intro ps
    induction ps with
    | nil => rfl
    | cons n r ih => simp only [List.map_cons, prD, prsOf, ih, Option.map_some]
  cases ps with
  | nil => rfl
  | cons p r =>
    have e : intsOf ((p :: r).map prD) = none := rfl
    simp only [sortedD, sortL, e, h, Option.map_some]
def rangeI (lo : Int) (n : Nat) : List Int := (List.range n).map fun (i : Nat) => lo + (i : Int)
theorem rangeL_eq : ∀ (n : Nat) (lo : Int), rangeL lo n = (rangeI lo n).map .int
  | 0, lo => rfl
  | n + 1, lo => by
    show PyData.int lo :: rangeL (lo + 1) n = _
    rw [rangeL_eq n (lo + 1)]
    unfold rangeI
    rw [List.range_succ_eq_map]
    simp only [List.map_cons, List.map_map]
    congr 1
    · simp
    · refine List.map_congr_left fun i _ => ?_
      simp only [Function.comp]
      congr 1
      omega
theorem rangeI_mem {lo a : Int} {n : Nat} : a ∈ rangeI lo n ↔ lo ≤ a ∧ a < lo + n := by
  unfold rangeI
  rw [List.mem_map]
  constructor
  · rintro ⟨i, hi, rfl⟩
    have := List.mem_range.mp hi
    omega
  · rintro ⟨h1, h2⟩
    exact ⟨(a - lo).toNat, List.mem_range.mpr (by omega), by omega⟩
theorem rangeI_asc (lo : Int) (n : Nat) : (rangeI lo n).Pairwise (· < ·) := by
  unfold rangeI
  refine List.pairwise_map.mpr (List.pairwise_lt_range.imp fun {a b} h => ?_)
  omega
theorem rangeI_len (lo : Int) (n : Nat) : (rangeI lo n).length = n := by
  unfold rangeI
  rw [List.length_map, List.length_range]
theorem rangeI_get {lo : Int} {n i : Nat} (h : i < n) : (rangeI lo n)[i]? = some (lo + i) := by
  unfold rangeI
  rw [List.getElem?_map, List.getElem?_range h]
  rfl
theorem rng_0 {n : Int} (h0 : 0 ≤ n) (h : n ≤ 1000000) : rangeD 0 n = some ((rangeI 0 n.toNat).map .int) := by
  rw [rng_n (by decide) (by decide) (by omega) h, rangeL_eq]
  simp
theorem lc_typed {α β : Type} {g : SG} {c : ST} {e : SE} {env : Env} (ι : α → D) (κ : β → D) (G : α → Option β) : ∀ {zs : List α},
    (∀ a ∈ zs, ∃ env1, g (ι a) env = some env1 ∧ ((∃ b, G a = some b ∧ c env1 = some true ∧ e env1 = some (κ b)) ∨ (G a = none ∧ c env1 = some false))) → lcGo g c e env (zs.map ι) = some ((zs.filterMap G).map κ)
  | [], _ => rfl
  | a :: zs, h => by
    obtain ⟨env1, h1, h2⟩ := h a List.mem_cons_self
    have ih := lc_typed ι κ G (zs := zs) fun b hb => h b (List.mem_cons_of_mem _ hb)
    simp only [List.map_cons, lcGo, h1, Option.bind_some]
    rcases h2 with ⟨b, h3, h4, h5⟩ | ⟨h3, h4⟩
    · simp [h4, h5, ih, List.filterMap_cons, h3]
    · simp [h4, ih, List.filterMap_cons, h3]
theorem lc_map {α β : Type} {g : SG} {e : SE} {env : Env} (ι : α → D) (κ : β → D) (G : α → β) {zs : List α}
    (h : ∀ a ∈ zs, ∃ env1, g (ι a) env = some env1 ∧ e env1 = some (κ (G a))) : lcGo g cYes e env (zs.map ι) = some ((zs.map G).map κ) := by
  rw [lc_typed ι κ (fun a => some (G a)) fun a ha => by
    obtain ⟨env1, h1, h2⟩ := h a ha
    exact ⟨env1, h1, .inl ⟨G a, rfl, rfl, h2⟩⟩]
  congr 2
  exact List.filterMap_eq_map ▸ rfl
theorem lc_filter {α β : Type} {g : SG} {c : ST} {e : SE} {env : Env} (ι : α → D) (κ : β → D) (p : α → Bool) (G : α → β) {zs : List α}
    (h : ∀ a ∈ zs, ∃ env1, g (ι a) env = some env1 ∧ c env1 = some (p a) ∧ (p a = true → e env1 = some (κ (G a)))) : lcGo g c e env (zs.map ι) = some (((zs.filter p).map G).map κ) := by
  rw [lc_typed ι κ (fun a => if p a = true then some (G a) else none) fun a ha => by
    obtain ⟨env1, h1, h2, h3⟩ := h a ha
    refine ⟨env1, h1, ?_⟩
    cases q : p a with
    | true => exact .inl ⟨G a, by simp, by rw [h2, q], h3 q⟩
    | false => exact .inr ⟨by simp, by rw [h2, q]⟩]
  congr 2
  induction zs with
  | nil => rfl
  | cons a zs ih =>
    have ih := ih fun b hb => h b (List.mem_cons_of_mem _ hb)
    cases q : p a <;> simp [q, ih]
theorem ix_ints {rs : List Int} {i : Int} (h0 : 0 ≤ i) (h : i < rs.length) : ixD (.list (rs.map .int)) (.int i) = some (.int (rs.getD i.toNat 0)) := by
  refine ix_li h0 ?_
  have h' : i.toNat < rs.length := by omega
  rw [List.getElem?_map, List.getD_eq_getElem?_getD, List.getElem?_eq_getElem h']
  rfl
theorem getD_mem {rs : List Int} {i : Nat} (h : i < rs.length) : rs.getD i 0 ∈ rs := by
  rw [List.getD_eq_getElem?_getD, List.getElem?_eq_getElem h]
  exact List.getElem_mem h
theorem seq_go {a b : SS} {env e : Env} {r : Option Out} (h1 : a env = some (.nx e)) (h2 : b e = r) : sSeq a b env = r := by
  simp only [sSeq, h1, Option.bind_some]
  exact h2
theorem seq_rt {a b : SS} {env : Env} {d : D} (h1 : a env = some (.rt d)) : sSeq a b env = some (.rt d) := by
  simp only [sSeq, h1, Option.bind_some]
theorem run_rt {np nl : Nat} {body : SS} {ds : List D} {d : D} (hl : ds.length = np) (h : body (ds.map some ++ List.replicate nl none) = some (.rt d)) : runF np nl body ds = some d := by
  simp only [runF, hl, if_true, h, Option.bind_some, outD]
theorem if_t {c : ST} {a b : SS} {env : Env} {r : Option Out} (h1 : c env = some true) (h2 : a env = r) : sIf c a b env = r := by
  simp only [sIf, h1, Option.bind_some, if_true]
  exact h2
theorem if_f {c : ST} {a b : SS} {env : Env} {r : Option Out} (h1 : c env = some false) (h2 : b env = r) : sIf c a b env = r := by
  simp only [sIf, h1, Option.bind_some, Bool.false_eq_true, if_false]
  exact h2
theorem for_go {it : SI} {g : SG} {b : SS} {env : Env} {ds : List D} {r : Option Out} (h1 : it env = some ds) (h2 : forGo g b ds env = r) : sFor it g b env = r := by
  simp only [sFor, h1, Option.bind_some]
  exact h2
theorem lc_go {vs : List Nat} {it : SI} {g : SG} {c : ST} {e : SE} {env : Env} {ds rs : List D} (h1 : it env = some ds) (h2 : lcGo g c e (wipeE env vs) ds = some rs) : eLc vs it g c e env = some (.list rs) := by
  simp only [eLc, h1, Option.bind_some, h2, Option.map_some]
theorem asg_go {a : SE} {i : Nat} {env : Env} {d : D} (h : a env = some d) : sAsg a (TL.gName i) env = some (.nx (env.set i (some d))) := by
  simp only [sAsg, h, Option.bind_some, TL.gName, Option.map_some]
theorem e2_go {op : D → D → Option D} {a b : SE} {env : Env} {x y : D} {r : Option D} (h1 : a env = some x) (h2 : b env = some y) (h3 : op x y = r) : e2 op a b env = r := by
  simp only [e2, h1, h2, Option.bind_some]
  exact h3
theorem e1_go {op : D → Option D} {a : SE} {env : Env} {x : D} {r : Option D} (h1 : a env = some x) (h3 : op x = r) : e1 op a env = r := by
  simp only [e1, h1, Option.bind_some]
  exact h3
theorem ret_go {a : SE} {env : Env} {d : D} (h : a env = some d) : sRet a env = some (.rt d) := by
  simp only [sRet, h, Option.map_some]
theorem for_range {g : SG} {body : SS} (I : Int → Env → Prop) {lo : Int} {n : Nat} {env : Env} (h0 : I lo env)
    (step : ∀ a env, lo ≤ a → a < lo + n → I a env → ∃ e1, g (.int a) env = some e1 ∧ ∃ e2, (body e1 = some (.nx e2) ∨ body e1 = some (.ct e2)) ∧ I (a + 1) e2) : ∃ e, forGo g body ((rangeI lo n).map .int) env = some (.nx e) ∧ I (lo + n) e := by
  rw [← rangeL_eq]
  refine for_rng (fun j env => I (lo + j) env) (by simpa using h0) fun j env hj hI => ?_
  obtain ⟨e1, h1, e2, h2, h3⟩ := step (lo + j) env (by omega) (by omega) hI
  refine ⟨e1, h1, e2, h2, ?_⟩
  have : lo + (j : Int) + 1 = lo + ((j + 1 : Nat) : Int) := by omega
  rw [← this]
  exact h3
theorem shaped_of {d : D} (h1 : PyData.canLay0 d = true) (h2 : d.depth ≤ 64) : SeqAt.shaped d = true := by
  unfold SeqAt.shaped
  rw [h1, decide_eq_true h2]
  rfl
theorem lay_ints : ∀ l : List Int, PyData.canLayAll0 (l.map .int) = true
  | [] => by simp [PyData.canLayAll0]
  | i :: r => by simp [PyData.canLayAll0, PyData.canLay0, lay_ints r]
theorem dep_ints : ∀ l : List Int, PyData.depthAll (l.map .int) = 0
  | [] => by simp [PyData.depthAll]
  | i :: r => by simp [PyData.depthAll, PyData.depth, dep_ints r]
theorem lay_pr (p : Int × Int) : PyData.canLay0 (prD p) = true := by simp [prD, PyData.canLay0, PyData.canLayAll0]
theorem dep_pr (p : Int × Int) : (prD p).depth = 1 := by simp [prD, PyData.depth, PyData.depthAll]
theorem lay_prs : ∀ l : List (Int × Int), PyData.canLayAll0 (l.map prD) = true
  | [] => by simp [PyData.canLayAll0]
  | p :: r => by simp [PyData.canLayAll0, lay_pr p, lay_prs r]
theorem dep_prs : ∀ l : List (Int × Int), PyData.depthAll (l.map prD) ≤ 1
  | [] => by simp [PyData.depthAll]
  | p :: r => by
    have h := dep_prs r
    simp only [List.map_cons, PyData.depthAll, dep_pr p]
    omega
theorem shaped_pr (p : Int × Int) : SeqAt.shaped (prD p) = true := shaped_of (lay_pr p) (by rw [dep_pr]; decide)
theorem shaped_ti (l : List Int) : SeqAt.shaped (.tuple (l.map .int)) = true := shaped_of (by simp [PyData.canLay0, lay_ints l]) (by simp [PyData.depth, dep_ints l])
theorem shaped_lp (l : List (Int × Int)) : SeqAt.shaped (.list (l.map prD)) = true := shaped_of (by simp [PyData.canLay0, lay_prs l]) (by
  have := dep_prs l
  simp only [PyData.depth]
  omega)
theorem shaped_tp (l : List (Int × Int)) : SeqAt.shaped (.tuple (l.map prD)) = true := shaped_of (by simp [PyData.canLay0, lay_prs l]) (by
  have := dep_prs l
  simp only [PyData.depth]
  omega)
theorem eqv_int (a b : Int) : PyData.eqv (.int a) (.int b) = decide (a = b) := by
  simp [PyData.eqv]
  by_cases h : a = b <;> simp [h]
theorem eqv_pr (p q : Int × Int) : PyData.eqv (prD p) (prD q) = decide (p = q) := by
  obtain ⟨a, b⟩ := p
  obtain ⟨c, d⟩ := q
  simp only [prD, PyData.eqv, PyData.eqvAll, Bool.and_true]
  by_cases h : a = c <;> by_cases h2 : b = d <;> simp [h, h2]
theorem any_ints (i : Int) : ∀ l : List Int, ((l.map PyData.int).any fun z => PyData.eqv z (.int i)) = decide (i ∈ l)
  | [] => by simp
  | a :: r => by
    simp only [List.map_cons, List.any_cons, any_ints i r, eqv_int]
    by_cases h : a = i
    · simp [h]
    · have h' : ¬ i = a := fun e => h e.symm
      simp [h, h']
theorem any_prs (p : Int × Int) : ∀ l : List (Int × Int), ((l.map prD).any fun z => PyData.eqv z (prD p)) = decide (p ∈ l)
  | [] => by simp
  | a :: r => by
    simp only [List.map_cons, List.any_cons, any_prs p r, eqv_pr]
    by_cases h : a = p
    · simp [h]
    · have h' : ¬ p = a := fun e => h e.symm
      simp [h, h']
theorem in_ti (i : Int) (l : List Int) : inD (.int i) (.tuple (l.map .int)) = some (.bool (decide (i ∈ l))) := by
  simp only [inD, shaped_int, shaped_ti, and_self, if_true, any_ints]
theorem in_lp (p : Int × Int) (l : List (Int × Int)) : inD (prD p) (.list (l.map prD)) = some (.bool (decide (p ∈ l))) := by
  simp only [inD, shaped_pr, shaped_lp, and_self, if_true, any_prs]
theorem in_tp (p : Int × Int) (l : List (Int × Int)) : inD (prD p) (.tuple (l.map prD)) = some (.bool (decide (p ∈ l))) := by
  simp only [inD, shaped_pr, shaped_tp, and_self, if_true, any_prs]
theorem nin_of {a b : D} {k : Bool} (h : inD a b = some (.bool k)) : ninD a b = some (.bool (!k)) := by
  simp only [ninD, h]
theorem for_cons {g : SG} {body : SS} {x : D} {xs : List D} {env e1 e2 : Env} {r : Option Out} (h1 : g x env = some e1) (h2 : body e1 = some (.nx e2)) (h3 : forGo g body xs e2 = r) : forGo g body (x :: xs) env = r := by
  simp only [forGo, h1, Option.bind_some, h2]
  exact h3
theorem tup1_go {a : SE} {env : Env} {d : D} (h : a env = some d) : eTup [a] env = some (.tuple [d]) := by
  simp only [eTup, eArgs, h, Option.bind_some, Option.map_some, List.length_cons, List.length_nil]
  rw [if_pos (small (by decide))]
end TL

set_option Elab.async false
set_option linter.all false
set_option maxRecDepth 100000
namespace TL
open PySem PySem.Spec PyProof.Rows L2
structure Gx where
  K : PySem.W.Frag
  mg : Str → Option Value
  P : Program
  w : World
abbrev gx (X : Cx) : Gx := ⟨X.K, X.mg, X.prog, X.w⟩
mutual
def keyD : D → Option NestedKey
  | .none => some .none
  | .bool b => some (.num (if b = true then 1 else 0))
  | .int i => some (.num i)
  | .str x => some (.text x)
  | .tuple ds => (keyAll ds).map .tup
  | .list _ => none
  | .dict _ => none
def keyAll : List D → Option (List NestedKey)
  | [] => some []
  | d :: r => (keyD d).bind fun k => (keyAll r).map (k :: ·)
end
abbrev KEnt := NestedKey × Addr × V
abbrev KEnt' := NestedKey × Addr × Value
abbrev KRel : KEnt → KEnt' → Prop := fun x u => x.1 = u.1 ∧ x.2.1 = u.2.1 ∧ RelV x.2.2 u.2.2
def rawO (P : Program) (w : World) (r : Addr) (xs : List KEnt) : HO := .ext fun h => ∃ o es ep us, h.get? r = some o ∧ o.ExactDict ∧ o.data = .dict es ep ∧ es.toList = us.map (entryOfKey (nestedKind P w)) ∧ Paired KRel xs us
def atV (xs : List KEnt) (k : NestedKey) : Option V := (xs.find? fun x => decide (x.1 = k)).map (·.2.2)
def putR (xs : List KEnt) (k : NestedKey) (b : Addr) (v : V) : List KEnt := if (atV xs k).isSome then xs.map fun x => if x.1 = k then (x.1, x.2.1, v) else x else xs ++ [(k, b, v)]
inductive Kd where
  | lst
  | dct (o : Option Obj) (ks : List NestedKey)
  | dki (o : Option Obj) (ks : List Int)
def frzO : Option Obj → HO → HO
  | none, u => u
  | some o, u => .frz o u
def frzM : Option Obj → D
  | none => .none
  | some _ => .bool true
def entsOf : List NestedKey → List V → List KEnt
  | k :: ks, .ref b :: v :: vs => (k, b, v) :: entsOf ks vs
  | _, _ => []
def entsI : List V → List (Key × V)
  | .int i :: v :: vs => (.inl i, v) :: entsI vs
  | _ => []
def prsD : List D → List (D × D)
  | a :: b :: r => (a, b) :: prsD r
  | _ => []
def keysD : List D → List D
  | a :: _ :: r => a :: keysD r
  | _ => []
def kO (P : Program) (w : World) (p : Addr) : Kd → List V → HO
  | .lst, vs => .lst vs
  | .dct o ks, vs => frzO o (rawO P w p (entsOf ks vs))
  | .dki o _, vs => frzO o (.dK (entsI vs))
def kD : Kd → List D → D
  | .lst, ds => .list ds
  | .dct o _, ds => .dict ((.none, frzM o) :: prsD ds)
  | .dki o _, ds => .dict ((.tuple [], frzM o) :: prsD ds)
def KdOk (p : Addr) : Kd → List D → Prop
  | .lst, _ => True
  | .dct _ ks, ds => keyAll (keysD ds) = some ks ∧ ks.Nodup ∧ ks.length < sizeLine ∧ ds.length = 2 * ks.length ∧ (∀ k ∈ ks, k.depth ≤ 8) ∧ (p == sysModules) = false ∧ ∀ d ∈ keysD ds, ∃ es, d = .tuple es
  | .dki _ ks, ds => keysD ds = ks.map .int ∧ ks.Nodup ∧ ks.length < sizeLine ∧ ds.length = 2 * ks.length ∧ (p == sysModules) = false

def nt : HO → Bool
  | .tbl _ => false
  | _ => true
structure SameN (H H' : Hp) : Prop where
  nn : ∀ p o, H p = some o → nt o = true → H' p = some o
  tb : ∀ p ps, H p = some (.tbl ps) → ∃ ps', H' p = some (.tbl ps') ∧ (TriplesOk ps.toList → TriplesOk ps'.toList)
theorem SameN.of {H H' : Hp} (h : Same H H') : SameN H H' := ⟨fun p o e _ => h p o e, fun p ps e => ⟨ps, h p _ e, id⟩⟩
theorem SameN.refl (H : Hp) : SameN H H := .of (Same.refl H)
theorem SameN.trans {H H1 H2 : Hp} (a : SameN H H1) (b : SameN H1 H2) : SameN H H2 := ⟨fun p o e n => b.nn p o (a.nn p o e n) n, fun p ps e => by
  obtain ⟨ps1, e1, t1⟩ := a.tb p ps e
  obtain ⟨ps2, e2, t2⟩ := b.tb p ps1 e1
  exact ⟨ps2, e2, fun z => t2 (t1 z)⟩⟩
theorem SameN.some_ {H H' : Hp} (a : SameN H H') {p : Addr} {o : HO} (e : H p = some o) : ∃ o', H' p = some o' := by
  cases o with
  | tbl ps => obtain ⟨ps', e', _⟩ := a.tb p ps e; exact ⟨_, e'⟩
  | _ => exact ⟨_, a.nn p _ e rfl⟩
theorem SameN.ex {H H' : Hp} (a : SameN H H') {p : Addr} {o : HO} (e : H p = some o) : ∃ o', H' p = some o' ∧ (nt o = true → o' = o) := by
  cases o with
  | tbl ps => obtain ⟨ps', e', _⟩ := a.tb p ps e; exact ⟨_, e', fun z => (by cases z)⟩
  | _ => exact ⟨_, a.nn p _ e rfl, fun _ => rfl⟩
theorem SameN.free {H H' : Hp} (a : SameN H H') {p : Addr} (h : H' p = none) : H p = none := by
  cases e : H p with
  | none => rfl
  | some o =>
    obtain ⟨o', e'⟩ := a.some_ e
    rw [h] at e'; cases e'
theorem SameN.upd_ {H H' : Hp} (a : SameN H H') {p : Addr} {o : HO} (hn : H p = none) : SameN H (upd H' p o) :=
  ⟨fun b u e n => by rw [upd_ne (ne_of_none e hn)]; exact a.nn b u e n, fun b ps e => by rw [upd_ne (ne_of_none e hn)]; exact a.tb b ps e⟩
theorem SameN.seq {K : PySem.W.Frag} {H H' : Hp} {a : Addr} {xs : List V} (e : SameN H H') (h : SqL K H a xs) : SqL K H' a xs := by
  rcases h with (h | ⟨o, h⟩) | h
  · exact .inl (.inl (e.nn _ _ h rfl))
  · exact .inl (.inr ⟨o, e.nn _ _ h rfl⟩)
  · exact .inr h
theorem nt_kO (P : Program) (w : World) (p : Addr) (k : Kd) (vs : List V) : nt (kO P w p k vs) = true := by
  cases k with
  | lst => rfl
  | dct o ks => cases o <;> rfl
  | dki o ks => cases o <;> rfl
theorem SameN.o {H H' : Hp} (a : SameN H H') {P : Program} {w : World} {q p : Addr} {k : Kd} {vs : List V} (e : H q = some (kO P w p k vs)) : H' q = some (kO P w p k vs) := a.nn q _ e (nt_kO _ _ _ _ _)
theorem SameN.l {H H' : Hp} (a : SameN H H') {p : Addr} {vs : List V} (e : H p = some (.lst vs)) : H' p = some (.lst vs) := a.nn p _ e rfl
structure Gr (F H F' H' : Hp) : Prop where
  ff : Same F F'
  hh : SameN H H'
  fh : Same F' H'
  hid : ∀ p o, H p = some o → F p = none → F' p = none
theorem Gr.refl {F H : Hp} (h : Same F H) : Gr F H F H := ⟨Same.refl F, SameN.refl H, h, fun _ _ _ e => e⟩
theorem Gr.trans {F H F1 H1 F2 H2 : Hp} (a : Gr F H F1 H1) (b : Gr F1 H1 F2 H2) : Gr F H F2 H2 :=
  ⟨a.ff.trans b.ff, a.hh.trans b.hh, b.fh, fun p o e n => let ⟨o', e'⟩ := a.hh.some_ e; b.hid p o' e' (a.hid p o e n)⟩
def tabNames : List Str := ["truth", "can_go", "dense_truth", "steps_truth", "line_truth", "truth_almost", "truth_truth"]
def TbOk (G : Gx) (F H : Hp) : Prop := ∀ x ∈ tabNames, ∀ c P, PySem.W.tabIn G.K x = some (c, P) → F P = none ∧ GxR.TabG H P
theorem TbOk.gr {G : Gx} {F H F' H' : Hp} (t : TbOk G F H) (g : Gr F H F' H') : TbOk G F' H' := fun x hx c P e => by
  obtain ⟨h1, ps, h2, h3⟩ := t x hx c P e
  obtain ⟨ps', e', t'⟩ := g.hh.tb P ps h2
  exact ⟨g.hid P _ h2 h1, ps', e', t' h3⟩
theorem TbOk.upd_o {G : Gx} {F H : Hp} (t : TbOk G F H) {p : Addr} {u : HO} (h : H p = some u) (n : nt u = true) {o : HO} : TbOk G F (upd H p o) := fun x hx c P e => by
  obtain ⟨h1, ps, h2, h3⟩ := t x hx c P e
  have hn : P ≠ p := fun z => by rw [z, h] at h2; cases h2; cases n
  exact ⟨h1, ps, by rw [upd_ne hn]; exact h2, h3⟩
theorem TbOk.upd_ {G : Gx} {F H : Hp} (t : TbOk G F H) {p : Addr} {vs : List V} (h : H p = some (.lst vs)) {o : HO} : TbOk G F (upd H p o) := fun x hx c P e => by
  obtain ⟨h1, ps, h2, h3⟩ := t x hx c P e
  have hn : P ≠ p := fun z => by rw [z, h] at h2; cases h2
  exact ⟨h1, ps, by rw [upd_ne hn]; exact h2, h3⟩
structure Fz (G : Gx) (F H : Hp) : Prop where
  sm : Same F H
  tb : TbOk G F H
theorem Fz.gr {G : Gx} {F H F' H' : Hp} (f : Fz G F H) (g : Gr F H F' H') : Fz G F' H' := ⟨g.fh, f.tb.gr g⟩
theorem same_upd {H : Hp} {p : Addr} {o : HO} (h : H p = none) : Same H (upd H p o) := fun b x e => by
  rw [upd_ne (ne_of_none e h)]
  exact e
theorem Same.nn {F H : Hp} (s : Same F H) {p : Addr} (h : H p = none) : F p = none := Same.free s h
theorem Gr.new {F H : Hp} {p : Addr} {o : HO} (s : Same F H) (h : H p = none) : Gr F H (upd F p o) (upd H p o) := by
  refine ⟨same_upd (Same.nn s h), .of (same_upd h), fun b x e => ?_, fun b x e n => ?_⟩
  · by_cases hb : b = p
    · subst hb
      rw [upd_same] at e ⊢
      exact e
    · rw [upd_ne hb] at e ⊢
      exact s b x e
  · rw [upd_ne (ne_of_none e h)]
    exact n
theorem Gr.open_ {F H : Hp} {p : Addr} {o : HO} (s : Same F H) (h : H p = none) : Gr F H F (upd H p o) :=
  ⟨Same.refl F, .of (same_upd h), s.trans (same_upd h), fun _ _ _ n => n⟩
theorem Gr.close {F H F' H' : Hp} {p : Addr} {o : HO} (g : Gr F H F' H') (hn : H p = none) (hf : F' p = none) (hh : H' p = some o) : Gr F H (upd F' p o) H' := by
  refine ⟨g.ff.trans (same_upd hf), g.hh, fun b x e => ?_, fun b x e n => ?_⟩
  · by_cases hb : b = p
    · subst hb
      rw [upd_same] at e
      rw [hh]
      exact e
    · rw [upd_ne hb] at e
      exact g.fh b x e
  · rw [upd_ne (ne_of_none e hn)]
    exact g.hid b x e n

theorem sameT {K : PySem.W.Frag} {H H' : Hp} {a : Addr} {xs : List V} (e : Same H H') (h : SqT K H a xs) : SqT K H' a xs := by
  rcases h with (h | ⟨o, h⟩) | h
  · exact .inl (.inl (e _ _ h))
  · exact .inl (.inr ⟨o, e _ _ h⟩)
  · exact .inr h

def SqU (K : PySem.W.Frag) (F : Hp) (a : Addr) (xs : List V) : Prop :=
  (∃ o : Obj, F a = some (.frz o (.tup xs)) ∧ o.dict = none) ∨
    ∃ (o : Obj) (its : Array Value) (n : Nat), K.lookup a = some o ∧ o.cls = .type "tuple" ∧ o.dict = none ∧ o.data = .seq its n ∧ its.size ≤ sizeLine ∧ Vals xs its.toList
theorem SqU.t {K : PySem.W.Frag} {F : Hp} {a : Addr} {xs : List V} (h : SqU K F a xs) : SqT K F a xs := by
  rcases h with ⟨o, h, _⟩ | ⟨o, its, n, h1, h2, _, h3, h4, h5⟩
  · exact .inl (.inr ⟨o, h⟩)
  · exact .inr ⟨o, its, n, h1, h2, h3, h4, h5⟩
theorem sameU {K : PySem.W.Frag} {H H' : Hp} {a : Addr} {xs : List V} (e : Same H H') (h : SqU K H a xs) : SqU K H' a xs := by
  rcases h with ⟨o, h, d⟩ | h
  · exact .inl ⟨o, e _ _ h, d⟩
  · exact .inr h
mutual
inductive Rp (G : Gx) (F : Hp) : V → D → Prop
  | non : Rp G F .non .none
  | bl (b : Bool) : Rp G F (.bl b) (.bool b)
  | int (i : Int) : Rp G F (.int i) (.int i)
  | str (x : Str) : Rp G F (.str x) (.str x)
  | lst {a : Addr} {xs : List V} {ds : List D} : SqL G.K F a xs → RpAll G F xs ds → Rp G F (.ref a) (.list ds)
  | tup {a : Addr} {xs : List V} {ds : List D} : SqU G.K F a xs → RpAll G F xs ds → Rp G F (.ref a) (.tuple ds)
  /-- a def -/
  | fn {a : Addr} {x : Str} : G.mg x = some (.ref a) → Rp G F (.ref a) (.dict [(.str x, .none)])
  /-- a pool: rows, and the counter's cell r -/
  | pl {p a : Addr} {r : Nat} {xs : List V} {ds : List D} : SqL G.K F p [.ref a, .ref r] → SqL G.K F a xs → RpAll G F xs ds → Rp G F (.ref p) (.dict [(.int (r : Int), .list ds)])
  /-- a range -/
  | rng {a : Addr} {lo hi : Int} : F a = some (.rng lo hi) → Rp G F (.ref a) (.dict [(.bool true, .tuple [.int lo, .int hi])])
  /-- a dict -/
  | dct {a : Addr} {o : Option Obj} {ks : List NestedKey} {vs : List V} {ds : List D} : F a = some (kO G.P G.w a (.dct o ks) vs) → KdOk a (.dct o ks) ds → RpAll G F vs ds → Rp G F (.ref a) (kD (.dct o ks) ds)
  /-- a dict whose keys are whole numbers -/
  | dki {a : Addr} {o : Option Obj} {ks : List Int} {vs : List V} {ds : List D} : F a = some (kO G.P G.w a (.dki o ks) vs) → KdOk a (.dki o ks) ds → RpAll G F vs ds → Rp G F (.ref a) (kD (.dki o ks) ds)
inductive RpAll (G : Gx) (F : Hp) : List V → List D → Prop
  | nil : RpAll G F [] []
  | cons {v : V} {vs : List V} {d : D} {ds : List D} : Rp G F v d → RpAll G F vs ds → RpAll G F (v :: vs) (d :: ds)
end
section
variable {G : Gx} {F F' H H' : Hp}
mutual
theorem Rp.mono (e : Same F F') : ∀ {d : D} {v : V}, Rp G F v d → Rp G F' v d
  | _, _, .non => .non
  | _, _, .bl b => .bl b
  | _, _, .int i => .int i
  | _, _, .str x => .str x
  | _, _, .lst h a => .lst (e.seq h) (RpAll.mono e a)
  | _, _, .tup h a => .tup (sameU e h) (RpAll.mono e a)
  | _, _, .fn h => .fn h
  | _, _, .pl h h2 a => .pl (e.seq h) (e.seq h2) (RpAll.mono e a)
  | _, _, .rng h => .rng (e _ _ h)
  | _, _, .dct h k a => .dct (e _ _ h) k (RpAll.mono e a)
  | _, _, .dki h k a => .dki (e _ _ h) k (RpAll.mono e a)
theorem RpAll.mono (e : Same F F') : ∀ {ds : List D} {vs : List V}, RpAll G F vs ds → RpAll G F' vs ds
  | _, _, .nil => .nil
  | _, _, .cons h r => .cons (Rp.mono e h) (RpAll.mono e r)
end
theorem RpAll.length : ∀ {ds : List D} {vs : List V}, RpAll G F vs ds → vs.length = ds.length
  | _, _, .nil => rfl
  | _, _, .cons _ r => congrArg (· + 1) (RpAll.length r)
theorem RpAll.get : ∀ {ds : List D} {vs : List V} {i : Nat} {d : D}, RpAll G F vs ds → ds[i]? = some d → ∃ v, vs[i]? = some v ∧ Rp G F v d
  | _, _, _, _, .nil, e => by simp at e
  | _, _, 0, _, .cons h _, e => by
    have e' := Option.some.inj e
    subst e'
    exact ⟨_, rfl, h⟩
  | _, _, i + 1, _, .cons _ r, e => RpAll.get (i := i) r e
theorem RpAll.append : ∀ {ds es : List D} {vs us : List V}, RpAll G F vs ds → RpAll G F us es → RpAll G F (vs ++ us) (ds ++ es)
  | _, _, _, _, .nil, r => r
  | _, _, _, _, .cons h t, r => .cons h (RpAll.append t r)
theorem RpAll.take : ∀ {ds : List D} {vs : List V} (n : Nat), RpAll G F vs ds → RpAll G F (vs.take n) (ds.take n)
  | _, _, 0, _ => .nil
  | _, _, _ + 1, .nil => .nil
  | _, _, n + 1, .cons h t => .cons h (RpAll.take n t)
theorem RpAll.drop : ∀ {ds : List D} {vs : List V} (n : Nat), RpAll G F vs ds → RpAll G F (vs.drop n) (ds.drop n)
  | _, _, 0, r => r
  | _, _, _ + 1, .nil => .nil
  | _, _, n + 1, .cons _ t => RpAll.drop n t
theorem RpAll.reverse {ds : List D} {vs : List V} (h : RpAll G F vs ds) : RpAll G F vs.reverse ds.reverse := by
  induction ds generalizing vs with
  | nil => cases h; exact .nil
  | cons d ds ih =>
    cases h with
    | cons h t =>
      rw [List.reverse_cons, List.reverse_cons]
      exact (ih t).append (.cons h .nil)
theorem RpAll.atI {ds : List D} {vs : List V} {i : Int} {d : D} (h : RpAll G F vs ds) (e : L2.atI ds i = some d) : ∃ v, L2.atI vs i = some v ∧ Rp G F v d := by
  unfold L2.atI at e ⊢
  rw [h.length]
  cases q : ixN ds.length i with
  | none => rw [q] at e; cases e
  | some j =>
    rw [q] at e
    exact h.get e
def RpB (G : Gx) (F H : Hp) (v : V) (d : D) : Prop := Rp G F v d ∨ ∃ p k vs ds, v = .ref p ∧ d = kD k ds ∧ H p = some (kO G.P G.w p k vs) ∧ RpAll G F vs ds ∧ KdOk p k ds
theorem Rp.b {v : V} {d : D} (h : Rp G F v d) : RpB G F H v d := .inl h
theorem RpB.gr {v : V} {d : D} (h : RpB G F H v d) (g : Gr F H F' H') : RpB G F' H' v d := by
  rcases h with h | ⟨p, k, vs, ds, h1, h2, h3, h4, h5⟩
  · exact .inl (h.mono g.ff)
  · exact .inr ⟨p, k, vs, ds, h1, h2, g.hh.o h3, h4.mono g.ff, h5⟩
theorem RpB.int {v : V} {i : Int} (h : RpB G F H v (.int i)) : v = .int i := by
  rcases h with h | ⟨p, k, vs, ds, h1, h2, h3, h4⟩
  · cases h; rfl
  · cases k <;> cases h2
theorem RpB.bl {v : V} {i : Bool} (h : RpB G F H v (.bool i)) : v = .bl i := by
  rcases h with h | ⟨p, k, vs, ds, h1, h2, h3, h4⟩
  · cases h; rfl
  · cases k <;> cases h2
theorem RpB.str {v : V} {i : Str} (h : RpB G F H v (.str i)) : v = .str i := by
  rcases h with h | ⟨p, k, vs, ds, h1, h2, h3, h4⟩
  · cases h; rfl
  · cases k <;> cases h2
theorem RpB.non {v : V} (h : RpB G F H v .none) : v = .non := by
  rcases h with h | ⟨p, k, vs, ds, h1, h2, h3, h4⟩
  · cases h; rfl
  · cases k <;> cases h2
theorem RpB.tup {v : V} {ds : List D} (h : RpB G F H v (.tuple ds)) (s : Same F H) : ∃ a vs, v = .ref a ∧ SqU G.K F a vs ∧ SqT G.K H a vs ∧ RpAll G F vs ds := by
  rcases h with h | ⟨p, k, vs, ds, h1, h2, h3, h4⟩
  · cases h with
    | tup h r => exact ⟨_, _, rfl, h, sameT s h.t, r⟩
  · cases k <;> cases h2
theorem RpB.lst {v : V} {ds : List D} (h : RpB G F H v (.list ds)) (s : Same F H) : ∃ a vs, v = .ref a ∧ SqL G.K H a vs ∧ RpAll G F vs ds := by
  rcases h with h | ⟨p, k, vs, es, h1, h2, h3, h4, _⟩
  · cases h with
    | lst h r => exact ⟨_, _, rfl, s.seq h, r⟩
  · cases k with
    | lst =>
      cases h2
      exact ⟨p, vs, h1, .inl (.inl h3), h4⟩
    | dct o ks => cases h2
    | dki o ks => cases h2
mutual
theorem Rp.dp (s : Same F H) : ∀ {d : D} {v : V}, Rp G F v d → PyData.canLay0 d = true → Dp G.K H v d
  | _, _, .non, _ => .non
  | _, _, .bl b, _ => .bl b
  | _, _, .int i, _ => .int i
  | _, _, .str x, _ => .str x
  | _, _, .lst h a, c => .lst (s.seq h) (RpAll.dp s a (by simpa [PyData.canLay0] using c))
  | _, _, .tup h a, c => .tup (sameT s h.t) (RpAll.dp s a (by simpa [PyData.canLay0] using c))
  | _, _, .fn _, c => by simp [PyData.canLay0] at c
  | _, _, .pl _ _ _, c => by simp [PyData.canLay0] at c
  | _, _, .rng _, c => by simp [PyData.canLay0] at c
  | _, _, .dct _ _ _, c => by simp [kD, PyData.canLay0] at c
  | _, _, .dki _ _ _, c => by simp [kD, PyData.canLay0] at c
theorem RpAll.dp (s : Same F H) : ∀ {ds : List D} {vs : List V}, RpAll G F vs ds → PyData.canLayAll0 ds = true → DpAll G.K H vs ds
  | _, _, .nil, _ => .nil
  | _, _, .cons h r, c => by
    simp only [PyData.canLayAll0, Bool.and_eq_true] at c
    exact .cons (Rp.dp s h c.1) (RpAll.dp s r c.2)
end
theorem RpB.dp {v : V} {d : D} (h : RpB G F H v d) (s : Same F H) (c : PyData.canLay0 d = true) : Dp G.K H v d := by
  rcases h with h | ⟨p, k, vs, ds, rfl, rfl, h3, h4, _⟩
  · exact h.dp s c
  · cases k with
    | lst => exact .lst (.inl (.inl h3)) (h4.dp s (by simpa [kD, PyData.canLay0] using c))
    | dct o ks => simp [kD, PyData.canLay0] at c
    | dki o ks => simp [kD, PyData.canLay0] at c
theorem RpB.shp {v : V} {d : D} (h : RpB G F H v d) (s : Same F H) (c : SeqAt.shaped d = true) : Dp G.K H v d := h.dp s (SeqAt.canLay_of_shaped c)
theorem RpAll.ints : ∀ {ds : List D} {vs : List V} {ns : List Int}, RpAll G F vs ds → intsOf ds = some ns → vs = ns.map V.int
  | _, _, _, .nil, e => by
    cases e
    rfl
  | _ :: ds, _, ns, .cons h r, e => by
    cases h with
    | int i =>
      simp only [intsOf] at e
      cases q : intsOf ds with
      | none => rw [q] at e; cases e
      | some ms =>
        rw [q] at e
        cases e
        rw [RpAll.ints r q]
        rfl
    | _ => cases e
theorem RpAll.bools : ∀ {ds : List D} {vs : List V} {ns : List Bool}, RpAll G F vs ds → boolsOf ds = some ns → vs = ns.map V.bl
  | _, _, _, .nil, e => by
    cases e
    rfl
  | _ :: ds, _, ns, .cons h r, e => by
    cases h with
    | bl i =>
      simp only [boolsOf] at e
      cases q : boolsOf ds with
      | none => rw [q] at e; cases e
      | some ms =>
        rw [q] at e
        cases e
        rw [RpAll.bools r q]
        rfl
    | _ => cases e
end

structure SOk (G : Gx) (O : List Nat) (F H : Hp) (σ : L2.St) (env : Env) : Prop where
  fh : Same F H
  len : env.length = σ.length
  imm : ∀ (i : Nat) (d : D), env[i]? = some (some d) → i ∉ O → ∃ v, σ[i]? = some (some v) ∧ Rp G F v d
  own : ∀ i ∈ O, ∃ p k vs ds, σ[i]? = some (some (.ref p)) ∧ env[i]? = some (some (kD k ds)) ∧ F p = none ∧ H p = some (kO G.P G.w p k vs) ∧ RpAll G F vs ds ∧ KdOk p k ds
  dj : ∀ i ∈ O, ∀ j ∈ O, σ[i]? = σ[j]? → i = j
  tb : TbOk G F H
section
variable {G : Gx} {O O' : List Nat} {F H F' H' : Hp} {σ : L2.St} {env : Env}
theorem SOk.fz (s : SOk G O F H σ env) : Fz G F H := ⟨s.fh, s.tb⟩
theorem SOk.gr (s : SOk G O F H σ env) (g : Gr F H F' H') : SOk G O F' H' σ env := by
  refine ⟨g.fh, s.len, fun i d e n => ?_, fun i hi => ?_, s.dj, s.tb.gr g⟩
  · obtain ⟨v, h1, h2⟩ := s.imm i d e n
    exact ⟨v, h1, h2.mono g.ff⟩
  · obtain ⟨p, k, vs, ds, h1, h2, h3, h4, h5, h6⟩ := s.own i hi
    exact ⟨p, k, vs, ds, h1, h2, g.hid p _ h4 h3, g.hh.o h4, h5.mono g.ff, h6⟩
theorem Rp.ofK {p : Addr} {k : Kd} {vs : List V} {ds : List D} (h : F p = some (kO G.P G.w p k vs)) (r : RpAll G F vs ds) (o : KdOk p k ds) : Rp G F (.ref p) (kD k ds) := by
  cases k with
  | lst => exact .lst (.inl (.inl h)) r
  | dct oo ks => exact .dct h o r
  | dki oo ks => exact .dki h o r
theorem SOk.ownC (s : SOk G O F H σ env) {i : Nat} (hi : i ∈ O) : (∃ p vs ds, σ[i]? = some (some (.ref p)) ∧ env[i]? = some (some (.list ds)) ∧ F p = none ∧ H p = some (.lst vs) ∧ RpAll G F vs ds) ∨ ∃ kvs, env[i]? = some (some (.dict kvs)) := by
  obtain ⟨p, k, vs, ds, h1, h2, h3, h4, h5, h6⟩ := s.own i hi
  cases k with
  | lst => exact .inl ⟨p, vs, ds, h1, h2, h3, h4, h5⟩
  | dct oo ks => exact .inr ⟨_, h2⟩
  | dki oo ks => exact .inr ⟨_, h2⟩
theorem getD_some {env : Env} {i : Nat} {d : D} (h : env.getD i none = some d) : env[i]? = some (some d) := by
  rw [List.getD_eq_getElem?_getD] at h
  cases q : env[i]? with
  | none => rw [q] at h; cases h
  | some o => rw [q] at h; exact congrArg some h
theorem SOk.any (s : SOk G O F H σ env) {i : Nat} {d : D} (e : env.getD i none = some d) : ∃ v, σ[i]? = some (some v) ∧ RpB G F H v d := by
  have e' := getD_some e
  by_cases hi : i ∈ O
  · obtain ⟨p, k, vs, ds, h1, h2, h3, h4, h5, h6⟩ := s.own i hi
    rw [e'] at h2
    cases h2
    exact ⟨_, h1, .inr ⟨p, k, vs, ds, rfl, rfl, h4, h5, h6⟩⟩
  · obtain ⟨v, h1, h2⟩ := s.imm i d e' hi
    exact ⟨v, h1, .inl h2⟩
theorem SOk.set (s : SOk G O F H σ env) {i : Nat} {v : V} {d : D} (h : i ∉ O) (r : Rp G F v d) : SOk G O F H (σ.set i (some v)) (env.set i (some d)) := by
  have hne : ∀ j ∈ O, i ≠ j := fun j hj e => h (e ▸ hj)
  refine ⟨s.fh, by rw [List.length_set, List.length_set]; exact s.len, fun j e hj n => ?_, fun j hj => ?_, fun j hj k hk e => ?_, s.tb⟩
  · by_cases ij : i = j
    · subst ij
      have hl : i < env.length := by
        have := (List.getElem?_eq_some_iff.mp hj).1
        rw [List.length_set] at this
        exact this
      rw [List.getElem?_set_self hl] at hj
      cases hj
      exact ⟨v, List.getElem?_set_self (s.len ▸ hl), r⟩
    · rw [List.getElem?_set_ne ij] at hj ⊢
      exact s.imm j e hj n
  · rw [List.getElem?_set_ne (hne j hj), List.getElem?_set_ne (hne j hj)]
    exact s.own j hj
  · rw [List.getElem?_set_ne (hne j hj), List.getElem?_set_ne (hne k hk)] at e
    exact s.dj j hj k hk e
theorem SOk.drop (s : SOk G O F H σ env) (i : Nat) : SOk G (O.filter (· ≠ i)) F H (σ.set i none) (env.set i none) := by
  have hne : ∀ j ∈ O.filter (· ≠ i), i ≠ j ∧ j ∈ O := fun j hj => by
    obtain ⟨h1, h2⟩ := List.mem_filter.mp hj
    exact ⟨fun e => (of_decide_eq_true h2) e.symm, h1⟩
  refine ⟨s.fh, by rw [List.length_set, List.length_set]; exact s.len, fun j e hj n => ?_, fun j hj => ?_, fun j hj k hk e => ?_, s.tb⟩
  · by_cases ij : i = j
    · subst ij
      have hl : i < env.length := by
        have := (List.getElem?_eq_some_iff.mp hj).1
        rw [List.length_set] at this
        exact this
      rw [List.getElem?_set_self hl] at hj
      cases hj
    · rw [List.getElem?_set_ne ij] at hj ⊢
      exact s.imm j e hj fun z => n (List.mem_filter.mpr ⟨z, decide_eq_true (Ne.symm ij)⟩)
  · rw [List.getElem?_set_ne (hne j hj).1, List.getElem?_set_ne (hne j hj).1]
    exact s.own j (hne j hj).2
  · rw [List.getElem?_set_ne (hne j hj).1, List.getElem?_set_ne (hne k hk).1] at e
    exact s.dj j (hne j hj).2 k (hne k hk).2 e
theorem SOk.wipe (s : SOk G O F H σ env) : ∀ {vs : List Nat}, (∀ i ∈ vs, i ∉ O) → SOk G O F H (wipe σ vs) (wipeE env vs)
  | [], _ => s
  | i :: vs, h => by
    have q := (SOk.wipe s fun j hj => h j (List.mem_cons_of_mem _ hj)).drop i
    have e : O.filter (· ≠ i) = O := List.filter_eq_self.mpr fun j hj => decide_eq_true fun z => h i List.mem_cons_self (z ▸ hj)
    rw [e] at q
    exact q
theorem ext_wipe {σ σ' : L2.St} {sl : List Nat} (hl : σ'.length = σ.length) (h : ∀ j, j ∉ sl → σ'[j]? = σ[j]?) : ∀ {vs : List Nat}, (∀ j ∈ sl, j ∈ vs) → L2.wipe σ' vs = L2.wipe σ vs := by
  intro vs hs
  have at_ : ∀ (τ : L2.St) (vs : List Nat) (j : Nat), j < τ.length → (L2.wipe τ vs)[j]? = if j ∈ vs then some none else τ[j]? := by
    intro τ vs j hj
    induction vs with
    | nil => rfl
    | cons v vs ih =>
      show ((L2.wipe τ vs).set v none)[j]? = _
      by_cases e : v = j
      · subst e
        rw [List.getElem?_set_self (by rw [wipe_length]; exact hj), if_pos List.mem_cons_self]
      · rw [List.getElem?_set_ne e, ih]
        by_cases m : j ∈ vs
        · rw [if_pos m, if_pos (List.mem_cons_of_mem _ m)]
        · rw [if_neg m, if_neg fun z => (List.mem_cons.mp z).elim (fun q => e q.symm) m]
  refine List.ext_getElem? fun j => ?_
  by_cases hj : j < σ.length
  · rw [at_ σ' vs j (hl ▸ hj), at_ σ vs j hj]
    by_cases m : j ∈ vs
    · rw [if_pos m, if_pos m]
    · rw [if_neg m, if_neg m]
      exact h j fun z => m (hs j z)
  · rw [List.getElem?_eq_none (by rw [wipe_length]; omega), List.getElem?_eq_none (by rw [wipe_length]; omega)]
end
end TL

set_option Elab.async false
set_option linter.all false
set_option maxRecDepth 100000
namespace TL
open PySem PySem.Spec PyProof.Rows L2
def kV (G : Gx) (F H : Hp) (d : D) (Q : VK) : Prop := ∀ v F' H', Gr F H F' H' → Rp G F' v d → Q v H'
def kB (G : Gx) (F H : Hp) (d : D) (Q : VK) : Prop := ∀ v F' H', Gr F H F' H' → RpB G F' H' v d → Q v H'
def kN (G : Gx) (F H : Hp) (d : D) (Q : VK) : Prop := ∀ p k vs ds F' H', Gr F H F' H' → H p = none → F' p = none → H' p = some (kO G.P G.w p k vs) → RpAll G F' vs ds → KdOk p k ds → d = kD k ds → Q (.ref p) H'
def rV (G : Gx) (O : List Nat) (f : SE) : TE := fun σ H Q => ∃ F env d, SOk G O F H σ env ∧ f env = some d ∧ kV G F H d Q
def rB (G : Gx) (O : List Nat) (f : SE) : TE := fun σ H Q => ∃ F env d, SOk G O F H σ env ∧ f env = some d ∧ kB G F H d Q
def rN (G : Gx) (O : List Nat) (f : SE) : TE := fun σ H Q => ∃ F env d, SOk G O F H σ env ∧ f env = some d ∧ kN G F H d Q
def rT (G : Gx) (O : List Nat) (f : ST) : TT := fun σ H Q => ∃ F env b, SOk G O F H σ env ∧ f env = some b ∧ ∀ F' H', Gr F H F' H' → Q b H'
section
variable {G : Gx} {O : List Nat} {F H F1 H1 : Hp} {d : D} {Q : VK} {σ : L2.St}
theorem kV.gr (h : kV G F H d Q) (g : Gr F H F1 H1) : kV G F1 H1 d Q := fun v F' H' g' r => h v F' H' (g.trans g') r
theorem kN.gr (h : kN G F H d Q) (g : Gr F H F1 H1) : kN G F1 H1 d Q := fun p k vs ds F' H' g' e1 => h p k vs ds F' H' (g.trans g') (g.hh.free e1)
theorem kB.v (h : kB G F H d Q) : kV G F H d Q := fun v F' H' g r => h v F' H' g r.b
theorem kV.n (h : kV G F H d Q) : kN G F H d Q := fun p k vs ds F' H' g e1 e2 e3 r o e => by
  subst e
  have g2 := g.close e1 e2 e3
  exact h _ _ _ g2 (.ofK upd_same (r.mono (same_upd e2)) o)
theorem kV.same (h : kV G F H d Q) (s : Same F H) {v : V} (r : Rp G F v d) : Q v H := h v F H (Gr.refl s) r
theorem kV.newT {vs : List V} {ds : List D} (h : kV G F H (.tuple ds) Q) (s : Same F H) (r : RpAll G F vs ds) {p : Addr} {ob : Obj} (hp : H p = none) (hd : ob.dict = none) : Q (.ref p) (upd H p (.frz ob (.tup vs))) :=
  h _ _ _ (Gr.new s hp) (.tup (.inl ⟨ob, upd_same, hd⟩) (r.mono (same_upd (Same.nn s hp))))
theorem kN.newL {vs : List V} {ds : List D} (h : kN G F H (.list ds) Q) (s : Same F H) (r : RpAll G F vs ds) {p : Addr} (hp : H p = none) : Q (.ref p) (upd H p (.lst vs)) :=
  h p .lst vs ds _ _ (Gr.open_ s hp) hp (Same.nn s hp) upd_same r trivial rfl
end
section
variable {X : Cx} {e : Expr} {O : List Nat} {f : SE}
theorem _root_.L2.PE.imp {t t' : TE} (h : PE X e t) (i : ∀ σ H Q, t' σ H Q → t σ H Q) : PE X e t' := ⟨fun pins s σ H Q I q => h.run pins s σ H Q I (i σ H Q q)⟩
theorem _root_.L2.PT.imp {t t' : TT} (h : PT X e t) (i : ∀ σ H Q, t' σ H Q → t σ H Q) : PT X e t' := ⟨fun pins s σ H Q I q => h.run pins s σ H Q I (i σ H Q q)⟩
theorem _root_.L2.PW.imp {t t' : TT} (h : PW X e t) (i : ∀ σ H Q, t' σ H Q → t σ H Q) : PW X e t' := ⟨fun w pins s σ H Q I q => h.run w pins s σ H Q I (i σ H Q q)⟩
theorem vb (h : PE X e (rV (gx X) O f)) : PE X e (rB (gx X) O f) := h.imp fun σ H Q ⟨F, env, d, hs, hf, q⟩ => ⟨F, env, d, hs, hf, q.v⟩
theorem nv (h : PE X e (rN (gx X) O f)) : PE X e (rV (gx X) O f) := h.imp fun σ H Q ⟨F, env, d, hs, hf, q⟩ => ⟨F, env, d, hs, hf, q.n⟩
theorem nb (h : PE X e (rN (gx X) O f)) : PE X e (rB (gx X) O f) := vb (nv h)
theorem ev (i : Nat) {x : Str} {pos : Pos} (hO : i ∉ O := by decide) (hN : X.N[i]? = some x := by rfl) (hv : Vis X.env.scope x := by first | exact Or.inl rfl | exact Or.inr (Or.inl rfl) | exact Or.inr (Or.inr rfl)) (hd : (x == ("__debug__" : Str)) = false := by decide)
    (hcd : (x == ("__classdict__" : Str)) = false := by decide) : PE X (.Name x pos) (rV (gx X) O (eVar i)) := (pe_var hN hv hd hcd).imp fun σ H Q ⟨F, env, d, hs, hf, q⟩ => by
  obtain ⟨v, h1, h2⟩ := hs.imm i d (getD_some hf) hO
  exact ⟨v, h1, q.same hs.fh h2⟩
theorem eb (i : Nat) {x : Str} {pos : Pos} (hN : X.N[i]? = some x := by rfl) (hv : Vis X.env.scope x := by first | exact Or.inl rfl | exact Or.inr (Or.inl rfl) | exact Or.inr (Or.inr rfl)) (hd : (x == ("__debug__" : Str)) = false := by decide)
    (hcd : (x == ("__classdict__" : Str)) = false := by decide) : PE X (.Name x pos) (rB (gx X) O (eVar i)) := (pe_var hN hv hd hcd).imp fun σ H Q ⟨F, env, d, hs, hf, q⟩ => by
  obtain ⟨v, h1, h2⟩ := hs.any hf
  exact ⟨v, h1, q v F H (Gr.refl hs.fh) h2⟩
theorem rC {v : V} {d : D} (r : ∀ F, Rp (gx X) F v d) (h : PE X e (tC v)) : PE X e (rV (gx X) O (eC d)) := h.imp fun σ H Q ⟨F, env, d', hs, hf, q⟩ => by
  have e' := Option.some.inj hf
  subst e'
  exact q.same hs.fh (r F)
theorem ei {i : Int} {j pos} : PE X (.Constant (.int i) j pos) (rV (gx X) O (eC (.int i))) := rC (fun _ => .int i) pe_int
theorem ebl {b : Bool} {j pos} : PE X (.Constant (.bool b) j pos) (rV (gx X) O (eC (.bool b))) := rC (fun _ => .bl b) pe_bl
theorem es {x : Str} {j pos} : PE X (.Constant (.str x) j pos) (rV (gx X) O (eC (.str x))) := rC (fun _ => .str x) pe_str
theorem eg {x : Str} {v : V} {d : D} {u : Value} {pos : Pos} (hg : Gl X x) (hm : X.mg x = some u) (r : RelV v u) (k : ∀ F, Rp (gx X) F v d) (hd : (x == ("__debug__" : Str)) = false := by decide) : PE X (.Name x pos) (rV (gx X) O (eC d)) :=
  rC k (pe_glob hg hm r hd)
end

def OpV (X : Cx) (f : Value → Value → Sem Value) (g : D → D → Option D) : Prop :=
  OpR X f fun x y H Q => ∃ F dx dy d, Same F H ∧ RpB (gx X) F H x dx ∧ RpB (gx X) F H y dy ∧ g dx dy = some d ∧ kV (gx X) F H d Q
def OpN (X : Cx) (f : Value → Value → Sem Value) (g : D → D → Option D) : Prop :=
  OpR X f fun x y H Q => ∃ F dx dy d, Same F H ∧ RpB (gx X) F H x dx ∧ RpB (gx X) F H y dy ∧ g dx dy = some d ∧ kN (gx X) F H d Q
section
variable {X : Cx} {O : List Nat} {a b c : Expr} {fa fb fc : SE} {pos : Pos} {g : D → D → Option D}
theorem seq2 {R : V → V → Hp → Prop} {F H : Hp} {σ : L2.St} {env : Env} {x y : D} (hs : SOk (gx X) O F H σ env) (ha : fa env = some x) (hb : fb env = some y)
    (h : ∀ v u F' H', Gr F H F' H' → RpB (gx X) F' H' v x → RpB (gx X) F' H' u y → R v u H') : rB (gx X) O fa σ H fun v H1 => rB (gx X) O fb σ H1 fun u H2 => R v u H2 :=
  ⟨F, env, x, hs, ha, fun v F1 H1 g1 r1 => ⟨F1, env, y, hs.gr g1, hb, fun u F2 H2 g2 r2 => h v u F2 H2 (g1.trans g2) (r1.gr g2) r2⟩⟩
theorem split2 {env : Env} {d : D} (h : e2 g fa fb env = some d) : ∃ x y, fa env = some x ∧ fb env = some y ∧ g x y = some d := by
  simp only [e2] at h
  cases q : fa env with
  | none => rw [q] at h; cases h
  | some x =>
    rw [q] at h
    cases q2 : fb env with
    | none => rw [q2] at h; cases h
    | some y =>
      rw [q2] at h
      exact ⟨x, y, rfl, rfl, h⟩
theorem eo {op : Operator} (ho : OpV X (binaryOp op) g) (ha : PE X a (rB (gx X) O fa)) (hb : PE X b (rB (gx X) O fb)) : PE X (.BinOp a op b pos) (rV (gx X) O (e2 g fa fb)) :=
  (pe_op ho ha hb).imp fun σ H Q ⟨F, env, d, hs, hf, q⟩ => by
    obtain ⟨x, y, h1, h2, h3⟩ := split2 hf
    exact seq2 hs h1 h2 fun v u F' H' g' r1 r2 => ⟨F', x, y, d, g'.fh, r1, r2, h3, q.gr g'⟩
theorem eoN {op : Operator} (ho : OpN X (binaryOp op) g) (ha : PE X a (rB (gx X) O fa)) (hb : PE X b (rB (gx X) O fb)) : PE X (.BinOp a op b pos) (rN (gx X) O (e2 g fa fb)) :=
  (pe_op ho ha hb).imp fun σ H Q ⟨F, env, d, hs, hf, q⟩ => by
    obtain ⟨x, y, h1, h2, h3⟩ := split2 hf
    exact seq2 hs h1 h2 fun v u F' H' g' r1 r2 => ⟨F', x, y, d, g'.fh, r1, r2, h3, q.gr g'⟩
theorem split1 {g : D → Option D} {env : Env} {d : D} (h : e1 g fa env = some d) : ∃ x, fa env = some x ∧ g x = some d := by
  simp only [e1] at h
  cases q : fa env with
  | none => rw [q] at h; cases h
  | some x =>
    rw [q] at h
    exact ⟨x, rfl, h⟩
theorem ec {op : CmpOp} (ho : OpV X (compareOp op) g) (ha : PE X a (rB (gx X) O fa)) (hb : PE X b (rB (gx X) O fb)) (hm : behindInMarks op b = false := by first | exact nomark _ | rfl | with_unfolding_all rfl) : PE X (.Compare a [op] [b] pos) (rV (gx X) O (e2 g fa fb)) :=
  (pe_cmpR ho ha hb hm).imp fun σ H Q ⟨F, env, d, hs, hf, q⟩ => by
    obtain ⟨x, y, h1, h2, h3⟩ := split2 hf
    exact seq2 hs h1 h2 fun v u F' H' g' r1 r2 => ⟨F', x, y, d, g'.fh, r1, r2, h3, q.gr g'⟩
theorem tvSplit {f : SE} {env : Env} {k : Bool} (h : tV f env = some k) : f env = some (.bool k) := by
  simp only [tV] at h
  cases q : f env with
  | none => rw [q] at h; cases h
  | some x =>
    rw [q] at h
    cases x <;> first | (cases h; done) | skip
    simp only [Option.bind_some, toB] at h
    rw [Option.some.inj h]
theorem tc {op : CmpOp} (ho : OpV X (compareOp op) g) (ha : PE X a (rB (gx X) O fa)) (hb : PE X b (rB (gx X) O fb)) (hm : behindInMarks op b = false := by first | exact nomark _ | rfl | with_unfolding_all rfl) : PT X (.Compare a [op] [b] pos) (rT (gx X) O (tV (e2 g fa fb))) :=
  (pt_cmpR ho ha hb hm).imp fun σ H Q ⟨F, env, d, hs, hf, q⟩ => by
    obtain ⟨x, y, h1, h2, h3⟩ := split2 (tvSplit hf)
    exact seq2 hs h1 h2 fun v u F' H' g' r1 r2 => ⟨F', x, y, _, g'.fh, r1, r2, h3, fun w F2 H2 g2 rw => by
      cases rw
      exact ⟨d, rfl, q F2 H2 (g'.trans g2)⟩⟩
theorem tv (h : PE X a (rV (gx X) O fa)) (he : ∀ whole, isTrue a X.env whole = (do let v ← whole; standAt a.pos; holding [v] (truthy v)) := by intro _; rfl) : PT X a (rT (gx X) O (tV fa)) :=
  (pt_val h he).imp fun σ H Q ⟨F, env, d, hs, hf, q⟩ => ⟨F, env, .bool d, hs, tvSplit hf, fun v F' H' g' r => by
    cases r
    exact ⟨d, rfl, q F' H' g'⟩⟩
end
end TL

set_option Elab.async false
set_option linter.all false
set_option maxRecDepth 100000
namespace TL
open PySem PySem.Spec PyProof.Rows L2
section
variable {X : Cx} {es : List Expr} {t : TA} {pos : Pos}
def tTupF (t : TA) : TE := fun σ H Q => t σ H fun xs H1 => xs.length ≤ sizeLine ∧ ∀ p (o : Obj), H1 p = none → o.dict = none → Q (.ref p) (upd H1 p (.frz o (.tup xs)))
theorem isTup_new {h : Heap} {its : Array Value} : (h.push { cls := .type "tuple", data := .seq its }).get? h.objs.size = some { cls := .type "tuple", data := .seq its } := Heap.get?_push_size _ rfl
theorem pe_tupF {x1} (h : PA X es t) : PE X (.Tuple es x1 pos) (tTupF t) := by
  refine ⟨fun pins s σ H Q I hq => ?_⟩
  refine wpAny_Tuple_spliced (thn (h.run pos pins s σ H _ I hq) fun us s1 ⟨xs, H1, I1, r, z, q⟩ => ⟨by rw [← r.length]; exact z, ?_⟩)
  have hf : H1 s1.heap.objs.size = none := I1.hok.fresh (Nat.le_refl _)
  refine ⟨.ref s1.heap.objs.size, upd H1 s1.heap.objs.size (.frz { cls := .type "tuple", data := .seq us.toArray } (.tup xs)), I1.laid (t' := s1.toks) (fun b u e => Heap.get?_push_of_some _ e) (Nat.le_refl _) ?_, rfl, q _ _ hf rfl⟩
  exact ⟨isTup_new, z, us, r, ⟨_, Heap.get?_push_size _ rfl, rfl, _, rfl⟩⟩
theorem call_tuple_ofF : CallR X (.type "tuple") (fun xs H Q => ∃ p ys, xs = [.ref p] ∧ ((SqL X.K H p ys ∧ ∀ l (o : Obj), H l = none → o.dict = none → Q (.ref l) (upd H l (.frz o (.tup ys)))) ∨ (SqT X.K H p ys ∧ Q (.ref p) H))) := by
  intro pins s σ H xs us Q I r h
  obtain ⟨p, ys, rfl, h⟩ := h
  obtain ⟨u, rfl, rx⟩ := vals1 r
  cases rx
  rcases h with ⟨hq, q⟩ | ⟨hq, q⟩
  · obtain ⟨its, r', pl, hz⟩ := I.list hq
    have hlen := r'.length
    refine call_tuple_list pl.isList (fun h' kp => ?_) (by simp only [List.size_toArray] <;> omega)
    have I1 : Inv X pins σ H { s with heap := h' } := I.kept (t' := s.toks) kp
    have I2 : Inv X pins σ (upd H h'.objs.size (.frz { cls := .type "tuple", data := .seq its.toArray } (.tup ys))) { s with heap := h'.push { cls := .type "tuple", data := .seq its.toArray } } :=
      I1.laid (t' := s.toks) (fun b o e => Heap.get?_push_of_some _ e) (Nat.le_refl _) (show ObjOk X.prog X.w _ _ _ (.frz _ (.tup ys)) from ⟨isTup_new, hz, its, r', IsTup.new _ _⟩)
    exact ⟨.ref h'.objs.size, _, I2, rfl, q _ _ (I1.hok.fresh (Nat.le_refl _)) rfl⟩
  · obtain ⟨its, r', pl, hz⟩ := I.tuple hq
    exact call_tuple_same pl ⟨.ref p, H, I, rfl, q⟩
def rCatF (K : PySem.W.Frag) : R2 := fun x y H Q => ∃ a b xs ys, x = .ref a ∧ y = .ref b ∧ SqT K H a xs ∧ SqT K H b ys ∧ xs.length + ys.length ≤ sizeLine ∧
  (xs = [] → Q (.ref b) H) ∧ (xs ≠ [] → ys = [] → Q (.ref a) H) ∧ (xs ≠ [] → ys ≠ [] → ∀ p (o : Obj), H p = none → o.dict = none → Q (.ref p) (upd H p (.frz o (.tup (xs ++ ys)))))
theorem op_catF : OpR X (binaryOp .Add) (rCatF X.K) := by
  intro pins s σ H x y v u Q I rx ry h
  obtain ⟨a, b, xs, ys, rfl, rfl, ha, hb, hz, q0, q1, q2⟩ := h
  by_cases hx : xs = []
  · exact op_catA pins s σ H _ _ v u Q I rx ry ⟨a, b, xs, ys, rfl, rfl, ha, hb, hz, q0, q1, fun z => absurd hx z⟩
  · cases rx
    cases ry
    obtain ⟨its, r1, p1, _⟩ := I.tuple ha
    obtain ⟨its2, r2, p2, _⟩ := I.tuple hb
    refine HT.cat_tup p1 p2 (fun z => hx (r1.nil_iff.mp z)) (fun z => ⟨.ref a, H, I, rfl, q1 hx (r2.nil_iff.mp z)⟩) (fun z => ?_) (by rw [← r1.length, ← r2.length]; exact hz)
    exact ⟨.ref s.heap.objs.size, _, I.laid (t' := s.toks) (o := .frz { cls := .type "tuple", data := .seq (its ++ its2).toArray } (.tup (xs ++ ys))) (fun b ob q => Heap.get?_push_of_some _ q) (Nat.le_refl _)
      ⟨isTup_new, by rw [List.length_append]; exact hz, _, r1.append r2, IsTup.new _ _⟩, rfl, q2 hx (fun w => z (r2.nil_iff.mpr w)) _ _ (I.hok.fresh (Nat.le_refl _)) rfl⟩
variable {e : Expr} {te : L2.St → Hp → (Int → Int → Hp → Prop) → Prop}
end
end TL

set_option Elab.async false
set_option linter.all false
set_option maxRecDepth 100000
namespace TL
open PySem PySem.Spec PyProof.Rows L2
theorem bind_some {α β : Type} {a : Option α} {f : α → Option β} {b : β} (h : a.bind f = some b) : ∃ x, a = some x ∧ f x = some b := by
  cases a with
  | none => cases h
  | some x => exact ⟨x, rfl, h⟩
theorem map_some {α β : Type} {a : Option α} {f : α → β} {b : β} (h : a.map f = some b) : ∃ x, a = some x ∧ f x = b := by
  cases a with
  | none => cases h
  | some x => exact ⟨x, rfl, Option.some.inj h⟩
theorem toB_some {d : D} {k : Bool} (h : toB d = some k) : d = .bool k := by
  cases d <;> first | (cases h; done) | skip
  simp only [toB] at h
  rw [Option.some.inj h]
theorem toI_some {d : D} {k : Int} (h : toI d = some k) : d = .int k := by
  cases d <;> first | (cases h; done) | skip
  simp only [toI] at h
  rw [Option.some.inj h]
section
variable {X : Cx} {O : List Nat} {a b c : Expr} {fa fb fc : SE} {ta tb : ST} {pos : Pos} {rest : List Expr}
theorem eone {op} (h : PE X a (rV (gx X) O fa)) : PE X (.BoolOp op [a] pos) (rV (gx X) O fa) := pe_one h
theorem eand (ha : PE X a (rV (gx X) O fa)) (hb : PE X (.BoolOp .And (b :: rest) pos) (rV (gx X) O fb)) : PE X (.BoolOp .And (a :: b :: rest) pos) (rV (gx X) O (eAnd fa fb)) :=
  (pe_and ha hb).imp fun σ H Q ⟨F, env, d, hs, hf, q⟩ => by
    simp only [eAnd] at hf
    obtain ⟨x, h1, hf⟩ := bind_some hf
    obtain ⟨k, h4, hk⟩ := bind_some hf
    refine ⟨F, env, x, hs, h1, fun v F1 H1 g1 r1 => ?_⟩
    have e4 := toB_some h4
    subst e4
    cases r1
    refine ⟨k, rfl, ?_⟩
    cases k with
    | true => exact ⟨F1, env, d, hs.gr g1, hk, q.gr g1⟩
    | false =>
      cases hk
      exact q _ F1 H1 g1 (.bl false)
theorem enot (ha : PE X a (rV (gx X) O fa)) : PE X (.UnaryOp .Not a pos) (rV (gx X) O (eNot fa)) :=
  (pe_not ha).imp fun σ H Q ⟨F, env, d, hs, hf, q⟩ => by
    simp only [eNot] at hf
    obtain ⟨x, h1, hf⟩ := bind_some hf
    obtain ⟨k, h4, hk⟩ := map_some hf
    refine ⟨F, env, x, hs, h1, fun v F1 H1 g1 r1 => ?_⟩
    have e4 := toB_some h4
    subst e4 hk
    cases r1
    exact ⟨k, rfl, q _ F1 H1 g1 (.bl _)⟩
theorem tone1 (h : PT X a (rT (gx X) O ta)) : PW X (.BoolOp .And [a] pos) (rT (gx X) O ta) := pw_and1 h
theorem tone2 (h : PT X a (rT (gx X) O ta)) : PW X (.BoolOp .Or [a] pos) (rT (gx X) O ta) := pw_or1 h
theorem tand (ha : PT X a (rT (gx X) O ta)) (hb : PW X (.BoolOp .And (b :: rest) pos) (rT (gx X) O tb)) : PW X (.BoolOp .And (a :: b :: rest) pos) (rT (gx X) O (TL.tAnd ta tb)) :=
  (pw_and ha hb).imp fun σ H Q ⟨F, env, d, hs, hf, q⟩ => by
    simp only [TL.tAnd] at hf
    obtain ⟨k, h1, hf⟩ := bind_some hf
    refine ⟨F, env, k, hs, h1, fun F1 H1 g1 => ?_⟩
    cases k with
    | true => exact ⟨F1, env, d, hs.gr g1, hf, fun F2 H2 g2 => q F2 H2 (g1.trans g2)⟩
    | false =>
      cases hf
      exact q F1 H1 g1
theorem tor (ha : PT X a (rT (gx X) O ta)) (hb : PW X (.BoolOp .Or (b :: rest) pos) (rT (gx X) O tb)) : PW X (.BoolOp .Or (a :: b :: rest) pos) (rT (gx X) O (TL.tOr ta tb)) :=
  (pw_or ha hb).imp fun σ H Q ⟨F, env, d, hs, hf, q⟩ => by
    simp only [TL.tOr] at hf
    obtain ⟨k, h1, hf⟩ := bind_some hf
    refine ⟨F, env, k, hs, h1, fun F1 H1 g1 => ?_⟩
    cases k with
    | false => exact ⟨F1, env, d, hs.gr g1, hf, fun F2 H2 g2 => q F2 H2 (g1.trans g2)⟩
    | true =>
      cases hf
      exact q F1 H1 g1
theorem tw (h : PW X a (rT (gx X) O ta)) : PT X a (rT (gx X) O ta) := h.pt
theorem tnot (ha : PT X a (rT (gx X) O ta)) : PT X (.UnaryOp .Not a pos) (rT (gx X) O (TL.tNot ta)) :=
  (pt_not ha).imp fun σ H Q ⟨F, env, d, hs, hf, q⟩ => by
    simp only [TL.tNot] at hf
    obtain ⟨k, h1, hf⟩ := map_some hf
    subst hf
    exact ⟨F, env, k, hs, h1, q⟩
end
def aV (G : Gx) (O : List Nat) (f : SI) : TA := fun σ H Q => ∃ F env ds, SOk G O F H σ env ∧ f env = some ds ∧ ∀ vs F' H', Gr F H F' H' → RpAll G F' vs ds → Q vs H'
section
variable {X : Cx} {O : List Nat} {e : Expr} {es : List Expr} {f : SE} {l : List SE} {pos : Pos}
theorem _root_.L2.PA.imp {t t' : TA} (h : PA X es t) (i : ∀ σ H Q, t' σ H Q → t σ H Q) : PA X es t' := ⟨fun pos pins s σ H Q I q => h.run pos pins s σ H Q I (i σ H Q q)⟩
theorem an : PA X [] (aV (gx X) O (eArgs [])) := pa_nil.imp fun σ H Q ⟨F, env, ds, hs, hf, q⟩ => by
  cases hf
  exact q [] F H (Gr.refl hs.fh) .nil
theorem ac (ha : PE X e (rV (gx X) O f)) (hr : PA X es (aV (gx X) O (eArgs l))) (hs : starEach (e :: es) X.env = (false, eval e X.env) :: starEach es X.env := by rfl) : PA X (e :: es) (aV (gx X) O (eArgs (f :: l))) :=
  (pa_cons ha hr hs).imp fun σ H Q ⟨F, env, ds, hs, hf, q⟩ => by
    simp only [eArgs] at hf
    obtain ⟨x, h1, hf⟩ := bind_some hf
    obtain ⟨xs, h2, hf⟩ := map_some hf
    subst hf
    exact ⟨F, env, x, hs, h1, fun v F1 H1 g1 r1 => ⟨F1, env, xs, hs.gr g1, h2, fun vs F2 H2 g2 r2 => q (v :: vs) F2 H2 (g1.trans g2) (.cons (r1.mono g2.ff) r2)⟩⟩
theorem etup {x1} (h : PA X es (aV (gx X) O (eArgs l))) : PE X (.Tuple es x1 pos) (rV (gx X) O (eTup l)) :=
  (pe_tupF h).imp fun σ H Q ⟨F, env, d, hs, hf, q⟩ => by
    simp only [eTup] at hf
    obtain ⟨ds, h1, hf⟩ := bind_some hf
    refine ⟨F, env, ds, hs, h1, fun vs F1 H1 g1 r1 => ?_⟩
    split at hf
    · cases hf
      exact ⟨by rw [r1.length]; assumption, fun p o hp ho => (q.gr g1).newT g1.fh r1 hp ho⟩
    · cases hf
theorem elst (h : PA X es (aV (gx X) O (eArgs l))) : PE X (.List es pos) (rN (gx X) O (eLst l)) :=
  (pe_lst h).imp fun σ H Q ⟨F, env, d, hs, hf, q⟩ => by
    simp only [eLst] at hf
    obtain ⟨ds, h1, hf⟩ := bind_some hf
    refine ⟨F, env, ds, hs, h1, fun vs F1 H1 g1 r1 => ?_⟩
    split at hf
    · cases hf
      exact ⟨by rw [r1.length]; assumption, fun p hp => (q.gr g1).newL g1.fh r1 hp⟩
    · cases hf
end
def spV (G : Gx) (n : Nat) (m : List D → Option D) : Sp := fun vs H Q _ => ∃ F ds d, Fz G F H ∧ RpAll G F vs ds ∧ ds.length = n ∧ m ds = some d ∧ kV G F H d Q
def spN (G : Gx) (n : Nat) (m : List D → Option D) : Sp := fun vs H Q _ => ∃ F ds d, Fz G F H ∧ RpAll G F vs ds ∧ ds.length = n ∧ m ds = some d ∧ kN G F H d Q
section
variable {X : Cx} {O : List Nat} {e : Expr} {es : List Expr} {l : List SE} {p pos : Pos} {x : Str} {k n : Nat} {fa : Addr} {fd : FuncData} {ps : List Str} {m : List D → Option D}
theorem FnOk.nv {P w} {G : Gx} {base CX} (F : FnOk P w G.K G.mg base CX k fa fd ps (spN G n m)) : FnOk P w G.K G.mg base CX k fa fd ps (spV G n m) :=
  F.imp fun vs H Q E ⟨F, ds, d, h1, h2, h3, h4, q⟩ => ⟨F, ds, d, h1, h2, h3, h4, q.n⟩
theorem ecall (F : FnOk X.prog X.w (gx X).K (gx X).mg X.base CX0 k fa fd ps (spV (gx X) n m)) (hr : Room k X.A) (hg : Gl X x) (hm : X.mg x = some (.ref fa)) (hk : PySem.W.keepIn X.K (.ref fa) = true) (hb : Binds X.K fd ps [])
    (ha : PA X (e :: es) (aV (gx X) O (eArgs l))) (hn : l.length = n := by rfl) (hdb : (x == ("__debug__" : Str)) = false := by decide) (he : starEach (e :: es) X.env = (false, eval e X.env) :: starEach es X.env := by rfl) (hpl : (backTo pos (starEach es X.env)).any (·.1) = false := by rfl) :
    PE X (.Call (.Name x p) (e :: es) [] pos) (rV (gx X) O (eCall m l)) :=
  (pe_call F hr hg hm hk hb .nil pass0 ha hdb he hpl).imp fun σ H Q ⟨F, env, d, hs, hf, q⟩ => by
    simp only [eCall] at hf
    obtain ⟨ds, h1, hf⟩ := bind_some hf
    have hl : ∀ (l : List SE) (ds : List D), eArgs l env = some ds → ds.length = l.length := by
      intro l
      induction l with
      | nil => intro ds h; cases h; rfl
      | cons a l ih =>
        intro ds h
        simp only [eArgs] at h
        obtain ⟨x, _, h⟩ := bind_some h
        obtain ⟨xs, h2, h⟩ := map_some h
        subst h
        exact congrArg (· + 1) (ih xs h2)
    refine ⟨F, env, ds, hs, h1, fun vs F1 H1 g1 r1 => ?_⟩
    show spV (gx X) n m (vs ++ []) H1 Q E0
    rw [List.append_nil]
    exact ⟨F1, ds, d, (hs.gr g1).fz, r1, (hl l ds h1).trans hn, hf, q.gr g1⟩
theorem ecallN (F : FnOk X.prog X.w (gx X).K (gx X).mg X.base CX0 k fa fd ps (spN (gx X) n m)) (hr : Room k X.A) (hg : Gl X x) (hm : X.mg x = some (.ref fa)) (hk : PySem.W.keepIn X.K (.ref fa) = true) (hb : Binds X.K fd ps [])
    (ha : PA X (e :: es) (aV (gx X) O (eArgs l))) (hn : l.length = n := by rfl) (hdb : (x == ("__debug__" : Str)) = false := by decide) (he : starEach (e :: es) X.env = (false, eval e X.env) :: starEach es X.env := by rfl) (hpl : (backTo pos (starEach es X.env)).any (·.1) = false := by rfl) :
    PE X (.Call (.Name x p) (e :: es) [] pos) (rN (gx X) O (eCall m l)) :=
  (pe_call F hr hg hm hk hb .nil pass0 ha hdb he hpl).imp fun σ H Q ⟨F, env, d, hs, hf, q⟩ => by
    simp only [eCall] at hf
    obtain ⟨ds, h1, hf⟩ := bind_some hf
    have hl : ∀ (l : List SE) (ds : List D), eArgs l env = some ds → ds.length = l.length := by
      intro l
      induction l with
      | nil => intro ds h; cases h; rfl
      | cons a l ih =>
        intro ds h
        simp only [eArgs] at h
        obtain ⟨x, _, h⟩ := bind_some h
        obtain ⟨xs, h2, h⟩ := map_some h
        subst h
        exact congrArg (· + 1) (ih xs h2)
    refine ⟨F, env, ds, hs, h1, fun vs F1 H1 g1 r1 => ?_⟩
    show spN (gx X) n m (vs ++ []) H1 Q E0
    rw [List.append_nil]
    exact ⟨F1, ds, d, (hs.gr g1).fz, r1, (hl l ds h1).trans hn, hf, q.gr g1⟩
end
def CalV (X : Cx) (f : Value) (g : D → Option D) : Prop := CallR X f fun xs H Q => ∃ F x dx d, xs = [x] ∧ Same F H ∧ RpB (gx X) F H x dx ∧ g dx = some d ∧ kV (gx X) F H d Q
def CalN (X : Cx) (f : Value) (g : D → Option D) : Prop := CallR X f fun xs H Q => ∃ F x dx d, xs = [x] ∧ Same F H ∧ RpB (gx X) F H x dx ∧ g dx = some d ∧ kN (gx X) F H d Q
section
variable {X : Cx} {O : List Nat} {e e' : Expr} {f f' : SE} {p pos : Pos} {x : Str} {g : D → Option D} {id T : String}
theorem eB (hc : CalV X (.builtin id) g) (hg : Gl X x) (hm : X.mg x = none) (hv : bootBuiltins x = some (.builtin id)) (ha : PE X e (rB (gx X) O f)) (hn : x ≠ "__name__" := by decide) (hdb : (x == ("__debug__" : Str)) = false := by decide)
    (hs : starEach [e] X.env = (false, eval e X.env) :: starEach [] X.env := by rfl) : PE X (.Call (.Name x p) [e] [] pos) (rV (gx X) O (e1 g f)) :=
  (pe_callB hc hg hm hv (pa_cons ha pa_nil hs) hn hdb hs rfl).imp fun σ H Q ⟨F, env, d, hs, hf, q⟩ => by
    obtain ⟨x, h1, h3⟩ := split1 hf
    exact ⟨F, env, x, hs, h1, fun v F1 H1 g1 r1 => ⟨F1, v, x, d, rfl, g1.fh, r1, h3, q.gr g1⟩⟩
theorem eBN (hc : CalN X (.builtin id) g) (hg : Gl X x) (hm : X.mg x = none) (hv : bootBuiltins x = some (.builtin id)) (ha : PE X e (rB (gx X) O f)) (hn : x ≠ "__name__" := by decide) (hdb : (x == ("__debug__" : Str)) = false := by decide)
    (hs : starEach [e] X.env = (false, eval e X.env) :: starEach [] X.env := by rfl) : PE X (.Call (.Name x p) [e] [] pos) (rN (gx X) O (e1 g f)) :=
  (pe_callB hc hg hm hv (pa_cons ha pa_nil hs) hn hdb hs rfl).imp fun σ H Q ⟨F, env, d, hs, hf, q⟩ => by
    obtain ⟨x, h1, h3⟩ := split1 hf
    exact ⟨F, env, x, hs, h1, fun v F1 H1 g1 r1 => ⟨F1, v, x, d, rfl, g1.fh, r1, h3, q.gr g1⟩⟩
theorem eT (hc : CalV X (.type T) g) (hg : Gl X x) (hm : X.mg x = none) (hv : bootBuiltins x = some (.type T)) (ha : PE X e (rB (gx X) O f)) (hn : x ≠ "__name__" := by decide) (hdb : (x == ("__debug__" : Str)) = false := by decide)
    (hs : starEach [e] X.env = (false, eval e X.env) :: starEach [] X.env := by rfl) : PE X (.Call (.Name x p) [e] [] pos) (rV (gx X) O (e1 g f)) :=
  (pe_callTy hc hg hm hv (pa_cons ha pa_nil hs) hn hdb hs rfl).imp fun σ H Q ⟨F, env, d, hs, hf, q⟩ => by
    obtain ⟨x, h1, h3⟩ := split1 hf
    exact ⟨F, env, x, hs, h1, fun v F1 H1 g1 r1 => ⟨F1, v, x, d, rfl, g1.fh, r1, h3, q.gr g1⟩⟩
end
section
variable {X : Cx} {O : List Nat} {a b : Expr} {fa fb : SE} {pos p2 : Pos}
theorem ixV : IxR X fun x y H Q => ∃ F dx dy d, Same F H ∧ RpB (gx X) F H x dx ∧ RpB (gx X) F H y dy ∧ ixD dx dy = some d ∧ kV (gx X) F H d Q := by
  intro va sl pins s σ H x y v u Q hI rx ry h hp
  obtain ⟨F, dx, dy, d, sm, bx, by_, hd, q⟩ := h
  cases dx with
  | list ds =>
    cases dy with
    | int i =>
      have ey := by_.int
      subst ey
      obtain ⟨p, vs, rfl, hl, r⟩ := bx.lst sm
      obtain ⟨w, h1, h2⟩ := r.atI hd
      exact ix_list va sl pins s σ H _ _ v u Q hI rx ry ⟨p, vs, i, w, rfl, rfl, hl, h1, q.same sm h2⟩ hp
    | _ => cases hd
  | tuple ds =>
    cases dy with
    | int i =>
      have ey := by_.int
      subst ey
      obtain ⟨p, vs, rfl, _, hl, r⟩ := bx.tup sm
      obtain ⟨w, h1, h2⟩ := r.atI hd
      exact ix_tup va sl pins s σ H _ _ v u Q hI rx ry ⟨p, vs, i, w, rfl, rfl, hl, h1, q.same sm h2⟩ hp
    | _ => cases hd
  | str z =>
    cases dy with
    | int i =>
      have ey := by_.int
      subst ey
      have ex := bx.str
      subst ex
      simp only [ixD] at hd
      split at hd
      · rename_i hz
        obtain ⟨c, h1, h2⟩ := map_some hd
        subst h2
        exact ix_str va sl pins s σ H _ _ v u Q hI rx ry ⟨z, i, c, rfl, rfl, hz, h1, q.same sm (.str _)⟩ hp
      · cases hd
    | _ => cases hd
  | _ => cases dy <;> cases hd
theorem eix (ha : PE X a (rB (gx X) O fa)) (hb : PE X b (rB (gx X) O fb)) (hs : PlainIx b := by exact fun _ _ => rfl) : PE X (.Subscript a b pos) (rV (gx X) O (e2 ixD fa fb)) :=
  (pe_ix ixV ha hb hs).imp fun σ H Q ⟨F, env, d, hs, hf, q⟩ => by
    obtain ⟨x, y, h1, h2, h3⟩ := split2 hf
    exact seq2 hs h1 h2 fun v u F' H' g' r1 r2 => ⟨F', x, y, d, g'.fh, r1, r2, h3, q.gr g'⟩
def oV (G : Gx) (O : List Nat) (o : Option SE) : TO := fun σ H Q => ∃ F env k, SOk G O F H σ env ∧ ePart o env = some k ∧ ∀ F' H', Gr F H F' H' → Q k H'
theorem os (ha : PE X a (rV (gx X) O fa)) : PO X (some a) (oV (gx X) O (some fa)) := ⟨fun pins s σ H Q I ⟨F, env, k, hs, hf, q⟩ => by
  simp only [ePart] at hf
  obtain ⟨x, h1, hf⟩ := bind_some hf
  obtain ⟨i, h2, h3⟩ := map_some hf
  have e2 := toI_some h2
  subst e2 h3
  refine (po_some ha).run pins s σ H Q I ⟨F, env, _, hs, h1, fun v F1 H1 g1 r1 => ?_⟩
  cases r1
  exact ⟨i, rfl, q F1 H1 g1⟩⟩
end
end TL

set_option Elab.async false
set_option linter.all false
set_option maxRecDepth 100000
namespace TL
open PySem PySem.Spec PyProof.Rows L2
section
variable {X : Cx}
theorem add_listG {pins : List (Addr × Obj)} {s : Shared} {σ : L2.St} {H : Hp} {Q : VK} {a b : Addr} {xs ys : List V} (I : Inv X pins σ H s) (ha : SqL X.K H a xs) (hb : SqL X.K H b ys) (hz : xs.length + ys.length ≤ sizeLine)
    (q : ∀ p, H p = none → Q (.ref p) (upd H p (.lst (xs ++ ys)))) : wpAny (model X.prog X.w) X.A (binaryOp .Add (.ref a) (.ref b)) (EP X pins σ Q) X.xe s := by
  obtain ⟨its, r, p, _⟩ := I.list ha
  obtain ⟨its2, r2, p2, _⟩ := I.list hb
  have hl := r.length
  have hl2 := r2.length
  obtain ⟨⟨cls, dd, data, sl⟩, n, ho, hc, _, hd⟩ := p
  obtain ⟨⟨cls2, dd2, data2, sl2⟩, n2, ho2, hc2, _, hd2⟩ := p2
  simp only at hc hd hc2 hd2
  subst hc hd hc2 hd2
  have e : its.toArray ++ its2.toArray = (its ++ its2).toArray := by simp
  refine PySem.concat_meets ⟨_, ho, rfl⟩ ⟨_, ho2, rfl⟩ noFill_list_add seq_list_add PySem.F.slot_list_add PySem.F.entry_list_add (PySem.F.args_list_add_2 _ _) (list_addW a b its.toArray its2.toArray n n2 dd dd2 sl sl2 (by simp; omega)) ⟨ho, ho2, ?_⟩
  rw [e]
  exact ⟨.ref _, _, I.lnew (t' := s.toks) (r.append r2) (by rw [List.length_append]; omega), rfl, q _ I.fresh⟩
theorem o_addN : OpN X (binaryOp .Add) addLD := by
  intro pins s σ H x y v u Q I rx ry h
  obtain ⟨F, dx, dy, d, sm, bx, by_, hd, q⟩ := h
  cases dx with
  | list ds =>
    cases dy with
    | list es =>
      obtain ⟨p, vs, rfl, hl, r⟩ := bx.lst sm
      obtain ⟨p', us, rfl, hl', r'⟩ := by_.lst sm
      cases rx
      cases ry
      simp only [addLD, addD] at hd
      split at hd
      · rename_i hz
        cases hd
        refine add_listG I hl hl' (by rw [r.length, r'.length]; exact hz) fun p hp => q.newL sm (r.append r') hp
      · cases hd
    | _ => cases hd
  | _ => cases dy <;> cases hd
theorem o_add : OpV X (binaryOp .Add) addD := by
  intro pins s σ H x y v u Q I rx ry h
  obtain ⟨F, dx, dy, d, sm, bx, by_, hd, q⟩ := h
  cases dx with
  | int i =>
    cases dy with
    | int j =>
      have e1 := bx.int
      have e2 := by_.int
      subst e1 e2
      cases hd
      exact op_add pins s σ H _ _ v u Q I rx ry ⟨i, j, rfl, rfl, q.same sm (.int _)⟩
    | _ => cases hd
  | str i =>
    cases dy with
    | str j =>
      have e1 := bx.str
      have e2 := by_.str
      subst e1 e2
      simp only [addD] at hd
      split at hd
      · rename_i hz
        cases hd
        exact op_add_str pins s σ H _ _ v u Q I rx ry ⟨i, j, rfl, rfl, hz, q.same sm (.str _)⟩
      · cases hd
    | _ => cases hd
  | tuple ds =>
    cases dy with
    | tuple es =>
      obtain ⟨p, vs, rfl, hf, hl, r⟩ := bx.tup sm
      obtain ⟨p', us, rfl, hf', hl', r'⟩ := by_.tup sm
      simp only [addD] at hd
      split at hd
      · rename_i hz
        cases hd
        refine op_catF pins s σ H _ _ v u Q I rx ry ⟨p, p', vs, us, rfl, rfl, hl, hl', by rw [r.length, r'.length]; exact hz, fun e => ?_, fun _ e => ?_, fun _ _ p o hp ho => q.newT sm (r.append r') hp ho⟩
        · subst e
          cases r
          exact q.same sm (.tup hf' r')
        · subst e
          cases r'
          rw [List.append_nil] at q
          exact q.same sm (.tup hf r)
      · cases hd
    | _ => cases hd
  | list ds =>
    cases dy with
    | list es => exact o_addN pins s σ H x y v u Q I rx ry ⟨F, _, _, d, sm, bx, by_, hd, q.n⟩
    | _ => cases hd
  | _ => cases dy <;> cases hd
theorem o_int {f : Value → Value → Sem Value} {r : Int → Int → Hp → VK → Prop} {g : D → D → Option D} (ho : OpR X f fun x y H Q => ∃ i j, x = .int i ∧ y = .int j ∧ r i j H Q)
    (hg : ∀ dx dy d, g dx dy = some d → ∃ i j, dx = .int i ∧ dy = .int j ∧ ∀ (F H : Hp) (Q : VK), Same F H → kV (gx X) F H d Q → r i j H Q) : OpV X f g := by
  intro pins s σ H x y v u Q I rx ry h
  obtain ⟨F, dx, dy, d, sm, bx, by_, hd, q⟩ := h
  obtain ⟨i, j, rfl, rfl, h⟩ := hg dx dy d hd
  exact ho pins s σ H x y v u Q I rx ry ⟨i, j, bx.int, by_.int, h F H Q sm q⟩
theorem okMul_c {a b : Int} (h : okMul a b = true) : CMul a b := by
  simp only [okMul, Bool.or_eq_true, Nat.blt_eq] at h
  rcases h with h | h
  · exact .inl ⟨by omega, by omega⟩
  · exact .inr ⟨by omega, by omega⟩
theorem okDiv_c {i b : Int} (h : okDiv b = true) : CDiv i b := by
  simp only [okDiv, Bool.and_eq_true, Nat.ble_eq] at h
  exact ⟨by omega, by omega⟩
theorem okPow_c {a b : Int} (h : okPow a b = true) : CPow a b := by
  simp only [okPow, Bool.and_eq_true, Nat.ble_eq, Nat.blt_eq] at h
  exact ⟨by omega, by omega, by omega⟩
theorem o_mul : OpV X (binaryOp .Mult) mulD := o_int (r := fun i j H Q => CMul i j ∧ Q (.int (i * j)) H) op_mul fun dx dy d h => by
  cases dx <;> cases dy <;> first | (cases h; done) | skip
  simp only [mulD] at h
  split at h
  · cases h
    exact ⟨_, _, rfl, rfl, fun F H Q sm q => ⟨okMul_c (by assumption), q.same sm (.int _)⟩⟩
  · cases h
theorem o_fdiv : OpV X (binaryOp .FloorDiv) fdivD := o_int (r := fun i j H Q => CDiv i j ∧ Q (.int (i / j)) H) op_fdiv fun dx dy d h => by
  cases dx <;> cases dy <;> first | (cases h; done) | skip
  simp only [fdivD] at h
  split at h
  · cases h
    exact ⟨_, _, rfl, rfl, fun F H Q sm q => ⟨okDiv_c (by assumption), q.same sm (.int _)⟩⟩
  · cases h
theorem o_mod : OpV X (binaryOp .Mod) modD := o_int (r := fun i j H Q => 0 < j ∧ Q (.int (i % j)) H) op_mod fun dx dy d h => by
  cases dx <;> cases dy <;> first | (cases h; done) | skip
  simp only [modD] at h
  split at h
  · cases h
    exact ⟨_, _, rfl, rfl, fun F H Q sm q => ⟨by assumption, q.same sm (.int _)⟩⟩
  · cases h
theorem o_pow : OpV X (binaryOp .Pow) powD := o_int (r := fun i j H Q => CPow i j ∧ Q (.int (i ^ j.toNat)) H) op_pow fun dx dy d h => by
  cases dx <;> cases dy <;> first | (cases h; done) | skip
  simp only [powD] at h
  split at h
  · cases h
    exact ⟨_, _, rfl, rfl, fun F H Q sm q => ⟨okPow_c (by assumption), q.same sm (.int _)⟩⟩
  · cases h
theorem lexAt_shift {e r : Nat → Bool} {z : Bool} {n : Nat} : ∀ {i : Nat}, Ob.lexAt e r z (i + 1) n = Ob.lexAt (fun j => e (j + 1)) (fun j => r (j + 1)) z i n := by
  induction n with
  | zero => intro i; rfl
  | succ n ih =>
    intro i
    rw [Ob.lexAt_succ, Ob.lexAt_succ, ih]
theorem lexAt_lt : ∀ (ns ms : List Int), Ob.lexAt (fun j => decide (ns.getD j 0 = ms.getD j 0)) (fun j => decide (ns.getD j 0 < ms.getD j 0)) (decide (ns.length < ms.length)) 0 (min ns.length ms.length) = lexLt ns ms
  | [], [] => rfl
  | [], _ :: _ => by simp [lexLt, Ob.lexAt_zero]
  | _ :: _, [] => by simp [lexLt, Ob.lexAt_zero]
  | x :: ns, y :: ms => by
    have ih := lexAt_lt ns ms
    rw [show min (x :: ns).length (y :: ms).length = min ns.length ms.length + 1 by simp only [List.length_cons]; omega, Ob.lexAt_succ, lexAt_shift]
    have e1 : (decide ((x :: ns).length < (y :: ms).length)) = decide (ns.length < ms.length) := by simp
    rw [e1]
    show (if decide (x = y) = true then Ob.lexAt (fun j => decide (ns.getD j 0 = ms.getD j 0)) (fun j => decide (ns.getD j 0 < ms.getD j 0)) (decide (ns.length < ms.length)) 0 (min ns.length ms.length) else decide (x < y)) = lexLt (x :: ns) (y :: ms)
    rw [ih]
    show _ = if x = y then lexLt ns ms else decide (x < y)
    by_cases h : x = y
    · simp [h]
    · simp [h]
theorem lexAt_le : ∀ (ns ms : List Int), Ob.lexAt (fun j => decide (ns.getD j 0 = ms.getD j 0)) (fun j => decide (ns.getD j 0 ≤ ms.getD j 0)) (decide (ns.length ≤ ms.length)) 0 (min ns.length ms.length) = !lexLt ms ns
  | [], [] => rfl
  | [], _ :: _ => by simp [lexLt, Ob.lexAt_zero]
  | _ :: _, [] => by simp [lexLt, Ob.lexAt_zero]
  | x :: ns, y :: ms => by
    have ih := lexAt_le ns ms
    rw [show min (x :: ns).length (y :: ms).length = min ns.length ms.length + 1 by simp only [List.length_cons]; omega, Ob.lexAt_succ, lexAt_shift]
    have e1 : (decide ((x :: ns).length ≤ (y :: ms).length)) = decide (ns.length ≤ ms.length) := by simp
    rw [e1]
    show (if decide (x = y) = true then Ob.lexAt (fun j => decide (ns.getD j 0 = ms.getD j 0)) (fun j => decide (ns.getD j 0 ≤ ms.getD j 0)) (decide (ns.length ≤ ms.length)) 0 (min ns.length ms.length) else decide (x ≤ y)) = !lexLt (y :: ms) (x :: ns)
    rw [ih]
    show _ = !(if y = x then lexLt ms ns else decide (y < x))
    by_cases h : x = y
    · simp [h]
    · have h' : ¬ y = x := fun z => h z.symm
      simp only [h, h', decide_false, Bool.false_eq_true, if_false]
      by_cases h1 : x ≤ y
      · have h2 : ¬ y < x := by omega
        simp [h1, h2]
      · have h2 : y < x := by omega
        simp [h1, h2]
theorem tupOrd {op : CmpOp} {pi : Int → Int → Bool} {pz : Nat → Nat → Bool} (hu : X.A.units < cLine) (ri : ∀ {A : Around} {s : Shared} (a b : Int) (t u : Tok), Ob.RcOp op A s (.int a t) (.int b u) (pi a b))
    (rule : ∀ {A : Around} {s : Shared} {l b : Addr} {items items2 : Array Value} {e r : Nat → Bool}, s.heap.IsTuple l items → s.heap.IsTuple b items2 → A.units < cLine →
      (∀ j (h1 : j < items.size) (h2 : j < items2.size), SeqAt.EqAt A.in1 s items[j] items2[j] (e j)) → (∀ j (h1 : j < items.size) (h2 : j < items2.size), e j = false → Ob.RcOp op A.in1 s items[j] items2[j] (r j)) →
      Ob.RcOp op A s (.ref l) (.ref b) (Ob.lexAt e r (pz items.size items2.size) 0 (min items.size items2.size)))
    (hop : ∀ v u, compareOp op v u = richCompare op v u)
    {pins : List (Addr × Obj)} {s : Shared} {σ : L2.St} {H : Hp} {Q : VK} {a b : Addr} {ns ms : List Int} (I : Inv X pins σ H s) (ha : SqT X.K H a (ns.map V.int)) (hb : SqT X.K H b (ms.map V.int))
    (q : Q (.bl (Ob.lexAt (fun j => decide (ns.getD j 0 = ms.getD j 0)) (fun j => pi (ns.getD j 0) (ms.getD j 0)) (pz ns.length ms.length) 0 (min ns.length ms.length))) H) :
    wpAny (model X.prog X.w) X.A (compareOp op (.ref a) (.ref b)) (EP X pins σ Q) X.xe s := by
  obtain ⟨its, r1, p1, _⟩ := I.tuple ha
  obtain ⟨its2, r2, p2, _⟩ := I.tuple hb
  have i1 : IntsAre its ns := Vals.ints r1
  have i2 : IntsAre its2 ms := Vals.ints r2
  have e1 : its.toArray.size = ns.length := by rw [List.size_toArray]; exact i1.length
  have e2 : its2.toArray.size = ms.length := by rw [List.size_toArray]; exact i2.length
  have at1 : ∀ j (h1 : j < its.toArray.size), ∃ t, its.toArray[j] = .int (ns.getD j 0) t := fun j h1 => PyProof.Rows.IntsAre.int_at i1 _ _ (by simp at h1; simp [h1])
  have at2 : ∀ j (h1 : j < its2.toArray.size), ∃ t, its2.toArray[j] = .int (ms.getD j 0) t := fun j h1 => PyProof.Rows.IntsAre.int_at i2 _ _ (by simp at h1; simp [h1])
  have R := rule (A := X.A) (s := s) (e := fun j => decide (ns.getD j 0 = ms.getD j 0)) (r := fun j => pi (ns.getD j 0) (ms.getD j 0)) p1 p2 hu (fun j h1 h2 => by
    obtain ⟨t, et⟩ := at1 j h1
    obtain ⟨t', et'⟩ := at2 j h2
    rw [et, et']
    have z : (ns.getD j 0 == ms.getD j 0) = decide (ns.getD j 0 = ms.getD j 0) := by
      by_cases q : ns.getD j 0 = ms.getD j 0
      · rw [decide_eq_true q]; exact beq_iff_eq.mpr q
      · rw [decide_eq_false q]; exact beq_eq_false_iff_ne.mpr q
    rw [← z]
    exact SeqAt.EqAt.int_int _ _ _ _) (fun j h1 h2 _ => by
    obtain ⟨t, et⟩ := at1 j h1
    obtain ⟨t', et'⟩ := at2 j h2
    rw [et, et']
    exact ri _ _ _ _)
  rw [e1, e2] at R
  rw [hop]
  exact R X.prog X.w X.xe (EP X pins σ Q) ⟨.bl _, H, I, rfl, q⟩
theorem o_ord {op : CmpOp} {g : D → D → Option D} {pi : Int → Int → Bool} {pt : List Int → List Int → Bool} (hi : OpR X (compareOp op) (rI0 fun i j => .bl (pi i j)))
    (ht : ∀ {pins : List (Addr × Obj)} {s : Shared} {σ : L2.St} {H : Hp} {Q : VK} {a b : Addr} {ns ms : List Int}, Inv X pins σ H s → SqT X.K H a (ns.map V.int) → SqT X.K H b (ms.map V.int) → Q (.bl (pt ns ms)) H → wpAny (model X.prog X.w) X.A (compareOp op (.ref a) (.ref b)) (EP X pins σ Q) X.xe s)
    (hg : ∀ dx dy d, g dx dy = some d → (∃ i j, dx = .int i ∧ dy = .int j ∧ d = .bool (pi i j)) ∨ ∃ xs ys ns ms, dx = .tuple xs ∧ dy = .tuple ys ∧ intsOf xs = some ns ∧ intsOf ys = some ms ∧ d = .bool (pt ns ms)) : OpV X (compareOp op) g := by
  intro pins s σ H x y v u Q I rx ry h
  obtain ⟨F, dx, dy, d, sm, bx, by_, hd, q⟩ := h
  rcases hg dx dy d hd with ⟨i, j, rfl, rfl, rfl⟩ | ⟨xs, ys, ns, ms, rfl, rfl, h1, h2, rfl⟩
  · exact hi pins s σ H x y v u Q I rx ry ⟨i, j, bx.int, by_.int, q.same sm (.bl _)⟩
  · obtain ⟨p, vs, rfl, _, hl, r⟩ := bx.tup sm
    obtain ⟨p', us, rfl, _, hl', r'⟩ := by_.tup sm
    cases rx
    cases ry
    rw [r.ints h1] at hl
    rw [r'.ints h2] at hl'
    exact ht I hl hl' (q.same sm (.bl _))
theorem ordSplit {g : List Int → List Int → D} {xs ys : List D} {d : D} (h : ((intsOf xs).bind fun x => (intsOf ys).map fun y => g x y) = some d) : ∃ ns ms, intsOf xs = some ns ∧ intsOf ys = some ms ∧ d = g ns ms := by
  obtain ⟨ns, h1, h⟩ := bind_some h
  obtain ⟨ms, h2, h⟩ := map_some h
  exact ⟨ns, ms, h1, h2, h.symm⟩
theorem o_lt (hu : X.A.units < cLine) : OpV X (compareOp .Lt) ltD := o_ord (pi := fun i j => decide (i < j)) (pt := fun x y => lexLt x y) op_lt
  (fun I ha hb q => tupOrd (op := .Lt) (pi := fun i j => decide (i < j)) (pz := fun i j => decide (i < j)) hu (fun a b t u => Ob.RcOp.lt_int a b t u) (fun h1 h2 h3 h4 h5 => Ob.RcOp.tuples_lt h1 h2 h3 h4 h5) (fun _ _ => rfl) I ha hb (by rw [lexAt_lt]; exact q)) fun dx dy d h => by
  cases dx <;> cases dy <;> first | (cases h; done) | skip
  · cases h; exact .inl ⟨_, _, rfl, rfl, rfl⟩
  · obtain ⟨ns, ms, h1, h2, h3⟩ := ordSplit (g := fun x y => .bool (lexLt x y)) h
    exact .inr ⟨_, _, ns, ms, rfl, rfl, h1, h2, h3⟩
theorem o_gt (hu : X.A.units < cLine) : OpV X (compareOp .Gt) gtD := o_ord (pi := fun i j => decide (j < i)) (pt := fun x y => lexLt y x) op_gt
  (fun {pins s σ H Q a b ns ms} I ha hb q => tupOrd (op := .Gt) (pi := fun i j => decide (j < i)) (pz := fun i j => decide (i > j)) hu (fun a b t u => Ob.RcOp.gt_int a b t u) (fun h1 h2 h3 h4 h5 => Ob.RcOp.tuples_gt h1 h2 h3 h4 h5) (fun _ _ => rfl) I ha hb (by
    have e := lexAt_lt ms ns
    rw [Nat.min_comm] at e
    rw [show (fun j => decide (ns.getD j 0 = ms.getD j 0)) = fun j => decide (ms.getD j 0 = ns.getD j 0) from funext fun j => by rw [decide_eq_decide]; exact ⟨Eq.symm, Eq.symm⟩]
    show Q (.bl (Ob.lexAt _ _ (decide (ms.length < ns.length)) 0 _)) H
    rw [e]; exact q)) fun dx dy d h => by
  cases dx <;> cases dy <;> first | (cases h; done) | skip
  · cases h; exact .inl ⟨_, _, rfl, rfl, rfl⟩
  · obtain ⟨ns, ms, h1, h2, h3⟩ := ordSplit (g := fun x y => .bool (lexLt y x)) h
    exact .inr ⟨_, _, ns, ms, rfl, rfl, h1, h2, h3⟩
theorem o_le (hu : X.A.units < cLine) : OpV X (compareOp .LtE) leD := o_ord (pi := fun i j => decide (i ≤ j)) (pt := fun x y => !lexLt y x) op_le
  (fun I ha hb q => tupOrd (op := .LtE) (pi := fun i j => decide (i ≤ j)) (pz := fun i j => decide (i ≤ j)) hu (fun a b t u => Ob.RcOp.le_int a b t u) (fun h1 h2 h3 h4 h5 => Ob.RcOp.tuples_le h1 h2 h3 h4 h5) (fun _ _ => rfl) I ha hb (by rw [lexAt_le]; exact q)) fun dx dy d h => by
  cases dx <;> cases dy <;> first | (cases h; done) | skip
  · cases h; exact .inl ⟨_, _, rfl, rfl, rfl⟩
  · obtain ⟨ns, ms, h1, h2, h3⟩ := ordSplit (g := fun x y => .bool (!lexLt y x)) h
    exact .inr ⟨_, _, ns, ms, rfl, rfl, h1, h2, h3⟩
theorem o_ge (hu : X.A.units < cLine) : OpV X (compareOp .GtE) geD := o_ord (pi := fun i j => decide (j ≤ i)) (pt := fun x y => !lexLt x y) op_ge
  (fun {pins s σ H Q a b ns ms} I ha hb q => tupOrd (op := .GtE) (pi := fun i j => decide (j ≤ i)) (pz := fun i j => decide (i ≥ j)) hu (fun a b t u => Ob.RcOp.ge_int a b t u) (fun h1 h2 h3 h4 h5 => Ob.RcOp.tuples_ge h1 h2 h3 h4 h5) (fun _ _ => rfl) I ha hb (by
    have e := lexAt_le ms ns
    rw [Nat.min_comm] at e
    rw [show (fun j => decide (ns.getD j 0 = ms.getD j 0)) = fun j => decide (ms.getD j 0 = ns.getD j 0) from funext fun j => by rw [decide_eq_decide]; exact ⟨Eq.symm, Eq.symm⟩]
    show Q (.bl (Ob.lexAt _ _ (decide (ms.length ≤ ns.length)) 0 _)) H
    rw [e]; exact q)) fun dx dy d h => by
  cases dx <;> cases dy <;> first | (cases h; done) | skip
  · cases h; exact .inl ⟨_, _, rfl, rfl, rfl⟩
  · obtain ⟨ns, ms, h1, h2, h3⟩ := ordSplit (g := fun x y => .bool (!lexLt x y)) h
    exact .inr ⟨_, _, ns, ms, rfl, rfl, h1, h2, h3⟩
theorem o_eq (hu : X.A.units + 64 < cLine) : OpV X (compareOp .Eq) eqD := by
  intro pins s σ H x y v u Q I rx ry h
  obtain ⟨F, dx, dy, d, sm, bx, by_, hd, q⟩ := h
  unfold eqD at hd
  split at hd
  · rename_i hs
    cases hd
    exact op_eqD hu pins s σ H x y v u Q I rx ry ⟨dx, dy, bx.shp sm hs.1, by_.shp sm hs.2, hs.1, hs.2, q.same sm (.bl _)⟩
  · cases hd
theorem o_ne (hu : X.A.units + 64 < cLine) : OpV X (compareOp .NotEq) neD := by
  intro pins s σ H x y v u Q I rx ry h
  obtain ⟨F, dx, dy, d, sm, bx, by_, hd, q⟩ := h
  unfold neD at hd
  split at hd
  · rename_i hs
    cases hd
    exact op_neD hu pins s σ H x y v u Q I rx ry ⟨dx, dy, bx.shp sm hs.1, by_.shp sm hs.2, hs.1, hs.2, q.same sm (.bl _)⟩
  · cases hd
theorem in_tupD (hu : X.A.units + 65 < cLine) {pins : List (Addr × Obj)} {s : Shared} {σ : L2.St} {H : Hp} {x y : V} {v u : Value} {Q : VK} {d : D} {ds : List D} (I : Inv X pins σ H s) (rx : RelV x v) (ry : RelV y u) (hd : Dp X.K H x d) (he : Dp X.K H y (.tuple ds))
    (sd : SeqAt.shaped d = true) (se : SeqAt.shaped (.tuple ds) = true) (q : Q (.bl (ds.any fun z => PyData.eqv z d)) H) : wpAny (model X.prog X.w) X.A (compareOp .In v u) (EP X pins σ Q) X.xe s := by
  obtain ⟨as, r1⟩ := Dp.reads I d x v hd rx
  obtain ⟨bs, r2⟩ := Dp.reads I (.tuple ds) y u he ry
  exact SeqAt.in_tuple_reads r2 r1 (SeqAt.canLay_of_shaped se) (SeqAt.canLay_of_shaped sd) (room_in_shaped sd hu) ⟨.bl _, H, I, rfl, q⟩
theorem nin_tupD (hu : X.A.units + 65 < cLine) {pins : List (Addr × Obj)} {s : Shared} {σ : L2.St} {H : Hp} {x y : V} {v u : Value} {Q : VK} {d : D} {ds : List D} (I : Inv X pins σ H s) (rx : RelV x v) (ry : RelV y u) (hd : Dp X.K H x d) (he : Dp X.K H y (.tuple ds))
    (sd : SeqAt.shaped d = true) (se : SeqAt.shaped (.tuple ds) = true) (q : Q (.bl (!ds.any fun z => PyData.eqv z d)) H) : wpAny (model X.prog X.w) X.A (compareOp .NotIn v u) (EP X pins σ Q) X.xe s := by
  obtain ⟨as, r1⟩ := Dp.reads I d x v hd rx
  obtain ⟨bs, r2⟩ := Dp.reads I (.tuple ds) y u he ry
  exact SeqAt.notIn_tuple_reads r2 r1 (SeqAt.canLay_of_shaped se) (SeqAt.canLay_of_shaped sd) (room_in_shaped sd hu) ⟨.bl _, H, I, rfl, q⟩
theorem o_in (hu : X.A.units + 65 < cLine) : OpV X (compareOp .In) inD := by
  intro pins s σ H x y v u Q I rx ry h
  obtain ⟨F, dx, dy, d, sm, bx, by_, hd, q⟩ := h
  cases dy with
  | list ds =>
    simp only [inD] at hd
    split at hd
    · rename_i hs
      cases hd
      exact op_inD hu pins s σ H x y v u Q I rx ry ⟨dx, ds, bx.shp sm hs.1, by_.shp sm hs.2, hs.1, hs.2, q.same sm (.bl _)⟩
    · cases hd
  | tuple ds =>
    simp only [inD] at hd
    split at hd
    · rename_i hs
      cases hd
      exact in_tupD hu I rx ry (bx.shp sm hs.1) (by_.shp sm hs.2) hs.1 hs.2 (q.same sm (.bl _))
    · cases hd
  | _ => cases hd
theorem o_nin (hu : X.A.units + 65 < cLine) : OpV X (compareOp .NotIn) ninD := by
  intro pins s σ H x y v u Q I rx ry h
  obtain ⟨F, dx, dy, d, sm, bx, by_, hd, q⟩ := h
  cases dy with
  | list ds =>
    by_cases hs : SeqAt.shaped dx = true ∧ SeqAt.shaped (.list ds) = true
    · simp only [ninD, inD, if_pos hs] at hd
      cases hd
      exact op_notInD hu pins s σ H x y v u Q I rx ry ⟨dx, ds, bx.shp sm hs.1, by_.shp sm hs.2, hs.1, hs.2, q.same sm (.bl _)⟩
    · simp only [ninD, inD, if_neg hs] at hd
      cases hd
  | tuple ds =>
    by_cases hs : SeqAt.shaped dx = true ∧ SeqAt.shaped (.tuple ds) = true
    · simp only [ninD, inD, if_pos hs] at hd
      cases hd
      exact nin_tupD hu I rx ry (bx.shp sm hs.1) (by_.shp sm hs.2) hs.1 hs.2 (q.same sm (.bl _))
    · simp only [ninD, inD, if_neg hs] at hd
      cases hd
  | _ => cases hd
end
end TL

set_option Elab.async false
set_option linter.all false
set_option maxRecDepth 100000
namespace TL
open PySem PySem.Spec PyProof.Rows L2
section
variable {X : Cx}
theorem c_len : CalV X (.builtin "len") lenD := by
  intro pins s σ H xs us Q I r h
  obtain ⟨F, x, dx, d, rfl, sm, bx, hd, q⟩ := h
  cases dx with
  | list ds =>
    obtain ⟨p, vs, rfl, hl, r'⟩ := bx.lst sm
    cases hd
    exact call_len_seq pins s σ H _ us Q I r ⟨p, vs, rfl, .inl hl, by rw [r'.length]; exact q.same sm (.int _)⟩
  | tuple ds =>
    obtain ⟨p, vs, rfl, _, hl, r'⟩ := bx.tup sm
    cases hd
    exact call_len_seq pins s σ H _ us Q I r ⟨p, vs, rfl, .inr hl, by rw [r'.length]; exact q.same sm (.int _)⟩
  | str z =>
    have e := bx.str
    subst e
    simp only [lenD] at hd
    split at hd
    · cases hd
      exact call_len_str pins s σ H _ us Q I r ⟨z, rfl, by assumption, q.same sm (.int _)⟩
    · cases hd
  | _ => cases hd
theorem c_tuple : CalV X (.type "tuple") tupleD := by
  intro pins s σ H xs us Q I r h
  obtain ⟨F, x, dx, d, rfl, sm, bx, hd, q⟩ := h
  cases dx with
  | list ds =>
    obtain ⟨p, vs, rfl, hl, r'⟩ := bx.lst sm
    cases hd
    exact call_tuple_ofF pins s σ H _ us Q I r ⟨p, vs, rfl, .inl ⟨hl, fun l o hl ho => q.newT sm r' hl ho⟩⟩
  | tuple ds =>
    obtain ⟨p, vs, rfl, hf, hl, r'⟩ := bx.tup sm
    cases hd
    exact call_tuple_ofF pins s σ H _ us Q I r ⟨p, vs, rfl, .inr ⟨hl, q.same sm (.tup hf r')⟩⟩
  | _ => cases hd
theorem c_int : CalV X (.type "int") intD := by
  intro pins s σ H xs us Q I r h
  obtain ⟨F, x, dx, d, rfl, sm, bx, hd, q⟩ := h
  cases dx with
  | int i =>
    have e := bx.int
    subst e
    cases hd
    exact call_int1 pins s σ H _ us Q I r (.inl ⟨i, rfl, q.same sm (.int _)⟩)
  | bool i =>
    have e := bx.bl
    subst e
    cases hd
    exact call_int1 pins s σ H _ us Q I r (.inr ⟨i, rfl, q.same sm (.int _)⟩)
  | _ => cases hd
theorem c_all (hc : X.calm = true) : CalV X (.builtin "all") allD := by
  intro pins s σ H xs us Q I r h
  obtain ⟨F, x, dx, d, rfl, sm, bx, hd, q⟩ := h
  cases dx with
  | list ds =>
    obtain ⟨p, vs, rfl, hl, r'⟩ := bx.lst sm
    obtain ⟨bs, h1, h2⟩ := map_some (show (boolsOf ds).map _ = some d from hd)
    subst h2
    rw [r'.bools h1] at hl
    exact cr_all hc pins s σ H _ us Q I r ⟨p, bs, rfl, hl, q.same sm (.bl _)⟩
  | _ => cases hd
theorem c_any (hc : X.calm = true) : CalV X (.builtin "any") anyD := by
  intro pins s σ H xs us Q I r h
  obtain ⟨F, x, dx, d, rfl, sm, bx, hd, q⟩ := h
  cases dx with
  | list ds =>
    obtain ⟨p, vs, rfl, hl, r'⟩ := bx.lst sm
    obtain ⟨bs, h1, h2⟩ := map_some (show (boolsOf ds).map _ = some d from hd)
    subst h2
    rw [r'.bools h1] at hl
    exact cr_any hc pins s σ H _ us Q I r ⟨p, bs, rfl, hl, q.same sm (.bl _)⟩
  | _ => cases hd
def tyS : Ty → String
  | .int => "int"
  | .bool => "bool"
  | .str => "str"
  | .tuple => "tuple"
  | .list => "list"
  | .dict => "dict"
theorem kb (a : String) (t : Ty) (ha : a = "NoneType" ∨ a = "int" ∨ a = "bool" ∨ a = "str" ∨ a = "tuple" ∨ a = "list") : kitB a (tyS t) = some (isTy t (match a with | "int" => .int 0 | "bool" => .bool true | "str" => .str ⟨#[]⟩ | "tuple" => .tuple [] | "list" => .list [] | _ => .none)) := by
  rcases ha with rfl | rfl | rfl | rfl | rfl | rfl <;> cases t <;> decide +kernel
theorem tyx_lst {K : PySem.W.Frag} {H : Hp} {a : Addr} {xs : List V} (h : SqL K H a xs) : TyX K H (.ref a) (.type "list") := by
  rcases h with (h | ⟨o, h⟩) | ⟨o, its, n, hk, hc, _⟩
  · exact .base (.lst h)
  · exact .base (.frz h)
  · exact .kList hk hc
theorem tyx_tup {K : PySem.W.Frag} {H : Hp} {a : Addr} {xs : List V} (h : SqT K H a xs) : TyX K H (.ref a) (.type "tuple") := by
  rcases h with (h | ⟨o, h⟩) | ⟨o, its, n, hk, hc, _⟩
  · exact .base (.tup h)
  · exact .fTuple h
  · exact .kTuple hk hc
theorem c_isi {pins : List (Addr × Obj)} {s : Shared} {σ : L2.St} {F H : Hp} {x : V} {dx d : D} {us : List Value} {Q : VK} {t : Ty} (I : Inv X pins σ H s) (r : Vals [x, .ty (tyS t)] us) (sm : Same F H) (bx : RpB (gx X) F H x dx) (hd : isiD t dx = some d) (q : kV (gx X) F H d Q) :
    wpAny (model X.prog X.w) X.A (call (.builtin "isinstance") us) (EP X pins σ Q) X.xe s := by
  have go : ∀ {a : String} {b : Bool}, TyX X.K H x (.type a) → kitB a (tyS t) = some b → Q (.bl b) H → wpAny (model X.prog X.w) X.A (call (.builtin "isinstance") us) (EP X pins σ Q) X.xe s :=
    fun {a b} ty e qq => call_isi pins s σ H _ us Q I r ⟨x, .ty (tyS t), .type a, .type (tyS t), b, rfl, .ty _, ty, kit_ty e, qq⟩
  cases dx with
  | none =>
    have e := bx.non
    subst e
    cases hd
    have hk := kb "NoneType" t (.inl rfl)
    exact go (.base .non) hk (q.same sm (by cases t <;> exact .bl _))
  | bool b =>
    have e := bx.bl
    subst e
    cases hd
    have hk := kb "bool" t (.inr (.inr (.inl rfl)))
    exact go (.base (.bl b)) hk (q.same sm (by cases t <;> exact .bl _))
  | int i =>
    have e := bx.int
    subst e
    cases hd
    have hk := kb "int" t (.inr (.inl rfl))
    exact go (.base (.int i)) hk (q.same sm (by cases t <;> exact .bl _))
  | str z =>
    have e := bx.str
    subst e
    cases hd
    have hk := kb "str" t (.inr (.inr (.inr (.inl rfl))))
    exact go (.base (.str z)) hk (q.same sm (by cases t <;> exact .bl _))
  | tuple ds =>
    obtain ⟨p, vs, rfl, _, hl, r'⟩ := bx.tup sm
    cases hd
    have hk := kb "tuple" t (.inr (.inr (.inr (.inr (.inl rfl)))))
    exact go (tyx_tup hl) hk (q.same sm (by cases t <;> exact .bl _))
  | list ds =>
    obtain ⟨p, vs, rfl, hl, r'⟩ := bx.lst sm
    cases hd
    have hk := kb "list" t (.inr (.inr (.inr (.inr (.inr rfl)))))
    exact go (tyx_lst hl) hk (q.same sm (by cases t <;> exact .bl _))
  | dict _ => cases hd
variable {O : List Nat} {e : Expr} {f : SE} {p p2 pos : Pos} {x y : Str}
theorem eisi (t : Ty) (hg : Gl X "isinstance") (hm : X.mg "isinstance" = none) (hg2 : Gl X y) (hm2 : X.mg y = none) (hv2 : bootBuiltins y = some (.type (tyS t))) (ha : PE X e (rB (gx X) O f))
    (hn2 : y ≠ "__name__" := by decide) (hd2 : (y == ("__debug__" : Str)) = false := by decide) (hs : starEach [e, .Name y p2] X.env = (false, eval e X.env) :: starEach [.Name y p2] X.env := by rfl)
    (hs2 : starEach [.Name y p2] X.env = (false, eval (.Name y p2) X.env) :: starEach [] X.env := by rfl) (hpl : (backTo pos (starEach [.Name y p2] X.env)).any (·.1) = false := by rfl) :
    PE X (.Call (.Name "isinstance" p) [e, .Name y p2] [] pos) (rV (gx X) O (e1 (isiD t) f)) := by
  have hc : CallR X (.builtin "isinstance") fun xs H Q => ∃ F x dx d, xs = [x, .ty (tyS t)] ∧ Same F H ∧ RpB (gx X) F H x dx ∧ isiD t dx = some d ∧ kV (gx X) F H d Q := by
    intro pins s σ H xs us Q I r h
    obtain ⟨F, x, dx, d, rfl, sm, bx, hd, q⟩ := h
    exact c_isi I r sm bx hd q
  refine (pe_callB hc hg hm (by decide +kernel) (pa_cons ha (pa_cons (pe_bltn (v := .ty (tyS t)) hg2 hm2 hv2 rfl hn2 hd2) pa_nil hs2) hs) (by decide) (by decide) hs hpl).imp fun σ H Q ⟨F, env, d, hs, hf, q⟩ => ?_
  obtain ⟨x, h1, h3⟩ := split1 hf
  exact ⟨F, env, x, hs, h1, fun v F1 H1 g1 r1 => ⟨F1, v, x, d, rfl, g1.fh, r1, h3, q.gr g1⟩⟩
end
end TL

set_option Elab.async false
set_option linter.all false
set_option maxRecDepth 100000
namespace TL
open PySem PySem.Spec PyProof.Rows L2
def HLen (K : PySem.W.Frag) (H : Hp) : Prop := (∀ a xs, SqL K H a xs → xs.length ≤ sizeLine) ∧ ∀ a xs, SqT K H a xs → xs.length ≤ sizeLine
theorem pe_hl {X : Cx} {e : Expr} {t : TE} (h : PE X e t) : PE X e fun σ H Q => t σ H fun v H' => HLen X.K H' → Q v H' := by
  refine ⟨fun pins s σ H Q I q => thn (h.run pins s σ H _ I q) fun u s1 ⟨v, H', I', r, q'⟩ => ⟨v, H', I', r, q' ⟨fun a xs h => ?_, fun a xs h => ?_⟩⟩⟩
  · obtain ⟨_, _, _, z⟩ := I'.list h; exact z
  · obtain ⟨_, _, _, z⟩ := I'.tuple h; exact z
def ItV (G : Gx) (J : It) (F : Hp) (ds : List D) : Prop := ∀ i F2 H2, Same F F2 → Same F2 H2 →
  (∀ d, ds[i]? = some d → J.go i H2 ∧ ∀ v H3, J.yld i H2 v H3 → H3 = H2 ∧ Rp G F2 v d) ∧ (ds[i]? = none → J.stop i H2)
def ItB (G : Gx) (J : It) (F H : Hp) (ds : List D) : Prop := ∀ i F2 H2, Same F F2 → SameN H H2 → Same F2 H2 →
  (∀ d, ds[i]? = some d → J.go i H2 ∧ ∀ v H3, J.yld i H2 v H3 → H3 = H2 ∧ Rp G F2 v d) ∧ (ds[i]? = none → J.stop i H2)
theorem ItV.b {G : Gx} {J : It} {F H : Hp} {ds : List D} (h : ItV G J F ds) : ItB G J F H ds := fun i F2 H2 a _ c => h i F2 H2 a c
def iV (G : Gx) (O : List Nat) (f : SI) : TI := fun σ H R => ∃ F env ds, SOk G O F H σ env ∧ f env = some ds ∧ ∀ J F' H', Gr F H F' H' → ds.length ≤ sizeLine → ItV G J F' ds → R J H'
def iB (G : Gx) (O : List Nat) (f : SI) : TI := fun σ H R => ∃ F env ds, SOk G O F H σ env ∧ f env = some ds ∧ ∀ J F' H', Gr F H F' H' → ds.length ≤ sizeLine → ItB G J F' H' ds → R J H'
section
variable {G : Gx} {F H : Hp}
theorem range_get (lo : Int) : ∀ (n i : Nat), (rangeL lo n)[i]? = if i < n then some (.int (lo + i)) else none := by
  intro n
  induction n generalizing lo with
  | zero => intro i; simp [rangeL]
  | succ n ih =>
    intro i
    cases i with
    | zero => simp [rangeL]
    | succ i =>
      show (rangeL (lo + 1) n)[i]? = _
      rw [ih (lo + 1) i]
      by_cases h : i < n
      · rw [if_pos h, if_pos (by omega)]
        congr 2
        omega
      · rw [if_neg h, if_neg (by omega)]
theorem range_len (lo : Int) : ∀ n : Nat, (rangeL lo n).length = n
  | 0 => rfl
  | n + 1 => congrArg (· + 1) (range_len (lo + 1) n)
theorem itv_range (lo : Int) (n : Nat) : ItV G (Itr lo n) F (rangeL lo n) := fun i F2 H2 _ _ => by
  rw [range_get]
  refine ⟨fun d e => ?_, fun e => ?_⟩
  · by_cases h : i < n
    · rw [if_pos h] at e
      cases e
      exact ⟨h, fun v H3 ⟨h1, h2⟩ => by subst h2; exact ⟨h1, .int _⟩⟩
    · rw [if_neg h] at e; cases e
  · by_cases h : i < n
    · rw [if_pos h] at e; cases e
    · show n ≤ i
      omega
end
section
variable {X : Cx} {O : List Nat} {tg a b : Expr} {fa fb : SE} {p pos : Pos}
theorem _root_.L2.PI.imp {t t' : TI} {it : Expr} (h : PI X tg it t) (i : ∀ σ H Q, t' σ H Q → t σ H Q) : PI X tg it t' := ⟨fun pins s σ H R I q => h.run pins s σ H R I (i σ H R q)⟩
theorem iv_b {it : Expr} {f : SI} (h : PI X tg it (iV (gx X) O f)) : PI X tg it (iB (gx X) O f) := h.imp fun σ H R ⟨F, env, ds, hs, hf, q⟩ => ⟨F, env, ds, hs, hf, fun J F' H' g z k => q J F' H' g z k.b⟩
theorem rngSplit {lo hi : Int} {ds : List D} (h : rangeD lo hi = some ds) : -(2 ^ 62) ≤ lo ∧ lo < 2 ^ 62 ∧ -(2 ^ 62) ≤ hi ∧ hi < 2 ^ 62 ∧ (hi - lo).toNat ≤ sizeLine ∧ ds = rangeL lo (hi - lo).toNat := by
  unfold rangeD at h
  split at h
  · rename_i z
    simp only [okRng, Bool.and_eq_true, Nat.ble_eq] at z
    exact ⟨by omega, by omega, by omega, by omega, z.2, (Option.some.inj h).symm⟩
  · cases h
theorem irng1 (hg : Gl X "range") (hm : X.mg "range" = none) (ha : PE X a (rV (gx X) O fa)) (hs : starEach [a] X.env = [(false, eval a X.env)] := by rfl) : PI X tg (.Call (.Name "range" p) [a] [] pos) (iV (gx X) O (iRng1 fa)) :=
  (pi_range1 hg hm (pa_cons ha pa_nil hs) hs).imp fun σ H R ⟨F, env, ds, hs, hf, q⟩ => by
    simp only [iRng1] at hf
    obtain ⟨x, h1, hf⟩ := bind_some hf
    obtain ⟨n, h2, h3⟩ := bind_some hf
    have e2 := toI_some h2
    subst e2
    obtain ⟨_, _, z1, z2, z3, e4⟩ := rngSplit h3
    refine ⟨F, env, _, hs, h1, fun v F1 H1 g1 r1 => ?_⟩
    cases r1
    refine ⟨n, rfl, z1, z2, ?_⟩
    rw [Int.sub_zero] at e4 z3
    subst e4
    exact q _ F1 H1 g1 (by rw [range_len]; exact z3) (itv_range 0 _)
theorem irng2 (hg : Gl X "range") (hm : X.mg "range" = none) (ha : PE X a (rV (gx X) O fa)) (hb : PE X b (rV (gx X) O fb)) (hs : starEach [a, b] X.env = [(false, eval a X.env), (false, eval b X.env)] := by rfl) (hs2 : starEach [b] X.env = [(false, eval b X.env)] := by rfl) :
    PI X tg (.Call (.Name "range" p) [a, b] [] pos) (iV (gx X) O (iRng2 fa fb)) :=
  (pi_range2 hg hm (pa_cons ha (pa_cons hb pa_nil hs2) (by rw [hs, hs2])) hs hs2).imp fun σ H R ⟨F, env, ds, hs, hf, q⟩ => by
    simp only [iRng2] at hf
    obtain ⟨x, h1, hf⟩ := bind_some hf
    obtain ⟨y, h2, hf⟩ := bind_some hf
    obtain ⟨n, h3, hf⟩ := bind_some hf
    obtain ⟨m, h4, h5⟩ := bind_some hf
    have e3 := toI_some h3
    have e4 := toI_some h4
    subst e3 e4
    obtain ⟨z1, z2, z3, z4, z5, e6⟩ := rngSplit h5
    refine ⟨F, env, _, hs, h1, fun v F1 H1 g1 r1 => ⟨F1, env, _, hs.gr g1, h2, fun u F2 H2 g2 r2 => ?_⟩⟩
    cases r1
    cases r2
    subst e6
    exact ⟨n, m, rfl, ⟨z1, z2, z3, z4⟩, q _ F2 H2 (g1.trans g2) (by rw [range_len]; exact z5) (itv_range n _)⟩
theorem _root_.L2.PI.or {t t' : TI} {it : Expr} (h : PI X tg it t) (h' : PI X tg it t') : PI X tg it fun σ H R => t σ H R ∨ t' σ H R := ⟨fun pins s σ H R I q => q.elim (h.run pins s σ H R I) (h'.run pins s σ H R I)⟩
theorem itv_list {K : PySem.W.Frag} {mg : Str → Option Value} {P0 : Program} {w0 : World} {F : Hp} {a : Addr} {vs : List V} {ds : List D} (h : SqL K F a vs) (r : RpAll ⟨K, mg, P0, w0⟩ F vs ds) : ItV ⟨K, mg, P0, w0⟩ (Itl K a) F ds := fun i F2 H2 s1 s2 => by
  have h2 : SqL K H2 a vs := s2.seq (s1.seq h)
  refine ⟨fun d e => ?_, fun e => ⟨vs, h2, by rw [r.length]; exact List.getElem?_eq_none_iff.mp e⟩⟩
  obtain ⟨v, h3, h4⟩ := r.get e
  refine ⟨⟨vs, v, h2, h3⟩, fun x H3 ⟨e1, e2⟩ => ⟨e1, ?_⟩⟩
  have e3 := e2 vs h2
  rw [h3] at e3
  cases e3
  exact h4.mono s1
theorem itv_tup {K : PySem.W.Frag} {mg : Str → Option Value} {P0 : Program} {w0 : World} {F : Hp} {a : Addr} {vs : List V} {ds : List D} (h : SqT K F a vs) (r : RpAll ⟨K, mg, P0, w0⟩ F vs ds) : ItV ⟨K, mg, P0, w0⟩ (Itt K a) F ds := fun i F2 H2 s1 s2 => by
  have h2 : SqT K H2 a vs := sameT s2 (sameT s1 h)
  refine ⟨fun d e => ?_, fun e => ⟨vs, h2, by rw [r.length]; exact List.getElem?_eq_none_iff.mp e⟩⟩
  obtain ⟨v, h3, h4⟩ := r.get e
  refine ⟨⟨vs, v, h2, h3⟩, fun x H3 ⟨e1, e2⟩ => ⟨e1, ?_⟩⟩
  have e3 := e2 vs h2
  rw [h3] at e3
  cases e3
  exact h4.mono s1
theorem itb_list {K : PySem.W.Frag} {mg : Str → Option Value} {P0 : Program} {w0 : World} {F H : Hp} {a : Addr} {vs : List V} {ds : List D} (h : SqL K H a vs) (r : RpAll ⟨K, mg, P0, w0⟩ F vs ds) : ItB ⟨K, mg, P0, w0⟩ (Itl K a) F H ds := fun i F2 H2 s1 s2 s3 => by
  have h2 : SqL K H2 a vs := s2.seq h
  refine ⟨fun d e => ?_, fun e => ⟨vs, h2, by rw [r.length]; exact List.getElem?_eq_none_iff.mp e⟩⟩
  obtain ⟨v, h3, h4⟩ := r.get e
  refine ⟨⟨vs, v, h2, h3⟩, fun x H3 ⟨e1, e2⟩ => ⟨e1, ?_⟩⟩
  have e3 := e2 vs h2
  rw [h3] at e3
  cases e3
  exact h4.mono s1
theorem iseq (ha : PE X a (rV (gx X) O fa)) : PI X tg a (iV (gx X) O (iSeq fa)) :=
  (PI.or (pi_list (pe_hl ha)) (pi_tup (pe_hl ha))).imp fun σ H R ⟨F, env, ds, hs, hf, q⟩ => by
    simp only [iSeq] at hf
    obtain ⟨x, h1, h2⟩ := bind_some hf
    cases x with
    | list es =>
      have e2 := Option.some.inj h2
      subst e2
      refine .inl ⟨F, env, _, hs, h1, fun v F1 H1 g1 r1 hl => ?_⟩
      cases r1 with
      | lst h r => exact ⟨_, rfl, ⟨_, g1.fh.seq h⟩, q _ F1 H1 g1 (by rw [← r.length]; exact hl.1 _ _ (g1.fh.seq h)) (itv_list h r)⟩
    | tuple es =>
      have e2 := Option.some.inj h2
      subst e2
      refine .inr ⟨F, env, _, hs, h1, fun v F1 H1 g1 r1 hl => ?_⟩
      cases r1 with
      | tup h r => exact ⟨_, rfl, ⟨_, sameT g1.fh h.t⟩, q _ F1 H1 g1 (by rw [← r.length]; exact hl.2 _ _ (sameT g1.fh h.t)) (itv_tup h.t r)⟩
    | _ => cases h2
theorem iseqB (ha : PE X a (rB (gx X) O fa)) : PI X tg a (iB (gx X) O (iSeq fa)) :=
  (PI.or (pi_list (pe_hl ha)) (pi_tup (pe_hl ha))).imp fun σ H R ⟨F, env, ds, hs, hf, q⟩ => by
    simp only [iSeq] at hf
    obtain ⟨x, h1, h2⟩ := bind_some hf
    cases x with
    | list es =>
      have e2 := Option.some.inj h2
      subst e2
      refine .inl ⟨F, env, _, hs, h1, fun v F1 H1 g1 r1 hl => ?_⟩
      obtain ⟨p, vs, rfl, h, r⟩ := r1.lst g1.fh
      exact ⟨_, rfl, ⟨_, h⟩, q _ F1 H1 g1 (by rw [← r.length]; exact hl.1 _ _ h) (itb_list h r)⟩
    | tuple es =>
      have e2 := Option.some.inj h2
      subst e2
      refine .inr ⟨F, env, _, hs, h1, fun v F1 H1 g1 r1 hl => ?_⟩
      obtain ⟨p, vs, rfl, hf, h, r⟩ := r1.tup g1.fh
      exact ⟨_, rfl, ⟨_, h⟩, q _ F1 H1 g1 (by rw [← r.length]; exact hl.2 _ _ h) (itv_tup hf.t r).b⟩
    | _ => cases h2
end
def tG (G : Gx) (O : List Nat) (sl : List Nat) (g : SG) : TG := fun v σ H Q => ∃ F env d env', SOk G O F H σ env ∧ Rp G F v d ∧ g d env = some env' ∧
  ∀ σ', SOk G O F H σ' env' → σ'.length = σ.length → (∀ j, j ∉ sl → σ'[j]? = σ[j]?) → Q σ' H
def tGs (G : Gx) (O : List Nat) (sl : List Nat) (gs : List SG) : TGs := fun vs σ H Q => ∃ F env ds env', SOk G O F H σ env ∧ RpAll G F vs ds ∧ gAll gs ds env = some env' ∧
  ∀ σ', SOk G O F H σ' env' → σ'.length = σ.length → (∀ j, j ∉ sl → σ'[j]? = σ[j]?) → Q σ' H
section
variable {X : Cx} {O : List Nat} {pos : Pos}
theorem _root_.L2.PG.imp {t t' : TG} {e : Expr} (h : PG X e t) (i : ∀ v σ H Q, t' v σ H Q → t v σ H Q) : PG X e t' := ⟨fun pins s σ H v u Q I r q => h.run pins s σ H v u Q I r (i v σ H Q q)⟩
theorem _root_.L2.PGs.imp {t t' : TGs} {e : List Expr} (h : PGs X e t) (i : ∀ v σ H Q, t' v σ H Q → t v σ H Q) : PGs X e t' := ⟨fun pins s σ H v u Q I r q => h.run pins s σ H v u Q I r (i v σ H Q q)⟩
theorem gn (i : Nat) {x : Str} (hN : X.N.Nodup) (hO : i ∉ O := by decide) (hi : X.N[i]? = some x := by rfl) (hx : Loc X.env.scope x := by first | exact Or.inl rfl | exact Or.inr rfl) (hf : X.fn x = true ∨ X.env.scope.names.lookup x = some .local := by first | exact .inl rfl | exact .inr rfl | assumption) :
    PG X (.Name x pos) (tG (gx X) O [i] (TL.gName i)) := (pg_name hN hi hx hf).imp fun v σ H Q ⟨F, env, d, env', hs, r, hg, q⟩ => by
  cases hg
  exact q _ (hs.set hO r) (List.length_set ..) fun j hj => List.getElem?_set_ne fun e => hj (by rw [e]; exact List.mem_singleton.mpr rfl)
theorem gsn : PGs X [] (tGs (gx X) O [] []) := pgs_nil.imp fun vs σ H Q ⟨F, env, ds, env', hs, r, hg, q⟩ => by
  cases r with
  | nil =>
    cases hg
    exact ⟨rfl, q σ hs rfl fun _ _ => rfl⟩
  | cons _ _ => cases hg
theorem gsc {e : Expr} {es : List Expr} {sl sl' : List Nat} {g : SG} {gs : List SG} (h1 : PG X e (tG (gx X) O sl g)) (h2 : PGs X es (tGs (gx X) O sl' gs)) (hs : (assignEach (e :: es) X.env).map (·.2) = assign e X.env :: (assignEach es X.env).map (·.2) := by rfl) :
    PGs X (e :: es) (tGs (gx X) O (sl ++ sl') (g :: gs)) := (pgs_cons h1 h2 hs).imp fun vs σ H Q ⟨F, env, ds, env', hs, r, hg, q⟩ => by
  cases r with
  | nil => cases hg
  | @cons v vs d ds r1 r2 =>
    simp only [gAll] at hg
    obtain ⟨env1, h3, h4⟩ := bind_some hg
    refine ⟨v, vs, rfl, F, env, d, env1, hs, r1, h3, fun σ1 s1 l1 k1 => ⟨F, env1, ds, env', s1, r2, h4, fun σ2 s2 l2 k2 => q σ2 s2 (l2.trans l1) fun j hj => ?_⟩⟩
    rw [List.mem_append, not_or] at hj
    rw [k2 j hj.2, k1 j hj.1]
theorem gAll_len : ∀ {gs : List SG} {ds : List D} {env env' : Env}, gAll gs ds env = some env' → ds.length = gs.length
  | [], [], _, _, _ => rfl
  | [], _ :: _, _, _, h => by cases h
  | _ :: _, [], _, _, h => by cases h
  | g :: gs, d :: ds, env, env', h => by
    simp only [gAll] at h
    obtain ⟨e, _, h⟩ := bind_some h
    exact congrArg (· + 1) (gAll_len h)
theorem gt {es : List Expr} {k : Nat} {sl : List Nat} {gs : List SG} (hc : X.calm = true) (h : PGs X es (tGs (gx X) O sl gs)) (hn : (assignEach es X.env).length = gs.length := by rfl) (hst : (assignEach es X.env).findIdx? (·.1) = none := by rfl) :
    PG X (.Tuple es k pos) (tG (gx X) O sl (TL.gTup gs)) := (pg_tup hc h hn hst).imp fun v σ H Q ⟨F, env, d, env', hs, r, hg, q⟩ => by
  cases d with
  | tuple ds =>
    have hg : gAll gs ds env = some env' := hg
    cases r with
    | tup h r => exact ⟨_, _, rfl, sameT hs.fh h.t, by rw [r.length]; exact gAll_len hg, F, env, ds, env', hs, r, hg, q⟩
  | _ => cases hg
end
section
variable {X : Cx} {O : List Nat}
theorem _root_.L2.PTs.imp {t t' : TT} {e : List Expr} (h : PTs X e t) (i : ∀ σ H Q, t' σ H Q → t σ H Q) : PTs X e t' := ⟨fun pins s σ H Q I q => h.run pins s σ H Q I (i σ H Q q)⟩
theorem pyes : PTs X [] (rT (gx X) O cYes) := pts_nil.imp fun σ H Q ⟨F, env, b, hs, hf, q⟩ => by
  cases hf
  exact q F H (Gr.refl hs.fh)
theorem pone {c : Expr} {f : ST} (h : PT X c (rT (gx X) O f)) : PTs X [c] (rT (gx X) O f) := pts_one h
structure LcI (G : Gx) (F1 H1 F' H' : Hp) (D0 : Addr) (acc : List V) (accD : List D) : Prop where
  gr : Gr F1 H1 F' H'
  fr : F' D0 = none
  at_ : H' D0 = some (.lst acc)
  rp : RpAll G F' acc accD
theorem LcI.app {G : Gx} {F1 H1 F' H' : Hp} {D0 : Addr} {acc : List V} {accD : List D} (h : LcI G F1 H1 F' H' D0 acc accD) (hn : H1 D0 = none) {y : V} {d : D} (r : Rp G F' y d) : LcI G F1 H1 F' (upd H' D0 (.lst (acc ++ [y]))) D0 (acc ++ [y]) (accD ++ [d]) := by
  refine ⟨⟨h.gr.ff, h.gr.hh.upd_ hn, fun b x e => ?_, h.gr.hid⟩, h.fr, upd_same, h.rp.append (.cons r .nil)⟩
  · rw [upd_ne (ne_of_none e h.fr)]
    exact h.gr.fh b x e
theorem LcI.gr' {G : Gx} {F1 H1 F' H' F2 H2 : Hp} {D0 : Addr} {acc : List V} {accD : List D} (h : LcI G F1 H1 F' H' D0 acc accD) (g : Gr F' H' F2 H2) : LcI G F1 H1 F2 H2 D0 acc accD :=
  ⟨h.gr.trans g, g.hid _ _ h.at_ h.fr, g.hh.l h.at_, h.rp.mono g.ff⟩
theorem lc_read {G : Gx} {O : List Nat} {fi : SI} {g : SG} {c : ST} {f : SE} {sl vs : List Nat} (hsl : ∀ j ∈ sl, j ∈ vs) (hO : ∀ j ∈ vs, j ∉ O) {σ : L2.St} {H : Hp} {Q : VK} (h : rN G O (eLc vs fi g c f) σ H Q) :
    tLc (iB G O fi) (tG G O sl g) (rT G O c) (rV G O f) vs σ H Q := by
    obtain ⟨F, env, d, hs, hf, q⟩ := h
    simp only [eLc] at hf
    obtain ⟨ds, h1, hf⟩ := bind_some hf
    obtain ⟨es, h2, h3⟩ := map_some hf
    subst h3
    refine ⟨F, env, ds, hs, h1, fun J F1 H1 g1 hz hJ D0 hD => ?_⟩
    have hs1 := hs.gr g1
    refine ⟨fun i m H' => ∃ F' acc accD rest, LcI G F1 H1 F' H' D0 acc accD ∧ accD.length ≤ i ∧ i ≤ ds.length ∧ m = ds.length - i ∧ lcGo g c f (wipeE env (vs)) (ds.drop i) = some rest ∧ es = accD ++ rest,
      ⟨ds.length, F1, [], [], es, ⟨Gr.open_ g1.fh hD, Same.nn g1.fh hD, upd_same, .nil⟩, Nat.le_refl _, Nat.zero_le _, by omega, h2, rfl⟩, ?_⟩
    rintro i m H' ⟨F', acc, accD, rest, L, l1, l2, rfl, hgo, ees⟩
    have hs' := (hs1.gr L.gr).wipe hO
    have hJ' := hJ i F' H' L.gr.ff L.gr.hh L.gr.fh
    cases hd : ds[i]? with
    | none =>
      have hi : ds.length ≤ i := List.getElem?_eq_none_iff.mp hd
      refine .inl ⟨hJ'.2 hd, ?_⟩
      rw [List.drop_eq_nil_of_le hi] at hgo
      cases hgo
      rw [List.append_nil] at ees
      subst ees
      exact q D0 .lst acc es F' H' (g1.trans L.gr) (g1.hh.free hD) L.fr L.at_ L.rp trivial rfl
    | some x =>
      have hi : i < ds.length := (List.getElem?_eq_some_iff.mp hd).1
      have hx : ds[i] = x := (List.getElem?_eq_some_iff.mp hd).2
      have hdr : ds.drop i = x :: ds.drop (i + 1) := by rw [List.drop_eq_getElem_cons hi, hx]
      rw [hdr] at hgo
      simp only [lcGo] at hgo
      obtain ⟨env1, hg1, hgo⟩ := bind_some hgo
      obtain ⟨b, hc1, hgo⟩ := bind_some hgo
      refine .inr ⟨(hJ'.1 x hd).1, fun H2 => ∃ F' acc accD rest, LcI G F1 H1 F' H2 D0 acc accD ∧ accD.length ≤ i + 1 ∧ lcGo g c f (wipeE env (vs)) (ds.drop (i + 1)) = some rest ∧ es = accD ++ rest, fun H2 h => ?_, fun v H2 hy => ?_⟩
      · obtain ⟨F2, acc2, accD2, rest2, L2, l3, hg2, e2⟩ := h
        exact ⟨ds.length - (i + 1), by omega, F2, acc2, accD2, rest2, L2, l3, hi, rfl, hg2, e2⟩
      · obtain ⟨rfl, rv⟩ := (hJ'.1 x hd).2 v H2 hy
        refine ⟨F', _, x, env1, hs', rv, hg1, fun σ2 s2 ln kp => ⟨ext_wipe ln kp hsl |>.trans ?_, F', env1, b, s2, hc1, fun F3 H3 g3 => ?_⟩⟩
        · have : ∀ (vs ws : List Nat) (τ : L2.St), (∀ j ∈ ws, j ∈ vs) → L2.wipe (L2.wipe τ ws) vs = L2.wipe τ vs := fun vs ws τ h => ext_wipe (sl := ws) (wipe_length _ _) (fun j hj => wipe_out hj) h
          exact this _ _ _ fun j h => h
        · cases b with
          | true =>
            rw [if_pos rfl] at hgo ⊢
            obtain ⟨y, he1, hgo⟩ := bind_some hgo
            obtain ⟨rest2, hg2, e2⟩ := map_some hgo
            refine ⟨F3, env1, y, s2.gr g3, he1, fun w F4 H4 g4 r4 => ?_⟩
            have L4 := (L.gr' g3).gr' g4
            refine ⟨acc, L4.at_, ?_, F4, acc ++ [w], accD ++ [y], rest2, L4.app hD r4, by rw [List.length_append]; exact Nat.succ_le_succ l1, hg2, ?_⟩
            · rw [L.rp.length]
              omega
            · rw [ees, ← e2, List.append_assoc]
              rfl
          | false =>
            rw [if_neg Bool.false_ne_true] at hgo ⊢
            exact ⟨F3, acc, accD, rest, L.gr' g3, by omega, hgo, ees⟩
theorem elc {elt tg iter : Expr} {ifs : List Expr} {scope : Scope} {own : List (Str × Nat)} {pos : Pos} {fi : SI} {g : SG} {c : ST} {f : SE} {sl : List Nat} (hc : X.calm = true) (hN : X.N.Nodup) (hi : PI X tg iter (iB (gx X) O fi)) (ok : BlkOk X.N X.env.scope scope own)
    (hg : ∀ (s : Shared) (H : Hp) (C : Addr) (cl : List (Str × Addr)) (fp : List Addr), PG (X.blk s H scope (compEnvC scope cl C X.env) fp) tg (tG (gx X) O sl g)) (ht : ∀ (s : Shared) (H : Hp) (C : Addr) (cl : List (Str × Addr)) (fp : List Addr), PTs (X.blk s H scope (compEnvC scope cl C X.env) fp) ifs (rT (gx X) O c))
    (he : ∀ (s : Shared) (H : Hp) (C : Addr) (cl : List (Str × Addr)) (fp : List Addr), PE (X.blk s H scope (compEnvC scope cl C X.env) fp) elt (rV (gx X) O f)) (hsl : ∀ j ∈ sl, j ∈ own.map (·.2) := by decide) (hO : ∀ j ∈ own.map (·.2), j ∉ O := by decide) (hs : ∀ x, foldedSetIterable iter X.env x = pure x := by intro _; rfl) :
    PE X (.ListComp elt [⟨tg, iter, ifs, 0⟩] scope pos) (rN (gx X) O (eLc (own.map (·.2)) fi g c f)) :=
  (pe_lc hc hN hi ok hg ht he hs).imp fun σ H Q h => lc_read hsl hO h
end
end TL

set_option Elab.async false
set_option linter.all false
set_option maxRecDepth 100000
namespace TL
open PySem PySem.Spec PyProof.Rows L2
structure Fr (F0 H0 : Hp) (O : List Nat) (F H : Hp) (σ : L2.St) : Prop where
  gr : Gr F0 H0 F H
  own : ∀ i ∈ O, ∀ p, σ[i]? = some (some (.ref p)) → H0 p = none
theorem Fr.step {F0 H0 F H F' H' : Hp} {O : List Nat} {σ : L2.St} (f : Fr F0 H0 O F H σ) (g : Gr F H F' H') : Fr F0 H0 O F' H' σ := ⟨f.gr.trans g, f.own⟩
abbrev RK := Hp → Hp → D → VK → Prop
def oV' (G : Gx) : RK := fun F0 H0 d k => kV G F0 H0 d k
def oN' (G : Gx) : RK := fun F0 H0 d k => kN G F0 H0 d k
def sPost (G : Gx) (R : RK) (O' Ob : List Nat) (F0 H0 F : Hp) (D : Ends) : Out → Prop
  | .nx e => ∀ σ' F' H', SOk G O' F' H' σ' e → Fr F0 H0 O' F' H' σ' → Same F F' → D.nx σ' H'
  | .bk e => ∀ σ' F' H', SOk G Ob F' H' σ' e → Fr F0 H0 Ob F' H' σ' → Same F F' → D.bk σ' H'
  | .ct e => ∀ σ' F' H', SOk G Ob F' H' σ' e → Fr F0 H0 Ob F' H' σ' → Same F F' → D.ct σ' H'
  | .rt d => R F0 H0 d D.rt
theorem sPost.ff {G : Gx} {R : RK} {O' Ob : List Nat} {F0 H0 F F1 : Hp} {D : Ends} {out : Out} (q : sPost G R O' Ob F0 H0 F D out) (k : Same F F1) : sPost G R O' Ob F0 H0 F1 D out := by
  cases out with
  | nx e => exact fun σ' F' H' s' f' k' => q σ' F' H' s' f' (k.trans k')
  | bk e => exact fun σ' F' H' s' f' k' => q σ' F' H' s' f' (k.trans k')
  | ct e => exact fun σ' F' H' s' f' k' => q σ' F' H' s' f' (k.trans k')
  | rt d => exact q
def sV (G : Gx) (R : RK) (O O' Ob : List Nat) (f : SS) : TS := fun D σ H => ∃ F0 H0 F env out, SOk G O F H σ env ∧ Fr F0 H0 O F H σ ∧ f env = some out ∧ sPost G R O' Ob F0 H0 F D out
section
variable {X : Cx} {R : RK} {O O' O'' Ob : List Nat} {st : Stmt} {rest : List Stmt} {pos : Pos}
theorem _root_.L2.PS.imp {t t' : TS} {st : Stmt} (h : PS X st t) (i : ∀ D σ H, t' D σ H → t D σ H) : PS X st t' := ⟨fun pins s σ H D I q => h.run pins s σ H D I (i D σ H q)⟩
theorem _root_.L2.PSs.imp {t t' : TS} {st : List Stmt} (h : PSs X st t) (i : ∀ D σ H, t' D σ H → t D σ H) : PSs X st t' := ⟨fun pins s σ H D I q => h.run pins s σ H D I (i D σ H q)⟩
theorem bn : PSs X [] (sV (gx X) R O O Ob sNext) := pss_nil.imp fun D σ H ⟨F0, H0, F, env, out, hs, hf, ho, q⟩ => by
  cases ho
  exact q σ F H hs hf (Same.refl F)
theorem bc {f g : SS} (h1 : PS X st (sV (gx X) R O O' Ob f)) (h2 : PSs X rest (sV (gx X) R O' O'' Ob g)) : PSs X (st :: rest) (sV (gx X) R O O'' Ob (sSeq f g)) :=
  (pss_cons h1 h2).imp fun D σ H ⟨F0, H0, F, env, out, hs, hf, ho, q⟩ => by
    simp only [sSeq] at ho
    obtain ⟨o1, h1, h2⟩ := bind_some ho
    refine ⟨F0, H0, F, env, o1, hs, hf, h1, ?_⟩
    cases o1 with
    | nx e =>
      refine fun σ' F' H' s' f' k' => ⟨F0, H0, F', e, out, s', f', h2, ?_⟩
      cases out with
      | nx e2 => exact fun σ2 F2 H2 s2 f2 k2 => q σ2 F2 H2 s2 f2 (k'.trans k2)
      | bk e2 => exact fun σ2 F2 H2 s2 f2 k2 => q σ2 F2 H2 s2 f2 (k'.trans k2)
      | ct e2 => exact fun σ2 F2 H2 s2 f2 k2 => q σ2 F2 H2 s2 f2 (k'.trans k2)
      | rt d => exact q
    | bk e => cases h2; exact q
    | ct e => cases h2; exact q
    | rt d => cases h2; exact q
theorem bo {f : SS} (h1 : PS X st (sV (gx X) R O O' Ob f)) : PSs X [st] (sV (gx X) R O O' Ob f) := pss_one h1
theorem SOk.less {G : Gx} {F H : Hp} {σ : L2.St} {env : Env} (hs : SOk G O F H σ env) {F0 H0 : Hp} (hf : Fr F0 H0 O F H σ) (h : ∀ i ∈ O', i ∈ O) : ∃ F', SOk G O' F' H σ env ∧ Fr F0 H0 O' F' H σ ∧ Same F F' := by
  classical
  refine ⟨fun p => if ∃ i ∈ O, i ∉ O' ∧ σ[i]? = some (some (.ref p)) then H p else F p, ?_⟩
  have sm : Same F fun p => if ∃ i ∈ O, i ∉ O' ∧ σ[i]? = some (some (.ref p)) then H p else F p := fun b o e => by
    by_cases c : ∃ i ∈ O, i ∉ O' ∧ σ[i]? = some (some (.ref b))
    · show (if _ then _ else _) = _
      rw [if_pos c]; exact hs.fh b o e
    · show (if _ then _ else _) = _
      rw [if_neg c]; exact e
  have fh : Same (fun p => if ∃ i ∈ O, i ∉ O' ∧ σ[i]? = some (some (.ref p)) then H p else F p) H := fun b o e => by
    have e : (if ∃ i ∈ O, i ∉ O' ∧ σ[i]? = some (some (.ref b)) then H b else F b) = some o := e
    split at e
    · exact e
    · exact hs.fh b o e
  refine ⟨⟨fh, hs.len, fun i d e n => ?_, fun i hi => ?_, fun i hi j hj => hs.dj i (h i hi) j (h j hj), fun x hx c P e => ?_⟩, ⟨⟨hf.gr.ff.trans sm, hf.gr.hh, fh, fun p o e n => ?_⟩, fun i hi => hf.own i (h i hi)⟩, sm⟩
  · by_cases hO : i ∈ O
    · obtain ⟨p, kk, vs, ds, h1, h2, h3, h4, h5, hK⟩ := hs.own i hO
      rw [e] at h2
      cases h2
      exact ⟨_, h1, .ofK (by show (if _ then _ else _) = _; rw [if_pos ⟨i, hO, n, h1⟩]; exact h4) (h5.mono sm) hK⟩
    · obtain ⟨v, h1, h2⟩ := hs.imm i d e hO
      exact ⟨v, h1, h2.mono sm⟩
  · obtain ⟨p, kk, vs, ds, h1, h2, h3, h4, h5, hK⟩ := hs.own i (h i hi)
    refine ⟨p, kk, vs, ds, h1, h2, ?_, h4, h5.mono sm, hK⟩
    show (if _ then _ else _) = _
    rw [if_neg fun ⟨j, hj, nj, e⟩ => nj (hs.dj i (h i hi) j hj (h1.trans e.symm) ▸ hi)]
    exact h3
  · obtain ⟨h1, ps, h2, h3⟩ := hs.tb x hx c P e
    refine ⟨?_, ps, h2, h3⟩
    show (if _ then _ else _) = _
    rw [if_neg fun ⟨j, hj, nj, e'⟩ => by
      obtain ⟨p, kk, vs, ds, k1, k2, k3, k4, k5, hK⟩ := hs.own j hj
      rw [e'] at k1
      cases k1
      rw [h2] at k4
      have z := nt_kO G.P G.w P kk vs
      rw [← Option.some.inj k4] at z
      cases z]
    exact h1
  · show (if _ then _ else _) = _
    rw [if_neg fun ⟨j, hj, nj, e'⟩ => by rw [hf.own j hj p e'] at e; cases e]
    exact hf.gr.hid p o e n
theorem sless {f : SS} (hs : PS X st (sV (gx X) R O O' Ob f)) (h : ∀ i ∈ O'', i ∈ O' := by decide) : PS X st (sV (gx X) R O O'' Ob f) :=
  hs.imp fun D σ H ⟨F0, H0, F, env, out, hs, hf, ho, q⟩ => ⟨F0, H0, F, env, out, hs, hf, ho, by
    cases out with
    | nx e => exact fun σ' F' H' s' f' k' => let ⟨F2, s2, f2, k2⟩ := SOk.less s' f' h; q σ' F2 H' s2 f2 (k'.trans k2)
    | bk e => exact q
    | ct e => exact q
    | rt d => exact q⟩
theorem spre {f : SS} (hs : PS X st (sV (gx X) R O' O'' Ob f)) (h : ∀ i ∈ O', i ∈ O := by decide) : PS X st (sV (gx X) R O O'' Ob f) :=
  hs.imp fun D σ H ⟨F0, H0, F, env, out, hs, hf, ho, q⟩ => by
    obtain ⟨F2, s2, f2, k2⟩ := SOk.less hs hf h
    refine ⟨F0, H0, F2, env, out, s2, f2, ho, ?_⟩
    cases out with
    | nx e => exact fun σ' F' H' s' f' k' => q σ' F' H' s' f' (k2.trans k')
    | bk e => exact fun σ' F' H' s' f' k' => q σ' F' H' s' f' (k2.trans k')
    | ct e => exact fun σ' F' H' s' f' k' => q σ' F' H' s' f' (k2.trans k')
    | rt d => exact q
theorem sret {e : Expr} {a : SE} (he : PE X e (rV (gx X) O a)) : PS X (.Return (some e) pos) (sV (gx X) (oV' (gx X)) O O' Ob (sRet a)) :=
  (ps_ret he).imp fun D σ H ⟨F0, H0, F, env, out, hs, hf, ho, q⟩ => by
    simp only [sRet] at ho
    obtain ⟨d, h1, h2⟩ := map_some ho
    subst h2
    exact ⟨F, env, d, hs, h1, kV.gr q hf.gr⟩
theorem sretN {e : Expr} {a : SE} (he : PE X e (rN (gx X) O a)) : PS X (.Return (some e) pos) (sV (gx X) (oN' (gx X)) O O' Ob (sRet a)) :=
  (ps_ret he).imp fun D σ H ⟨F0, H0, F, env, out, hs, hf, ho, q⟩ => by
    simp only [sRet] at ho
    obtain ⟨d, h1, h2⟩ := map_some ho
    subst h2
    exact ⟨F, env, d, hs, h1, kN.gr q hf.gr⟩
theorem sretO (i : Nat) {x : Str} {p : Pos} (hO : i ∈ O := by decide) (hN : X.N[i]? = some x := by rfl) (hv : Vis X.env.scope x := by first | exact Or.inl rfl | exact Or.inr (Or.inl rfl) | exact Or.inr (Or.inr rfl)) (hd : (x == ("__debug__" : Str)) = false := by decide)
    (hcd : (x == ("__classdict__" : Str)) = false := by decide) : PS X (.Return (some (.Name x p)) pos) (sV (gx X) (oN' (gx X)) O O' Ob (sRet (eVar i))) :=
  (ps_ret (pe_var hN hv hd hcd)).imp fun D σ H ⟨F0, H0, F, env, out, hs, hf, ho, q⟩ => by
    simp only [sRet, eVar] at ho
    obtain ⟨d, h1, h2⟩ := map_some ho
    subst h2
    obtain ⟨p, kk, vs, ds, h3, h4, h5, h6, h7, hK⟩ := hs.own i hO
    rw [getD_some h1] at h4
    cases h4
    exact ⟨_, h3, q p kk vs ds F H hf.gr (hf.own i hO p h3) h5 h6 h7 hK rfl⟩
theorem sif {c : Expr} {a b : List Stmt} {fc : ST} {fa fb : SS} (hc : PT X c (rT (gx X) O fc)) (ha : PSs X a (sV (gx X) R O O' Ob fa)) (hb : PSs X b (sV (gx X) R O O' Ob fb)) : PS X (.If c a b pos) (sV (gx X) R O O' Ob (sIf fc fa fb)) :=
  (ps_if hc ha hb).imp fun D σ H ⟨F0, H0, F, env, out, hs, hf, ho, q⟩ => by
    simp only [sIf] at ho
    obtain ⟨k, h1, h2⟩ := bind_some ho
    refine ⟨F, env, k, hs, h1, fun F1 H1 g1 => ?_⟩
    have q' := q.ff g1.ff
    cases k with
    | true => exact ⟨F0, H0, F1, env, out, hs.gr g1, hf.step g1, h2, q'⟩
    | false => exact ⟨F0, H0, F1, env, out, hs.gr g1, hf.step g1, h2, q'⟩
theorem sasg {tg e : Expr} {a : SE} {g : SG} {sl : List Nat} (he : PE X e (rV (gx X) O a)) (hg : PG X tg (tG (gx X) O sl g)) (hsl : ∀ i ∈ O, i ∉ sl := by decide) (hs : swapsWithSole [tg] e pos.line X.env = pure false := by rfl) (hw : swappedStores [tg] e X.env = pure none := by rfl)
    (h1 : (assignEach [tg] X.env).map (·.2) = [assign tg X.env] := by rfl) : PS X (.Assign [tg] e pos) (sV (gx X) R O O Ob (sAsg a g)) :=
  (ps_asg he hg hs hw h1).imp fun D σ H ⟨F0, H0, F, env, out, hs, hf, ho, q⟩ => by
    simp only [sAsg] at ho
    obtain ⟨d, h1, h2⟩ := bind_some ho
    obtain ⟨e', h3, h4⟩ := map_some h2
    subst h4
    refine ⟨F, env, d, hs, h1, fun v F1 H1 g1 r1 => ⟨F1, env, d, e', hs.gr g1, r1, h3, fun σ' s' l' k' => q σ' F1 H1 s' ⟨hf.gr.trans g1, fun i hi p hp => hf.own i hi p ?_⟩ g1.ff⟩⟩
    rw [← k' i (hsl i hi)]
    exact hp
theorem fr_set {F0 H0 F H : Hp} {σ : L2.St} (hf : Fr F0 H0 O F H σ) {i : Nat} {v : V} (hO : i ∉ O) : Fr F0 H0 O F H (σ.set i (some v)) :=
  ⟨hf.gr, fun j hj p hp => hf.own j hj p (by rw [List.getElem?_set_ne (show i ≠ j from fun e => hO (by rw [e]; exact hj))] at hp; exact hp)⟩
theorem sset {x : Str} {e : Expr} {a : SE} {pos' : Pos} (i : Nat) (hN : X.N.Nodup) (he : PE X e (rV (gx X) O a)) (hO : i ∉ O := by decide) (hi : X.N[i]? = some x := by rfl) (hx : Loc X.env.scope x := by first | exact Or.inl rfl | exact Or.inr rfl) (hs : swapsWith e (some (.Name x pos')) pos.line X.env = pure false := by rfl)
    (hf : X.fn x = true ∨ X.env.scope.names.lookup x = some .local := by first | exact .inl rfl | exact .inr rfl | assumption) : PS X (.Assign [.Name x pos'] e pos) (sV (gx X) R O O Ob (sAsg a (TL.gName i))) :=
  (ps_set hN hi hx he hs hf).imp fun D σ H ⟨F0, H0, F, env, out, hs, hf, ho, q⟩ => by
    simp only [sAsg, TL.gName] at ho
    obtain ⟨d, h1, h2⟩ := bind_some ho
    cases h2
    exact ⟨F, env, d, hs, h1, fun v F1 H1 g1 r1 => q _ F1 H1 ((hs.gr g1).set hO r1) (fr_set (hf.step g1) hO) g1.ff⟩
theorem SOk.open_ {G : Gx} {F H F1 H1 : Hp} {σ : L2.St} {env : Env} (hs : SOk G O F H σ env) (g : Gr F H F1 H1) {i : Nat} (hi : i < σ.length) (hO : i ∉ O) {p : Addr} {k : Kd} {vs : List V} {ds : List D} (e1 : H p = none) (e2 : F1 p = none) (e3 : H1 p = some (kO G.P G.w p k vs)) (r : RpAll G F1 vs ds) (o : KdOk p k ds) :
    SOk G (i :: O) F1 H1 (σ.set i (some (.ref p))) (env.set i (some (kD k ds))) := by
  have hs1 := hs.gr g
  have hne : ∀ j ∈ O, i ≠ j := fun j hj e => hO (e ▸ hj)
  have pne : ∀ j ∈ O, σ[j]? ≠ some (some (.ref p)) := fun j hj e => by
    obtain ⟨p', kk, _, _, h1, _, _, h4, _⟩ := hs.own j hj
    rw [e] at h1
    cases h1
    rw [e1] at h4
    cases h4
  refine ⟨hs1.fh, by rw [List.length_set, List.length_set]; exact hs.len, fun j d e n => ?_, fun j hj => ?_, fun j hj k hk e => ?_, hs1.tb⟩
  · have hj : i ≠ j := fun z => n (z ▸ List.mem_cons_self)
    rw [List.getElem?_set_ne hj] at e ⊢
    exact hs1.imm j d e fun z => n (List.mem_cons_of_mem _ z)
  · rcases List.mem_cons.mp hj with rfl | hj
    · exact ⟨p, k, vs, ds, List.getElem?_set_self hi, List.getElem?_set_self (hs.len ▸ hi), e2, e3, r, o⟩
    · rw [List.getElem?_set_ne (hne j hj), List.getElem?_set_ne (hne j hj)]
      exact hs1.own j hj
  · rcases List.mem_cons.mp hj with ej | hj
    · rcases List.mem_cons.mp hk with ek | hk
      · rw [ej, ek]
      · rw [ej, List.getElem?_set_self hi, List.getElem?_set_ne (hne k hk)] at e
        exact absurd e.symm (pne k hk)
    · rcases List.mem_cons.mp hk with ek | hk
      · rw [ek, List.getElem?_set_self hi, List.getElem?_set_ne (hne j hj)] at e
        exact absurd e (pne j hj)
      · rw [List.getElem?_set_ne (hne j hj), List.getElem?_set_ne (hne k hk)] at e
        exact hs.dj j hj k hk e
theorem fr_open {F0 H0 F H F1 H1 : Hp} {σ : L2.St} (hf : Fr F0 H0 O F H σ) (g : Gr F H F1 H1) {i : Nat} (hi : i < σ.length) (hO : i ∉ O) {p : Addr} (e1 : H p = none) : Fr F0 H0 (i :: O) F1 H1 (σ.set i (some (.ref p))) := by
  refine ⟨hf.gr.trans g, fun j hj p' hp => ?_⟩
  rcases List.mem_cons.mp hj with rfl | hj
  · rw [List.getElem?_set_self hi] at hp
    cases hp
    exact hf.gr.hh.free e1
  · rw [List.getElem?_set_ne (show i ≠ j from fun e => hO (by rw [e]; exact hj))] at hp
    exact hf.own j hj p' hp
theorem tAsg_new {G : Gx} {R : RK} {O Ob : List Nat} {i : Nat} {a : SE} {te : TE} {D : Ends} {σ : L2.St} {H : Hp} (hte : ∀ Q, rN G O a σ H Q → te σ H Q) (hO : i ∉ O) (hi : ∀ F env, SOk G O F H σ env → i < σ.length) (h : sV G R O (i :: O) Ob (sAsg a (TL.gName i)) D σ H) : tAsg te (L2.gName i) D σ H := by
  obtain ⟨F0, H0, F, env, out, hs, hf, ho, q⟩ := h
  simp only [sAsg, TL.gName] at ho
  obtain ⟨d, h1, h2⟩ := bind_some ho
  cases h2
  have hi := hi F env hs
  refine hte _ ⟨F, env, d, hs, h1, fun p k vs ds F1 H1 g1 e1 e2 e3 r o e => ?_⟩
  subst e
  exact q _ F1 H1 (hs.open_ g1 hi hO e1 e2 e3 r o) (fr_open hf g1 hi hO e1) g1.ff
theorem ps_ln {t : TS} (h : PS X st t) : PS X st fun D σ H => σ.length = X.N.length → t D σ H := ⟨fun pins s σ H D I q => h.run pins s σ H D I (q I.len)⟩
theorem ix_lt {σ : L2.St} {i : Nat} {x : Str} (hl : σ.length = X.N.length) (hi : X.N[i]? = some x) : i < σ.length := by
  rw [hl]
  exact (List.getElem?_eq_some_iff.mp hi).1
theorem ssetN {x : Str} {e : Expr} {a : SE} {pos' : Pos} (i : Nat) (hN : X.N.Nodup) (he : PE X e (rN (gx X) O a)) (hO : i ∉ O := by decide) (hi : X.N[i]? = some x := by rfl) (hx : Loc X.env.scope x := by first | exact Or.inl rfl | exact Or.inr rfl) (hs : swapsWith e (some (.Name x pos')) pos.line X.env = pure false := by rfl)
    (hf : X.fn x = true ∨ X.env.scope.names.lookup x = some .local := by first | exact .inl rfl | exact .inr rfl | assumption) : PS X (.Assign [.Name x pos'] e pos) (sV (gx X) R O (i :: O) Ob (sAsg a (TL.gName i))) :=
  (ps_ln (ps_set hN hi hx he hs hf)).imp fun D σ H h hl => tAsg_new (fun Q q => q) hO (fun _ _ _ => ix_lt hl hi) h
theorem SOk.chg {G : Gx} {F H : Hp} {σ : L2.St} {env : Env} (hs : SOk G O F H σ env) {i : Nat} (hi : i ∈ O) {p : Addr} (hp : σ[i]? = some (some (.ref p))) {k : Kd} {vs : List V} {ds : List D} (r : RpAll G F vs ds) (o : KdOk p k ds) : SOk G O F (upd H p (kO G.P G.w p k vs)) σ (env.set i (some (kD k ds))) := by
  obtain ⟨p', kk, _, _, h1, h2, h3, h4, _⟩ := hs.own i hi
  rw [hp] at h1
  cases h1
  have hl : i < env.length := (List.getElem?_eq_some_iff.mp h2).1
  have fne : ∀ b o, F b = some o → b ≠ p := fun b o e z => by rw [z, h3] at e; cases e
  refine ⟨fun b o e => by rw [upd_ne (fne b o e)]; exact hs.fh b o e, by rw [List.length_set]; exact hs.len, fun j d e n => ?_, fun j hj => ?_, hs.dj, hs.tb.upd_o h4 (nt_kO _ _ _ _ _)⟩
  · rw [List.getElem?_set_ne (fun z => n (by rw [← z]; exact hi))] at e
    exact hs.imm j d e n
  · by_cases ij : i = j
    · subst ij
      exact ⟨p, k, vs, ds, hp, List.getElem?_set_self hl, h3, upd_same, r, o⟩
    · obtain ⟨q, kk, us, es, k1, k2, k3, k4, k5, hK⟩ := hs.own j hj
      refine ⟨q, kk, us, es, k1, by rw [List.getElem?_set_ne ij]; exact k2, k3, ?_, k5, hK⟩
      rw [upd_ne (fun z => ij (hs.dj i hi j hj (by rw [hp, k1, z])))]
      exact k4
theorem fr_chg {F0 H0 F H : Hp} {σ : L2.St} {env : Env} {G : Gx} (hs : SOk G O F H σ env) (hf : Fr F0 H0 O F H σ) {i : Nat} (hi : i ∈ O) {p : Addr} (hp : σ[i]? = some (some (.ref p))) {o : HO} : Fr F0 H0 O F (upd H p o) σ := by
  obtain ⟨p', kk, _, _, h1, h2, h3, h4, _⟩ := hs.own i hi
  rw [hp] at h1
  cases h1
  have hn := hf.own i hi p hp
  exact ⟨⟨hf.gr.ff, hf.gr.hh.upd_ hn, fun b x e => by rw [upd_ne (fun z => by rw [z, h3] at e; cases e)]; exact hs.fh b x e, hf.gr.hid⟩, hf.own⟩
theorem sapp {x : Str} {e : Expr} {a : SE} {p1 apos cpos : Pos} (i : Nat) (he : PE X e (rV (gx X) O a)) (hi : i ∈ O := by decide) (hN : X.N[i]? = some x := by rfl) (hv : Vis X.env.scope x := by first | exact Or.inl rfl | exact Or.inr (Or.inl rfl) | exact Or.inr (Or.inr rfl)) (hd : (x == ("__debug__" : Str)) = false := by decide)
    (hcd : (x == ("__classdict__" : Str)) = false := by decide)
    (hbase : attributeBase (.Name x p1) "append" X.env (eval (.Name x p1) X.env) = eval (.Name x p1) X.env := by rfl)
    (hfew : ((backTo cpos (starEach [e] X.env)).all (fun x => !x.1) && (backToKw cpos (keywordEach [] X.env)).all (fun x => x.1.isSome)
      && decide ([e].length + ([] : List Keyword).length + (if ([] : List Keyword).isEmpty then 0 else 1) < 30)) = true := by rfl)
    (hline : (apos.endLine == cpos.line) = true := by rfl) (hs1 : starEach [e] X.env = (false, eval e X.env) :: starEach [] X.env := by rfl) (hplain : (backTo cpos (starEach [] X.env)).any (·.1) = false := by rfl)
    (hs : swapsWith (.Call (.Attribute (.Name x p1) "append" apos) [e] [] cpos) none pos.line X.env = pure false := by rfl) :
    PS X (.Expr (.Call (.Attribute (.Name x p1) "append" apos) [e] [] cpos) pos) (sV (gx X) R O O Ob (sApp i a)) :=
  (ps_expr (pe_bm PySem.F.plainAttrs_list PySem.F.slot_list_append PySem.F.type_list_append mt_append (pe_var hN hv hd hcd) (pa_cons he pa_nil hs1) hbase hfew hline hs1 hplain) hs).imp fun D σ H ⟨F0, H0, F, env, out, hs, hf, ho, q⟩ => by
    simp only [sApp] at ho
    obtain ⟨d, h1, ho⟩ := bind_some ho
    rcases hs.ownC hi with ⟨p, vs, ds, h2, h3, h4, h5, h6⟩ | ⟨kvs, h3⟩
    rotate_left
    · rw [show env.getD i none = some (.dict kvs) by rw [List.getD_eq_getElem?_getD, h3]; rfl] at ho
      cases ho
    rw [show env.getD i none = some (.list ds) by rw [List.getD_eq_getElem?_getD, h3]; rfl] at ho
    simp only at ho
    split at ho
    · rename_i hz
      cases ho
      refine ⟨.ref p, h2, .inl ⟨rfl, vs, .inl (.inl h5)⟩, F, env, d, hs, h1, fun v F1 H1 g1 r1 => ⟨p, vs, v, rfl, rfl, g1.hh.l h5, by rw [h6.length]; exact hz, ?_⟩⟩
      exact q σ F1 _ ((hs.gr g1).chg (k := .lst) hi h2 ((h6.mono g1.ff).append (.cons r1 .nil)) trivial) (fr_chg (hs.gr g1) (hf.step g1) hi h2) g1.ff
    · cases ho
theorem sext {x : Str} {e : Expr} {a : SE} {p1 apos cpos : Pos} (i : Nat) (he : PE X e (rN (gx X) O a)) (hi : i ∈ O := by decide) (hN : X.N[i]? = some x := by rfl) (hv : Vis X.env.scope x := by first | exact Or.inl rfl | exact Or.inr (Or.inl rfl) | exact Or.inr (Or.inr rfl)) (hd : (x == ("__debug__" : Str)) = false := by decide)
    (hcd : (x == ("__classdict__" : Str)) = false := by decide)
    (hbase : attributeBase (.Name x p1) "extend" X.env (eval (.Name x p1) X.env) = eval (.Name x p1) X.env := by rfl)
    (hfew : ((backTo cpos (starEach [e] X.env)).all (fun x => !x.1) && (backToKw cpos (keywordEach [] X.env)).all (fun x => x.1.isSome)
      && decide ([e].length + ([] : List Keyword).length + (if ([] : List Keyword).isEmpty then 0 else 1) < 30)) = true := by rfl)
    (hline : (apos.endLine == cpos.line) = true := by rfl) (hs1 : starEach [e] X.env = (false, eval e X.env) :: starEach [] X.env := by rfl) (hplain : (backTo cpos (starEach [] X.env)).any (·.1) = false := by rfl)
    (hs : swapsWith (.Call (.Attribute (.Name x p1) "extend" apos) [e] [] cpos) none pos.line X.env = pure false := by rfl) :
    PS X (.Expr (.Call (.Attribute (.Name x p1) "extend" apos) [e] [] cpos) pos) (sV (gx X) R O O Ob (sExt i a)) :=
  (ps_expr (pe_bm PySem.F.plainAttrs_list PySem.F.slot_list_extend PySem.F.type_list_extend mt_extend (pe_var hN hv hd hcd) (pa_cons he pa_nil hs1) hbase hfew hline hs1 hplain) hs).imp fun D σ H ⟨F0, H0, F, env, out, hs, hf, ho, q⟩ => by
    simp only [sExt] at ho
    obtain ⟨d, h1, ho⟩ := bind_some ho
    rcases hs.ownC hi with ⟨p, vs, ds, h2, h3, h4, h5, h6⟩ | ⟨kvs, h3⟩
    rotate_left
    · rw [show env.getD i none = some (.dict kvs) by rw [List.getD_eq_getElem?_getD, h3]; rfl] at ho
      cases ho
    rw [show env.getD i none = some (.list ds) by rw [List.getD_eq_getElem?_getD, h3]; rfl] at ho
    refine ⟨.ref p, h2, .inl ⟨rfl, vs, .inl (.inl h5)⟩, F, env, d, hs, h1, fun p' k us es F1 H1 g1 e1 e2 e3 r1 o1 e4 => ?_⟩
    subst e4
    cases k with
    | dct o ks => cases ho
    | dki o ks => cases ho
    | lst =>
    simp only [kD] at ho
    split at ho
    · rename_i hz
      cases ho
      refine ⟨p, p', vs, us, rfl, rfl, g1.hh.l h5, e3, by rw [h6.length, r1.length]; exact hz, ?_⟩
      exact q σ F1 _ ((hs.gr g1).chg (k := .lst) hi h2 ((h6.mono g1.ff).append r1) trivial) (fr_chg (hs.gr g1) (hf.step g1) hi h2) g1.ff
    · cases ho
end
end TL

set_option Elab.async false
set_option linter.all false
set_option maxRecDepth 100000
namespace TL
open PySem PySem.Spec PyProof.Rows L2
section
variable {X : Cx} {R : RK} {O O' O'' Ob : List Nat} {st : Stmt} {rest : List Stmt} {pos : Pos}
theorem sfor {tg iter : Expr} {body : List Stmt} {fi : SI} {g : SG} {fb : SS} {sl : List Nat} (hp : PassesOwn (model X.prog X.w) X.A X.env X.xe) (hc : X.calm = true) (hi : PI X tg iter (iV (gx X) O fi)) (hg : PG X tg (tG (gx X) O sl g)) (hb : PSs X body (sV (gx X) R O O O fb)) (hsl : ∀ i ∈ O, i ∉ sl := by decide)
    (hs : ∀ x, foldedSetIterable iter X.env x = pure x := by intro _; rfl) : PS X (.For tg iter body [] pos) (sV (gx X) R O O Ob (sFor fi g fb)) :=
  (ps_for hp hc hi hg hb hs).imp fun D σ H ⟨F0, H0, F, env, out, hs, hf, ho, q⟩ => by
    simp only [sFor] at ho
    obtain ⟨ds, h1, ho⟩ := bind_some ho
    refine ⟨F, env, ds, hs, h1, fun J F1 H1 g1 hz hJ => ?_⟩
    refine ⟨fun i m σ' H' => ∃ F' env', SOk (gx X) O F' H' σ' env' ∧ Fr F0 H0 O F' H' σ' ∧ Same F1 F' ∧ i ≤ ds.length ∧ m = ds.length - i ∧ forGo g fb (ds.drop i) env' = some out,
      ⟨ds.length, F1, env, hs.gr g1, hf.step g1, Same.refl F1, Nat.zero_le _, by omega, ho⟩, ?_⟩
    rintro i m σ' H' ⟨F', env', s', f', k', hi, rfl, hgo⟩
    have hJ' := hJ i F' H' k' s'.fh
    cases hd : ds[i]? with
    | none =>
      have hi' : ds.length ≤ i := List.getElem?_eq_none_iff.mp hd
      rw [List.drop_eq_nil_of_le hi'] at hgo
      cases hgo
      exact .inl ⟨hJ'.2 hd, q σ' F' H' s' f' (g1.ff.trans k')⟩
    | some x =>
      have hi' : i < ds.length := (List.getElem?_eq_some_iff.mp hd).1
      have hx : ds[i] = x := (List.getElem?_eq_some_iff.mp hd).2
      have hdr : ds.drop i = x :: ds.drop (i + 1) := by rw [List.drop_eq_getElem_cons hi', hx]
      rw [hdr] at hgo
      simp only [forGo] at hgo
      obtain ⟨env1, hg1, hgo⟩ := bind_some hgo
      obtain ⟨o, hb1, hgo⟩ := bind_some hgo
      refine .inr ⟨(hJ'.1 x hd).1, fun σ2 H2 => ∃ F2 env2, SOk (gx X) O F2 H2 σ2 env2 ∧ Fr F0 H0 O F2 H2 σ2 ∧ Same F' F2 ∧ forGo g fb (ds.drop (i + 1)) env2 = some out, fun σ2 H2 h => ?_, fun v H2 hy => ?_⟩
      · obtain ⟨F2, env2, s2, f2, k2, hg2⟩ := h
        exact ⟨ds.length - (i + 1), by omega, F2, env2, s2, f2, k'.trans k2, hi', rfl, hg2⟩
      · obtain ⟨rfl, rv⟩ := (hJ'.1 x hd).2 v H2 hy
        refine ⟨F', env', x, env1, s', rv, hg1, fun σ2 s2 ln kp => ⟨F0, H0, F', env1, o, s2, ⟨f'.gr, fun j hj p hp => f'.own j hj p (by rw [← kp j (hsl j hj)]; exact hp)⟩, hb1, ?_⟩⟩
        cases o with
        | nx e => exact fun σ3 F3 H3 s3 f3 k3 => ⟨F3, e, s3, f3, k3, hgo⟩
        | ct e => exact fun σ3 F3 H3 s3 f3 k3 => ⟨F3, e, s3, f3, k3, hgo⟩
        | bk e =>
          cases hgo
          exact fun σ3 F3 H3 s3 f3 k3 => q σ3 F3 H3 s3 f3 ((g1.ff.trans k').trans k3)
        | rt d =>
          cases hgo
          exact q
end
section
variable {P : Program} {w : World} {G : Gx} {base : Heap}
theorem start_ok {N ps : List Str} {vs : List V} {ds : List D} {F H : Hp} (hn : N.length = ps.length + n) (sm : Fz G F H) (r : RpAll G F vs ds) (hl : ds.length = ps.length) : SOk G [] F H (L2.start N vs) (ds.map some ++ List.replicate n none) := by
  have lv := r.length
  refine ⟨sm.sm, ?_, fun i d e _ => ?_, fun i h => (by cases h), fun i h => (by cases h), sm.tb⟩
  · unfold L2.start
    simp only [List.length_append, List.length_map, List.length_replicate]
    omega
  · have hi : i < ds.length := by
      by_cases h : i < ds.length
      · exact h
      · rw [List.getElem?_append_right (by simpa using h), List.getElem?_replicate] at e
        split at e <;> cases e
    rw [List.getElem?_append_left (by simpa using hi), List.getElem?_map] at e
    cases q : ds[i]? with
    | none => rw [q] at e; cases e
    | some d' =>
      rw [q] at e
      cases e
      obtain ⟨v, h1, h2⟩ := r.get q
      refine ⟨v, ?_, h2⟩
      unfold L2.start
      rw [List.getElem?_append_left (by simp; omega), List.getElem?_map, h1]
      rfl
theorem fnV {x qual : Str} {st : Stmt} {f : Addr} {fd : FuncData} {N ps : List Str} {k nl : Nat} {body : SS} (Fn : Fun G.K x qual st f fd) (S : FnScope N ps (defScope st)) (hN : N.length = ps.length + nl) {Oe : List Nat}
    (hb : ∀ (cdv : Value) (A : Around) (outer : List PySem.Env) (s : Shared) (H : Hp) (E : XK), Room k (A.deeper (envOfC qual (defScope st) s.heap.objs.size f cdv)) →
      PSs (cxOf CX0 P w G.K G.mg base N qual (defScope st) f cdv A outer s H E).nox (defBody st) (sV G (oV' G) [] Oe [] body)) : FnOk P w G.K G.mg base CX0 (k + 1) f fd ps (spV G ps.length (runF ps.length nl body)) := by
  refine Fn.ok S (fun vs H Q E h => ?_) (fun cdv A outer s H vs Q E hr h => ?_)
  · obtain ⟨F, ds, d, sm, r, hl, _, _⟩ := h
    rw [r.length, hl]
  · obtain ⟨F, ds, d, sm, r, hl, hm, q⟩ := h
    refine ⟨_, hb cdv A outer s H E hr, ?_⟩
    simp only [runF, hl, if_pos rfl] at hm
    obtain ⟨out, h1, h2⟩ := bind_some hm
    refine ⟨F, H, F, _, out, start_ok hN sm r hl, ⟨Gr.refl sm.sm, fun i h => by cases h⟩, h1, ?_⟩
    cases out with
    | nx e =>
      cases h2
      exact fun σ' F' H' s' f' k' => q .non F' H' f'.gr .non
    | rt d' =>
      cases h2
      exact q
    | bk e => cases h2
    | ct e => cases h2
theorem fnN {x qual : Str} {st : Stmt} {f : Addr} {fd : FuncData} {N ps : List Str} {k nl : Nat} {body : SS} (Fn : Fun G.K x qual st f fd) (S : FnScope N ps (defScope st)) (hN : N.length = ps.length + nl) {Oe : List Nat}
    (hb : ∀ (cdv : Value) (A : Around) (outer : List PySem.Env) (s : Shared) (H : Hp) (E : XK), Room k (A.deeper (envOfC qual (defScope st) s.heap.objs.size f cdv)) →
      PSs (cxOf CX0 P w G.K G.mg base N qual (defScope st) f cdv A outer s H E).nox (defBody st) (sV G (oN' G) [] Oe [] body)) : FnOk P w G.K G.mg base CX0 (k + 1) f fd ps (spN G ps.length fun ds => nnD (runF ps.length nl body ds)) := by
  refine Fn.ok S (fun vs H Q E h => ?_) (fun cdv A outer s H vs Q E hr h => ?_)
  · obtain ⟨F, ds, d, sm, r, hl, _, _⟩ := h
    rw [r.length, hl]
  · obtain ⟨F, ds, d, sm, r, hl, hm, q⟩ := h
    refine ⟨_, hb cdv A outer s H E hr, ?_⟩
    obtain ⟨d0, hm, hd⟩ := bind_some hm
    simp only [runF, hl, if_pos rfl] at hm
    obtain ⟨out, h1, h2⟩ := bind_some hm
    refine ⟨F, H, F, _, out, start_ok hN sm r hl, ⟨Gr.refl sm.sm, fun i h => by cases h⟩, h1, ?_⟩
    cases out with
    | nx e =>
      cases h2
      cases hd
    | rt d' =>
      cases h2
      have e : d0 = d := by
        cases d0 <;> first | (cases hd; done) | exact Option.some.inj hd
      subst e
      exact q
    | bk e => cases h2
    | ct e => cases h2
end
end TL

set_option Elab.async false
set_option linter.all false
set_option maxRecDepth 100000
namespace TL
open PySem PySem.Spec PyProof.Rows L2
theorem u0 {k : Nat} {A : Around} (h : Room k A) : A.units < cLine := h.units0
theorem u64 {k : Nat} {A : Around} (h : Room k A) : A.units + 64 < cLine := h.units
theorem u65 {k : Nat} {A : Around} (h : Room k A) : A.units + 65 < cLine := by have := h.un; omega
theorem fnNever {P : Program} {w : World} {K : PySem.W.Frag} {mg : Str → Option Value} {base : Heap} {CX : CXT} {k : Nat} {f : Addr} {fd : FuncData} {ps : List Str} {sp : Sp} (h : ∀ vs H Q E, ¬ sp vs H Q E) : FnOk P w K mg base CX k f fd ps sp :=
  ⟨fun vs H Q E q => absurd q (h vs H Q E), fun _ _ _ H _ _ vs Q E _ _ _ _ q => absurd q (h vs H Q E)⟩
section
variable {X : Cx} {O : List Nat}
theorem lc2_read {G : Gx} {O : List Nat} {fi fi1 : SI} {g g1 : SG} {c c1 : ST} {f : SE} {sl sl1 vs vs1 : List Nat} (hsl : ∀ j ∈ sl, j ∈ vs) (hsl1 : ∀ j ∈ sl1, j ∈ vs1) (hO : ∀ j ∈ vs, j ∉ O) (hO1 : ∀ j ∈ vs1, j ∉ O) {σ : L2.St} {H : Hp} {Q : VK} (h : rN G O (eLc2 vs fi g c vs1 fi1 g1 c1 f) σ H Q) :
    tLc2 (iB G O fi) (tG G O sl g) (rT G O c) (iV G O fi1) (tG G O sl1 g1) (rT G O c1) (rV G O f) vs vs1 σ H Q := by
    obtain ⟨F, env, d, hs, hf, q⟩ := h
    simp only [eLc2] at hf
    obtain ⟨ds, h1, hf⟩ := bind_some hf
    obtain ⟨es, h2, h3⟩ := bind_some hf
    split at h3
    case isFalse => cases h3
    rename_i hlen
    cases h3
    have wipe2 : ∀ (vs ws : List Nat) (τ : L2.St), (∀ j ∈ ws, j ∈ vs) → L2.wipe (L2.wipe τ ws) vs = L2.wipe τ vs := fun vs ws τ h => ext_wipe (sl := ws) (wipe_length _ _) (fun j hj => wipe_out hj) h
    refine ⟨F, env, ds, hs, h1, fun J F1 H1 gr1 hz hJ D0 hD => ?_⟩
    have hs1 := hs.gr gr1
    refine ⟨fun i m H' => ∃ F' acc accD rest, LcI G F1 H1 F' H' D0 acc accD ∧ i ≤ ds.length ∧ m = ds.length - i ∧ lcGo2 g c fi1 vs1 g1 c1 f (wipeE env vs) (ds.drop i) = some rest ∧ es = accD ++ rest,
      ⟨ds.length, F1, [], [], es, ⟨Gr.open_ gr1.fh hD, Same.nn gr1.fh hD, upd_same, .nil⟩, Nat.zero_le _, by omega, h2, rfl⟩, ?_⟩
    rintro i m H' ⟨F', acc, accD, rest, L, l2, rfl, hgo, ees⟩
    have hs' := (hs1.gr L.gr).wipe hO
    have hJ' := hJ i F' H' L.gr.ff L.gr.hh L.gr.fh
    cases hd : ds[i]? with
    | none =>
      have hi : ds.length ≤ i := List.getElem?_eq_none_iff.mp hd
      refine .inl ⟨hJ'.2 hd, ?_⟩
      rw [List.drop_eq_nil_of_le hi] at hgo
      cases hgo
      rw [List.append_nil] at ees
      subst ees
      exact q D0 .lst acc es F' H' (gr1.trans L.gr) (gr1.hh.free hD) L.fr L.at_ L.rp trivial rfl
    | some x =>
      have hi : i < ds.length := (List.getElem?_eq_some_iff.mp hd).1
      have hx : ds[i] = x := (List.getElem?_eq_some_iff.mp hd).2
      have hdr : ds.drop i = x :: ds.drop (i + 1) := by rw [List.drop_eq_getElem_cons hi, hx]
      rw [hdr] at hgo
      simp only [lcGo2] at hgo
      obtain ⟨env1, hg1, hgo⟩ := bind_some hgo
      obtain ⟨b, hc1, hgo⟩ := bind_some hgo
      refine .inr ⟨(hJ'.1 x hd).1, fun H2 => ∃ F' acc accD rest, LcI G F1 H1 F' H2 D0 acc accD ∧ lcGo2 g c fi1 vs1 g1 c1 f (wipeE env vs) (ds.drop (i + 1)) = some rest ∧ es = accD ++ rest, fun H2 h => ?_, fun v H2 hy => ?_⟩
      · obtain ⟨F2, acc2, accD2, rest2, L2, hg2, e2⟩ := h
        exact ⟨ds.length - (i + 1), by omega, F2, acc2, accD2, rest2, L2, hi, rfl, hg2, e2⟩
      · obtain ⟨rfl, rv⟩ := (hJ'.1 x hd).2 v H2 hy
        refine ⟨F', _, x, env1, hs', rv, hg1, fun σ2 s2 ln kp => ⟨ext_wipe ln kp hsl |>.trans (wipe2 _ _ _ fun j h => h), F', env1, b, s2, hc1, fun F3 H3 g3 => ?_⟩⟩
        cases b with
        | false =>
          rw [if_neg Bool.false_ne_true] at hgo ⊢
          exact ⟨F3, acc, accD, rest, L.gr' g3, hgo, ees⟩
        | true =>
          rw [if_pos rfl] at hgo ⊢
          obtain ⟨ds1, hi1, hgo⟩ := bind_some hgo
          obtain ⟨a1, ha1, hgo⟩ := bind_some hgo
          obtain ⟨rest2, hg2, e2⟩ := map_some hgo
          refine ⟨F3, env1, ds1, s2.gr g3, hi1, fun J1 F4 H4 g4 hz1 hJ1 => ?_⟩
          have L4 := (L.gr' g3).gr' g4
          have s4 := (s2.gr g3).gr g4
          -- the frame of the inner loop: all but the list that grows
          refine ⟨fun j k H5 => ∃ F5 acc5 accD5 rest5, LcI G F1 H1 F5 H5 D0 acc5 accD5 ∧ Same F4 F5 ∧ (∀ p o, H4 p = some o → p ≠ D0 → ∃ o', H5 p = some o' ∧ (nt o = true → o' = o)) ∧ (∀ p o, H4 p = some o → F4 p = none → F5 p = none) ∧ j ≤ ds1.length ∧ k = ds1.length - j ∧ lcGo g1 c1 f (wipeE env1 vs1) (ds1.drop j) = some rest5 ∧ es = accD5 ++ (rest5 ++ rest2),
            ⟨ds1.length, F4, acc, accD, a1, L4, Same.refl F4, fun _ _ e _ => ⟨_, e, fun _ => rfl⟩, fun _ _ _ e => e, Nat.zero_le _, by omega, ha1, by rw [ees, ← e2]⟩, ?_⟩
          rintro j k H5 ⟨F5, acc5, accD5, rest5, L5, k5, kh5, kf5, lj, rfl, hgo5, ees5⟩
          have s5 : SOk G O F5 H5 σ2 env1 := by
            refine ⟨L5.gr.fh, s4.len, fun i d e n => ?_, fun i hi => ?_, s4.dj, hs1.tb.gr L5.gr⟩
            · obtain ⟨v, e1, e2⟩ := s4.imm i d e n
              exact ⟨v, e1, e2.mono k5⟩
            · obtain ⟨p, kk, us, es', e1, e2, e3, e4, e5, hK⟩ := s4.own i hi
              have pne : p ≠ D0 := by
                intro z
                obtain ⟨p', kk', _, _, e1', _, _, e4', _⟩ := hs1.own i hi
                have ei : L2.wipe σ vs = L2.wipe σ2 vs := (ext_wipe ln kp hsl |>.trans (wipe2 _ _ _ fun j h => h)).symm
                have w1 : (L2.wipe σ vs)[i]? = σ[i]? := wipe_out fun z => hO i z hi
                have w2 : (L2.wipe σ2 vs)[i]? = σ2[i]? := wipe_out fun z => hO i z hi
                rw [ei, w2, e1] at w1
                rw [e1'] at w1
                cases w1
                rw [z, hD] at e4'
                cases e4'
              obtain ⟨o', k1, k2⟩ := kh5 p _ e4 pne
              have k3 := k2 (nt_kO _ _ _ _ _)
              subst k3
              exact ⟨p, kk, us, es', e1, e2, kf5 p _ e4 e3, k1, e5.mono k5, hK⟩
          have s5' := s5.wipe hO1
          have hJ5 := hJ1 j F5 H5 k5 L5.gr.fh
          cases hd1 : ds1[j]? with
          | none =>
            have hj : ds1.length ≤ j := List.getElem?_eq_none_iff.mp hd1
            rw [List.drop_eq_nil_of_le hj] at hgo5
            cases hgo5
            exact .inl ⟨hJ5.2 hd1, F5, acc5, accD5, rest2, L5, hg2, ees5⟩
          | some x1 =>
            have hj : j < ds1.length := (List.getElem?_eq_some_iff.mp hd1).1
            have hx1 : ds1[j] = x1 := (List.getElem?_eq_some_iff.mp hd1).2
            have hdr1 : ds1.drop j = x1 :: ds1.drop (j + 1) := by rw [List.drop_eq_getElem_cons hj, hx1]
            rw [hdr1] at hgo5
            simp only [lcGo] at hgo5
            obtain ⟨env2, hg5, hgo5⟩ := bind_some hgo5
            obtain ⟨b1, hc5, hgo5⟩ := bind_some hgo5
            refine .inr ⟨(hJ5.1 x1 hd1).1, fun H6 => ∃ F5 acc5 accD5 rest5, LcI G F1 H1 F5 H6 D0 acc5 accD5 ∧ Same F4 F5 ∧ (∀ p o, H4 p = some o → p ≠ D0 → ∃ o', H6 p = some o' ∧ (nt o = true → o' = o)) ∧ (∀ p o, H4 p = some o → F4 p = none → F5 p = none) ∧ lcGo g1 c1 f (wipeE env1 vs1) (ds1.drop (j + 1)) = some rest5 ∧ es = accD5 ++ (rest5 ++ rest2), fun H6 h => ?_, fun v1 H6 hy1 => ?_⟩
            · obtain ⟨F6, acc6, accD6, rest6, L6, k6, kh6, kf6, hg6, e6⟩ := h
              exact ⟨ds1.length - (j + 1), by omega, F6, acc6, accD6, rest6, L6, k6, kh6, kf6, hj, rfl, hg6, e6⟩
            · obtain ⟨rfl, rv1⟩ := (hJ5.1 x1 hd1).2 v1 H6 hy1
              refine ⟨F5, _, x1, env2, s5', rv1, hg5, fun σ3 s3 ln3 kp3 => ⟨ext_wipe ln3 kp3 hsl1 |>.trans (wipe2 _ _ _ fun j h => h), F5, env2, b1, s3, hc5, fun F7 H7 g7 => ?_⟩⟩
              have ih7 : ∀ {F8 H8}, Gr F5 H6 F8 H8 → Same F4 F8 ∧ (∀ p o, H4 p = some o → p ≠ D0 → ∃ o', H8 p = some o' ∧ (nt o = true → o' = o)) ∧ (∀ p o, H4 p = some o → F4 p = none → F8 p = none) := fun {F8 H8} g8 => ⟨k5.trans g8.ff, fun p o e n => (by
                obtain ⟨o5, e5, t5⟩ := kh5 p o e n
                obtain ⟨o8, e8, t8⟩ := g8.hh.ex e5
                exact ⟨o8, e8, fun z => by
                  have z5 := t5 z
                  subst z5
                  exact t8 z⟩), fun p o e n => by
                by_cases z : p = D0
                · rw [z]; exact g8.hid _ _ L5.at_ L5.fr
                · obtain ⟨o5, e5, _⟩ := kh5 p o e z
                  exact g8.hid p o5 e5 (kf5 p o e n)⟩
              cases b1 with
              | false =>
                rw [if_neg Bool.false_ne_true] at hgo5
                refine iteF ?_
                obtain ⟨q1, q2, q3⟩ := ih7 g7
                exact ⟨F7, acc5, accD5, rest5, L5.gr' g7, q1, q2, q3, hgo5, ees5⟩
              | true =>
                rw [if_pos rfl] at hgo5
                refine iteT ?_
                obtain ⟨y, he1, hgo5⟩ := bind_some hgo5
                obtain ⟨rest6, hg6, e6⟩ := map_some hgo5
                refine ⟨F7, env2, y, s3.gr g7, he1, fun w F8 H8 g8 r8 => ?_⟩
                have L8 := (L5.gr' g7).gr' g8
                obtain ⟨q1, q2, q3⟩ := ih7 (g7.trans g8)
                refine ⟨acc5, L8.at_, ?_, F8, acc5 ++ [w], accD5 ++ [y], rest6, L8.app hD r8, q1, fun p o e n => by rw [upd_ne n]; exact q2 p o e n, q3, hg6, ?_⟩
                · rw [L8.rp.length]
                  have := hlen
                  rw [ees5, ← e6] at this
                  simp only [List.length_append, List.length_cons] at this
                  omega
                · rw [ees5, ← e6, List.append_assoc]
                  rfl
end
end TL

set_option Elab.async false
set_option linter.all false
set_option maxRecDepth 100000
namespace TL
open PySem PySem.Spec PyProof.Rows L2
section
variable {X : Cx}
theorem prs_get : ∀ {ds : List D} {ps : List (Int × Int)}, prsOf ds = some ps → ds = ps.map prD
  | [], ps, h => by cases h; rfl
  | .tuple [.int i, .int j] :: r, ps, h => by
    simp only [prsOf] at h
    obtain ⟨qs, h1, h2⟩ := map_some h
    subst h2
    rw [prs_get h1]
    rfl
  | .none :: _, _, h => by cases h
  | .bool _ :: _, _, h => by cases h
  | .int _ :: _, _, h => by cases h
  | .str _ :: _, _, h => by cases h
  | .list _ :: _, _, h => by cases h
  | .dict _ :: _, _, h => by cases h
  | .tuple [] :: _, _, h => by cases h
  | .tuple [_] :: _, _, h => by simp [prsOf] at h
  | .tuple (_ :: _ :: _ :: _) :: _, _, h => by simp [prsOf] at h
  | .tuple [.none, _] :: _, _, h => by simp [prsOf] at h
  | .tuple [.bool _, _] :: _, _, h => by simp [prsOf] at h
  | .tuple [.str _, _] :: _, _, h => by simp [prsOf] at h
  | .tuple [.list _, _] :: _, _, h => by simp [prsOf] at h
  | .tuple [.tuple _, _] :: _, _, h => by simp [prsOf] at h
  | .tuple [.dict _, _] :: _, _, h => by simp [prsOf] at h
  | .tuple [.int _, .none] :: _, _, h => by simp [prsOf] at h
  | .tuple [.int _, .bool _] :: _, _, h => by simp [prsOf] at h
  | .tuple [.int _, .str _] :: _, _, h => by simp [prsOf] at h
  | .tuple [.int _, .list _] :: _, _, h => by simp [prsOf] at h
  | .tuple [.int _, .tuple _] :: _, _, h => by simp [prsOf] at h
  | .tuple [.int _, .dict _] :: _, _, h => by simp [prsOf] at h
def kOf (h : Heap) : Value → Int × Int
  | .ref a => match h.get? a with
    | some o => match o.data with
      | .seq its _ => match its.toList with
        | [.int i _, .int j _] => (i, j)
        | _ => (0, 0)
      | _ => (0, 0)
    | none => (0, 0)
  | _ => (0, 0)
theorem prs_vals {pins : List (Addr × Obj)} {s : Shared} {σ : L2.St} {F H : Hp} (I : Inv X pins σ H s) (sm : Same F H) : ∀ {ps : List (Int × Int)} {vs : List V} {its : List Value}, RpAll (gx X) F vs (ps.map prD) → Vals vs its →
    its.map (kOf s.heap) = ps ∧ (∀ v ∈ its, Srt.IsPair s.heap v (kOf s.heap v).1 (kOf s.heap v).2) ∧ ∀ u ∈ its, ∃ v, RelV v u ∧ Rp (gx X) F v (prD (kOf s.heap u))
  | [], _, _, .nil, .nil => ⟨rfl, fun _ h => (by cases h), fun _ h => (by cases h)⟩
  | p :: ps, _, _, .cons h r, .cons rv rr => by
    obtain ⟨h1, h2, h3⟩ := prs_vals I sm r rr
    cases h with
    | @tup a xs _ hs ha =>
      cases rv
      obtain ⟨its2, r2, ⟨o, ho, hc, n, hd⟩, _⟩ := I.tuple (sameT sm hs.t)
      cases ha with
      | cons e1 ha =>
        cases ha with
        | cons e2 ha =>
          cases ha
          cases e1
          cases e2
          obtain ⟨u1, u2, rfl, ri, rj⟩ := vals2 r2
          obtain ⟨t1, rfl⟩ := ri
          obtain ⟨t2, rfl⟩ := rj
          have ek : kOf s.heap (.ref a) = p := by
            unfold kOf
            simp only [ho, hd]
          refine ⟨by rw [List.map_cons, ek, h1], fun v hv => ?_, fun u hu => ?_⟩
          · rcases List.mem_cons.mp hv with rfl | hv
            · rw [ek]
              exact ⟨a, o, t1, t2, n, rfl, ho, hc, hd⟩
            · exact h2 v hv
          · rcases List.mem_cons.mp hu with rfl | hu
            · rw [ek]
              exact ⟨.ref a, rfl, .tup hs (.cons (.int _) (.cons (.int _) .nil))⟩
            · exact h3 u hu
end
namespace SX
open SrtO
section
variable {prog : Program} {w : World} {A : Around} {E : Value → Shared → Prop} {s : Shared}
theorem collect_seq {l : Addr} {vs : List Value} {Q : List Value → Shared → Prop} {T : String} (hT : T = "list" ∨ T = "tuple") {o : Obj} {n : Nat} (ho : s.heap.get? l = some o) (hc : o.cls = .type T) (hd : o.data = .seq vs.toArray n)
    (h : Q vs { s with heap := (s.heap.push (seqObj "list" #[] 0)).update s.heap.objs.size (Obj.mapSeq (· ++ vs.toArray)) }) (hsz : vs.length ≤ sizeLine) :
    wpAny (model prog w) A (collect (.ref l)) Q E s := by
  unfold collect
  refine wpAny_bind (wpAny_runValue (codeAny_builtin entry_proto_collect' ?_))
  show wpAny _ _ (do again (.builtin "list.__iadd__" ⟨[← newList [], .ref l], []⟩)) _ _ s
  refine wpAny_bind (wpAny_newList (wpAny_pure ⟨Code.quiet_builtin _ (by decide +kernel), codeAny_builtin entry_list_iadd' ?_⟩))
  show wpAny _ _ (Builtin.List.listExtendWith (.ref s.heap.objs.size) (.ref l) (.ref s.heap.objs.size)) _ _ { s with heap := s.heap.push (seqObj "list" #[] 0) }
  unfold Builtin.List.listExtendWith
  have ho' : (s.heap.push (seqObj "list" #[] 0)).get? l = some o := Heap.get?_push_of_some _ ho
  refine wpAny_bind (wpAny_typeOf (T := T) ⟨o, ho', hc⟩ ?_)
  have ht : ((Value.type T == Value.type "list") || (Value.type T == Value.type "tuple")) = true := by
    rcases hT with rfl | rfl <;> rfl
  rw [if_pos (by rw [Bool.or_assoc, ht, Bool.or_true])]
  refine wpAny_bind (listItems_at ho' hd ?_)
  refine wpAny_bind (listItems_at (xs := #[]) (n := 0) (Heap.get?_push_size _ rfl) rfl ?_)
  rw [if_neg (by simp)]
  refine wpAny_bind (listUpdate_at (xs := #[]) (n := 0) (Heap.get?_push_size _ rfl) rfl ?_ (Nat.zero_le _) (by show (#[] ++ vs.toArray).size ≤ sizeLine + 1; simp only [Array.size_append, List.size_toArray, List.length_nil]; omega))
  refine wpAny_pure ?_
  show wpAny (model prog w) A (do
      let o ← load s.heap.objs.size
      match o.data with
      | .seq xs _ => pure xs.toList
      | _ => unsupported "internal:collect") Q E { s with heap := (s.heap.push (seqObj "list" #[] 0)).update s.heap.objs.size (Obj.mapSeq (· ++ vs.toArray)) }
  refine wpAny_bind (wpAny_load (get?_update_seq (Heap.get?_push_size _ rfl) _) ?_)
  show wpAny _ _ (pure ((#[] : Array Value) ++ vs.toArray).toList) Q E _
  rw [show ((#[] : Array Value) ++ vs.toArray).toList = vs by simp]
  exact wpAny_pure h
theorem sorted_seq {l : Addr} {vs : List Value} {ltv : Value → Value → Bool} {Q : Value → Shared → Prop} (O : Swo ltv) {T : String} (hT : T = "list" ∨ T = "tuple") {o : Obj} {n : Nat} (ho : s.heap.get? l = some o) (hc : o.cls = .type T) (hd : o.data = .seq vs.toArray n) (hz : vs.length ≤ sizeLine)
    (hS : 2 ≤ vs.length → ∀ (h₁ : Heap) (a : Addr), h₁.get? a = some (seqObj "list" vs.toArray 0) → (∀ b o, s.heap.get? b = some o → b ≠ a ∧ h₁.get? b = some o) → SortableO prog w A.in1.in1 { s with heap := h₁ } a vs ltv)
    (h : ∀ out : List Value, Srtd ltv out → Stb ltv out vs → Q (.ref (s.heap.objs.size + 1)) { s with heap := sortedAll s.heap vs out.toArray }) :
    wpAny (model prog w) A (call (.builtin "sorted") [.ref l]) Q E s := by
  refine Calls.call_function_entry kind_sorted plain_sorted entry_sorted (args_sorted1 _) ?_
  unfold Builtin.«sorted»
  refine wpAny_bind (m := checkCount "sorted" 1 1 _) (wpAny_pure ?_)
  refine wpAny_bind (collect_seq hT ho hc hd ?_ hz)
  refine wpAny_bind (wpAny_newList ?_ hz)
  have hsz : ((s.heap.push (seqObj "list" #[] 0)).update s.heap.objs.size (Obj.mapSeq (· ++ vs.toArray))).objs.size = s.heap.objs.size + 1 := by
    rw [Heap.size_update, size_push']
  have hoL : (((s.heap.push (seqObj "list" #[] 0)).update s.heap.objs.size (Obj.mapSeq (· ++ vs.toArray))).push (seqObj "list" vs.toArray 0)).get? (s.heap.objs.size + 1) = some (seqObj "list" vs.toArray 0) := by
    rw [← hsz]; exact Heap.get?_push_size _ rfl
  have keep : ∀ b o, s.heap.get? b = some o → b ≠ s.heap.objs.size + 1 ∧ (((s.heap.push (seqObj "list" #[] 0)).update s.heap.objs.size (Obj.mapSeq (· ++ vs.toArray))).push (seqObj "list" vs.toArray 0)).get? b = some o := fun b o q => by
    have hlt : b < s.heap.objs.size := Heap.lt_size q
    refine ⟨Nat.ne_of_lt (Nat.lt_succ_of_lt hlt), Heap.get?_push_of_some _ ?_⟩
    rw [Heap.get?_update_ne _ _ _ _ (Nat.ne_of_lt hlt)]
    exact Heap.get?_push_of_some _ q
  show wpAny _ _ _ _ _ { s with heap := ((s.heap.push (seqObj "list" #[] 0)).update s.heap.objs.size (Obj.mapSeq (· ++ vs.toArray))).push (seqObj "list" vs.toArray 0) }
  rw [hsz]
  refine wpAny_bind (wpAny_holding (wpAny_call_entry slot_list_sort ⟨_, hoL, rfl⟩ entry_list_sort (list_sort_ord O hoL hz (fun h2 => hS h2 _ _ hoL keep) fun out hs hb => ⟨_, rfl, ?_⟩) (args_list_sort _)))
  exact wpAny_pure ⟨_, rfl, h out hs hb⟩
end
end SX
section
variable {X : Cx}
theorem sorted_core {pins : List (Addr × Obj)} {s : Shared} {σ : L2.St} {F H : Hp} {p : Addr} {vs : List V} {its : List Value} {ds es : List D} {Q : VK} {T : String} {o : Obj} {n : Nat} (I : Inv X pins σ H s) (sm : Same F H) (hT : T = "list" ∨ T = "tuple") (ho : s.heap.get? p = some o) (hc : o.cls = .type T) (hd : o.data = .seq its.toArray n)
    (rv : Vals vs its) (hz : vs.length ≤ sizeLine) (r' : RpAll (gx X) F vs ds) (hs : sortL ds = some es) (q : kN (gx X) F H (.list es) Q) : wpAny (model X.prog X.w) X.A (call (.builtin "sorted") [.ref p]) (EP X pins σ Q) X.xe s := by
  unfold sortL at hs
  cases hi : intsOf ds with
  | some ns =>
    rw [hi] at hs
    cases hs
    have hv := r'.ints hi
    subst hv
    have hI := rv.ints
    refine SX.sorted_seq SrtO.swo_int hT ho hc hd (by rw [← rv.length]; exact hz) (fun h2 h₁ a' _ _ => SrtO.ints_sortable hI h2) fun out h1 h2 => ?_
    obtain ⟨k1, k2, k3⟩ := SrtO.ints_out hI h1 h2
    obtain ⟨ep, he'⟩ := PyProof.Rows.sortedAll_at s.heap its out.toArray
    have hlen : ((out.map SrtO.iv).map V.int).length ≤ sizeLine := by
      rw [List.length_map, k2.length_eq]
      rw [List.length_map] at hz
      exact hz
    have e : out.map SrtO.iv = isort ltI ns := asc_uniq antiI (k2.trans (isort_perm ns).symm) (k3.imp fun h => decide_eq_false (by omega)) (isort_asc swoI ns)
    have rr : ∀ l : List Int, RpAll (gx X) F (l.map V.int) (l.map .int) := by
      intro l
      induction l with
      | nil => exact .nil
      | cons i l ih => exact .cons (.int i) ih
    refine ⟨.ref _, upd H (s.heap.objs.size + 1) (.lst ((out.map SrtO.iv).map V.int)), I.laid (t' := s.toks) (fun _ _ => PyProof.Rows.sortedAll_old) (Nat.le_succ _) ⟨hlen, out, ep, vals_of_ints k1, he'⟩, rfl, ?_⟩
    exact q.newL sm (by rw [e]; exact rr _) (I.hok.fresh (Nat.le_succ _))
  | none =>
    rw [hi] at hs
    obtain ⟨ps, h3, h4⟩ := map_some hs
    subst h4
    have ed := prs_get h3
    subst ed
    obtain ⟨k1, k2, k3⟩ := prs_vals I sm r' rv
    refine SX.sorted_seq (SrtO.swo_lex (kOf s.heap)) hT ho hc hd (by rw [← rv.length]; exact hz) (fun h2 h₁ a ha kk => ?_) fun out h1 h2 => ?_
    · refine SrtO.pairs_sortableO (s := { s with heap := h₁ }) (by omega) (fun v hm => (k2 v hm).keeps fun b o e _ => (kk b o e).2) fun o e => ?_
      have e' : some o = some (seqObj "list" its.toArray 0) := e.symm.trans ha
      cases e'
      intro c
      exact absurd (Value.type.inj c) (by decide)
    · have hmem : ∀ u ∈ out, u ∈ its := fun u hu => h2.perm.mem_iff.mp hu
      have rel : ∀ l : List Value, (∀ u ∈ l, u ∈ its) → ∃ ws, Vals ws l ∧ RpAll (gx X) F ws ((l.map (kOf s.heap)).map prD) := by
        intro l
        induction l with
        | nil => exact fun _ => ⟨[], .nil, .nil⟩
        | cons u l ih =>
          intro hu
          obtain ⟨ws, w1, w2⟩ := ih fun v hv => hu v (List.mem_cons_of_mem _ hv)
          obtain ⟨v, v1, v2⟩ := k3 u (hu u List.mem_cons_self)
          exact ⟨v :: ws, .cons v1 w1, .cons v2 w2⟩
      obtain ⟨ws, w1, w2⟩ := rel out hmem
      have e : out.map (kOf s.heap) = isort ltPr ps := by
        refine asc_uniq antiP ?_ ?_ (isort_asc swoP ps)
        · have := h2.perm.map (kOf s.heap)
          rw [k1] at this
          exact this.trans (isort_perm ps).symm
        · exact List.pairwise_map.mpr (h1.imp fun h => h)
      rw [e] at w2
      obtain ⟨ep, he'⟩ := PyProof.Rows.sortedAll_at s.heap its out.toArray
      refine ⟨.ref _, upd H (s.heap.objs.size + 1) (.lst ws), I.laid (t' := s.toks) (fun _ _ => PyProof.Rows.sortedAll_old) (Nat.le_succ _) ⟨?_, out, ep, w1, he'⟩, rfl, q.newL sm w2 (I.hok.fresh (Nat.le_succ _))⟩
      rw [w1.length, h2.perm.length_eq, ← rv.length]
      exact hz
theorem c_sorted : CalN X (.builtin "sorted") sortedD := by
  intro pins s σ H xs us Q I r h
  obtain ⟨F, x, dx, d, rfl, sm, bx, hd, q⟩ := h
  cases dx with
  | list ds =>
    obtain ⟨p, vs, rfl, hl, r'⟩ := bx.lst sm
    obtain ⟨es, h1, h2⟩ := map_some hd
    subst h2
    obtain ⟨its, rv, hL, hz⟩ := I.list hl
    obtain ⟨o, ho, hc, n, hd'⟩ := hL.isList
    rw [Vals.ref1 r]
    exact sorted_core I sm (.inl rfl) ho hc hd' rv hz r' h1 q
  | tuple ds =>
    obtain ⟨p, vs, rfl, _, hl, r'⟩ := bx.tup sm
    obtain ⟨es, h1, h2⟩ := map_some hd
    subst h2
    obtain ⟨its, rv, hT, hz⟩ := I.tuple hl
    obtain ⟨o, ho, hc, n, hd'⟩ := hT
    rw [Vals.ref1 r]
    exact sorted_core I sm (.inr rfl) ho hc hd' rv hz r' h1 q
  | _ => cases hd
theorem _root_.L2.PE.or {t t' : TE} {e : Expr} (h : PE X e t) (h' : PE X e t') : PE X e fun σ H Q => t σ H Q ∨ t' σ H Q := ⟨fun pins s σ H Q I q => q.elim (h.run pins s σ H Q I) (h'.run pins s σ H Q I)⟩
end
end TL

set_option Elab.async false
set_option linter.all false
set_option maxRecDepth 100000
namespace TL
open PySem PySem.Spec PyProof.Rows L2
@[simp] def eRngL (a : SE) : SE := fun env => (a env).bind fun x => (toI x).bind fun n => (rangeD 0 n).map .list
def popD (ds : List D) (i : Int) : Option (D × List D) := if Nat.ble i.natAbs 1000000000 = true then (seqIndex? i ds.length).bind fun k => ds[k]?.map fun d => (d, ds.eraseIdx k) else none
@[simp] def sPopAdd (i j : Nat) (a : SE) : SS := fun env => match env.getD i none, env.getD j none with
  | some (.tuple ds), some (.list es) => (a env).bind fun y => (toI y).bind fun k => (popD es k).bind fun z => if ds.length + 1 ≤ sizeLine then some (.nx ((env.set j (some (.list z.2))).set i (some (.tuple (ds ++ [z.1]))))) else none
  | _, _ => none
section
variable {X : Cx} {R : RK} {O Ob : List Nat} {e : Expr} {pos p p2 pos2 : Pos} {f : SE}
end
end TL

set_option Elab.async false
set_option linter.all false
set_option maxRecDepth 100000
namespace TL
open PySem PySem.Spec PyProof.Rows L2
abbrev QE := Nat → Env → Int → Option (D × Int)
abbrev QT := Nat → Env → Int → Option (Bool × Int)
abbrev QA := Nat → Env → Int → Option (List D × Int)
inductive QOut where
  | nx (e : Env) (c : Int) | rt (d : D) (c : Int) | bk (e : Env) (c : Int) | ct (e : Env) (c : Int)
abbrev QS := Nat → Env → Int → Option QOut
@[simp] def ql (f : SE) : QE := fun _ env c => (f env).map fun d => (d, c)
@[simp] def qlT (f : ST) : QT := fun _ env c => (f env).map fun d => (d, c)
@[simp] def qlI (f : SI) : QA := fun _ env c => (f env).map fun d => (d, c)
@[simp] def toQ (c : Int) : Out → QOut
  | .nx e => .nx e c
  | .rt d => .rt d c
  | .bk e => .bk e c
  | .ct e => .ct e c
@[simp] def qlS (f : SS) : QS := fun _ env c => (f env).map (toQ c)
@[simp] def q1 (op : D → Option D) (a : QE) : QE := fun r env c => (a r env c).bind fun x => (op x.1).map fun d => (d, x.2)
@[simp] def q2 (op : D → D → Option D) (a b : QE) : QE := fun r env c => (a r env c).bind fun x => (b r env x.2).bind fun y => (op x.1 y.1).map fun d => (d, y.2)
@[simp] def qIf (k : QT) (a b : QE) : QE := fun r env c => (k r env c).bind fun x => if x.1 = true then a r env x.2 else b r env x.2
@[simp] def qAnd (a b : QE) : QE := fun r env c => (a r env c).bind fun x => (toB x.1).bind fun k => if k = true then b r env x.2 else some (.bool false, x.2)
@[simp] def qOr (a b : QE) : QE := fun r env c => (a r env c).bind fun x => (toB x.1).bind fun k => if k = true then some (.bool true, x.2) else b r env x.2
@[simp] def qNot (a : QE) : QE := fun r env c => (a r env c).bind fun x => (toB x.1).map fun k => (.bool (!k), x.2)
@[simp] def qArgs : List QE → QA
  | [] => fun _ _ c => some ([], c)
  | a :: l => fun r env c => (a r env c).bind fun x => (qArgs l r env x.2).map fun y => (x.1 :: y.1, y.2)
@[simp] def qTup (l : List QE) : QE := fun r env c => (qArgs l r env c).bind fun x => if x.1.length ≤ sizeLine then some (.tuple x.1, x.2) else none
@[simp] def qLst (l : List QE) : QE := fun r env c => (qArgs l r env c).bind fun x => if x.1.length ≤ sizeLine then some (.list x.1, x.2) else none
@[simp] def qCallV (m : List D → Option D) (l : List QE) : QE := fun r env c => (qArgs l r env c).bind fun x => (m x.1).map fun d => (d, x.2)
@[simp] def qCall (m : Nat → List D → Int → Option (D × Int)) (l : List QE) : QE := fun r env c => (qArgs l r env c).bind fun x => m r x.1 x.2
@[simp] def qtV (a : QE) : QT := fun r env c => (a r env c).bind fun x => (toB x.1).map fun k => (k, x.2)
@[simp] def qtAnd (a b : QT) : QT := fun r env c => (a r env c).bind fun k => if k.1 = true then b r env k.2 else some (false, k.2)
@[simp] def qtOr (a b : QT) : QT := fun r env c => (a r env c).bind fun k => if k.1 = true then some (true, k.2) else b r env k.2
@[simp] def qtNot (a : QT) : QT := fun r env c => (a r env c).map fun k => (!k.1, k.2)
@[simp] def qRng1 (a : QE) : QA := fun r env c => (a r env c).bind fun x => (toI x.1).bind fun n => (rangeD 0 n).map fun d => (d, x.2)
@[simp] def qSeqI (a : QE) : QA := fun r env c => (a r env c).bind fun x => (itemsD x.1).map fun d => (d, x.2)
def hid (r : Nat) (H : Hp) : Hp := fun p => if p = r then none else H p
theorem hid_r {r : Nat} {H : Hp} : hid r H r = none := if_pos rfl
theorem hid_ne {r : Nat} {H : Hp} {p : Addr} (h : p ≠ r) : hid r H p = H p := if_neg h
theorem hid_some {r : Nat} {H : Hp} {p : Addr} {o : HO} (h : hid r H p = some o) : p ≠ r ∧ H p = some o := by
  by_cases e : p = r
  · subst e; rw [hid_r] at h; cases h
  · rw [hid_ne e] at h; exact ⟨e, h⟩
theorem hid_le {r : Nat} {H : Hp} : Same (hid r H) H := fun b o e => (hid_some e).2
theorem SameN.hid_ {r : Nat} {H H' : Hp} (a : SameN H H') : SameN (hid r H) (hid r H') :=
  ⟨fun b o e n => by obtain ⟨k, e⟩ := hid_some e; rw [hid_ne k]; exact a.nn b o e n, fun b ps e => by obtain ⟨k, e⟩ := hid_some e; rw [hid_ne k]; exact a.tb b ps e⟩
theorem TbOk.unhid {G : Gx} {F H : Hp} {r : Nat} (t : TbOk G F (hid r H)) : TbOk G F H := fun x hx c P e =>
  let ⟨h1, ps, h2, h3⟩ := t x hx c P e
  ⟨h1, ps, hid_le _ _ h2, h3⟩
theorem TbOk.hid_ {G : Gx} {F H : Hp} {r : Nat} {vs : List V} (t : TbOk G F H) (hr : H r = some (.lst vs)) : TbOk G F (hid r H) := fun x hx c P e =>
  let ⟨h1, ps, h2, h3⟩ := t x hx c P e
  ⟨h1, ps, by rw [hid_ne (fun z => by rw [z, hr] at h2; cases h2)]; exact h2, h3⟩
structure QOk (G : Gx) (O : List Nat) (r : Nat) (c : Int) (F H : Hp) (σ : L2.St) (env : Env) : Prop where
  s : SOk G O F (hid r H) σ env
  fr : F r = none
  hr : H r = some (.lst [.int c])
structure QGr (r : Nat) (c : Int) (F H F' H' : Hp) : Prop where
  g : Gr F (hid r H) F' (hid r H')
  fr : F' r = none
  hr : H' r = some (.lst [.int c])
section
variable {G : Gx} {O O' : List Nat} {r : Nat} {c c' c2 : Int} {F H F' H' F2 H2 : Hp} {σ : L2.St} {env : Env}
theorem QOk.sok (q : QOk G O r c F H σ env) : SOk G O F H σ env := ⟨q.s.fh.trans hid_le, q.s.len, q.s.imm, fun i hi => by
  obtain ⟨p, kk, vs, ds, h1, h2, h3, h4, h5, hK⟩ := q.s.own i hi
  exact ⟨p, kk, vs, ds, h1, h2, h3, hid_le _ _ h4, h5, hK⟩, q.s.dj, q.s.tb.unhid⟩
theorem QOk.gr (q : QOk G O r c F H σ env) (g : QGr r c' F H F' H') : QOk G O r c' F' H' σ env := ⟨q.s.gr g.g, g.fr, g.hr⟩
theorem QGr.of (g : Gr F H F' H') (hf : F r = none) (hr : H r = some (.lst [.int c])) : QGr r c F H F' H' := by
  have fr : F' r = none := g.hid r _ hr hf
  refine ⟨⟨g.ff, g.hh.hid_, fun b o e => ?_, fun p o e n => ?_⟩, fr, g.hh.l hr⟩
  · have n : b ≠ r := fun z => by rw [z, fr] at e; cases e
    rw [hid_ne n]
    exact g.fh b o e
  · obtain ⟨_, e⟩ := hid_some e
    exact g.hid p o e n
theorem QGr.trans (a : QGr r c F H F' H') (b : QGr r c2 F' H' F2 H2) : QGr r c2 F H F2 H2 := ⟨a.g.trans b.g, b.fr, b.hr⟩
theorem QGr.fh (a : QGr r c F H F' H') : Same F' H' := a.g.fh.trans hid_le
theorem QGr.ff (a : QGr r c F H F' H') : Same F F' := a.g.ff
theorem QOk.of (q : QOk G O r c F H σ env) (g : Gr F H F' H') : QGr r c F H F' H' := .of g q.fr q.hr
theorem QOk.refl (q : QOk G O r c F H σ env) : QGr r c F H F H := q.of (Gr.refl q.sok.fh)
end
section
variable {X : Cx} {O : List Nat} {a b e k : Expr} {es rest : List Expr} {fa fb : QE} {ta tb : QT} {l : List QE} {pos p2 : Pos} {g : D → D → Option D}
end
section
variable {X : Cx} {O : List Nat} {e : Expr} {es : List Expr} {l : List QE} {p pos : Pos} {x : Str} {k n : Nat} {fa : Addr} {fd : FuncData} {ps : List Str}
end
section
variable {X : Cx} {O : List Nat} {e e' : Expr} {f f' : QE} {p pos : Pos} {x : Str} {g : D → Option D} {id T : String}
end
end TL

set_option Elab.async false
set_option linter.all false
set_option maxRecDepth 100000
namespace TL
open PySem PySem.Spec PyProof.Rows L2
@[simp] def qSeq (a b : QS) : QS := fun r env c => (a r env c).bind fun o => match o with
  | .nx e c => b r e c
  | .rt d c => some (.rt d c)
  | .bk e c => some (.bk e c)
  | .ct e c => some (.ct e c)
@[simp] def qNext : QS := fun _ env c => some (.nx env c)
@[simp] def qRet (a : QE) : QS := fun r env c => (a r env c).map fun x => .rt x.1 x.2
@[simp] def qIfS (k : QT) (a b : QS) : QS := fun r env c => (k r env c).bind fun x => if x.1 = true then a r env x.2 else b r env x.2
@[simp] def qAsg (a : QE) (g : SG) : QS := fun r env c => (a r env c).bind fun x => (g x.1 env).map fun e => .nx e x.2
@[simp] def qDrop (a : QE) : QS := fun r env c => (a r env c).map fun x => .nx env x.2
@[simp] def qPar (i j : Nat) (a b : QE) : QS := fun r env c => (a r env c).bind fun x => (b r env x.2).map fun y => .nx ((env.set i (some x.1)).set j (some y.1)) y.2
@[simp] def qApp (i : Nat) (a : QE) : QS := fun r env c => (a r env c).bind fun y => match env.getD i none with
  | some (.list ds) => if ds.length < sizeLine then some (.nx (env.set i (some (.list (ds ++ [y.1])))) y.2) else none
  | _ => none
def qForGo (g : SG) (body : QS) (r : Nat) : List D → Env → Int → Option QOut
  | [], env, c => some (.nx env c)
  | x :: xs, env, c => (g x env).bind fun env1 => (body r env1 c).bind fun o => match o with
    | .nx e c => qForGo g body r xs e c
    | .ct e c => qForGo g body r xs e c
    | .bk e c => some (.nx e c)
    | .rt d c => some (.rt d c)
@[simp] def qFor (it : QA) (g : SG) (body : QS) : QS := fun r env c => (it r env c).bind fun x => qForGo g body r x.1 env x.2
@[simp] def outQ : QOut → Option (D × Int)
  | .rt d c => some (d, c)
  | .nx _ c => some (.none, c)
  | _ => none
def qPost (G : Gx) (O' Ob : List Nat) (F0 H0 : Hp) (r : Nat) (F : Hp) (D : Ends) : QOut → Prop
  | .nx e c => ∀ σ' F' H', QOk G O' r c F' H' σ' e → Fr F0 (hid r H0) O' F' (hid r H') σ' → Same F F' → D.nx σ' H'
  | .bk e c => ∀ σ' F' H', QOk G Ob r c F' H' σ' e → Fr F0 (hid r H0) Ob F' (hid r H') σ' → Same F F' → D.bk σ' H'
  | .ct e c => ∀ σ' F' H', QOk G Ob r c F' H' σ' e → Fr F0 (hid r H0) Ob F' (hid r H') σ' → Same F F' → D.ct σ' H'
  | .rt d c => ∀ v F' H', QGr r c F0 H0 F' H' → Rp G F' v d → D.rt v H'
theorem qPost.ff {G : Gx} {O' Ob : List Nat} {F0 H0 F F1 : Hp} {r : Nat} {D : Ends} {out : QOut} (q : qPost G O' Ob F0 H0 r F D out) (k : Same F F1) : qPost G O' Ob F0 H0 r F1 D out := by
  cases out with
  | nx e => exact fun σ' F' H' s' f' k' => q σ' F' H' s' f' (k.trans k')
  | bk e => exact fun σ' F' H' s' f' k' => q σ' F' H' s' f' (k.trans k')
  | ct e => exact fun σ' F' H' s' f' k' => q σ' F' H' s' f' (k.trans k')
  | rt d => exact q
section
variable {X : Cx} {O O' O'' Ob : List Nat} {st : Stmt} {rest : List Stmt} {pos : Pos}
end
section
variable {P : Program} {w : World} {G : Gx} {base : Heap}
end
end TL

set_option Elab.async false
set_option linter.all false
set_option maxRecDepth 100000
namespace TL
open PySem PySem.Spec PyProof.Rows L2
def rowsOf : D → Option D
  | .dict [(.int _, .list rows)] => some (.list rows)
  | _ => none
def cellOf : D → Option Int
  | .dict [(.int r, .list _)] => some r
  | _ => none
@[simp] def eRows (i : Nat) : SE := fun env => (env.getD i none).bind rowsOf
@[simp] def qCnt (i : Nat) : QE := fun r env c => (env.getD i none).bind fun d => (cellOf d).bind fun k => if k = (r : Int) then some (.int c, c) else none
@[simp] def qStore (i : Nat) (a : QE) : QS := fun r env c => (a r env c).bind fun x => (toI x.1).bind fun n => (env.getD i none).bind fun d => (cellOf d).bind fun k => if k = (r : Int) then some (.nx env n) else none
section
variable {X : Cx} {O O' Ob : List Nat} {e : Expr} {pos p1 p2 p3 : Pos} {x : Str}
end
section
variable {X : Cx} {O O' Ob : List Nat} {e : Expr} {pos p1 p2 p3 : Pos} {x : Str}
end
section
variable {P : Program} {w : World} {G : Gx} {base : Heap}
end
section
variable {X : Cx} {e : Expr} {es : List Expr} {rest : List Stmt} {pos p cpos : Pos} {x y : Str} {l : List SE} {k n : Nat} {fa : Addr} {fd : FuncData} {ps : List Str} {m : List D → Option D} {Oe : List Nat} {body : QS} {pos' : Pos}
end
section
variable {P : Program} {w : World} {G : Gx} {base : Heap}
end
end TL

set_option Elab.async false
set_option linter.all false
set_option maxRecDepth 100000
namespace TL
open PySem PySem.Spec PyProof.Rows L2
def qLcGo (g : SG) (k : QT) (e : QE) (r : Nat) (env : Env) : List D → Int → Option (List D × Int)
  | [], c => some ([], c)
  | x :: xs, c => (g x env).bind fun env1 => (k r env1 c).bind fun t => if t.1 = true then (e r env1 t.2).bind fun y => (qLcGo g k e r env xs y.2).map fun z => (y.1 :: z.1, z.2) else qLcGo g k e r env xs t.2
@[simp] def qLc (vs : List Nat) (it : QA) (g : SG) (k : QT) (e : QE) : QE := fun r env c => (it r env c).bind fun x => (qLcGo g k e r (wipeE env vs) x.1 x.2).map fun y => (.list y.1, y.2)
section
variable {X : Cx} {O : List Nat}
end
end TL

set_option Elab.async false
set_option linter.all false
set_option maxRecDepth 100000
namespace TL
open PySem PySem.Spec PyProof.Rows L2
section
variable {P : Program} {w : World} {G : Gx} {base : Heap}
end
def KTup0 (K : PySem.W.Frag) (a : Addr) : Prop := ∃ (o : Obj) (n : Nat), K.lookup a = some o ∧ o.cls = .type "tuple" ∧ o.dict = none ∧ o.data = .seq #[] n
theorem KTup0.rp {G : Gx} {F : Hp} {a : Addr} (h : KTup0 G.K a) : Rp G F (.ref a) (.tuple []) := by
  obtain ⟨o, n, h1, h2, h3, h4⟩ := h
  exact .tup (.inr ⟨o, #[], n, h1, h2, h3, h4, Nat.zero_le _, .nil⟩) .nil
section
variable {X : Cx} {O : List Nat} {e : Expr} {es : List Expr} {l : List SE} {p pos : Pos} {x : Str} {k n : Nat} {fa a0 : Addr} {fd : FuncData} {ps : List Str} {m : List D → Option D}
@[simp] def eCallD (m : List D → Option D) (l : List SE) : SE := fun env => (eArgs l env).bind fun ds => m (ds ++ [.tuple []])
end
@[simp] def sSetIx (i : Nat) (a b : SE) : SS := fun env => (b env).bind fun y => (a env).bind fun x => (toI x).bind fun k => match env.getD i none with
  | some (.list ds) => (L2.ixN ds.length k).map fun j => .nx (env.set i (some (.list (ds.set j y))))
  | _ => none
theorem RpAll.set {G : Gx} {F : Hp} {v : V} {d : D} (h : Rp G F v d) : ∀ {vs : List V} {ds : List D} (j : Nat), RpAll G F vs ds → RpAll G F (vs.set j v) (ds.set j d)
  | _, _, _, .nil => .nil
  | _, _, 0, .cons _ r => .cons h r
  | _, _, j + 1, .cons h0 r => .cons h0 (RpAll.set h j r)
section
variable {X : Cx} {R : RK} {O Ob : List Nat} {ei ev : Expr} {fi fv : SE} {p1 pos pos' : Pos} {x : Str}
end
end TL

set_option Elab.async false
set_option linter.all false
set_option maxRecDepth 100000
set_option maxHeartbeats 4000000
namespace TL
open PySem PySem.Spec PyProof.Rows L2
section
variable {X : Cx}
end
@[simp] def eTab (tab : List (Str × D)) (a : SE) : SE := fun env => (a env).bind fun d => match d with
  | .str x => tab.lookup x
  | _ => none
end TL
namespace TL
open PySem
end TL

set_option Elab.async false
set_option linter.all false
set_option maxRecDepth 100000
namespace TL
open PySem PySem.Spec PyProof.Rows L2
def strsO : List D → Option (List Str)
  | [] => some []
  | .str x :: r => (strsO r).map (x :: ·)
  | _ => none
@[simp] def eJoin (a : Str) (f : SE) : SE := fun env => (f env).bind fun d => match d with
  | .list ds => (strsO ds).bind fun ys => if (ys.map (·.length)).sum + ys.length * a.length ≤ 16777216 then some (.str (Txt.join a ys)) else none
  | _ => none
end TL

set_option Elab.async false
set_option linter.all false
set_option maxRecDepth 100000
set_option maxHeartbeats 4000000
namespace TL
open PySem PySem.Spec PyProof.Rows L2
section
variable {P : Program} {w : World} {A : Around} {E : Value → Shared → Prop} {s : Shared}
end
end TL

set_option Elab.async false
set_option linter.all false
set_option maxRecDepth 100000
namespace TL
open PySem PySem.Spec PyProof.Rows L2
section
variable {prog : Program} {w : World} {A : Around} {R : Result → Shared → Prop} {I : Addr} {fp wr : List Addr} {n : Nat} {P : Nat → Value → Prop} {St : Nat → Heap → Prop} {dv : Value}
end
section
variable {prog : Program} {w : World} {A : Around} {E : Value → Shared → Prop} {s : Shared}
end
section
variable {X : Cx}
end
end TL

set_option Elab.async false
set_option linter.all false
set_option maxRecDepth 100000
namespace TL
open PySem PySem.Spec PyProof.Rows L2
theorem asc_ext : ∀ {l m : List Int}, l.Pairwise (· < ·) → m.Pairwise (· < ·) → (∀ x, x ∈ l ↔ x ∈ m) → l = m
  | [], [], _, _, _ => rfl
  | [], b :: m, _, _, h => absurd ((h b).mpr List.mem_cons_self) (by simp)
  | a :: l, [], _, _, h => absurd ((h a).mp List.mem_cons_self) (by simp)
  | a :: l, b :: m, hl, hm, h => by
    have hl1 := List.pairwise_cons.mp hl
    have hm1 := List.pairwise_cons.mp hm
    have hab : a = b := by
      rcases List.mem_cons.mp ((h a).mp List.mem_cons_self) with e | e
      · exact e
      · rcases List.mem_cons.mp ((h b).mpr List.mem_cons_self) with e2 | e2
        · exact e2.symm
        · have h1 := hm1.1 a e
          have h2 := hl1.1 b e2
          omega
    subst hab
    have := asc_ext hl1.2 hm1.2 fun x => by
      constructor
      · intro hx
        rcases List.mem_cons.mp ((h x).mp (List.mem_cons_of_mem _ hx)) with e | e
        · have := hl1.1 x hx
          omega
        · exact e
      · intro hx
        rcases List.mem_cons.mp ((h x).mpr (List.mem_cons_of_mem _ hx)) with e | e
        · have := hm1.1 x hx
          omega
        · exact e
    rw [this]
section
variable {X : Cx} {O : List Nat}
end
end TL

set_option Elab.async false
set_option linter.all false
set_option maxRecDepth 100000
namespace TL
open PySem PySem.Spec PyProof.Rows L2 GenW
structure GenOk (N : List Str) (sc scope : Scope) (own : List (Str × Nat)) : Prop where
  b : BlkOk N sc scope own
  co : scope.isCoroutine = false
  cell : ∀ y ∈ scope.names, y.2 ≠ .cell
  dot : scope.names.lookup (".0" : Str) = some NameKind.local
section
variable {X : Cx} {pins : List (Addr × Obj)} {σ : L2.St} {H : Hp} {s : Shared}
end
section
variable {X : Cx} {σ0 : L2.St} {fp : List Addr} {tn : Nat → Heap → Prop} {W : Nat → Hp → Prop} {g n : Nat} {cb : Bool} {QF QT : Hp → Prop} {J : It} {gt : TG} {te : TE}
  {elt tg iter : Expr} {scope : Scope} {pos : Pos} {it : Addr} {As : Around} {vs : List Nat}
end
section
variable {prog : Program} {w : World} {A : Around} {R : Result → Shared → Prop}
end
section
variable {X : Cx} {pins : List (Addr × Obj)} {σ : L2.St} {H : Hp} {s : Shared}
end
end TL

set_option Elab.async false
set_option linter.all false
set_option maxRecDepth 100000
namespace TL
open PySem PySem.Spec PyProof.Rows L2
abbrev Row := List (Option Int)
abbrev WE := Env → Row → Option (D × Row)
abbrev WT := Env → Row → Option (Bool × Row)
abbrev WA := Env → Row → Option (List D × Row)
inductive WOut where
  | nx (e : Env) (c : Row) | rt (d : D) (c : Row) | bk (e : Env) (c : Row) | ct (e : Env) (c : Row)
abbrev WS := Env → Row → Option WOut
def ofO : Option Int → D
  | none => .none
  | some i => .int i
def toO : D → Option (Option Int)
  | .none => some none
  | .int i => some (some i)
  | _ => none
def toRow : List D → Option Row
  | [] => some []
  | d :: ds => (toO d).bind fun o => (toRow ds).map (o :: ·)
@[simp] def wl (f : SE) : WE := fun env c => (f env).map fun d => (d, c)
@[simp] def wlT (f : ST) : WT := fun env c => (f env).map fun d => (d, c)
@[simp] def toW (c : Row) : Out → WOut
  | .nx e => .nx e c
  | .rt d => .rt d c
  | .bk e => .bk e c
  | .ct e => .ct e c
@[simp] def wlS (f : SS) : WS := fun env c => (f env).map (toW c)
@[simp] def w1 (op : D → Option D) (a : WE) : WE := fun env c => (a env c).bind fun x => (op x.1).map fun d => (d, x.2)
@[simp] def w2 (op : D → D → Option D) (a b : WE) : WE := fun env c => (a env c).bind fun x => (b env x.2).bind fun y => (op x.1 y.1).map fun d => (d, y.2)
@[simp] def wNot (a : WE) : WE := fun env c => (a env c).bind fun x => (toB x.1).map fun k => (.bool (!k), x.2)
@[simp] def wArgs : List WE → WA
  | [] => fun _ c => some ([], c)
  | a :: l => fun env c => (a env c).bind fun x => (wArgs l env x.2).map fun y => (x.1 :: y.1, y.2)
@[simp] def wTup (l : List WE) : WE := fun env c => (wArgs l env c).bind fun x => if x.1.length ≤ sizeLine then some (.tuple x.1, x.2) else none
@[simp] def wCall (m : List D → Row → Option (D × Row)) (l : List SE) : WE := fun env c => (eArgs l env).bind fun x => m x c
@[simp] def wRow (a : SE) : WE := fun env c => (a env).bind fun x => (toI x).bind fun k => (L2.atI c k).map fun o => (ofO o, c)
def wAgGo (cb : Bool) (g : SG) (f : WE) (env : Env) : List D → Row → Option (D × Row)
  | [], c => some (.bool cb, c)
  | d :: ds, c => (g d env).bind fun e1 => (f e1 c).bind fun x => (toB x.1).bind fun b => if b = cb then wAgGo cb g f env ds x.2 else some (.bool (!cb), x.2)
@[simp] def wAg (cb : Bool) (vs : List Nat) (fi : SI) (g : SG) (f : WE) : WE := fun env c => (fi env).bind fun ds => wAgGo cb g f (wipeE env vs) ds c
@[simp] def wSeq (a b : WS) : WS := fun env c => (a env c).bind fun o => match o with
  | .nx e c => b e c
  | .rt d c => some (.rt d c)
  | .bk e c => some (.bk e c)
  | .ct e c => some (.ct e c)
@[simp] def wNext : WS := fun env c => some (.nx env c)
@[simp] def wRet (a : WE) : WS := fun env c => (a env c).map fun x => .rt x.1 x.2
@[simp] def wIfS (k : ST) (a b : WS) : WS := fun env c => (k env).bind fun x => if x = true then a env c else b env c
@[simp] def wAsg (a : WE) (g : SG) : WS := fun env c => (a env c).bind fun x => (g x.1 env).map fun e => .nx e x.2
@[simp] def wAug (op : D → D → Option D) (i : Nat) (a : WE) : WS := fun env c => (env.getD i none).bind fun d => (a env c).bind fun x => (op d x.1).map fun z => .nx (env.set i (some z)) x.2
@[simp] def wStore (k a : SE) : WS := fun env c => (a env).bind fun x => (toO x).bind fun o => (k env).bind fun y => (toI y).bind fun z => (L2.ixN c.length z).map fun j => .nx env (c.set j o)
def wForGo (g : SG) (body : WS) : List D → Env → Row → Option WOut
  | [], env, c => some (.nx env c)
  | x :: xs, env, c => (g x env).bind fun env1 => (body env1 c).bind fun o => match o with
    | .nx e c => wForGo g body xs e c
    | .ct e c => wForGo g body xs e c
    | .bk e c => some (.nx e c)
    | .rt d c => some (.rt d c)
@[simp] def wFor (it : SI) (g : SG) (body : WS) : WS := fun env c => (it env).bind fun x => wForGo g body x env c
@[simp] def outW : WOut → Option (D × Row)
  | .rt d c => some (d, c)
  | .nx _ c => some (.none, c)
  | _ => none
def vO : Option Int → V
  | none => .non
  | some i => .int i
structure WOk (G : Gx) (i0 : Nat) (O : List Nat) (r : Nat) (c : Row) (F H : Hp) (σ : L2.St) (env : Env) : Prop where
  s : SOk G O F (hid r H) σ env
  fr : F r = none
  hr : H r = some (.lst (c.map vO))
  rw : σ[i0]? = some (some (.ref r))
structure WGr (r : Nat) (c : Row) (F H F' H' : Hp) : Prop where
  g : Gr F (hid r H) F' (hid r H')
  fr : F' r = none
  hr : H' r = some (.lst (c.map vO))
section
variable {G : Gx} {i0 : Nat} {O O' : List Nat} {r : Nat} {c c' c2 : Row} {F H F' H' F2 H2 : Hp} {σ : L2.St} {env : Env}
theorem WOk.sok (q : WOk G i0 O r c F H σ env) : SOk G O F H σ env := ⟨q.s.fh.trans hid_le, q.s.len, q.s.imm, fun i hi => by
  obtain ⟨p, kk, vs, ds, h1, h2, h3, h4, h5, hK⟩ := q.s.own i hi
  exact ⟨p, kk, vs, ds, h1, h2, h3, hid_le _ _ h4, h5, hK⟩, q.s.dj, q.s.tb.unhid⟩
theorem WOk.gr (q : WOk G i0 O r c F H σ env) (g : WGr r c' F H F' H') : WOk G i0 O r c' F' H' σ env := ⟨q.s.gr g.g, g.fr, g.hr, q.rw⟩
theorem WGr.of (g : Gr F H F' H') (hf : F r = none) (hr : H r = some (.lst (c.map vO))) : WGr r c F H F' H' := by
  have fr : F' r = none := g.hid r _ hr hf
  refine ⟨⟨g.ff, g.hh.hid_, fun b o e => ?_, fun p o e n => ?_⟩, fr, g.hh.l hr⟩
  · have n : b ≠ r := fun z => by rw [z, fr] at e; cases e
    rw [hid_ne n]
    exact g.fh b o e
  · obtain ⟨_, e⟩ := hid_some e
    exact g.hid p o e n
theorem WGr.trans (a : WGr r c F H F' H') (b : WGr r c2 F' H' F2 H2) : WGr r c2 F H F2 H2 := ⟨a.g.trans b.g, b.fr, b.hr⟩
theorem WGr.fh (a : WGr r c F H F' H') : Same F' H' := a.g.fh.trans hid_le
theorem WGr.ff (a : WGr r c F H F' H') : Same F F' := a.g.ff
theorem WOk.of (q : WOk G i0 O r c F H σ env) (g : Gr F H F' H') : WGr r c F H F' H' := .of g q.fr q.hr
theorem WOk.refl (q : WOk G i0 O r c F H σ env) : WGr r c F H F H := q.of (Gr.refl q.sok.fh)
theorem WGr.up {g : Row} (h : WGr r c F H F' H') {vs : List V} (e : vs = g.map vO) : WGr r g F H F' (upd H' r (.lst vs)) := by
  have eH : hid r (upd H' r (.lst vs)) = hid r H' := by
    funext b
    by_cases hb : b = r
    · subst hb; rw [hid_r, hid_r]
    · rw [hid_ne hb, hid_ne hb, upd_ne hb]
  exact ⟨by rw [eH]; exact h.g, h.fr, by rw [upd_same, e]⟩
end
section
variable {X : Cx} {i0 : Nat} {O : List Nat} {a b e k : Expr} {es rest : List Expr} {fa fb : WE} {l : List WE} {pos p2 : Pos} {g : D → D → Option D}
end
section
variable {X : Cx} {i0 : Nat} {O : List Nat} {e : Expr} {es : List Expr} {l : List SE} {p pos : Pos} {x : Str} {k n : Nat} {fa : Addr} {fd : FuncData} {ps : List Str} {a : SE}
@[simp] def eRow (m : List D → Row → Option (D × Row)) (l : List SE) (a : SE) : SE := fun env => (eArgs l env).bind fun ds => (a env).bind fun x => match x with
  | .list rs => (toRow rs).bind fun c => (m ds c).map (·.1)
  | _ => none
end
end TL

set_option Elab.async false
set_option linter.all false
set_option maxRecDepth 100000
namespace TL
open PySem PySem.Spec PyProof.Rows L2
section
variable {X : Cx} {i0 : Nat} {O : List Nat}
end
def wPost (G : Gx) (i0 : Nat) (O' Ob : List Nat) (F0 H0 : Hp) (r : Nat) (F : Hp) (D : Ends) : WOut → Prop
  | .nx e c => ∀ σ' F' H', WOk G i0 O' r c F' H' σ' e → Fr F0 (hid r H0) O' F' (hid r H') σ' → Same F F' → D.nx σ' H'
  | .bk e c => ∀ σ' F' H', WOk G i0 Ob r c F' H' σ' e → Fr F0 (hid r H0) Ob F' (hid r H') σ' → Same F F' → D.bk σ' H'
  | .ct e c => ∀ σ' F' H', WOk G i0 Ob r c F' H' σ' e → Fr F0 (hid r H0) Ob F' (hid r H') σ' → Same F F' → D.ct σ' H'
  | .rt d c => ∀ v F' H', WGr r c F0 H0 F' H' → Rp G F' v d → D.rt v H'
theorem wPost.ff {G : Gx} {i0 : Nat} {O' Ob : List Nat} {F0 H0 F F1 : Hp} {r : Nat} {D : Ends} {out : WOut} (q : wPost G i0 O' Ob F0 H0 r F D out) (k : Same F F1) : wPost G i0 O' Ob F0 H0 r F1 D out := by
  cases out with
  | nx e => exact fun σ' F' H' s' f' k' => q σ' F' H' s' f' (k.trans k')
  | bk e => exact fun σ' F' H' s' f' k' => q σ' F' H' s' f' (k.trans k')
  | ct e => exact fun σ' F' H' s' f' k' => q σ' F' H' s' f' (k.trans k')
  | rt d => exact q
section
variable {X : Cx} {i0 : Nat} {O O' O'' Ob : List Nat} {st : Stmt} {rest : List Stmt} {pos : Pos}
end
structure FunC (K : PySem.W.Frag) (x qual : Str) (st : Stmt) (f : Addr) (fd : FuncData) (cc : Addr) : Prop where
  ex : ∃ (oc : Value) (od : Option Addr) (kV doc pm : Value) (an : Option Addr) (ct : Value) (osl : Array (Option Value)),
    fd = PySem.W.fnOf x qual (defArgs st) (defBody st) (defScope st) .none kV doc pm an (.ref cc) ct ∧ K.lookup f = some ⟨oc, od, .func fd, osl⟩ ∧ PySem.W.codeIn K (.ref cc) qual = true
  kp : PySem.W.keepIn K (.ref f) = true
theorem FunC.f {K : PySem.W.Frag} {x qual : Str} {st : Stmt} {f : Addr} {fd : FuncData} {cc : Addr} (F : FunC K x qual st f fd cc) : Fun K x qual st f fd :=
  ⟨let ⟨oc, od, kV, doc, pm, an, ct, osl, h⟩ := F.ex; ⟨oc, od, kV, doc, pm, an, .ref cc, ct, osl, h⟩, F.kp⟩
section
variable {P : Program} {w : World} {G : Gx} {base : Heap}
end
end TL

set_option Elab.async false
set_option linter.all false
set_option maxRecDepth 100000
namespace TL
open PySem PySem.Spec PyProof.Rows L2
section
variable {X : Cx} {O : List Nat} {a b : Expr} {fa fb : SE} {pos : Pos}
end
def noT (H : Hp) : Hp := fun p => match H p with
  | some (.tbl _) => none
  | o => o
theorem noT_le {H : Hp} : Same (noT H) H := fun b o e => by
  unfold noT at e
  split at e
  · cases e
  · exact e
theorem noT_seq {K : PySem.W.Frag} {H : Hp} {a : Addr} {xs : List V} (h : SqL K H a xs) : SqL K (noT H) a xs := by
  rcases h with (h | ⟨o, h⟩) | h
  · exact .inl (.inl (by unfold noT; rw [h]))
  · exact .inl (.inr ⟨o, by unfold noT; rw [h]⟩)
  · exact .inr h
theorem tabIn_none {K : PySem.W.Frag} {x : Str} (a : PySem.W.nsIn K mainGlobals x = some none) : PySem.W.tabIn K x = none := by
  unfold PySem.W.tabIn
  simp only [a]
def TabsAtH (K : PySem.W.Frag) (names : List Str) (h : Heap) : Prop := ∀ y ∈ names, ∀ c P, PySem.W.tabIn K y = some (c, P) → PySem.W.CodeHd h c P ∧ h.get? P = some { cls := .none, data := .fields #[] }
theorem walk_tabs {l : PySem.W.OpenLaw} {n k : Nat} {q : Program} {loose : List Str} {XP : (Str → Option Value) → Heap → Prop} {YP : World → Heap → Prop} {d : DefRec} {K : Params → PySem.W.Frag} {CX : World → CXT} {x : Str} (names : List Str)
    (hn : l.most = some n) (hn2 : n ≤ sizeLine) (hdf : d.params.defaults = []) (hr : Room k callerA) (hrec : (names.all fun y => ((recsOf q).find? (fun e => e.name == y)).isSome) = true) (hY : ∀ (w : World) (h : Heap), YP w h → (K w.params).In h)
    (F : ∀ (w : World) (mg : Str → Option Value) (fa : Addr) (h : Heap), (K w.params).In h → h.Ns mainGlobals mg → mg d.name = some (.ref fa) → TabsAtH (K w.params) names h → LamX.LawAtS l w (K w.params) (CX w) k n x mg fa h)
    (hCX : ∀ (w : World) (H : Hp) (s : Shared) (e : Value) (s' : Shared), CX w [] H s (fun _ _ _ => False) e s' → False) :
    PySem.W.WalkO q loose XP YP l.row.toRowW d [] (fun f vs => PySem.call f vs) := by
  refine Att.attach_callB hn hdf fun w s₀ s₁ mg mb fa o pm cd doc a vs ns G Y ho hd hcd hmg hobj hints hlen hbits hg => ?_
  have KX := hY w _ Y
  have hT : TabsAtH (K w.params) names s₁.heap := fun y hy c P e => by
    have h1 := List.all_eq_true.mp hrec y hy
    obtain ⟨dL, h2⟩ := Option.isSome_iff_exists.mp h1
    exact PySem.W.tab_of G.T KX h2 e
  obtain ⟨fd, cs, sp, hT, nT, C, hb, hsp, hF⟩ := F w mg fa _ KX G.T.g hmg hT
  exact LamX.law_callTs KX G.T.g G.T.b G.T.builtins G.T.nolimit hg hT nT C G.T.bmain hobj hints (Nat.le_trans hlen hn2) hr hF hb (fun H hH hS => hsp H a ns hlen hbits hH hS) fun H e s' => hCX w H s₁ e s'
end TL

set_option Elab.async false
set_option linter.all false
set_option maxRecDepth 100000
namespace TL
open PySem PySem.Spec PyProof.Rows L2
section
variable {X : Cx} {O Ob : List Nat} {R : RK}
theorem ssetLN2 {y : Str} {py : Pos} {elt tg iter tg1 iter1 : Expr} {ifs ifs1 : List Expr} {scope : Scope} {own : List (Str × Nat)} {vs1 : List Nat} {pos spos : Pos} {fi fi1 : SI} {g g1 : SG} {c c1 : ST} {f : SE} {sl sl1 : List Nat} (i : Nat) (hc : X.calm = true) (hN : X.N.Nodup) (hsw : swapsWith (.ListComp elt [⟨tg, iter, ifs, 0⟩, ⟨tg1, iter1, ifs1, 0⟩] scope pos) (some (.Name y py)) spos.line X.env = pure true)
    (hi : PI X tg iter (iB (gx X) O fi)) (ok : BlkOk X.N X.env.scope scope own) (hv : ∀ i ∈ vs1, i ∈ own.map (·.2))
    (hg : ∀ (s : Shared) (H : Hp) (C : Addr) (cl : List (Str × Addr)) (fp : List Addr), PG (X.blk s H scope (compEnvC scope cl C X.env) fp) tg (tG (gx X) O sl g)) (ht : ∀ (s : Shared) (H : Hp) (C : Addr) (cl : List (Str × Addr)) (fp : List Addr), PTs (X.blk s H scope (compEnvC scope cl C X.env) fp) ifs (rT (gx X) O c))
    (hi1 : ∀ (s : Shared) (H : Hp) (C : Addr) (cl : List (Str × Addr)) (fp : List Addr), PI (X.blk s H scope (compEnvC scope cl C X.env) fp) tg1 iter1 (iV (gx X) O fi1))
    (hg1 : ∀ (s : Shared) (H : Hp) (C : Addr) (cl : List (Str × Addr)) (fp : List Addr), PG (X.blk s H scope (compEnvC scope cl C X.env) fp) tg1 (tG (gx X) O sl1 g1)) (ht1 : ∀ (s : Shared) (H : Hp) (C : Addr) (cl : List (Str × Addr)) (fp : List Addr), PTs (X.blk s H scope (compEnvC scope cl C X.env) fp) ifs1 (rT (gx X) O c1))
    (he : ∀ (s : Shared) (H : Hp) (C : Addr) (cl : List (Str × Addr)) (fp : List Addr), PE (X.blk s H scope (compEnvC scope cl C X.env) fp) elt (rV (gx X) O f)) (hO' : i ∉ O := by decide) (hy : X.N[i]? = some y := by rfl) (hyl : X.env.scope.names.lookup y = some .local := by rfl) (hsl : ∀ j ∈ sl, j ∈ own.map (·.2) := by decide) (hsl1 : ∀ j ∈ sl1, j ∈ vs1 := by decide) (hO : ∀ j ∈ own.map (·.2), j ∉ O := by decide) (hO1 : ∀ j ∈ vs1, j ∉ O := by decide)
    (hs : ∀ x, foldedSetIterable iter X.env x = pure x := by intro _; rfl) (hs1 : ∀ env x, foldedSetIterable iter1 env x = pure x := by intro _ _; rfl) :
    PS X (.Assign [.Name y py] (.ListComp elt [⟨tg, iter, ifs, 0⟩, ⟨tg1, iter1, ifs1, 0⟩] scope pos) spos) (sV (gx X) R O (i :: O) Ob (sAsg (eLc2 (own.map (·.2)) fi g c vs1 fi1 g1 c1 f) (TL.gName i))) :=
  (ps_ln (ps_setLc2 hc hN hy hyl hsw hi ok hv hg ht hi1 hg1 ht1 he hs hs1)).imp fun D σ H h hl => tAsg_new (fun Q q => lc2_read hsl hsl1 hO hO1 q) hO' (fun _ _ _ => ix_lt hl hy) h
end
end TL

set_option Elab.async false
set_option linter.all false
set_option maxRecDepth 100000
namespace TL
open PySem PySem.Spec PyProof.Rows L2
def TK : Nat → Type
  | 0 => Int
  | k + 1 => List (TK k)
instance decTK : (k : Nat) → DecidableEq (TK k)
  | 0 => inferInstanceAs (DecidableEq Int)
  | k + 1 => have := decTK k; inferInstanceAs (DecidableEq (List (TK k)))
def lexL {α : Type} (lt : α → α → Bool) : List α → List α → Bool
  | _, [] => false
  | [], _ :: _ => true
  | x :: xs, y :: ys => if lt x y = true then true else if lt y x = true then false else lexL lt xs ys
def ltT : (k : Nat) → TK k → TK k → Bool
  | 0 => fun (a b : Int) => decide (a < b)
  | k + 1 => lexL (ltT k)
def toT : (k : Nat) → TK k → D
  | 0 => fun i => .int i
  | k + 1 => fun l => .tuple (List.map (toT k) l)
def allO {α : Type} (f : D → Option α) : List D → Option (List α)
  | [] => some []
  | d :: ds => (f d).bind fun t => (allO f ds).map fun ts => t :: ts
def ofT : (k : Nat) → D → Option (TK k)
  | 0 => fun d => match d with | .int i => some i | _ => none
  | k + 1 => fun d => match d with | .tuple ds => allO (ofT k) ds | _ => none
def fullT (k : Nat) (ts : List (TK (k + 1))) : Bool := ts.all fun t => !@List.isEmpty (TK k) t
def headE (k : Nat) : List (TK (k + 1)) → Bool
  | t :: _ => @List.isEmpty (TK k) t
  | [] => false
def sortK (k : Nat) (ds : List D) : Option (List D) := (allO (ofT (k + 1)) ds).bind fun ts => if (decide (ts.length < 2) || fullT k ts || headE k ts) = true then some ((isort (ltT (k + 1)) ts).map (toT (k + 1))) else none
def orO {α : Type} : Option α → Option α → Option α
  | some a, _ => some a
  | none, b => b
def sortKL (ds : List D) : Option (List D) := orO (sortL ds) (orO (sortK 0 ds) (orO (sortK 1 ds) (sortK 2 ds)))
def sortedKD : D → Option D
  | .list ds => (sortKL ds).map .list
  | .tuple ds => (sortKL ds).map .list
  | _ => none
theorem allO_get {k : Nat} (ih : ∀ {d : D} {t : TK k}, ofT k d = some t → d = toT k t) : ∀ {ds : List D} {ts : List (TK k)}, allO (ofT k) ds = some ts → ds = ts.map (toT k)
  | [], _, h => by cases h; rfl
  | d :: ds, ts, h => by
    simp only [allO] at h
    obtain ⟨t, h1, h2⟩ := bind_some h
    obtain ⟨ts', h3, h4⟩ := map_some h2
    subst h4
    rw [ih h1, allO_get ih h3]
    rfl
theorem ofT_get : ∀ {k : Nat} {d : D} {t : TK k}, ofT k d = some t → d = toT k t
  | 0, d, t, h => by
    cases d <;> first | (cases h; done) | skip
    cases h
    rfl
  | k + 1, d, t, h => by
    cases d <;> first | (cases h; done) | skip
    rename_i ds
    show PyData.tuple ds = .tuple (List.map (toT k) t)
    rw [allO_get ofT_get h]
theorem allO_map {α : Type} {f : D → Option α} {g : α → D} (h : ∀ a, f (g a) = some a) : ∀ l : List α, allO f (l.map g) = some l
  | [] => rfl
  | a :: l => by
    simp only [List.map_cons, allO, h a, allO_map h l, Option.bind_some, Option.map_some]
theorem ofT_to : ∀ (k : Nat) (t : TK k), ofT k (toT k t) = some t
  | 0, _ => rfl
  | k + 1, t => allO_map (ofT_to k) t
theorem swo_lexL {α : Type} {lt : α → α → Bool} (O : SrtO.Swo lt) (anti : ∀ x y, lt x y = false → lt y x = false → x = y) : SrtO.Swo (lexL lt) := by
  have head : ∀ x y (xs ys : List α), lexL lt (x :: xs) (y :: ys) = true → lt x y = true ∨ (x = y ∧ lexL lt xs ys = true) := fun x y xs ys h => by
    simp only [lexL] at h
    by_cases h1 : lt x y = true
    · exact .inl h1
    · rw [if_neg h1] at h
      by_cases h2 : lt y x = true
      · rw [if_pos h2] at h; cases h
      · rw [if_neg h2] at h
        exact .inr ⟨anti x y (by simpa using h1) (by simpa using h2), h⟩
  have nohead : ∀ x y (xs ys : List α), lexL lt (x :: xs) (y :: ys) = false → lt y x = true ∨ (x = y ∧ lexL lt xs ys = false) := fun x y xs ys h => by
    simp only [lexL] at h
    by_cases h1 : lt x y = true
    · rw [if_pos h1] at h; cases h
    · rw [if_neg h1] at h
      by_cases h2 : lt y x = true
      · exact .inl h2
      · rw [if_neg h2] at h
        exact .inr ⟨anti x y (by simpa using h1) (by simpa using h2), h⟩
  have lt_no : ∀ x y (xs ys : List α), lt y x = true → lexL lt (x :: xs) (y :: ys) = false := fun x y xs ys h => by
    simp only [lexL]
    rw [if_neg (by rw [O.asym _ _ h]; decide), if_pos h]
  refine ⟨fun x => ?_, fun x => ?_⟩
  · induction x with
    | nil => intro y h; cases y <;> rfl
    | cons a x ih =>
      intro y h
      cases y with
      | nil => cases h
      | cons b y =>
        rcases head _ _ _ _ h with h1 | ⟨rfl, h1⟩
        · exact lt_no _ _ _ _ h1
        · simp only [lexL]
          rw [if_neg (by rw [O.refl]; decide), if_neg (by rw [O.refl]; decide)]
          exact ih _ h1
  · induction x with
    | nil =>
      intro y z h1 h2
      cases z <;> rfl
    | cons a x ih =>
      intro y z h1 h2
      cases y with
      | nil => cases h1
      | cons b y =>
        cases z with
        | nil => cases h2
        | cons c z =>
          rcases nohead _ _ _ _ h1 with q1 | ⟨rfl, q1⟩
          · rcases nohead _ _ _ _ h2 with q2 | ⟨rfl, q2⟩
            · exact lt_no _ _ _ _ (O.ltle q1 (O.asym _ _ q2))
            · exact lt_no _ _ _ _ q1
          · rcases nohead _ _ _ _ h2 with q2 | ⟨rfl, q2⟩
            · exact lt_no _ _ _ _ q2
            · simp only [lexL]
              rw [if_neg (by rw [O.refl]; decide), if_neg (by rw [O.refl]; decide)]
              exact ih _ _ q1 q2
theorem anti_lexL {α : Type} {lt : α → α → Bool} (anti : ∀ x y, lt x y = false → lt y x = false → x = y) : ∀ xs ys : List α, lexL lt xs ys = false → lexL lt ys xs = false → xs = ys
  | [], [], _, _ => rfl
  | [], _ :: _, h, _ => by cases h
  | _ :: _, [], _, h => by cases h
  | x :: xs, y :: ys, h1, h2 => by
    simp only [lexL] at h1 h2
    by_cases e1 : lt x y = true
    · rw [if_pos e1] at h1; cases h1
    by_cases e2 : lt y x = true
    · rw [if_pos e2] at h2; cases h2
    rw [if_neg e1, if_neg e2] at h1
    rw [if_neg e2, if_neg e1] at h2
    rw [anti x y (by simpa using e1) (by simpa using e2), anti_lexL anti xs ys h1 h2]
theorem swo0 : SrtO.Swo (fun (x y : Int) => decide (x < y)) ∧ ∀ x y : Int, decide (x < y) = false → decide (y < x) = false → x = y :=
  ⟨⟨fun x y h => decide_eq_false (by have := of_decide_eq_true h; omega), fun x y z h1 h2 => decide_eq_false (by
      have := of_decide_eq_false h1
      have := of_decide_eq_false h2
      omega)⟩, fun x y h1 h2 => by
      have := of_decide_eq_false h1
      have := of_decide_eq_false h2
      omega⟩
theorem swoT : ∀ k, SrtO.Swo (ltT k) ∧ ∀ x y, ltT k x y = false → ltT k y x = false → x = y
  | 0 => swo0
  | k + 1 => ⟨swo_lexL (swoT k).1 (swoT k).2, anti_lexL (swoT k).2⟩
theorem sorted_K {k : Nat} {ts : List (TK (k + 1))} (hk : k ≤ 2) (h : ts.length < 2 ∨ fullT k ts = true) : sortK k (ts.map (toT (k + 1))) = some ((isort (ltT (k + 1)) ts).map (toT (k + 1))) := by
  unfold sortK
  rw [allO_map (ofT_to (k + 1)), Option.bind_some, if_pos (by
    rcases h with h | h
    · rw [decide_eq_true h]; rfl
    · rw [h, Bool.or_true]; rfl)]
theorem sorted_K0 {k : Nat} {ts : List (TK (k + 1))} (hk : k ≤ 2) (h : headE k ts = true) : sortK k (ts.map (toT (k + 1))) = some ((isort (ltT (k + 1)) ts).map (toT (k + 1))) := by
  unfold sortK
  rw [allO_map (ofT_to (k + 1)), Option.bind_some, if_pos (by rw [h, Bool.or_true])]
def eqT (k : Nat) (x y : TK k) : Bool := decide (x = y)
theorem eqT_iff {k : Nat} {x y : TK k} : eqT k x y = true ↔ x = y := decide_eq_true_iff
theorem eqT_no {k : Nat} {x y : TK k} : eqT k x y = false ↔ ¬ x = y := decide_eq_false_iff_not
theorem eqT_refl {k : Nat} (x : TK k) : eqT k x x = true := eqT_iff.mpr rfl
def rdT (h : Heap) : (k : Nat) → Value → TK k
  | 0 => fun v => match v with | .int i _ => i | _ => (0 : Int)
  | k + 1 => fun v => match v with
    | .ref a => match h.get? a with
      | some o => match o.data with
        | .seq its _ => List.map (rdT h k) its.toList
        | _ => ([] : List (TK k))
      | none => ([] : List (TK k))
    | _ => ([] : List (TK k))
def IsTK (h : Heap) : Nat → Value → Prop
  | 0, v => ∃ i t, v = .int i t
  | k + 1, v => ∃ a its, v = .ref a ∧ h.IsTuple a its ∧ ∀ u ∈ its.toList, IsTK h k u
theorem rdT_tup {h : Heap} {k : Nat} {a : Addr} {its : Array Value} (ht : h.IsTuple a its) : rdT h (k + 1) (.ref a) = List.map (rdT h k) its.toList := by
  obtain ⟨o, h1, h2, n, h3⟩ := ht
  simp only [rdT, h1, h3]
  rfl
theorem IsTK.keeps {h h' : Heap} (kp : ∀ b o, h.get? b = some o → o.cls = .type "tuple" → h'.get? b = some o) : ∀ {k : Nat} {v : Value}, IsTK h k v → IsTK h' k v ∧ rdT h' k v = rdT h k v
  | 0, _, ⟨i, t, e⟩ => ⟨⟨i, t, e⟩, by rw [e]; rfl⟩
  | k + 1, _, ⟨a, its, e, ht, hu⟩ => by
    have ht' : h'.IsTuple a its := by
      obtain ⟨o, h1, h2, n, h3⟩ := ht
      exact ⟨o, kp _ _ h1 h2, h2, n, h3⟩
    subst e
    refine ⟨⟨a, its, rfl, ht', fun u m => (IsTK.keeps kp (hu u m)).1⟩, ?_⟩
    rw [rdT_tup ht, rdT_tup ht']
    exact List.map_congr_left fun u m => (IsTK.keeps kp (hu u m)).2
theorem lexAt_lexL {k : Nat} : ∀ (m i : Nat) (xs ys : List (TK k)), min xs.length ys.length - i = m → i ≤ min xs.length ys.length →
    Ob.lexAt (fun j => decide (xs[j]? = ys[j]?)) (fun j => match xs[j]?, ys[j]? with | some x, some y => ltT k x y | _, _ => false) (decide (xs.length < ys.length)) i m = lexL (ltT k) (xs.drop i) (ys.drop i)
  | 0, i, xs, ys, h, hi => by
    rw [Ob.lexAt_zero]
    by_cases hx : i < xs.length
    · have hy : ys.length ≤ i := by omega
      rw [List.drop_eq_nil_of_le hy, decide_eq_false (by omega)]
      cases xs.drop i <;> rfl
    · rw [List.drop_eq_nil_of_le (Nat.le_of_not_lt hx)]
      by_cases hy : i < ys.length
      · rw [List.drop_eq_getElem_cons hy, decide_eq_true (by omega)]
        rfl
      · rw [List.drop_eq_nil_of_le (Nat.le_of_not_lt hy), decide_eq_false (by omega)]
        rfl
  | m + 1, i, xs, ys, h, hi => by
    have hx : i < xs.length := by omega
    have hy : i < ys.length := by omega
    rw [Ob.lexAt_succ, lexAt_lexL m (i + 1) xs ys (by omega) (by omega), List.drop_eq_getElem_cons hx, List.drop_eq_getElem_cons hy]
    simp only [List.getElem?_eq_getElem hx, List.getElem?_eq_getElem hy, lexL, Option.some.injEq, decide_eq_true_eq]
    obtain ⟨O, anti⟩ := swoT k
    by_cases e : xs[i] = ys[i]
    · rw [if_pos e, e, if_neg (by rw [O.refl]; decide), if_neg (by rw [O.refl]; decide)]
    · rw [if_neg e]
      by_cases h1 : ltT k xs[i] ys[i] = true
      · rw [if_pos h1, h1]
      · rw [if_neg h1]
        by_cases h2 : ltT k ys[i] xs[i] = true
        · rw [if_pos h2]
          simpa using h1
        · exact absurd (anti _ _ (by simpa using h1) (by simpa using h2)) e
theorem range_eq {k : Nat} {xs ys : List (TK k)} : ((List.range (min xs.length ys.length)).all (fun j => decide (xs[j]? = ys[j]?)) && xs.length == ys.length) = eqT (k + 1) xs ys := by
  rw [Bool.eq_iff_iff, Bool.and_eq_true, List.all_eq_true, beq_iff_eq]
  refine Iff.trans ?_ (eqT_iff (k := k + 1)).symm
  refine ⟨fun ⟨h1, h2⟩ => List.ext_getElem? fun i => ?_, fun e => by subst e; exact ⟨fun j _ => decide_eq_true rfl, rfl⟩⟩
  by_cases hi : i < xs.length
  · exact of_decide_eq_true (h1 i (List.mem_range.mpr (by omega)))
  · rw [List.getElem?_eq_none (by omega), List.getElem?_eq_none (by omega)]
theorem cmpT {s : Shared} : ∀ {k : Nat} {A : Around} {v u : Value}, A.units + k < cLine → IsTK s.heap k v → IsTK s.heap k u → SeqAt.EqAt A s v u (eqT k (rdT s.heap k v) (rdT s.heap k u)) ∧ Ob.RcOp .Lt A s v u (ltT k (rdT s.heap k v) (rdT s.heap k u))
  | 0, A, v, u, hu, ⟨i, t, e⟩, ⟨j, t', e'⟩ => by
    subst e e'
    have z : (i == j) = eqT 0 (rdT s.heap 0 (.int i t)) (rdT s.heap 0 (.int j t')) := by
      rw [Bool.eq_iff_iff, beq_iff_eq, eqT_iff]
      exact Iff.rfl
    rw [← z]
    have y : ltT 0 (rdT s.heap 0 (.int i t)) (rdT s.heap 0 (.int j t')) = decide (i < j) := rfl
    rw [y]
    exact ⟨SeqAt.EqAt.int_int _ _ _ _, Ob.RcOp.lt_int i j t t'⟩
  | k + 1, A, v, u, hu, ⟨a, its, e, ht, hi⟩, ⟨b, its2, e', ht', hi'⟩ => by
    subst e e'
    rw [rdT_tup ht, rdT_tup ht']
    have hu1 : A.in1.units + k < cLine := by show A.units + 1 + k < cLine; omega
    have hz1 : (List.map (rdT s.heap k) its.toList).length = its.size := by simp
    have hz2 : (List.map (rdT s.heap k) its2.toList).length = its2.size := by simp
    have at1 : ∀ j (h1 : j < its.size), (List.map (rdT s.heap k) its.toList)[j]? = some (rdT s.heap k its[j]) := fun j h1 => by
      rw [List.getElem?_map, List.getElem?_eq_getElem (by simpa using h1)]
      simp
    have at2 : ∀ j (h1 : j < its2.size), (List.map (rdT s.heap k) its2.toList)[j]? = some (rdT s.heap k its2[j]) := fun j h1 => by
      rw [List.getElem?_map, List.getElem?_eq_getElem (by simpa using h1)]
      simp
    have c : ∀ j (h1 : j < its.size) (h2 : j < its2.size), SeqAt.EqAt A.in1 s its[j] its2[j] (eqT k (rdT s.heap k its[j]) (rdT s.heap k its2[j])) ∧ Ob.RcOp .Lt A.in1 s its[j] its2[j] (ltT k (rdT s.heap k its[j]) (rdT s.heap k its2[j])) := fun j h1 h2 =>
      cmpT hu1 (hi _ (by simp)) (hi' _ (by simp))
    have he : ∀ j (h1 : j < its.size) (h2 : j < its2.size), SeqAt.EqAt A.in1 s its[j] its2[j] (decide ((List.map (rdT s.heap k) its.toList)[j]? = (List.map (rdT s.heap k) its2.toList)[j]?)) := fun j h1 h2 => by
      rw [at1 j h1, at2 j h2]
      have z : decide (some (rdT s.heap k its[j]) = some (rdT s.heap k its2[j])) = eqT k (rdT s.heap k its[j]) (rdT s.heap k its2[j]) := decide_eq_decide.mpr ⟨fun e => Option.some.inj e, fun e => by rw [e]⟩
      rw [z]
      exact (c j h1 h2).1
    refine ⟨?_, ?_⟩
    · by_cases hab : a = b
      · subst hab
        have : its = its2 := by
          obtain ⟨o, h1, _, n, h3⟩ := ht
          obtain ⟨o', h1', _, n', h3'⟩ := ht'
          rw [h1] at h1'
          cases h1'
          rw [h3] at h3'
          cases h3'
          rfl
        subst this
        have z := eqT_refl (k := k + 1) (List.map (rdT s.heap k) its.toList)
        exact z.symm ▸ SeqAt.EqAt.same _
      · refine SeqAt.EqAt.of_refs hab ?_
        have R := SeqAt.RcAt.tuples ht ht' (show A.units < cLine by omega) he
        rw [← hz1, ← hz2, range_eq] at R
        exact R
    · have R := Ob.RcOp.tuples_lt (r := fun j => match (List.map (rdT s.heap k) its.toList)[j]?, (List.map (rdT s.heap k) its2.toList)[j]? with | some x, some y => ltT k x y | _, _ => false) ht ht' (show A.units < cLine by omega) he fun j h1 h2 _ => by
        rw [at1 j h1, at2 j h2]
        exact (c j h1 h2).2
      rw [← hz1, ← hz2, lexAt_lexL _ 0 _ _ (by omega) (by omega)] at R
      exact R
theorem lex_T {prog : Program} {w : World} {A : Around} {s : Shared} {b : Bool} {k : Nat} (hu : A.units + k < cLine) (hb : b = true → k = 0) {Q : Bool → Shared → Prop} : ∀ (i : Nat) {xs ys : List Value}, (∀ v ∈ xs, IsTK s.heap k v) → (∀ v ∈ ys, IsTK s.heap k v) →
    Q (lexL (ltT k) (xs.map (rdT s.heap k)) (ys.map (rdT s.heap k))) s → PySem.W.KatLex prog w A b (decide (xs.length < ys.length)) Q (xs.zip ys) i s
  | i, [], [], _, _, h => PySem.W.kat_nil h
  | i, [], _ :: _, _, _, h => PySem.W.kat_nil (by rw [decide_eq_true (by simp)]; exact h)
  | i, _ :: _, [], _, _, h => PySem.W.kat_nil (by rw [decide_eq_false (by simp)]; exact h)
  | i, x :: xs, y :: ys, h1, h2, h => by
    obtain ⟨O, anti⟩ := swoT k
    have hx := h1 x List.mem_cons_self
    have hy := h2 y List.mem_cons_self
    have c := cmpT hu hx hy
    simp only [List.map_cons, lexL] at h
    refine PySem.W.kat_cons (c.1 prog w _ _ ?_)
    refine PySem.W.kat_go (fun e => ?_) (fun e => ?_)
    · have e := eqT_iff.mp e
      rw [e, if_neg (by rw [O.refl]; decide), if_neg (by rw [O.refl]; decide)] at h
      refine PySem.W.kat_yes ?_
      have : decide ((x :: xs).length < (y :: ys).length) = decide (xs.length < ys.length) := decide_eq_decide.mpr (by simp)
      rw [this]
      exact lex_T hu hb (i + 1) (fun v m => h1 v (List.mem_cons_of_mem _ m)) (fun v m => h2 v (List.mem_cons_of_mem _ m)) h
    · have e := eqT_no.mp e
      have hq : Q (ltT k (rdT s.heap k x) (rdT s.heap k y)) s := by
        by_cases q1 : ltT k (rdT s.heap k x) (rdT s.heap k y) = true
        · rw [if_pos q1] at h
          rw [q1]
          exact h
        · rw [if_neg q1] at h
          by_cases q2 : ltT k (rdT s.heap k y) (rdT s.heap k x) = true
          · rw [if_pos q2] at h
            have : ltT k (rdT s.heap k x) (rdT s.heap k y) = false := by simpa using q1
            rw [this]
            exact h
          · exact absurd (anti _ _ (by simpa using q1) (by simpa using q2)) e
      refine PySem.W.kat_no ?_
      cases b with
      | false =>
        rw [Bool.false_and]
        exact PySem.W.kat_one _ _ (c.2 prog w _ _ hq)
      | true =>
        have hk := hb rfl
        subst hk
        obtain ⟨i1, t1, rfl⟩ := hx
        obtain ⟨i2, t2, rfl⟩ := hy
        exact TS.oneLt_ints _ hq
theorem kind_T {k : Nat} : (Value.type (if k = 0 then "int" else "tuple") != Value.type "tuple") = decide (k = 0) := by
  by_cases h : k = 0
  · subst h
    first | decide +kernel | rfl
  · rw [if_neg h, decide_eq_false h]
    first | decide +kernel | rfl
theorem firsts_T {h : Heap} {k : Nat} : ∀ {vs : List Value}, (∀ v ∈ vs, IsTK h (k + 1) v) → (∀ v ∈ vs, rdT h (k + 1) v ≠ ([] : List (TK k))) → ∃ fs, PySem.W.KatTups h vs fs ∧ fs.length = vs.length ∧ ∀ f ∈ fs, IsTK h k f
  | [], _, _ => ⟨[], PySem.W.KatTups.nil, rfl, fun f h => by cases h⟩
  | v :: vs, h1, h2 => by
    obtain ⟨fs, k1, k2, k3⟩ := firsts_T (vs := vs) (fun u m => h1 u (List.mem_cons_of_mem _ m)) fun u m => h2 u (List.mem_cons_of_mem _ m)
    obtain ⟨a, its, rfl, ht, hi⟩ := h1 v List.mem_cons_self
    have hne := h2 _ List.mem_cons_self
    rw [rdT_tup ht] at hne
    obtain ⟨o, ho, hc, n, hd⟩ := ht
    cases hl : its.toList with
    | nil => exact absurd (by rw [hl]; rfl) hne
    | cons y ys =>
      refine ⟨y :: fs, PySem.W.KatTups.cons ho hc hd ?_ k1, by rw [List.length_cons, List.length_cons, k2], fun f hf => ?_⟩
      · have z := congrArg (fun l : List Value => l[0]?) hl
        simpa using z
      · rcases List.mem_cons.mp hf with rfl | hf
        · exact hi _ (by rw [hl]; exact List.mem_cons_self)
        · exact k3 f hf
theorem sortable_T {prog : Program} {w : World} {A : Around} {s : Shared} {a : Addr} {vs : List Value} {k : Nat} (hu : A.units + k < cLine) (h0 : 0 < vs.length) (hp : ∀ v ∈ vs, IsTK s.heap (k + 1) v) (hn : ∀ v ∈ vs, rdT s.heap (k + 1) v ≠ ([] : List (TK k))) (ha : ∀ o, s.heap.get? a = some o → o.cls ≠ .type "tuple") : SrtO.SortableO prog w A s a vs fun v u => ltT (k + 1) (rdT s.heap (k + 1) v) (rdT s.heap (k + 1) u) := by
  intro h' keep
  have kp : ∀ b o, s.heap.get? b = some o → o.cls = .type "tuple" → h'.get? b = some o := fun b o e c => keep b o (fun z => by subst z; exact ha o e c) e
  have hp' : ∀ v ∈ vs, IsTK h' (k + 1) v := fun v hm => ((hp v hm).keeps kp).1
  have hr' : ∀ v ∈ vs, rdT h' (k + 1) v = rdT s.heap (k + 1) v := fun v hm => ((hp v hm).keeps kp).2
  obtain ⟨fs, h1, h2, h3⟩ := firsts_T hp' fun v hm => by rw [hr' v hm]; exact hn v hm
  refine ⟨tuples' (decide (k = 0)), fun Q E hq => ?_, fun p q hm hm' => ?_⟩
  · refine PySem.W.kat_kind (T := .type (if k = 0 then "int" else "tuple")) h1 (by omega) (fun f hm => ?_) (by by_cases hk : k = 0 <;> simp [hk]) (by rw [kind_T]; exact hq)
    have hf := h3 f hm
    match k, hf with
    | 0, hf =>
      obtain ⟨x, t, rfl⟩ := hf
      exact PySem.W.Looks.now
    | k + 1, hf =>
      obtain ⟨b, its, rfl, ⟨o, ho, hc, _⟩, _⟩ := hf
      rw [if_neg (by omega), ← hc]
      exact (PySem.W.Looks.ld ho).andThen .now
  · obtain ⟨b, its, e, ⟨o, ho, hc, n, hd⟩, hi⟩ := hp' _ hm
    obtain ⟨b', its', e', ⟨o', ho', hc', n', hd'⟩, hi'⟩ := hp' _ hm'
    have q1 := hr' _ hm
    have q2 := hr' _ hm'
    show wpAny (model prog w) A (keyLt' (tuples' (decide (k = 0))) p.1 q.1) (fun r s' => s' = _ ∧ r = ltT (k + 1) (rdT s.heap (k + 1) p.1) (rdT s.heap (k + 1) q.1)) (fun _ _ => False) _
    rw [← q1, ← q2, e, e']
    refine PySem.W.kat_lt ho hd ho' hd' ?_
    have sz : decide (its.size < its'.size) = decide (its.toList.length < its'.toList.length) := by simp
    rw [sz]
    refine lex_T (k := k) hu (fun hb => of_decide_eq_true hb) 0 hi hi' ⟨rfl, ?_⟩
    rw [rdT_tup ⟨o, ho, hc, n, hd⟩, rdT_tup ⟨o', ho', hc', n', hd'⟩]
    rfl
theorem oneLt_T {prog : Program} {w : World} {A : Around} {s : Shared} {E : Value → Shared → Prop} {k : Nat} {v u : Value} {Q : Bool → Shared → Prop} (hu : A.units + (k + 1) < cLine) (hv : IsTK s.heap (k + 1) v) (hv2 : IsTK s.heap (k + 1) u)
    (hq : Q (ltT (k + 1) (rdT s.heap (k + 1) v) (rdT s.heap (k + 1) u)) s) : wpAny (model prog w) A (oneLt' true v u) Q E s := by
  obtain ⟨a, its, rfl, ht, hi⟩ := hv
  obtain ⟨b, its2, rfl, ht2, hi2⟩ := hv2
  rw [rdT_tup ht, rdT_tup ht2] at hq
  have hu1 : A.in1.units + k < cLine := by show A.units + 1 + k < cLine; omega
  have hz1 : (List.map (rdT s.heap k) its.toList).length = its.size := by simp
  have hz2 : (List.map (rdT s.heap k) its2.toList).length = its2.size := by simp
  have at1 : ∀ j (h1 : j < its.size), (List.map (rdT s.heap k) its.toList)[j]? = some (rdT s.heap k its[j]) := fun j h1 => by
    rw [List.getElem?_map, List.getElem?_eq_getElem (by simpa using h1)]
    simp
  have at2 : ∀ j (h1 : j < its2.size), (List.map (rdT s.heap k) its2.toList)[j]? = some (rdT s.heap k its2[j]) := fun j h1 => by
    rw [List.getElem?_map, List.getElem?_eq_getElem (by simpa using h1)]
    simp
  have c : ∀ j (h1 : j < its.size) (h2 : j < its2.size), SeqAt.EqAt A.in1 s its[j] its2[j] (eqT k (rdT s.heap k its[j]) (rdT s.heap k its2[j])) ∧ Ob.RcOp .Lt A.in1 s its[j] its2[j] (ltT k (rdT s.heap k its[j]) (rdT s.heap k its2[j])) := fun j h1 h2 =>
    cmpT hu1 (hi _ (by simp)) (hi2 _ (by simp))
  have he : ∀ j (h1 : j < its.size) (h2 : j < its2.size), SeqAt.EqAt A.in1 s its[j] its2[j] (decide ((List.map (rdT s.heap k) its.toList)[j]? = (List.map (rdT s.heap k) its2.toList)[j]?)) := fun j h1 h2 => by
    rw [at1 j h1, at2 j h2]
    have z : decide (some (rdT s.heap k its[j]) = some (rdT s.heap k its2[j])) = eqT k (rdT s.heap k its[j]) (rdT s.heap k its2[j]) := decide_eq_decide.mpr ⟨fun e => Option.some.inj e, fun e => by rw [e]⟩
    rw [z]
    exact (c j h1 h2).1
  obtain ⟨⟨cls, dd, data, sl⟩, ho, hc, n, hd⟩ := id ht
  obtain ⟨⟨cls2, dd2, data2, sl2⟩, ho2, hc2, n2, hd2⟩ := id ht2
  simp only at hc hd hc2 hd2
  subst hc hd hc2 hd2
  rw [oneLt'_eq]
  simp only [if_true]
  refine wpAny_bind (wpAny_cRoomFor (by omega) ?_)
  refine wpAny_bind (wpAny_callSpecialIfBound?_slot (T := "tuple") ⟨_, ho, rfl⟩ F.slot_tuple_lt (call_meets F.slot_tuple_lt ⟨_, ho, rfl⟩ F.entry_tuple_lt (F.args_tuple_lt_2 _ _) (Ob.tuple_ltAt a b its its2 n n2 dd dd2 sl sl2 _ (fun j => match (List.map (rdT s.heap k) its.toList)[j]?, (List.map (rdT s.heap k) its2.toList)[j]? with | some x, some y => ltT k x y | _, _ => false))
    ⟨ho, ho2, he, (fun j h1 h2 _ => by
        rw [at1 j h1, at2 j h2]
        exact (c j h1 h2).2), ?_⟩))
  rw [← hz1, ← hz2]
  refine Eq.mpr (congrArg (fun b => wants _ E (Except.ok (Flow.ret (Value.bool b))) s) (lexAt_lexL (k := k) _ 0 (List.map (rdT s.heap k) its.toList) (List.map (rdT s.heap k) its2.toList) (by omega) (by omega))) ?_
  refine wpAny_truthy_bool ?_
  exact hq
def frst (h : Heap) (v : Value) : Option Value := match v with
  | .ref a => match h.get? a with
    | some o => match o.data with
      | .seq xs _ => xs[0]?
      | _ => none
    | none => none
  | _ => none
theorem mapM_frst {M : Model} {A : Around} {E : Value → Shared → Prop} {s : Shared} {k : Nat} : ∀ (vs : List Value) {Q : List (Option Value) → Shared → Prop}, (∀ v ∈ vs, IsTK s.heap (k + 1) v) → Q (vs.map (frst s.heap)) s → wpAny M A (vs.mapM firstOfTuple') Q E s
  | [], _, _, h => by rw [List.mapM_nil]; exact wpAny_pure h
  | v :: vs, Q, t, h => by
    obtain ⟨a, its, rfl, ⟨o, ho, hc, n, hd⟩, hi⟩ := t _ List.mem_cons_self
    rw [List.mapM_cons]
    refine wpAny_bind ?_
    rw [PySem.W.kas_first_eq]
    refine wpAny_bind (PySem.W.Looks.here (show PySem.W.Looks M s.heap (typeOf (.ref a)) o.cls from (PySem.W.Looks.ld ho).andThen .now) ?_)
    rw [hc, if_neg (by first | decide | simp)]
    refine wpAny_bind (listItems_at ho hd (wpAny_pure ?_))
    have hf : frst s.heap (.ref a) = its[0]? := by simp only [frst, ho, hd]
    rw [List.map_cons, hf] at h
    exact wpAny_bind (mapM_frst vs (Q := fun bs s' => wpAny M A (pure (its[0]? :: bs)) Q E s') (fun u hu => t u (List.mem_cons_of_mem _ hu)) (wpAny_pure h))
theorem kind_T0 {M : Model} {A : Around} {E : Value → Shared → Prop} {s : Shared} {k : Nat} {v : Value} {vs : List Value} {Q : SortKind → Shared → Prop} (hp : ∀ u ∈ v :: vs, IsTK s.heap (k + 1) u) (h0 : rdT s.heap (k + 1) v = ([] : List (TK k))) (h : Q oneType' s) : wpAny M A (keyKind' (v :: vs).toArray) Q E s := by
  have hf : frst s.heap v = none := by
    obtain ⟨a, its, rfl, ht, hi⟩ := hp _ List.mem_cons_self
    rw [rdT_tup ht] at h0
    obtain ⟨o, ho, hc, n, hd⟩ := ht
    simp only [frst, ho, hd]
    have : its.toList = [] := List.map_eq_nil_iff.mp h0
    have : its.size = 0 := by rw [← Array.length_toList, this]; rfl
    simp [this]
  rw [PyProof.Rows.kat_kind_eq, List.mapM_toArray, map_eq_pure_bind]
  refine wpAny_bind (wpAny_bind (mapM_frst _ hp (wpAny_pure ?_)))
  rw [List.map_cons, hf]
  rw [if_neg (by simp), if_neg (by simp)]
  rw [oneTypeOnly'_eq, List.mapM_toArray, map_eq_pure_bind]
  refine wpAny_bind (wpAny_bind (wpAny_bind (PySem.W.kas_mapM (r := Value.type "tuple") _ (fun u hu Q' hq => ?_) (wpAny_pure ?_))))
  · obtain ⟨a, its, rfl, ⟨o, ho, hc, n, hd⟩, hi⟩ := hp u hu
    refine PySem.W.Looks.here (show PySem.W.Looks M s.heap (typeOf (.ref a)) (.type "tuple") from hc ▸ (PySem.W.Looks.ld ho).andThen .now) hq
  · have hall : ((List.map (fun _ => Value.type "tuple") (v :: vs)).toArray.all fun x => x == Value.type "tuple") = true := by
      simp only [List.all_toArray, List.all_map, List.all_eq_true]
      intro _ _
      exact beq_self_eq_true _
    have h0 : (List.map (fun _ => Value.type "tuple") (v :: vs)).toArray[0]? = some (Value.type "tuple") := by simp
    rw [h0]
    simp only [hall, if_true]
    exact wpAny_pure (wpAny_pure h)
theorem sortable_T0 {prog : Program} {w : World} {A : Around} {s : Shared} {a : Addr} {v : Value} {vs : List Value} {k : Nat} (hu : A.units + (k + 1) < cLine) (hp : ∀ u ∈ v :: vs, IsTK s.heap (k + 1) u) (hn : rdT s.heap (k + 1) v = ([] : List (TK k))) (ha : ∀ o, s.heap.get? a = some o → o.cls ≠ .type "tuple") : SrtO.SortableO prog w A s a (v :: vs) fun v u => ltT (k + 1) (rdT s.heap (k + 1) v) (rdT s.heap (k + 1) u) := by
  intro h' keep
  have kp : ∀ b o, s.heap.get? b = some o → o.cls = .type "tuple" → h'.get? b = some o := fun b o e c => keep b o (fun z => by subst z; exact ha o e c) e
  have hp' : ∀ u ∈ v :: vs, IsTK h' (k + 1) u := fun u hm => ((hp u hm).keeps kp).1
  have hr' : ∀ u ∈ v :: vs, rdT h' (k + 1) u = rdT s.heap (k + 1) u := fun u hm => ((hp u hm).keeps kp).2
  refine ⟨oneType', fun Q E hq => kind_T0 hp' (by rw [hr' _ List.mem_cons_self]; exact hn) hq, fun p q hm hm' => ?_⟩
  have q1 := hr' _ hm
  have q2 := hr' _ hm'
  show wpAny (model prog w) A (keyLt' oneType' p.1 q.1) (fun r s' => s' = _ ∧ r = ltT (k + 1) (rdT s.heap (k + 1) p.1) (rdT s.heap (k + 1) q.1)) (fun _ _ => False) _
  rw [← q1, ← q2, keyLt'_oneType]
  exact oneLt_T hu (hp' _ hm) (hp' _ hm') ⟨rfl, rfl⟩
section
variable {X : Cx}
theorem rp_vals {pins : List (Addr × Obj)} {s : Shared} {σ : L2.St} {F H : Hp} (I : Inv X pins σ H s) (sm : Same F H) : ∀ {k : Nat} {t : TK k} {v : V} {u : Value}, Rp (gx X) F v (toT k t) → RelV v u → IsTK s.heap k u ∧ rdT s.heap k u = t
  | 0, t, v, u, h, rv => by
    cases h
    obtain ⟨tk, rfl⟩ := rv
    exact ⟨⟨_, _, rfl⟩, rfl⟩
  | k + 1, t, v, u, h, rv => by
    have aux : ∀ {ts : List (TK k)} {xs : List V} {its : List Value}, RpAll (gx X) F xs (ts.map (toT k)) → Vals xs its → (∀ w ∈ its, IsTK s.heap k w) ∧ its.map (rdT s.heap k) = ts := by
      intro ts
      induction ts with
      | nil =>
        intro xs its r w
        cases r
        cases w
        exact ⟨fun w h => (by cases h), rfl⟩
      | cons t ts ih =>
        intro xs its r w
        cases r with
        | cons r1 r2 =>
          cases w with
          | cons w1 w2 =>
            obtain ⟨a1, a2⟩ := rp_vals I sm r1 w1
            obtain ⟨b1, b2⟩ := ih r2 w2
            refine ⟨fun z hz => ?_, by rw [List.map_cons, a2, b2]⟩
            rcases List.mem_cons.mp hz with rfl | hz
            · exact a1
            · exact b1 z hz
    have h : Rp (gx X) F v (.tuple (List.map (toT k) t)) := h
    cases h with
    | @tup a xs _ hs ha =>
      cases rv
      obtain ⟨its, r2, ht, _⟩ := I.tuple (sameT sm hs.t)
      obtain ⟨h1, h2⟩ := aux ha r2
      have ht' : s.heap.IsTuple a its.toArray := ht
      refine ⟨⟨a, its.toArray, rfl, ht', by simpa using h1⟩, ?_⟩
      rw [rdT_tup ht', show its.toArray.toList = its by simp]
      exact h2
theorem rps_vals {pins : List (Addr × Obj)} {s : Shared} {σ : L2.St} {F H : Hp} (I : Inv X pins σ H s) (sm : Same F H) {k : Nat} : ∀ {ts : List (TK k)} {xs : List V} {its : List Value}, RpAll (gx X) F xs (ts.map (toT k)) → Vals xs its →
    its.map (rdT s.heap k) = ts ∧ (∀ w ∈ its, IsTK s.heap k w) ∧ ∀ w ∈ its, ∃ v, RelV v w ∧ Rp (gx X) F v (toT k (rdT s.heap k w))
  | [], _, _, .nil, .nil => ⟨rfl, fun w h => (by cases h), fun w h => (by cases h)⟩
  | t :: ts, _, _, .cons r1 r2, .cons w1 w2 => by
    obtain ⟨a1, a2⟩ := rp_vals I sm r1 w1
    obtain ⟨b1, b2, b3⟩ := rps_vals I sm r2 w2
    refine ⟨by rw [List.map_cons, a2, b1], fun z hz => ?_, fun z hz => ?_⟩
    · rcases List.mem_cons.mp hz with rfl | hz
      · exact a1
      · exact b2 z hz
    · rcases List.mem_cons.mp hz with rfl | hz
      · exact ⟨_, w1, by rw [a2]; exact r1⟩
      · exact b3 z hz
theorem sorted_coreK {pins : List (Addr × Obj)} {s : Shared} {σ : L2.St} {F H : Hp} {p : Addr} {vs : List V} {its : List Value} {ds es : List D} {Q : VK} {T : String} {o : Obj} {n k : Nat} (hu : X.A.units + 64 < cLine) (hk : k ≤ 2) (I : Inv X pins σ H s) (sm : Same F H) (hT : T = "list" ∨ T = "tuple") (ho : s.heap.get? p = some o) (hc : o.cls = .type T) (hd : o.data = .seq its.toArray n)
    (rv : Vals vs its) (hz : vs.length ≤ sizeLine) (r' : RpAll (gx X) F vs ds) (hs : sortK k ds = some es) (q : kN (gx X) F H (.list es) Q) : wpAny (model X.prog X.w) X.A (call (.builtin "sorted") [.ref p]) (EP X pins σ Q) X.xe s := by
  unfold sortK at hs
  obtain ⟨ts, h1, h2⟩ := bind_some hs
  have ed := allO_get (k := k + 1) ofT_get h1
  subst ed
  split at h2
  case isFalse => cases h2
  rename_i hfull
  cases h2
  obtain ⟨k1, k2, k3⟩ := rps_vals I sm r' rv
  obtain ⟨O, anti⟩ := swoT (k + 1)
  have Ov : SrtO.Swo fun v u : Value => ltT (k + 1) (rdT s.heap (k + 1) v) (rdT s.heap (k + 1) u) := ⟨fun x y h => O.asym _ _ h, fun x y z h1 h2 => O.tr _ _ _ h1 h2⟩
  have hlen : its.length = ts.length := by rw [← k1, List.length_map]
  refine SX.sorted_seq Ov hT ho hc hd (by rw [← rv.length]; exact hz) (fun h2 h₁ a ha kk => ?_) fun out h1 h2 => ?_
  · have kp : ∀ b o, s.heap.get? b = some o → o.cls = .type "tuple" → h₁.get? b = some o := fun b o e _ => (kk b o e).2
    have hr : ∀ v ∈ its, rdT h₁ (k + 1) v = rdT s.heap (k + 1) v := fun v hm => ((k2 v hm).keeps kp).2
    have anew : ∀ o, ({ s with heap := h₁ } : Shared).heap.get? a = some o → o.cls ≠ .type "tuple" := fun o e => by
      have e' : some o = some (seqObj "list" its.toArray 0) := e.symm.trans ha
      cases e'
      intro c
      exact absurd (Value.type.inj c) (by decide)
    have S : SrtO.SortableO X.prog X.w X.A.in1.in1 { s with heap := h₁ } a its fun v u => ltT (k + 1) (rdT h₁ (k + 1) v) (rdT h₁ (k + 1) u) := by
      by_cases hf : fullT k ts = true
      · exact sortable_T (prog := X.prog) (w := X.w) (A := X.A.in1.in1) (s := { s with heap := h₁ }) (a := a) (vs := its) (k := k) (by show X.A.units + 1 + 1 + k < cLine; omega) (by omega) (fun v hm => ((k2 v hm).keeps kp).1) (fun v hm => by
          rw [hr v hm]
          have m : rdT s.heap (k + 1) v ∈ ts := by rw [← k1]; exact List.mem_map_of_mem hm
          have := List.all_eq_true.mp hf _ m
          intro e
          rw [e] at this
          cases this) anew
      · have he : headE k ts = true := by
          rcases Bool.or_eq_true_iff.mp hfull with z | z
          · rcases Bool.or_eq_true_iff.mp z with z | z
            · have := of_decide_eq_true z
              omega
            · exact absurd z hf
          · exact z
        cases hi : its with
        | nil =>
          rw [hi] at h2
          exact absurd h2 (by simp)
        | cons v vs' =>
          rw [hi] at hr k1 k2
          refine sortable_T0 (prog := X.prog) (w := X.w) (A := X.A.in1.in1) (s := { s with heap := h₁ }) (a := a) (v := v) (vs := vs') (k := k) (by show X.A.units + 1 + 1 + (k + 1) < cLine; omega) (fun v hm => ((k2 v hm).keeps kp).1) ?_ anew
          rw [List.map_cons] at k1
          rw [← k1] at he
          show rdT h₁ (k + 1) v = _
          rw [hr v List.mem_cons_self]
          exact List.isEmpty_iff.mp he
    intro h' keep
    obtain ⟨κ, s1, s2⟩ := S h' keep
    refine ⟨κ, s1, fun p q hm hm' => ?_⟩
    have := s2 p q hm hm'
    simp only [SrtO.lt2] at this ⊢
    rw [hr _ hm, hr _ hm'] at this
    exact this
  · have hmem : ∀ u ∈ out, u ∈ its := fun u hu => h2.perm.mem_iff.mp hu
    have rel : ∀ l : List Value, (∀ u ∈ l, u ∈ its) → ∃ ws, Vals ws l ∧ RpAll (gx X) F ws ((l.map (rdT s.heap (k + 1))).map (toT (k + 1))) := by
      intro l
      induction l with
      | nil => exact fun _ => ⟨[], .nil, .nil⟩
      | cons u l ih =>
        intro hu
        obtain ⟨ws, w1, w2⟩ := ih fun v hv => hu v (List.mem_cons_of_mem _ hv)
        obtain ⟨v, v1, v2⟩ := k3 u (hu u List.mem_cons_self)
        exact ⟨v :: ws, .cons v1 w1, .cons v2 w2⟩
    obtain ⟨ws, w1, w2⟩ := rel out hmem
    have e : out.map (rdT s.heap (k + 1)) = isort (ltT (k + 1)) ts := by
      refine asc_uniq anti ?_ ?_ (isort_asc O ts)
      · have := h2.perm.map (rdT s.heap (k + 1))
        rw [k1] at this
        exact this.trans (isort_perm ts).symm
      · exact List.pairwise_map.mpr (h1.imp fun h => h)
    rw [e] at w2
    obtain ⟨ep, he'⟩ := PyProof.Rows.sortedAll_at s.heap its out.toArray
    refine ⟨.ref _, upd H (s.heap.objs.size + 1) (.lst ws), I.laid (t' := s.toks) (fun _ _ => PyProof.Rows.sortedAll_old) (Nat.le_succ _) ⟨?_, out, ep, w1, he'⟩, rfl, q.newL sm w2 (I.hok.fresh (Nat.le_succ _))⟩
    rw [w1.length, h2.perm.length_eq, ← rv.length]
    exact hz
theorem orO_of {α : Type} {a b : Option α} {c : α} (h : orO a b = some c) : a = some c ∨ b = some c := by
  cases a with
  | none => exact .inr h
  | some x => cases h; exact .inl rfl
theorem c_sortedK (hu : X.A.units + 64 < cLine) : CalN X (.builtin "sorted") sortedKD := by
  intro pins s σ H xs us Q I r h
  obtain ⟨F, x, dx, d, rfl, sm, bx, hd, q⟩ := h
  have split : ∀ {ds es : List D}, sortKL ds = some es → sortL ds = some es ∨ ∃ k, k ≤ 2 ∧ sortK k ds = some es := fun h => by
    rcases orO_of h with h | h
    · exact .inl h
    · rcases orO_of h with h | h
      · exact .inr ⟨0, by decide, h⟩
      · rcases orO_of h with h | h
        · exact .inr ⟨1, by decide, h⟩
        · exact .inr ⟨2, by decide, h⟩
  cases dx with
  | list ds =>
    obtain ⟨p, vs, rfl, hl, r'⟩ := bx.lst sm
    obtain ⟨es, h1, h2⟩ := map_some hd
    subst h2
    obtain ⟨its, rv, hL, hz⟩ := I.list hl
    obtain ⟨o, ho, hc, n, hd'⟩ := hL.isList
    rw [Vals.ref1 r]
    rcases split h1 with h1 | ⟨k, hk, h1⟩
    · exact sorted_core I sm (.inl rfl) ho hc hd' rv hz r' h1 q
    · exact sorted_coreK hu hk I sm (.inl rfl) ho hc hd' rv hz r' h1 q
  | tuple ds =>
    obtain ⟨p, vs, rfl, _, hl, r'⟩ := bx.tup sm
    obtain ⟨es, h1, h2⟩ := map_some hd
    subst h2
    obtain ⟨its, rv, hT, hz⟩ := I.tuple hl
    obtain ⟨o, ho, hc, n, hd'⟩ := hT
    rw [Vals.ref1 r]
    rcases split h1 with h1 | ⟨k, hk, h1⟩
    · exact sorted_core I sm (.inr rfl) ho hc hd' rv hz r' h1 q
    · exact sorted_coreK hu hk I sm (.inr rfl) ho hc hd' rv hz r' h1 q
  | _ => cases hd
end
end TL

set_option Elab.async false
set_option linter.all false
set_option maxRecDepth 100000
namespace TL
open PySem PySem.Spec PyProof.Rows L2
section
variable {X : Cx}
end
end TL

set_option Elab.async false
set_option linter.all false
set_option maxRecDepth 100000
namespace TL
open PySem PySem.Spec PyProof.Rows L2
def isFn (x : Str) : D → Bool
  | .dict [(.str y, .none)] => decide (y = x)
  | _ => false
@[simp] def eCallL (x : Str) (m : List D → Option D) (i : Nat) (l : List SE) : SE := fun env => (env.getD i none).bind fun d => if isFn x d = true then (eArgs l env).bind m else none
@[simp] def eAlt (a b : SE) : SE := fun env => orO (a env) (b env)
section
variable {X : Cx} {O : List Nat} {e : Expr} {es : List Expr} {l : List SE} {p pos : Pos} {x y : Str} {k n : Nat} {fa : Addr} {fd : FuncData} {ps : List Str} {m : List D → Option D}
end
end TL

set_option Elab.async false
set_option linter.all false
set_option maxRecDepth 100000
namespace TL
open PySem PySem.Spec PyProof.Rows L2
structure KDat (P : Program) (w : World) (G : Gx) (F H : Hp) (r : Addr) (xs : List KEnt) : Prop where
  ns : (r == sysModules) = false
  at_ : Rd H r (rawO P w r xs)
  nd : (xs.map (·.1)).Nodup
  ln : xs.length < sizeLine
  ks : ∀ x ∈ xs, ∃ kd, keyD kd = some x.1 ∧ x.1.depth ≤ 8 ∧ Rp G F (.ref x.2.1) kd
section
variable {X : Cx} {pins : List (Addr × Obj)} {σ : L2.St} {F H : Hp} {s : Shared}
mutual
theorem Rp.nested (I : Inv X pins σ H s) (sm : Same F H) : ∀ {d : D} {v : V} {k : NestedKey} {u : Value}, Rp (gx X) F v d → keyD d = some k → RelV v u → NestedIs s.heap k u
  | _, _, _, _, .non, e, r => by
    cases r
    cases Option.some.inj e
    exact .none
  | _, _, _, _, .bl b, e, r => by
    cases r
    cases Option.some.inj e
    exact .bool rfl
  | _, _, _, _, .int i, e, r => by
    obtain ⟨t, rfl⟩ := r
    cases Option.some.inj e
    exact .int _ _
  | _, _, _, _, .str x, e, r => by
    obtain ⟨t, rfl⟩ := r
    cases Option.some.inj e
    exact .text _ _
  | _, _, _, _, .lst _ _, e, _ => by cases e
  | _, _, _, _, .tup h a, e, r => by
    cases r
    simp only [keyD] at e
    obtain ⟨ks, h1, rfl⟩ := Option.map_eq_some_iff.mp e
    obtain ⟨its, hv, ⟨o, ho, hc, n, hd⟩, _⟩ := I.tuple (sameT sm h.t)
    exact .tup ho hc hd (by simpa using RpAll.nested I sm a h1 hv)
  | _, _, _, _, .fn _, e, _ => by cases e
  | _, _, _, _, .pl _ _ _, e, _ => by cases e
  | _, _, _, _, .rng _, e, _ => by cases e
  | _, _, _, _, .dct _ _ _, e, _ => by simp [kD, keyD] at e
  | _, _, _, _, .dki _ _ _, e, _ => by simp [kD, keyD] at e
theorem RpAll.nested (I : Inv X pins σ H s) (sm : Same F H) : ∀ {ds : List D} {vs : List V} {ks : List NestedKey} {us : List Value}, RpAll (gx X) F vs ds → keyAll ds = some ks → Vals vs us → NestedAll s.heap ks us
  | _, _, _, _, .nil, e, r => by
    cases r
    cases Option.some.inj e
    exact .nil
  | _, _, _, _, .cons h a, e, r => by
    simp only [keyAll] at e
    obtain ⟨k, h1, e⟩ := Option.bind_eq_some_iff.mp e
    obtain ⟨ks, h2, rfl⟩ := Option.map_eq_some_iff.mp e
    cases r with
    | cons r1 r2 => exact .cons (Rp.nested I sm h h1 r1) (RpAll.nested I sm a h2 r2)
end
theorem paired_mem {α β : Type} {G : α → β → Prop} : ∀ {l₁ : List α} {l₂ : List β}, Paired G l₁ l₂ → ∀ b ∈ l₂, ∃ a ∈ l₁, G a b
  | _, _, .nil, _, h => by cases h
  | _, _, .cons r t, b, h => by
    rcases List.mem_cons.mp h with rfl | h
    · exact ⟨_, List.mem_cons_self, r⟩
    · obtain ⟨a, h1, h2⟩ := paired_mem t b h
      exact ⟨a, List.mem_cons_of_mem _ h1, h2⟩
theorem krel_keys : ∀ {xs : List KEnt} {us : List KEnt'}, Paired KRel xs us → xs.map (·.1) = us.map (·.1)
  | _, _, .nil => rfl
  | _, _, .cons r t => by rw [List.map_cons, List.map_cons, krel_keys t, r.1]
theorem KDat.heap {r : Addr} {xs : List KEnt} (d : KDat X.prog X.w (gx X) F H r xs) (I : Inv X pins σ H s) (sm : Same F H) : ∃ us, Paired KRel xs us ∧ s.heap.DictOfH (nestedKind X.prog X.w) r us := by
  obtain ⟨⟨o, es, ep, us, h1, h2, h3, h4, h5⟩, _⟩ := (show ObjOk X.prog X.w H s.heap r (rawO X.prog X.w r xs) from d.at_.ok I.hok)
  refine ⟨us, h5, o, es, ep, h1, h2, h3, h4, fun u hu => ?_, by rw [← krel_keys h5]; exact d.nd⟩
  obtain ⟨x, hx, e1, e2, _⟩ := paired_mem h5 u hu
  obtain ⟨kd, k1, k2, k3⟩ := d.ks x hx
  rw [← e1, ← e2]
  exact ⟨k3.nested I sm k1 rfl, k2⟩
structure IsK (G : Gx) (F : Hp) (y : V) (kd : D) (k : NestedKey) : Prop where
  ref : ∃ b, y = .ref b
  rp : Rp G F y kd
  ke : keyD kd = some k
  dp : k.depth ≤ 8
end
end TL

set_option Elab.async false
set_option linter.all false
set_option maxRecDepth 100000
namespace TL
open PySem PySem.Spec PyProof.Rows L2
structure MC where
  P : Program
  w : World
  G : Gx
  u : D → Bool
  sp : D → D → D → D
structure Sl where
  i0 : Nat
  i1 : Nat
  i2 : Nat
structure UOk (u : D → Bool) : Prop where
  fin : ∃ L : List NestedKey, L.length < 16000000 ∧ ∀ kd, u kd = true → ∃ k ∈ L, keyD kd = some k ∧ k.depth ≤ 8
  inj : ∀ kd kd', u kd = true → u kd' = true → keyD kd = keyD kd' → kd = kd'
  tup : ∀ kd, u kd = true → ∃ ds, kd = .tuple ds
def Cel (U : MC) (F H : Hp) (r : Addr) (a b : D) : Prop := ∃ xs : List KEnt, (r == sysModules) = false ∧ H r = some (rawO U.P U.w r xs) ∧ (xs.map (·.1)).Nodup ∧
  ∀ x ∈ xs, ∃ kd, U.u kd = true ∧ keyD kd = some x.1 ∧ Rp U.G F (.ref x.2.1) kd ∧ Rp U.G F x.2.2 (U.sp a b kd)
structure MOk (U : MC) (S : Sl) (O : List Nat) (r : Addr) (a b : D) (F H : Hp) (σ : L2.St) (env : Env) : Prop where
  s : SOk U.G O F (hid r H) σ env
  fr : F r = none
  ce : Cel U F H r a b
  sg : σ[S.i0]? = some (some (.ref r))
  e1 : env.getD S.i1 none = some a
  e2 : env.getD S.i2 none = some b
structure MGr (U : MC) (r : Addr) (a b : D) (F H F' H' : Hp) : Prop where
  g : Gr F (hid r H) F' (hid r H')
  fr : F' r = none
  ce : Cel U F' H' r a b
theorem nodup_leM {α : Type} [DecidableEq α] : ∀ {l m : List α}, l.Nodup → (∀ x ∈ l, x ∈ m) → l.length ≤ m.length
  | [], _, _, _ => Nat.zero_le _
  | x :: l, m, h, s => by
    rw [List.nodup_cons] at h
    have hx := s x List.mem_cons_self
    have := nodup_leM (m := m.erase x) h.2 fun y hy => (List.mem_erase_of_ne fun e => h.1 (by rw [← e]; exact hy)).mpr (s y (List.mem_cons_of_mem _ hy))
    rw [List.length_erase_of_mem hx] at this
    have : 0 < m.length := List.length_pos_of_mem hx
    rw [List.length_cons]
    omega
section
variable {U : MC} {S : Sl} {O O' : List Nat} {r : Addr} {a b : D} {F H F' H' F2 H2 : Hp} {σ : L2.St} {env : Env}
theorem Cel.nt (c : Cel U F H r a b) : ∀ ps, H r ≠ some (.tbl ps) := fun ps e => by
  obtain ⟨xs, _, h, _⟩ := c
  rw [e] at h
  cases h
theorem Cel.mono (c : Cel U F H r a b) (k : Same F F') (h : H' r = H r) : Cel U F' H' r a b := by
  obtain ⟨xs, h1, h2, h3, h4⟩ := c
  exact ⟨xs, h1, by rw [h]; exact h2, h3, fun x hx => let ⟨kd, q1, q2, q3, q4⟩ := h4 x hx; ⟨kd, q1, q2, q3.mono k, q4.mono k⟩⟩
theorem MOk.sok (q : MOk U S O r a b F H σ env) : SOk U.G O F H σ env := ⟨q.s.fh.trans hid_le, q.s.len, q.s.imm, fun i hi => by
  obtain ⟨p, kk, vs, ds, h1, h2, h3, h4, h5, hK⟩ := q.s.own i hi
  exact ⟨p, kk, vs, ds, h1, h2, h3, hid_le _ _ h4, h5, hK⟩, q.s.dj, q.s.tb.unhid⟩
theorem MOk.gr (q : MOk U S O r a b F H σ env) (g : MGr U r a b F H F' H') : MOk U S O r a b F' H' σ env := ⟨q.s.gr g.g, g.fr, g.ce, q.sg, q.e1, q.e2⟩
theorem MGr.of (g : Gr F H F' H') (hf : F r = none) (ce : Cel U F H r a b) : MGr U r a b F H F' H' := by
  obtain ⟨xs, h1, h2, h3, h4⟩ := id ce
  have fr : F' r = none := g.hid r _ h2 hf
  have hr : H' r = H r := by rw [g.hh.nn r _ h2 rfl, h2]
  refine ⟨⟨g.ff, g.hh.hid_, fun c o e => ?_, fun p o e n => ?_⟩, fr, ce.mono g.ff hr⟩
  · have n : c ≠ r := fun z => by rw [z, fr] at e; cases e
    rw [hid_ne n]
    exact g.fh c o e
  · obtain ⟨_, e⟩ := hid_some e
    exact g.hid p o e n
theorem MGr.trans (x : MGr U r a b F H F' H') (y : MGr U r a b F' H' F2 H2) : MGr U r a b F H F2 H2 := ⟨x.g.trans y.g, y.fr, y.ce⟩
theorem MGr.fh (x : MGr U r a b F H F' H') : Same F' H' := x.g.fh.trans hid_le
theorem MGr.ff (x : MGr U r a b F H F' H') : Same F F' := x.g.ff
theorem MOk.of (q : MOk U S O r a b F H σ env) (g : Gr F H F' H') : MGr U r a b F H F' H' := .of g q.fr q.ce
theorem MOk.refl (q : MOk U S O r a b F H σ env) : MGr U r a b F H F H := q.of (Gr.refl q.sok.fh)
end
section
variable {X : Cx} {u : D → Bool} {sp : D → D → D → D} {S : Sl} {O : List Nat} {a b e k : Expr} {es rest : List Expr} {fa fb : SE} {ta tb : ST} {l : List SE} {pos p2 : Pos} {g : D → D → Option D}
end
section
variable {X : Cx} {u : D → Bool} {sp : D → D → D → D} {S : Sl} {O : List Nat} {e : Expr} {es : List Expr} {l : List SE} {p pos : Pos} {x : Str} {k n j c1 c2 : Nat} {fa : Addr} {fd : FuncData} {ps : List Str} {a : SE}
end
section
variable {X : Cx} {u : D → Bool} {sp : D → D → D → D} {O : List Nat} {e : Expr} {es : List Expr} {l : List SE} {p pos : Pos} {x : Str} {k n c1 c2 : Nat} {fa : Addr} {fd : FuncData} {ps : List Str} {a : SE}
end
end TL

set_option Elab.async false
set_option linter.all false
set_option maxRecDepth 100000
namespace TL
open PySem PySem.Spec PyProof.Rows L2
def agGo (cb : Bool) (g : SG) (e : SE) (env : Env) : List D → Option D
  | [] => some (.bool cb)
  | x :: xs => (g x env).bind fun env1 => (e env1).bind fun y => (toB y).bind fun b => if b = cb then agGo cb g e env xs else some (.bool (!cb))
@[simp] def eAg (cb : Bool) (vs : List Nat) (it : SI) (g : SG) (e : SE) : SE := fun env => (it env).bind fun ds => agGo cb g e (wipeE env vs) ds
section
variable {X : Cx} {u : D → Bool} {sp : D → D → D → D} {S : Sl} {O : List Nat}
abbrev Sl.off (S : Sl) (vs : List Nat) : Prop := S.i0 ∉ vs ∧ S.i1 ∉ vs ∧ S.i2 ∉ vs
end
def mPost (U : MC) (S : Sl) (O' Ob : List Nat) (F0 H0 : Hp) (r : Addr) (a b : D) (F : Hp) (D : Ends) : Out → Prop
  | .nx e => ∀ σ' F' H', MOk U S O' r a b F' H' σ' e → Fr F0 (hid r H0) O' F' (hid r H') σ' → Same F F' → D.nx σ' H'
  | .bk e => ∀ σ' F' H', MOk U S Ob r a b F' H' σ' e → Fr F0 (hid r H0) Ob F' (hid r H') σ' → Same F F' → D.bk σ' H'
  | .ct e => ∀ σ' F' H', MOk U S Ob r a b F' H' σ' e → Fr F0 (hid r H0) Ob F' (hid r H') σ' → Same F F' → D.ct σ' H'
  | .rt d => ∀ v F' H', MGr U r a b F0 H0 F' H' → Rp U.G F' v d → D.rt v H'
theorem mPost.ff {U : MC} {S : Sl} {O' Ob : List Nat} {F0 H0 F F1 : Hp} {r : Addr} {a b : D} {D : Ends} {out : Out} (q : mPost U S O' Ob F0 H0 r a b F D out) (k : Same F F1) : mPost U S O' Ob F0 H0 r a b F1 D out := by
  cases out with
  | nx e => exact fun σ' F' H' s' f' k' => q σ' F' H' s' f' (k.trans k')
  | bk e => exact fun σ' F' H' s' f' k' => q σ' F' H' s' f' (k.trans k')
  | ct e => exact fun σ' F' H' s' f' k' => q σ' F' H' s' f' (k.trans k')
  | rt d => exact q
section
variable {X : Cx} {u : D → Bool} {sp : D → D → D → D} {S : Sl} {O O' O'' Ob : List Nat} {st : Stmt} {rest : List Stmt} {pos : Pos}
theorem setD_ne {env : Env} {i j : Nat} {d : Option D} (h : i ≠ j) : (env.set i d).getD j none = env.getD j none := by
  rw [List.getD_eq_getElem?_getD, List.getElem?_set_ne h, ← List.getD_eq_getElem?_getD]
theorem MOk.set {U : MC} {r : Addr} {a b : D} {F H : Hp} {σ : L2.St} {env : Env} (ok : MOk U S O r a b F H σ env) {i : Nat} {v : V} {d : D} (hO : i ∉ O) (h0 : S.off [i]) (rv : Rp U.G F v d) : MOk U S O r a b F H (σ.set i (some v)) (env.set i (some d)) := by
  have n0 : i ≠ S.i0 := fun z => h0.1 (by rw [z]; exact List.mem_singleton.mpr rfl)
  have n1 : i ≠ S.i1 := fun z => h0.2.1 (by rw [z]; exact List.mem_singleton.mpr rfl)
  have n2 : i ≠ S.i2 := fun z => h0.2.2 (by rw [z]; exact List.mem_singleton.mpr rfl)
  exact ⟨ok.s.set hO rv, ok.fr, ok.ce, by rw [List.getElem?_set_ne n0]; exact ok.sg, by rw [setD_ne n1]; exact ok.e1, by rw [setD_ne n2]; exact ok.e2⟩
end
end TL

set_option Elab.async false
set_option linter.all false
set_option maxRecDepth 100000
namespace TL
open PySem PySem.Spec PyProof.Rows L2
mutual
def deq : D → D → Bool
  | .none, .none => true
  | .bool a, .bool b => decide (a = b)
  | .int a, .int b => decide (a = b)
  | .str a, .str b => decide (a = b)
  | .tuple a, .tuple b => deqs a b
  | .list a, .list b => deqs a b
  | _, _ => false
def deqs : List D → List D → Bool
  | [], [] => true
  | a :: l, b :: m => deq a b && deqs l m
  | _, _ => false
end
@[simp] def sEnd (u : D → Bool) (sp : D → D → D → D) (i1 i2 : Nat) (fk e : SE) : SS := fun env => (fk env).bind fun kd => (e env).bind fun d => (env.getD i1 none).bind fun a => (env.getD i2 none).bind fun b => if (u kd && deq d (sp a b kd)) = true then some (.rt d) else none
@[simp] def sSeqN (f g : SS) : SS := fun env => (f env).bind fun o => match o with
  | .nx e => g e
  | _ => none
@[simp] def sMemo (u : D → Bool) (sp : D → D → D → D) (i1 i2 : Nat) (fk : SE) (blk : SS) : SS := fun env => (fk env).bind fun kd => (blk env).bind fun o => match o with
  | .rt d => (env.getD i1 none).bind fun a => (env.getD i2 none).bind fun b => if (u kd && deq d (sp a b kd)) = true then some (.rt d) else none
  | _ => none
def Has (U : MC) (F H : Hp) (r : Addr) (kd d : D) : Prop := ∃ xs k v, KDat U.P U.w U.G F H r xs ∧ keyD kd = some k ∧ atV xs k = some v ∧ Rp U.G F v d
section
variable {X : Cx} {u : D → Bool} {sp : D → D → D → D} {S : Sl} {O O' Ob : List Nat}
theorem Has.mono {U : MC} {F H F' H' : Hp} {r : Addr} {kd d : D} (h : Has U F H r kd d) (k : Same F F') (e : H' r = H r) : Has U F' H' r kd d := by
  obtain ⟨xs, k', v, ⟨h1, h2, h3, h4, h5⟩, hk, ha, rp⟩ := h
  exact ⟨xs, k', v, ⟨h1, h2.imp (fun z => by rw [e]; exact z) (fun ⟨o, z⟩ => ⟨o, by rw [e]; exact z⟩), h3, h4, fun x hx => let ⟨kd, a1, a2, a3⟩ := h5 x hx; ⟨kd, a1, a2, a3.mono k⟩⟩, hk, ha, rp.mono k⟩
end
end TL

set_option Elab.async false
set_option linter.all false
set_option maxRecDepth 100000
namespace TL
open PySem PySem.Spec PyProof.Rows L2
def rngD (lo hi : Int) : D := .dict [(.bool true, .tuple [.int lo, .int hi])]
def rngItems : D → Option (List D)
  | .dict [(.bool true, .tuple [.int lo, .int hi])] => rangeD lo hi
  | _ => none
@[simp] def eRngV (a b : SE) : SE := fun env => (a env).bind fun x => (b env).bind fun y => (toI x).bind fun n => (toI y).map fun m => rngD n m
@[simp] def iRngO (a : SE) : SI := fun env => (a env).bind rngItems
@[simp] def iRev2 (a b : SE) : SI := fun env => (a env).bind fun x => (b env).bind fun y => (toI x).bind fun n => (toI y).bind fun m => (rangeD n m).map List.reverse
section
variable {X : Cx} {O : List Nat} {a b e tg : Expr} {fa fb : SE} {p pos : Pos}
end
section
variable {X : Cx} {O : List Nat} {a b e tg : Expr} {fa fb : SE} {p pos p2 pos2 : Pos}
end
@[simp] def sExtO (i j : Nat) : SS := fun env => match env.getD i none, env.getD j none with
  | some (.list ds), some (.list es) => if ds.length + es.length ≤ sizeLine then some (.nx (env.set i (some (.list (ds ++ es))))) else none
  | _, _ => none
section
variable {X : Cx} {R : RK} {O O' Ob : List Nat} {pos : Pos}
end
end TL

set_option Elab.async false
set_option linter.all false
set_option maxRecDepth 100000
namespace TL
open PySem PySem.Spec PyProof.Rows L2
section
variable {P : Program} {w : World} {G : Gx} {base : Heap} {u : D → Bool} {sp : D → D → D → D} {S : Sl}
end
section
variable {X : Cx} {u : D → Bool} {sp : D → D → D → D} {S : Sl} {O O' O'' Ob : List Nat} {st : Stmt} {rest : List Stmt} {pos : Pos}
@[simp] def sKnown (i0 i1 i2 : Nat) (f : SS) : SS := fun env => (env.getD i1 none).bind fun _ => (env.getD i2 none).bind fun _ => f (env.set i0 none)
end
end TL

set_option Elab.async false
set_option linter.all false
set_option maxRecDepth 100000
namespace LB
open PySem TL
structure Wd where
  n : Int
  m0 : List Int
  m1 : List Int
  ar : List (Int × Int)
def tI (l : List Int) : D := .tuple (l.map .int)
def tP (l : List (Int × Int)) : D := .tuple (l.map prD)
def Wd.d (w : Wd) : D := .tuple [.int w.n, .tuple [tI w.m0, tI w.m1], tP w.ar]
def fitB (w u : Wd) (p q : Int × Int) : Bool :=
  decide (decide (p.1 = q.1) = decide (p.2 = q.2)) && (decide (decide (p.1 ∈ w.m0) = decide (p.2 ∈ u.m0)) && decide (decide (p.1 ∈ w.m1) = decide (p.2 ∈ u.m1)))
  && (decide (decide ((p.1, q.1) ∈ w.ar) = decide ((p.2, q.2) ∈ u.ar)) && decide (decide ((q.1, p.1) ∈ w.ar) = decide ((q.2, p.2) ∈ u.ar)))
def growB (w u : Wd) (ps : List (Int × Int)) (p : Int × Int) : Bool := fitB w u p p && ps.all fun q => fitB w u p q
def putP (ps : List (Int × Int)) (p : Int × Int) : List (Int × Int) := if p ∈ ps then ps else isort ltPr (ps ++ [p])
def canB (w u : Wd) : Nat → List (Int × Int) → Bool
  | 0, _ => true
  | k + 1, ps => ((rangeI 0 w.n.toNat).all fun a => (rangeI 0 u.n.toNat).any fun b => growB w u ps (a, b) && canB w u k (putP ps (a, b))) &&
    (rangeI 0 u.n.toNat).all fun b => (rangeI 0 w.n.toNat).any fun a => growB w u ps (a, b) && canB w u k (putP ps (a, b))
def inR (n : Int) (p : Int × Int) : Bool := decide (0 ≤ p.1) && decide (p.1 < n) && decide (0 ≤ p.2) && decide (p.2 < n)
def ascF : List (Int × Int) → Bool
  | [] => true
  | [_] => true
  | p :: q :: r => decide (p.1 < q.1) && ascF (q :: r)
def okGo (ps : List (Int × Int)) (k : Int) : Bool := decide (0 ≤ k) && ((ps.all (inR 8) && Nat.ble (ps.length + k.toNat) 3) || (ps.all (inR 6) && (ascF ps && Nat.ble k.toNat 6)))
def sq (n : Nat) : List (Int × Int) := (rangeI 0 n).flatMap fun a => (rangeI 0 n).map fun b => (a, b)
inductive Say where
  | mark (i : Int) (x : Nat) | same (x y : Nat) | arrow (x y : Nat)
def Say.d : Say → D
  | .mark i x => .tuple [.str "mark", .int i, .int x]
  | .same x y => .tuple [.str "same", .int x, .int y]
  | .arrow x y => .tuple [.str "arrow", .int x, .int y]
def okDif (a b : List Int) (k : Int) : Bool := decide (0 ≤ k) && decide (a.length = b.length) && (((a.zip b).all (inR 8) && Nat.ble (a.length + k.toNat) 3) || ((a.zip b).all (inR 5) && (Nat.beq (a.length + k.toNat) 4 || Nat.beq (a.length + k.toNat) 5)))
end LB

set_option Elab.async false
set_option linter.all false
set_option maxRecDepth 100000
namespace TL
open PySem PySem.Spec PyProof.Rows L2
@[simp] def sNo : SS := fun _ => none
section
variable {X : Cx} {R : RK} {O O' Ob : List Nat} {st : Stmt} {a : Expr} {f : SE}
end
end TL
namespace TL
open PySem PySem.Spec PyProof.Rows L2
def placeD (d : D) : List D → Nat → Option Nat
  | [], _ => none
  | z :: r, i => if PyData.eqv z d = true then some i else placeD d r (i + 1)
section
variable {X : Cx} {O : List Nat} {a b : Expr} {f g : SE}
end
end TL
namespace TL
open PySem PySem.Spec PyProof.Rows L2
section
variable {X : Cx} {O : List Nat} {a b : Expr} {f g : SE}
end
@[simp] def sPar3 (i j l : Nat) (a b c : SE) : SS := fun env => (a env).bind fun x => (b env).bind fun y => (c env).map fun z => .nx (((env.set i (some x)).set j (some y)).set l (some z))
section
variable {X : Cx} {R : RK} {O Ob : List Nat} {pos : Pos}
end
end TL

set_option Elab.async false
set_option linter.all false
set_option maxRecDepth 100000
namespace TL
open PySem PySem.Spec PyProof.Rows L2
section
variable {X : Cx}
end
@[simp] def eRngT (a : SE) : SE := fun env => (a env).bind fun x => (toI x).bind fun n => (rangeD 0 n).map .tuple
end TL

set_option Elab.async false
set_option linter.all false
set_option maxRecDepth 100000
namespace TL
open PySem PySem.Spec PyProof.Rows L2
def tupI (ns : List Int) : D := .tuple (ns.map .int)
def tupsOf : List D → Option (List (List Int))
  | [] => some []
  | .tuple ds :: r => (intsOf ds).bind fun ns => (tupsOf r).map (ns :: ·)
  | _ => none
def ddL : List (List Int) → List (List Int)
  | [] => []
  | t :: r => if t ∈ r then ddL r else t :: ddL r
def ltLI : List Int → List Int → Bool := lexL ltI
theorem ddL_mem : ∀ {ts : List (List Int)} {t : List Int}, t ∈ ddL ts ↔ t ∈ ts
  | [], t => Iff.rfl
  | a :: r, t => by
    unfold ddL
    split
    · rename_i h
      rw [ddL_mem, List.mem_cons]
      exact ⟨.inr, fun z => z.elim (fun e => e ▸ h) id⟩
    · rw [List.mem_cons, List.mem_cons, ddL_mem]
theorem ddL_nodup : ∀ ts : List (List Int), (ddL ts).Nodup
  | [] => .nil
  | a :: r => by
    unfold ddL
    split
    · exact ddL_nodup r
    · rename_i h
      exact List.nodup_cons.mpr ⟨fun z => h (ddL_mem.mp z), ddL_nodup r⟩
theorem swoLI : SrtO.Swo ltLI ∧ ∀ x y, ltLI x y = false → ltLI y x = false → x = y := ⟨swo_lexL swoI antiI, anti_lexL antiI⟩
theorem code_lex {B : Int} : ∀ {a b : List Int}, a.length = b.length → TS.Bd B a → TS.Bd B b → ltLI a b = true → TS.code B a < TS.code B b
  | [], [], _, _, _, h => by cases h
  | [], _ :: _, hl, _, _, _ => by cases hl
  | _ :: _, [], hl, _, _, _ => by cases hl
  | x :: xs, y :: ys, hl, ha, hb, h => by
    have hl' : xs.length = ys.length := by simpa using hl
    have hh : (if ltI x y = true then true else if ltI y x = true then false else ltLI xs ys) = true := h
    clear h
    by_cases h1 : x < y
    · exact TS.code_lt hl' ha.tail hb.tail h1
    · rw [if_neg (by unfold ltI; rw [decide_eq_true_eq]; exact h1)] at hh
      by_cases h2 : y < x
      · rw [if_pos (by unfold ltI; rw [decide_eq_true_eq]; exact h2)] at hh
        cases hh
      · rw [if_neg (by unfold ltI; rw [decide_eq_true_eq]; exact h2)] at hh
        have e : x = y := by omega
        subst e
        exact (TS.code_same hl').mpr (code_lex hl' ha.tail hb.tail hh)
section
variable {X : Cx} {O : List Nat}
theorem tups_ks {G : Gx} {F : Hp} : ∀ {ds : List D} {vs : List V} {ts : List (List Int)}, RpAll G F vs ds → tupsOf ds = some ts → ∃ ks : List (Addr × List Int), vs = ks.map (fun p => V.ref p.1) ∧ ks.map (·.2) = ts ∧ ∀ p ∈ ks, SqT G.K F p.1 (p.2.map V.int) ∧ Rp G F (.ref p.1) (tupI p.2)
  | _, _, _, .nil, e => by
    cases e
    exact ⟨[], rfl, rfl, fun p h => by cases h⟩
  | d :: ds, _, ts, .cons h r, e => by
    cases h with
    | tup sq ra =>
      simp only [tupsOf] at e
      obtain ⟨ns, h1, h2⟩ := bind_some e
      obtain ⟨ts', h3, h4⟩ := map_some h2
      subst h4
      obtain ⟨ks, k1, k2, k3⟩ := tups_ks r h3
      have e1 := RpAll.ints ra h1
      subst e1
      have ed : ∀ {ds : List D} {ns : List Int}, intsOf ds = some ns → ds = ns.map .int := by
        intro ds
        induction ds with
        | nil => intro ns h; cases h; rfl
        | cons d ds ih =>
          intro ns h
          cases d with
          | int i =>
            simp only [intsOf] at h
            obtain ⟨ms, q1, q2⟩ := map_some h
            subst q2
            rw [ih q1]
            rfl
          | _ => cases h
      have e2 := ed h1
      subst e2
      refine ⟨(_, ns) :: ks, by rw [k1]; rfl, by rw [List.map_cons, k2], fun p hp => ?_⟩
      rcases List.mem_cons.mp hp with rfl | hp
      · exact ⟨sq.t, .tup sq ra⟩
      · exact k3 p hp
    | _ => cases e
end
end TL

set_option Elab.async false
set_option linter.all false
set_option maxRecDepth 100000
namespace TL
open PySem PySem.Spec PyProof.Rows L2
def keyT : D → Option NestedKey
  | .tuple es => (keyD (.tuple es)).bind fun k => if Nat.ble k.depth 8 = true then some k else none
  | _ => none
def dgetP : List (D × D) → NestedKey → Option D
  | [], _ => none
  | (a, b) :: r, k => if keyD a = some k then some b else dgetP r k
def dputP : List (D × D) → NestedKey → D → D → List (D × D)
  | [], _, kd, vd => [(kd, vd)]
  | (a, b) :: r, k, kd, vd => if keyD a = some k then (a, vd) :: r else (a, b) :: dputP r k kd vd
def prsK : D → Option (List (D × D))
  | .dict ((.none, .none) :: kvs) => some kvs
  | _ => none
def mkK (kvs : List (D × D)) : D := .dict ((.none, .none) :: kvs)
@[simp] def sSetK (i : Nat) (fk fv : SE) : SS := fun env => (fv env).bind fun y => (fk env).bind fun kd => (keyT kd).bind fun k => match (env.getD i none).bind prsK with
  | some kvs => if Nat.ble kvs.length 1000000 = true then some (.nx (env.set i (some (mkK (dputP kvs k kd y))))) else none
  | none => none
inductive Al (G : Gx) (F : Hp) : List NestedKey → List V → List D → Prop
  | nil : Al G F [] [] []
  | cons {k : NestedKey} {b : Addr} {es : List D} {v : V} {vd : D} {ks : List NestedKey} {vs : List V} {ds : List D} : keyD (.tuple es) = some k → Rp G F (.ref b) (.tuple es) → Rp G F v vd → Al G F ks vs ds → Al G F (k :: ks) (.ref b :: v :: vs) (.tuple es :: vd :: ds)
section
variable {G : Gx} {F F' : Hp}
theorem Al.of : ∀ {ks : List NestedKey} {vs : List V} {ds : List D}, RpAll G F vs ds → keyAll (keysD ds) = some ks → ds.length = 2 * ks.length → (∀ d ∈ keysD ds, ∃ es, d = .tuple es) → Al G F ks vs ds
  | [], vs, ds, r, _, hl, _ => by
    have : ds = [] := List.eq_nil_of_length_eq_zero (by simpa using hl)
    subst this
    cases r
    exact .nil
  | k :: ks, vs, ds, r, hk, hl, ht => by
    match ds, r, hk, hl, ht with
    | [], _, _, hl, _ => simp at hl
    | [_], _, _, hl, _ => simp at hl; omega
    | a :: b :: ds, .cons ra (.cons rb r), hk, hl, ht =>
      simp only [keysD, keyAll] at hk
      obtain ⟨k', h1, hk⟩ := bind_some hk
      obtain ⟨ks', h2, h3⟩ := map_some hk
      cases h3
      obtain ⟨es, rfl⟩ := ht a (by simp [keysD])
      have rest := Al.of r h2 (by simp only [List.length_cons] at hl ⊢; omega) fun d hd => ht d (by simp only [keysD]; exact List.mem_cons_of_mem _ hd)
      cases ra with
      | tup q1 q2 => exact .cons h1 (.tup q1 q2) rb rest
theorem Al.rp {ks : List NestedKey} {vs : List V} {ds : List D} (h : Al G F ks vs ds) : RpAll G F vs ds ∧ keyAll (keysD ds) = some ks ∧ ds.length = 2 * ks.length ∧ (∀ d ∈ keysD ds, ∃ es, d = .tuple es) := by
  induction h with
  | nil => exact ⟨.nil, rfl, rfl, fun d hd => by cases hd⟩
  | cons h1 h2 h3 _ ih =>
    obtain ⟨i1, i2, i3, i4⟩ := ih
    refine ⟨.cons h2 (.cons h3 i1), ?_, by simp only [List.length_cons, i3]; omega, fun d hd => ?_⟩
    · simp only [keysD, keyAll, h1, i2, Option.bind_some, Option.map_some]
    · simp only [keysD] at hd
      rcases List.mem_cons.mp hd with rfl | hd
      · exact ⟨_, rfl⟩
      · exact i4 d hd
theorem Al.ents {ks : List NestedKey} {vs : List V} {ds : List D} (h : Al G F ks vs ds) : (entsOf ks vs).map (·.1) = ks ∧ ∀ x ∈ entsOf ks vs, ∃ kd, keyD kd = some x.1 ∧ Rp G F (.ref x.2.1) kd := by
  induction h with
  | nil => exact ⟨rfl, fun x hx => by cases hx⟩
  | cons h1 h2 h3 _ ih =>
    obtain ⟨i1, i2⟩ := ih
    refine ⟨by simp only [entsOf, List.map_cons, i1], fun x hx => ?_⟩
    simp only [entsOf] at hx
    rcases List.mem_cons.mp hx with rfl | hx
    · exact ⟨_, h1, h2⟩
    · exact i2 x hx
theorem Al.at_ {ks : List NestedKey} {vs : List V} {ds : List D} (h : Al G F ks vs ds) (k : NestedKey) : (dgetP (prsD ds) k = none ∧ atV (entsOf ks vs) k = none) ∨ ∃ vd v, dgetP (prsD ds) k = some vd ∧ atV (entsOf ks vs) k = some v ∧ Rp G F v vd := by
  induction h with
  | nil => exact .inl ⟨rfl, rfl⟩
  | @cons k' b es v vd ks vs ds h1 h2 h3 _ ih =>
    simp only [prsD, dgetP, entsOf, atV, List.find?_cons]
    by_cases hk : k' = k
    · subst hk
      rw [if_pos h1]
      refine .inr ⟨vd, v, rfl, ?_, h3⟩
      simp
    · rw [if_neg (fun z => hk (by rw [h1] at z; exact Option.some.inj z)), show (decide (k' = k)) = false from decide_eq_false hk]
      exact ih
theorem atV_cons {k k' : NestedKey} {b : Addr} {v : V} {xs : List KEnt} : atV ((k', b, v) :: xs) k = if k' = k then some v else atV xs k := by
  by_cases h : k' = k
  · simp [atV, h]
  · simp [atV, h]
theorem map_same {k : NestedKey} {v : V} {xs : List KEnt} (h : k ∉ xs.map (·.1)) : (xs.map fun x => if x.1 = k then (x.1, x.2.1, v) else x) = xs := by
  induction xs with
  | nil => rfl
  | cons x xs ih =>
    rw [List.map_cons, if_neg (fun e => h (by rw [List.map_cons, ← e]; exact List.mem_cons_self)), ih (fun z => h (by rw [List.map_cons]; exact List.mem_cons_of_mem _ z))]
theorem Al.put {ks : List NestedKey} {vs : List V} {ds : List D} (h : Al G F ks vs ds) (nd : ks.Nodup) {k : NestedKey} {b : Addr} {es : List D} {v : V} {vd : D} (hk : keyD (.tuple es) = some k) (rk : Rp G F (.ref b) (.tuple es)) (rv : Rp G F v vd) :
    ∃ ks' vs' ds', Al G F ks' vs' ds' ∧ prsD ds' = dputP (prsD ds) k (.tuple es) vd ∧ entsOf ks' vs' = putR (entsOf ks vs) k b v ∧ ks'.Nodup ∧ ks'.length ≤ ks.length + 1 ∧ ∀ z ∈ ks', z = k ∨ z ∈ ks := by
  induction h with
  | nil => exact ⟨[k], [.ref b, v], [.tuple es, vd], .cons hk rk rv .nil, rfl, rfl, by simp, by simp, fun z hz => .inl (List.mem_singleton.mp hz)⟩
  | @cons k' b' es' v' vd' ks vs ds h1 h2 h3 h4 ih =>
    obtain ⟨n1, n2⟩ := List.nodup_cons.mp nd
    by_cases e : k' = k
    · subst e
      refine ⟨k' :: ks, .ref b' :: v :: vs, .tuple es' :: vd :: ds, .cons h1 h2 rv h4, ?_, ?_, nd, by simp, fun z hz => .inr hz⟩
      · simp only [prsD, dputP]
        rw [if_pos h1]
      · simp only [entsOf, putR, atV_cons, if_true, Option.isSome_some, List.map_cons]
        rw [map_same (by rw [(Al.ents h4).1]; exact n1)]
    · obtain ⟨ks', vs', ds', i1, i2, i3, i4, i5, i6⟩ := ih n2
      refine ⟨k' :: ks', .ref b' :: v' :: vs', .tuple es' :: vd' :: ds', .cons h1 h2 h3 i1, ?_, ?_, List.nodup_cons.mpr ⟨fun hm => ?_, i4⟩, by simp only [List.length_cons]; omega, fun z hz => ?_⟩
      · simp only [prsD, dputP]
        rw [if_neg (fun z => e (by rw [h1] at z; exact Option.some.inj z)), i2]
      · simp only [entsOf, i3]
        unfold putR
        rw [atV_cons, if_neg e]
        split
        · rw [List.map_cons, if_neg e]
        · rfl
      · rcases i6 k' hm with z | z
        · exact e z
        · exact n1 z
      · rcases List.mem_cons.mp hz with rfl | hz
        · exact .inr List.mem_cons_self
        · rcases i6 z hz with z' | z'
          · exact .inl z'
          · exact .inr (List.mem_cons_of_mem _ z')
end
section
variable {G : Gx} {F H : Hp}
end
section
variable {X : Cx} {O : List Nat} {F H : Hp}
variable {a b : Expr} {fa fb : SE} {pos p2 : Pos}
end
section
variable {X : Cx} {R : RK} {O Ob : List Nat} {ei ev : Expr} {fi fv : SE} {p1 pos pos' : Pos} {x : Str}
end
end TL

set_option Elab.async false
set_option linter.all false
set_option maxRecDepth 100000
namespace TL
open PySem PySem.Spec PyProof.Rows L2
section
variable {P : Program} {w : World} {G : Gx} {base : Heap}
end
section
variable {X : Cx} {E : XK} {O O' Ob : List Nat} {st : Stmt} {sts : List Stmt} {pos : Pos}
variable {fx : Str} {k n : Nat} {fa : Addr} {fd : FuncData} {ps : List Str} {m : List D → Option D} {e tg : Expr} {es : List Expr} {l : List SE} {g : SG} {sl : List Nat} {p p2 : Pos}
end
section
variable {X : Cx} {R : RK} {O O' Ob : List Nat} {i : Nat} {a : Addr} {e e2 : Expr} {rest : List Expr} {f f2 : SE} {t t2 : ST} {pos : Pos}
end
section
variable {X : Cx} {O : List Nat} {i : Nat} {a Dc : Addr} {oe : Obj} {pn : List (Addr × Obj)} {n y : Str} {p p0 p1 p2 : Pos}
end
section
variable {X : Cx} {O : List Nat} {i : Nat} {a : Addr} {e : Expr} {f : SE}
end
section
variable {X : Cx} {R : RK} {O O' Ob : List Nat} {i k nn : Nat} {x wx fx n : Str} {C W fa : Addr} {fd : FuncData} {ps : List Str} {m : List D → Option D} {e tg : Expr} {es : List Expr} {l : List SE} {g : SG} {sl : List Nat} {rest suite : List Stmt} {b₀ : Stmt} {fr fh : SS} {p p2 p3 np pos pos' : Pos}
end
end TL
namespace TL
open PySem PySem.Spec PyProof.Rows L2
end TL

set_option Elab.async false
set_option linter.all false
set_option maxRecDepth 100000
namespace TL
open PySem PySem.Spec PyProof.Rows L2
def addTo (v : D) : List Bool → List (List D) → List (List D)
  | true :: _, l :: L => (l ++ [v]) :: L
  | false :: bs, l :: L => l :: addTo v bs L
  | _, [] => [[v]]
  | [], l :: L => l :: L
def flags (T : ST) (it : Nat) (env : Env) : List (List D) → Option (List Bool)
  | [] => some []
  | l :: L => (T ((wipeE env [it]).set it (some (.list l)))).bind fun b => (flags T it env L).map (b :: ·)
def lotsGo (T : ST) (iv it : Nat) (env : Env) : List D → List (List D) → Option (List (List D))
  | [], L => some L
  | v :: vs, L => (flags T it (env.set iv (some v)) L).bind fun bs => lotsGo T iv it env vs (addTo v bs L)
def clr4 (env : Env) (il iv im it : Nat) : Env := (((env.set il none).set iv none).set im none).set it none
def sLots (il iv im it : Nat) (fi : SI) (T : ST) : SS := fun env => match env.getD il none with
  | some (.list []) => (fi env).bind fun ds => (lotsGo T iv it (clr4 env il iv im it) ds []).map fun L => .nx ((clr4 env il iv im it).set il (some (.list (L.map .list))))
  | _ => none
def shut (F H : Hp) (ps : List Addr) : Hp := fun b => if b ∈ ps then H b else F b
theorem shut_in {F H : Hp} {ps : List Addr} {b : Addr} (h : b ∈ ps) : shut F H ps b = H b := by show (if b ∈ ps then H b else F b) = _; rw [if_pos h]
theorem shut_out {F H : Hp} {ps : List Addr} {b : Addr} (h : b ∉ ps) : shut F H ps b = F b := by show (if b ∈ ps then H b else F b) = _; rw [if_neg h]
theorem shut_ge {F H : Hp} {ps : List Addr} (h : ∀ p ∈ ps, F p = none) : Same F (shut F H ps) := fun b o e => by
  rw [shut_out fun m => by rw [h b m] at e; cases e]
  exact e
theorem shut_le {F H : Hp} {ps : List Addr} (h : Same F H) : Same (shut F H ps) H := fun b o e => by
  by_cases m : b ∈ ps
  · rw [shut_in m] at e; exact e
  · rw [shut_out m] at e; exact h b o e
theorem TbOk.sub {G : Gx} {F F2 H : Hp} (t : TbOk G F2 H) (s : Same F F2) : TbOk G F H := fun x hx c P e => by
  obtain ⟨h1, h2⟩ := t x hx c P e
  refine ⟨?_, h2⟩
  cases q : F P with
  | none => rfl
  | some o => rw [s P o q] at h1; cases h1
theorem TbOk.shut {G : Gx} {F H : Hp} (t : TbOk G F H) {ps : List Addr} (h : ∀ p ∈ ps, ∃ vs, H p = some (.lst vs)) : TbOk G (shut F H ps) H := fun x hx c P e => by
  obtain ⟨h1, h2⟩ := t x hx c P e
  refine ⟨?_, h2⟩
  rw [shut_out fun m => ?_]
  · exact h1
  · obtain ⟨vs, h3⟩ := h P m
    obtain ⟨z, h4, _⟩ := h2
    rw [h3] at h4
    cases h4
theorem SOk.at_ {G : Gx} {F H F2 H2 : Hp} {σ : L2.St} {env : Env} (s : SOk G [] F H σ env) (a : Same F F2) (b : Same F2 H2) (t : TbOk G F2 H2) : SOk G [] F2 H2 σ env :=
  ⟨b, s.len, fun i d e n => let ⟨v, h1, h2⟩ := s.imm i d e n; ⟨v, h1, h2.mono a⟩, (fun i hi => by cases hi), (fun i hi => by cases hi), t⟩
theorem SOk.setN {G : Gx} {F H : Hp} {σ : L2.St} {env : Env} (s : SOk G [] F H σ env) {i : Nat} (h : ∀ d, env[i]? ≠ some (some d)) (v : Option V) : SOk G [] F H (σ.set i v) env := by
  refine ⟨s.fh, by rw [List.length_set]; exact s.len, fun j d e n => ?_, (fun i hi => by cases hi), (fun i hi => by cases hi), s.tb⟩
  by_cases ij : i = j
  · subst ij
    exact absurd e (h d)
  · rw [List.getElem?_set_ne ij]
    exact s.imm j d e n
theorem SOk.hide {G : Gx} {O : List Nat} {F H : Hp} {σ : L2.St} {env e2 : Env} (s : SOk G O F H σ env) (l : e2.length = env.length) (h : ∀ i d, e2[i]? = some (some d) → env[i]? = some (some d) ∧ i ∉ O) : SOk G [] F H σ e2 :=
  ⟨s.fh, l.trans s.len, fun i d e _ => s.imm i d (h i d e).1 (h i d e).2, (fun i hi => by cases hi), (fun i hi => by cases hi), s.tb⟩
inductive Lots (G : Gx) (F H0 H : Hp) (n : Nat) : List Addr → List (List D) → Prop
  | nil : Lots G F H0 H n [] []
  | cons {q : Addr} {qs : List Addr} {l : List D} {L : List (List D)} {vs : List V} : F q = none → H0 q = none → l.length ≤ n → H q = some (.lst vs) → RpAll G F vs l → Lots G F H0 H n qs L → Lots G F H0 H n (q :: qs) (l :: L)
section
variable {G : Gx} {F H0 H H' : Hp} {n n' : Nat}
theorem Lots.len : ∀ {qs : List Addr} {L : List (List D)}, Lots G F H0 H n qs L → qs.length = L.length
  | _, _, .nil => rfl
  | _, _, .cons _ _ _ _ _ r => congrArg (· + 1) r.len
theorem Lots.no : ∀ {qs : List Addr} {L : List (List D)}, Lots G F H0 H n qs L → ∀ q ∈ qs, F q = none ∧ H0 q = none ∧ ∃ vs, H q = some (.lst vs)
  | _, _, .nil, q, h => by cases h
  | _, _, .cons a b _ c _ r, q, h => by
    rcases List.mem_cons.mp h with rfl | h
    · exact ⟨a, b, _, c⟩
    · exact r.no q h
theorem Lots.keep (hn : n ≤ n') : ∀ {qs : List Addr} {L : List (List D)}, Lots G F H0 H n qs L → (∀ q ∈ qs, H' q = H q) → Lots G F H0 H' n' qs L
  | _, _, .nil, _ => .nil
  | _, _, .cons a b l c d r, h => .cons a b (Nat.le_trans l hn) ((h _ List.mem_cons_self).trans c) d (r.keep hn fun q m => h q (List.mem_cons_of_mem _ m))
theorem Lots.get : ∀ {qs : List Addr} {L : List (List D)} {i : Nat} {q : Addr}, Lots G F H0 H n qs L → qs[i]? = some q → ∃ l vs, L[i]? = some l ∧ H q = some (.lst vs) ∧ RpAll G F vs l
  | _, _, _, _, .nil, e => by simp at e
  | _, _, 0, _, .cons a b l c d _, e => by
    have e' := Option.some.inj e
    subst e'
    exact ⟨_, _, rfl, c, d⟩
  | _, _, i + 1, _, .cons _ _ _ _ _ r, e => Lots.get (i := i) r e
theorem Lots.app : ∀ {qs : List Addr} {L : List (List D)}, Lots G F H0 H n qs L → ∀ {q : Addr} {l : List D} {vs : List V}, F q = none → H0 q = none → l.length ≤ n → H q = some (.lst vs) → RpAll G F vs l → Lots G F H0 H n (qs ++ [q]) (L ++ [l])
  | _, _, .nil, _, _, _, a, b, c, d, e => .cons a b c d e .nil
  | _, _, .cons a b l c d r, _, _, _, a', b', c', d', e' => .cons a b l c d (r.app a' b' c' d' e')
theorem Lots.rp {F' : Hp} (s : Same F F') : ∀ {qs : List Addr} {L : List (List D)}, Lots G F H0 H n qs L → (∀ q ∈ qs, F' q = H q) → RpAll G F' (qs.map V.ref) (L.map .list)
  | _, _, .nil, _ => .nil
  | _, _, .cons a b l c d r, h => .cons (.lst (.inl (.inl ((h _ List.mem_cons_self).trans c))) (d.mono s)) (r.rp s fun q m => h q (List.mem_cons_of_mem _ m))
end
def sel {α : Type} : List Bool → List α → List α
  | true :: bs, x :: xs => x :: sel bs xs
  | false :: bs, _ :: xs => sel bs xs
  | _, _ => []
theorem sel_take {α : Type} : ∀ {bs : List Bool} {xs : List α} {i : Nat} {b : Bool} {x : α}, bs[i]? = some b → xs[i]? = some x → sel (bs.take (i + 1)) (xs.take (i + 1)) = sel (bs.take i) (xs.take i) ++ if b = true then [x] else []
  | [], _, i, _, _, h, _ => by simp at h
  | _ :: _, [], i, _, _, _, h => by simp at h
  | c :: bs, y :: xs, 0, b, x, h1, h2 => by
    have e1 : c = b := Option.some.inj h1
    have e2 : y = x := Option.some.inj h2
    subst e1 e2
    cases c <;> simp [sel]
  | c :: bs, y :: xs, i + 1, b, x, h1, h2 => by
    have ih := sel_take (bs := bs) (xs := xs) (i := i) (b := b) (x := x) h1 h2
    cases c with
    | true =>
      show y :: sel (bs.take (i + 1)) (xs.take (i + 1)) = y :: sel (bs.take i) (xs.take i) ++ _
      rw [ih]
      rfl
    | false =>
      show sel (bs.take (i + 1)) (xs.take (i + 1)) = sel (bs.take i) (xs.take i) ++ _
      exact ih
theorem flags_len {T : ST} {it : Nat} {env : Env} : ∀ {L : List (List D)} {bs : List Bool}, flags T it env L = some bs → bs.length = L.length
  | [], bs, h => by cases h; rfl
  | l :: L, bs, h => by
    simp only [flags] at h
    obtain ⟨b, _, h⟩ := bind_some h
    obtain ⟨cs, h2, h3⟩ := map_some h
    subst h3
    exact congrArg (· + 1) (flags_len h2)
theorem flags_at {T : ST} {it : Nat} {env : Env} : ∀ {L : List (List D)} {bs : List Bool} {i : Nat} {l : List D}, flags T it env L = some bs → L[i]? = some l → ∃ b, bs[i]? = some b ∧ T ((wipeE env [it]).set it (some (.list l))) = some b
  | [], _, _, _, _, h => by simp at h
  | l :: L, bs, i, l', h, e => by
    simp only [flags] at h
    obtain ⟨b, h1, h⟩ := bind_some h
    obtain ⟨cs, h2, h3⟩ := map_some h
    subst h3
    cases i with
    | zero =>
      have e' := Option.some.inj e
      subst e'
      exact ⟨b, rfl, h1⟩
    | succ i => exact flags_at (i := i) h2 e
theorem first_or {G : Gx} {F H0 H : Hp} {n : Nat} {v : D} : ∀ {qs : List Addr} {L : List (List D)} {bs : List Bool}, Lots G F H0 H n qs L → bs.length = L.length → qs.Nodup →
    (sel bs qs = [] ∧ addTo v bs L = L ++ [[v]]) ∨
    ∃ q r vs l, sel bs qs = q :: r ∧ q ∈ qs ∧ H q = some (.lst vs) ∧ RpAll G F vs l ∧ l.length ≤ n ∧ ∀ (x : V), Rp G F x v → Lots G F H0 (upd H q (.lst (vs ++ [x]))) (n + 1) qs (addTo v bs L)
  | _, _, bs, .nil, _, _ => .inl ⟨by cases bs with
      | nil => rfl
      | cons b bs => cases b <;> rfl, by cases bs with
      | nil => rfl
      | cons b bs => cases b <;> rfl⟩
  | _, _, [], .cons _ _ _ _ _ _, h, _ => by simp at h
  | _, _, true :: bs, .cons (q := q) (qs := qs) (l := l) (L := L) (vs := vs) a b c d e r, h, nd => by
    refine .inr ⟨q, sel bs qs, vs, l, rfl, List.mem_cons_self, d, e, c, fun x hx => ?_⟩
    obtain ⟨nd1, nd2⟩ := List.nodup_cons.mp nd
    refine .cons a b (by rw [List.length_append]; exact Nat.succ_le_succ c) upd_same (e.append (.cons hx .nil)) (r.keep (Nat.le_succ n) fun q' hq' => upd_ne fun z => nd1 (z ▸ hq'))
  | _, _, false :: bs, .cons (q := q) (qs := qs) (l := l) (L := L) (vs := vs) a b c d e r, h, nd => by
    obtain ⟨nd1, nd2⟩ := List.nodup_cons.mp nd
    rcases first_or (v := v) r (by simpa using h) nd2 with ⟨h1, h2⟩ | ⟨q', r', vs', l', h1, h2, h3, h4, h5, h6⟩
    · exact .inl ⟨h1, by show l :: addTo v bs L = _; rw [h2]; rfl⟩
    · exact .inr ⟨q', r', vs', l', h1, List.mem_cons_of_mem _ h2, h3, h4, h5, fun x hx => .cons a b (Nat.le_succ_of_le c) ((upd_ne fun z => nd1 (by rw [z]; exact h2)).trans d) e (h6 x hx)⟩
structure Lo (G : Gx) (F H0 : Hp) (il : Nat) (e0 : Env) (n : Nat) (σ : L2.St) (H : Hp) (L : List (List D)) : Prop where
  s : SOk G [] F H σ e0
  hh : SameN H0 H
  ex : ∃ p qs, σ[il]? = some (some (.ref p)) ∧ H p = some (.lst (qs.map V.ref)) ∧ F p = none ∧ H0 p = none ∧ (p :: qs).Nodup ∧ L.length ≤ n ∧ Lots G F H0 H n qs L
end TL
namespace TL
open PySem PySem.Spec PyProof.Rows L2
theorem SOk.put {G : Gx} {F H : Hp} {σ : L2.St} {env : Env} (s : SOk G [] F H σ env) {i : Nat} {v : V} {d : D} (h : σ[i]? = some (some v)) (r : Rp G F v d) : SOk G [] F H σ (env.set i (some d)) := by
  refine ⟨s.fh, by rw [List.length_set]; exact s.len, fun j e hj n => ?_, (fun i hi => by cases hi), (fun i hi => by cases hi), s.tb⟩
  by_cases ij : i = j
  · subst ij
    have hl : i < env.length := by
      have := (List.getElem?_eq_some_iff.mp hj).1
      rw [List.length_set] at this
      exact this
    rw [List.getElem?_set_self hl] at hj
    cases hj
    exact ⟨v, h, r⟩
  · rw [List.getElem?_set_ne ij] at hj
    exact s.imm j e hj n
theorem sel_sub {α : Type} : ∀ {bs : List Bool} {xs : List α}, (sel bs xs).length ≤ xs.length
  | [], _ => Nat.zero_le _
  | true :: _, [] => Nat.le_refl _
  | false :: _, [] => Nat.le_refl _
  | true :: bs, x :: xs => Nat.succ_le_succ (sel_sub (bs := bs) (xs := xs))
  | false :: bs, x :: xs => Nat.le_succ_of_le (sel_sub (bs := bs) (xs := xs) : (sel bs xs).length ≤ xs.length)
theorem lots_body {K : PySem.W.Frag} {mg : Str → Option Value} {P0 : Program} {w0 : World} {F H0 H : Hp} {il iv im it n : Nat} {e0 : Env} {σ : L2.St} {L : List (List D)} {T : ST} {v : V} {x : D} {bs : List Bool} (lo : Lo ⟨K, mg, P0, w0⟩ F H0 il e0 n σ H L) (rv : Rp ⟨K, mg, P0, w0⟩ F v x)
    (hb : flags T it (e0.set iv (some x)) L = some bs) (hn : n < sizeLine) (hd : il ≠ iv ∧ il ≠ im ∧ il ≠ it ∧ iv ≠ im ∧ iv ≠ it ∧ im ≠ it) (hl : il < σ.length ∧ iv < σ.length ∧ im < σ.length ∧ it < σ.length) (h0 : ∀ j, (j = iv ∨ j = im) → ∀ d, e0[j]? ≠ some (some d))
    {Q : L2.St → Hp → Prop} (hQ : ∀ σ2 H2, Lo ⟨K, mg, P0, w0⟩ F H0 il e0 (n + 1) σ2 H2 (addTo x bs L) → Q σ2 H2) :
    tLc (iList K (tVar il)) (L2.gName it) (rT ⟨K, mg, P0, w0⟩ [] T) (tVar it) [it] (σ.set iv (some v)) H (fun y H1 =>
      rT ⟨K, mg, P0, w0⟩ [] (tV (e2 gtD (e1 lenD (eVar im)) (eC (.int 0)))) ((σ.set iv (some v)).set im (some y)) H1 (fun b H2 =>
        if b = true then tBM K "list" rAppend (tOp (rIxL K) (tVar im) (tC (.int 0))) (tCons (tVar iv) tNil) ((σ.set iv (some v)).set im (some y)) H2 (fun _ H3 => Q ((σ.set iv (some v)).set im (some y)) H3)
        else tBM K "list" rAppend (tVar il) (tCons (tLst (tCons (tVar iv) tNil)) tNil) ((σ.set iv (some v)).set im (some y)) H2 (fun _ H3 => Q ((σ.set iv (some v)).set im (some y)) H3))) := by
  obtain ⟨S, hh, p, qs, hp, hpl, hpF, hp0, nd, hLn, lots⟩ := lo
  obtain ⟨d1, d2, d3, d4, d5, d6⟩ := hd
  obtain ⟨l1, l2, l3, l4⟩ := hl
  have nop : ∀ q ∈ p :: qs, F q = none ∧ H0 q = none ∧ ∃ vs, H q = some (.lst vs) := fun q hq => by
    rcases List.mem_cons.mp hq with rfl | hq
    · exact ⟨hpF, hp0, _, hpl⟩
    · exact lots.no q hq
  let Fc := shut F H (p :: qs)
  have sFc : Same F Fc := shut_ge fun q hq => (nop q hq).1
  have sFH : Same Fc H := shut_le S.fh
  have tbc : TbOk ⟨K, mg, P0, w0⟩ Fc H := S.tb.shut fun q hq => (nop q hq).2.2
  have FcAt : ∀ q ∈ p :: qs, Fc q = H q := fun q hq => shut_in hq
  let σ1 := σ.set iv (some v)
  let e1' := e0.set iv (some x)
  have S1 : SOk ⟨K, mg, P0, w0⟩ [] Fc H σ1 e1' := (S.at_ sFc sFH tbc).set (by simp) (rv.mono sFc)
  have σ1l : σ1[il]? = some (some (.ref p)) := by rw [List.getElem?_set_ne (Ne.symm d1)]; exact hp
  have len1 : σ1.length = σ.length := List.length_set ..
  have bl := flags_len hb
  have ql := lots.len
  refine ⟨.ref p, σ1l, p, rfl, ⟨_, .inl (.inl hpl)⟩, fun D0 hD => lc_list (xs := qs.map V.ref) (fun i H' => ∃ F' accD, LcI ⟨K, mg, P0, w0⟩ Fc H F' H' D0 ((sel (bs.take i) (qs.take i)).map V.ref) accD) ?_ ?_ ?_ ?_⟩
  · refine ⟨Fc, [], ⟨Gr.open_ sFH hD, Same.nn sFH hD, ?_, ?_⟩⟩
    · rw [List.take_zero, List.take_zero]; exact upd_same
    · rw [List.take_zero, List.take_zero]; exact .nil
  · rintro i H' hi ⟨F', accD, lc⟩
    exact .inl (.inl (lc.gr.fh p _ (lc.gr.ff p _ (by rw [FcAt p List.mem_cons_self]; exact hpl))))
  · rintro i y H' hy ⟨F', accD, lc⟩
    obtain ⟨q, hq, rfl⟩ : ∃ q, qs[i]? = some q ∧ y = V.ref q := by
      rw [List.getElem?_map] at hy
      obtain ⟨q, h1, h2⟩ := map_some hy
      exact ⟨q, h1, h2.symm⟩
    obtain ⟨l, vs, hL, hqv, rl⟩ := lots.get hq
    obtain ⟨b, hbi, hT⟩ := flags_at hb hL
    have hqF : F' q = some (.lst vs) := lc.gr.ff q _ (by rw [FcAt q (List.mem_cons_of_mem _ (List.mem_of_getElem? hq))]; exact hqv)
    have Sw := ((S1.gr lc.gr).wipe (vs := [it]) (by simp)).set (i := it) (v := V.ref q) (d := .list l) (by simp) (.lst (.inl (.inl hqF)) (rl.mono (sFc.trans lc.gr.ff)))
    have wl : it < (L2.wipe σ1 [it]).length := by rw [wipe_length, len1]; exact l4
    refine ⟨?_, F', _, b, Sw, hT, fun F3 H3 g3 => ?_⟩
    · show ((L2.wipe σ1 [it]).set it _).set it none = _
      show ((σ1.set it none).set it _).set it none = σ1.set it none
      rw [List.set_set, List.set_set]
    · have lc3 := lc.gr' g3
      have tk := sel_take (xs := qs) hbi hq
      cases b with
      | true =>
        dsimp only
        rw [if_pos rfl]
        refine ⟨.ref q, List.getElem?_set_self wl, _, lc3.at_, ?_, F3, accD ++ [.list l], ?_⟩
        · have a := sel_sub (bs := bs.take i) (xs := qs.take i)
          rw [List.length_take] at a
          rw [List.length_map]
          omega
        · have := lc3.app hD (y := V.ref q) (d := .list l) (.lst (.inl (.inl (g3.ff q _ hqF))) (rl.mono ((sFc.trans lc.gr.ff).trans g3.ff)))
          rw [tk, if_pos rfl, List.map_append]
          exact this
      | false =>
        dsimp only
        rw [if_neg Bool.false_ne_true]
        refine ⟨F3, accD, ?_⟩
        rw [tk, if_neg Bool.false_ne_true, List.append_nil]
        exact lc3
  · rintro H' ⟨F', accD, lc⟩
    rw [List.length_map, List.take_of_length_le (by omega), List.take_length] at lc
    let acc := (sel bs qs).map V.ref
    have lc : LcI ⟨K, mg, P0, w0⟩ Fc H F' H' D0 acc accD := lc
    let σ3 := σ1.set im (some (.ref D0))
    let Fm := upd F' D0 (.lst acc)
    have gm : Gr Fc H Fm H' := lc.gr.close hD lc.fr lc.at_
    have sF'm : Same F' Fm := same_upd lc.fr
    have S3 : SOk ⟨K, mg, P0, w0⟩ [] Fm H' σ3 (e1'.set im (some (.list accD))) := (S1.gr gm).set (by simp) (.lst (.inl (.inl upd_same)) (lc.rp.mono sF'm))
    have l3' : im < e1'.length := by
      have := S1.len
      rw [len1] at this
      omega
    refine ⟨Fm, _, decide (0 < accD.length), S3, ?_, fun F2 H2 g2 => ?_⟩
    · have hg : (e1'.set im (some (.list accD))).getD im none = some (.list accD) := by rw [List.getD_eq_getElem?_getD, List.getElem?_set_self l3']; rfl
      simp only [tV, e2, e1, eVar, eC, hg, Option.bind_some]
      show (lenD (.list accD) |>.bind fun a => gtD a (.int 0)).bind toB = _
      show (some (PyData.bool (decide ((0 : Int) < (accD.length : Nat))))).bind toB = _
      simp only [Option.bind_some, toB]
      congr 1
      exact decide_eq_decide.mpr (by omega)
    have accL : accD.length = (sel bs qs).length := by have := lc.rp.length; rw [List.length_map] at this; exact this.symm
    have g := gm.trans g2
    have hh2 : SameN H0 H2 := hh.trans g.hh
    have sF2 : Same F F2 := sFc.trans g.ff
    have tb2 : TbOk ⟨K, mg, P0, w0⟩ F H2 := ((S1.gr g).tb).sub sF2
    have at2 : ∀ q ∈ p :: qs, H2 q = H q := fun q hq => by
      obtain ⟨_, _, vs, h⟩ := nop q hq
      rw [h]
      exact g.fh q _ (g.ff q _ (by rw [FcAt q hq]; exact h))
    have hD2 : H2 D0 = some (.lst acc) := g2.fh D0 _ (g2.ff D0 _ upd_same)
    have S2 : SOk ⟨K, mg, P0, w0⟩ [] F H2 σ3 e0 := ((S.at_ (Same.refl F) (sF2.trans g.fh) tb2).setN (h0 iv (.inl rfl)) (some v)).setN (h0 im (.inr rfl)) _
    have lots2 : Lots ⟨K, mg, P0, w0⟩ F H0 H2 n qs L := lots.keep (Nat.le_refl n) fun q hq => at2 q (List.mem_cons_of_mem _ hq)
    have hp2 : H2 p = some (.lst (qs.map V.ref)) := (at2 p List.mem_cons_self).trans hpl
    have σ3l : σ3[il]? = some (some (.ref p)) := by rw [List.getElem?_set_ne (Ne.symm d2)]; exact σ1l
    have σ3v : σ3[iv]? = some (some v) := by rw [List.getElem?_set_ne (Ne.symm d4)]; exact List.getElem?_set_self l2
    have σ3m : σ3[im]? = some (some (.ref D0)) := List.getElem?_set_self (by rw [len1]; exact l3)
    obtain ⟨nd1, nd2⟩ := List.nodup_cons.mp nd
    rcases first_or (v := x) lots2 bl nd2 with ⟨hs, ha⟩ | ⟨q, r, vs, l, hs, hq, hv, rl, hll, happ⟩
    · dsimp only
      rw [decide_eq_false (by rw [accL, hs]; exact Nat.lt_irrefl 0), if_neg Bool.false_ne_true]
      refine ⟨.ref p, σ3l, .inl ⟨rfl, _, .inl (.inl hp2)⟩, v, σ3v, (by show 1 ≤ sizeLine; omega), fun N hN => ⟨p, qs.map V.ref, .ref N, rfl, rfl, ?_, ?_, ?_⟩⟩
      · rw [upd_ne (fun z => by rw [z] at hp2; rw [hp2] at hN; cases hN)]; exact hp2
      · rw [List.length_map]; omega
      · refine hQ _ _ ?_
        have pN : p ≠ N := fun z => by rw [z] at hp2; rw [hp2] at hN; cases hN
        have Nq : N ∉ qs := fun m => by
          obtain ⟨_, _, vs, h⟩ := lots2.no N m
          rw [h] at hN; cases hN
        have FN : F N = none := Same.nn (sF2.trans g.fh) hN
        have HN : H0 N = none := hh2.free hN
        let Ha := upd H2 N (.lst [v])
        let Hb := upd Ha p (.lst (qs.map V.ref ++ [.ref N]))
        have sFb : Same F Hb := fun b o e => by
          show upd (upd H2 N (.lst [v])) p (.lst (qs.map V.ref ++ [.ref N])) b = some o
          rw [upd_ne (fun z => by rw [z, hpF] at e; cases e), upd_ne (fun z => by rw [z, FN] at e; cases e)]
          exact (sF2.trans g.fh) b o e
        have tbb : TbOk ⟨K, mg, P0, w0⟩ F Hb := ((tb2.gr (Gr.open_ (sF2.trans g.fh) hN))).upd_ (p := p) (vs := qs.map V.ref) (by rw [upd_ne pN]; exact hp2)
        refine ⟨S2.at_ (Same.refl F) sFb tbb, ?_, p, qs ++ [N], σ3l, ?_, hpF, hp0, ?_, ?_, ?_⟩
        · exact (hh2.trans (.of (same_upd hN))).upd_ hp0
        · rw [List.map_append]; exact upd_same
        · rw [← List.cons_append, List.nodup_append]
          refine ⟨nd, by simp, fun a ha b hb z => ?_⟩
          rw [List.mem_singleton.mp hb] at z
          rcases List.mem_cons.mp ha with e | e
          · exact pN (e.symm.trans z)
          · exact Nq (z ▸ e)
        · rw [ha, List.length_append]; exact Nat.succ_le_succ hLn
        · rw [ha]
          refine (lots2.keep (H' := Hb) (Nat.le_succ n) fun q hq => ?_).app FN HN (by show 1 ≤ n + 1; omega) (vs := [v]) ?_ (.cons rv .nil)
          · show upd (upd H2 N (.lst [v])) p (.lst (qs.map V.ref ++ [.ref N])) q = H2 q
            rw [upd_ne (fun z => nd1 (by rw [← z]; exact hq)), upd_ne (fun z => Nq (by rw [← z]; exact hq))]
          · show upd (upd H2 N (.lst [v])) p (.lst (qs.map V.ref ++ [.ref N])) N = _
            rw [upd_ne (Ne.symm pN)]; exact upd_same
    · dsimp only
      rw [decide_eq_true (by rw [accL, hs]; exact Nat.succ_pos _), if_pos rfl]
      obtain ⟨q1, q2, _⟩ := lots2.no q hq
      refine ⟨.ref D0, σ3m, D0, acc, 0, .ref q, rfl, rfl, .inl (.inl hD2), ?_, .inl ⟨rfl, vs, .inl (.inl hv)⟩, v, σ3v, q, vs, v, rfl, rfl, hv, ?_, hQ _ _ ?_⟩
      · show atI ((sel bs qs).map V.ref) 0 = _
        rw [hs]
        unfold atI ixN
        rw [if_pos (Int.le_refl 0), if_pos (by simp)]
        rfl
      · rw [rl.length]; omega
      · have pq : p ≠ q := fun z => nd1 (z ▸ hq)
        have sFb : Same F (upd H2 q (.lst (vs ++ [v]))) := fun b o e => by
          rw [upd_ne (fun z => by rw [z, q1] at e; cases e)]
          exact (sF2.trans g.fh) b o e
        refine ⟨S2.at_ (Same.refl F) sFb (tb2.upd_ hv), hh2.upd_ q2, p, qs, σ3l, by rw [upd_ne pq]; exact hp2, hpF, hp0, nd, ?_, happ v rv⟩
        have := (happ v rv).len
        have := lots2.len
        omega
section
variable {X : Cx} {R : RK} {Ob : List Nat} {il iv im it : Nat} {vN : Str} {iter c2 : Expr} {fi : SI} {T : ST} {st1 a1 a2 : Stmt} {pos pv pif : Pos}
theorem clr4_at {env : TL.Env} {j : Nat} {d : D} (h : (clr4 env il iv im it)[j]? = some (some d)) : env[j]? = some (some d) ∧ j ≠ il ∧ j ≠ iv ∧ j ≠ im ∧ j ≠ it := by
  have one : ∀ {e : TL.Env} {i : Nat}, (e.set i none)[j]? = some (some d) → e[j]? = some (some d) ∧ j ≠ i := fun {e i} h => by
    by_cases ij : i = j
    · subst ij
      rw [List.getElem?_set] at h
      simp only [if_true] at h
      split at h <;> cases h
    · rw [List.getElem?_set_ne ij] at h
      exact ⟨h, fun z => ij z.symm⟩
  obtain ⟨h, n4⟩ := one h
  obtain ⟨h, n3⟩ := one h
  obtain ⟨h, n2⟩ := one h
  obtain ⟨h, n1⟩ := one h
  exact ⟨h, n1, n2, n3, n4⟩
theorem clr4_len {env : TL.Env} : (clr4 env il iv im it).length = env.length := by
  unfold clr4
  rw [List.length_set, List.length_set, List.length_set, List.length_set]
theorem slots (hp : PassesOwn (model X.prog X.w) X.A X.env X.xe) (hc : X.calm = true) (hi : PI X (.Name vN pv) iter (iV (gx X) [il] fi)) (hg : PG X (.Name vN pv) (L2.gName iv))
    (h1 : PS X st1 (tAsg (tLc (iList X.K (tVar il)) (L2.gName it) (rT (gx X) [] T) (tVar it) [it]) (L2.gName im)))
    (h2 : PT X c2 (rT (gx X) [] (tV (e2 gtD (e1 lenD (eVar im)) (eC (.int 0))))))
    (h3 : PS X a1 (tDrop (tBM X.K "list" rAppend (tOp (rIxL X.K) (tVar im) (tC (.int 0))) (tCons (tVar iv) tNil))))
    (h4 : PS X a2 (tDrop (tBM X.K "list" rAppend (tVar il) (tCons (tLst (tCons (tVar iv) tNil)) tNil))))
    (hd : il ≠ iv ∧ il ≠ im ∧ il ≠ it ∧ iv ≠ im ∧ iv ≠ it ∧ im ≠ it := by decide) (hl : il < X.N.length ∧ iv < X.N.length ∧ im < X.N.length ∧ it < X.N.length := by exact ⟨Nat.le_of_ble_eq_true rfl, Nat.le_of_ble_eq_true rfl, Nat.le_of_ble_eq_true rfl, Nat.le_of_ble_eq_true rfl⟩)
    (hs : ∀ x, foldedSetIterable iter X.env x = pure x := by intro _; rfl) :
    PS X (.For (.Name vN pv) iter [st1, .If c2 [a1] [a2] pif] [] pos) (sV (gx X) R [il] [] Ob (sLots il iv im it fi T)) :=
  (ps_ln (ps_for hp hc hi hg (pss_cons h1 (pss_one (ps_if h2 (pss_one h3) (pss_one h4)))) hs)).imp fun D σ H ⟨F0, H0, F, env, out, hs, hf, ho, q⟩ hln => by
    simp only [sLots] at ho
    obtain ⟨p, kk, vs0, ds0, e1, e2, e3, e4, e5, e6⟩ := hs.own il (List.mem_singleton.mpr rfl)
    have hn0 := hf.own il (List.mem_singleton.mpr rfl) p e1
    rw [show env.getD il none = some (kD kk ds0) by rw [List.getD_eq_getElem?_getD, e2]; rfl] at ho
    cases kk with
    | dct o ks => cases ho
    | dki o ks => cases ho
    | lst =>
    cases ds0 with
    | cons a b => cases ho
    | nil =>
    simp only [kD] at ho
    obtain ⟨ds, hit, ho⟩ := bind_some ho
    obtain ⟨Lf, hgo, ho⟩ := map_some ho
    subst ho
    cases e5
    refine ⟨F, env, ds, hs, hit, fun J F1 H1 g1 hz hJ => ?_⟩
    have hs1 := hs.gr g1
    have gr1 := hf.gr.trans g1
    have sl : σ.length = env.length := hs.len.symm
    have start : Lo (gx X) F1 H0 il (clr4 env il iv im it) 0 σ H1 [] := ⟨hs1.hide clr4_len fun j d hj => by
        obtain ⟨a, b, _⟩ := clr4_at hj
        exact ⟨a, fun m => b (List.mem_singleton.mp m)⟩, gr1.hh, p, [], e1, g1.hh.l e4, g1.hid p _ e4 e3, hn0, List.nodup_cons.mpr ⟨by simp, List.nodup_nil⟩, Nat.le_refl _, .nil⟩
    refine ⟨fun i m σ' H' => ∃ L, Lo (gx X) F1 H0 il (clr4 env il iv im it) i σ' H' L ∧ i ≤ ds.length ∧ m = ds.length - i ∧ lotsGo T iv it (clr4 env il iv im it) (ds.drop i) L = some Lf,
      ⟨ds.length, [], start, Nat.zero_le _, by omega, hgo⟩, ?_⟩
    rintro i m σ' H' ⟨L, lo, hi', rfl, hgo⟩
    have hJ' := hJ i F1 H' (Same.refl F1) lo.s.fh
    cases hdi : ds[i]? with
    | none =>
      have hi2 : ds.length ≤ i := List.getElem?_eq_none_iff.mp hdi
      rw [List.drop_eq_nil_of_le hi2] at hgo
      cases hgo
      obtain ⟨S, hh, p', qs, hp1, hp2, hp3, hp4, nd, _, lots⟩ := lo
      have nop : ∀ b ∈ p' :: qs, F1 b = none ∧ H0 b = none ∧ ∃ vs, H' b = some (.lst vs) := fun b hb => by
        rcases List.mem_cons.mp hb with rfl | hb
        · exact ⟨hp3, hp4, _, hp2⟩
        · exact lots.no b hb
      have sa : Same F1 (shut F1 H' (p' :: qs)) := shut_ge fun b hb => (nop b hb).1
      have sb : Same (shut F1 H' (p' :: qs)) H' := shut_le S.fh
      refine .inl ⟨hJ'.2 hdi, q σ' (shut F1 H' (p' :: qs)) H' ?_ ⟨⟨gr1.ff.trans sa, hh, sb, fun b o e n => ?_⟩, fun j hj => by cases hj⟩ (g1.ff.trans sa)⟩
      · refine (S.at_ sa sb (S.tb.shut fun b hb => (nop b hb).2.2)).put hp1 (.lst (.inl (.inl ?_)) (lots.rp sa fun b hb => shut_in (List.mem_cons_of_mem _ hb)))
        rw [shut_in List.mem_cons_self]
        exact hp2
      · rw [shut_out fun hb => by rw [(nop b hb).2.1] at e; cases e]
        exact gr1.hid b o e n
    | some x =>
      have hi2 : i < ds.length := (List.getElem?_eq_some_iff.mp hdi).1
      have hx : ds[i] = x := (List.getElem?_eq_some_iff.mp hdi).2
      rw [show ds.drop i = x :: ds.drop (i + 1) by rw [List.drop_eq_getElem_cons hi2, hx]] at hgo
      simp only [lotsGo] at hgo
      obtain ⟨bs, hb, hgo⟩ := bind_some hgo
      refine .inr ⟨(hJ'.1 x hdi).1, fun σ2 H2 => ∃ L2, Lo (gx X) F1 H0 il (clr4 env il iv im it) (i + 1) σ2 H2 L2 ∧ lotsGo T iv it (clr4 env il iv im it) (ds.drop (i + 1)) L2 = some Lf, fun σ2 H2 h => ?_, fun v H2 hy => ?_⟩
      · obtain ⟨L2, l2, g2⟩ := h
        exact ⟨ds.length - (i + 1), by omega, L2, l2, hi2, rfl, g2⟩
      · obtain ⟨rfl, rv⟩ := (hJ'.1 x hdi).2 v H2 hy
        have sl' : σ'.length = X.N.length := by
          have := lo.s.len
          rw [clr4_len] at this
          omega
        exact lots_body lo rv hb (by omega) hd (by rw [sl']; exact hl) (fun j hj d e => by
          obtain ⟨_, a, b, c, f⟩ := clr4_at e
          rcases hj with rfl | rfl
          · exact b rfl
          · exact c rfl) (Q := fun σ2 H2 => ∃ L2, Lo (gx X) F1 H0 il (clr4 env il iv im it) (i + 1) σ2 H2 L2 ∧ lotsGo T iv it (clr4 env il iv im it) (ds.drop (i + 1)) L2 = some Lf) fun σ2 H2 l2 => ⟨_, l2, hgo⟩
end
end TL

set_option Elab.async false
set_option linter.all false
set_option maxRecDepth 100000
namespace TL
open PySem PySem.Spec PyProof.Rows L2
def keyI : D → Option Int
  | .int i => some i
  | _ => none
def dgetI : List (D × D) → Int → Option D
  | [], _ => none
  | (.int j, b) :: r, i => if j = i then some b else dgetI r i
  | _ :: r, i => dgetI r i
def dputI : List (D × D) → Int → D → List (D × D)
  | [], i, vd => [(.int i, vd)]
  | (.int j, b) :: r, i, vd => if j = i then (.int j, vd) :: r else (.int j, b) :: dputI r i vd
  | x :: r, i, vd => x :: dputI r i vd
def prsI : D → Option (List (D × D))
  | .dict ((.tuple [], .none) :: kvs) => some kvs
  | _ => none
def mkI (kvs : List (D × D)) : D := .dict ((.tuple [], .none) :: kvs)
@[simp] def sSetI (i : Nat) (fk fv : SE) : SS := fun env => (fv env).bind fun y => (fk env).bind fun kd => (keyI kd).bind fun k => match (env.getD i none).bind prsI with
  | some kvs => if Nat.ble kvs.length 1000000 = true then some (.nx (env.set i (some (mkI (dputI kvs k y))))) else none
  | none => none
@[simp] def eOneI (fk fv : SE) : SE := fun env => (fk env).bind fun kd => (keyI kd).bind fun k => (fv env).map fun y => mkI [(.int k, y)]
inductive AlI (G : Gx) (F : Hp) : List Int → List V → List D → Prop
  | nil : AlI G F [] [] []
  | cons {k : Int} {v : V} {vd : D} {ks : List Int} {vs : List V} {ds : List D} : Rp G F v vd → AlI G F ks vs ds → AlI G F (k :: ks) (.int k :: v :: vs) (.int k :: vd :: ds)
section
variable {G : Gx} {F F' : Hp}
theorem AlI.of : ∀ {ks : List Int} {vs : List V} {ds : List D}, RpAll G F vs ds → keysD ds = ks.map .int → ds.length = 2 * ks.length → AlI G F ks vs ds
  | [], vs, ds, r, _, hl => by
    have : ds = [] := List.eq_nil_of_length_eq_zero (by simpa using hl)
    subst this
    cases r
    exact .nil
  | k :: ks, vs, ds, r, hk, hl => by
    match ds, r, hk, hl with
    | [], _, _, hl => simp at hl
    | [_], _, _, hl => simp at hl; omega
    | a :: b :: ds, .cons ra (.cons rb r), hk, hl =>
      simp only [keysD, List.map_cons] at hk
      injection hk with h1 h2
      subst h1
      have rest := AlI.of r h2 (by simp only [List.length_cons] at hl ⊢; omega)
      cases ra with
      | int _ => exact .cons rb rest
theorem AlI.rp {ks : List Int} {vs : List V} {ds : List D} (h : AlI G F ks vs ds) : RpAll G F vs ds ∧ keysD ds = ks.map .int ∧ ds.length = 2 * ks.length := by
  induction h with
  | nil => exact ⟨.nil, rfl, rfl⟩
  | cons h1 _ ih =>
    obtain ⟨i1, i2, i3⟩ := ih
    exact ⟨.cons (.int _) (.cons h1 i1), by simp only [keysD, List.map_cons, i2], by simp only [List.length_cons, i3]; omega⟩
theorem AlI.at_ {ks : List Int} {vs : List V} {ds : List D} (h : AlI G F ks vs ds) (k : Int) : (dgetI (prsD ds) k = none ∧ valV (entsI vs) (.inl k) = none) ∨ ∃ vd v, dgetI (prsD ds) k = some vd ∧ valV (entsI vs) (.inl k) = some v ∧ Rp G F v vd := by
  induction h with
  | nil => exact .inl ⟨rfl, rfl⟩
  | @cons k' v vd ks vs ds h1 _ ih =>
    simp only [prsD, dgetI, entsI]
    by_cases hk : k' = k
    · subst hk
      rw [if_pos rfl]
      exact .inr ⟨vd, v, rfl, valV_pos rfl, h1⟩
    · rw [if_neg hk, valV_neg (p := ((.inl k' : Key), v)) (fun z => hk (Sum.inl.inj z))]
      exact ih
theorem AlI.len {ks : List Int} {vs : List V} {ds : List D} (h : AlI G F ks vs ds) : (entsI vs).length = ks.length := by
  induction h with
  | nil => rfl
  | cons _ _ ih => simp only [entsI, List.length_cons, ih]
theorem AlI.keys {ks : List Int} {vs : List V} {ds : List D} (h : AlI G F ks vs ds) : (entsI vs).map (·.1) = ks.map .inl := by
  induction h with
  | nil => rfl
  | cons _ _ ih => simp only [entsI, List.map_cons, ih]
theorem putK_cons_eq {k : Key} {v v' : V} {r : List (Key × V)} (h : k ∉ r.map (·.1)) : putK ((k, v) :: r) k v' = (k, v') :: r := by
  unfold putK
  rw [if_pos (by simp)]
  rw [List.map_cons, if_pos rfl]
  congr 1
  induction r with
  | nil => rfl
  | cons x r ih =>
    rw [List.map_cons, List.mem_cons, not_or] at h
    rw [List.map_cons, if_neg (fun z => h.1 z.symm), ih h.2]
theorem putK_cons_ne {k k' : Key} {v v' : V} {r : List (Key × V)} (h : k' ≠ k) : putK ((k', v) :: r) k v' = (k', v) :: putK r k v' := by
  unfold putK
  rw [List.any_cons, decide_eq_false h, Bool.false_or]
  split
  · rw [List.map_cons, if_neg h]
  · rfl
theorem AlI.put {ks : List Int} {vs : List V} {ds : List D} (h : AlI G F ks vs ds) (nd : ks.Nodup) {k : Int} {v : V} {vd : D} (rv : Rp G F v vd) :
    ∃ ks' vs' ds', AlI G F ks' vs' ds' ∧ prsD ds' = dputI (prsD ds) k vd ∧ entsI vs' = putK (entsI vs) (.inl k) v ∧ ks'.Nodup ∧ ks'.length ≤ ks.length + 1 ∧ ∀ z ∈ ks', z = k ∨ z ∈ ks := by
  induction h with
  | nil => exact ⟨[k], [.int k, v], [.int k, vd], .cons rv .nil, rfl, rfl, by simp, by simp, fun z hz => .inl (List.mem_singleton.mp hz)⟩
  | @cons k' v' vd' ks vs ds h1 h4 ih =>
    obtain ⟨n1, n2⟩ := List.nodup_cons.mp nd
    by_cases e : k' = k
    · subst e
      refine ⟨k' :: ks, .int k' :: v :: vs, .int k' :: vd :: ds, .cons rv h4, ?_, ?_, nd, by simp, fun z hz => .inr hz⟩
      · simp only [prsD, dputI, if_true]
      · simp only [entsI]
        rw [putK_cons_eq (by rw [h4.keys]; intro hm; obtain ⟨z, hz, e⟩ := List.mem_map.mp hm; exact n1 (Sum.inl.inj e ▸ hz))]
    · obtain ⟨ks', vs', ds', i1, i2, i3, i4, i5, i6⟩ := ih n2
      refine ⟨k' :: ks', .int k' :: v' :: vs', .int k' :: vd' :: ds', .cons h1 i1, ?_, ?_, List.nodup_cons.mpr ⟨fun hm => ?_, i4⟩, by simp only [List.length_cons]; omega, fun z hz => ?_⟩
      · simp only [prsD, dputI]
        rw [if_neg e, i2]
      · simp only [entsI]
        rw [i3, putK_cons_ne (fun z => e (Sum.inl.inj z))]
      · rcases i6 k' hm with z | z
        · exact e z
        · exact n1 z
      · rcases List.mem_cons.mp hz with rfl | hz
        · exact .inr List.mem_cons_self
        · rcases i6 z hz with z' | z'
          · exact .inl z'
          · exact .inr (List.mem_cons_of_mem _ z')
variable {H : Hp}
end
section
variable {X : Cx} {O : List Nat} {F H : Hp}
variable {a b c : Expr} {fa fb fc : SE} {pos p2 apos : Pos}
end
section
variable {X : Cx} {R : RK} {O Ob : List Nat} {ei ev : Expr} {fi fv : SE} {p1 pos pos' : Pos} {x : Str}
end
def keysF : D → Option (List D)
  | .dict ((.none, .bool true) :: kvs) => some (kvs.map (·.1))
  | .dict ((.tuple [], .bool true) :: kvs) => some (kvs.map (·.1))
  | _ => none
@[simp] def iKeysF (f : SE) : SI := fun env => (f env).bind keysF
section
variable {X : Cx} {pins : List (Addr × Obj)} {σ : L2.St} {H : Hp} {s : Shared} {d : Addr} {o : Obj}
end
section
variable {P : Program} {w : World} {K : PySem.W.Frag} {tg : Expr} {d : Addr} {o : Obj} {es : Array DictEntry} {ep : Nat}
end
section
variable {X : Cx} {O : List Nat} {tg a : Expr} {fa : SE} {td : TE}
end
mutual
/-- no dict, no def, no range within -/
def noD : D → Bool
  | .dict _ => false
  | .list ds => noDs ds
  | .tuple ds => noDs ds
  | .none => true
  | .bool _ => true
  | .int _ => true
  | .str _ => true
def noDs : List D → Bool
  | [] => true
  | d :: r => noD d && noDs r
end
def frzT : D → Option D
  | .dict ((.none, .none) :: kvs) => some (.dict ((.none, .bool true) :: kvs))
  | .dict ((.tuple [], .none) :: kvs) => some (.dict ((.tuple [], .bool true) :: kvs))
  | _ => none
@[simp] def eFrz (i : Nat) (f : SE) : SE := fun env => ((env.getD i none).bind frzT).bind fun t => (f (env.set i (some t))).bind fun d => if noD d = true then some d else none
section
variable {G : Gx} {F : Hp} {p : Addr} {u : HO}
end
section
variable {X : Cx} {O O' : List Nat} {e : Expr} {f : SE}
end
@[simp] def sPopA (i j : Nat) (a : SE) : SS := fun env => match env.getD j none with
  | some (.list es) => (a env).bind fun y => (toI y).bind fun k => (popD es k).bind fun z => some (.nx ((env.set j (some (.list z.2))).set i (some z.1)))
  | _ => none
section
variable {X : Cx} {R : RK} {O Ob : List Nat} {e : Expr} {pos : Pos} {f : SE}
end
end TL

set_option Elab.async false
set_option linter.all false
set_option maxRecDepth 100000
namespace TL
open PySem PySem.Spec PyProof.Rows L2
section
variable {X : Cx} {pins : List (Addr × Obj)} {s : Shared} {σ : L2.St} {F H : Hp}
end
end TL

set_option Elab.async false
set_option linter.all false
set_option maxRecDepth 100000
namespace TL
open PySem PySem.Spec PyProof.Rows L2
section
variable {prog : Program} {w : World} {A : Around} {E : Value → Shared → Prop} {s : Shared}
end
section
variable {X : Cx} {R : RK} {O Ob : List Nat} {pos : Pos}
end
end TL

set_option Elab.async false
set_option linter.all false
set_option maxRecDepth 100000
namespace TL
open PySem PySem.Spec PyProof.Rows L2
def cutSD (lo hi : Option Int) : D → Option D
  | .str z => if z.length ≤ sizeLine then some (.str (cutS z lo hi)) else none
  | _ => none
def signsD : D → Option (List D)
  | .str z => if z.length ≤ sizeLine then some (z.cps.toList.map fun c => .str ⟨#[c]⟩) else none
  | _ => none
@[simp] def eSliceS (a : SE) (lo hi : Option SE) : SE := fun env => (a env).bind fun x => (ePart lo env).bind fun l => (ePart hi env).bind fun h => cutSD l h x
@[simp] def iSigns (a : SE) : SI := fun env => (a env).bind signsD
section
variable {X : Cx} {O : List Nat} {a b : Expr} {fa fb : SE} {pos p2 : Pos}
end
section
variable {X : Cx} {O : List Nat} {a tg : Expr} {fa : SE}
end
end TL

set_option Elab.async false
set_option linter.all false
set_option maxRecDepth 100000
namespace TL
open PySem PySem.Spec PyProof.Rows L2
def remL (d : D) (ds : List D) : Option (List D) := if SeqAt.shaped (.list ds) = true ∧ SeqAt.shaped d = true then (placeD d ds 0).map fun j => ds.eraseIdx j else none
@[simp] def sRem (i : Nat) (a : SE) : SS := fun env => (a env).bind fun y => match env.getD i none with
  | some (.list ds) => (remL y ds).map fun es => .nx (env.set i (some (.list es)))
  | _ => none
theorem RpAll.erase {G : Gx} {F : Hp} : ∀ {ds : List D} {vs : List V} (j : Nat), RpAll G F vs ds → RpAll G F (vs.eraseIdx j) (ds.eraseIdx j)
  | _, _, _, .nil => .nil
  | _, _, 0, .cons _ t => t
  | _, _, j + 1, .cons h t => .cons h (RpAll.erase j t)
section
variable {X : Cx} {R : RK} {O Ob : List Nat} {pos : Pos}
end
end TL

set_option Elab.async false
set_option linter.all false
set_option maxRecDepth 100000
namespace TL
open PySem PySem.Spec PyProof.Rows L2
section
variable {X : Cx} {O : List Nat}
end
end TL

set_option Elab.async false
set_option linter.all false
set_option maxRecDepth 100000
namespace TL
open PySem PySem.Spec PyProof.Rows L2
section
variable {X : Cx} {O : List Nat}
end
section
variable {P : Program} {w : World} {G : Gx} {base : Heap}
end
section
variable {X : Cx} {O : List Nat}
@[simp] def eCallDD (m : List D → Option D) (l : List SE) : SE := fun env => (eArgs l env).bind fun ds => m (ds ++ [.tuple [], .tuple []])
end
end TL

set_option Elab.async false
set_option linter.all false
set_option maxRecDepth 100000
namespace TL
open PySem PySem.Spec PyProof.Rows L2
section
variable {X : Cx} {O : List Nat}
end
end TL
namespace TL
open PySem PySem.Spec PyProof.Rows L2
section
variable {X : Cx} {O : List Nat} {pos : Pos}
end
end TL

set_option Elab.async false
set_option linter.all false
set_option maxRecDepth 100000
namespace TL
open PySem PySem.Spec PyProof.Rows L2
section
variable {X : Cx} {O : List Nat} {k n : Nat} {fx : Str} {fa : Addr} {fd : FuncData} {ps : List Str} {m : List D → Option D} {e : Expr} {es : List Expr} {l : List SE} {p p2 : Pos}
variable {fps : List Str} {f0 : List D → Option D}
end
end TL

set_option Elab.async false
set_option linter.all false
set_option maxRecDepth 100000
namespace TL
open PySem PySem.Spec PyProof.Rows L2
section
variable {prog : Program} {w : World} {A : Around} {E : Value → Shared → Prop} {s : Shared} {l : Addr} {xs : Array (Int × Tok)}
end
section
variable {prog : Program} {w : World} {A : Around} {E : Value → Shared → Prop} {s : Shared}
end
section
variable {X : Cx} {O : List Nat}
end
end TL

set_option Elab.async false
set_option linter.all false
set_option maxRecDepth 100000
namespace TL
open PySem PySem.Spec PyProof.Rows L2
section
variable {P : Program} {w : World} {A : Around} {E : Value → Shared → Prop} {s : Shared}
def Few (ks : List (Addr × List Int)) : Prop := ∀ L : List (Addr × List Int), (L.map (·.2)).Nodup → (∀ p ∈ L, p ∈ ks) → L.length + 1 < 64
theorem set_loop_few {I : Addr} {fp wr : List Addr} {G : Array GenState → Array GenState → Prop} {n : Nat} {Pv : Nat → Value → Prop} {St : Nat → Shared → Prop} {R : Result → Shared → Prop}
    (W : WalksS P w A.in1 I fp wr G n Pv St) (S : Addr) (hSf : S ∉ fp) (ks : List (Addr × List Int)) (hn : n = ks.length) (few : Few ks) (hval : ∀ i v, Pv i v → ∃ p, ks[i]? = some p ∧ v = .ref p.1)
    (h0 : Heap) (hk : ∀ p ∈ ks, IsT P w h0 p.2 p.1) (hS0 : h0.get? S = none) (hw0 : ∀ b ∈ wr, h0.get? b = none) (hu : A.in1.units < cLine) :
    ∀ (m i : Nat) (s : Shared), n - i = m → i ≤ n → St i s → (∀ b o, h0.get? b = some o → s.heap.get? b = some o) → (∃ L es ep t, SetTR P w s.heap S L es ep t ∧ Got ks i L) →
      (∀ s' L es ep t, Moved (S :: wr) G s s' → SetTR P w s'.heap S L es ep t → Got ks n L → (∀ b o, h0.get? b = some o → s'.heap.get? b = some o) → R (.ok (.ret .none)) s') →
      codeAny (model P w) A (.builtin "set.update.loop" ⟨[.ref S, .ref I], []⟩) R s := by
  have out : S ∉ wr := fun h => hSf (W.sub _ h)
  have up : ∀ b ∈ wr, b ∈ S :: wr := fun b hb => List.mem_cons_of_mem _ hb
  have old : ∀ {s s' : Shared}, Moved wr G s s' → (∀ b o, h0.get? b = some o → s.heap.get? b = some o) → ∀ b o, h0.get? b = some o → s'.heap.get? b = some o := fun hm kp b o e =>
    hm.heap b o (fun hb => by rw [hw0 b hb] at e; cases e) (kp b o e)
  have part : ∀ {i : Nat} {L : List (Addr × List Int)}, Got ks i L → ∀ p ∈ L, p ∈ ks := fun g p hp => List.mem_of_mem_take (g.sub p hp)
  intro m
  induction m with
  | zero =>
    rintro i s hm hi st kp ⟨L, es, ep, t, T, g⟩ hR
    obtain rfl : i = n := by omega
    refine codeAny_builtin F.entry_set_update_loop ?_
    rw [Around.under_plainId F.plain_set_update_loop _]
    show wpAny _ A.in1 (pyNext (.ref I) >>= _) _ _ s
    refine wpAny_bind (W.done s _ _ st fun s' mv => ?_)
    show wpAny _ A.in1 (ret Value.none) _ _ s'
    exact wpAny_pure (hR s' L es ep t (mv.mono up) (T.keep (fun o e => mv.heap S o out e) fun p hp => isT_keep (hk p (part g p hp)) (old mv kp)) g (old mv kp))
  | succ m ih =>
    rintro i s hm hi st kp ⟨L, es, ep, t, T, g⟩ hR
    have hlt : i < n := by omega
    refine codeAny_builtin F.entry_set_update_loop ?_
    rw [Around.under_plainId F.plain_set_update_loop _]
    show wpAny _ A.in1 (pyNext (.ref I) >>= _) _ _ s
    refine wpAny_bind (W.item i s _ _ hlt st fun v s' hP st' mv => ?_)
    obtain ⟨p, hp, rfl⟩ := hval i v hP
    have kp' := old mv kp
    have T' : SetTR P w s'.heap S L es ep t := T.keep (fun o e => mv.heap S o out e) fun q hq => isT_keep (hk q (part g q hq)) kp'
    have hx : IsT P w s'.heap p.2 p.1 := isT_keep (hk p (List.mem_of_getElem? hp)) kp'
    show wpAny _ A.in1 (holding [Value.ref p.1] (setAdd S (.ref p.1)) >>= _) _ _ s'
    refine wpAny_bind (wpAny_holding ?_)
    unfold setAdd
    refine wpAny_holding ?_
    refine wpAny_bind (wpAny_pyHash_tuple hu hx ?_)
    refine add_at (s := { s' with toks := s'.toks + (p.2.length + 1) }) T' hx hu (few L T.nd (part g)) fun b h' L' es' ep' t' sb T2 c1 c2 => ?_
    have g' : Got ks (i + 1) L' := (Classical.em (p.2 ∈ L.map (·.2))).elim (fun c => by rw [c1 c]; exact g.same hp c) fun c => g.more hp (c2 c)
    have kp2 : ∀ b o, h0.get? b = some o → h'.get? b = some o := fun b o e => (sb.2 b (fun z => by rw [z, hS0] at e; cases e)).trans (kp' b o e)
    refine wpAny_pure ⟨plainId_quiet F.plain_set_update_loop _, ih (i + 1) _ (by omega) hlt (W.frame _ s' _ _ st' (Nat.le_add_right _ _) fun b hb o e => (sb.2 b (fun h : b = S => hSf (by rw [← h]; exact hb))).trans e) kp2 ⟨L', es', ep', t', T2, g'⟩ fun s'' L2 es2 ep2 t2 mv2 T3 g2 kp3 => ?_⟩
    exact hR s'' L2 es2 ep2 t2 (Moved.trans W.gtrans ((mv.mono up).then_heap (Nat.le_add_right _ _) fun b o hb e => (sb.2 b (fun h : b = S => hb (by rw [h]; exact List.mem_cons_self))).trans e) mv2) T3 g2 kp3
set_option maxHeartbeats 3200000 in
theorem call_set_few {l : Addr} {items : Array Value} (ks : List (Addr × List Int)) {Q : Value → Shared → Prop} (hh : A.handled = none) (hl : s.heap.IsList l items) (hit : items.toList = ks.map fun p => Value.ref p.1)
    (hk : ∀ p ∈ ks, IsT P w s.heap p.2 p.1) (few : Few ks) (hu : A.units + 3 < cLine)
    (h : ∀ (h' : Heap) (tk : Nat) L es ep t, SetTR P w h' s.heap.objs.size L es ep t → Got ks ks.length L → (∀ b o, s.heap.get? b = some o → h'.get? b = some o) → Q (.ref s.heap.objs.size) { s with heap := h', toks := tk }) :
    wpAny (model P w) A (call (.type "set") [.ref l]) Q E s := by
  have hisz : items.size = ks.length := by
    have q := congrArg List.length hit
    rwa [Array.length_toList, List.length_map] at q
  obtain ⟨c, tl, hmro⟩ := F.called_set.mro
  have hmade := F.called_set.made
  have hsub := F.called_set.sub
  refine wpAny_call (codeAny_of_tree ?_)
  show wpAny _ _ (callAny (.type "set") _) _ _ _
  refine wpAny_pure ⟨Code.quiet_builtin _ (by decide +kernel), codeAny_builtin F.entry_type_call ?_⟩
  rw [Around.under_plain (weight_type_call_type "set" [.ref l] []) rfl]
  have h1 := F.called_set.notType
  have h2 := F.called_set.canCreate
  have hct := F.typeCall_set_1 (.ref l)
  repeat (any_goals (first | assumption | wp_step))
  let new : Obj := { cls := .type "set", dict := none, data := .set #[] 0 (.fresh 0 0 (!w.params.followText "set-order")) }
  refine codeAny_mono (code_set_led1 (.ref l) (E := E) (Q₁ := fun obj s₁ => obj = .ref s.heap.objs.size ∧ s₁ = { s with heap := s.heap.push new }) ⟨rfl, rfl⟩) fun r s₁ hr => ?_
  cases r with
  | error e => exact hr
  | ok fl =>
    cases fl with
    | ret obj =>
      obtain ⟨rfl, rfl⟩ := hr
      have hS : (s.heap.push new).get? s.heap.objs.size = some new := Heap.get?_push_size _ rfl
      have hT : Shared.TypeIs { s with heap := s.heap.push new } (.ref s.heap.objs.size) "set" := ⟨_, hS, rfl⟩
      have hli := F.called_set.init.lookup
      have hbi := F.called_set.init.bind (.ref s.heap.objs.size)
      repeat (any_goals (first | assumption | wp_step))
      refine codeAny_mono (codeAny_call_builtin (R := wants (fun r s₂ => r = .none ∧ ∃ h' tk L es ep t, s₂ = { s with heap := h', toks := tk } ∧ SetTR P w h' s.heap.objs.size L es ep t ∧ Got ks ks.length L ∧
          (∀ b o, s.heap.get? b = some o → h'.get? b = some o)) E) F.called_set.init.plain F.entry_set_init (check_set_init_1 hT ?_)) fun r₂ s₂ hr₂ => ?_
      · obtain ⟨ol, hol, hcl, nl, hdl⟩ := hl
        obtain ⟨ocls, odict, odata, oslots⟩ := ol
        simp only at hcl hdl
        subst hcl; subst hdl
        have hol' : (s.heap.push new).get? l = some { cls := .type "list", dict := odict, data := .seq items nl, slots := oslots } := Heap.get?_push_of_some _ hol
        have hsls := F.sub_list_set
        have hslf := F.sub_list_frozenset
        have hne : (Value.type "list" == Value.type "dict") = false := by decide
        have hl1 : (s.heap.push new).IsList l items := ⟨_, hol', rfl, nl, rfl⟩
        unfold Builtin.«set.__init__» noKeywords Builtin.Frozenset.updateFrom
        generalize hPI : pyIter = PI
        wp_walk
        subst hPI
        refine wpAny_pyIter_list hl1 ?_
        refine wpAny_bind (wpAny_runValue ?_)
        have hlS : l < s.heap.objs.size := Heap.lt_size hol
        have hh3 : A.in1.in1.in1.handled = none := by simp [hh]
        have hz1 : (s.heap.push new).objs.size = s.heap.objs.size + 1 := Heap.size_push ..
        have hneI : l ≠ (s.heap.push new).objs.size := by
          rw [Heap.size_push]; exact Nat.ne_of_lt (Nat.lt_succ_of_lt hlS)
        have hSf : s.heap.objs.size ∉ [(s.heap.push new).objs.size, l] := by
          rw [Heap.size_push]; simp only [List.mem_cons, List.mem_singleton, List.not_mem_nil, or_false, not_or]
          exact ⟨Nat.ne_of_lt (Nat.lt_succ_self _), Nat.ne_of_gt hlS⟩
        have hval : ∀ (i : Nat) (v : Value), items[i]? = some v → ∃ p, ks[i]? = some p ∧ v = .ref p.1 := fun i v hv => by
          have q : items.toList[i]? = some v := by rw [Array.getElem?_toList]; exact hv
          rw [hit, List.getElem?_map] at q
          obtain ⟨p, hp, e⟩ := Option.map_eq_some_iff.mp q
          exact ⟨p, hp, e.symm⟩
        have none_of : ∀ b, s.heap.objs.size ≤ b → s.heap.get? b = none := fun b hb => Heap.get?_none_of_le hb
        refine set_loop_few ((Walks.list hh3 _ l hneI items).toS) s.heap.objs.size
          hSf ks hisz few hval s.heap hk (none_of _ (Nat.le_refl _)) (fun b hb => none_of b (by
            rw [List.mem_singleton.mp hb, Heap.size_push]
            exact Nat.le_succ _)) hu (items.size - 0) 0 _ (by omega) (Nat.zero_le _)
          ⟨⟨_, Heap.get?_push_size _ rfl, rfl, rfl⟩, (hl1.push _)⟩ (fun b o e => Heap.get?_push_of_some _ (Heap.get?_push_of_some _ e)) ?hS0 ?hR
        case hS0 => exact ⟨[], #[], 0, _, setTR_fresh (Heap.get?_push_of_some _ hS), Got.zero ks⟩
        case hR =>
          intro s' L es ep t hm hS' g' hkp
          obtain ⟨h', g2, d', tk', os'⟩ := s'
          have eg : g2 = s.gens := hm.gens
          have ed : d' = s.drawn := hm.drawn
          have eo : os' = s.os := hm.os
          subst eg; subst ed; subst eo
          show wpAny _ _ _ _ _ _
          refine wpAny_pure ?_
          show wpAny _ _ (ret Value.none) _ _ _
          rw [hisz] at g'
          exact wpAny_pure ⟨rfl, h', tk', L, es, ep, t, rfl, hS', g', hkp⟩
      · cases r₂ with
        | error e => exact hr₂
        | ok fl₂ =>
          cases fl₂ with
          | ret r =>
            obtain ⟨rfl, h', tk, L, es, ep, t, rfl, hS', g', hk'⟩ := hr₂
            repeat (any_goals (first | assumption | wp_step))
            exact h _ _ _ _ _ _ hS' g' hk'
          | _ => exact hr₂.elim
    | _ => exact hr.elim
theorem sorted_one {a : Addr} {q : Addr × List Int} {es : Array (Int × Value)} {ep : Nat} {t : SetTable} {Q : Value → Shared → Prop} (R : SetTR P w s.heap a [q] es ep t) (hh : A.handled = none)
    (hQ : ∀ s' p (out : Array Value) (c : Nat), (∀ b o, s.heap.get? b = some o → s'.heap.get? b = some o) → s'.gens = s.gens → s'.os = s.os → s.heap.objs.size ≤ p →
      s'.heap.get? p = some (seqObj "list" out c) → out.toList = [Value.ref q.1] → Q (.ref p) s') :
    wpAny (model P w) A (call (.builtin "sorted") [.ref a]) Q E s := by
  obtain ⟨o, ho, hex, hd⟩ := R.ob
  have hsz := R.size
  refine Calls.call_function_entry kind_sorted plain_sorted entry_sorted (args_sorted1 _) ?_
  unfold Builtin.«sorted»
  refine wpAny_bind (m := checkCount "sorted" 1 1 _) (wpAny_pure ?_)
  refine wpAny_bind (collect_set (A := A.in1) hh ⟨o, ho, hex.1, hd⟩ R.fits (by unfold scanBound; rw [hsz]; show 1 < 4096; decide) R.tab.ris R.led fun s1 vs k1 hz g1 o1 pm => ?_)
  have hes : es.toList.map (·.2) = [Value.ref q.1] := by
    rw [R.rows]
    rfl
  rw [hes] at pm
  have hvs : vs = [Value.ref q.1] := List.perm_singleton.mp pm
  subst hvs
  refine wpAny_bind (wpAny_newList ?_ (by rw [sizeLine_eq]; show 1 ≤ 16777216; decide))
  have hoL : (s1.heap.push (seqObj "list" [Value.ref q.1].toArray 0)).get? s1.heap.objs.size = some (seqObj "list" [Value.ref q.1].toArray 0) := Heap.get?_push_size _ rfl
  refine wpAny_bind (wpAny_holding (wpAny_call_entry slot_list_sort ⟨_, hoL, rfl⟩ entry_list_sort (SK.plain_sort (s := { s1 with heap := s1.heap.push (seqObj "list" [Value.ref q.1].toArray 0) }) (r := fun _ => 0) hoL (by show 1 < 64; decide) (fun h2 => absurd (show 2 ≤ 1 from h2) (by decide)) fun ps out e1 e2 _ => ⟨_, rfl, ?_⟩) (args_list_sort _)))
  have hps : ps = [(Value.ref q.1, Value.ref q.1)] := List.perm_singleton.mp e2
  subst hps
  obtain ⟨c, hc⟩ := sortedHeap_at (vs := [Value.ref q.1]) (out := out) hoL
  refine wpAny_pure ⟨_, rfl, hQ _ s1.heap.objs.size out c (fun b u e => ?_) g1 o1 hz hc e1⟩
  have z := k1 b u e
  have hlt := Heap.lt_size z
  show (sortedHeap (s1.heap.push (seqObj "list" [Value.ref q.1].toArray 0)) s1.heap.objs.size [Value.ref q.1] out).get? b = some u
  rw [sortedHeap_old (Nat.ne_of_lt hlt) (by rw [size_push']; exact Nat.lt_succ_of_lt hlt)]
  exact Heap.get?_push_of_some _ z
end
end TL

set_option Elab.async false
set_option linter.all false
set_option maxRecDepth 100000
namespace TL
open PySem PySem.Spec PyProof.Rows L2
def okTM (ts : List (List Int)) : Bool := Nat.blt ((ddL ts).length + 1) 64 && ts.all fun t => decide (t.length = (ts.headD []).length) && t.all fun x => decide (0 ≤ x) && decide (x < 64)
def sortSetMD : D → Option D
  | .list ds => (tupsOf ds).bind fun ts => if okTM ts = true then some (.list ((isort ltLI (ddL ts)).map tupI)) else none
  | _ => none
section
variable {X : Cx}
def rSetOfM (K : PySem.W.Frag) (P : Program) (w : World) : List V → Hp → VK → Prop := fun xs H Q => ∃ (l : Addr) (ks : List (Addr × List Int)), xs = [V.ref l] ∧ SqL K H l (ks.map fun p => V.ref p.1) ∧ (∀ p ∈ ks, SqT K H p.1 (p.2.map V.int)) ∧ Few ks ∧
  ∀ a L, H a = none → (∀ p ∈ L, p ∈ ks) → (∀ p ∈ ks, p.2 ∈ L.map (·.2)) → (L.map (·.2)).Nodup → Q (.ref a) (upd H a (SetTO P w a L))
theorem cr_setOfM (hc : X.calm = true) (hu : X.A.units + 64 < cLine) : CallR X (.type "set") (rSetOfM X.K X.prog X.w) := by
  intro pins s σ H xs us Q I r h
  obtain ⟨l, ks, rfl, hl, hk, hf, q⟩ := h
  rw [Vals.ref1 r]
  obtain ⟨its, rv, pl, hz⟩ := I.list hl
  have hn : H s.heap.objs.size = none := I.hok.fresh (Nat.le_refl _)
  refine call_set_few (P := X.prog) (w := X.w) ks (I.ok.hd hc) pl.isList (by simpa using refs_of_vals rv) (fun p hp => I.isT (hk p hp)) hf (by omega) fun h' tk L es ep t R g k => ?_
  refine ⟨.ref s.heap.objs.size, upd H s.heap.objs.size (SetTO X.prog X.w s.heap.objs.size L), I.laid (t' := tk) k (Nat.le_refl _) (setTO_new R.t0), rfl, q _ L hn (fun p hp => ?_) (fun p hp => ?_) R.nd⟩
  · exact List.mem_of_mem_take (g.sub p hp)
  · exact g.all p (by rw [List.take_length]; exact hp)
def rSortedM (K : PySem.W.Frag) (P : Program) (w : World) : List V → Hp → VK → Prop := fun vs H Q => ∃ (a : Addr) (L : List (Addr × List Int)) (d : Nat) (B : Int), vs = [V.ref a] ∧ H a = some (SetTO P w a L) ∧ (∀ p ∈ L, SqT K H p.1 (p.2.map V.int)) ∧ (1 ≤ d ∨ ∃ q, L = [q]) ∧
  (∀ p ∈ L, p.2.length = d ∧ TS.Bd B p.2) ∧
  ∀ (L' : List (Addr × List Int)) (p : Addr), L'.Perm L → (L'.map (·.2)).Nodup → L'.length < 64 → L'.Pairwise (fun q r => TS.code B q.2 ≤ TS.code B r.2) → H p = none → Q (.ref p) (upd H p (.lst (L'.map fun q => V.ref q.1)))
theorem cr_sortedM (hc : X.calm = true) : CallR X (.builtin "sorted") (rSortedM X.K X.prog X.w) := by
  intro pins s σ H vs us Q I r h
  obtain ⟨a, L, d, B, hv, ha, hk, hd, hB, q⟩ := h
  rcases hd with hd | ⟨z, rfl⟩
  · exact cr_sortedT hc pins s σ H vs us Q I r ⟨a, L, d, B, hv, ha, hk, hd, hB, q⟩
  · subst hv
    have R0 : SetT0 X.prog X.w s.heap a [z] := (I.hok a _ ha).1
    obtain ⟨es, ep, t, R⟩ := R0.full fun p hp => I.isT (hk p hp)
    rw [Vals.ref1 r]
    refine sorted_one R (I.ok.hd hc) fun s' p out c k g o hp hg hout => ?_
    have hlen : ([z].map fun q => V.ref q.1).length ≤ sizeLine := by rw [sizeLine_eq]; show 1 ≤ 16777216; decide
    have hn : H p = none := I.hok.fresh hp
    have hv : Vals ([z].map fun q => V.ref q.1) out.toList := by rw [hout]; exact vals_of_refs [z]
    have J : Inv X pins σ (upd H p (.lst ([z].map fun q => V.ref q.1))) { s with heap := s'.heap, gens := s'.gens, drawn := s'.drawn, toks := s'.toks } :=
      I.call (ch := []) (Un.laid k hp hn) (I.hok.laid k hp ⟨hlen, out.toList, c, hv, hg⟩) (by rw [g]; exact I.bare) (fun _ z => nomatch z)
    have e : s' = { s with heap := s'.heap, gens := s'.gens, drawn := s'.drawn, toks := s'.toks } := by
      cases s'
      cases s
      cases o
      rfl
    rw [e]
    exact ⟨.ref p, _, J, rfl, q [z] p (List.Perm.refl _) (List.pairwise_singleton _ _) (by show 1 < 64; decide) (List.pairwise_singleton _ _) hn⟩
end
theorem len_dd {ts : List (List Int)} {L : List (List Int)} (nd : L.Nodup) (h : ∀ t ∈ L, t ∈ ts) : L.length ≤ (ddL ts).length := nodup_leM nd fun t ht => ddL_mem.mpr (h t ht)
section
variable {X : Cx} {O : List Nat}
theorem esortsetM {e : Expr} {f : SE} {p p2 pos pos2 : Pos} (hu : X.A.units + 64 < cLine) (hc : X.calm = true) (hg : Gl X "sorted") (hm : X.mg "sorted" = none) (hg2 : Gl X "set") (hm2 : X.mg "set" = none) (he : PE X e (rV (gx X) O f))
    (hs : starEach [e] X.env = (false, eval e X.env) :: starEach [] X.env := by rfl) (hs2 : starEach [.Call (.Name "set" p2) [e] [] pos2] X.env = (false, eval (.Call (.Name "set" p2) [e] [] pos2) X.env) :: starEach [] X.env := by rfl) :
    PE X (.Call (.Name "sorted" p) [.Call (.Name "set" p2) [e] [] pos2] [] pos) (rN (gx X) O (e1 sortSetMD f)) :=
  (pe_callB (cr_sortedM hc) hg hm (by decide +kernel) (pa_cons (pe_callTy (cr_setOfM hc hu) hg2 hm2 (by decide +kernel) (pa_cons he pa_nil hs) (by decide) (by decide) hs rfl) pa_nil hs2) (by decide) (by decide) hs2 rfl).imp fun σ H Q ⟨F, env, d, hs, hf, q⟩ => by
    obtain ⟨x, h1, h3⟩ := split1 hf
    refine ⟨F, env, x, hs, h1, fun v F1 H1 g1 r1 => ?_⟩
    cases x with
    | list ds =>
      simp only [sortSetMD] at h3
      obtain ⟨ts, h4, h5⟩ := bind_some h3
      split at h5
      · rename_i ok
        cases h5
        simp only [okTM, Bool.and_eq_true, Nat.blt_eq, List.all_eq_true, decide_eq_true_eq] at ok
        obtain ⟨ok1, ok2⟩ := ok
        cases r1 with
        | lst sq ra =>
          obtain ⟨ks, k1, k2, k3⟩ := tups_ks ra h4
          subst k1
          have kt : ∀ p ∈ ks, p.2 ∈ ts := fun p hp => by rw [← k2]; exact List.mem_map_of_mem hp
          have few : Few ks := fun L nd hs => by
            have := len_dd (ts := ts) nd fun t ht => by
              obtain ⟨p, hp, rfl⟩ := List.mem_map.mp ht
              exact kt p (hs p hp)
            rw [List.length_map] at this
            omega
          refine ⟨_, ks, rfl, g1.fh.seq sq, fun p hp => sameT g1.fh (k3 p hp).1, few, fun a L ha hsub hall ndL => ?_⟩
          have one : (1 ≤ (ts.headD []).length ∨ ∃ q, L = [q]) ∨ L = [] := by
            cases hz : (ts.headD []).length with
            | succ n => exact .inl (.inl (by omega))
            | zero =>
              cases L with
              | nil => exact .inr rfl
              | cons q L =>
                cases L with
                | nil => exact .inl (.inr ⟨q, rfl⟩)
                | cons r L =>
                  have e : ∀ p ∈ q :: r :: L, p.2 = [] := fun p hp => List.eq_nil_of_length_eq_zero (by rw [(ok2 _ (kt p (hsub p hp))).1]; exact hz)
                  have h1 := e q List.mem_cons_self
                  have h2 := e r (List.mem_cons_of_mem _ List.mem_cons_self)
                  rw [List.map_cons, List.map_cons, h1, h2] at ndL
                  exact absurd List.mem_cons_self (List.nodup_cons.mp ndL).1
          obtain ⟨d, hd, hlen⟩ : ∃ d, (1 ≤ d ∨ ∃ q, L = [q]) ∧ ∀ p ∈ L, p.2.length = d := by
            rcases one with h | h
            · exact ⟨_, h, fun p hp => (ok2 _ (kt p (hsub p hp))).1⟩
            · exact ⟨1, .inl (Nat.le_refl _), fun p hp => by rw [h] at hp; cases hp⟩
          refine ⟨a, L, d, 64, rfl, upd_same, fun p hp => ?_, hd, fun p hp => ⟨hlen p hp, fun m hm => (ok2 _ (kt p (hsub p hp))).2 m hm⟩, fun L' p' pm nd fw pw hp' => ?_⟩
          · exact sameT (g1.fh.trans (same_upd ha)) (k3 p (hsub p hp)).1
          · have inks : ∀ q ∈ L', q ∈ ks := fun q hq => hsub q (pm.mem_iff.mp hq)
            have okq : ∀ q ∈ L', q.2.length = (ts.headD []).length ∧ TS.Bd 64 q.2 := fun q hq => by
              have := ok2 _ (kt q (inks q hq))
              exact ⟨this.1, fun m hm => this.2 m hm⟩
            have e : L'.map (·.2) = isort ltLI (ddL ts) := by
              refine asc_uniq swoLI.2 ?_ ?_ (isort_asc swoLI.1 _)
              · refine List.Perm.trans ?_ (isort_perm _).symm
                refine (List.perm_ext_iff_of_nodup nd (ddL_nodup ts)).mpr fun t => ?_
                rw [ddL_mem]
                constructor
                · intro h
                  obtain ⟨q, hq, rfl⟩ := List.mem_map.mp h
                  exact kt q (inks q hq)
                · intro h
                  rw [← k2] at h
                  obtain ⟨q, hq, rfl⟩ := List.mem_map.mp h
                  exact (pm.map (·.2)).mem_iff.mpr (hall q hq)
              · refine List.pairwise_map.mpr (List.Pairwise.imp_of_mem (fun {q r} hq hr hle => ?_) pw)
                cases hlt : ltLI r.2 q.2 with
                | false => rfl
                | true =>
                  have a1 := okq q hq
                  have a2 := okq r hr
                  have := code_lex (B := 64) (by rw [a1.1, a2.1]) a2.2 a1.2 hlt
                  omega
            have ga := Gr.open_ (o := SetTO X.prog X.w a L) g1.fh ha
            have gb := Gr.open_ (o := HO.lst (L'.map fun q => V.ref q.1)) ga.fh hp'
            have hF : F1 p' = none := Same.nn ga.fh hp'
            have rp : ∀ l : List (Addr × List Int), (∀ q ∈ l, q ∈ ks) → RpAll (gx X) F1 (l.map fun q => V.ref q.1) ((l.map (·.2)).map tupI) := fun l => by
              induction l with
              | nil => exact fun _ => .nil
              | cons q l ih => exact fun h => .cons (k3 q (h q List.mem_cons_self)).2 (ih fun r hr => h r (List.mem_cons_of_mem _ hr))
            have hH : H p' = none := (g1.trans ga).hh.free hp'
            have rr := rp L' inks
            rw [e] at rr
            exact q p' .lst _ _ F1 _ (g1.trans (ga.trans gb)) hH hF upd_same rr trivial rfl
      · cases h5
    | _ => cases h3
end
end TL

set_option linter.all false
set_option maxRecDepth 100000
namespace LB
open PySem TL
def m__law_cell : List D → Option D := runF 2 0 ((sSeq (sIf (tV (e2 ltD (eVar 1) (e1 lenD (eVar 0))))
      (sRet (e2 ixD (eVar 0) (eVar 1)))
      sNext)
      (sRet (eC (.int 0)))))
def m__law_draws : List D → Option D := runF 2 4 ((sSeq (sAsg (eLst []) (TL.gName 2))
      (sSeq (sAsg (eVar 0) (TL.gName 3))
      (sSeq (sFor (iRng1 (eVar 1)) (TL.gName 4)
      (sIf (TL.tAnd (tV (e2 geD (eVar 0) (e2 powD (eC (.int 10)) (eC (.int 18))))) (tV (e2 gtD (eVar 3) (eC (.int 0)))))
      (sSeq (sApp 2 (e2 modD (e1 intD (eVar 3)) (eC (.int 4096))))
      (sAsg (e2 fdivD (eVar 3) (eC (.int 4096))) (TL.gName 3)))
      (sSeq (sAsg (e2 modD (e1 intD (e2 addD (e2 mulD (eVar 0) (eC (.int 48271))) (e2 mulD (e2 addD (eVar 4) (eC (.int 1))) (eC (.int 69621))))) (eC (.int 2147483647))) (TL.gName 5))
      (sSeq (sAsg (e2 modD (e1 intD (e2 addD (e2 addD (e2 mulD (eVar 5) (eVar 5)) (e2 mulD (eVar 5) (eC (.int 16807)))) (e2 mulD (eVar 4) (eC (.int 7919))))) (eC (.int 2147483629))) (TL.gName 5))
      (sSeq (sAsg (e2 modD (e1 intD (e2 addD (e2 addD (e2 mulD (eVar 5) (eVar 5)) (eVar 0)) (e2 mulD (eC (.int 13)) (eVar 4)))) (eC (.int 2147483587))) (TL.gName 5))
      (sApp 2 (e2 modD (e2 fdivD (eVar 5) (eC (.int 7))) (eC (.int 4096)))))))))
      (sRet (eVar 2))))))
def m__law_line : List D → Option D := runF 1 3 ((sSeq (sAsg (eTup []) (TL.gName 1))
      (sSeq (sFor (iRng1 (eVar 0)) (TL.gName 2)
      (sAsg (e2 addD (eVar 1) (e1 tupleD (eLc [3] (iRng2 (e2 addD (eVar 2) (eC (.int 1))) (eVar 0)) (TL.gName 3) cYes (eTup [(eVar 2), (eVar 3)])))) (TL.gName 1)))
      (sRet (eTup [(eVar 0), (eTup [(eTup []), (eTup [])]), (eVar 1)])))))
def m__law_ring : List D → Option D := runF 1 1 ((sRet (eTup [(eVar 0), (eTup [(eTup []), (eTup [])]), (e1 tupleD (e1 sortedD (eLc [1] (iRng1 (eVar 0)) (TL.gName 1) cYes (eTup [(eVar 1), (e2 modD (e2 addD (eVar 1) (eC (.int 1))) (eVar 0))]))))])))
def m__law_both_ways : List D → Option D := runF 2 3 ((sRet (eTup [(eVar 0), (eTup [(eTup []), (eTup [])]), (e1 tupleD (e1 sortedD (e2 addD (eLc [2] (iSeq (eVar 1)) (TL.gName 2) cYes (eVar 2)) (eLc [3, 4] (iSeq (eVar 1)) (TL.gTup [(TL.gName 3), (TL.gName 4)]) cYes (eTup [(eVar 4), (eVar 3)])))))])))
def m__law_special : List D → Option D := runF 1 1 ((sSeq (sAsg (eLst [(eCall m__law_line [(eC (.int 3))]), (eCall m__law_line [(eC (.int 4))]), (eCall m__law_ring [(eC (.int 3))]), (eCall m__law_ring [(eC (.int 4))]), (eTup [(eC (.int 2)), (eTup [(eTup []), (eTup [])]), (eTup [])]), (eTup [(eC (.int 3)), (eTup [(eTup []), (eTup [])]), (eTup [])]), (eTup [(eC (.int 4)), (eTup [(eTup []), (eTup [])]), (eTup [])])]) (TL.gName 1))
      (sSeq (sAsg (e2 addD (eVar 1) (eLst [(eCall m__law_both_ways [(eC (.int 4)), (eTup [(eTup [(eC (.int 0)), (eC (.int 1))]), (eTup [(eC (.int 1)), (eC (.int 2))]), (eTup [(eC (.int 2)), (eC (.int 3))])])]), (eCall m__law_both_ways [(eC (.int 4)), (eTup [(eTup [(eC (.int 0)), (eC (.int 1))]), (eTup [(eC (.int 1)), (eC (.int 2))]), (eTup [(eC (.int 2)), (eC (.int 3))]), (eTup [(eC (.int 0)), (eC (.int 3))])])]), (eCall m__law_both_ways [(eC (.int 3)), (eTup [(eTup [(eC (.int 0)), (eC (.int 1))]), (eTup [(eC (.int 1)), (eC (.int 2))]), (eTup [(eC (.int 0)), (eC (.int 2))])])])])) (TL.gName 1))
      (sRet (e2 ixD (eVar 1) (e2 modD (eVar 0) (e1 lenD (eVar 1))))))))
def m__law_world : List D → Option D := runF 2 9 ((sSeq (sAsg (e2 addD (eC (.int 1)) (e2 modD (e1 intD (e2 ixD (eVar 0) (eC (.int 0)))) (eVar 1))) (TL.gName 2))
      (sSeq (sIf (TL.tAnd (tV (e2 eqD (e2 modD (e2 ixD (eVar 0) (eC (.int 1))) (eC (.int 6))) (eC (.int 1)))) (tV (e2 leD (e2 ixD (eCall m__law_special [(e1 intD (e2 ixD (eVar 0) (eC (.int 2))))]) (eC (.int 0))) (eVar 1))))
      (sRet (eCall m__law_special [(e1 intD (e2 ixD (eVar 0) (eC (.int 2))))]))
      sNext)
      (sSeq (sAsg (e2 ixD (eLst [(eC (.int 2)), (eC (.int 3)), (eC (.int 5)), (eC (.int 3))]) (e2 modD (e2 fdivD (e1 intD (e2 ixD (eVar 0) (eC (.int 1)))) (eC (.int 6))) (eC (.int 4)))) (TL.gName 3))
      (sSeq (sAsg (e2 ixD (eLst [(eC (.int 2)), (eC (.int 9999)), (eC (.int 3)), (eC (.int 9999))]) (e2 modD (e2 fdivD (e1 intD (e2 ixD (eVar 0) (eC (.int 1)))) (eC (.int 24))) (eC (.int 4)))) (TL.gName 4))
      (sSeq (sAsg (eTup []) (TL.gName 5))
      (sSeq (sFor (iRng1 (eC (.int 2))) (TL.gName 6)
      (sAsg (e2 addD (eVar 5) (eTup [(e1 tupleD (eLc [9] (iRng1 (eVar 2)) (TL.gName 9) (tV (e2 eqD (e2 modD (e2 fdivD (e1 intD (e2 ixD (eVar 0) (e2 addD (eC (.int 3)) (eVar 9)))) (e2 addD (eC (.int 1)) (eVar 6))) (eVar 4)) (eC (.int 0)))) (eVar 9)))])) (TL.gName 5)))
      (sSeq (sAsg (eLst []) (TL.gName 7))
      (sSeq (sAsg (eC (.int 11)) (TL.gName 8))
      (sSeq (sFor (iRng1 (eVar 2)) (TL.gName 9)
      (sFor (iRng1 (eVar 2)) (TL.gName 10)
      (sSeq (sIf (tV (e2 eqD (e2 modD (e2 fdivD (e1 intD (e2 ixD (eVar 0) (e2 modD (eVar 8) (e1 lenD (eVar 0))))) (e2 addD (eC (.int 1)) (e2 fdivD (eVar 8) (e1 lenD (eVar 0))))) (eVar 3)) (eC (.int 0))))
      (sApp 7 (eTup [(eVar 9), (eVar 10)]))
      sNext)
      (sAsg (e2 addD (eVar 8) (eC (.int 1))) (TL.gName 8)))))
      (sSeq (sIf (tV (e2 eqD (e2 modD (e2 ixD (eVar 0) (eC (.int 2))) (eC (.int 5))) (eC (.int 1))))
      (sSeq (sAsg (e2 addLD (eVar 7) (eLc [9, 10] (iSeq (eVar 7)) (TL.gTup [(TL.gName 9), (TL.gName 10)]) (tV (e2 ninD (eTup [(eVar 10), (eVar 9)]) (eVar 7))) (eTup [(eVar 10), (eVar 9)]))) (TL.gName 7))
      (sAsg (eLc [9, 10] (iSeq (eVar 7)) (TL.gTup [(TL.gName 9), (TL.gName 10)]) (tV (e2 neD (eVar 9) (eVar 10))) (eTup [(eVar 9), (eVar 10)])) (TL.gName 7)))
      sNext)
      (sRet (eTup [(eVar 2), (eVar 5), (e1 tupleD (e1 sortedD (eVar 7)))])))))))))))))
def m__law_kind : List D → Option D := runF 1 0 ((sSeq (sIf (tV (e1 (isiD .bool) (eVar 0)))
      (sRet (eC (.int 1)))
      sNext)
      (sSeq (sIf (tV (e1 (isiD .int) (eVar 0)))
      (sRet (eC (.int 2)))
      sNext)
      (sSeq (sIf (tV (e1 (isiD .str) (eVar 0)))
      (sRet (eC (.int 3)))
      sNext)
      (sSeq (sIf (tV (e1 (isiD .tuple) (eVar 0)))
      (sRet (eC (.int 4)))
      sNext)
      (sSeq (sIf (tV (e1 (isiD .list) (eVar 0)))
      (sRet (eC (.int 5)))
      sNext)
      (sSeq (sIf (tV (e1 (isiD .dict) (eVar 0)))
      (sRet (eC (.int 6)))
      sNext)
      (sRet (eC (.int 0))))))))))
def m__law_equal : Nat → List D → Option D
  | 0 => fun _ => none
  | n + 1 => runF 2 3 ((sSeq (sIf (tV (e2 neD (eCall m__law_kind [(eVar 0)]) (eCall m__law_kind [(eVar 1)])))
      (sRet (eC (.bool false)))
      sNext)
      (sSeq (sIf (TL.tOr (tV (e1 (isiD .tuple) (eVar 1))) (tV (e1 (isiD .list) (eVar 1))))
      (sSeq (sIf (tV (e2 neD (e1 lenD (eVar 0)) (e1 lenD (eVar 1))))
      (sRet (eC (.bool false)))
      sNext)
      (sRet (e2 eqD (e1 lenD (eLc [3] (iRng1 (e1 lenD (eVar 1))) (TL.gName 3) (TL.tNot (tV (eCall (m__law_equal n) [(e2 ixD (eVar 0) (eVar 3)), (e2 ixD (eVar 1) (eVar 3))]))) (eVar 3))) (eC (.int 0)))))
      sNext)
      (sSeq (sIf (tV (e1 (isiD .dict) (eVar 1)))
      (sSeq (sIf (tV (e2 neD (e1 lenD (eVar 0)) (e1 lenD (eVar 1))))
      (sRet (eC (.bool false)))
      sNext)
      (sSeq (sFor (iSeq (eVar 0)) (TL.gName 2)
      (sSeq (sIf (TL.tOr (tV (e2 ninD (eVar 2) (eVar 1))) (TL.tNot (tV (eCall (m__law_equal n) [(e2 ixD (eVar 0) (eVar 2)), (e2 ixD (eVar 1) (eVar 2))]))))
      (sRet (eC (.bool false)))
      sNext)
      (sIf (tV (e2 eqD (e1 lenD (eLc [4] (iSeq (eVar 1)) (TL.gName 4) (TL.tAnd (tV (e2 eqD (eVar 4) (eVar 2))) (tV (eCall (m__law_equal n) [(eVar 2), (eVar 4)]))) (eVar 4))) (eC (.int 0))))
      (sRet (eC (.bool false)))
      sNext)))
      (sRet (eC (.bool true)))))
      sNext)
      (sRet (e2 eqD (eVar 0) (eVar 1)))))))
def m__law_inner : List D → Option D := runF 1 1 ((sSeq (sAsg (e2 ixD (eVar 0) (eC (.int 0))) (TL.gName 1))
      (sSeq (sIf (tV (e2 inD (eVar 1) (eTup [(eC (.str "and")), (eC (.str "or"))])))
      (sRet (e2 ixD (eVar 0) (eC (.int 1))))
      sNext)
      (sSeq (sIf (tV (e2 eqD (eVar 1) (eC (.str "not"))))
      (sRet (eSlice (eVar 0) (some (eC (.int 1))) none))
      sNext)
      (sSeq (sIf (tV (e2 inD (eVar 1) (eTup [(eC (.str "some")), (eC (.str "all"))])))
      (sRet (eSlice (eVar 0) (some (eC (.int 2))) none))
      sNext)
      (sSeq (sIf (tV (e2 eqD (eVar 1) (eC (.str "least"))))
      (sRet (eSlice (eVar 0) (some (eC (.int 3))) none))
      sNext)
      (sRet (eTup []))))))))
def m__law_bound : List D → Option D := runF 1 0 ((sSeq (sIf (tV (e2 inD (e2 ixD (eVar 0) (eC (.int 0))) (eTup [(eC (.str "some")), (eC (.str "all"))])))
      (sRet (eLst [(e2 ixD (eVar 0) (eC (.int 1)))]))
      sNext)
      (sSeq (sIf (tV (e2 eqD (e2 ixD (eVar 0) (eC (.int 0))) (eC (.str "least"))))
      (sRet (eLst [(e2 ixD (eVar 0) (eC (.int 2)))]))
      sNext)
      (sRet (eLst [])))))
def m__law_truth : Nat → List D → Option D
  | 0 => fun _ => none
  | n + 1 => runF 3 6 ((sSeq (sAsg (e2 ixD (eVar 1) (eC (.int 0))) (TL.gName 3))
      (sSeq (sIf (tV (e2 eqD (eVar 3) (eC (.str "same"))))
      (sRet (e2 eqD (e2 ixD (eVar 2) (e2 ixD (eVar 1) (eC (.int 1)))) (e2 ixD (eVar 2) (e2 ixD (eVar 1) (eC (.int 2))))))
      sNext)
      (sSeq (sIf (tV (e2 eqD (eVar 3) (eC (.str "mark"))))
      (sRet (e2 inD (e2 ixD (eVar 2) (e2 ixD (eVar 1) (eC (.int 2)))) (e2 ixD (e2 ixD (eVar 0) (eC (.int 1))) (e2 ixD (eVar 1) (eC (.int 1))))))
      sNext)
      (sSeq (sIf (tV (e2 eqD (eVar 3) (eC (.str "arrow"))))
      (sRet (e2 inD (eTup [(e2 ixD (eVar 2) (e2 ixD (eVar 1) (eC (.int 1)))), (e2 ixD (eVar 2) (e2 ixD (eVar 1) (eC (.int 2))))]) (e2 ixD (eVar 0) (eC (.int 2)))))
      sNext)
      (sSeq (sIf (tV (e2 eqD (eVar 3) (eC (.str "not"))))
      (sRet (eNot (eCall (m__law_truth n) [(eVar 0), (e2 ixD (eVar 1) (eC (.int 1))), (eVar 2)])))
      sNext)
      (sSeq (sIf (tV (e2 eqD (eVar 3) (eC (.str "and"))))
      (sSeq (sFor (iSeq (e2 ixD (eVar 1) (eC (.int 1)))) (TL.gName 8)
      (sIf (TL.tNot (tV (eCall (m__law_truth n) [(eVar 0), (eVar 8), (eVar 2)])))
      (sRet (eC (.bool false)))
      sNext))
      (sRet (eC (.bool true))))
      sNext)
      (sSeq (sIf (tV (e2 eqD (eVar 3) (eC (.str "or"))))
      (sSeq (sFor (iSeq (e2 ixD (eVar 1) (eC (.int 1)))) (TL.gName 8)
      (sIf (tV (eCall (m__law_truth n) [(eVar 0), (eVar 8), (eVar 2)]))
      (sRet (eC (.bool true)))
      sNext))
      (sRet (eC (.bool false))))
      sNext)
      (sSeq (sIf (tV (e2 inD (eVar 3) (eTup [(eC (.str "true")), (eC (.str "false"))])))
      (sRet (e2 eqD (eVar 3) (eC (.str "true"))))
      sNext)
      (sSeq (sAsg (e2 ixD (eCall m__law_bound [(eVar 1)]) (eC (.int 0))) (TL.gName 4))
      (sSeq (sAsg (eC (.int 1)) (TL.gName 5))
      (sSeq (sIf (tV (e2 eqD (eVar 3) (eC (.str "least"))))
      (sAsg (e2 ixD (eVar 1) (eC (.int 1))) (TL.gName 5))
      sNext)
      (sSeq (sAsg (eC (.int 0)) (TL.gName 6))
      (sSeq (sFor (iRng1 (e2 ixD (eVar 0) (eC (.int 0)))) (TL.gName 7)
      (sIf (TL.tOr (tV (e2 eqD (eVar 3) (eC (.str "all")))) (tV (e2 ltD (eVar 6) (eVar 5))))
      (sIf (tV (eCall (m__law_truth n) [(eVar 0), (e2 ixD (eVar 1) (e1 negD (eC (.int 1)))), (e2 addD (e2 addD (eSlice (eVar 2) none (some (eVar 4))) (eTup [(eVar 7)])) (eSlice (eVar 2) (some (e2 addD (eVar 4) (eC (.int 1)))) none))]))
      (sAsg (e2 addD (eVar 6) (eC (.int 1))) (TL.gName 6))
      (sIf (tV (e2 eqD (eVar 3) (eC (.str "all"))))
      (sRet (eC (.bool false)))
      sNext))
      sNext))
      (sRet (eOr (e2 eqD (eVar 3) (eC (.str "all"))) (e2 geD (eVar 6) (eVar 5))))))))))))))))))
def m_tuples_of : List D → Option D := runF 2 4 ((sSeq (sAsg (eLst [(eTup [])]) (TL.gName 2))
      (sSeq (sFor (iRng1 (eVar 1)) (TL.gName 3)
      (sAsg (eLc2 [4, 5] (iSeq (eVar 2)) (TL.gName 4) cYes [5] (iRng1 (eVar 0)) (TL.gName 5) cYes (e2 addD (eVar 4) (eTup [(eVar 5)]))) (TL.gName 2)))
      (sRet (eVar 2)))))
def m__law_tuples : List D → Option D := runF 2 5 ((sSeq (sAsg (eLst [(eTup [])]) (TL.gName 2))
      (sSeq (sFor (iRng1 (eVar 1)) (TL.gName 3)
      (sSeq (sAsg (eLst []) (TL.gName 4))
      (sSeq (sFor (iSeq (eVar 2)) (TL.gName 5)
      (sAsg (e2 addD (eVar 4) (eLc [6] (iRng1 (eVar 0)) (TL.gName 6) cYes (e2 addD (eVar 5) (eTup [(eVar 6)])))) (TL.gName 4)))
      (sAsg (eVar 4) (TL.gName 2)))))
      (sRet (eVar 2)))))
def m__law_pushed : Nat → List D → Option D
  | 0 => fun _ => none
  | n + 1 => runF 1 1 ((sSeq (sIf (TL.tAnd (tV (e2 eqD (e2 ixD (eVar 0) (eC (.int 0))) (eC (.str "not")))) (tV (e2 ninD (e2 ixD (e2 ixD (eVar 0) (eC (.int 1))) (eC (.int 0))) (eTup [(eC (.str "same")), (eC (.str "mark")), (eC (.str "arrow")), (eC (.str "least"))]))))
      (sRet (eC (.bool false)))
      sNext)
      (sRet (e2 eqD (e1 lenD (eLc [1] (iSeq (eCall m__law_inner [(eVar 0)])) (TL.gName 1) (TL.tNot (tV (eCall (m__law_pushed n) [(eVar 1)]))) (eVar 1))) (eC (.int 0))))))
def m_goes : List D → Option D := runF 4 5 ((sSeq (sAsg (eVar 2) (TL.gTup [(TL.gName 4), (TL.gName 5)]))
      (sSeq (sAsg (eVar 3) (TL.gTup [(TL.gName 6), (TL.gName 7)]))
      (sSeq (sIf (tV (e2 neD (e2 eqD (eVar 4) (eVar 6)) (e2 eqD (eVar 5) (eVar 7))))
      (sRet (eC (.bool false)))
      sNext)
      (sSeq (sIf (tV (e1 anyD (eLc [8] (iSeq (eTup [(eC (.int 0)), (eC (.int 1))])) (TL.gName 8) cYes (e2 neD (e2 inD (eVar 4) (e2 ixD (e2 ixD (eVar 0) (eC (.int 1))) (eVar 8))) (e2 inD (eVar 5) (e2 ixD (e2 ixD (eVar 1) (eC (.int 1))) (eVar 8)))))))
      (sRet (eC (.bool false)))
      sNext)
      (sRet (eAnd (e2 eqD (e2 inD (eTup [(eVar 4), (eVar 6)]) (e2 ixD (eVar 0) (eC (.int 2)))) (e2 inD (eTup [(eVar 5), (eVar 7)]) (e2 ixD (eVar 1) (eC (.int 2))))) (e2 eqD (e2 inD (eTup [(eVar 6), (eVar 4)]) (e2 ixD (eVar 0) (eC (.int 2)))) (e2 inD (eTup [(eVar 7), (eVar 5)]) (e2 ixD (eVar 1) (eC (.int 2))))))))))))
def m__law_fit : List D → Option D := runF 4 4 ((sSeq (sAsg (eVar 2) (TL.gTup [(TL.gName 4), (TL.gName 5)]))
      (sSeq (sAsg (eVar 3) (TL.gTup [(TL.gName 6), (TL.gName 7)]))
      (sSeq (sIf (tV (e2 neD (e2 eqD (eVar 4) (eVar 6)) (e2 eqD (eVar 5) (eVar 7))))
      (sRet (eC (.bool false)))
      sNext)
      (sSeq (sIf (TL.tOr (tV (e2 neD (e2 inD (eVar 4) (e2 ixD (e2 ixD (eVar 0) (eC (.int 1))) (eC (.int 0)))) (e2 inD (eVar 5) (e2 ixD (e2 ixD (eVar 1) (eC (.int 1))) (eC (.int 0)))))) (tV (e2 neD (e2 inD (eVar 4) (e2 ixD (e2 ixD (eVar 0) (eC (.int 1))) (eC (.int 1)))) (e2 inD (eVar 5) (e2 ixD (e2 ixD (eVar 1) (eC (.int 1))) (eC (.int 1)))))))
      (sRet (eC (.bool false)))
      sNext)
      (sRet (eAnd (e2 eqD (e2 inD (eTup [(eVar 4), (eVar 6)]) (e2 ixD (eVar 0) (eC (.int 2)))) (e2 inD (eTup [(eVar 5), (eVar 7)]) (e2 ixD (eVar 1) (eC (.int 2))))) (e2 eqD (e2 inD (eTup [(eVar 6), (eVar 4)]) (e2 ixD (eVar 0) (eC (.int 2)))) (e2 inD (eTup [(eVar 7), (eVar 5)]) (e2 ixD (eVar 1) (eC (.int 2))))))))))))
def m__law_carry : List D → Option D := runF 4 4 ((sSeq (sAsg (eVar 2) (TL.gTup [(TL.gName 4), (TL.gName 5)]))
      (sSeq (sAsg (eVar 3) (TL.gTup [(TL.gName 6), (TL.gName 7)]))
      (sSeq (sIf (TL.tOr (TL.tAnd (tV (e2 eqD (eVar 4) (eVar 6))) (tV (e2 neD (eVar 5) (eVar 7)))) (TL.tOr (TL.tAnd (tV (e2 inD (eVar 4) (e2 ixD (e2 ixD (eVar 0) (eC (.int 1))) (eC (.int 0))))) (tV (e2 ninD (eVar 5) (e2 ixD (e2 ixD (eVar 1) (eC (.int 1))) (eC (.int 0)))))) (TL.tAnd (tV (e2 inD (eVar 4) (e2 ixD (e2 ixD (eVar 0) (eC (.int 1))) (eC (.int 1))))) (tV (e2 ninD (eVar 5) (e2 ixD (e2 ixD (eVar 1) (eC (.int 1))) (eC (.int 1))))))))
      (sRet (eC (.bool false)))
      sNext)
      (sRet (eAnd (eNot (eAnd (e2 inD (eTup [(eVar 4), (eVar 6)]) (e2 ixD (eVar 0) (eC (.int 2)))) (e2 ninD (eTup [(eVar 5), (eVar 7)]) (e2 ixD (eVar 1) (eC (.int 2)))))) (eNot (eAnd (e2 inD (eTup [(eVar 6), (eVar 4)]) (e2 ixD (eVar 0) (eC (.int 2)))) (e2 ninD (eTup [(eVar 7), (eVar 5)]) (e2 ixD (eVar 1) (eC (.int 2))))))))))))
def m__law_goes : List D → Option D := runF 4 2 ((sSeq (sFor (iSeq (eVar 2)) (TL.gName 4)
      (sSeq (sIf (TL.tAnd (tV (e2 eqD (eVar 3) (eC (.int 0)))) (tV (e2 gtD (e1 lenD (eLc [5] (iSeq (eVar 2)) (TL.gName 5) (TL.tNot (tV (eCall m__law_fit [(eVar 0), (eVar 1), (eVar 4), (eVar 5)]))) (eVar 5))) (eC (.int 0)))))
      (sRet (eC (.bool false)))
      sNext)
      (sIf (TL.tAnd (tV (e2 eqD (eVar 3) (eC (.int 1)))) (tV (e2 gtD (e1 lenD (eLc [5] (iSeq (eVar 2)) (TL.gName 5) (TL.tNot (tV (eCall m__law_carry [(eVar 0), (eVar 1), (eVar 4), (eVar 5)]))) (eVar 5))) (eC (.int 0)))))
      (sRet (eC (.bool false)))
      sNext)))
      (sRet (eC (.bool true)))))
def m__law_ways : List D → Option D := runF 3 7 ((sSeq (sAsg (eLst [(eTup [])]) (TL.gName 3))
      (sSeq (sFor (iRng1 (e2 ixD (eVar 0) (eC (.int 0)))) (TL.gName 4)
      (sSeq (sAsg (eLst []) (TL.gName 5))
      (sSeq (sFor (iSeq (eVar 3)) (TL.gName 6)
      (sFor (iRng1 (e2 ixD (eVar 1) (eC (.int 0)))) (TL.gName 7)
      (sSeq (sAsg (e2 addD (e1 tupleD (eLc [9] (iRng1 (eVar 4)) (TL.gName 9) cYes (eTup [(eVar 9), (e2 ixD (eVar 6) (eVar 9))]))) (eTup [(eTup [(eVar 4), (eVar 7)])])) (TL.gName 8))
      (sIf (tV (eCall m__law_goes [(eVar 0), (eVar 1), (eVar 8), (eVar 2)]))
      (sApp 5 (e2 addD (eVar 6) (eTup [(eVar 7)])))
      sNext))))
      (sAsg (eVar 5) (TL.gName 3)))))
      (sRet (eVar 3)))))
def m_likenesses_2 : Nat → List D → Option D
  | 0 => fun _ => none
  | n + 1 => fun ds => nnD (runF 3 6 ((sSeq (sAsg (e1 lenD (eVar 2)) (TL.gName 3))
      (sSeq (sIf (tV (e2 eqD (eVar 3) (e2 ixD (eVar 0) (eC (.int 0)))))
      (sRet (eLst [(eVar 2)]))
      sNext)
      (sSeq (sAsg (eLst []) (TL.gName 4))
      (sSeq (sFor (iRng1 (e2 ixD (eVar 1) (eC (.int 0)))) (TL.gName 5)
      (sSeq (sAsg (e2 addD (eLc [7] (iRng1 (eVar 3)) (TL.gName 7) cYes (eTup [(eVar 7), (e2 ixD (eVar 2) (eVar 7))])) (eLst [(eTup [(eVar 3), (eVar 5)])])) (TL.gName 6))
      (sIf (tV (e1 allD (eLc [8] (iSeq (eVar 6)) (TL.gName 8) cYes (eCall m_goes [(eVar 0), (eVar 1), (eTup [(eVar 3), (eVar 5)]), (eVar 8)]))))
      (sExt 4 (eCall (m_likenesses_2 n) [(eVar 0), (eVar 1), (e2 addD (eVar 2) (eTup [(eVar 5)]))]))
      sNext)))
      (sRet (eVar 4))))))) ds)
def m_turnings_2 : List D → Option D := runF 1 0 ((sRet (eCall (m_likenesses_2 60) [(eVar 0), (eVar 0), (eTup [])])))
def m_led : List D → Option D := runF 2 1 ((sRet (e1 tupleD (eLc [2] (iSeq (eVar 1)) (TL.gName 2) cYes (e2 ixD (eVar 0) (eVar 2))))))
end LB

set_option Elab.async false
set_option linter.all false
set_option maxRecDepth 100000
namespace LB
open PySem TL
theorem for_allT {α : Type} {g : SG} {body : SS} (ι : α → D) (I : TL.Env → Prop) (P : α → Bool) (r : D) : ∀ (xs : List α) (env : TL.Env), I env →
    (∀ x ∈ xs, ∀ env, I env → ∃ e1, g (ι x) env = some e1 ∧ ((P x = true ∧ ∃ e2, body e1 = some (.nx e2) ∧ I e2) ∨ (P x = false ∧ body e1 = some (.rt r)))) →
    (xs.all P = true ∧ ∃ e, forGo g body (xs.map ι) env = some (.nx e) ∧ I e) ∨ (xs.all P = false ∧ forGo g body (xs.map ι) env = some (.rt r))
  | [], env, h, _ => .inl ⟨rfl, env, rfl, h⟩
  | x :: xs, env, h, step => by
    obtain ⟨e1, h1, h2⟩ := step x List.mem_cons_self env h
    rcases h2 with ⟨hp, e2, h3, h4⟩ | ⟨hp, h3⟩
    · rcases for_allT ι I P r xs e2 h4 (fun y hy => step y (List.mem_cons_of_mem _ hy)) with ⟨h5, e, h6, h7⟩ | ⟨h5, h6⟩
      · exact .inl ⟨by rw [List.all_cons, hp, h5]; rfl, e, by rw [List.map_cons]; exact for_cons h1 h3 h6, h7⟩
      · exact .inr ⟨by rw [List.all_cons, hp, h5]; rfl, by rw [List.map_cons]; exact for_cons h1 h3 h6⟩
    · refine .inr ⟨by rw [List.all_cons, hp]; rfl, ?_⟩
      rw [List.map_cons]
      simp only [forGo, h1, Option.bind_some, h3]
theorem for_invP {α : Type} {g : SG} {body : SS} (ι : α → D) (I : List α → TL.Env → Prop) (xs : List α) (env : TL.Env) (h0 : I [] env)
    (step : ∀ l x r, xs = l ++ x :: r → ∀ env, I l env → ∃ e1, g (ι x) env = some e1 ∧ ∃ e2, (body e1 = some (.nx e2) ∨ body e1 = some (.ct e2)) ∧ I (l ++ [x]) e2) :
    ∃ e, forGo g body (xs.map ι) env = some (.nx e) ∧ I xs e := by
  have key : ∀ (r l : List α) (env : TL.Env), xs = l ++ r → I l env → ∃ e, forGo g body (r.map ι) env = some (.nx e) ∧ I xs e := by
    intro r
    induction r with
    | nil =>
      intro l env e h
      rw [List.append_nil] at e
      exact ⟨env, rfl, by rw [e]; exact h⟩
    | cons x r ih =>
      intro l env e h
      obtain ⟨e1, h1, e2, h3, h4⟩ := step l x r e env h
      obtain ⟨e', h5, h6⟩ := ih (l ++ [x]) e2 (by rw [e]; simp) h4
      refine ⟨e', ?_, h6⟩
      rw [List.map_cons]
      rcases h3 with h3 | h3
      · exact for_cons h1 h3 h5
      · simp only [forGo, h1, Option.bind_some, h3]
        exact h5
  exact key xs [] env rfl h0
theorem seq_for_invP {α : Type} {it : SI} {g : SG} {body rest : SS} {env : TL.Env} {r : Option Out} (ι : α → D) (I : List α → TL.Env → Prop) (xs : List α) (hit : it env = some (xs.map ι)) (h0 : I [] env)
    (step : ∀ l x r, xs = l ++ x :: r → ∀ env, I l env → ∃ e1, g (ι x) env = some e1 ∧ ∃ e2, (body e1 = some (.nx e2) ∨ body e1 = some (.ct e2)) ∧ I (l ++ [x]) e2) (fin : ∀ e, I xs e → rest e = r) : sSeq (sFor it g body) rest env = r := by
  obtain ⟨e, h1, h2⟩ := for_invP ι I xs env h0 step
  exact seq_go (for_go hit h1) (fin e h2)
theorem seq_for_all {α : Type} {it : SI} {g : SG} {body rest : SS} {env : TL.Env} {r : Option Out} (ι : α → D) (I : TL.Env → Prop) (P : α → Bool) (d : D) (xs : List α) (hit : it env = some (xs.map ι)) (h0 : I env)
    (step : ∀ x ∈ xs, ∀ env, I env → ∃ e1, g (ι x) env = some e1 ∧ ((P x = true ∧ ∃ e2, body e1 = some (.nx e2) ∧ I e2) ∨ (P x = false ∧ body e1 = some (.rt d)))) (ht : xs.all P = true → ∀ e, I e → rest e = r) (hf : xs.all P = false → some (.rt d) = r) : sSeq (sFor it g body) rest env = r := by
  rcases for_allT ι I P d xs env h0 step with ⟨h1, e, h2, h3⟩ | ⟨h1, h2⟩
  · exact seq_go (for_go hit h2) (ht h1 e h3)
  · rw [← hf h1]
    exact seq_rt (for_go hit h2)
theorem rngI1 {a : SE} {env : TL.Env} {n : Int} (h : a env = some (.int n)) (h0 : 0 ≤ n) (h1 : n ≤ 1000000) : iRng1 a env = some ((rangeI 0 n.toNat).map .int) := by
  simp only [iRng1, h, Option.bind_some, toI]
  exact rng_0 h0 h1
theorem call4_go {m : List D → Option D} {a b c d : SE} {env : TL.Env} {x y z v : D} {o : Option D} (h1 : a env = some x) (h2 : b env = some y) (h3 : c env = some z) (h4 : d env = some v) (h5 : m [x, y, z, v] = o) : eCall m [a, b, c, d] env = o := by
  simp only [eCall, eArgs, h1, h2, h3, h4, Option.bind_some, Option.map_some]
  exact h5
theorem call2_go {m : List D → Option D} {a b : SE} {env : TL.Env} {x y : D} {o : Option D} (h1 : a env = some x) (h2 : b env = some y) (h4 : m [x, y] = o) : eCall m [a, b] env = o := by
  simp only [eCall, eArgs, h1, h2, Option.bind_some, Option.map_some]
  exact h4
end LB

set_option Elab.async false
set_option linter.all false
set_option maxRecDepth 100000
namespace LB
open PySem TL
theorem cell_ok (ns : List Int) (k : Nat) : ∃ c : Int, m__law_cell [.list (ns.map .int), .int k] = some (.int c) := by
  by_cases h : k < ns.length
  · refine ⟨ns[k], ?_⟩
    simp [m__law_cell, runF, ltD, lenD, ixD, h, L2.atI, L2.ixN]
  · refine ⟨0, ?_⟩
    simp [m__law_cell, runF, ltD, lenD, ixD, h, L2.atI, L2.ixN]
theorem draws_ok (c : Int) (n : Nat) (hn : n ≤ 1000) : ∃ rs : List Int, m__law_draws [.int c, .int n] = some (.list (rs.map .int)) ∧ rs.length = n ∧ ∀ r ∈ rs, 0 ≤ r ∧ r < 4096 := by
  have hrng : rangeD 0 n = some (rangeL 0 n) := by
    have := rng_n (lo := 0) (hi := n) (by decide) (by decide) (by omega) (by omega)
    simpa using this
  have h18 := pow_18
  simp only [m__law_draws, runF, List.length_cons, List.length_nil, if_true, List.map_cons, List.map_nil, List.replicate, List.cons_append, List.nil_append, sSeq, sAsg, eLst, eArgs, Option.bind_some, Option.map_some, eVar, TL.gName, List.getD_cons_zero, List.set_cons_zero, List.set_cons_succ, sFor, iRng1, toI, List.getD_cons_succ, hrng, Nat.zero_le]
  generalize hb : (sIf _ _ _ : SS) = body
  obtain ⟨e, h1, rs, left, k, b, he, hl, hr⟩ := for_rng (g := TL.gName 4) (body := body)
    (lo := 0) (n := n) (env := [some (.int c), some (.int n), some (.list []), some (.int c), none, none])
    (fun i env => ∃ (rs : List Int) (left : Int) (k b : Option D), env = [some (.int c), some (.int n), some (.list (rs.map .int)), some (.int left), k, b] ∧ rs.length = i ∧ ∀ r ∈ rs, 0 ≤ r ∧ r < 4096)
    ⟨[], c, none, none, rfl, rfl, fun r h => (by cases h)⟩ (by
      rintro j env hj ⟨rs, left, k, b, rfl, hl, hr⟩
      refine ⟨_, rfl, ?_⟩
      have hs2 : rs.length < sizeLine := small' (by omega)
      subst hb
      by_cases hc : (1000000000000000000 : Int) ≤ c ∧ 0 < left
      · refine ⟨[some (.int c), some (.int n), some (.list ((rs ++ [left % 4096]).map .int)), some (.int (left / 4096)), some (.int (0 + j)), b], .inl ?_, rs ++ [left % 4096], left / 4096, _, b, rfl, by simp [hl], ?_⟩
        · simp [h18, hc.1, hc.2, mod_n, fdiv_n, hs2]
        · intro r hr'
          rcases List.mem_append.mp hr' with h | h
          · exact hr r h
          · rw [List.mem_singleton.mp h]; omega
      · have m1 : mulD (.int c) (.int 48271) = some (.int (c * 48271)) := mul_r (by decide) (by decide)
        have m2 : mulD (.int (j + 1)) (.int 69621) = some (.int ((j + 1) * 69621)) := mul_r (by decide) (by decide)
        generalize hb1 : (c * 48271 + (j + 1) * 69621) % 2147483647 = b1
        have r1 : 0 ≤ b1 ∧ b1 < 2147483647 := by omega
        have m3 : mulD (.int b1) (.int b1) = some (.int (b1 * b1)) := mul_r (by omega) (by omega)
        have m4 : mulD (.int b1) (.int 16807) = some (.int (b1 * 16807)) := mul_r (by decide) (by decide)
        have m5 : mulD (.int j) (.int 7919) = some (.int (j * 7919)) := mul_r (by decide) (by decide)
        generalize hb2 : (b1 * b1 + b1 * 16807 + j * 7919) % 2147483629 = b2
        have r2 : 0 ≤ b2 ∧ b2 < 2147483629 := by omega
        have m6 : mulD (.int b2) (.int b2) = some (.int (b2 * b2)) := mul_r (by omega) (by omega)
        have m7 : mulD (.int 13) (.int j) = some (.int (13 * j)) := mul_l (by decide) (by decide)
        generalize hb3 : (b2 * b2 + c + 13 * j) % 2147483587 = b3
        refine ⟨[some (.int c), some (.int n), some (.list ((rs ++ [b3 / 7 % 4096]).map .int)), some (.int left), some (.int (0 + j)), some (.int b3)], .inl ?_, rs ++ [b3 / 7 % 4096], left, _, _, rfl, by simp [hl], ?_⟩
        · have hc2 : ¬ ((1000000000000000000 : Int) ≤ c) ∨ ¬ (0 < left) := Classical.not_and_iff_not_or_not.mp hc
          rcases hc2 with hc2 | hc2
          · simp [h18, hc2, m1, m2, m3, m4, m5, m6, m7, mod_n, fdiv_n, hs2, hb1, hb2, hb3]
          · by_cases hc3 : (1000000000000000000 : Int) ≤ c
            · simp [h18, hc2, hc3, m1, m2, m3, m4, m5, m6, m7, mod_n, fdiv_n, hs2, hb1, hb2, hb3]
            · simp [h18, hc3, m1, m2, m3, m4, m5, m6, m7, mod_n, fdiv_n, hs2, hb1, hb2, hb3]
        · intro r hr'
          rcases List.mem_append.mp hr' with h | h
          · exact hr r h
          · rw [List.mem_singleton.mp h]; omega)
  subst he
  refine ⟨rs, ?_, hl, hr⟩
  simp only [h1, Option.bind_some, sRet, eVar, List.getD_cons_zero, List.getD_cons_succ, Option.map_some, outD]
structure Asc1 (n : Int) (l : List Int) : Prop where
  asc : l.Pairwise (· < ·)
  rng : ∀ a ∈ l, 0 ≤ a ∧ a < n
structure Asc2 (n : Int) (l : List (Int × Int)) : Prop where
  asc : l.Pairwise fun p q => ltPr p q = true
  rng : ∀ p ∈ l, 0 ≤ p.1 ∧ p.1 < n ∧ 0 ≤ p.2 ∧ p.2 < n
structure Wd.Ok (w : Wd) : Prop where
  lo : 1 ≤ w.n
  hi : w.n ≤ 8
  a0 : Asc1 w.n w.m0
  a1 : Asc1 w.n w.m1
  ar : Asc2 w.n w.ar
theorem Asc2.nodup {n : Int} {l : List (Int × Int)} (h : Asc2 n l) : l.Nodup := h.asc.imp fun {a b} hab e => by
  subst e
  have := SrtO.lexB_iff.mp hab
  omega
theorem asc2_of {n : Int} {l : List (Int × Int)} (hn : l.Nodup) (hr : ∀ p ∈ l, 0 ≤ p.1 ∧ p.1 < n ∧ 0 ≤ p.2 ∧ p.2 < n) : Asc2 n (isort ltPr l) :=
  ⟨isort_lt swoP antiP hn, fun p hp => hr p ((isort_perm l).mem_iff.mp hp)⟩
def special (k : Int) : Wd := match k.toNat with
  | 0 => ⟨3, [], [], [(0, 1), (0, 2), (1, 2)]⟩
  | 1 => ⟨4, [], [], [(0, 1), (0, 2), (0, 3), (1, 2), (1, 3), (2, 3)]⟩
  | 2 => ⟨3, [], [], [(0, 1), (1, 2), (2, 0)]⟩
  | 3 => ⟨4, [], [], [(0, 1), (1, 2), (2, 3), (3, 0)]⟩
  | 4 => ⟨2, [], [], []⟩
  | 5 => ⟨3, [], [], []⟩
  | 6 => ⟨4, [], [], []⟩
  | 7 => ⟨4, [], [], [(0, 1), (1, 0), (1, 2), (2, 1), (2, 3), (3, 2)]⟩
  | 8 => ⟨4, [], [], [(0, 1), (0, 3), (1, 0), (1, 2), (2, 1), (2, 3), (3, 0), (3, 2)]⟩
  | _ => ⟨3, [], [], [(0, 1), (0, 2), (1, 0), (1, 2), (2, 0), (2, 1)]⟩
theorem special_ok (k : Int) : m__law_special [.int k] = some (special (k % 10)).d := by
  have l3 : m__law_line [.int 3] = some (special 0).d := by kernel_rfl
  have l4 : m__law_line [.int 4] = some (special 1).d := by kernel_rfl
  have r3 : m__law_ring [.int 3] = some (special 2).d := by kernel_rfl
  have r4 : m__law_ring [.int 4] = some (special 3).d := by kernel_rfl
  have b1 : m__law_both_ways [.int 4, .tuple [.tuple [.int 0, .int 1], .tuple [.int 1, .int 2], .tuple [.int 2, .int 3]]] = some (special 7).d := by kernel_rfl
  have b2 : m__law_both_ways [.int 4, .tuple [.tuple [.int 0, .int 1], .tuple [.int 1, .int 2], .tuple [.int 2, .int 3], .tuple [.int 0, .int 3]]] = some (special 8).d := by kernel_rfl
  have b3 : m__law_both_ways [.int 3, .tuple [.tuple [.int 0, .int 1], .tuple [.int 1, .int 2], .tuple [.int 0, .int 2]]] = some (special 9).d := by kernel_rfl
  have hs : ∀ n : Nat, n ≤ 100 → n ≤ sizeLine := fun n h => small (by omega)
  have q : 0 ≤ k % 10 ∧ k % 10 < 10 := by omega
  have z : k % 10 = 0 ∨ k % 10 = 1 ∨ k % 10 = 2 ∨ k % 10 = 3 ∨ k % 10 = 4 ∨ k % 10 = 5 ∨ k % 10 = 6 ∨ k % 10 = 7 ∨ k % 10 = 8 ∨ k % 10 = 9 := by omega
  have fin : ∀ d, ixD (.list [(special 0).d, (special 1).d, (special 2).d, (special 3).d, (special 4).d, (special 5).d, (special 6).d, (special 7).d, (special 8).d, (special 9).d]) (.int (k % 10)) = some d → m__law_special [.int k] = some d := by
    intro d hd
    simp only [m__law_special, runF, List.length_cons, List.length_nil, if_true, List.map_cons, List.map_nil, List.replicate, List.cons_append, List.nil_append, sSeq, sAsg, eLst, eTup, eArgs, Option.bind_some, Option.map_some, eC, eCall, TL.gName, l3, l4, r3, r4, b1, b2, b3, hs _ (show 0 ≤ 100 by decide), hs _ (show 0 + 1 ≤ 100 by decide), hs _ (show 0 + 1 + 1 ≤ 100 by decide), hs _ (show 0 + 1 + 1 + 1 ≤ 100 by decide), hs _ (show 0 + 1 + 1 + 1 + 1 ≤ 100 by decide), hs _ (show 0 + 1 + 1 + 1 + 1 + 1 + 1 + 1 ≤ 100 by decide), List.set_cons_zero, List.set_cons_succ, e2, e1, eVar, List.getD_cons_zero, List.getD_cons_succ, sRet]
    rw [cat_l (small (by simp))]
    simp only [Option.bind_some, Option.map_some, List.set_cons_zero, List.set_cons_succ, eVar, List.getD_cons_zero, List.getD_cons_succ, List.cons_append, List.nil_append, len_l, List.length_cons, List.length_nil]
    rw [mod_n (by decide)]
    simp only [Option.bind_some]
    have e : ((0 + 1 + 1 + 1 + 1 + 1 + 1 + 1 + 1 + 1 + 1 : Nat) : Int) = 10 := rfl
    rw [e]
    have hd' : ixD (.list [(special 0).d, (special 1).d, (special 2).d, (special 3).d, .tuple [.int 2, .tuple [.tuple [], .tuple []], .tuple []], .tuple [.int 3, .tuple [.tuple [], .tuple []], .tuple []], .tuple [.int 4, .tuple [.tuple [], .tuple []], .tuple []], (special 7).d, (special 8).d, (special 9).d]) (.int (k % 10)) = some d := hd
    rw [hd']
    rfl
  rcases z with z | z | z | z | z | z | z | z | z | z <;> (refine fin _ ?_; rw [z]; rfl)
theorem special_wd (k : Int) : (special k).Ok := by
  have all : ∀ w : Wd, (decide (1 ≤ w.n) && decide (w.n ≤ 8) && decide (w.m0 = []) && decide (w.m1 = []) && decide (w.ar.Pairwise fun p q => ltPr p q = true) && w.ar.all fun p => decide (0 ≤ p.1) && decide (p.1 < w.n) && decide (0 ≤ p.2) && decide (p.2 < w.n)) = true → w.Ok := by
    intro w h
    simp only [Bool.and_eq_true, decide_eq_true_eq, List.all_eq_true] at h
    obtain ⟨⟨⟨⟨⟨h1, h2⟩, h3⟩, h4⟩, h5⟩, h6⟩ := h
    refine ⟨h1, h2, ?_, ?_, ⟨h5, fun p hp => ?_⟩⟩
    · rw [h3]; exact ⟨List.Pairwise.nil, fun a h => by cases h⟩
    · rw [h4]; exact ⟨List.Pairwise.nil, fun a h => by cases h⟩
    · obtain ⟨⟨⟨q1, q2⟩, q3⟩, q4⟩ := h6 p hp
      exact ⟨q1, q2, q3, q4⟩
  refine all _ ?_
  unfold special
  split <;> decide
end LB

set_option Elab.async false
set_option linter.all false
set_option maxRecDepth 100000
namespace LB
open PySem TL
local macro_rules | `(tactic| walk_at "ev") => `(tactic| simp only [List.length_cons, List.length_nil, if_true, List.map_cons, List.map_nil, List.replicate, List.cons_append, List.nil_append, sSeq, sAsg, eLst, eTup, eArgs, Option.bind_some, Option.map_some, eC, eVar, eCall, e1, e2, eIf, eAnd, eOr, eNot, eChain, TL.gName, TL.gTup, gAll, List.getD_cons_zero, List.getD_cons_succ, List.set_cons_zero, List.set_cons_succ, sFor, iRng1, iRng2, iSeq, itemsD, toI, toB, sIf, sRet, sNext, tV, TL.tAnd, TL.tOr, TL.tNot, add_i, sub_i, lt_i, le_i, gt_i, ge_i, eq_i, ne_i, int_i, len_l, len_t, tuple_l, tuple_t, list_l, list_t, outD, Bool.false_eq_true, if_false, sApp, Nat.zero_le])
theorem wdn (w : Wd) : ixD w.d (.int 0) = some (.int w.n) := rfl
theorem world_ok (rs : List Int) (hl : 12 ≤ rs.length) (hl2 : rs.length ≤ 1000) (hr : ∀ r ∈ rs, 0 ≤ r ∧ r < 4096) (most : Int) (h1 : 1 ≤ most) (h8 : most ≤ 8) :
    ∃ w : Wd, m__law_world [.list (rs.map .int), .int most] = some w.d ∧ w.Ok ∧ w.n ≤ most := by
  have hx : ∀ i : Nat, i < rs.length → 0 ≤ rs.getD i 0 ∧ rs.getD i 0 < 4096 := fun i hi => hr _ (TL.getD_mem hi)
  have ixc : ∀ i : Int, 0 ≤ i → i < rs.length → ixD (.list (rs.map .int)) (.int i) = some (.int (rs.getD i.toNat 0)) := fun i h0 hi => ix_ints h0 hi
  have i0 : ixD (.list (rs.map .int)) (.int 0) = some (.int (rs.getD 0 0)) := ixc 0 (by omega) (by omega)
  have i1 : ixD (.list (rs.map .int)) (.int 1) = some (.int (rs.getD 1 0)) := ixc 1 (by omega) (by omega)
  have i2 : ixD (.list (rs.map .int)) (.int 2) = some (.int (rs.getD 2 0)) := ixc 2 (by omega) (by omega)
  have x0 := hx 0 (by omega)
  have x1 := hx 1 (by omega)
  have x2 := hx 2 (by omega)
  generalize hn : 1 + rs.getD 0 0 % most = n
  have n1 : 1 ≤ n ∧ n ≤ most := by
    have h := Int.emod_nonneg (rs.getD 0 0) (show most ≠ 0 by omega)
    have h' := Int.emod_lt_of_pos (rs.getD 0 0) (show 0 < most by omega)
    omega
  unfold m__law_world
  by_cases hsp : rs.getD 1 0 % 6 = 1 ∧ (special (rs.getD 2 0 % 10)).n ≤ most
  · refine ⟨special (rs.getD 2 0 % 10), run_rt rfl ?_, special_wd _, hsp.2⟩
    refine seq_go (e := [some (.list (rs.map .int)), some (.int most), some (.int n), none, none, none, none, none, none, none, none]) ?_ (seq_rt ?_)
    · walk_at "ev"
      simp only [i0, Option.bind_some, mod_n (show 0 < most by omega), add_i, hn, int_i]
    · walk_at "ev"
      simp only [i1, i2, special_ok, Option.bind_some, wdn, mod_n (show (0 : Int) < 6 by decide), eq_i, int_i, toB, hsp.1, hsp.2, decide_true, if_true, le_i, Option.map_some]
  generalize hdn : (match (rs.getD 1 0 / 6 % 4).toNat with | 0 => (2 : Int) | 1 => 3 | 2 => 5 | _ => 3) = dense
  generalize hmk : (match (rs.getD 1 0 / 24 % 4).toNat with | 0 => (2 : Int) | 1 => 9999 | 2 => 3 | _ => 9999) = marked
  have dpos : 0 < dense := by
    rw [← hdn]; split <;> decide
  have mpos : 0 < marked := by
    rw [← hmk]; split <;> decide
  have four : ∀ (x : Int) (a b c d : Int), 0 ≤ x → ixD (.list [.int a, .int b, .int c, .int d]) (.int (x % 4)) = some (.int (match (x % 4).toNat with | 0 => a | 1 => b | 2 => c | _ => d)) := by
    intro x a b c d h
    have : x % 4 = 0 ∨ x % 4 = 1 ∨ x % 4 = 2 ∨ x % 4 = 3 := by omega
    rcases this with z | z | z | z <;> (rw [z]; rfl)
  have mk : ∀ i : Int, 0 ≤ i → i ≤ 1 → ∃ m : List Int, Asc1 n m ∧ ∀ (e3 e5 e7 e8 e9 e10 : Option D), eLc [9] (iRng1 (eVar 2)) (TL.gName 9) (tV (e2 eqD (e2 modD (e2 fdivD (e1 intD (e2 ixD (eVar 0) (e2 addD (eC (.int 3)) (eVar 9)))) (e2 addD (eC (.int 1)) (eVar 6))) (eVar 4)) (eC (.int 0)))) (eVar 9)
      [some (.list (rs.map .int)), some (.int most), some (.int n), e3, some (.int marked), e5, some (.int i), e7, e8, e9, e10] = some (.list (m.map .int)) := by
    intro i hi0 hi1
    let p : Int → Bool := fun a => decide (rs.getD (3 + a).toNat 0 / (1 + i) % marked = 0)
    refine ⟨(rangeI 0 n.toNat).filter p, ⟨(rangeI_asc 0 n.toNat).filter _, fun a ha => ?_⟩, fun e3 e5 e7 e8 e9 e10 => ?_⟩
    · have := rangeI_mem.mp (List.mem_filter.mp ha).1
      omega
    · refine lc_go (ds := (rangeI 0 n.toNat).map .int) ?_ ?_
      · walk_at "ev"
        exact rng_0 (by omega) (by omega)
      · have := lc_filter (g := TL.gName 9) (c := tV (e2 eqD (e2 modD (e2 fdivD (e1 intD (e2 ixD (eVar 0) (e2 addD (eC (.int 3)) (eVar 9)))) (e2 addD (eC (.int 1)) (eVar 6))) (eVar 4)) (eC (.int 0)))) (e := eVar 9) (env := wipeE [some (.list (rs.map .int)), some (.int most), some (.int n), e3, some (.int marked), e5, some (.int i), e7, e8, e9, e10] [9]) PyData.int PyData.int p id (zs := rangeI 0 n.toNat) fun a ha => ?_
        · rw [List.map_id] at this
          exact this
        · have ha := rangeI_mem.mp ha
          refine ⟨_, rfl, ?_, fun _ => rfl⟩
          simp only [wipeE]
          walk_at "ev"
          simp only [ixc (3 + a) (by omega) (by omega), Option.bind_some, int_i, fdiv_n (show 0 < 1 + i by omega) (by omega), mod_n mpos, eq_i, toB]
          rfl
  obtain ⟨m0, am0, e0⟩ := mk 0 (by omega) (by omega)
  obtain ⟨m1, am1, e1'⟩ := mk 1 (by omega) (by omega)
  -- the arrows
  generalize hL : (rs.length : Int) = L
  have hLb : 12 ≤ L ∧ L ≤ 1000 := by omega
  have arr : ∀ (e5 e6 e9 e10 : Option D), ∃ (ps : List (Int × Int)) (at_ : Int) (e9' e10' : Option D), ps.Nodup ∧ ps.length ≤ 64 ∧ (∀ p ∈ ps, 0 ≤ p.1 ∧ p.1 < n ∧ 0 ≤ p.2 ∧ p.2 < n) ∧
      sFor (iRng1 (eVar 2)) (TL.gName 9) (sFor (iRng1 (eVar 2)) (TL.gName 10)
      (sSeq (sIf (tV (e2 eqD (e2 modD (e2 fdivD (e1 intD (e2 ixD (eVar 0) (e2 modD (eVar 8) (e1 lenD (eVar 0))))) (e2 addD (eC (.int 1)) (e2 fdivD (eVar 8) (e1 lenD (eVar 0))))) (eVar 3)) (eC (.int 0))))
      (sApp 7 (eTup [(eVar 9), (eVar 10)]))
      sNext)
      (sAsg (e2 addD (eVar 8) (eC (.int 1))) (TL.gName 8))))
      [some (.list (rs.map .int)), some (.int most), some (.int n), some (.int dense), some (.int marked), e5, e6, some (.list []), some (.int 11), e9, e10]
      = some (.nx [some (.list (rs.map .int)), some (.int most), some (.int n), some (.int dense), some (.int marked), e5, e6, some (.list (ps.map prD)), some (.int at_), e9', e10']) := by
    intro e5 e6 e9 e10
    let E := fun (ps : List (Int × Int)) (at_ : Int) (e9 e10 : Option D) => [some (.list (rs.map .int)), some (.int most), some (.int n), some (.int dense), some (.int marked), e5, e6, some (.list (ps.map prD)), some (.int at_), e9, e10]
    obtain ⟨e, h2, ps, at_, e9', e10', rfl, hnd, hrg, hat, _, hlen⟩ := for_range (g := TL.gName 9) (body := sFor (iRng1 (eVar 2)) (TL.gName 10)
      (sSeq (sIf (tV (e2 eqD (e2 modD (e2 fdivD (e1 intD (e2 ixD (eVar 0) (e2 modD (eVar 8) (e1 lenD (eVar 0))))) (e2 addD (eC (.int 1)) (e2 fdivD (eVar 8) (e1 lenD (eVar 0))))) (eVar 3)) (eC (.int 0))))
      (sApp 7 (eTup [(eVar 9), (eVar 10)]))
      sNext)
      (sAsg (e2 addD (eVar 8) (eC (.int 1))) (TL.gName 8))))
      (fun a env => ∃ ps at_ e9 e10, env = E ps at_ e9 e10 ∧ ps.Nodup ∧ (∀ p ∈ ps, 0 ≤ p.1 ∧ p.1 < a ∧ 0 ≤ p.2 ∧ p.2 < n) ∧ 11 ≤ at_ ∧ at_ ≤ 11 + 8 * a ∧ (ps.length : Int) ≤ 8 * a) (lo := 0) (n := n.toNat) (env := E [] 11 e9 e10)
      ⟨[], 11, e9, e10, rfl, List.nodup_nil, fun p h => (by cases h), by omega, by omega, by simp⟩ (by
      rintro a env ha0 ha1 ⟨ps, at_, e9, e10, rfl, hnd, hrg, hat1, hat2, hln⟩
      refine ⟨E ps at_ (some (.int a)) e10, rfl, ?_⟩
      obtain ⟨e, h2, ps', at', e10', rfl, hnd', hrg', hat1', hat2', hln'⟩ := for_range (g := TL.gName 10) (body := (sSeq (sIf (tV (e2 eqD (e2 modD (e2 fdivD (e1 intD (e2 ixD (eVar 0) (e2 modD (eVar 8) (e1 lenD (eVar 0))))) (e2 addD (eC (.int 1)) (e2 fdivD (eVar 8) (e1 lenD (eVar 0))))) (eVar 3)) (eC (.int 0))))
        (sApp 7 (eTup [(eVar 9), (eVar 10)]))
        sNext)
        (sAsg (e2 addD (eVar 8) (eC (.int 1))) (TL.gName 8))))
        (fun b env => ∃ ps at_ e10, env = E ps at_ (some (.int a)) e10 ∧ ps.Nodup ∧ (∀ p ∈ ps, 0 ≤ p.1 ∧ (p.1 < a ∨ (p.1 = a ∧ p.2 < b)) ∧ 0 ≤ p.2 ∧ p.2 < n) ∧ 11 ≤ at_ ∧ at_ ≤ 11 + 8 * a + b ∧ (ps.length : Int) ≤ 8 * a + b) (lo := 0) (n := n.toNat) (env := E ps at_ (some (.int a)) e10)
        ⟨ps, at_, e10, rfl, hnd, fun p hp => (by have := hrg p hp; omega), hat1, by omega, by omega⟩ (by
        rintro b env hb0 hb1 ⟨ps, at_, e10, rfl, hnd, hrg, hat1, hat2, hln⟩
        refine ⟨E ps at_ (some (.int a)) (some (.int b)), rfl, ?_⟩
        have hsz : (ps.map prD).length < sizeLine := by rw [List.length_map]; exact small' (by omega)
        have q1 : 0 ≤ at_ % L := Int.emod_nonneg _ (by omega)
        have q2 : at_ % L < L := Int.emod_lt_of_pos _ (by omega)
        have q3 : 0 ≤ at_ / L := Int.ediv_nonneg (by omega) (by omega)
        have q4 : at_ / L ≤ at_ := Int.ediv_le_self _ (by omega)
        by_cases hc : rs.getD (at_ % L).toNat 0 / (1 + at_ / L) % dense = 0
        · refine ⟨E (ps ++ [(a, b)]) (at_ + 1) (some (.int a)) (some (.int b)), .inl ?_, ps ++ [(a, b)], at_ + 1, _, rfl, ?_, ?_, by omega, by omega, ?_⟩
          · refine seq_go (e := E (ps ++ [(a, b)]) at_ (some (.int a)) (some (.int b))) (if_t ?_ ?_) ?_
            · simp only [E]
              walk_at "ev"
              simp only [List.length_map, hL, mod_n (show 0 < L by omega), fdiv_n (show 0 < L by omega) (show L < 1073741824 by omega), Option.bind_some, ixc _ q1 (show at_ % L < (rs.length : Int) by omega), int_i, add_i, fdiv_n (show 0 < 1 + at_ / L by omega) (show 1 + at_ / L < 1073741824 by omega), mod_n dpos, eq_i, hc, decide_true, toB]
            · simp only [E]
              walk_at "ev"
              rw [if_pos (small (by decide))]
              simp only [Option.bind_some, hsz, if_true, List.map_append, List.map_cons, List.map_nil, prD]
            · simp only [E]
              walk_at "ev"
          · rw [List.nodup_append]
            refine ⟨hnd, List.nodup_cons.mpr ⟨by simp, List.nodup_nil⟩, fun p hp q hq e => ?_⟩
            rw [List.mem_singleton] at hq
            subst e hq
            have := hrg _ hp
            simp only at this
            omega
          · intro p hp
            rcases List.mem_append.mp hp with hp | hp
            · have := hrg p hp; omega
            · rw [List.mem_singleton] at hp
              subst hp
              exact ⟨ha0, .inr ⟨rfl, by omega⟩, hb0, by omega⟩
          · simp only [List.length_append, List.length_singleton]
            omega
        · refine ⟨E ps (at_ + 1) (some (.int a)) (some (.int b)), .inl ?_, ps, at_ + 1, _, rfl, hnd, fun p hp => (by have := hrg p hp; omega), by omega, by omega, by omega⟩
          refine seq_go (e := E ps at_ (some (.int a)) (some (.int b))) (if_f ?_ rfl) ?_
          · simp only [E]
            walk_at "ev"
            simp only [List.length_map, hL, mod_n (show 0 < L by omega), fdiv_n (show 0 < L by omega) (show L < 1073741824 by omega), Option.bind_some, ixc _ q1 (show at_ % L < (rs.length : Int) by omega), int_i, add_i, fdiv_n (show 0 < 1 + at_ / L by omega) (show 1 + at_ / L < 1073741824 by omega), mod_n dpos, eq_i, hc, decide_false, toB]
          · simp only [E]
            walk_at "ev")
      refine ⟨_, .inl (for_go (ds := (rangeI 0 n.toNat).map .int) ?_ h2), ps', at', _, _, rfl, hnd', fun p hp => ?_, by omega, by omega, by omega⟩
      · simp only [E]
        walk_at "ev"
        exact rng_0 (by omega) (by omega)
      · have := hrg' p hp
        omega)
    refine ⟨ps, at_, e9', e10', hnd, by omega, fun p hp => ?_, for_go (ds := (rangeI 0 n.toNat).map .int) ?_ h2⟩
    · have := hrg p hp
      omega
    · walk_at "ev"
      exact rng_0 (by omega) (by omega)
  obtain ⟨ps, at_, e9', e10', hnd, hsz, hrg, harr⟩ := arr (some (.tuple [tI m0, tI m1])) (some (.int 1)) none none
  -- the arrows both ways
  have fin : ∃ qs : List (Int × Int), qs.Nodup ∧ (∀ p ∈ qs, 0 ≤ p.1 ∧ p.1 < n ∧ 0 ≤ p.2 ∧ p.2 < n) ∧ ∃ e9 e10 : Option D,
      sIf (tV (e2 eqD (e2 modD (e2 ixD (eVar 0) (eC (.int 2))) (eC (.int 5))) (eC (.int 1))))
      (sSeq (sAsg (e2 addLD (eVar 7) (eLc [9, 10] (iSeq (eVar 7)) (TL.gTup [(TL.gName 9), (TL.gName 10)]) (tV (e2 ninD (eTup [(eVar 10), (eVar 9)]) (eVar 7))) (eTup [(eVar 10), (eVar 9)]))) (TL.gName 7))
      (sAsg (eLc [9, 10] (iSeq (eVar 7)) (TL.gTup [(TL.gName 9), (TL.gName 10)]) (tV (e2 neD (eVar 9) (eVar 10))) (eTup [(eVar 9), (eVar 10)])) (TL.gName 7)))
      sNext [some (.list (rs.map .int)), some (.int most), some (.int n), some (.int dense), some (.int marked), some (.tuple [tI m0, tI m1]), some (.int 1), some (.list (ps.map prD)), some (.int at_), e9', e10']
      = some (.nx [some (.list (rs.map .int)), some (.int most), some (.int n), some (.int dense), some (.int marked), some (.tuple [tI m0, tI m1]), some (.int 1), some (.list (qs.map prD)), some (.int at_), e9, e10]) := by
    by_cases hc : rs.getD 2 0 % 5 = 1
    · let sw : List (Int × Int) := (ps.filter fun p => !decide ((p.2, p.1) ∈ ps)).map fun p => (p.2, p.1)
      have hsw : ∀ p ∈ sw, p ∉ ps ∧ (p.2, p.1) ∈ ps := by
        intro p hp
        obtain ⟨q, hq, rfl⟩ := List.mem_map.mp hp
        obtain ⟨h1, h2⟩ := List.mem_filter.mp hq
        have h2 : (!decide ((q.2, q.1) ∈ ps)) = true := h2
        rw [Bool.not_eq_true', decide_eq_false_iff_not] at h2
        exact ⟨h2, h1⟩
      have nsw : sw.Nodup := by
        refine List.pairwise_map.mpr ((hnd.filter _).imp fun {a b} h e => h ?_)
        have e1 := (Prod.mk.inj e).1
        have e2 := (Prod.mk.inj e).2
        exact Prod.ext e2 e1
      have nap : (ps ++ sw).Nodup := by
        rw [List.nodup_append]
        exact ⟨hnd, nsw, fun p hp q hq e => (hsw q hq).1 (e ▸ hp)⟩
      have hsz2 : sw.length ≤ 64 := by
        simp only [sw, List.length_map]
        exact Nat.le_trans (List.length_filter_le _ _) hsz
      refine ⟨(ps ++ sw).filter fun p => !decide (p.1 = p.2), nap.filter _, fun p hp => ?_, e9', e10', if_t ?_ (seq_go (e := [some (.list (rs.map .int)), some (.int most), some (.int n), some (.int dense), some (.int marked), some (.tuple [tI m0, tI m1]), some (.int 1), some (.list ((ps ++ sw).map prD)), some (.int at_), e9', e10']) (asg_go (e2_go rfl (lc_go (ds := ps.map prD) (rs := sw.map prD) rfl ?_) ?_)) (asg_go (lc_go (ds := (ps ++ sw).map prD) rfl ?_)))⟩
      · have hp := (List.mem_filter.mp hp).1
        rcases List.mem_append.mp hp with hp | hp
        · exact hrg p hp
        · have := hrg _ (hsw p hp).2
          simp only at this
          omega
      · walk_at "ev"
        simp only [i2, Option.bind_some, mod_n (show (0 : Int) < 5 by decide), eq_i, hc, decide_true, toB]
      · refine lc_filter (c := tV (e2 ninD (eTup [(eVar 10), (eVar 9)]) (eVar 7))) prD prD (fun p => !decide ((p.2, p.1) ∈ ps)) (fun p => (p.2, p.1)) fun p hp => ⟨_, rfl, ?_, fun _ => ?_⟩
        · have hin : ninD (.tuple [.int p.2, .int p.1]) (.list (ps.map prD)) = some (.bool (!decide ((p.2, p.1) ∈ ps))) := nin_of (in_lp (p.2, p.1) ps)
          simp only [wipeE]
          walk_at "ev"
          rw [if_pos (small (by decide))]
          simp only [Option.bind_some, hin, toB]
        · simp only [wipeE]
          walk_at "ev"
          rw [if_pos (small (by decide))]
          rfl
      · rw [List.map_append]
        exact cat_l (small (by simp only [List.length_map]; omega))
      · refine (lc_filter (c := tV (e2 neD (eVar 9) (eVar 10))) prD prD (fun p => !decide (p.1 = p.2)) id fun p hp => ⟨_, rfl, ?_, fun _ => ?_⟩).trans ?_
        · simp only [wipeE]
          walk_at "ev"
        · simp only [wipeE]
          walk_at "ev"
          rw [if_pos (small (by decide))]
          rfl
        · rw [List.map_id]
    · refine ⟨ps, hnd, hrg, e9', e10', if_f ?_ rfl⟩
      walk_at "ev"
      simp only [i2, Option.bind_some, mod_n (show (0 : Int) < 5 by decide), eq_i, hc, decide_false, toB]
  obtain ⟨qs, hnq, hrq, e9, e10, hfin⟩ := fin
  refine ⟨⟨n, m0, m1, isort ltPr qs⟩, run_rt rfl ?_, ⟨n1.1, (show n ≤ 8 by omega), am0, am1, asc2_of hnq hrq⟩, n1.2⟩
  have s4 : (4 : Nat) ≤ sizeLine := small (by decide)
  have s0 : (0 : Nat) ≤ sizeLine := Nat.zero_le _
  refine seq_go (e := [some (.list (rs.map .int)), some (.int most), some (.int n), none, none, none, none, none, none, none, none]) ?_ ?_
  · walk_at "ev"
    simp only [i0, Option.bind_some, mod_n (show 0 < most by omega), add_i, hn, int_i]
  refine seq_go (if_f ?_ rfl) ?_
  · walk_at "ev"
    simp only [i1, i2, special_ok, Option.bind_some, wdn, mod_n (show (0 : Int) < 6 by decide), eq_i, int_i, toB, le_i, Option.map_some]
    by_cases h6 : rs.getD 1 0 % 6 = 1
    · have h7 : ¬ (special (rs.getD 2 0 % 10)).n ≤ most := fun h => hsp ⟨h6, h⟩
      simp only [h6, h7, decide_true, decide_false, if_true, toB]
    · simp only [h6, decide_false, Bool.false_eq_true, if_false]
  refine seq_go (e := [some (.list (rs.map .int)), some (.int most), some (.int n), some (.int dense), none, none, none, none, none, none, none]) ?_ ?_
  · walk_at "ev"
    rw [if_pos (small (by decide))]
    simp only [i1, Option.bind_some, int_i, fdiv_n (show (0 : Int) < 6 by decide) (by decide), mod_n (show (0 : Int) < 4 by decide), four _ 2 3 5 3 (show 0 ≤ rs.getD 1 0 / 6 by omega), hdn]
  refine seq_go (e := [some (.list (rs.map .int)), some (.int most), some (.int n), some (.int dense), some (.int marked), none, none, none, none, none, none]) ?_ ?_
  · walk_at "ev"
    rw [if_pos (small (by decide))]
    simp only [i1, Option.bind_some, int_i, fdiv_n (show (0 : Int) < 24 by decide) (by decide), mod_n (show (0 : Int) < 4 by decide), four _ 2 9999 3 9999 (show 0 ≤ rs.getD 1 0 / 24 by omega), hmk]
  refine seq_go (e := [some (.list (rs.map .int)), some (.int most), some (.int n), some (.int dense), some (.int marked), some (.tuple []), none, none, none, none, none]) ?_ ?_
  · walk_at "ev"
  refine seq_go (e := [some (.list (rs.map .int)), some (.int most), some (.int n), some (.int dense), some (.int marked), some (.tuple [tI m0, tI m1]), some (.int 1), none, none, none, none]) ?_ ?_
  · refine for_go (ds := [.int 0, .int 1]) (by rfl) ?_
    refine for_cons rfl (asg_go (e2_go rfl (tup1_go (e1_go (e0 _ _ _ _ _ _) rfl)) (cat_t (small (by simp))))) ?_
    refine for_cons rfl (asg_go (e2_go rfl (tup1_go (e1_go (e1' _ _ _ _ _ _) rfl)) (cat_t (small (by simp))))) ?_
    rfl
  refine seq_go (e := [some (.list (rs.map .int)), some (.int most), some (.int n), some (.int dense), some (.int marked), some (.tuple [tI m0, tI m1]), some (.int 1), some (.list []), none, none, none]) ?_ ?_
  · walk_at "ev"
  refine seq_go (e := [some (.list (rs.map .int)), some (.int most), some (.int n), some (.int dense), some (.int marked), some (.tuple [tI m0, tI m1]), some (.int 1), some (.list []), some (.int 11), none, none]) ?_ ?_
  · walk_at "ev"
  refine seq_go harr (seq_go hfin (ret_go ?_))
  walk_at "ev"
  simp only [sorted_prs, Option.bind_some, tuple_l, Option.map_some]
  rw [if_pos (small (by simp))]
  rfl
end LB

set_option Elab.async false
set_option linter.all false
set_option maxRecDepth 100000
namespace LB
open PySem TL
structure PoolOk (rows : List Int) : Prop where
  lo : 0 < rows.length
  hi : rows.length ≤ 1000
  rng : ∀ x ∈ rows, 0 ≤ x ∧ x < 4096
end LB

set_option Elab.async false
set_option linter.all false
set_option maxRecDepth 100000
namespace LB
open PySem TL
inductive IsFmB (B : Nat) (top : Int) (W : List Str) : Nat → D → Prop
  | arrow {d : Nat} {x y : Int} : 0 ≤ x → x < top → 0 ≤ y → y < top → IsFmB B top W d (.tuple [.str "arrow", .int x, .int y])
  | same {d : Nat} {x y : Int} : 0 ≤ x → x < top → 0 ≤ y → y < top → IsFmB B top W d (.tuple [.str "same", .int x, .int y])
  | mark {d : Nat} {i x : Int} : 0 ≤ i → i < 2 → 0 ≤ x → x < top → IsFmB B top W d (.tuple [.str "mark", .int i, .int x])
  | tru {d : Nat} : IsFmB B top W d (.tuple [.str "true"])
  | fls {d : Nat} : IsFmB B top W d (.tuple [.str "false"])
  | not {d : Nat} {f : D} : Str.ofString "not" ∈ W → IsFmB B top W d f → IsFmB B top W (d + 1) (.tuple [.str "not", f])
  | and {d : Nat} {l : List D} : Str.ofString "and" ∈ W → l.length ≤ B → (∀ x ∈ l, IsFmB B top W d x) → IsFmB B top W (d + 1) (.tuple [.str "and", .tuple l])
  | or {d : Nat} {l : List D} : Str.ofString "or" ∈ W → l.length ≤ B → (∀ x ∈ l, IsFmB B top W d x) → IsFmB B top W (d + 1) (.tuple [.str "or", .tuple l])
  | some {d : Nat} {n : Int} {f : D} : Str.ofString "some" ∈ W → 0 ≤ n → n < top → IsFmB B top W d f → IsFmB B top W (d + 1) (.tuple [.str "some", .int n, f])
  | all {d : Nat} {n : Int} {f : D} : Str.ofString "all" ∈ W → 0 ≤ n → n < top → IsFmB B top W d f → IsFmB B top W (d + 1) (.tuple [.str "all", .int n, f])
  | least {d : Nat} {k n : Int} {f : D} : Str.ofString "least" ∈ W → 1 ≤ k → k ≤ 8 → 0 ≤ n → n < top → IsFmB B top W d f → IsFmB B top W (d + 1) (.tuple [.str "least", .int k, .int n, f])
abbrev IsFm := IsFmB 3
theorem tup2_go {a b : SE} {env : TL.Env} {x y : D} (h1 : a env = some x) (h2 : b env = some y) : eTup [a, b] env = some (.tuple [x, y]) := by
  simp only [eTup, eArgs, h1, h2, Option.bind_some, Option.map_some, List.length_cons, List.length_nil]
  rw [if_pos (small (by decide))]
theorem tV_go {a : SE} {env : TL.Env} {b : Bool} (h : a env = some (.bool b)) : tV a env = some b := by
  simp only [tV, h, Option.bind_some, toB]
theorem tOr_t {a b : ST} {env : TL.Env} (h : a env = some true) : TL.tOr a b env = some true := by
  simp only [TL.tOr, h, Option.bind_some, if_true]
theorem tOr_f {a b : ST} {env : TL.Env} {o : Option Bool} (h : a env = some false) (h2 : b env = o) : TL.tOr a b env = o := by
  simp only [TL.tOr, h, Option.bind_some, Bool.false_eq_true, if_false]
  exact h2
end LB

set_option Elab.async false
set_option linter.all false
set_option maxRecDepth 100000
namespace LB
open PySem TL
local macro_rules | `(tactic| walk_at "ev") => `(tactic| simp only [List.length_cons, List.length_nil, if_true, List.map_cons, List.map_nil, List.replicate, List.cons_append, List.nil_append, sSeq, sAsg, eLst, eTup, eArgs, Option.bind_some, Option.map_some, eC, eVar, eCall, e1, e2, eIf, eAnd, eOr, eNot, eChain, TL.gName, TL.gTup, gAll, List.getD_cons_zero, List.getD_cons_succ, List.set_cons_zero, List.set_cons_succ, sFor, iRng1, iRng2, iSeq, itemsD, toI, toB, sIf, sRet, sNext, tV, TL.tAnd, TL.tOr, TL.tNot, add_i, sub_i, lt_i, le_i, gt_i, ge_i, eq_i, ne_i, int_i, len_l, len_t, tuple_l, tuple_t, list_l, list_t, outD, Bool.false_eq_true, if_false, sApp, Nat.zero_le, wipeE, cYes, eSlice, ePart])
inductive Nice (b : Nat) : Nat → D → Prop
  | int {d : Nat} {i : Int} : i.natAbs ≤ b → Nice b d (.int i)
  | bool {d : Nat} (c : Bool) : Nice b d (.bool c)
  | str {d : Nat} {s : Str} : s.length ≤ b → PyData.strOk s = true → Nice b d (.str s)
  | none {d : Nat} : Nice b d .none
  | list {d : Nat} (ds : List D) : Nice b d (.list ds)
  | tup {d : Nat} {ds : List D} : ds.length ≤ b → (∀ x ∈ ds, Nice b d x) → Nice b (d + 1) (.tuple ds)
theorem Nice.mono {b b' d d' : Nat} {v : D} (h : Nice b d v) (hb : b ≤ b') (hd : d ≤ d') : Nice b' d' v := by
  induction h generalizing d' with
  | int h => exact .int (by omega)
  | bool c => exact .bool c
  | str h ho => exact .str (by omega) ho
  | none => exact .none
  | list ds => exact .list ds
  | tup h1 h2 ih =>
    obtain ⟨e, rfl⟩ : ∃ e, d' = e + 1 := ⟨d' - 1, by omega⟩
    exact .tup (by omega) fun x hx => ih x hx (by omega)
theorem bools_of (l : List Bool) : boolsOf (l.map .bool) = some l := by
  induction l with
  | nil => rfl
  | cons n r ih => simp only [List.map_cons, boolsOf, ih, Option.map_some]
theorem all_b (l : List Bool) : allD (.list (l.map .bool)) = some (.bool (l.all id)) := by
  simp only [allD, bools_of, Option.map_some]
theorem none_of {α β γ : Type} (p : α → Bool) (f : α → β) (g : β → γ) : ∀ zs : List α, decide (((((zs.filter fun a => !p a).map f).map g).length : Int) = 0) = zs.all p
  | [] => rfl
  | a :: zs => by
    have ih := none_of p f g zs
    cases q : p a
    · simp [q]
      omega
    · simpa [q] using ih
theorem some_of {α β γ : Type} (p : α → Bool) (f : α → β) (g : β → γ) (zs : List α) : decide ((0 : Int) < ((((zs.filter fun a => !p a).map f).map g).length : Int)) = !zs.all p := by
  rw [← none_of p f g zs]
  generalize ((((zs.filter fun a => !p a).map f).map g).length : Nat) = n
  by_cases h : n = 0
  · subst h; rfl
  · have h1 : ¬ ((n : Int) = 0) := by omega
    have h2 : (0 : Int) < n := by omega
    rw [decide_eq_true h2, decide_eq_false h1]
    rfl
theorem ix_at {α : Type} (ι : α → D) (z : α) {l : List α} {i : Int} (h0 : 0 ≤ i) (h : i < l.length) : ixD (.tuple (l.map ι)) (.int i) = some (ι (l.getD i.toNat z)) := by
  refine ix_ti h0 ?_
  have h' : i.toNat < l.length := by omega
  rw [List.getElem?_map, List.getD_eq_getElem?_getD, List.getElem?_eq_getElem h']
  rfl
section
variable {α : Type} (ι : α → D) (lt : α → α → Bool) (z : α) (l : List α) (hl : l.length ≤ 1000)
include hl
end
end LB

set_option Elab.async false
set_option linter.all false
set_option maxRecDepth 100000
namespace LB
open PySem TL
local macro_rules | `(tactic| walk_at "ev") => `(tactic| simp only [List.length_cons, List.length_nil, if_true, List.map_cons, List.map_nil, List.replicate, List.cons_append, List.nil_append, sSeq, sAsg, eLst, eTup, eArgs, Option.bind_some, Option.map_some, eC, eVar, eCall, e1, e2, eIf, eAnd, eOr, eNot, eChain, TL.gName, TL.gTup, gAll, List.getD_cons_zero, List.getD_cons_succ, List.set_cons_zero, List.set_cons_succ, sFor, iRng1, iRng2, iSeq, itemsD, toI, toB, sIf, sRet, sNext, tV, TL.tAnd, TL.tOr, TL.tNot, add_i, sub_i, lt_i, le_i, gt_i, ge_i, eq_i, ne_i, int_i, len_l, len_t, tuple_l, tuple_t, list_l, list_t, outD, Bool.false_eq_true, if_false, sApp, Nat.zero_le, wipeE, cYes, eSlice, ePart])
end LB

set_option Elab.async false
set_option linter.all false
set_option maxRecDepth 100000
namespace LB
open PySem TL
local macro_rules | `(tactic| walk_at "ev") => `(tactic| simp only [List.length_cons, List.length_nil, if_true, List.map_cons, List.map_nil, List.replicate, List.cons_append, List.nil_append, sSeq, sAsg, eLst, eTup, eArgs, Option.bind_some, Option.map_some, eC, eVar, eCall, e1, e2, eIf, eAnd, eOr, eNot, eChain, TL.gName, TL.gTup, gAll, List.getD_cons_zero, List.getD_cons_succ, List.set_cons_zero, List.set_cons_succ, sFor, iRng1, iRng2, iSeq, itemsD, toI, toB, sIf, sRet, sNext, tV, TL.tAnd, TL.tOr, TL.tNot, add_i, sub_i, lt_i, le_i, gt_i, ge_i, eq_i, ne_i, int_i, len_l, len_t, tuple_l, tuple_t, list_l, list_t, outD, Bool.false_eq_true, if_false, sApp, Nat.zero_le, wipeE, cYes, eSlice, ePart])
end LB

set_option Elab.async false
set_option linter.all false
set_option maxRecDepth 100000
namespace LB
open PySem TL
local macro_rules | `(tactic| walk_at "ev") => `(tactic| simp only [List.length_cons, List.length_nil, if_true, List.map_cons, List.map_nil, List.replicate, List.cons_append, List.nil_append, sSeq, sAsg, eLst, eTup, eArgs, Option.bind_some, Option.map_some, eC, eVar, eCall, e1, e2, eIf, eAnd, eOr, eNot, eChain, TL.gName, TL.gTup, gAll, List.getD_cons_zero, List.getD_cons_succ, List.set_cons_zero, List.set_cons_succ, sFor, iRng1, iRng2, iSeq, itemsD, toI, toB, sIf, sRet, sNext, tV, TL.tAnd, TL.tOr, TL.tNot, add_i, sub_i, lt_i, le_i, gt_i, ge_i, eq_i, ne_i, int_i, len_l, len_t, tuple_l, tuple_t, list_l, list_t, outD, Bool.false_eq_true, if_false, sApp, Nat.zero_le, wipeE, cYes, eSlice, ePart])
end LB

set_option Elab.async false
set_option linter.all false
set_option maxRecDepth 100000
namespace LB
open PySem TL
theorem shaped_s {w : Str} (h : PyData.strOk w = true) : SeqAt.shaped (.str w) = true := by simp [SeqAt.shaped, PyData.canLay0, PyData.depth, h]
theorem eqv_s (a b : Str) : PyData.eqv (.str a) (.str b) = decide (a = b) := by
  simp [PyData.eqv]
  by_cases h : a = b <;> simp [h]
theorem eq_s {a b : Str} (ha : PyData.strOk a = true) (hb : PyData.strOk b = true) : eqD (.str a) (.str b) = some (.bool (decide (a = b))) := by
  unfold eqD
  rw [if_pos ⟨shaped_s ha, shaped_s hb⟩, eqv_s]
theorem and_go {a b : SE} {env : TL.Env} {x y : Bool} (h1 : a env = some (.bool x)) (h2 : x = true → b env = some (.bool y)) : eAnd a b env = some (.bool (x && y)) := by
  simp only [eAnd, h1, Option.bind_some, toB]
  cases x with
  | true => rw [if_pos rfl, h2 rfl]; rfl
  | false => rfl
theorem call1_go {m : List D → Option D} {a : SE} {env : TL.Env} {x : D} {o : Option D} (h1 : a env = some x) (h2 : m [x] = o) : eCall m [a] env = o := by
  simp only [eCall, eArgs, h1, Option.bind_some, Option.map_some]
  exact h2
theorem call3_go {m : List D → Option D} {a b c : SE} {env : TL.Env} {x y z : D} {o : Option D} (h1 : a env = some x) (h2 : b env = some y) (h3 : c env = some z) (h4 : m [x, y, z] = o) : eCall m [a, b, c] env = o := by
  simp only [eCall, eArgs, h1, h2, h3, Option.bind_some, Option.map_some]
  exact h4
end LB

set_option Elab.async false
set_option linter.all false
set_option maxRecDepth 100000
namespace LB
open PySem TL
def six : List Str := ["not", "and", "or", "some", "all", "least"]
end LB

set_option Elab.async false
set_option linter.all false
set_option maxRecDepth 100000
namespace LB
open PySem TL
theorem IsFmB.mono {B : Nat} {top : Int} {W W' : List Str} (hW : ∀ w ∈ W, w ∈ W') {d d' : Nat} {f : D} (h : IsFmB B top W d f) (hd : d ≤ d') : IsFmB B top W' d' f := by
  induction h generalizing d' with
  | arrow h1 h2 h3 h4 => exact .arrow h1 h2 h3 h4
  | same h1 h2 h3 h4 => exact .same h1 h2 h3 h4
  | mark h1 h2 h3 h4 => exact .mark h1 h2 h3 h4
  | tru => exact .tru
  | fls => exact .fls
  | not h1 h2 ih => obtain ⟨e, rfl⟩ : ∃ e, d' = e + 1 := ⟨d' - 1, by omega⟩; exact .not (hW _ h1) (ih (by omega))
  | and h1 h2 h3 ih => obtain ⟨e, rfl⟩ : ∃ e, d' = e + 1 := ⟨d' - 1, by omega⟩; exact .and (hW _ h1) h2 fun x hx => ih x hx (by omega)
  | or h1 h2 h3 ih => obtain ⟨e, rfl⟩ : ∃ e, d' = e + 1 := ⟨d' - 1, by omega⟩; exact .or (hW _ h1) h2 fun x hx => ih x hx (by omega)
  | some h1 h2 h3 h4 ih => obtain ⟨e, rfl⟩ : ∃ e, d' = e + 1 := ⟨d' - 1, by omega⟩; exact .some (hW _ h1) h2 h3 (ih (by omega))
  | all h1 h2 h3 h4 ih => obtain ⟨e, rfl⟩ : ∃ e, d' = e + 1 := ⟨d' - 1, by omega⟩; exact .all (hW _ h1) h2 h3 (ih (by omega))
  | least h1 h2 h3 h4 h5 h6 ih => obtain ⟨e, rfl⟩ : ∃ e, d' = e + 1 := ⟨d' - 1, by omega⟩; exact .least (hW _ h1) h2 h3 h4 h5 (ih (by omega))
end LB

set_option Elab.async false
set_option linter.all false
set_option maxRecDepth 100000
namespace LB
open PySem TL
end LB

set_option Elab.async false
set_option linter.all false
set_option maxRecDepth 100000
namespace LB
open PySem TL
def rowD (vs : List Int) : D := .tuple (vs.map .int ++ List.replicate (6 - vs.length) .none)
def tv (w : Wd) : Nat → D → List Int → Bool
  | 0, _, _ => false
  | n + 1, .tuple [.str s], vs => decide (s = "true")
  | n + 1, .tuple [.str s, .tuple l], vs => if s = "not" then !tv w n (.tuple l) vs else if s = "and" then l.all fun x => tv w n x vs else l.any fun x => tv w n x vs
  | n + 1, .tuple [.str s, .int x, .int y], vs => if s = "same" then decide (vs.getD x.toNat 0 = vs.getD y.toNat 0) else if s = "arrow" then decide ((vs.getD x.toNat 0, vs.getD y.toNat 0) ∈ w.ar) else decide (vs.getD y.toNat 0 ∈ if x = 0 then w.m0 else w.m1)
  | n + 1, .tuple [.str s, .int x, .tuple l], vs => if s = "some" then (rangeI 0 w.n.toNat).any fun a => tv w n (.tuple l) (vs.set x.toNat a) else (rangeI 0 w.n.toNat).all fun a => tv w n (.tuple l) (vs.set x.toNat a)
  | n + 1, .tuple [.str _, .int k, .int x, .tuple l], vs => decide (k ≤ ((rangeI 0 w.n.toNat).countP fun a => tv w n (.tuple l) (vs.set x.toNat a) : Nat))
  | _ + 1, _, _ => false
section
variable {w : Wd} {n : Nat} {vs : List Int}
end
section
variable {w : Wd} {n : Nat} {f g : D} {vs : List Int} {x k : Int} (h0 : 0 ≤ x) (hx : x < vs.length) (h6 : vs.length ≤ 6) (hg : ixD f (.int (-1)) = some g) (t : Int → Bool) (ht : ∀ a, m__law_truth n [w.d, g, rowD (vs.set x.toNat a)] = some (.bool (t a)))
include h0 hx h6 hg ht
end
end LB

set_option Elab.async false
set_option linter.all false
set_option maxRecDepth 100000
namespace LB
open PySem TL
def ownI : D → List Int
  | .tuple [.str s, .int x, .int y] => if s = "mark" then [y] else [x, y]
  | _ => []
def bndI : D → List Int
  | .tuple [.str _, .int x, .tuple _] => [x]
  | .tuple [.str _, .int _, .int x, _] => [x]
  | _ => []
def prts : D → List D
  | .tuple [.str s, .tuple l] => if s = "not" then [.tuple l] else l
  | .tuple [.str _, .int _, .tuple l] => [.tuple l]
  | .tuple [.str _, .int _, .int _, g] => [g]
  | _ => []
def fv : Nat → D → List Int
  | 0, _ => []
  | n + 1, f => ownI f ++ (prts f).flatMap fun p => (fv n p).filter fun x => !decide (x ∈ bndI f)
def dpt : Nat → D → Int
  | 0, _ => 0
  | n + 1, f => ((prts f).map (dpt n)).foldl max 0 + ((bndI f).length : Int)
end LB

set_option Elab.async false
set_option linter.all false
set_option maxRecDepth 100000
namespace LB
open PySem TL
end LB

set_option Elab.async false
set_option linter.all false
set_option maxRecDepth 100000
namespace LB
open PySem TL
abbrev rat (row : List Int) (k : Int) : Int := row.getD k.toNat 0
def part (w : Wd) (row : List Int) : Wd where
  n := row.length
  m0 := (rangeI 0 row.length).filter fun k => decide (rat row k ∈ w.m0)
  m1 := (rangeI 0 row.length).filter fun k => decide (rat row k ∈ w.m1)
  ar := (rangeI 0 row.length).flatMap fun j => ((rangeI 0 row.length).filter fun k => decide ((rat row j, rat row k) ∈ w.ar)).map fun k => (j, k)
theorem lc2_typed {α γ : Type} {g : SG} {c : ST} {it1 : SI} {vs1 : List Nat} {g1 : SG} {c1 : ST} {e : SE} {env : TL.Env} (ι : α → D) (κ : γ → D) (G : α → List γ) : ∀ {zs : List α},
    (∀ a ∈ zs, ∃ env1 ds, g (ι a) env = some env1 ∧ c env1 = some true ∧ it1 env1 = some ds ∧ lcGo g1 c1 e (wipeE env1 vs1) ds = some ((G a).map κ)) → lcGo2 g c it1 vs1 g1 c1 e env (zs.map ι) = some ((zs.flatMap G).map κ)
  | [], _ => rfl
  | a :: zs, h => by
    obtain ⟨env1, ds, h1, h2, h3, h4⟩ := h a List.mem_cons_self
    have ih := lc2_typed ι κ G (zs := zs) fun b hb => h b (List.mem_cons_of_mem _ hb)
    simp only [List.map_cons, lcGo2, h1, h2, h3, h4, ih, Option.bind_some, if_true, Option.map_some, List.flatMap_cons, List.map_append]
theorem flat_len2 {α β : Type} {U : α → List β} {B : Nat} : ∀ {ps : List α}, (∀ p ∈ ps, (U p).length ≤ B) → (ps.flatMap U).length ≤ ps.length * B
  | [], _ => by simp
  | p :: ps, h => by
    rw [List.flatMap_cons, List.length_append, List.length_cons, Nat.add_mul]
    have := h p List.mem_cons_self
    have := flat_len2 (U := U) (ps := ps) fun q hq => h q (List.mem_cons_of_mem _ hq)
    omega
section
variable {row : List Int} {n : Nat} (hrow : (rangeI 0 n).filter (fun a => decide (a ∈ row)) = row) (P : Int → Bool)
include hrow
end
end LB

set_option Elab.async false
set_option linter.all false
set_option maxRecDepth 100000
namespace LB
open PySem TL
section
variable {env e : TL.Env} {c c1 c2 : Row} {a b : WE} {d d1 d2 : D} {o : WOut}
end
section
variable {w : Wd} {g : D} {r : Row} {x : Int} {o : Option Int} {T : List D → Row → Option (D × Row)} {t : Int → Bool} (h0 : 0 ≤ x) (hx : r[x.toNat]? = some o) (hT : ∀ a, T [w.d, g] (r.set x.toNat (some a)) = some (.bool (t a), r.set x.toNat (some a)))
include h0 hx hT
variable (hw1 : 0 ≤ w.n) (hw2 : w.n ≤ 1000)
include hw1 hw2
end
def Cv (r : Row) (l : List Int) : Prop := ∀ x ∈ l, ∃ a, r[x.toNat]? = some (some a)
theorem Cv.set {r : Row} {l l' : List Int} {x : Int} {a : Int} (hx : x.toNat < r.length) (h : Cv r l) (hl : ∀ y ∈ l', y ∈ l ∨ y = x) : Cv (r.set x.toNat (some a)) l' := fun y hy => by
  by_cases e : x.toNat = y.toNat
  · rw [← e]
    exact ⟨a, List.getElem?_set_self hx⟩
  · rcases hl y hy with h1 | h1
    · obtain ⟨b, hb⟩ := h y h1
      exact ⟨b, by rw [List.getElem?_set_ne e]; exact hb⟩
    · exact absurd (by rw [h1]) e
end LB

set_option Elab.async false
set_option linter.all false
set_option maxRecDepth 100000
namespace LB
open PySem TL
def rowO (r : Row) : D := .tuple (r.map ofO)
section
variable {w : Wd} {n : Nat} {f g : D} {r : Row} {x k : Int} (h0 : 0 ≤ x) (hx : x.toNat < r.length) (h6 : r.length ≤ 6) (hg : ixD f (.int (-1)) = some g) (t : Int → Bool) (ht : ∀ a, m__law_truth n [w.d, g, rowO (r.set x.toNat (some a))] = some (.bool (t a)))
include h0 hx h6 hg ht
end
end LB

set_option Elab.async false
set_option linter.all false
set_option maxRecDepth 100000
namespace LB
open PySem TL
inductive Tr : Nat → D → Prop
  | int {d : Nat} (i : Int) : Tr d (.int i)
  | bool {d : Nat} (c : Bool) : Tr d (.bool c)
  | str {d : Nat} {s : Str} : PyData.strOk s = true → Tr d (.str s)
  | none {d : Nat} : Tr d .none
  | tup {d : Nat} {ds : List D} : ds.length ≤ 1000 → (∀ x ∈ ds, Tr d x) → Tr (d + 1) (.tuple ds)
  | lst {d : Nat} {ds : List D} : ds.length ≤ 1000 → (∀ x ∈ ds, Tr d x) → Tr (d + 1) (.list ds)
theorem equal_refl : ∀ {d : Nat} {v : D}, Tr d v → ∀ {n : Nat}, d < n → m__law_equal n [v, v] = some (.bool true) := by
  have seqs : ∀ {n : Nat} {ds : List D} (v : D), (v = .tuple ds ∨ v = .list ds) → ds.length ≤ 1000 → (∀ x ∈ ds, m__law_equal n [x, x] = some (.bool true)) → m__law_equal (n + 1) [v, v] = some (.bool true) := fun {n ds} v hv hl h => by
    have len : lenD v = some (.int ds.length) := by rcases hv with rfl | rfl <;> rfl
    have at_ : ∀ k : Int, k ∈ rangeI 0 ds.length → ∃ x ∈ ds, ixD v (.int k) = some x := fun k hk => by
      obtain ⟨h0, h1⟩ := rangeI_mem.mp hk
      have hk' : k.toNat < ds.length := by omega
      refine ⟨ds[k.toNat], List.getElem_mem hk', ?_⟩
      rcases hv with rfl | rfl
      · exact ix_ti h0 (List.getElem?_eq_getElem hk')
      · exact ix_li h0 (List.getElem?_eq_getElem hk')
    have kind : ∃ k : Int, m__law_kind [v] = some (.int k) := by
      rcases hv with rfl | rfl
      · exact ⟨4, by kernel_rfl⟩
      · exact ⟨5, by kernel_rfl⟩
    obtain ⟨kd, hkd⟩ := kind
    rw [m__law_equal]
    have c1 : tV (e2 neD (eCall m__law_kind [(eVar 0)]) (eCall m__law_kind [(eVar 1)])) [some v, some v, none, none, none] = some false := tV_go (e2_go (call1_go rfl hkd) (call1_go rfl hkd) ((ne_i _ _).trans (by simp)))
    have c2 : TL.tOr (tV (e1 (isiD .tuple) (eVar 1))) (tV (e1 (isiD .list) (eVar 1))) [some v, some v, none, none, none] = some true := by
      rcases hv with rfl | rfl <;> kernel_rfl
    have c3 : tV (e2 neD (e1 lenD (eVar 0)) (e1 lenD (eVar 1))) [some v, some v, none, none, none] = some false := tV_go (e2_go (e1_go rfl len) (e1_go rfl len) ((ne_i _ _).trans (by simp)))
    have hlc := lc_filter (g := TL.gName 3) (c := TL.tNot (tV (eCall (m__law_equal n) [(e2 ixD (eVar 0) (eVar 3)), (e2 ixD (eVar 1) (eVar 3))]))) (e := eVar 3) (env := wipeE [some v, some v, none, none, none] [3]) PyData.int PyData.int (fun _ => false) id (zs := rangeI 0 ds.length) fun k hk => by
      obtain ⟨x, hx, hix⟩ := at_ k hk
      refine ⟨_, rfl, ?_, fun _ => rfl⟩
      simp only [TL.tNot]
      rw [tV_go (b := true) (by
        simp only [eCall, eArgs]
        rw [e2_go rfl rfl hix]
        simp only [Option.bind_some]
        rw [e2_go rfl rfl hix]
        exact h x hx)]
      rfl
    have hz : (rangeI 0 ds.length).filter (fun _ => false) = [] := List.filter_eq_nil_iff.mpr fun _ _ => by simp
    rw [hz] at hlc
    refine run_rt rfl (seq_go (if_f c1 rfl) (seq_rt (if_t c2 (seq_go (if_f c3 rfl) (ret_go (e2_go (e1_go (lc_go (ds := (rangeI 0 ds.length).map .int) ?_ hlc) rfl) rfl rfl))))))
    simp only [iRng1]
    rw [e1_go rfl len]
    simp only [Option.bind_some, toI]
    rw [rng_0 (by omega) (by omega)]
    rfl
  intro d v h
  induction h with
  | int i =>
    intro n hn
    obtain ⟨n, rfl⟩ : ∃ m, n = m + 1 := ⟨n - 1, by omega⟩
    rw [m__law_equal]
    refine run_rt rfl (seq_go (if_f (by kernel_rfl) rfl) (seq_go (if_f (by kernel_rfl) rfl) (seq_go (if_f (by kernel_rfl) rfl) (ret_go (e2_go rfl rfl ((eq_i _ _).trans (by simp)))))))
  | bool c =>
    intro n hn
    obtain ⟨n, rfl⟩ : ∃ m, n = m + 1 := ⟨n - 1, by omega⟩
    rw [m__law_equal]
    cases c <;> kernel_rfl
  | @str d s hs =>
    intro n hn
    obtain ⟨n, rfl⟩ : ∃ m, n = m + 1 := ⟨n - 1, by omega⟩
    rw [m__law_equal]
    refine run_rt rfl (seq_go (if_f (by kernel_rfl) rfl) (seq_go (if_f (by kernel_rfl) rfl) (seq_go (if_f (by kernel_rfl) rfl) (ret_go (e2_go rfl rfl ((eq_s hs hs).trans (by simp)))))))
  | none =>
    intro n hn
    obtain ⟨n, rfl⟩ : ∃ m, n = m + 1 := ⟨n - 1, by omega⟩
    rw [m__law_equal]
    kernel_rfl
  | @tup d ds hl h ih =>
    intro n hn
    obtain ⟨n, rfl⟩ : ∃ m, n = m + 1 := ⟨n - 1, by omega⟩
    exact seqs _ (.inl rfl) hl fun x hx => ih x hx (by omega)
  | @lst d ds hl h ih =>
    intro n hn
    obtain ⟨n, rfl⟩ : ∃ m, n = m + 1 := ⟨n - 1, by omega⟩
    exact seqs _ (.inr rfl) hl fun x hx => ih x hx (by omega)
theorem tr_ints {d : Nat} {l : List Int} (h : l.length ≤ 1000) : Tr (d + 1) (tI l) := .tup (by rw [List.length_map]; exact h) fun x hx => by
  obtain ⟨i, _, rfl⟩ := List.mem_map.mp hx
  exact .int i
section
variable {cs : List Nat} (h1 : 1 ≤ cs.length) (h8 : cs.length ≤ 8) (hc : ∀ c ∈ cs, c ∈ [97, 98, 99, 45])
include h1 h8 hc
end
end LB

set_option Elab.async false
set_option linter.all false
set_option maxRecDepth 100000
namespace LB
open PySem TL
def fc : Nat → D → Nat
  | 0, _ => 0
  | n + 1, f => (ownI f).length + ((prts f).map (fc n)).sum
structure Pz (top : Int) (e d : Nat) (f g : D) : Prop where
  fm : IsFm top six e g
  pu : ∀ N, e < N → m__law_pushed N [g] = some (.bool true)
  dp : ∀ N M, e < N → d < M → dpt N g ≤ dpt M f
  ct : ∀ N M, e < N → d < M → fc N g ≤ fc M f
  fr : ∀ N M, e < N → d < M → ∀ x ∈ fv N g, x ∈ fv M f
theorem Pz.mono {top : Int} {e e' d : Nat} {f g : D} (h : Pz top e d f g) (he : e ≤ e') : Pz top e' d f g :=
  ⟨h.fm.mono (fun w h => h) he, fun N hN => h.pu N (by omega), fun N M hN hM => h.dp N M (by omega) hM, fun N M hN hM => h.ct N M (by omega) hM, fun N M hN hM => h.fr N M (by omega) hM⟩
end LB

set_option Elab.async false
set_option linter.all false
set_option maxRecDepth 100000
namespace LB
open PySem TL
theorem ext_go {i : Nat} {a : SE} {env : TL.Env} {ds es : List D} (h1 : a env = some (.list es)) (h2 : env.getD i none = some (.list ds)) (h3 : ds.length + es.length ≤ 1000000) : sExt i a env = some (.nx (env.set i (some (.list (ds ++ es))))) := by
  simp only [sExt, h1, Option.bind_some, h2]
  rw [if_pos (small h3)]
theorem nnD_list {o : Option D} {ds : List D} (h : o = some (.list ds)) : nnD o = some (.list ds) := by rw [h]; rfl
def nl : Nat → D → List Int
  | 0, _ => []
  | n + 1, f => (ownI f ++ bndI f) ++ (prts f).flatMap (nl n)
end LB

set_option Elab.async false
set_option linter.all false
set_option maxRecDepth 100000
namespace LB
open PySem TL
end LB

set_option Elab.async false
set_option linter.all false
set_option maxRecDepth 100000
namespace LB
open PySem TL
theorem lst1_go {a : SE} {env : TL.Env} {x : D} (h : a env = some x) : eLst [a] env = some (.list [x]) := by
  simp only [eLst, eArgs, h, Option.bind_some, Option.map_some, List.length_cons, List.length_nil]
  rw [if_pos (small (by decide))]
def rowW (vs : List Int) : Row := vs.map some ++ List.replicate (6 - vs.length) none
section
variable {w : Wd} (hw1 : 0 ≤ w.n) (hw2 : w.n ≤ 1000) {B : Nat} {top : Int} {W : List Str} {d : Nat} {f : D} (h : IsFmB B top W d f) (ht : top ≤ 6) {vs : List Int} (h6 : vs.length ≤ 6) (hc : Cv (rowW vs) (fv 60 f))
include hw1 hw2 h ht h6 hc
end
def Ag (vs us l : List Int) : Prop := ∀ x ∈ l, vs.getD x.toNat 0 = us.getD x.toNat 0
theorem getD_set2 {vs : List Int} {x y : Nat} {a : Int} (h : x < vs.length) : (vs.set x a).getD y 0 = if x = y then a else vs.getD y 0 := by
  rw [List.getD_eq_getElem?_getD, List.getD_eq_getElem?_getD]
  by_cases e : x = y
  · subst e
    rw [List.getElem?_set_self h, if_pos rfl]
    rfl
  · rw [List.getElem?_set_ne e, if_neg e]
theorem Ag.set {vs us l l' : List Int} {x a : Int} (hx : x.toNat < vs.length) (hu : x.toNat < us.length) (h : Ag vs us l) (hl : ∀ y ∈ l', y ∈ l ∨ y = x) : Ag (vs.set x.toNat a) (us.set x.toNat a) l' := fun y hy => by
  rw [getD_set2 hx, getD_set2 hu]
  split
  · rfl
  · rename_i e
    rcases hl y hy with q | q
    · exact h y q
    · exact absurd (by rw [q]) e
end LB

set_option Elab.async false
set_option linter.all false
set_option maxRecDepth 100000
namespace LB
open PySem TL
def extT (n : Nat) (t : List Int) : List (List Int) := (rangeI 0 n).map fun a => t ++ [a]
def allT (n : Nat) : Nat → List (List Int)
  | 0 => [[]]
  | k + 1 => (allT n k).flatMap (extT n)
theorem allT_len (n : Nat) : ∀ k, (allT n k).length = n ^ k
  | 0 => rfl
  | k + 1 => by
    have : ∀ l : List (List Int), (l.flatMap (extT n)).length = l.length * n := fun l => by
      induction l with
      | nil => simp
      | cons a l ih => rw [List.flatMap_cons, List.length_append, ih, List.length_cons, Nat.add_mul, extT, List.length_map, rangeI_len]; omega
    rw [allT, this, allT_len n k, Nat.pow_succ]
theorem allT_mem {n : Nat} : ∀ {k : Nat} {t : List Int}, t ∈ allT n k → t.length = k ∧ ∀ v ∈ t, 0 ≤ v ∧ v < n
  | 0, t, h => by
    rw [List.mem_singleton.mp h]
    exact ⟨rfl, fun v hv => by cases hv⟩
  | k + 1, t, h => by
    obtain ⟨s, hs, h⟩ := List.mem_flatMap.mp h
    obtain ⟨a, ha, rfl⟩ := List.mem_map.mp h
    obtain ⟨h1, h2⟩ := allT_mem hs
    refine ⟨by rw [List.length_append, h1]; rfl, fun v hv => ?_⟩
    rcases List.mem_append.mp hv with hv | hv
    · exact h2 v hv
    · rw [List.mem_singleton.mp hv]
      have := rangeI_mem.mp ha
      omega
theorem ext_ok {n : Nat} (hn : n ≤ 1000) {t : List Int} (ht : t.length ≤ 1000) {env : TL.Env} {i0 i5 i6 : Nat} (h0 : ∀ d, ((wipeE env [i6]).set i6 d).getD i0 none = some (.int n)) (h00 : env.getD i0 none = some (.int n)) (h5 : ∀ d, ((wipeE env [i6]).set i6 d).getD i5 none = some (tI t)) (h6 : ∀ d, ((wipeE env [i6]).set i6 d).getD i6 none = d) :
    eLc [i6] (iRng1 (eVar i0)) (TL.gName i6) cYes (e2 addD (eVar i5) (eTup [(eVar i6)])) env = some (.list ((extT n t).map tI)) := by
  have := lc_map (g := TL.gName i6) (e := e2 addD (eVar i5) (eTup [(eVar i6)])) (env := wipeE env [i6]) PyData.int tI (fun a => t ++ [a]) (zs := rangeI 0 n) fun a ha => ⟨_, rfl, e2_go (h5 _) (tup1_go (h6 _)) ((cat_t (small (by rw [List.length_map, List.length_singleton]; omega))).trans (by rw [tI, List.map_append]; rfl))⟩
  refine lc_go (ds := (rangeI 0 n).map .int) ?_ this
  simp only [iRng1, eVar, h00, Option.bind_some, toI]
  rw [rng_0 (by omega) (by omega)]
  rfl
theorem tuples_ok {n k : Nat} (hn : n ≤ 1000) (hk : k ≤ 100) (hs : ∀ j, j ≤ k → n ^ j ≤ 1000000) : m__law_tuples [.int n, .int k] = some (.list ((allT n k).map tI)) := by
  let E := fun (r e3 e4 e5 e6 : Option D) => [some (PyData.int n), some (PyData.int k), r, e3, e4, e5, e6]
  have inner : ∀ (ts acc : List (List Int)) (r e3 e5 e6 : Option D), (∀ t ∈ ts, t.length ≤ 1000) → (acc ++ ts.flatMap (extT n)).length ≤ 1000000 → ∃ e5' e6', forGo (TL.gName 5) (sAsg (e2 addD (eVar 4) (eLc [6] (iRng1 (eVar 0)) (TL.gName 6) cYes (e2 addD (eVar 5) (eTup [(eVar 6)])))) (TL.gName 4)) (ts.map tI) (E r e3 (some (.list (acc.map tI))) e5 e6) = some (.nx (E r e3 (some (.list ((acc ++ ts.flatMap (extT n)).map tI))) e5' e6')) := by
    intro ts
    induction ts with
    | nil => exact fun acc r e3 e5 e6 _ _ => ⟨e5, e6, by simp only [List.flatMap_nil, List.append_nil]; rfl⟩
    | cons t ts ih =>
      intro acc r e3 e5 e6 ht hl
      rw [List.flatMap_cons, ← List.append_assoc] at hl
      obtain ⟨e5', e6', h⟩ := ih (acc ++ extT n t) r e3 (some (tI t)) e6 (fun z hz => ht z (List.mem_cons_of_mem _ hz)) hl
      refine ⟨e5', e6', for_cons rfl (asg_go (e2_go rfl (ext_ok hn (ht t List.mem_cons_self) (fun _ => rfl) rfl (fun _ => rfl) fun _ => rfl) (cat_l (small ?_)))) ?_⟩
      · rw [List.length_append, List.length_append] at hl
        simp only [List.length_map]
        omega
      · rw [← List.map_append, List.flatMap_cons, ← List.append_assoc]
        exact h
  obtain ⟨e, hfor, e3, e4, e5, e6, rfl⟩ := for_range (g := TL.gName 3) (body := sSeq (sAsg (eLst []) (TL.gName 4))
      (sSeq (sFor (iSeq (eVar 2)) (TL.gName 5)
      (sAsg (e2 addD (eVar 4) (eLc [6] (iRng1 (eVar 0)) (TL.gName 6) cYes (e2 addD (eVar 5) (eTup [(eVar 6)])))) (TL.gName 4)))
      (sAsg (eVar 4) (TL.gName 2)))) (fun j env => ∃ e3 e4 e5 e6, env = E (some (.list ((allT n j.toNat).map tI))) e3 e4 e5 e6) (lo := 0) (n := k) (env := E (some (.list [.tuple []])) none none none none) ⟨_, _, _, _, rfl⟩ fun j env h0 h1 ⟨e3, e4, e5, e6, he⟩ => by
    subst he
    have hz : (0 : Int) + (k : Int) = k := by omega
    rw [hz] at h1
    have e : (j + 1).toNat = j.toNat + 1 := by omega
    obtain ⟨e5', e6', h⟩ := inner (allT n j.toNat) [] (some (.list ((allT n j.toNat).map tI))) (some (.int j)) e5 e6 (fun t ht => by have := (allT_mem ht).1; omega) (by
      have := hs (j.toNat + 1) (by omega)
      rw [← allT_len] at this
      exact this)
    refine ⟨_, rfl, E (some (.list ((allT n (j.toNat + 1)).map tI))) (some (.int j)) (some (.list ((allT n (j.toNat + 1)).map tI))) e5' e6', .inl (seq_go (e := E (some (.list ((allT n j.toNat).map tI))) (some (.int j)) (some (.list [])) e5 e6) (asg_go rfl) (seq_go (for_go (ds := (allT n j.toNat).map tI) rfl h) (asg_go rfl))), by rw [e]; exact ⟨_, _, _, _, rfl⟩⟩
  refine run_rt rfl (seq_go (e := E (some (.list [.tuple []])) none none none none) (asg_go rfl) (seq_go (for_go (ds := (rangeI 0 k).map .int) ?_ hfor) (ret_go ?_)))
  · simp only [iRng1, eVar, E, List.getD_cons_succ, List.getD_cons_zero, Option.bind_some, toI]
    rw [rng_0 (by omega) (by omega)]
    rfl
  · rw [show ((0 : Int) + (k : Int)).toNat = k by omega]
    rfl
end LB

set_option Elab.async false
set_option linter.all false
set_option maxRecDepth 100000
namespace LB
open PySem TL
theorem ptuples_ok {n k : Nat} (hn : n ≤ 1000) (hk : k ≤ 100) (hs : ∀ j, j ≤ k → n ^ j ≤ 1000000) : m_tuples_of [.int n, .int k] = some (.list ((allT n k).map tI)) := by
  let E := fun (r e3 e4 e5 : Option D) => [some (PyData.int n), some (PyData.int k), r, e3, e4, e5]
  obtain ⟨e, hfor, e3, rfl⟩ := for_range (g := TL.gName 3) (body := (sAsg (eLc2 [4, 5] (iSeq (eVar 2)) (TL.gName 4) cYes [5] (iRng1 (eVar 0)) (TL.gName 5) cYes (e2 addD (eVar 4) (eTup [(eVar 5)]))) (TL.gName 2))) (fun j env => ∃ e3, env = E (some (.list ((allT n j.toNat).map tI))) e3 none none) (lo := 0) (n := k) (env := E (some (.list [.tuple []])) none none none) ⟨_, rfl⟩ fun j env h0 h1 ⟨e3, he⟩ => by
    subst he
    have hz : (0 : Int) + (k : Int) = k := by omega
    rw [hz] at h1
    have e : (j + 1).toNat = j.toNat + 1 := by omega
    refine ⟨_, rfl, E (some (.list ((allT n (j.toNat + 1)).map tI))) (some (.int j)) none none, .inl (asg_go ?_), by rw [e]; exact ⟨_, rfl⟩⟩
    have h5 := lc2_typed (g := TL.gName 4) (c := cYes) (it1 := iRng1 (eVar 0)) (vs1 := [5]) (g1 := TL.gName 5) (c1 := cYes) (e := e2 addD (eVar 4) (eTup [(eVar 5)])) (env := wipeE (E (some (.list ((allT n j.toNat).map tI))) (some (.int j)) none none) [4, 5]) tI tI (extT n) (zs := allT n j.toNat) fun t ht => ⟨_, _, rfl, rfl, by
      show ((some (PyData.int (n : Int))).bind fun x => (toI x).bind fun n => rangeD 0 n) = some ((rangeI 0 n).map .int)
      simp only [Option.bind_some, toI]
      rw [rng_0 (by omega) (by omega)]
      rfl, lc_map (g := TL.gName 5) PyData.int tI (fun a => t ++ [a]) fun a ha => ⟨_, rfl, e2_go rfl (tup1_go rfl) ((cat_t (small (by
        have := (allT_mem ht).1
        simp; omega))).trans (by rw [tI, List.map_append]; rfl))⟩⟩
    have hl := hs (j.toNat + 1) (by omega)
    rw [← allT_len] at hl
    simp only [eLc2]
    show (some ((allT n j.toNat).map tI)).bind _ = _
    simp only [Option.bind_some]
    show ((lcGo2 (gName 4) cYes (iRng1 (eVar 0)) [5] (gName 5) cYes (e2 addD (eVar 4) (eTup [eVar 5])) (wipeE (E (some (PyData.list (List.map tI (allT n j.toNat)))) (some (PyData.int j)) none none) [4, 5]) (List.map tI (allT n j.toNat))).bind _) = _
    rw [h5]
    simp only [Option.bind_some]
    rw [if_pos (small (by rw [List.length_map]; exact hl))]
    rfl
  refine run_rt rfl (seq_go (e := E (some (.list [.tuple []])) none none none) (asg_go rfl) (seq_go (for_go (ds := (rangeI 0 k).map .int) ?_ hfor) (ret_go ?_)))
  · simp only [iRng1, eVar, E, List.getD_cons_succ, List.getD_cons_zero, Option.bind_some, toI]
    rw [rng_0 (by omega) (by omega)]
    rfl
  · rw [show ((0 : Int) + (k : Int)).toNat = k by omega]
    rfl
def lx (t u : List Int) : Bool := lexL (fun a b : Int => decide (a < b)) t u
theorem lex_app {t : List Int} {a b : Int} (h : a < b) : lx (t ++ [a]) (t ++ [b]) = true := by
  induction t with
  | nil =>
    show (if decide (a < b) = true then true else _) = true
    rw [if_pos (decide_eq_true h)]
  | cons x t ih =>
    show (if decide (x < x) = true then true else if decide (x < x) = true then false else lx (t ++ [a]) (t ++ [b])) = true
    rw [if_neg (by simp), if_neg (by simp)]
    exact ih
theorem lex_ext : ∀ {t u : List Int} {a b : Int}, t.length = u.length → lx t u = true → lx (t ++ [a]) (u ++ [b]) = true
  | [], [], _, _, _, h => by cases h
  | [], _ :: _, _, _, h, _ => by cases h
  | _ :: _, [], _, _, h, _ => by cases h
  | x :: t, y :: u, a, b, hl, h => by
    have h : (if decide (x < y) = true then true else if decide (y < x) = true then false else lx t u) = true := h
    show (if decide (x < y) = true then true else if decide (y < x) = true then false else lx (t ++ [a]) (u ++ [b])) = true
    by_cases h1 : decide (x < y) = true
    · rw [if_pos h1]
    · rw [if_neg h1] at h ⊢
      by_cases h2 : decide (y < x) = true
      · rw [if_pos h2] at h; cases h
      · rw [if_neg h2] at h ⊢
        exact lex_ext (by simpa using hl) h
theorem allT_asc (n : Nat) : ∀ k, (allT n k).Pairwise fun t u => lx t u = true
  | 0 => List.pairwise_singleton _ _
  | k + 1 => by
    have ih := allT_asc n k
    rw [allT]
    rw [List.flatMap, List.pairwise_flatten]
    refine ⟨fun l hl => ?_, ?_⟩
    · obtain ⟨t, ht, rfl⟩ := List.mem_map.mp hl
      unfold extT
      rw [List.pairwise_map]
      exact (rangeI_asc 0 n).imp fun h => lex_app h
    · rw [List.pairwise_map]
      refine (List.Pairwise.and_mem.mp ih).imp fun ⟨h1, h2, h⟩ x hx y hy => ?_
      obtain ⟨a, _, rfl⟩ := List.mem_map.mp hx
      obtain ⟨b, _, rfl⟩ := List.mem_map.mp hy
      exact lex_ext (by rw [(allT_mem h1).1, (allT_mem h2).1]) h
section
variable {w : Wd} (hw1 : 0 ≤ w.n) (hw2 : w.n ≤ 1000) {top : Int} {W : List Str} {d : Nat} {f : D} (h : IsFm top W d f) (ht : top ≤ 6) {k : Nat} (h6 : k ≤ 6) (hd : d < 20) (hs : ∀ j, j ≤ k → w.n.toNat ^ j ≤ 1000000) (hc : ∀ x ∈ fv 60 f, 0 ≤ x ∧ x < (k : Int))
include hw1 hw2 h ht h6 hd hs hc
end
end LB

set_option Elab.async false
set_option linter.all false
set_option maxRecDepth 100000
namespace LB
open PySem TL
theorem ix_tI {ps : List Int} {i : Int} (h0 : 0 ≤ i) (h : i < ps.length) : ixD (tI ps) (.int i) = some (.int (ps.getD i.toNat 0)) := by
  refine ix_ti h0 ?_
  have h' : i.toNat < ps.length := by omega
  rw [List.getElem?_map, List.getD_eq_getElem?_getD, List.getElem?_eq_getElem h']
  rfl
theorem asc1_of {n : Int} {l : List Int} (hn : l.Nodup) (hr : ∀ a ∈ l, 0 ≤ a ∧ a < n) : Asc1 n (isort ltI l) :=
  ⟨(isort_lt swoI antiI hn).imp fun h => of_decide_eq_true h, fun a ha => hr a ((isort_perm l).mem_iff.mp ha)⟩
def nmI (ps : List Int) (a : Int) : Int := ps.getD a.toNat 0
theorem nm_rng {ps : List Int} {n : Int} (n0 : 0 ≤ n) (hp : ps.Perm (rangeI 0 n.toNat)) {a : Int} (h0 : 0 ≤ a) (h1 : a < n) : 0 ≤ nmI ps a ∧ nmI ps a < n := by
  have hlen := hp.length_eq
  rw [rangeI_len] at hlen
  have := rangeI_mem.mp (hp.mem_iff.mp (TL.getD_mem (rs := ps) (i := a.toNat) (by omega)))
  unfold nmI
  omega
theorem nm_inj {ps : List Int} {n : Int} (n0 : 0 ≤ n) (hp : ps.Perm (rangeI 0 n.toNat)) {a b : Int} (a0 : 0 ≤ a) (a1 : a < n) (b0 : 0 ≤ b) (b1 : b < n) (e : nmI ps a = nmI ps b) : a = b := by
  have hlen := hp.length_eq
  rw [rangeI_len] at hlen
  have nd : ps.Nodup := hp.symm.nodup ((rangeI_asc 0 n.toNat).imp fun h e => by omega)
  unfold nmI at e
  have ha : a.toNat < ps.length := by omega
  have hb : b.toNat < ps.length := by omega
  rw [List.getD_eq_getElem?_getD, List.getElem?_eq_getElem ha, List.getD_eq_getElem?_getD, List.getElem?_eq_getElem hb] at e
  have e : ps[a.toNat] = ps[b.toNat] := e
  rcases Nat.lt_trichotomy a.toNat b.toNat with h | h | h
  · exact absurd e (List.pairwise_iff_getElem.mp nd _ _ ha hb h)
  · omega
  · exact absurd e.symm (List.pairwise_iff_getElem.mp nd _ _ hb ha h)
def Wd.ren (w : Wd) (ps : List Int) : Wd := ⟨w.n, isort ltI (w.m0.map (nmI ps)), isort ltI (w.m1.map (nmI ps)), isort ltPr (w.ar.map fun p => (nmI ps p.1, nmI ps p.2))⟩
theorem map_nodup {α β : Type} {f : α → β} : ∀ {l : List α}, (∀ a ∈ l, ∀ b ∈ l, f a = f b → a = b) → l.Nodup → (l.map f).Nodup
  | [], _, _ => List.nodup_nil
  | a :: l, h, hn => by
    have hn := List.nodup_cons.mp hn
    refine List.nodup_cons.mpr ⟨fun hm => ?_, map_nodup (fun x hx y hy => h x (List.mem_cons_of_mem _ hx) y (List.mem_cons_of_mem _ hy)) hn.2⟩
    obtain ⟨b, hb, e⟩ := List.mem_map.mp hm
    have := h b (List.mem_cons_of_mem _ hb) a List.mem_cons_self e
    exact hn.1 (this ▸ hb)
theorem Wd.ren_ok {w : Wd} (ok : w.Ok) {ps : List Int} (hp : ps.Perm (rangeI 0 w.n.toNat)) : (w.ren ps).Ok := by
  have lo := ok.lo
  have hi := ok.hi
  have one : ∀ l : List Int, Asc1 w.n l → Asc1 w.n (isort ltI (l.map (nmI ps))) := fun l h => asc1_of (map_nodup (fun a ha b hb e => nm_inj (by omega) hp (h.rng a ha).1 (h.rng a ha).2 (h.rng b hb).1 (h.rng b hb).2 e) (h.asc.imp fun h e => by omega)) fun x hx => by
    obtain ⟨a, ha, rfl⟩ := List.mem_map.mp hx
    exact nm_rng (by omega) hp (h.rng a ha).1 (h.rng a ha).2
  refine ⟨lo, hi, one _ ok.a0, one _ ok.a1, asc2_of (map_nodup (fun p hp1 q hq e => ?_) ok.ar.nodup) fun x hx => ?_⟩
  · have r1 := ok.ar.rng p hp1
    have r2 := ok.ar.rng q hq
    have e1 := nm_inj (by omega) hp r1.1 r1.2.1 r2.1 r2.2.1 (Prod.mk.inj e).1
    have e2 := nm_inj (by omega) hp r1.2.2.1 r1.2.2.2 r2.2.2.1 r2.2.2.2 (Prod.mk.inj e).2
    exact Prod.ext e1 e2
  · obtain ⟨p, hp1, rfl⟩ := List.mem_map.mp hx
    have r1 := ok.ar.rng p hp1
    have a := nm_rng (by omega) hp r1.1 r1.2.1
    have b := nm_rng (by omega) hp r1.2.2.1 r1.2.2.2
    exact ⟨a.1, a.2, b.1, b.2⟩
end LB

set_option Elab.async false
set_option linter.all false
set_option maxRecDepth 100000
namespace LB
open PySem TL
theorem tup2D {a b : SE} {env : TL.Env} {x y : D} (h1 : a env = some x) (h2 : b env = some y) : eTup [a, b] env = some (.tuple [x, y]) := by
  simp only [eTup, eArgs, h1, h2, Option.bind_some, Option.map_some, List.length_cons, List.length_nil]
  rw [if_pos (small (by decide))]
theorem tVD {a : SE} {env : TL.Env} {b : Bool} (h : a env = some (.bool b)) : tV a env = some b := by
  simp only [tV, h, Option.bind_some, toB]
end LB

set_option Elab.async false
set_option linter.all false
set_option maxRecDepth 100000
namespace LB
open PySem TL
def Wd.trn (w : Wd) : Wd := ⟨w.n, w.m0, w.m1, isort ltPr (w.ar.map fun p => (p.2, p.1))⟩
theorem isort_mem {α : Type} {lt : α → α → Bool} {l : List α} {x : α} : x ∈ isort lt l ↔ x ∈ l := (isort_perm l).mem_iff
section
variable {w : Wd} (ok : w.Ok) {ps : List Int} (hp : ps.Perm (rangeI 0 w.n.toNat))
include ok hp
theorem mem_ren1 {l : List Int} (hl : Asc1 w.n l) {a : Int} (a0 : 0 ≤ a) (a1 : a < w.n) : nmI ps a ∈ isort ltI (l.map (nmI ps)) ↔ a ∈ l := by
  rw [isort_mem]
  refine ⟨fun h => ?_, fun h => List.mem_map_of_mem h⟩
  obtain ⟨b, hb, e⟩ := List.mem_map.mp h
  have := hl.rng b hb
  rw [← nm_inj (by have := ok.lo; omega) hp this.1 this.2 a0 a1 e]
  exact hb
theorem mem_ren2 {a b : Int} (a0 : 0 ≤ a) (a1 : a < w.n) (b0 : 0 ≤ b) (b1 : b < w.n) : (nmI ps a, nmI ps b) ∈ (w.ren ps).ar ↔ (a, b) ∈ w.ar := by
  unfold Wd.ren
  rw [isort_mem]
  refine ⟨fun h => ?_, fun h => List.mem_map.mpr ⟨(a, b), h, rfl⟩⟩
  obtain ⟨q, hq, e⟩ := List.mem_map.mp h
  have r := ok.ar.rng q hq
  have n0 : 0 ≤ w.n := by have := ok.lo; omega
  have e1 := nm_inj n0 hp r.1 r.2.1 a0 a1 (Prod.mk.inj e).1
  have e2 := nm_inj n0 hp r.2.2.1 r.2.2.2 b0 b1 (Prod.mk.inj e).2
  rw [← e1, ← e2]
  exact hq
def InR (n : Int) (vs : List Int) : Prop := ∀ v ∈ vs, 0 ≤ v ∧ v < n
omit ok hp in
theorem InR.set {n : Int} {vs : List Int} (h : InR n vs) {x : Nat} {a : Int} (a0 : 0 ≤ a) (a1 : a < n) : InR n (vs.set x a) := fun v hv => by
  rcases List.mem_or_eq_of_mem_set hv with h1 | rfl
  · exact h v h1
  · exact ⟨a0, a1⟩
omit ok hp in
theorem InR.get {n : Int} {vs : List Int} (h : InR n vs) {x : Int} (hx : x < vs.length) (h0 : 0 ≤ x) : 0 ≤ vs.getD x.toNat 0 ∧ vs.getD x.toNat 0 < n := h _ (TL.getD_mem (by omega))
omit ok hp in
theorem getD_mapI {vs : List Int} {x : Int} (h0 : 0 ≤ x) (hx : x < vs.length) {g : Int → Int} : (vs.map g).getD x.toNat 0 = g (vs.getD x.toNat 0) := by
  rw [List.getD_eq_getElem?_getD, List.getD_eq_getElem?_getD, List.getElem?_map, List.getElem?_eq_getElem (by omega)]
  rfl
end
structure Tz (top : Int) (W : List Str) (d : Nat) (w : Wd) (f g : D) : Prop where
  fm : IsFm top W d g
  tr : ∀ n vs, d < n → tv w.trn n g vs = tv w n f vs
end LB

set_option Elab.async false
set_option linter.all false
set_option maxRecDepth 100000
namespace LB
open PySem TL
theorem ne_bbA (a b : Bool) : neD (.bool a) (.bool b) = some (.bool (!decide (a = b))) := by cases a <;> cases b <;> kernel_rfl
theorem eq_bb (a b : Bool) : eqD (.bool a) (.bool b) = some (.bool (decide (a = b))) := by cases a <;> cases b <;> kernel_rfl
theorem goes_ok (w u : Wd) (p q : Int × Int) : m_goes [w.d, u.d, prD p, prD q] = some (.bool (fitB w u p q)) ∧ m__law_fit [w.d, u.d, prD p, prD q] = some (.bool (fitB w u p q)) := by
  obtain ⟨a, b⟩ := p
  obtain ⟨c, d⟩ := q
  let E1 := fun e8 : Option D => [some w.d, some u.d, some (prD (a, b)), some (prD (c, d)), some (.int a), some (.int b), some (.int c), some (.int d), e8]
  let E2 := [some w.d, some u.d, some (prD (a, b)), some (prD (c, d)), some (.int a), some (.int b), some (.int c), some (.int d)]
  have w1 : ixD w.d (.int 1) = some (.tuple [tI w.m0, tI w.m1]) := rfl
  have u1 : ixD u.d (.int 1) = some (.tuple [tI u.m0, tI u.m1]) := rfl
  have w2 : ixD w.d (.int 2) = some (tP w.ar) := rfl
  have u2 : ixD u.d (.int 2) = some (tP u.ar) := rfl
  have same : ∀ {env : TL.Env}, env.getD 4 none = some (.int a) → env.getD 5 none = some (.int b) → env.getD 6 none = some (.int c) → env.getD 7 none = some (.int d) → tV (e2 neD (e2 eqD (eVar 4) (eVar 6)) (e2 eqD (eVar 5) (eVar 7))) env = some (!decide (decide (a = c) = decide (b = d))) := fun h4 h5 h6 h7 =>
    tVD (e2_go (e2_go h4 h6 (eq_i _ _)) (e2_go h5 h7 (eq_i _ _)) (ne_bbA _ _))
  have mk : ∀ {env : TL.Env} {e : SE} {i : Int} {mw mu : List Int}, env.getD 0 none = some w.d → env.getD 1 none = some u.d → env.getD 4 none = some (.int a) → env.getD 5 none = some (.int b) → e env = some (.int i) → ixD (.tuple [tI w.m0, tI w.m1]) (.int i) = some (tI mw) → ixD (.tuple [tI u.m0, tI u.m1]) (.int i) = some (tI mu) →
      (e2 neD (e2 inD (eVar 4) (e2 ixD (e2 ixD (eVar 0) (eC (.int 1))) e)) (e2 inD (eVar 5) (e2 ixD (e2 ixD (eVar 1) (eC (.int 1))) e))) env = some (.bool (!decide (decide (a ∈ mw) = decide (b ∈ mu)))) := fun h0 h1 h4 h5 he hw hu =>
    e2_go (e2_go h4 (e2_go (e2_go h0 rfl w1) he hw) (in_ti a _)) (e2_go h5 (e2_go (e2_go h1 rfl u1) he hu) (in_ti b _)) (ne_bbA _ _)
  have arr : ∀ {env : TL.Env}, env.getD 0 none = some w.d → env.getD 1 none = some u.d → env.getD 4 none = some (.int a) → env.getD 5 none = some (.int b) → env.getD 6 none = some (.int c) → env.getD 7 none = some (.int d) →
      (eAnd (e2 eqD (e2 inD (eTup [(eVar 4), (eVar 6)]) (e2 ixD (eVar 0) (eC (.int 2)))) (e2 inD (eTup [(eVar 5), (eVar 7)]) (e2 ixD (eVar 1) (eC (.int 2))))) (e2 eqD (e2 inD (eTup [(eVar 6), (eVar 4)]) (e2 ixD (eVar 0) (eC (.int 2)))) (e2 inD (eTup [(eVar 7), (eVar 5)]) (e2 ixD (eVar 1) (eC (.int 2)))))) env
      = some (.bool (decide (decide ((a, c) ∈ w.ar) = decide ((b, d) ∈ u.ar)) && decide (decide ((c, a) ∈ w.ar) = decide ((d, b) ∈ u.ar)))) := fun h0 h1 h4 h5 h6 h7 =>
    and_go (e2_go (e2_go (tup2D h4 h6) (e2_go h0 rfl w2) (in_tp (a, c) w.ar)) (e2_go (tup2D h5 h7) (e2_go h1 rfl u2) (in_tp (b, d) u.ar)) (eq_bb _ _)) fun _ => e2_go (e2_go (tup2D h6 h4) (e2_go h0 rfl w2) (in_tp (c, a) w.ar)) (e2_go (tup2D h7 h5) (e2_go h1 rfl u2) (in_tp (d, b) u.ar)) (eq_bb _ _)
  have hF : fitB w u (a, b) (c, d) = (decide (decide (a = c) = decide (b = d)) && (decide (decide (a ∈ w.m0) = decide (b ∈ u.m0)) && decide (decide (a ∈ w.m1) = decide (b ∈ u.m1))) && (decide (decide ((a, c) ∈ w.ar) = decide ((b, d) ∈ u.ar)) && decide (decide ((c, a) ∈ w.ar) = decide ((d, b) ∈ u.ar)))) := rfl
  rw [hF]
  have anyl : (e1 anyD (eLc [8] (iSeq (eTup [(eC (.int 0)), (eC (.int 1))])) (TL.gName 8) cYes (e2 neD (e2 inD (eVar 4) (e2 ixD (e2 ixD (eVar 0) (eC (.int 1))) (eVar 8))) (e2 inD (eVar 5) (e2 ixD (e2 ixD (eVar 1) (eC (.int 1))) (eVar 8)))))) (E1 none) = some (.bool (!decide (decide (a ∈ w.m0) = decide (b ∈ u.m0)) || !decide (decide (a ∈ w.m1) = decide (b ∈ u.m1)))) := by
    refine e1_go (x := .list [.bool (!decide (decide (a ∈ w.m0) = decide (b ∈ u.m0))), .bool (!decide (decide (a ∈ w.m1) = decide (b ∈ u.m1)))]) (lc_go (ds := [.int 0, .int 1]) ?_ ?_) ?_
    · simp only [iSeq]
      rw [tup2D rfl rfl]
      rfl
    · have z0 := mk (env := E1 (some (.int 0))) (e := eVar 8) (i := 0) (mw := w.m0) (mu := u.m0) rfl rfl rfl rfl rfl rfl rfl
      have z1 := mk (env := E1 (some (.int 1))) (e := eVar 8) (i := 1) (mw := w.m1) (mu := u.m1) rfl rfl rfl rfl rfl rfl rfl
      simp only [lcGo, E1, TL.gName, wipeE, List.set_cons_zero, List.set_cons_succ, Option.bind_some, cYes, if_true] at z0 z1 ⊢
      rw [z0, z1]
      rfl
    · show anyD (.list ([!decide (decide (a ∈ w.m0) = decide (b ∈ u.m0)), !decide (decide (a ∈ w.m1) = decide (b ∈ u.m1))].map .bool)) = _
      simp only [anyD, bools_of, Option.map_some, List.any_cons, List.any_nil, id, Bool.or_false]
  have unp1 : ∀ rest : SS, sSeq (sAsg (eVar 2) (TL.gTup [(TL.gName 4), (TL.gName 5)])) (sSeq (sAsg (eVar 3) (TL.gTup [(TL.gName 6), (TL.gName 7)])) rest) [some w.d, some u.d, some (prD (a, b)), some (prD (c, d)), none, none, none, none, none] = rest (E1 none) := fun rest => rfl
  have unp2 : ∀ rest : SS, sSeq (sAsg (eVar 2) (TL.gTup [(TL.gName 4), (TL.gName 5)])) (sSeq (sAsg (eVar 3) (TL.gTup [(TL.gName 6), (TL.gName 7)])) rest) [some w.d, some u.d, some (prD (a, b)), some (prD (c, d)), none, none, none, none] = rest E2 := fun rest => rfl
  have s1 := same (env := E1 none) rfl rfl rfl rfl
  have s2 := same (env := E2) rfl rfl rfl rfl
  have a1 := arr (env := E1 none) rfl rfl rfl rfl rfl rfl
  have a2 := arr (env := E2) rfl rfl rfl rfl rfl rfl
  have m0' := mk (env := E2) (e := eC (.int 0)) (i := 0) (mw := w.m0) (mu := u.m0) rfl rfl rfl rfl rfl rfl rfl
  have m1' := mk (env := E2) (e := eC (.int 1)) (i := 1) (mw := w.m1) (mu := u.m1) rfl rfl rfl rfl rfl rfl rfl
  generalize decide (decide (a = c) = decide (b = d)) = k1 at s1 s2 ⊢
  generalize decide (decide (a ∈ w.m0) = decide (b ∈ u.m0)) = k2 at anyl m0' ⊢
  generalize decide (decide (a ∈ w.m1) = decide (b ∈ u.m1)) = k3 at anyl m1' ⊢
  generalize (decide (decide ((a, c) ∈ w.ar) = decide ((b, d) ∈ u.ar)) && decide (decide ((c, a) ∈ w.ar) = decide ((d, b) ∈ u.ar))) = k4 at a1 a2 ⊢
  cases k1 with
  | false => exact ⟨run_rt rfl ((unp1 _).trans (seq_rt (if_t s1 (ret_go rfl)))), run_rt rfl ((unp2 _).trans (seq_rt (if_t s2 (ret_go rfl))))⟩
  | true =>
    cases k2 with
    | false => exact ⟨run_rt rfl ((unp1 _).trans (seq_go (if_f s1 rfl) (seq_rt (if_t (tVD anyl) (ret_go rfl))))), run_rt rfl ((unp2 _).trans (seq_go (if_f s2 rfl) (seq_rt (if_t (tOr_t (tVD m0')) (ret_go rfl)))))⟩
    | true =>
      cases k3 with
      | false => exact ⟨run_rt rfl ((unp1 _).trans (seq_go (if_f s1 rfl) (seq_rt (if_t (tVD anyl) (ret_go rfl))))), run_rt rfl ((unp2 _).trans (seq_go (if_f s2 rfl) (seq_rt (if_t (tOr_f (tVD m0') (tVD m1')) (ret_go rfl)))))⟩
      | true => exact ⟨run_rt rfl ((unp1 _).trans (seq_go (if_f s1 rfl) (seq_go (if_f (tVD anyl) rfl) (ret_go a1)))), run_rt rfl ((unp2 _).trans (seq_go (if_f s2 rfl) (seq_go (if_f (tOr_f (tVD m0') (tVD m1')) rfl) (ret_go a2))))⟩
end LB

set_option Elab.async false
set_option linter.all false
set_option maxRecDepth 100000
namespace LB
open PySem TL
def prsT (b : List Int) : List (Int × Int) := (rangeI 0 b.length).map fun k => (k, nmI b k)
def okX (w u : Wd) (b : List Int) (x : Int) : Bool := (prsT b ++ [((b.length : Int), x)]).all fun p => fitB w u (b.length, x) p
def lkF (w u : Wd) (L : List Int → List (List Int)) (b : List Int) (x : Int) : List (List Int) := if okX w u b x = true then L (b ++ [x]) else []
def lk (w u : Wd) : Nat → List Int → List (List Int)
  | 0, b => [b]
  | m + 1, b => (rangeI 0 u.n.toNat).flatMap (lkF w u (lk w u m) b)
theorem lk_len (w u : Wd) : ∀ m b, (lk w u m b).length ≤ u.n.toNat ^ m
  | 0, b => by rw [lk]; simp
  | m + 1, b => by
    rw [lk]
    have := flat_len2 (U := lkF w u (lk w u m) b) (B := u.n.toNat ^ m) (ps := rangeI 0 u.n.toNat) fun x _ => by
      unfold lkF
      split
      · exact lk_len w u m _
      · simp
    rw [rangeI_len] at this
    rw [Nat.pow_succ, Nat.mul_comm]
    exact this
theorem likes_ok {w u : Wd} (hu0 : 0 ≤ u.n) (hu1 : u.n ≤ 1000) : ∀ (m : Nat) {b : List Int} {n : Nat}, (b.length : Int) + m = w.n → m < n → b.length + m ≤ 100 → (∀ j, j ≤ m → u.n.toNat ^ j ≤ 1000000) → m_likenesses_2 n [w.d, u.d, tI b] = some (.list ((lk w u m b).map tI)) := by
  intro m
  induction m with
  | zero =>
    intro b n hn hm hl hb
    obtain ⟨n, rfl⟩ : ∃ k, n = k + 1 := ⟨n - 1, by omega⟩
    rw [m_likenesses_2]
    let E := [some w.d, some u.d, some (tI b), some (.int b.length), none, none, none, none, none]
    refine nnD_list (run_rt rfl (seq_go (e := E) (asg_go (e1_go rfl ((len_t _).trans (by rw [List.length_map])))) (seq_rt (if_t (tV_go (e2_go rfl (e2_go rfl rfl (wdn w)) ((eq_i _ _).trans ?_))) (ret_go (lst1_go rfl))))))
    rw [show (b.length : Int) = w.n by omega, decide_eq_true rfl]
  | succ m ih =>
    intro b n hn hm hl hb
    obtain ⟨n, rfl⟩ : ∃ k, n = k + 1 := ⟨n - 1, by omega⟩
    rw [m_likenesses_2]
    let E := fun (acc : List (List Int)) (e5 e6 : Option D) => [some w.d, some u.d, some (tI b), some (PyData.int b.length), some (PyData.list (acc.map tI)), e5, e6, none, none]
    have hpr : ∀ acc x e6, (e2 addD (eLc [7] (iRng1 (eVar 3)) (TL.gName 7) cYes (eTup [(eVar 7), (e2 ixD (eVar 2) (eVar 7))])) (eLst [(eTup [(eVar 3), (eVar 5)])])) (E acc (some (.int x)) e6) = some (.list ((prsT b ++ [((b.length : Int), x)]).map prD)) := fun acc x e6 => by
      have h1 := lc_map (g := TL.gName 7) (e := eTup [(eVar 7), (e2 ixD (eVar 2) (eVar 7))]) (env := wipeE (E acc (some (.int x)) e6) [7]) PyData.int prD (fun k => (k, nmI b k)) (zs := rangeI 0 b.length) fun k hk => ⟨_, rfl, tup2_go rfl (e2_go rfl rfl (ix_tI (rangeI_mem.mp hk).1 (by have := (rangeI_mem.mp hk).2; omega)))⟩
      refine e2_go (lc_go (ds := (rangeI 0 b.length).map .int) ?_ h1) (lst1_go (tup2_go rfl rfl)) ?_
      · show ((some (PyData.int (b.length : Int))).bind fun x => (toI x).bind fun n => rangeD 0 n) = some ((rangeI 0 b.length).map .int)
        simp only [Option.bind_some, toI]
        rw [rng_0 (by omega) (by omega)]
        rfl
      · rw [cat_l (small (by simp [rangeI_len]; omega)), List.map_append]
        rfl
    have hall : ∀ acc x, (e1 allD (eLc [8] (iSeq (eVar 6)) (TL.gName 8) cYes (eCall m_goes [(eVar 0), (eVar 1), (eTup [(eVar 3), (eVar 5)]), (eVar 8)]))) (E acc (some (.int x)) (some (.list ((prsT b ++ [((b.length : Int), x)]).map prD)))) = some (.bool (okX w u b x)) := fun acc x => by
      have h1 := lc_map (g := TL.gName 8) (e := eCall m_goes [(eVar 0), (eVar 1), (eTup [(eVar 3), (eVar 5)]), (eVar 8)]) (env := wipeE (E acc (some (.int x)) (some (.list ((prsT b ++ [((b.length : Int), x)]).map prD)))) [8]) prD PyData.bool (fun p => fitB w u (b.length, x) p) (zs := prsT b ++ [((b.length : Int), x)]) fun p hp => ⟨_, rfl, call4_go rfl rfl (tup2_go rfl rfl) rfl (goes_ok w u (b.length, x) p).1⟩
      refine e1_go (lc_go (ds := (prsT b ++ [((b.length : Int), x)]).map prD) rfl h1) ?_
      rw [all_b, List.all_map]
      rfl
    have loop : ∀ (xs : List Int) (acc : List (List Int)) (e5 e6 : Option D), acc.length + (xs.flatMap (lkF w u (lk w u m) b)).length ≤ 1000000 → ∃ e5' e6', forGo (TL.gName 5) (sSeq (sAsg (e2 addD (eLc [7] (iRng1 (eVar 3)) (TL.gName 7) cYes (eTup [(eVar 7), (e2 ixD (eVar 2) (eVar 7))])) (eLst [(eTup [(eVar 3), (eVar 5)])])) (TL.gName 6))
      (sIf (tV (e1 allD (eLc [8] (iSeq (eVar 6)) (TL.gName 8) cYes (eCall m_goes [(eVar 0), (eVar 1), (eTup [(eVar 3), (eVar 5)]), (eVar 8)]))))
      (sExt 4 (eCall (m_likenesses_2 n) [(eVar 0), (eVar 1), (e2 addD (eVar 2) (eTup [(eVar 5)]))]))
      sNext)) (xs.map .int) (E acc e5 e6) = some (.nx (E (acc ++ xs.flatMap (lkF w u (lk w u m) b)) e5' e6')) := by
      intro xs
      induction xs with
      | nil => exact fun acc e5 e6 _ => ⟨e5, e6, by simp only [List.flatMap_nil, List.append_nil]; rfl⟩
      | cons x xs ihx =>
        intro acc e5 e6 hlen
        rw [List.flatMap_cons, List.length_append] at hlen
        have hF : lkF w u (lk w u m) b x = if okX w u b x = true then lk w u m (b ++ [x]) else [] := rfl
        obtain ⟨e5', e6', h⟩ := ihx (acc ++ lkF w u (lk w u m) b x) (some (.int x)) (some (.list ((prsT b ++ [((b.length : Int), x)]).map prD))) (by rw [List.length_append]; omega)
        refine ⟨e5', e6', for_cons (e2 := E (acc ++ lkF w u (lk w u m) b x) (some (.int x)) (some (.list ((prsT b ++ [((b.length : Int), x)]).map prD)))) rfl (seq_go (e := E acc (some (.int x)) (some (.list ((prsT b ++ [((b.length : Int), x)]).map prD)))) (asg_go (hpr acc x e6)) ?_) ?_⟩
        · cases hk : okX w u b x with
          | true =>
            rw [hF, hk, if_pos rfl] at hlen ⊢
            refine if_t (tV_go ((hall acc x).trans (by rw [hk]))) ((ext_go (call3_go rfl rfl (e2_go rfl (tup1_go rfl) ((cat_t (small (by simp; omega))).trans (by
              show some (PyData.tuple (b.map .int ++ [PyData.int x])) = some (tI (b ++ [x]))
              rw [tI, List.map_append]; rfl))) (ih (b := b ++ [x]) (n := n) (by rw [List.length_append, List.length_singleton]; omega) (by omega) (by rw [List.length_append, List.length_singleton]; omega) fun j hj => hb j (by omega))) rfl (by simp only [List.length_map]; omega)).trans ?_)
            rw [← List.map_append]
            rfl
          | false =>
            rw [hF, hk, if_neg (by decide), List.append_nil]
            exact if_f (tV_go ((hall acc x).trans (by rw [hk]))) rfl
        · rw [List.flatMap_cons, ← List.append_assoc]
          exact h
    have hlen := lk_len w u (m + 1) b
    rw [lk] at hlen
    obtain ⟨e5', e6', hloop⟩ := loop (rangeI 0 u.n.toNat) [] none none (by
      have := hb (m + 1) (Nat.le_refl _)
      rw [List.length_nil]
      omega)
    rw [List.nil_append] at hloop
    refine nnD_list (run_rt rfl (seq_go (e := [some w.d, some u.d, some (tI b), some (.int b.length), none, none, none, none, none]) (asg_go (e1_go rfl ((len_t _).trans (by rw [List.length_map])))) (seq_go (e := [some w.d, some u.d, some (tI b), some (.int b.length), none, none, none, none, none]) (if_f (tV_go (e2_go rfl (e2_go rfl rfl (wdn w)) ((eq_i _ _).trans ?_))) rfl) (seq_go (e := E [] none none) (asg_go rfl) (seq_go (for_go (ds := (rangeI 0 u.n.toNat).map .int) ?_ hloop) (ret_go rfl))))))
    · rw [decide_eq_false (by omega)]
    · simp only [iRng1]
      rw [e2_go rfl rfl (wdn u)]
      simp only [Option.bind_some, toI]
      rw [rng_0 (by omega) (by omega)]
end LB

set_option Elab.async false
set_option linter.all false
set_option maxRecDepth 100000
namespace LB
open PySem TL
theorem notD {a : SE} {env : TL.Env} {b : Bool} (h : a env = some (.bool b)) : TL.tNot (tV a) env = some (!b) := by
  simp only [TL.tNot]
  rw [tVD h]
  rfl
theorem tAnd_f {a b : ST} {env : TL.Env} (h : a env = some false) : TL.tAnd a b env = some false := by
  simp only [TL.tAnd, h, Option.bind_some]
  rfl
theorem tAnd_t {a b : ST} {env : TL.Env} {o : Option Bool} (h : a env = some true) (h2 : b env = o) : TL.tAnd a b env = o := by
  simp only [TL.tAnd, h, Option.bind_some, if_true]
  exact h2
end LB

set_option Elab.async false
set_option linter.all false
set_option maxRecDepth 100000
namespace LB
open PySem TL
section
variable {w u : Wd} (wok : w.Ok) (uok : u.Ok)
include wok uok
end
structure Keys (w u : Wd) (C : List (Int × Int) → Nat → Prop) : Prop where
  ok : ∀ ps k, C ps k → okGo ps k = true
  ln : ∀ ps k, C ps k → ps.length ≤ 1000
  up : ∀ ps k a b, C ps (k + 1) → 0 ≤ a → a < w.n → 0 ≤ b → b < u.n → growB w u ps (a, b) = true → C (putP ps (a, b)) k
theorem putP_mem {ps : List (Int × Int)} {p q : Int × Int} : q ∈ putP ps p ↔ q = p ∨ q ∈ ps := by
  unfold putP
  split
  · rename_i h
    exact ⟨.inr, fun z => z.elim (fun e => by rw [e]; exact h) id⟩
  · rw [(isort_perm _).mem_iff, List.mem_append, List.mem_singleton]
    exact or_comm
end LB

set_option Elab.async false
set_option linter.all false
set_option maxRecDepth 100000
namespace LB
open PySem TL
theorem tis_snoc (n : List (List Int)) (x : List Int) : n.map tI ++ [tI x] = (n ++ [x]).map tI := by
  rw [List.map_append]
  rfl
theorem app_go' {a : SE} {i : Nat} {env : TL.Env} {d : D} {ds : List D} (h : a env = some d) (hi : env.getD i none = some (.list ds)) (hl : ds.length ≤ 1000000) : sApp i a env = some (.nx (env.set i (some (.list (ds ++ [d]))))) := by
  simp only [sApp, h, Option.bind_some, hi]
  rw [if_pos (small' hl)]
def carB (w u : Wd) (p q : Int × Int) : Bool :=
  !(decide (p.1 = q.1) && !decide (p.2 = q.2)) && (!(decide (p.1 ∈ w.m0) && !decide (p.2 ∈ u.m0)) && !(decide (p.1 ∈ w.m1) && !decide (p.2 ∈ u.m1)))
  && (!(decide ((p.1, q.1) ∈ w.ar) && !decide ((p.2, q.2) ∈ u.ar)) && !(decide ((q.1, p.1) ∈ w.ar) && !decide ((q.2, p.2) ∈ u.ar)))
theorem tAnd_b {a b : ST} {env : TL.Env} {x y : Bool} (h1 : a env = some x) (h2 : b env = some y) : TL.tAnd a b env = some (x && y) := by
  cases x with
  | true => rw [Bool.true_and]; exact tAnd_t h1 h2
  | false => rw [Bool.false_and]; exact tAnd_f h1
theorem tOr_b {a b : ST} {env : TL.Env} {x y : Bool} (h1 : a env = some x) (h2 : b env = some y) : TL.tOr a b env = some (x || y) := by
  cases x with
  | true => rw [Bool.true_or]; exact tOr_t h1
  | false => rw [Bool.false_or]; exact tOr_f h1 h2
theorem eNot_b {a : SE} {env : TL.Env} {x : Bool} (h : a env = some (.bool x)) : eNot a env = some (.bool (!x)) := by
  simp only [eNot, h, Option.bind_some, toB, Option.map_some]
theorem carry_ok (w u : Wd) (p q : Int × Int) : m__law_carry [w.d, u.d, prD p, prD q] = some (.bool (carB w u p q)) := by
  obtain ⟨a, b⟩ := p
  obtain ⟨c, d⟩ := q
  let E := [some w.d, some u.d, some (prD (a, b)), some (prD (c, d)), some (PyData.int a), some (PyData.int b), some (PyData.int c), some (PyData.int d)]
  let X := !(decide (a = c) && !decide (b = d)) && (!(decide (a ∈ w.m0) && !decide (b ∈ u.m0)) && !(decide (a ∈ w.m1) && !decide (b ∈ u.m1)))
  have m0 : ∀ (v : Wd) (i : Nat), E.getD i none = some v.d → (e2 ixD (e2 ixD (eVar i) (eC (.int 1))) (eC (.int 0))) E = some (.tuple (v.m0.map .int)) := fun v i h => e2_go (e2_go h rfl rfl) rfl rfl
  have m1 : ∀ (v : Wd) (i : Nat), E.getD i none = some v.d → (e2 ixD (e2 ixD (eVar i) (eC (.int 1))) (eC (.int 1))) E = some (.tuple (v.m1.map .int)) := fun v i h => e2_go (e2_go h rfl rfl) rfl rfl
  have ar : ∀ (v : Wd) (i : Nat), E.getD i none = some v.d → (e2 ixD (eVar i) (eC (.int 2))) E = some (.tuple (v.ar.map prD)) := fun v i h => e2_go h rfl rfl
  have cond : TL.tOr (TL.tAnd (tV (e2 eqD (eVar 4) (eVar 6))) (tV (e2 neD (eVar 5) (eVar 7)))) (TL.tOr (TL.tAnd (tV (e2 inD (eVar 4) (e2 ixD (e2 ixD (eVar 0) (eC (.int 1))) (eC (.int 0))))) (tV (e2 ninD (eVar 5) (e2 ixD (e2 ixD (eVar 1) (eC (.int 1))) (eC (.int 0)))))) (TL.tAnd (tV (e2 inD (eVar 4) (e2 ixD (e2 ixD (eVar 0) (eC (.int 1))) (eC (.int 1))))) (tV (e2 ninD (eVar 5) (e2 ixD (e2 ixD (eVar 1) (eC (.int 1))) (eC (.int 1))))))) E = some (!X) := by
    have := tOr_b (tAnd_b (tV_go (e2_go (a := eVar 4) (b := eVar 6) (env := E) rfl rfl (eq_i a c))) (tV_go (e2_go (a := eVar 5) (b := eVar 7) (env := E) rfl rfl (ne_i b d)))) (tOr_b (tAnd_b (tV_go (e2_go (a := eVar 4) rfl (m0 w 0 rfl) (in_ti a w.m0))) (tV_go (e2_go (a := eVar 5) rfl (m0 u 1 rfl) (nin_of (in_ti b u.m0))))) (tAnd_b (tV_go (e2_go (a := eVar 4) rfl (m1 w 0 rfl) (in_ti a w.m1))) (tV_go (e2_go (a := eVar 5) rfl (m1 u 1 rfl) (nin_of (in_ti b u.m1))))))
    refine this.trans (congrArg some ?_)
    show _ = !(_ && _)
    cases decide (a = c) <;> cases decide (b = d) <;> cases decide (a ∈ w.m0) <;> cases decide (b ∈ u.m0) <;> cases decide (a ∈ w.m1) <;> cases decide (b ∈ u.m1) <;> rfl
  have rest : eAnd (eNot (eAnd (e2 inD (eTup [(eVar 4), (eVar 6)]) (e2 ixD (eVar 0) (eC (.int 2)))) (e2 ninD (eTup [(eVar 5), (eVar 7)]) (e2 ixD (eVar 1) (eC (.int 2)))))) (eNot (eAnd (e2 inD (eTup [(eVar 6), (eVar 4)]) (e2 ixD (eVar 0) (eC (.int 2)))) (e2 ninD (eTup [(eVar 7), (eVar 5)]) (e2 ixD (eVar 1) (eC (.int 2)))))) E
      = some (.bool (!(decide ((a, c) ∈ w.ar) && !decide ((b, d) ∈ u.ar)) && !(decide ((c, a) ∈ w.ar) && !decide ((d, b) ∈ u.ar)))) :=
    and_go (eNot_b (and_go (e2_go (tup2_go rfl rfl) (ar w 0 rfl) (in_tp (a, c) w.ar)) fun _ => e2_go (tup2_go rfl rfl) (ar u 1 rfl) (nin_of (in_tp (b, d) u.ar)))) fun _ => eNot_b (and_go (e2_go (tup2_go rfl rfl) (ar w 0 rfl) (in_tp (c, a) w.ar)) fun _ => e2_go (tup2_go rfl rfl) (ar u 1 rfl) (nin_of (in_tp (d, b) u.ar)))
  show _ = some (PyData.bool (X && _))
  refine run_rt rfl (seq_go (e := [some w.d, some u.d, some (prD (a, b)), some (prD (c, d)), some (PyData.int a), some (PyData.int b), none, none]) rfl (seq_go (e := E) rfl ?_))
  cases hx : X with
  | false =>
    rw [hx] at cond
    exact seq_rt (if_t cond (ret_go rfl))
  | true =>
    rw [hx] at cond
    exact seq_go (if_f cond rfl) (ret_go (by rw [Bool.true_and]; exact rest))
def goW (way : Bool) (w u : Wd) (l : List (Int × Int)) : Bool := l.all fun p => l.all fun q => if way then carB w u p q else fitB w u p q
def wayI (way : Bool) : Int := if way then 1 else 0
theorem goesW_ok (way : Bool) {w u : Wd} {l : List (Int × Int)} {V : D} (hV : itemsD V = some (l.map prD)) : m__law_goes [w.d, u.d, V, .int (wayI way)] = some (.bool (goW way w u l)) := by
  let E := fun (e4 : Option D) => [some w.d, some u.d, some V, some (PyData.int (wayI way)), e4, none]
  refine run_rt rfl (seq_for_all prD (fun env => ∃ e4, env = E e4) (fun p => l.all fun q => if way then carB w u p q else fitB w u p q) (.bool false) l hV ⟨_, rfl⟩ ?_ (fun h e ⟨e4, he⟩ => by rw [he]; exact (ret_go rfl).trans (by show _ = some (Out.rt (.bool (l.all _))); rw [h])) (fun h => by show _ = some (Out.rt (.bool (l.all _))); rw [h]))
  rintro p hp env ⟨e4, rfl⟩
  refine ⟨E (some (prD p)), rfl, ?_⟩
  have lcf := lc_go (vs := [5]) (it := iSeq (eVar 2)) (env := E (some (prD p))) (ds := l.map prD) hV (lc_filter (g := TL.gName 5) (c := TL.tNot (tV (eCall m__law_fit [(eVar 0), (eVar 1), (eVar 4), (eVar 5)]))) (e := eVar 5) (env := E (some (prD p))) prD prD (fun q => !fitB w u p q) id fun q hq => ⟨_, rfl, notD (call4_go rfl rfl rfl rfl (goes_ok w u p q).2), fun _ => rfl⟩)
  have lcc := lc_go (vs := [5]) (it := iSeq (eVar 2)) (env := E (some (prD p))) (ds := l.map prD) hV (lc_filter (g := TL.gName 5) (c := TL.tNot (tV (eCall m__law_carry [(eVar 0), (eVar 1), (eVar 4), (eVar 5)]))) (e := eVar 5) (env := E (some (prD p))) prD prD (fun q => !carB w u p q) id fun q hq => ⟨_, rfl, notD (call4_go rfl rfl rfl rfl (carry_ok w u p q)), fun _ => rfl⟩)
  have t1 : TL.tAnd (tV (e2 eqD (eVar 3) (eC (.int 0)))) (tV (e2 gtD (e1 lenD (eLc [5] (iSeq (eVar 2)) (TL.gName 5) (TL.tNot (tV (eCall m__law_fit [(eVar 0), (eVar 1), (eVar 4), (eVar 5)]))) (eVar 5))) (eC (.int 0)))) (E (some (prD p))) = some (!way && !(l.all fun q => fitB w u p q)) :=
    tAnd_b (tV_go (e2_go rfl rfl ((eq_i _ _).trans (by cases way <;> rfl)))) (tV_go (e2_go (e1_go lcf (len_l _)) rfl ((gt_i _ _).trans (congrArg (fun z => some (PyData.bool z)) (some_of (fun q => fitB w u p q) id prD l)))))
  have t2 : TL.tAnd (tV (e2 eqD (eVar 3) (eC (.int 1)))) (tV (e2 gtD (e1 lenD (eLc [5] (iSeq (eVar 2)) (TL.gName 5) (TL.tNot (tV (eCall m__law_carry [(eVar 0), (eVar 1), (eVar 4), (eVar 5)]))) (eVar 5))) (eC (.int 0)))) (E (some (prD p))) = some (way && !(l.all fun q => carB w u p q)) :=
    tAnd_b (tV_go (e2_go rfl rfl ((eq_i _ _).trans (by cases way <;> rfl)))) (tV_go (e2_go (e1_go lcc (len_l _)) rfl ((gt_i _ _).trans (congrArg (fun z => some (PyData.bool z)) (some_of (fun q => carB w u p q) id prD l)))))
  cases way with
  | false =>
    cases hc : l.all fun q => fitB w u p q with
    | true =>
      rw [hc] at t1
      exact .inl ⟨hc, _, seq_go (if_f t1 rfl) (if_f t2 rfl), _, rfl⟩
    | false =>
      rw [hc] at t1
      exact .inr ⟨hc, seq_rt (if_t t1 (ret_go rfl))⟩
  | true =>
    cases hc : l.all fun q => carB w u p q with
    | true =>
      rw [hc] at t2
      exact .inl ⟨hc, _, seq_go (if_f t1 rfl) (if_f t2 rfl), _, rfl⟩
    | false =>
      rw [hc] at t2
      exact .inr ⟨hc, seq_go (if_f t1 rfl) (if_t t2 (ret_go rfl))⟩
def waysW (way : Bool) (w u : Wd) : Nat → List (List Int)
  | 0 => [[]]
  | a + 1 => (waysW way w u a).flatMap fun t => ((rangeI 0 u.n.toNat).filter fun b => goW way w u (prsT t ++ [((a : Int), b)])).map fun b => t ++ [b]
theorem waysW_len (way : Bool) (w u : Wd) : ∀ a, (waysW way w u a).length ≤ u.n.toNat ^ a
  | 0 => Nat.le_refl _
  | a + 1 => by
    rw [waysW, Nat.pow_succ]
    refine Nat.le_trans (flat_len2 (B := u.n.toNat) fun t _ => ?_) (Nat.mul_le_mul_right _ (waysW_len way w u a))
    rw [List.length_map]
    exact Nat.le_trans (List.length_filter_le _ _) (by rw [rangeI_len]; exact Nat.le_refl _)
theorem waysW_at {way : Bool} {w u : Wd} : ∀ {a : Nat} {t : List Int}, t ∈ waysW way w u a → t.length = a
  | 0, t, h => by
    rw [waysW, List.mem_singleton] at h
    rw [h]
    rfl
  | a + 1, t, h => by
    rw [waysW] at h
    simp only [List.mem_flatMap, List.mem_map, List.mem_filter] at h
    obtain ⟨s, hs, b, _, rfl⟩ := h
    rw [List.length_append, waysW_at hs]
    rfl
theorem prsT_snoc (t : List Int) (b : Int) : prsT (t ++ [b]) = prsT t ++ [((t.length : Int), b)] := by
  unfold prsT
  rw [List.length_append, List.length_singleton]
  refine List.ext_getElem? fun i => ?_
  rw [List.getElem?_map]
  by_cases h : i < t.length
  · rw [List.getElem?_append_left (by rw [List.length_map, rangeI_len]; exact h), List.getElem?_map, rangeI_get (by omega), rangeI_get h, Option.map_some, Option.map_some]
    congr 2
    unfold nmI
    rw [List.getD_eq_getElem?_getD, List.getD_eq_getElem?_getD, List.getElem?_append_left (by omega)]
  · by_cases e : i = t.length
    · subst e
      rw [List.getElem?_append_right (by rw [List.length_map, rangeI_len]; exact Nat.le_refl _), List.length_map, rangeI_len, Nat.sub_self, rangeI_get (by omega), Option.map_some]
      show some _ = some _
      congr 2
      · omega
      · unfold nmI
        rw [List.getD_eq_getElem?_getD, List.getElem?_append_right (by omega)]
        simp
    · rw [List.getElem?_eq_none (by rw [rangeI_len]; omega), List.getElem?_eq_none (by rw [List.length_append, List.length_map, rangeI_len, List.length_singleton]; omega)]
      rfl
theorem goW_pre {way : Bool} {w u : Wd} {l m : List (Int × Int)} (h : goW way w u (l ++ m) = true) : goW way w u l = true := by
  refine List.all_eq_true.mpr fun p hp => List.all_eq_true.mpr fun q hq => ?_
  exact List.all_eq_true.mp (List.all_eq_true.mp h p (List.mem_append_left _ hp)) q (List.mem_append_left _ hq)
theorem waysW_mem {way : Bool} {w u : Wd} : ∀ {a : Nat} {t : List Int}, t ∈ waysW way w u a ↔ t.length = a ∧ InR u.n t ∧ goW way w u (prsT t) = true
  | 0, t => by
    rw [waysW, List.mem_singleton]
    constructor
    · rintro rfl
      exact ⟨rfl, (fun x hx => by cases hx), rfl⟩
    · rintro ⟨h, _⟩
      exact List.length_eq_zero_iff.mp h
  | a + 1, t => by
    rw [waysW]
    simp only [List.mem_flatMap, List.mem_map, List.mem_filter]
    constructor
    · rintro ⟨s, hs, b, ⟨hb, hg⟩, rfl⟩
      obtain ⟨h1, h2, h3⟩ := waysW_mem.mp hs
      have hb := rangeI_mem.mp hb
      refine ⟨by rw [List.length_append, h1]; rfl, fun x hx => ?_, ?_⟩
      · rcases List.mem_append.mp hx with hx | hx
        · exact h2 x hx
        · rw [List.mem_singleton.mp hx]; omega
      · rw [prsT_snoc, h1]
        exact hg
    · rintro ⟨h1, h2, h3⟩
      rcases List.eq_nil_or_concat t with h | ⟨s, b, h⟩
      · subst h
        simp at h1
      · rw [List.concat_eq_append] at h
        subst h
        rw [List.length_append, List.length_singleton] at h1
        have hb := h2 b (List.mem_append_right _ List.mem_cons_self)
        rw [prsT_snoc] at h3
        exact ⟨s, waysW_mem.mpr ⟨by omega, fun x hx => h2 x (List.mem_append_left _ hx), goW_pre h3⟩, b, ⟨rangeI_mem.mpr (by omega), by rw [show ((a : Nat) : Int) = (s.length : Int) by omega]; exact h3⟩, rfl⟩
theorem ways_ok (way : Bool) {w u : Wd} (wok : w.Ok) (uok : u.Ok) (hs : ∀ a, a ≤ w.n.toNat → u.n.toNat ^ a ≤ 1000000) : m__law_ways [w.d, u.d, .int (wayI way)] = some (.list ((waysW way w u w.n.toNat).map tI)) := by
  have lw := wok.lo
  have lu := uok.lo
  have hw := wok.hi
  have hu := uok.hi
  let E := fun (l : List (List Int)) (e4 e5 e6 e7 e8 : Option D) => [some w.d, some u.d, some (PyData.int (wayI way)), some (PyData.list (l.map tI)), e4, e5, e6, e7, e8, none]
  refine run_rt rfl (seq_go (e := E [[]] none none none none none) (asg_go rfl) ?_)
  refine seq_for_invP (fun a : Nat => PyData.int (a : Int)) (fun done env => ∃ e4 e5 e6 e7 e8, env = E (waysW way w u done.length) e4 e5 e6 e7 e8) (List.range w.n.toNat) ?_ ⟨_, _, _, _, _, rfl⟩ ?_ ?_
  · refine (rngI1 (n := w.n) (e2_go rfl rfl (wdn w)) (by omega) (by omega)).trans (congrArg some ?_)
    refine List.ext_getElem? fun i => ?_
    rw [List.getElem?_map, List.getElem?_map]
    by_cases hi : i < w.n.toNat
    · rw [List.getElem?_range hi, rangeI_get hi]
      simp
    · rw [List.getElem?_eq_none (by rw [rangeI_len]; omega), List.getElem?_eq_none (by rw [List.length_range]; omega)]
      rfl
  · rintro done a r hd env ⟨e4, e5, e6, e7, e8, rfl⟩
    have hlt : done.length < w.n.toNat := by
      have := congrArg List.length hd
      rw [List.length_range, List.length_append, List.length_cons] at this
      omega
    have ha : done.length = a := by
      have := congrArg (fun l : List Nat => l[done.length]?) hd
      rw [List.getElem?_append_right (Nat.le_refl _), Nat.sub_self, List.getElem?_range hlt] at this
      simpa using this
    have hL := waysW_len way w u a
    have hL1 := hs (a + 1) (by omega)
    let L := waysW way w u a
    let ext := fun t : List Int => ((rangeI 0 u.n.toNat).filter fun b => goW way w u (prsT t ++ [((a : Int), b)])).map fun b => t ++ [b]
    have extlen : ∀ t, (ext t).length ≤ u.n.toNat := fun t => by
      show (List.map _ _).length ≤ _
      rw [List.length_map]
      exact Nat.le_trans (List.length_filter_le _ _) (by rw [rangeI_len]; exact Nat.le_refl _)
    let F := fun (nw : List (List Int)) (e6 e7 e8 : Option D) => E L (some (.int (a : Nat))) (some (.list (nw.map tI))) e6 e7 e8
    rw [ha]
    refine ⟨_, rfl, ?_⟩
    obtain ⟨e, h1, f6, f7, f8, he⟩ := for_invP (g := TL.gName 6) (body := (sFor (iRng1 (e2 ixD (eVar 1) (eC (.int 0)))) (TL.gName 7)
      (sSeq (sAsg (e2 addD (e1 tupleD (eLc [9] (iRng1 (eVar 4)) (TL.gName 9) cYes (eTup [(eVar 9), (e2 ixD (eVar 6) (eVar 9))]))) (eTup [(eTup [(eVar 4), (eVar 7)])])) (TL.gName 8))
      (sIf (tV (eCall m__law_goes [(eVar 0), (eVar 1), (eVar 8), (eVar 2)]))
      (sApp 5 (e2 addD (eVar 6) (eTup [(eVar 7)])))
      sNext)))) tI (fun done env => ∃ e6 e7 e8, env = F (done.flatMap ext) e6 e7 e8) L (F [] e6 e7 e8) ⟨_, _, _, rfl⟩ (by
      rintro dn t r2 hdt env ⟨e6, e7, e8, rfl⟩
      have ht : t ∈ waysW way w u a := by show t ∈ L; rw [hdt]; exact List.mem_append_right _ List.mem_cons_self
      have tl := waysW_at ht
      have dnl : (dn.flatMap ext).length + u.n.toNat ≤ 1000000 := by
        have h1 := flat_len2 (U := ext) (B := u.n.toNat) (ps := dn) fun p _ => extlen p
        have h2 : dn.length + 1 ≤ L.length := by rw [hdt]; simp
        have h3 : (dn.length + 1) * u.n.toNat ≤ L.length * u.n.toNat := Nat.mul_le_mul_right _ h2
        have h4 : L.length * u.n.toNat ≤ u.n.toNat ^ (a + 1) := by
          rw [Nat.pow_succ]
          exact Nat.mul_le_mul_right _ hL
        rw [Nat.add_mul, Nat.one_mul] at h3
        omega
      refine ⟨_, rfl, ?_⟩
      obtain ⟨e, h1, f7, f8, he⟩ := for_invP (g := TL.gName 7) (body := (sSeq (sAsg (e2 addD (e1 tupleD (eLc [9] (iRng1 (eVar 4)) (TL.gName 9) cYes (eTup [(eVar 9), (e2 ixD (eVar 6) (eVar 9))]))) (eTup [(eTup [(eVar 4), (eVar 7)])])) (TL.gName 8))
        (sIf (tV (eCall m__law_goes [(eVar 0), (eVar 1), (eVar 8), (eVar 2)]))
        (sApp 5 (e2 addD (eVar 6) (eTup [(eVar 7)])))
        sNext))) PyData.int (fun db env => ∃ e7 e8, env = F (dn.flatMap ext ++ (db.filter fun b => goW way w u (prsT t ++ [((a : Int), b)])).map fun b => t ++ [b]) (some (tI t)) e7 e8) (rangeI 0 u.n.toNat) (F (dn.flatMap ext) (some (tI t)) e7 e8) ⟨_, _, by rw [List.filter_nil, List.map_nil, List.append_nil]⟩ (by
        rintro db b r3 hdb env ⟨e7, e8, rfl⟩
        have dbl : db.length < u.n.toNat := by
          have := congrArg List.length hdb
          rw [rangeI_len, List.length_append, List.length_cons] at this
          omega
        let nw := dn.flatMap ext ++ (db.filter fun b => goW way w u (prsT t ++ [((a : Int), b)])).map fun b => t ++ [b]
        have nwl : nw.length ≤ 1000000 := by
          have e : nw.length = (dn.flatMap ext).length + ((db.filter fun b => goW way w u (prsT t ++ [((a : Int), b)])).map fun b => t ++ [b]).length := List.length_append ..
          rw [List.length_map] at e
          have := List.length_filter_le (fun b => goW way w u (prsT t ++ [((a : Int), b)])) db
          omega
        have prs : (e2 addD (e1 tupleD (eLc [9] (iRng1 (eVar 4)) (TL.gName 9) cYes (eTup [(eVar 9), (e2 ixD (eVar 6) (eVar 9))]))) (eTup [(eTup [(eVar 4), (eVar 7)])])) (F nw (some (tI t)) (some (.int b)) e8) = some (tP (prsT t ++ [((a : Int), b)])) := by
          have hl := lc_map (g := TL.gName 9) (e := eTup [(eVar 9), (e2 ixD (eVar 6) (eVar 9))]) (env := F nw (some (tI t)) (some (.int b)) e8) PyData.int prD (fun k => (k, nmI t k)) (zs := rangeI 0 t.length) fun k hk => ⟨_, rfl, tup2_go rfl (e2_go rfl rfl (by
            have hk := rangeI_mem.mp hk
            exact ix_at PyData.int 0 (l := t) (i := k) (by omega) (by omega)))⟩
          refine e2_go (x := tP (prsT t)) (e1_go (lc_go (ds := (rangeI 0 t.length).map .int) ?_ hl) rfl) (tup1_go (tup2_go rfl rfl)) ((cat_t (small (by
            rw [List.length_map]
            unfold prsT
            rw [List.length_map, rangeI_len, tl]
            simp; omega))).trans (by rw [tP, List.map_append]; rfl))
          have := rngI1 (a := eVar 4) (env := F nw (some (tI t)) (some (.int b)) e8) (n := ((a : Nat) : Int)) rfl (by omega) (by omega)
          rw [this, tl, Int.toNat_natCast]
        have go := goesW_ok way (w := w) (u := u) (l := prsT t ++ [((a : Int), b)]) (V := tP (prsT t ++ [((a : Int), b)])) rfl
        refine ⟨_, rfl, ?_⟩
        rw [List.filter_append, List.map_append, ← List.append_assoc]
        cases hg : goW way w u (prsT t ++ [((a : Int), b)]) with
        | false =>
          rw [hg] at go
          rw [List.filter_cons_of_neg (by simp [hg]), List.filter_nil, List.map_nil, List.append_nil]
          exact ⟨_, .inl (seq_go (e := F nw (some (tI t)) (some (.int b)) (some (tP (prsT t ++ [((a : Int), b)])))) (asg_go prs) (if_f (tV_go (call4_go rfl rfl rfl rfl go)) rfl)), ⟨_, _, rfl⟩⟩
        | true =>
          rw [hg] at go
          rw [List.filter_cons_of_pos (by simp [hg]), List.filter_nil]
          refine ⟨F (nw ++ [t ++ [b]]) (some (tI t)) (some (.int b)) (some (tP (prsT t ++ [((a : Int), b)]))), .inl (seq_go (e := F nw (some (tI t)) (some (.int b)) (some (tP (prsT t ++ [((a : Int), b)])))) (asg_go prs) (if_t (tV_go (call4_go rfl rfl rfl rfl go)) ?_)), ⟨_, _, rfl⟩⟩
          have cat : (e2 addD (eVar 6) (eTup [(eVar 7)])) (F nw (some (tI t)) (some (.int b)) (some (tP (prsT t ++ [((a : Int), b)])))) = some (tI (t ++ [b])) := e2_go rfl (tup1_go rfl) ((cat_t (small (by rw [List.length_map, tl]; simp; omega))).trans (by rw [tI, List.map_append]; rfl))
          have := app_go' cat (i := 5) (ds := nw.map tI) rfl (by rw [List.length_map]; exact nwl)
          rw [this]
          exact congrArg (fun z => some (Out.nx (E L (some (.int (a : Nat))) (some (.list z)) (some (tI t)) (some (.int b)) (some (tP (prsT t ++ [((a : Int), b)])))))) (tis_snoc nw (t ++ [b])))
      refine ⟨e, .inl (for_go (rngI1 (n := u.n) (e2_go rfl rfl (wdn u)) (by omega) (by omega)) h1), some (tI t), f7, f8, ?_⟩
      rw [he, List.flatMap_append, List.flatMap_cons, List.flatMap_nil, List.append_nil])
    subst he
    refine ⟨E (waysW way w u (a + 1)) (some (.int (a : Nat))) (some (.list ((L.flatMap ext).map tI))) f6 f7 f8, .inl (seq_go (e := F [] e6 e7 e8) (asg_go rfl) (seq_go (for_go (ds := L.map tI) rfl h1) (asg_go rfl))), ⟨_, _, _, _, _, by rw [List.length_append, List.length_singleton, ha]⟩⟩
  · rintro e ⟨e4, e5, e6, e7, e8, rfl⟩
    rw [List.length_range]
    exact ret_go rfl
end LB

set_option Elab.async false
set_option linter.all false
set_option maxRecDepth 100000
namespace LB
open PySem TL
def sideI (side : Bool) : Int := if side then 1 else 0
def swp (p : Int × Int) : Int × Int := (p.2, p.1)
theorem dec_comm (a b : Bool) : decide (a = b) = decide (b = a) := by cases a <;> cases b <;> rfl
theorem fit_swap (w u : Wd) (p q : Int × Int) : fitB w u p q = fitB u w (swp p) (swp q) := by
  unfold fitB swp
  rw [dec_comm (decide (p.1 = q.1)), dec_comm (decide (p.1 ∈ w.m0)), dec_comm (decide (p.1 ∈ w.m1)), dec_comm (decide ((p.1, q.1) ∈ w.ar)), dec_comm (decide ((q.1, p.1) ∈ w.ar))]
end LB

set_option Elab.async false
set_option linter.all false
set_option maxRecDepth 100000
namespace LB
open PySem TL
def InW (w u : Wd) (ps : List (Int × Int)) : Prop := ∀ p ∈ ps, (0 ≤ p.1 ∧ p.1 < w.n) ∧ 0 ≤ p.2 ∧ p.2 < u.n
theorem InW.put {w u : Wd} {ps : List (Int × Int)} (h : InW w u ps) {a b : Int} (ha : 0 ≤ a ∧ a < w.n) (hb : 0 ≤ b ∧ b < u.n) : InW w u (putP ps (a, b)) := fun p hp => by
  rcases putP_mem.mp hp with rfl | hp
  · exact ⟨ha, hb⟩
  · exact h p hp
theorem InW.nil {w u : Wd} : InW w u [] := fun p hp => by cases hp
theorem rgm {a n : Int} : a ∈ rangeI 0 n.toNat ↔ 0 ≤ a ∧ a < n := by
  rw [rangeI_mem]
  omega
section
variable {w u : Wd} (uok : u.Ok) {ns : List Int} (hp : ns.Perm (rangeI 0 u.n.toNat))
include uok hp
end
section
variable {w t : Wd} (wok : w.Ok) (tok : t.Ok)
include wok tok
end
section
variable {w1 w2 u1 u2 : Wd} (h1 : w1.Ok) (h2 : w2.Ok) (k1 : u1.Ok) (k2 : u2.Ok)
include h1 h2 k1 k2
end
end LB

set_option Elab.async false
set_option linter.all false
set_option maxRecDepth 100000
namespace LB
open PySem TL
theorem fitIff {w u : Wd} {p q : Int × Int} : fitB w u p q = true ↔ (p.1 = q.1 ↔ p.2 = q.2) ∧ (p.1 ∈ w.m0 ↔ p.2 ∈ u.m0) ∧ (p.1 ∈ w.m1 ↔ p.2 ∈ u.m1) ∧ ((p.1, q.1) ∈ w.ar ↔ (p.2, q.2) ∈ u.ar) ∧ ((q.1, p.1) ∈ w.ar ↔ (q.2, p.2) ∈ u.ar) := by
  unfold fitB
  simp only [Bool.and_eq_true, decide_eq_true_eq, decide_eq_decide]
  exact ⟨fun ⟨⟨a, b, c⟩, d, e⟩ => ⟨a, b, c, d, e⟩, fun ⟨a, b, c, d, e⟩ => ⟨⟨a, b, c⟩, d, e⟩⟩
theorem fit_sym {w u : Wd} {p q : Int × Int} (h : fitB w u p q = true) (hq : fitB w u q q = true) : fitB w u q p = true := by
  rw [fitIff] at h hq ⊢
  exact ⟨⟨fun e => (h.1.mp e.symm).symm, fun e => (h.1.mpr e.symm).symm⟩, hq.2.1, hq.2.2.1, h.2.2.2.2, h.2.2.2.1⟩
mutual
def plainT : D → Bool
  | .str _ => true
  | .int _ => true
  | .tuple l => plainTs l
  | _ => false
def plainTs : List D → Bool
  | [] => true
  | d :: l => plainT d && plainTs l
end
end LB

set_option Elab.async false
set_option linter.all false
set_option maxRecDepth 100000
namespace LB
open PySem TL
def five : List Str := [Str.ofString "not", Str.ofString "and", Str.ofString "or", Str.ofString "some", Str.ofString "all"]
def nc : Nat → D → Nat
  | 0, _ => 0
  | n + 1, f => 1 + ((prts f).map (nc n)).sum
def Beg (a vs : List Int) : Prop := ∀ x : Nat, x < a.length → vs.getD x 0 = a.getD x 0
structure Dif (w u : Wd) (l : List (Int × Int)) (k : Nat) (f : D) : Prop where
  fm : ∀ top : Int, (l.length : Int) + k ≤ top → IsFmB 8 top five (2 * k + 1) f
  fr : ∀ N, 2 * k + 1 < N → ∀ x ∈ fv N f, 0 ≤ x ∧ x < l.length
  dp : ∀ N, 2 * k + 1 < N → dpt N f ≤ k
  tw : ∀ N vs, 2 * k + 1 < N → l.length + k ≤ vs.length → Beg (l.map (·.1)) vs → tv w N f vs = true
  tu : ∀ N vs, 2 * k + 1 < N → l.length + k ≤ vs.length → Beg (l.map (·.2)) vs → tv u N f vs = false
  ct : ∀ N, nc N f ≤ 4 * 9 ^ k
theorem Beg.snoc {l : List (Int × Int)} {vs : List Int} {i j : Int} (hl : l.length < vs.length) (h : Beg (l.map (·.1)) vs) : Beg ((l ++ [(i, j)]).map (·.1)) (vs.set l.length i) := fun x hx => by
  rw [List.length_map, List.length_append, List.length_singleton] at hx
  rw [getD_set2 hl, List.map_append]
  split
  · rename_i e
    subst e
    rw [List.getD_eq_getElem?_getD, List.getElem?_append_right (by rw [List.length_map]; omega)]
    simp
  · rename_i e
    rw [h x (by rw [List.length_map]; omega), List.getD_eq_getElem?_getD, List.getD_eq_getElem?_getD, List.getElem?_append_left (by rw [List.length_map]; omega)]
section
variable {w u : Wd} {l : List (Int × Int)} {k : Nat} {U : List D} {q o : Str}
end
end LB

set_option Elab.async false
set_option linter.all false
set_option maxRecDepth 100000
namespace LB
open PySem TL
structure Shp (f : D) : Prop where
  lay : PyData.canLay0 f = true
  dep : PyData.depth f ≤ 40
  pln : plainT f = true
end LB

set_option Elab.async false
set_option linter.all false
set_option maxRecDepth 100000
namespace LB
open PySem TL
section
variable {w u : Wd} (wok : w.Ok) (uok : u.Ok) {a b : List Int} (ha : a.length ≤ 100) (hb : b.length ≤ 100) {k : Int} {R : List D → Option D} {G : Int → Int → Option D}
  (hR : ∀ i, (0 ≤ i ∧ i < w.n) → ∀ j, (0 ≤ j ∧ j < u.n) → R [w.d, tI (a ++ [i]), u.d, tI (b ++ [j]), .int k] = some ((G i j).getD .none)) (hG : ∀ i j f, G i j = some f → Shp f)
include wok uok ha hb hR hG
end
structure KeysF (w u : Wd) (C : List (Int × Int) → Nat → Prop) : Prop where
  ok : ∀ l k, C l k → okDif (l.map (·.1)) (l.map (·.2)) k = true
  ln : ∀ l k, C l k → l.length + k ≤ 6
  up : ∀ l k a b, C l (k + 1) → (0 ≤ a ∧ a < w.n) → (0 ≤ b ∧ b < u.n) → C (l ++ [(a, b)]) k
def CF (w u : Wd) (l : List (Int × Int)) (k : Nat) : Prop := InW w u l ∧ l.length + k ≤ 3
theorem zip_maps : ∀ l : List (Int × Int), (l.map (·.1)).zip (l.map (·.2)) = l
  | [] => rfl
  | p :: l => by
    rw [List.map_cons, List.map_cons, List.zip_cons_cons, zip_maps l]
theorem inw_all {w u : Wd} {m : Nat} (hw : w.n ≤ m) (hu : u.n ≤ m) {l : List (Int × Int)} (h : InW w u l) : l.all (inR m) = true := List.all_eq_true.mpr fun p hp => by
  have := h p hp
  simp only [inR, Bool.and_eq_true, decide_eq_true_eq]
  omega
theorem InW.snoc {w u : Wd} {l : List (Int × Int)} (h : InW w u l) {a b : Int} (ha : 0 ≤ a ∧ a < w.n) (hb : 0 ≤ b ∧ b < u.n) : InW w u (l ++ [(a, b)]) := fun p hp => by
  rcases List.mem_append.mp hp with hp | hp
  · exact h p hp
  · rw [List.mem_singleton.mp hp]
    exact ⟨ha, hb⟩
theorem keysF {w u : Wd} (wok : w.Ok) (uok : u.Ok) : KeysF w u (CF w u) where
  ok := fun l k ⟨h1, h2⟩ => by
    unfold okDif
    have := inw_all (m := 8) wok.hi uok.hi h1
    simp only [zip_maps, List.length_map, Bool.and_eq_true, Bool.or_eq_true, decide_eq_true_eq, Nat.ble_eq, Nat.beq_eq, Int.toNat_natCast]
    exact ⟨⟨by omega, trivial⟩, .inl ⟨this, h2⟩⟩
  ln := fun l k ⟨_, h⟩ => by omega
  up := fun l k a b ⟨h1, h2⟩ ha hb => ⟨h1.snoc ha hb, by rw [List.length_append, List.length_singleton]; omega⟩
end LB

set_option Elab.async false
set_option linter.all false
set_option maxRecDepth 100000
namespace LB
open PySem TL
def pqs (w u : Wd) : List (Int × Int) := (rangeI 0 w.n.toNat).flatMap fun a => (rangeI 0 u.n.toNat).map fun b => (a, b)
def lastLt (ps : List (Int × Int)) (p : Int × Int) : Bool := match ps.getLast? with
  | some q => decide (q.1 < p.1)
  | none => true
def stdB (w u : Wd) (ps : List (Int × Int)) (p : Int × Int) : Bool := lastLt ps p && growB w u ps p
def mapsN (w u : Wd) : Nat → List (List (Int × Int))
  | 0 => [[]]
  | j + 1 => (mapsN w u j).flatMap fun ps => ((pqs w u).filter (stdB w u ps)).map fun p => ps ++ [p]
def upM (w u : Wd) : Nat → List (List (Int × Int))
  | 0 => [[]]
  | j + 1 => upM w u j ++ mapsN w u (j + 1)
def kp (t : TK 2) : List (Int × Int) := List.map (fun q : List Int => (q.getD 0 0, q.getD 1 0)) t
end LB

set_option Elab.async false
set_option linter.all false
set_option maxRecDepth 100000
namespace LB
open PySem TL
theorem len1 {n : Int} {l : List Int} (a : Asc1 n l) : l.length ≤ n.toNat := by
  have := nodup_leM (l := l) (m := rangeI 0 n.toNat) (a.asc.imp fun h e => by omega) fun x hx => by
    have := a.rng x hx
    exact rgm.mpr (by omega)
  rwa [rangeI_len] at this
def mkI (w : Wd) (i : Int) : List Int := if i = 0 then w.m0 else w.m1
end LB

set_option Elab.async false
set_option linter.all false
set_option maxRecDepth 100000
namespace LB
open PySem TL
end LB

set_option Elab.async false
set_option linter.all false
set_option maxRecDepth 100000
namespace LB
open PySem TL
end LB

set_option Elab.async false
set_option linter.all false
set_option maxRecDepth 100000
namespace LB
open PySem TL
def wdf : D → Str
  | .tuple (.str s :: _) => s
  | _ => ""
def wl : Nat → D → List Str
  | 0, _ => []
  | n + 1, f => [wdf f] ++ (prts f).flatMap (wl n)
end LB

set_option Elab.async false
set_option linter.all false
set_option maxRecDepth 100000
namespace LB
open PySem TL
section
variable {w u : Wd} (wok : w.Ok) (uok : u.Ok) {k : Nat} (hk : k ≤ 3) {S : List (List (Int × Int))} (hp : S.Perm (upM w u k)) (hc : canB w u k [] = true)
include hp
include wok uok hk hc
end
end LB

set_option Elab.async false
set_option linter.all false
set_option maxRecDepth 100000
namespace LB
open PySem TL
end LB

set_option Elab.async false
set_option linter.all false
set_option maxRecDepth 100000
namespace LB
open PySem TL
theorem lx_swo : SrtO.Swo lx := swo_lexL swo0.1 swo0.2
theorem lx_anti : ∀ t u, lx t u = false → lx u t = false → t = u := anti_lexL swo0.2
theorem asc_nodup {l : List (List Int)} (h : l.Pairwise fun t u => lx t u = true) : l.Nodup := h.imp fun {a b} hab e => by
  subst e
  rw [lx_swo.refl] at hab
  cases hab
theorem asc_ext {l k : List (List Int)} (h1 : l.Pairwise fun t u => lx t u = true) (h2 : k.Pairwise fun t u => lx t u = true) (hm : ∀ t, t ∈ l ↔ t ∈ k) : l = k :=
  asc_uniq lx_anti ((List.perm_ext_iff_of_nodup (asc_nodup h1) (asc_nodup h2)).mpr hm) (h1.imp fun h => lx_swo.asym _ _ h) (h2.imp fun h => lx_swo.asym _ _ h)
theorem asc1_ext {n : Int} {l k : List Int} (h1 : Asc1 n l) (h2 : Asc1 n k) (hm : ∀ t, t ∈ l ↔ t ∈ k) : l = k :=
  asc_uniq antiI ((List.perm_ext_iff_of_nodup (h1.asc.imp fun h e => by omega) (h2.asc.imp fun h e => by omega)).mpr hm) (h1.asc.imp fun h => decide_eq_false (by omega)) (h2.asc.imp fun h => decide_eq_false (by omega))
theorem asc2_ext {n : Int} {l k : List (Int × Int)} (h1 : Asc2 n l) (h2 : Asc2 n k) (hm : ∀ t, t ∈ l ↔ t ∈ k) : l = k :=
  asc_uniq antiP ((List.perm_ext_iff_of_nodup h1.nodup h2.nodup).mpr hm) (h1.asc.imp fun h => swoP.asym _ _ h) (h2.asc.imp fun h => swoP.asym _ _ h)
theorem lx_pre {x y : Int} (h : x < y) (r r' : List Int) : ∀ b : List Int, lx (b ++ x :: r) (b ++ y :: r') = true
  | [] => by
    show (if decide (x < y) = true then true else _) = true
    rw [if_pos (decide_eq_true h)]
  | a :: b => by
    show (if decide (a < a) = true then true else if decide (a < a) = true then false else lx (b ++ x :: r) (b ++ y :: r')) = true
    rw [if_neg (by simp), if_neg (by simp)]
    exact lx_pre h r r' b
theorem lk_pre {w u : Wd} : ∀ {m : Nat} {b t : List Int}, t ∈ lk w u m b → ∃ c, t = b ++ c ∧ c.length = m ∧ ∀ v ∈ c, 0 ≤ v ∧ v < u.n.toNat
  | 0, b, t, h => ⟨[], by rw [List.mem_singleton.mp h, List.append_nil], rfl, fun v h => by cases h⟩
  | m + 1, b, t, h => by
    rw [lk] at h
    obtain ⟨x, hx, h⟩ := List.mem_flatMap.mp h
    unfold lkF at h
    split at h
    · obtain ⟨c, h1, h2, h3⟩ := lk_pre h
      refine ⟨x :: c, by rw [h1, List.append_assoc]; rfl, by rw [List.length_cons, h2], fun v hv => ?_⟩
      rcases List.mem_cons.mp hv with rfl | hv
      · have := rangeI_mem.mp hx
        omega
      · exact h3 v hv
    · cases h
theorem lk_asc (w u : Wd) : ∀ m b, (lk w u m b).Pairwise fun t s => lx t s = true
  | 0, b => List.pairwise_singleton _ _
  | m + 1, b => by
    rw [lk, List.flatMap, List.pairwise_flatten]
    refine ⟨fun l hl => ?_, ?_⟩
    · obtain ⟨x, _, rfl⟩ := List.mem_map.mp hl
      unfold lkF
      split
      · exact lk_asc w u m _
      · exact .nil
    · rw [List.pairwise_map]
      refine (rangeI_asc 0 u.n.toNat).imp fun {x y} hxy t ht s hs => ?_
      unfold lkF at ht hs
      split at ht
      · split at hs
        · obtain ⟨c, h1, _⟩ := lk_pre ht
          obtain ⟨d, h2, _⟩ := lk_pre hs
          rw [h1, h2, List.append_assoc, List.append_assoc]
          exact lx_pre hxy c d b
        · cases hs
      · cases ht
def Stp (w u : Wd) (k : Nat) (t : List Int) : Prop := ∀ j, k ≤ j → j < t.length → okX w u (t.take j) (t.getD j 0) = true
theorem mem_lk {w u : Wd} : ∀ {m : Nat} {b c : List Int}, c.length = m → (∀ v ∈ c, 0 ≤ v ∧ v < u.n.toNat) → (b ++ c ∈ lk w u m b ↔ Stp w u b.length (b ++ c))
  | 0, b, c, hc, _ => by
    have : c = [] := List.eq_nil_of_length_eq_zero hc
    subst this
    rw [List.append_nil]
    exact ⟨fun _ j h1 h2 => absurd h2 (by omega), fun _ => List.mem_singleton.mpr rfl⟩
  | m + 1, b, [], hc, _ => by cases hc
  | m + 1, b, x :: c, hc, hr => by
    have hc : c.length = m := by simpa using hc
    have e : b ++ x :: c = (b ++ [x]) ++ c := by rw [List.append_assoc]; rfl
    have ih := mem_lk (w := w) (u := u) (m := m) (b := b ++ [x]) hc fun v hv => hr v (List.mem_cons_of_mem _ hv)
    have hx := hr x List.mem_cons_self
    have t0 : (b ++ x :: c).take b.length = b := by rw [List.take_left]
    have g0 : (b ++ x :: c).getD b.length 0 = x := by
      rw [List.getD_eq_getElem?_getD, List.getElem?_append_right (Nat.le_refl _), Nat.sub_self]
      rfl
    rw [lk, List.mem_flatMap]
    constructor
    · rintro ⟨y, hy, h⟩
      unfold lkF at h
      split at h
      · rename_i hok
        obtain ⟨d, h1, _, _⟩ := lk_pre h
        have h1 : b ++ x :: c = b ++ y :: d := by rw [h1, List.append_assoc]; rfl
        have h2 := List.append_cancel_left h1
        have exy : x = y := (List.cons.inj h2).1
        subst exy
        rw [e] at h
        have S := ih.mp h
        intro j j1 j2
        by_cases hj : j = b.length
        · subst hj
          rw [t0, g0]
          exact hok
        · rw [e]
          exact S j (by rw [List.length_append, List.length_singleton]; omega) (by rw [← e]; exact j2)
      · cases h
    · intro S
      refine ⟨x, rangeI_mem.mpr ⟨hx.1, by omega⟩, ?_⟩
      have hok := S b.length (Nat.le_refl _) (by rw [List.length_append, List.length_cons]; omega)
      rw [t0, g0] at hok
      unfold lkF
      rw [if_pos hok, e]
      refine ih.mpr fun j j1 j2 => ?_
      rw [List.length_append, List.length_singleton] at j1
      rw [← e] at j2 ⊢
      exact S j (by omega) j2
theorem mem_lk0 {w u : Wd} {m : Nat} {t : List Int} : t ∈ lk w u m [] ↔ t.length = m ∧ InR u.n t ∧ Stp w u 0 t := by
  constructor
  · intro h
    obtain ⟨c, rfl, h2, h3⟩ := lk_pre h
    refine ⟨h2, fun v hv => by have := h3 v hv; omega, ?_⟩
    exact (mem_lk (w := w) (u := u) (b := []) h2 h3).mp h
  · rintro ⟨h1, h2, h3⟩
    exact (mem_lk (b := []) (c := t) h1 fun v hv => by have := h2 v hv; omega).mpr h3
theorem fit_iff {w u : Wd} {a b c d : Int} : fitB w u (a, b) (c, d) = true ↔ (a = c ↔ b = d) ∧ (a ∈ w.m0 ↔ b ∈ u.m0) ∧ (a ∈ w.m1 ↔ b ∈ u.m1) ∧ ((a, c) ∈ w.ar ↔ (b, d) ∈ u.ar) ∧ ((c, a) ∈ w.ar ↔ (d, b) ∈ u.ar) := by
  unfold fitB
  simp only [Bool.and_eq_true, decide_eq_true_eq, decide_eq_decide]
  constructor
  · rintro ⟨⟨h1, h2, h3⟩, h4, h5⟩
    exact ⟨h1, h2, h3, h4, h5⟩
  · rintro ⟨h1, h2, h3, h4, h5⟩
    exact ⟨⟨h1, h2, h3⟩, h4, h5⟩
theorem stp_iff {w u : Wd} {t : List Int} : Stp w u 0 t ↔ ∀ i j : Int, 0 ≤ i → i ≤ j → j < t.length → fitB w u (j, nmI t j) (i, nmI t i) = true := by
  have okj : ∀ j : Nat, j < t.length → (okX w u (t.take j) (t.getD j 0) = true ↔ ∀ i : Int, 0 ≤ i → i ≤ j → fitB w u ((j : Int), nmI t j) (i, nmI t i) = true) := fun j hj => by
    have hl : (t.take j).length = j := by rw [List.length_take]; omega
    have nj : t.getD j 0 = nmI t (j : Int) := by unfold nmI; rw [Int.toNat_natCast]
    unfold okX
    rw [hl, List.all_append, Bool.and_eq_true, List.all_eq_true, List.all_eq_true, nj]
    have np : ∀ i : Int, 0 ≤ i → i < j → nmI (t.take j) i = nmI t i := fun i h0 h1 => by
      unfold nmI
      rw [List.getD_eq_getElem?_getD, List.getD_eq_getElem?_getD, List.getElem?_take, if_pos (by omega)]
    constructor
    · rintro ⟨h1, h2⟩ i i0 i1
      by_cases e : i = j
      · subst e
        exact h2 _ (List.mem_singleton.mpr rfl)
      · have := h1 (i, nmI (t.take j) i) (List.mem_map.mpr ⟨i, rangeI_mem.mpr ⟨i0, by rw [hl]; omega⟩, rfl⟩)
        rwa [np i i0 (by omega)] at this
    · intro h
      refine ⟨fun p hp => ?_, fun p hp => ?_⟩
      · obtain ⟨i, hi, rfl⟩ := List.mem_map.mp hp
        obtain ⟨i0, i1⟩ := rangeI_mem.mp hi
        rw [hl] at i1
        rw [np i i0 (by omega)]
        exact h i i0 (by omega)
      · rw [List.mem_singleton.mp hp]
        exact h j (by omega) (by omega)
  constructor
  · intro S i j i0 ij jl
    have h := S j.toNat (Nat.zero_le _) (by omega)
    have := (okj j.toNat (by omega)).mp h i i0 (by omega)
    rwa [show ((j.toNat : Nat) : Int) = j by omega] at this
  · intro h j _ jl
    exact (okj j jl).mpr fun i i0 i1 => h i j i0 i1 (by omega)
theorem perm_of {l : List Int} : ∀ {r : List Int}, l.Nodup → (∀ x ∈ l, x ∈ r) → r.length ≤ l.length → r.Perm l := by
  induction l with
  | nil =>
    intro r _ _ h
    have : r = [] := List.eq_nil_of_length_eq_zero (by simpa using h)
    rw [this]
  | cons a l ih =>
    intro r hn hs hl
    have hn := List.nodup_cons.mp hn
    have ha := hs a List.mem_cons_self
    have p := List.perm_cons_erase ha
    have hlen := p.length_eq
    rw [List.length_cons] at hlen hl
    exact p.trans ((ih hn.2 (fun x hx => (List.mem_erase_of_ne fun (e : x = a) => hn.1 (e ▸ hx)).mpr (hs x (List.mem_cons_of_mem _ hx))) (by omega)).cons a)
theorem perm_rng {t : List Int} {n : Int} (n0 : 0 ≤ n) (hn : t.Nodup) (hl : (t.length : Int) = n) (hr : InR n t) : t.Perm (rangeI 0 n.toNat) :=
  (perm_of hn (fun x hx => rangeI_mem.mpr ⟨(hr x hx).1, by have := (hr x hx).2; omega⟩) (by rw [rangeI_len]; omega)).symm
theorem stp_ren {w u : Wd} (wok : w.Ok) (uok : u.Ok) (e : w.n = u.n) {t : List Int} (hl : (t.length : Int) = w.n) (hr : InR w.n t) : Stp w u 0 t ↔ t.Nodup ∧ w.ren t = u := by
  have n0 : 0 ≤ w.n := by have := wok.lo; omega
  rw [stp_iff]
  constructor
  · intro h
    have h : ∀ i j : Int, 0 ≤ i → i ≤ j → j < t.length → _ := fun i j a b c => fit_iff.mp (h i j a b c)
    have nd : t.Nodup := by
      rw [List.Nodup, List.pairwise_iff_getElem]
      intro i j hi hj hij eq
      have q := (h i j (by omega) (by omega) (by omega)).1
      unfold nmI at q
      rw [Int.toNat_natCast, Int.toNat_natCast, List.getD_eq_getElem?_getD, List.getD_eq_getElem?_getD, List.getElem?_eq_getElem hi, List.getElem?_eq_getElem hj] at q
      have := q.mpr eq.symm
      omega
    have pp := perm_rng n0 nd hl hr
    have rok := Wd.ren_ok wok pp
    have sur : ∀ v, 0 ≤ v → v < w.n → ∃ a, 0 ≤ a ∧ a < w.n ∧ nmI t a = v := fun v v0 v1 => by
      have hv : v ∈ t := pp.mem_iff.mpr (rangeI_mem.mpr ⟨v0, by omega⟩)
      obtain ⟨i, hi⟩ := List.mem_iff_getElem?.mp hv
      have := (List.getElem?_eq_some_iff.mp hi).1
      refine ⟨(i : Int), by omega, by omega, ?_⟩
      unfold nmI
      rw [Int.toNat_natCast, List.getD_eq_getElem?_getD, hi]
      rfl
    have one : ∀ {l k : List Int}, Asc1 w.n l → Asc1 w.n k → (∀ a, 0 ≤ a → a < w.n → (a ∈ l ↔ nmI t a ∈ k)) → isort ltI (l.map (nmI t)) = k := fun {l k} hl hk hh => by
      have ha : Asc1 w.n (isort ltI (l.map (nmI t))) := asc1_of (map_nodup (fun a ha b hb e => nm_inj n0 pp (hl.rng a ha).1 (hl.rng a ha).2 (hl.rng b hb).1 (hl.rng b hb).2 e) (hl.asc.imp fun h e => by omega)) fun x hx => by
        obtain ⟨a, ha, rfl⟩ := List.mem_map.mp hx
        exact nm_rng n0 pp (hl.rng a ha).1 (hl.rng a ha).2
      refine asc1_ext ha hk fun v => ?_
      rw [isort_mem]
      constructor
      · intro hv
        obtain ⟨a, ha, rfl⟩ := List.mem_map.mp hv
        exact (hh a (hl.rng a ha).1 (hl.rng a ha).2).mp ha
      · intro hv
        obtain ⟨a, a0, a1, rfl⟩ := sur v (hk.rng v hv).1 (hk.rng v hv).2
        exact List.mem_map_of_mem ((hh a a0 a1).mpr hv)
    refine ⟨nd, ?_⟩
    have e0 := one wok.a0 (by rw [e]; exact uok.a0) fun a a0 a1 => (h a a a0 (Int.le_refl _) (by omega)).2.1
    have e1 := one wok.a1 (by rw [e]; exact uok.a1) fun a a0 a1 => (h a a a0 (Int.le_refl _) (by omega)).2.2.1
    have arr : ∀ a b, 0 ≤ a → a < w.n → 0 ≤ b → b < w.n → ((a, b) ∈ w.ar ↔ (nmI t a, nmI t b) ∈ u.ar) := fun a b a0 a1 b0 b1 => by
      rcases Int.le_total a b with ab | ab
      · exact (h a b a0 ab (by omega)).2.2.2.2
      · exact (h b a b0 ab (by omega)).2.2.2.1
    have e2 : (w.ren t).ar = u.ar := by
      refine asc2_ext (n := w.n) rok.ar (by rw [e]; exact uok.ar) fun p => ?_
      obtain ⟨x, y⟩ := p
      constructor
      · intro hp
        have r := rok.ar.rng _ hp
        obtain ⟨a, a0, a1, rfl⟩ := sur x r.1 r.2.1
        obtain ⟨b, b0, b1, rfl⟩ := sur y r.2.2.1 r.2.2.2
        exact (arr a b a0 a1 b0 b1).mp ((mem_ren2 wok pp a0 a1 b0 b1).mp hp)
      · intro hp
        have r := uok.ar.rng _ hp
        rw [← e] at r
        obtain ⟨a, a0, a1, rfl⟩ := sur x r.1 r.2.1
        obtain ⟨b, b0, b1, rfl⟩ := sur y r.2.2.1 r.2.2.2
        exact (mem_ren2 wok pp a0 a1 b0 b1).mpr ((arr a b a0 a1 b0 b1).mpr hp)
    obtain ⟨un, u0, u1, ua⟩ := u
    have e2 : isort ltPr (w.ar.map fun p => (nmI t p.1, nmI t p.2)) = ua := e2
    unfold Wd.ren
    simp only at e e0 e1
    rw [e0, e1, e2, e]
  · rintro ⟨nd, he⟩ i j i0 ij jl
    have pp := perm_rng n0 nd hl hr
    have j0 : 0 ≤ j := by omega
    have j1 : j < w.n := by omega
    have i1 : i < w.n := by omega
    rw [fit_iff]
    subst he
    refine ⟨⟨fun e => by rw [e], fun e => nm_inj n0 pp j0 j1 i0 i1 e⟩, (mem_ren1 wok pp wok.a0 j0 j1).symm, (mem_ren1 wok pp wok.a1 j0 j1).symm, (mem_ren2 wok pp j0 j1 i0 i1).symm, (mem_ren2 wok pp i0 i1 j0 j1).symm⟩
def ext1 (n : Nat) (t : List Int) : List (List Int) := ((rangeI 0 n).filter fun x => !decide (x ∈ t)).map fun x => t ++ [x]
def ordT (n : Nat) : Nat → List (List Int)
  | 0 => [[]]
  | k + 1 => (ordT n k).flatMap (ext1 n)
theorem nodup_snoc {t : List Int} {x : Int} : (t ++ [x]).Nodup ↔ t.Nodup ∧ x ∉ t := by
  have p : (t ++ [x]).Perm (x :: t) := List.perm_append_comm
  rw [p.nodup_iff, List.nodup_cons]
  exact And.comm
theorem ordT_mem {n : Nat} : ∀ {k : Nat} {t : List Int}, t ∈ ordT n k ↔ t.length = k ∧ InR n t ∧ t.Nodup
  | 0, t => ⟨fun h => by
      rw [List.mem_singleton.mp h]
      exact ⟨rfl, fun v h => (by cases h), .nil⟩, fun ⟨h, _⟩ => by
      rw [List.eq_nil_of_length_eq_zero h]
      exact List.mem_singleton.mpr rfl⟩
  | k + 1, t => by
    rw [ordT, List.mem_flatMap]
    constructor
    · rintro ⟨s, hs, ht⟩
      obtain ⟨h1, h2, h3⟩ := ordT_mem.mp hs
      obtain ⟨x, hx, rfl⟩ := List.mem_map.mp ht
      obtain ⟨hx, hn⟩ := List.mem_filter.mp hx
      have hx := rangeI_mem.mp hx
      refine ⟨by rw [List.length_append, h1]; rfl, fun v hv => ?_, nodup_snoc.mpr ⟨h3, by simpa using hn⟩⟩
      rcases List.mem_append.mp hv with hv | hv
      · exact h2 v hv
      · rw [List.mem_singleton.mp hv]
        omega
    · rintro ⟨h1, h2, h3⟩
      rcases List.eq_nil_or_concat t with rfl | ⟨s, x, rfl⟩
      · cases h1
      · rw [List.concat_eq_append] at h1 h2 h3 ⊢
        obtain ⟨n1, n2⟩ := nodup_snoc.mp h3
        refine ⟨s, ordT_mem.mpr ⟨by simpa using h1, fun v hv => h2 v (List.mem_append_left _ hv), n1⟩, List.mem_map.mpr ⟨x, List.mem_filter.mpr ⟨rangeI_mem.mpr ?_, by simpa using n2⟩, rfl⟩⟩
        have := h2 x (List.mem_append_right _ (List.mem_singleton.mpr rfl))
        omega
theorem ordT_asc (n : Nat) : ∀ k, (ordT n k).Pairwise fun t u => lx t u = true
  | 0 => List.pairwise_singleton _ _
  | k + 1 => by
    rw [ordT, List.flatMap, List.pairwise_flatten]
    refine ⟨fun l hl => ?_, ?_⟩
    · obtain ⟨t, ht, rfl⟩ := List.mem_map.mp hl
      unfold ext1
      rw [List.pairwise_map]
      exact ((rangeI_asc 0 n).filter _).imp fun h => lex_app h
    · rw [List.pairwise_map]
      refine (List.Pairwise.and_mem.mp (ordT_asc n k)).imp fun ⟨h1, h2, h⟩ x hx y hy => ?_
      obtain ⟨a, _, rfl⟩ := List.mem_map.mp hx
      obtain ⟨b, _, rfl⟩ := List.mem_map.mp hy
      exact lex_ext (by rw [(ordT_mem.mp h1).1, (ordT_mem.mp h2).1]) h
def goodT (w u : Wd) : List (List Int) := (ordT w.n.toNat w.n.toNat).filter fun t => decide (w.n = u.n) && decide ((w.ren t).m0 = u.m0 ∧ (w.ren t).m1 = u.m1 ∧ (w.ren t).ar = u.ar)
theorem wd_eq {w u : Wd} : w = u ↔ w.n = u.n ∧ w.m0 = u.m0 ∧ w.m1 = u.m1 ∧ w.ar = u.ar := by
  obtain ⟨a, b, c, d⟩ := w
  obtain ⟨a', b', c', d'⟩ := u
  simp only [Wd.mk.injEq]
theorem good_lk {w u : Wd} (wok : w.Ok) (uok : u.Ok) (e : w.n = u.n) : goodT w u = lk w u w.n.toNat [] := by
  refine asc_ext ((ordT_asc _ _).filter _) (lk_asc _ _ _ _) fun t => ?_
  have lo := wok.lo
  rw [mem_lk0, goodT, List.mem_filter, ordT_mem, Bool.and_eq_true, decide_eq_true_eq, decide_eq_true_eq]
  have hz : ((w.n.toNat : Nat) : Int) = w.n := by omega
  rw [hz]
  constructor
  · rintro ⟨⟨h1, h2, h3⟩, _, h4⟩
    exact ⟨h1, by rw [← e]; exact h2, (stp_ren wok uok e (by omega) h2).mpr ⟨h3, wd_eq.mpr ⟨e, h4⟩⟩⟩
  · rintro ⟨h1, h2, h3⟩
    rw [← e] at h2
    obtain ⟨k1, k2⟩ := (stp_ren wok uok e (by omega) h2).mp h3
    exact ⟨⟨h1, h2, k1⟩, e, (wd_eq.mp k2).2⟩
end LB

set_option Elab.async false
set_option linter.all false
set_option maxRecDepth 100000
namespace LB
open PySem TL
theorem prsT_mem {t : List Int} {p : Int × Int} : p ∈ prsT t ↔ ∃ k : Int, (0 ≤ k ∧ k < t.length) ∧ p = (k, nmI t k) := by
  unfold prsT
  rw [List.mem_map]
  constructor
  · rintro ⟨k, hk, rfl⟩
    have := rangeI_mem.mp hk
    exact ⟨k, by omega, rfl⟩
  · rintro ⟨k, hk, rfl⟩
    exact ⟨k, rangeI_mem.mpr (by omega), rfl⟩
theorem rng_nodup (n : Nat) : (rangeI 0 n).Nodup := by
  rw [List.nodup_iff_pairwise_ne, List.pairwise_iff_getElem]
  intro i j hi hj hij e
  rw [rangeI_len] at hi hj
  have a := rangeI_get (lo := 0) hi
  have b := rangeI_get (lo := 0) hj
  rw [List.getElem?_eq_getElem (by rw [rangeI_len]; exact hi)] at a
  rw [List.getElem?_eq_getElem (by rw [rangeI_len]; exact hj)] at b
  have a := Option.some.inj a
  have b := Option.some.inj b
  omega
end LB

set_option Elab.async false
set_option linter.all false
set_option maxRecDepth 100000
namespace LB
open PySem TL
end LB

set_option Elab.async false
set_option linter.all false
set_option maxRecDepth 100000
namespace LB
open PySem TL
end LB

set_option Elab.async false
set_option linter.all false
set_option maxRecDepth 100000
namespace LB
open PySem TL
end LB

set_option Elab.async false
set_option linter.all false
set_option maxRecDepth 100000
namespace LB
open PySem TL
def relB (way : Bool) (w u : Wd) (p q : Int × Int) : Bool := if way then carB w u p q else fitB w u p q
def stepG (way : Bool) (w u : Wd) (t : List Int) (x : Int) : Bool := (prsT t ++ [((t.length : Int), x)]).all fun q => relB way w u ((t.length : Int), x) q
theorem goR_iff {way : Bool} {w u : Wd} {l : List (Int × Int)} : goW way w u l = true ↔ ∀ p ∈ l, ∀ q ∈ l, relB way w u p q = true := by
  unfold goW
  rw [List.all_eq_true]
  refine forall₂_congr fun p hp => ?_
  rw [List.all_eq_true]
  exact forall₂_congr fun q hq => Iff.rfl
end LB

set_option Elab.async false
set_option linter.all false
set_option maxRecDepth 100000
namespace LB
open PySem TL
section
variable {w : Wd} {row : List Int} (hrow : (rangeI 0 w.n.toNat).filter (fun a => decide (a ∈ row)) = row)
include hrow
end
end LB

set_option Elab.async false
set_option linter.all false
set_option maxRecDepth 100000
namespace LB
open PySem TL
def rs : Nat → D → Bool
  | 0, _ => false
  | n + 1, f => !decide (wdf f ∈ [Str.ofString "all", Str.ofString "least"]) && (if wdf f = "not" then decide (wdf ((prts f).headD .none) ∈ [Str.ofString "same", Str.ofString "mark", Str.ofString "arrow"]) else (prts f).all (rs n))
end LB

set_option Elab.async false
set_option linter.all false
set_option maxRecDepth 100000
namespace LB
open PySem TL
end LB

set_option Elab.async false
set_option linter.all false
set_option maxRecDepth 100000
namespace LB
open PySem TL
end LB

set_option Elab.async false
set_option linter.all false
set_option maxRecDepth 100000
namespace LB
open PySem TL
end LB

set_option Elab.async false
set_option linter.all false
set_option maxRecDepth 100000
namespace LB
open PySem TL
end LB

set_option Elab.async false
set_option linter.all false
set_option maxRecDepth 100000
namespace LB
open PySem TL
theorem eqvAll_ints : ∀ a b : List Int, PyData.eqvAll (a.map .int) (b.map .int) = decide (a = b)
  | [], [] => by simp [PyData.eqvAll]
  | [], _ :: _ => by simp [PyData.eqvAll]
  | _ :: _, [] => by simp [PyData.eqvAll]
  | x :: a, y :: b => by
    simp only [List.map_cons, PyData.eqvAll, eqvAll_ints a b, eqv_int]
    by_cases h1 : x = y <;> by_cases h2 : a = b <;> simp [h1, h2]
theorem shaped_tis (l : List (List Int)) : SeqAt.shaped (.list (l.map tI)) = true := by
  have c1 : ∀ t, PyData.canLay0 (tI t) = true := fun t => by simp [tI, PyData.canLay0, lay_ints]
  have d1 : ∀ t, (tI t).depth = 1 := fun t => by simp [tI, PyData.depth, dep_ints]
  have h : ∀ l : List (List Int), PyData.canLayAll0 (l.map tI) = true ∧ PyData.depthAll (l.map tI) ≤ 1 := fun l => by
    induction l with
    | nil => simp [PyData.canLayAll0, PyData.depthAll]
    | cons t l ih =>
      simp only [List.map_cons, PyData.canLayAll0, PyData.depthAll, c1, d1, Bool.true_and]
      exact ⟨ih.1, by have := ih.2; omega⟩
  exact shaped_of (by simp [PyData.canLay0, (h l).1]) (by
    have := (h l).2
    simp only [PyData.depth]
    omega)
theorem eq_nil (l : List (List Int)) : eqD (.list (l.map tI)) (.list []) = some (.bool l.isEmpty) ∧ neD (.list (l.map tI)) (.list []) = some (.bool (!l.isEmpty)) := by
  have hz : PyData.eqv (.list (l.map tI)) (.list []) = l.isEmpty := by cases l <;> simp [PyData.eqv, PyData.eqvAll]
  unfold eqD neD
  rw [if_pos ⟨shaped_tis l, shaped_tis []⟩, if_pos ⟨shaped_tis l, shaped_tis []⟩, hz]
  exact ⟨rfl, rfl⟩
theorem pow5 {n : Nat} (h : n ≤ 5) {m : Nat} (hm : m ≤ 5) : n ^ m ≤ 3125 := by
  have h1 : n ^ m ≤ 5 ^ m := Nat.pow_le_pow_left h m
  have h2 : (5 : Nat) ^ m ≤ 5 ^ 5 := Nat.pow_le_pow_right (by decide) hm
  have h3 : (5 : Nat) ^ 5 = 3125 := by decide
  omega
section
variable {w u : Wd} (wok : w.Ok) (uok : u.Ok) (wn : w.n ≤ 5)
include wok uok wn
theorem likes5 (e : w.n = u.n) : m_likenesses_2 60 [w.d, u.d, .tuple []] = some (.list ((goodT w u).map tI)) := by
  have lo := wok.lo
  have := likes_ok (w := w) (u := u) (by omega) (by omega) w.n.toNat (b := []) (n := 60) (by simp; omega) (by omega) (by simp; omega) fun j hj => Nat.le_trans (pow5 (by omega) (by omega)) (by decide)
  rw [good_lk wok uok e]
  exact this
theorem turnings5 : m_turnings_2 [w.d] = some (.list ((goodT w w).map tI)) := run_rt rfl (ret_go (call3_go rfl rfl (by kernel_rfl) (likes5 wok wok wn rfl)))
end
end LB

set_option Elab.async false
set_option linter.all false
set_option maxRecDepth 100000
namespace LB
open PySem TL
end LB

set_option Elab.async false
set_option linter.all false
set_option maxRecDepth 100000
namespace LB
open PySem TL
theorem eqv_ti (a b : List Int) : PyData.eqv (tI a) (tI b) = decide (a = b) := by
  show PyData.eqv (.tuple _) (.tuple _) = _
  simp only [PyData.eqv]
  exact eqvAll_ints a b
theorem in_tis (t : List Int) (l : List (List Int)) : inD (tI t) (.list (l.map tI)) = some (.bool (decide (t ∈ l))) := by
  have sh : SeqAt.shaped (tI t) = true := shaped_of (by simp [tI, PyData.canLay0, lay_ints]) (by simp [tI, PyData.depth, dep_ints])
  simp only [inD]
  rw [if_pos ⟨sh, shaped_tis l⟩]
  congr 2
  induction l with
  | nil => simp
  | cons a l ih =>
    rw [List.map_cons, List.any_cons, ih, eqv_ti]
    by_cases h : a = t
    · simp [h]
    · have h' : ¬ t = a := fun e => h e.symm
      simp [h, h']
section
variable {w u : Wd} (wok : w.Ok) (uok : u.Ok)
include wok uok
end
end LB

set_option Elab.async false
set_option linter.all false
set_option maxRecDepth 100000
namespace LB
open PySem TL
end LB

set_option Elab.async false
set_option linter.all false
set_option maxRecDepth 100000
namespace LB
open PySem TL
theorem part_Ok {w : Wd} {row : List Int} (h1 : 1 ≤ row.length) (h8 : row.length ≤ 8) : (part w row).Ok := by
  refine ⟨by show (1 : Int) ≤ (row.length : Int); omega, by show (row.length : Int) ≤ 8; omega, ?_, ?_, ?_⟩
  · exact ⟨(rangeI_asc 0 _).filter _, fun a ha => by
      have := rangeI_mem.mp (List.mem_filter.mp ha).1
      show 0 ≤ a ∧ a < (row.length : Int)
      omega⟩
  · exact ⟨(rangeI_asc 0 _).filter _, fun a ha => by
      have := rangeI_mem.mp (List.mem_filter.mp ha).1
      show 0 ≤ a ∧ a < (row.length : Int)
      omega⟩
  · constructor
    · have key : ∀ l : List Int, l.Pairwise (· < ·) → (l.flatMap fun j => ((rangeI 0 row.length).filter fun k => decide ((rat row j, rat row k) ∈ w.ar)).map fun k => (j, k)).Pairwise fun p q => ltPr p q = true := by
        intro l
        induction l with
        | nil => exact fun _ => .nil
        | cons a l ih =>
          intro h
          obtain ⟨h1, h2⟩ := List.pairwise_cons.mp h
          rw [List.flatMap_cons, List.pairwise_append]
          refine ⟨?_, ih h2, ?_⟩
          · refine List.pairwise_map.mpr (((rangeI_asc 0 _).filter _).imp fun {x y} hxy => ?_)
            exact SrtO.lexB_iff.mpr (.inr ⟨rfl, hxy⟩)
          · intro p hp q hq
            obtain ⟨x, _, rfl⟩ := List.mem_map.mp hp
            obtain ⟨b, hb, hq⟩ := List.mem_flatMap.mp hq
            obtain ⟨y, _, rfl⟩ := List.mem_map.mp hq
            exact SrtO.lexB_iff.mpr (.inl (h1 b hb))
      exact key _ (rangeI_asc 0 _)
    · intro p hp
      obtain ⟨j, hj, hp⟩ := List.mem_flatMap.mp hp
      obtain ⟨k, hk, rfl⟩ := List.mem_map.mp hp
      have a := rangeI_mem.mp hj
      have b := rangeI_mem.mp (List.mem_filter.mp hk).1
      show 0 ≤ j ∧ j < (row.length : Int) ∧ 0 ≤ k ∧ k < (row.length : Int)
      omega
end LB

set_option Elab.async false
set_option linter.all false
set_option maxRecDepth 100000
namespace LB
open PySem TL
section
variable {way : Bool} {w u : Wd} {t : List Int} (ht : t ∈ waysW way w u w.n.toNat)
include ht
end
end LB

set_option Elab.async false
set_option linter.all false
set_option maxRecDepth 100000
namespace LB
open PySem TL
theorem look_app (f g : List (Int × Int)) (x : Int) : (f ++ g).lookup x = (f.lookup x).or (g.lookup x) := by
  induction f with
  | nil => rfl
  | cons p f ih =>
    rw [List.cons_append, List.lookup_cons, List.lookup_cons, ih]
    cases x == p.1 <;> rfl
theorem look_map {c : Int} {x : Int} : ∀ l : List Int, (l.map fun y => (y, c)).lookup x = if x ∈ l then some c else none
  | [] => rfl
  | y :: l => by
    rw [List.map_cons, List.lookup_cons, look_map l]
    by_cases h : x = y
    · subst h
      simp
    · rw [show (x == y) = false from beq_eq_false_iff_ne.mpr h]
      simp [h]
theorem look_key {x v : Int} : ∀ {f : List (Int × Int)}, f.lookup x = some v → x ∈ f.map (·.1)
  | [], h => by cases h
  | p :: f, h => by
    rw [List.lookup_cons] at h
    by_cases e : x = p.1
    · rw [e]
      exact List.mem_cons_self
    · rw [show (x == p.1) = false from beq_eq_false_iff_ne.mpr e] at h
      exact List.mem_cons_of_mem _ (look_key h)
theorem key_look {x : Int} : ∀ {f : List (Int × Int)}, x ∈ f.map (·.1) → ∃ v, f.lookup x = some v
  | [], h => by cases h
  | p :: f, h => by
    rw [List.lookup_cons]
    by_cases e : x = p.1
    · rw [e]
      exact ⟨p.2, by simp⟩
    · rw [show (x == p.1) = false from beq_eq_false_iff_ne.mpr e]
      rcases List.mem_cons.mp h with h | h
      · exact absurd h e
      · exact key_look h
def adjB (w : Wd) (x y : Int) : Bool := decide ((x, y) ∈ w.ar) || decide ((y, x) ∈ w.ar)
def Rb (w : Wd) (a : Int) : Nat → Int → Bool
  | 0, b => decide (b = a)
  | k + 1, b => Rb w a k b || (rangeI 0 w.n.toNat).any fun x => Rb w a k x && adjB w x b
theorem Rb.le {w : Wd} {a b : Int} {j k : Nat} (h : Rb w a j b = true) (hk : j ≤ k) : Rb w a k b = true := by
  induction k with
  | zero =>
    rw [Nat.le_zero.mp hk] at h
    exact h
  | succ k ih =>
    by_cases e : j = k + 1
    · exact e ▸ h
    · rw [Rb, ih (by omega), Bool.true_or]
theorem Rb.step {w : Wd} {a x b : Int} {k : Nat} (h : Rb w a k x = true) (hx : 0 ≤ x ∧ x < w.n) (e : adjB w x b = true) : Rb w a (k + 1) b = true := by
  rw [Rb, Bool.or_eq_true]
  exact .inr (List.any_eq_true.mpr ⟨x, rangeI_mem.mpr (by omega), by rw [h, e]; rfl⟩)
structure DI (w : Wd) (a : Int) (f : List (Int × Int)) : Prop where
  snd : ∀ b k, f.lookup b = some k → (0 ≤ b ∧ b < w.n) ∧ 0 ≤ k ∧ Rb w a k.toNat b = true
  cpl : ∀ (m : Nat) b, 0 ≤ b → b < w.n → Rb w a m b = true → ∃ k, f.lookup b = some k ∧ k ≤ (m : Int)
theorem DI.of {w : Wd} {a : Int} {f : List (Int × Int)} (a0 : f.lookup a = some 0) (up : ∀ b k, f.lookup b = some k → (0 ≤ b ∧ b < w.n) ∧ 0 ≤ k ∧ Rb w a k.toNat b = true)
    (pr : ∀ x k, f.lookup x = some k → ∀ y, 0 ≤ y → y < w.n → adjB w x y = true → ∃ j, f.lookup y = some j ∧ j ≤ k + 1) : DI w a f := by
  refine ⟨up, fun m => ?_⟩
  induction m with
  | zero =>
    intro b h0 h1 h
    rw [Rb, decide_eq_true_eq] at h
    exact ⟨0, h ▸ a0, by omega⟩
  | succ m ih =>
    intro b h0 h1 h
    rw [Rb, Bool.or_eq_true] at h
    rcases h with h | h
    · obtain ⟨k, e1, e2⟩ := ih b h0 h1 h
      exact ⟨k, e1, by omega⟩
    · obtain ⟨x, hx, hh⟩ := List.any_eq_true.mp h
      rw [Bool.and_eq_true] at hh
      have hx := rangeI_mem.mp hx
      obtain ⟨k, e1, e2⟩ := ih x hx.1 (by omega) hh.1
      obtain ⟨j, e3, e4⟩ := pr x k e1 b h0 h1 hh.2
      exact ⟨j, e3, by omega⟩
theorem DI.eq {w : Wd} {a : Int} {f g : List (Int × Int)} (hf : DI w a f) (hg : DI w a g) (b : Int) : f.lookup b = g.lookup b := by
  have half : ∀ {f g : List (Int × Int)}, DI w a f → DI w a g → ∀ k, f.lookup b = some k → ∃ j, g.lookup b = some j ∧ j ≤ k := fun {f g} hf hg k e => by
    obtain ⟨h1, h2, h3⟩ := hf.snd b k e
    obtain ⟨j, e1, e2⟩ := hg.cpl _ b h1.1 h1.2 h3
    exact ⟨j, e1, by omega⟩
  cases e : f.lookup b with
  | none =>
    cases e2 : g.lookup b with
    | none => rfl
    | some j =>
      obtain ⟨k, e3, _⟩ := half hg hf j e2
      rw [e] at e3
      cases e3
  | some k =>
    obtain ⟨j, e1, l1⟩ := half hf hg k e
    obtain ⟨k2, e2, l2⟩ := half hg hf j e1
    rw [e] at e2
    cases e2
    rw [e1, show k = j by omega]
def nbs (w : Wd) (x : Int) : List Int := (rangeI 0 w.n.toNat).filter fun b => !decide (b = x) && adjB w x b
theorem nbs_mem {w : Wd} {x y : Int} : y ∈ nbs w x ↔ (0 ≤ y ∧ y < w.n) ∧ y ≠ x ∧ adjB w x y = true := by
  unfold nbs
  rw [List.mem_filter, rangeI_mem, Bool.and_eq_true, Bool.not_eq_true', decide_eq_false_iff_not]
  constructor
  · rintro ⟨h1, h2, h3⟩
    exact ⟨by omega, h2, h3⟩
  · rintro ⟨h1, h2, h3⟩
    exact ⟨by omega, h2, h3⟩
theorem rngnd (lo : Int) (n : Nat) : (rangeI lo n).Nodup := (rangeI_asc lo n).imp fun h => Int.ne_of_lt h
theorem nbs_nodup (w : Wd) (x : Int) : (nbs w x).Nodup := (rngnd _ _).filter _
def newF (f : List (Int × Int)) (l : List Int) : List Int := l.filter fun y => (f.lookup y).isNone
def addF (f : List (Int × Int)) (h : Int) (l : List Int) : List (Int × Int) := f ++ (newF f l).map fun y => (y, h)
theorem addF_look {f : List (Int × Int)} {h : Int} {l : List Int} {x : Int} : (addF f h l).lookup x = (f.lookup x).or (if x ∈ l then some h else none) := by
  unfold addF
  rw [look_app, look_map]
  cases e : f.lookup x with
  | some k => rfl
  | none =>
    show (if x ∈ newF f l then some h else none) = if x ∈ l then some h else none
    have : x ∈ newF f l ↔ x ∈ l := by
      unfold newF
      rw [List.mem_filter, e]
      simp
    by_cases hm : x ∈ l
    · rw [if_pos (this.mpr hm), if_pos hm]
    · rw [if_neg (fun z => hm (this.mp z)), if_neg hm]
theorem addF_nd {f : List (Int × Int)} {h : Int} {l : List Int} (hf : (f.map (·.1)).Nodup) (hl : l.Nodup) : ((addF f h l).map (·.1)).Nodup := by
  unfold addF
  rw [List.map_append, List.map_map]
  have e : ((newF f l).map ((·.1) ∘ fun y => (y, h))) = newF f l := by
    rw [show ((·.1) ∘ fun (y : Int) => (y, h)) = id from rfl, List.map_id]
  rw [e]
  refine List.nodup_append.mpr ⟨hf, hl.filter _, fun x hx y hy he => ?_⟩
  subst he
  obtain ⟨v, hv⟩ := key_look hx
  have := (List.mem_filter.mp hy).2
  rw [hv] at this
  cases this
structure BI (w : Wd) (a : Int) (f : List (Int × Int)) (q : List Int) (h : Int) : Prop where
  a0 : f.lookup a = some 0
  up : ∀ y k, f.lookup y = some k → ((0 ≤ y ∧ y < w.n) ∧ 0 ≤ k ∧ Rb w a k.toNat y = true) ∧ k ≤ h + 1
  qq : ∃ q1 q2, q = q1 ++ q2 ∧ (∀ x ∈ q1, f.lookup x = some h) ∧ ∀ x ∈ q2, f.lookup x = some (h + 1)
  pr : ∀ x k, f.lookup x = some k → x ∉ q → ∀ y, 0 ≤ y → y < w.n → adjB w x y = true → ∃ j, f.lookup y = some j ∧ j ≤ k + 1
  nd : (f.map (·.1)).Nodup
  h0 : 0 ≤ h
theorem BI.len {w : Wd} {a : Int} {f : List (Int × Int)} {q : List Int} {h : Int} (b : BI w a f q h) : f.length ≤ w.n.toNat := by
  have := nodup_leM b.nd (m := rangeI 0 w.n.toNat) fun x hx => by
    obtain ⟨v, hv⟩ := key_look hx
    have := (b.up x v hv).1.1
    exact rangeI_mem.mpr (by omega)
  rw [List.length_map, rangeI_len] at this
  exact this
theorem BI.head {w : Wd} {a : Int} {f : List (Int × Int)} {x : Int} {q : List Int} {h : Int} (b : BI w a f (x :: q) h) : ∃ h', BI w a f (x :: q) h' ∧ f.lookup x = some h' ∧ ∃ q1 q2, q = q1 ++ q2 ∧ (∀ x ∈ q1, f.lookup x = some h') ∧ ∀ x ∈ q2, f.lookup x = some (h' + 1) := by
  obtain ⟨q1, q2, e, e1, e2⟩ := b.qq
  cases q1 with
  | cons z q1 =>
    injection e with ea eb
    subst ea
    exact ⟨h, b, e1 x List.mem_cons_self, q1, q2, eb, fun y hy => e1 y (List.mem_cons_of_mem _ hy), e2⟩
  | nil =>
    have e : x :: q = q2 := e
    subst e
    refine ⟨h + 1, ⟨b.a0, fun y k hy => ⟨(b.up y k hy).1, by have := (b.up y k hy).2; omega⟩, ⟨x :: q, [], by simp, e2, by simp⟩, b.pr, b.nd, by have := b.h0; omega⟩, e2 x List.mem_cons_self, q, [], by simp, fun y hy => e2 y (List.mem_cons_of_mem _ hy), by simp⟩
theorem BI.step {w : Wd} {a : Int} {f : List (Int × Int)} {x : Int} {q : List Int} {h : Int} (b : BI w a f (x :: q) h) (hx : f.lookup x = some h) (hq : ∃ q1 q2, q = q1 ++ q2 ∧ (∀ x ∈ q1, f.lookup x = some h) ∧ ∀ x ∈ q2, f.lookup x = some (h + 1)) :
    BI w a (addF f (h + 1) (nbs w x)) (q ++ newF f (nbs w x)) h := by
  have h0 := b.h0
  have old : ∀ {y k}, f.lookup y = some k → (addF f (h + 1) (nbs w x)).lookup y = some k := fun {y k} e => by rw [addF_look, e]; rfl
  have nw : ∀ {y}, y ∈ newF f (nbs w x) → (addF f (h + 1) (nbs w x)).lookup y = some (h + 1) := fun {y} hy => by
    obtain ⟨m1, m2⟩ := List.mem_filter.mp hy
    rw [addF_look, if_pos m1]
    cases e : f.lookup y with
    | none => rfl
    | some k => rw [e] at m2; cases m2
  have cs : ∀ {y k}, (addF f (h + 1) (nbs w x)).lookup y = some k → f.lookup y = some k ∨ f.lookup y = none ∧ y ∈ nbs w x ∧ k = h + 1 := fun {y k} e => by
    rw [addF_look] at e
    cases e2 : f.lookup y with
    | some j => rw [e2] at e; exact .inl e
    | none =>
      rw [e2] at e
      by_cases hm : y ∈ nbs w x
      · rw [if_pos hm] at e
        cases e
        exact .inr ⟨rfl, hm, rfl⟩
      · rw [if_neg hm] at e
        cases e
  obtain ⟨q1, q2, eq, e1, e2⟩ := hq
  obtain ⟨xr, _, xR⟩ := (b.up x h hx).1
  refine ⟨old b.a0, fun y k e => ?_, ⟨q1, q2 ++ newF f (nbs w x), by rw [eq, List.append_assoc], fun y hy => old (e1 y hy), fun y hy => ?_⟩, fun x0 k e hn y y0 y1 ha => ?_, addF_nd b.nd (nbs_nodup w x), h0⟩
  · rcases cs e with e | ⟨_, hm, rfl⟩
    · exact b.up y k e
    · obtain ⟨m1, _, m3⟩ := nbs_mem.mp hm
      refine ⟨⟨m1, by omega, ?_⟩, Int.le_refl _⟩
      rw [show (h + 1).toNat = h.toNat + 1 by omega]
      exact Rb.step xR xr m3
  · rcases List.mem_append.mp hy with hy | hy
    · exact old (e2 y hy)
    · exact nw hy
  · rw [List.mem_append, not_or] at hn
    by_cases hxx : x0 = x
    · subst hxx
      rw [old hx] at e
      cases e
      by_cases hyx : y = x0
      · subst hyx
        exact ⟨h, old hx, by omega⟩
      · cases e3 : f.lookup y with
        | some j => exact ⟨j, old e3, (b.up y j e3).2⟩
        | none => exact ⟨h + 1, nw (List.mem_filter.mpr ⟨nbs_mem.mpr ⟨⟨y0, y1⟩, hyx, ha⟩, by rw [e3]; rfl⟩), Int.le_refl _⟩
    · rcases cs e with e | ⟨e3, hm, _⟩
      · obtain ⟨j, j1, j2⟩ := b.pr x0 k e (fun z => (List.mem_cons.mp z).elim hxx hn.1) y y0 y1 ha
        exact ⟨j, old j1, j2⟩
      · exact absurd (List.mem_filter.mpr ⟨hm, by rw [e3]; rfl⟩) hn.2
end LB

set_option Elab.async false
set_option linter.all false
set_option maxRecDepth 100000
namespace LB
open PySem TL
structure LI (w : Wd) (a : Int) (f : List (Int × Int)) (t : Nat) : Prop where
  a0 : f.lookup a = some 0
  up : ∀ y k, f.lookup y = some k → ((0 ≤ y ∧ y < w.n) ∧ 0 ≤ k ∧ Rb w a k.toNat y = true) ∧ k ≤ (t : Int)
  pr : ∀ x k, f.lookup x = some k → k < (t : Int) → ∀ y, 0 ≤ y → y < w.n → adjB w x y = true → ∃ j, f.lookup y = some j ∧ j ≤ k + 1
  nd : (f.map (·.1)).Nodup
  ct : t + 1 ≤ f.length ∨ ∀ x, f.lookup x ≠ some (t : Int)
def moreL (w : Wd) (f : List (Int × Int)) (t : Nat) : List Int := (rangeI 0 w.n.toNat).filter fun y => (f.lookup y).isNone && decide (0 < ((f.map (·.1)).filter fun x => decide (f.lookup x = some (t : Int)) && adjB w x y).length)
theorem more_mem {w : Wd} {f : List (Int × Int)} {t : Nat} {y : Int} : y ∈ moreL w f t ↔ (0 ≤ y ∧ y < w.n) ∧ f.lookup y = none ∧ ∃ x, f.lookup x = some (t : Int) ∧ adjB w x y = true := by
  unfold moreL
  rw [List.mem_filter, rangeI_mem, Bool.and_eq_true, decide_eq_true_eq, List.length_pos_iff_exists_mem, Option.isNone_iff_eq_none]
  constructor
  · rintro ⟨h1, h2, x, hx⟩
    obtain ⟨_, h3⟩ := List.mem_filter.mp hx
    rw [Bool.and_eq_true, decide_eq_true_eq] at h3
    exact ⟨by omega, h2, x, h3⟩
  · rintro ⟨h1, h2, x, h3, h4⟩
    exact ⟨by omega, h2, x, List.mem_filter.mpr ⟨look_key h3, by rw [decide_eq_true h3, h4]; rfl⟩⟩
theorem LI.len {w : Wd} {a : Int} {f : List (Int × Int)} {t : Nat} (b : LI w a f t) : f.length ≤ w.n.toNat := by
  have := nodup_leM b.nd (m := rangeI 0 w.n.toNat) fun x hx => by
    obtain ⟨v, hv⟩ := key_look hx
    have := (b.up x v hv).1.1
    exact rangeI_mem.mpr (by omega)
  rw [List.length_map, rangeI_len] at this
  exact this
theorem newF_all {f : List (Int × Int)} {l : List Int} (h : ∀ y ∈ l, f.lookup y = none) : newF f l = l := List.filter_eq_self.mpr fun y hy => by rw [h y hy]; rfl
theorem LI.step {w : Wd} {a : Int} {f : List (Int × Int)} {t : Nat} (b : LI w a f t) : LI w a (addF f (t + 1) (moreL w f t)) (t + 1) := by
  have old : ∀ {y k}, f.lookup y = some k → (addF f (t + 1) (moreL w f t)).lookup y = some k := fun {y k} e => by rw [addF_look, e]; rfl
  have nw : ∀ {y}, y ∈ moreL w f t → (addF f (t + 1) (moreL w f t)).lookup y = some ((t : Int) + 1) := fun {y} hy => by
    rw [addF_look, if_pos hy, (more_mem.mp hy).2.1]
    rfl
  have cs : ∀ {y k}, (addF f (t + 1) (moreL w f t)).lookup y = some k → f.lookup y = some k ∨ y ∈ moreL w f t ∧ k = (t : Int) + 1 := fun {y k} e => by
    rw [addF_look] at e
    cases e2 : f.lookup y with
    | some j => rw [e2] at e; exact .inl e
    | none =>
      rw [e2] at e
      by_cases hm : y ∈ moreL w f t
      · rw [if_pos hm] at e
        cases e
        exact .inr ⟨hm, rfl⟩
      · rw [if_neg hm] at e
        cases e
  refine ⟨old b.a0, fun y k e => ?_, fun x k e hk y y0 y1 ha => ?_, addF_nd b.nd ((rngnd _ _).filter _), ?_⟩
  · rcases cs e with e | ⟨hm, rfl⟩
    · obtain ⟨h1, h2⟩ := b.up y k e
      exact ⟨h1, by omega⟩
    · obtain ⟨h1, h2, x, h3, h4⟩ := more_mem.mp hm
      obtain ⟨⟨xr, _, xR⟩, _⟩ := b.up x _ h3
      refine ⟨⟨h1, by omega, ?_⟩, by omega⟩
      rw [show ((t : Int) + 1).toNat = (t : Int).toNat + 1 by omega]
      exact Rb.step xR xr h4
  · rcases cs e with e | ⟨_, rfl⟩
    · by_cases hkt : k < (t : Int)
      · obtain ⟨j, j1, j2⟩ := b.pr x k e hkt y y0 y1 ha
        exact ⟨j, old j1, j2⟩
      · have : k = (t : Int) := by omega
        subst this
        cases e3 : f.lookup y with
        | some j => exact ⟨j, old e3, by have := (b.up y j e3).2; omega⟩
        | none => exact ⟨_, nw (more_mem.mpr ⟨⟨y0, y1⟩, e3, x, e, ha⟩), Int.le_refl _⟩
    · omega
  · have hl : (addF f (t + 1) (moreL w f t)).length = f.length + (moreL w f t).length := by
      unfold addF
      rw [List.length_append, List.length_map, newF_all fun y hy => (more_mem.mp hy).2.1]
    cases hm : moreL w f t with
    | nil =>
      refine .inr fun x e => ?_
      have e : (addF f (t + 1) []).lookup x = some (((t + 1 : Nat)) : Int) := e
      rw [addF_look] at e
      cases e2 : f.lookup x with
      | none => rw [e2] at e; simp at e
      | some j =>
        rw [e2] at e
        have e : j = ((t + 1 : Nat) : Int) := Option.some.inj e
        have := (b.up x j e2).2
        omega
    | cons y l =>
      refine .inl ?_
      rw [← hm, hl, hm, List.length_cons]
      obtain ⟨_, _, x, hx, _⟩ := more_mem.mp (show y ∈ moreL w f t by rw [hm]; exact List.mem_cons_self)
      rcases b.ct with h | h
      · omega
      · exact absurd hx (h x)
def ballL (w : Wd) (a : Int) (r : Nat) : List Int := (rangeI 0 w.n.toNat).filter fun b => Rb w a r b
theorem ball_mem {w : Wd} {a b : Int} {r : Nat} : b ∈ ballL w a r ↔ (0 ≤ b ∧ b < w.n) ∧ Rb w a r b = true := by
  unfold ballL
  rw [List.mem_filter, rangeI_mem]
  constructor
  · rintro ⟨h1, h2⟩
    exact ⟨by omega, h2⟩
  · rintro ⟨h1, h2⟩
    exact ⟨by omega, h2⟩
theorem ball_len {w : Wd} (ok : w.Ok) (a : Int) (r : Nat) : (ballL w a r).length ≤ w.n.toNat := by
  have := List.length_filter_le (fun b => Rb w a r b) (rangeI 0 w.n.toNat)
  rw [rangeI_len] at this
  exact this
theorem ball_self {w : Wd} {a : Int} (ha : 0 ≤ a ∧ a < w.n) (r : Nat) : a ∈ ballL w a r := ball_mem.mpr ⟨ha, Rb.le (j := 0) (decide_eq_true rfl) (Nat.zero_le _)⟩
end LB

set_option Elab.async false
set_option linter.all false
set_option maxRecDepth 100000
namespace LB
open PySem TL
end LB

set_option Elab.async false
set_option linter.all false
set_option maxRecDepth 100000
namespace LB
open PySem TL
end LB

set_option Elab.async false
set_option linter.all false
set_option maxRecDepth 100000
namespace LB
open PySem TL
end LB

set_option Elab.async false
set_option linter.all false
set_option maxRecDepth 100000
namespace LB
open PySem TL
end LB

set_option Elab.async false
set_option linter.all false
set_option maxRecDepth 100000
namespace LB
open PySem TL
end LB

set_option Elab.async false
set_option linter.all false
set_option maxRecDepth 100000
namespace LB
open PySem TL
end LB

set_option Elab.async false
set_option linter.all false
set_option maxRecDepth 100000
namespace LB
open PySem TL
end LB

set_option Elab.async false
set_option linter.all false
set_option maxRecDepth 100000
namespace LB
open PySem TL
def okA (way ap : Bool) (w u : Wd) (t : List Int) (x : Int) : Bool := stepG way w u t x && !(ap && decide (x ∈ t))
def cl (way ap : Bool) (w u : Wd) : Nat → List Int → List (List Int)
  | 0, t => [t]
  | m + 1, t => (rangeI 0 u.n.toNat).flatMap fun x => if okA way ap w u t x = true then cl way ap w u m (t ++ [x]) else []
def hm (w u : Wd) : Nat := (waysW true w u w.n.toNat).length
end LB

set_option Elab.async false
set_option linter.all false
set_option maxRecDepth 100000
namespace LB
open PySem TL
structure Hom (w u : Wd) (t : List Int) : Prop where
  len : (t.length : Int) = w.n
  rng : InR u.n t
  h0 : ∀ a ∈ w.m0, nmI t a ∈ u.m0
  h1 : ∀ a ∈ w.m1, nmI t a ∈ u.m1
  ar : ∀ p ∈ w.ar, (nmI t p.1, nmI t p.2) ∈ u.ar
theorem nm_in {t : List Int} {n a : Int} (h : InR n t) (a0 : 0 ≤ a) (a1 : a < t.length) : 0 ≤ nmI t a ∧ nmI t a < n := by
  refine h _ ?_
  unfold nmI
  rw [List.getD_eq_getElem?_getD, List.getElem?_eq_getElem (by omega), Option.getD_some]
  exact List.getElem_mem _
theorem nm_ext {t s : List Int} (h : t.length = s.length) (e : ∀ a : Int, 0 ≤ a → a < t.length → nmI t a = nmI s a) : t = s := by
  refine List.ext_getElem? fun i => ?_
  by_cases hi : i < t.length
  · have := e i (by omega) (by omega)
    unfold nmI at this
    rw [Int.toNat_natCast, List.getD_eq_getElem?_getD, List.getD_eq_getElem?_getD, List.getElem?_eq_getElem hi, List.getElem?_eq_getElem (by omega)] at this
    rw [List.getElem?_eq_getElem hi, List.getElem?_eq_getElem (by omega)]
    exact congrArg some this
  · rw [List.getElem?_eq_none (by omega), List.getElem?_eq_none (by omega)]
def tab (n : Int) (f : Int → Int) : List Int := (rangeI 0 n.toNat).map f
theorem tab_len {n : Int} (h : 0 ≤ n) (f : Int → Int) : ((tab n f).length : Int) = n := by
  unfold tab
  rw [List.length_map, rangeI_len]
  omega
theorem nm_tab {n a : Int} {f : Int → Int} (a0 : 0 ≤ a) (a1 : a < n) : nmI (tab n f) a = f a := by
  unfold nmI tab
  rw [List.getD_eq_getElem?_getD, List.getElem?_map, rangeI_get (by omega)]
  simp only [Option.map_some, Option.getD_some]
  congr 1
  omega
theorem tab_rng {n m : Int} {f : Int → Int} (h : ∀ a, 0 ≤ a → a < n → 0 ≤ f a ∧ f a < m) : InR m (tab n f) := fun v hv => by
  obtain ⟨a, ha, rfl⟩ := List.mem_map.mp hv
  have := rgm.mp ha
  exact h a this.1 this.2
theorem nm_mapT {t : List Int} {f : Int → Int} {a : Int} (a0 : 0 ≤ a) (a1 : a < t.length) : nmI (t.map f) a = f (nmI t a) := by
  unfold nmI
  rw [List.getD_eq_getElem?_getD, List.getD_eq_getElem?_getD, List.getElem?_map, List.getElem?_eq_getElem (by omega)]
  rfl
theorem len_le {α β : Type} [DecidableEq β] {l : List α} {m : List β} (f : α → β) (nd : l.Nodup) (hm : ∀ a ∈ l, f a ∈ m) (inj : ∀ a ∈ l, ∀ b ∈ l, f a = f b → a = b) : l.length ≤ m.length := by
  have := nodup_leM (l := l.map f) (m := m) (map_nodup inj nd) fun x hx => by
    obtain ⟨a, ha, rfl⟩ := List.mem_map.mp hx
    exact hm a ha
  rwa [List.length_map] at this
theorem Hom.comp {a b c : Wd} (aok : a.Ok) {t s : List Int} (h : Hom a b t) (k : Hom b c s) : Hom a c (t.map (nmI s)) := by
  have hl := h.len
  have nm : ∀ {x : Int}, 0 ≤ x → x < a.n → nmI (t.map (nmI s)) x = nmI s (nmI t x) := fun x0 x1 => nm_mapT x0 (by omega)
  refine ⟨by rw [List.length_map]; exact hl, fun v hv => ?_, fun x hx => ?_, fun x hx => ?_, fun p hp => ?_⟩
  · obtain ⟨x, hx, rfl⟩ := List.mem_map.mp hv
    have := h.rng x hx
    exact nm_in k.rng this.1 (by rw [k.len]; exact this.2)
  · have r := aok.a0.rng x hx
    rw [nm r.1 r.2]
    exact k.h0 _ (h.h0 x hx)
  · have r := aok.a1.rng x hx
    rw [nm r.1 r.2]
    exact k.h1 _ (h.h1 x hx)
  · have r := aok.ar.rng p hp
    rw [nm r.1 r.2.1, nm r.2.2.1 r.2.2.2]
    exact k.ar _ (h.ar p hp)
def InjT (t : List Int) : Prop := ∀ a b : Int, 0 ≤ a → a < t.length → 0 ≤ b → b < t.length → nmI t a = nmI t b → a = b
section
variable {w u : Wd} (wok : w.Ok) (uok : u.Ok) (hs : w.n * u.n ≤ 8)
include wok uok hs
end
end LB

set_option Elab.async false
set_option linter.all false
set_option maxRecDepth 100000
namespace LB
open PySem TL
structure Por (W : List Str) : Prop where
  w1 : Str.ofString "and" ∈ W
  w2 : Str.ofString "not" ∈ W
  w3 : Str.ofString "or" ∈ W
  w4 : Str.ofString "some" ∈ W
  w5 : Str.ofString "all" ∈ W
section
variable {w : Wd} (hn : w.n ≤ 8)
include hn
end
end LB

set_option Elab.async false
set_option linter.all false
set_option maxRecDepth 100000
namespace LB
open PySem TL
end LB

set_option Elab.async false
set_option linter.all false
set_option maxRecDepth 100000
namespace LB
open PySem TL
end LB

set_option Elab.async false
set_option linter.all false
set_option maxRecDepth 100000
namespace LB
open PySem TL
def pk2 (p : Int × Int) : List Int := [p.1, p.2]
def kp2 (t : List Int) : Int × Int := (t.getD 0 0, t.getD 1 0)
end LB

set_option Elab.async false
set_option linter.all false
set_option maxRecDepth 100000
namespace LB
open PySem TL
def alikeB (w : Wd) (a : Int) (u : Wd) (b : Int) (r : Nat) : Bool :=
  decide ((ballL w a r).length = (ballL u b r).length) && (lk (part w (ballL w a r)) (part u (ballL u b r)) (ballL w a r).length []).any fun t => decide (nmI t ((ballL w a r).idxOf a) = ((ballL u b r).idxOf b : Int))
theorem idx_lt2 {l : List Int} {a : Int} (h : a ∈ l) : l.idxOf a < l.length := List.idxOf_lt_length_iff.mpr h
theorem lk_ways {w u : Wd} (wok : w.Ok) (uok : u.Ok) {t : List Int} : t ∈ lk w u w.n.toNat [] ↔ t ∈ waysW false w u w.n.toNat := by
  rw [mem_lk0, waysW_mem]
  refine and_congr_right fun hl => and_congr_right fun hr => ?_
  rw [stp_iff]
  unfold goW
  rw [List.all_eq_true]
  constructor
  · intro h p hp
    rw [List.all_eq_true]
    intro q hq
    obtain ⟨i, hi, rfl⟩ := List.mem_map.mp hp
    obtain ⟨j, hj, rfl⟩ := List.mem_map.mp hq
    have hi := rangeI_mem.mp hi
    have hj := rangeI_mem.mp hj
    show fitB w u (i, nmI t i) (j, nmI t j) = true
    by_cases hij : j ≤ i
    · exact h j i hj.1 hij (by omega)
    · have h1 := h i j hi.1 (by omega) (by omega)
      exact fit_sym h1 (h i i hi.1 (Int.le_refl _) (by omega))
  · intro h i j h0 hij hj
    have hm : ∀ x : Int, 0 ≤ x → x < t.length → (x, nmI t x) ∈ prsT t := fun x x0 x1 => List.mem_map.mpr ⟨x, rangeI_mem.mpr (by omega), rfl⟩
    exact List.all_eq_true.mp (h _ (hm j (by omega) hj)) _ (hm i h0 (by omega))
end LB

set_option Elab.async false
set_option linter.all false
set_option maxRecDepth 100000
namespace LB
open PySem TL
end LB

set_option Elab.async false
set_option linter.all false
set_option maxRecDepth 100000
namespace LB
open PySem TL
def backL (ps : List Int) (n : Nat) : List Int := (rangeI 0 n).map fun k => (ps.idxOf k : Int)
theorem back_nm {ps : List Int} {n : Nat} (hp : ps.Perm (rangeI 0 n)) {a : Int} (a0 : 0 ≤ a) (a1 : a < n) : nmI (backL ps n) (nmI ps a) = a := by
  have pl : ps.length = n := by rw [hp.length_eq, rangeI_len]
  have nd : ps.Nodup := hp.nodup_iff.mpr (rngnd 0 n)
  have r := nm_rng (ps := ps) (n := (n : Int)) (by omega) (by rw [Int.toNat_natCast]; exact hp) a0 a1
  unfold backL
  have hm : (nmI ps a).toNat < n := by omega
  show ((rangeI 0 n).map fun k => (ps.idxOf k : Int)).getD (nmI ps a).toNat 0 = a
  rw [List.getD_eq_getElem?_getD, List.getElem?_map, rangeI_get hm]
  show ((ps.idxOf (0 + ((nmI ps a).toNat : Int)) : Nat) : Int) = a
  rw [show (0 : Int) + ((nmI ps a).toNat : Int) = nmI ps a by omega]
  have h1 : a.toNat < ps.length := by omega
  have : nmI ps a = ps[a.toNat] := by
    show ps.getD a.toNat 0 = _
    rw [List.getD_eq_getElem?_getD, List.getElem?_eq_getElem h1]
    rfl
  rw [this, nd.idxOf_getElem _ h1]
  omega
theorem back_perm {ps : List Int} {n : Nat} (hp : ps.Perm (rangeI 0 n)) : (backL ps n).Perm (rangeI 0 n) := by
  have pl : ps.length = n := by rw [hp.length_eq, rangeI_len]
  have := perm_rng (t := backL ps n) (n := (n : Int)) (by omega) (map_nodup (fun a ha b hb e => by
      have ha : a ∈ ps := hp.mem_iff.mpr ha
      have hb : b ∈ ps := hp.mem_iff.mpr hb
      have e : ps.idxOf a = ps.idxOf b := by have e : (ps.idxOf a : Int) = ps.idxOf b := e; omega
      have h1 := List.getElem_idxOf (idx_lt2 ha)
      have h2 := List.getElem_idxOf (idx_lt2 hb)
      rw [← h1, ← h2]
      simp only [e]) (rngnd 0 n)) (by unfold backL; rw [List.length_map, rangeI_len]) fun v hv => by
    obtain ⟨k, hk, rfl⟩ := List.mem_map.mp hv
    have := idx_lt2 (hp.mem_iff.mpr hk)
    omega
  rw [Int.toNat_natCast] at this
  exact this
end LB

set_option Elab.async false
set_option linter.all false
set_option maxRecDepth 100000
namespace LB
open PySem TL
def szP : List Int → Int
  | [] => 0
  | n :: ns => ns.foldl (fun a b => if a < b then b else a) n + 1
structure Pt (n : Int) (p : List Int) : Prop where
  len : (p.length : Int) = n
  lo : 1 ≤ szP p
  hi : szP p ≤ n
  rng : InR (szP p) p
  onto : ∀ y, 0 ≤ y → y < szP p → y ∈ p
theorem lt_pk {a b c d : Int} (h : ltLI [a, b] [c, d] = true) : ltPr (a, b) (c, d) = true := by
  have hh : (if ltI a c = true then true else if ltI c a = true then false else if ltI b d = true then true else if ltI d b = true then false else false) = true := h
  rw [show ltPr (a, b) (c, d) = true ↔ _ from SrtO.lexB_iff]
  by_cases h1 : a < c
  · exact .inl h1
  · rw [if_neg (by unfold ltI; rw [decide_eq_true_eq]; exact h1)] at hh
    by_cases h2 : c < a
    · rw [if_pos (by unfold ltI; rw [decide_eq_true_eq]; exact h2)] at hh
      cases hh
    · rw [if_neg (by unfold ltI; rw [decide_eq_true_eq]; exact h2)] at hh
      by_cases h3 : b < d
      · exact .inr ⟨by show a = c; omega, h3⟩
      · rw [if_neg (by unfold ltI; rw [decide_eq_true_eq]; exact h3)] at hh
        split at hh <;> cases hh
section
variable {w : Wd} (wok : w.Ok) {p : List Int} (hp : Pt w.n p)
include wok hp
end
theorem nm_idx {p : List Int} {y : Int} (h : y ∈ p) : p.idxOf y < p.length ∧ nmI p (p.idxOf y : Int) = y := by
  have := List.idxOf_lt_length_iff.mpr h
  refine ⟨this, ?_⟩
  unfold nmI
  rw [Int.toNat_natCast, List.getD_eq_getElem?_getD, List.getElem?_eq_getElem this, Option.getD_some, List.getElem_idxOf]
def muF : Nat → Int
  | 1 => 1
  | 2 => -1
  | 3 => 2
  | 4 => -6
  | _ => 0
def mu (p : List Int) : Int := (rangeI 0 (szP p).toNat).foldl (fun a x => a * muF (p.count x)) 1
theorem hom_id {w : Wd} (wok : w.Ok) : Hom w w (tab w.n id) ∧ InjT (tab w.n id) := by
  have lw := wok.lo
  refine ⟨⟨tab_len (by omega) _, tab_rng fun a a0 a1 => ⟨a0, a1⟩, fun a ha => ?_, fun a ha => ?_, fun p hp => ?_⟩, fun a b a0 a1 b0 b1 e => ?_⟩
  · have r := wok.a0.rng a ha
    rw [nm_tab r.1 r.2]
    exact ha
  · have r := wok.a1.rng a ha
    rw [nm_tab r.1 r.2]
    exact ha
  · have r := wok.ar.rng p hp
    rw [nm_tab r.1 r.2.1, nm_tab r.2.2.1 r.2.2.2]
    exact hp
  · rw [tab_len (by omega)] at a1 b1
    rw [nm_tab a0 a1, nm_tab b0 b1] at e
    exact e
theorem inj_le {a b : Wd} (aok : a.Ok) {f : List Int} (h : Hom a b f) (inj : InjT f) : a.n ≤ b.n ∧ a.m0.length ≤ b.m0.length ∧ a.m1.length ≤ b.m1.length ∧ a.ar.length ≤ b.ar.length := by
  have fl := h.len
  have la := aok.lo
  refine ⟨?_, len_le (nmI f) (aok.a0.asc.imp fun h e => by omega) h.h0 fun x hx y hy e => ?_, len_le (nmI f) (aok.a1.asc.imp fun h e => by omega) h.h1 fun x hx y hy e => ?_, len_le (fun p => (nmI f p.1, nmI f p.2)) aok.ar.nodup h.ar fun x hx y hy e => ?_⟩
  · have := len_le (l := rangeI 0 a.n.toNat) (m := rangeI 0 b.n.toNat) (nmI f) (rng_nodup _) (fun x hx => rgm.mpr (nm_in h.rng (rgm.mp hx).1 (by rw [fl]; exact (rgm.mp hx).2))) fun x hx y hy e => inj _ _ (rgm.mp hx).1 (by rw [fl]; exact (rgm.mp hx).2) (rgm.mp hy).1 (by rw [fl]; exact (rgm.mp hy).2) e
    rw [rangeI_len, rangeI_len] at this
    omega
  · have r := aok.a0.rng x hx
    have s := aok.a0.rng y hy
    exact inj _ _ r.1 (by omega) s.1 (by omega) e
  · have r := aok.a1.rng x hx
    have s := aok.a1.rng y hy
    exact inj _ _ r.1 (by omega) s.1 (by omega) e
  · have r := aok.ar.rng x hx
    have s := aok.ar.rng y hy
    have e := Prod.mk.inj e
    exact Prod.ext (inj _ _ r.1 (by omega) s.1 (by omega) e.1) (inj _ _ r.2.2.1 (by omega) s.2.2.1 (by omega) e.2)
theorem back_in {α β : Type} [DecidableEq β] {l : List α} {m : List β} {f : α → β} (nl : l.Nodup) (nm : m.Nodup) (hf : ∀ a ∈ l, f a ∈ m) (inj : ∀ a ∈ l, ∀ b ∈ l, f a = f b → a = b) (h : m.length ≤ l.length) {y : β} (hy : y ∈ m) : ∃ a ∈ l, f a = y := by
  apply Classical.byContradiction
  intro hn
  have := nodup_leM (l := y :: l.map f) (m := m) (List.nodup_cons.mpr ⟨fun hm => hn (by
    obtain ⟨a, ha, e⟩ := List.mem_map.mp hm
    exact ⟨a, ha, e⟩), map_nodup inj nl⟩) fun x hx => by
    rcases List.mem_cons.mp hx with rfl | hx
    · exact hy
    · obtain ⟨a, ha, rfl⟩ := List.mem_map.mp hx
      exact hf a ha
  rw [List.length_cons, List.length_map] at this
  omega
theorem alike_of {a b : Wd} (aok : a.Ok) (bok : b.Ok) {f g : List Int} (h : Hom a b f) (inj : InjT f) (k : Hom b a g) (jnj : InjT g) : a.n = b.n ∧ f ∈ goodT a b := by
  obtain ⟨p1, p2, p3, p4⟩ := inj_le aok h inj
  obtain ⟨q1, q2, q3, q4⟩ := inj_le bok k jnj
  have e : a.n = b.n := by omega
  have fl := h.len
  have la := aok.lo
  refine ⟨e, ?_⟩
  have ij : ∀ {x y : Int}, (0 ≤ x ∧ x < a.n) → (0 ≤ y ∧ y < a.n) → nmI f x = nmI f y → x = y := fun hx hy e => inj _ _ hx.1 (by omega) hy.1 (by omega) e
  rw [good_lk aok bok e]
  refine mem_lk0.mpr ⟨by omega, h.rng, stp_iff.mpr fun i j i0 ij' jl => ?_⟩
  have hi : 0 ≤ i ∧ i < a.n := ⟨i0, by omega⟩
  have hj : 0 ≤ j ∧ j < a.n := ⟨by omega, by omega⟩
  have A0 : ∀ {x : Int}, (0 ≤ x ∧ x < a.n) → (x ∈ a.m0 ↔ nmI f x ∈ b.m0) := fun {x} hx => ⟨h.h0 x, fun hm => by
    obtain ⟨z, hz, ez⟩ := back_in (f := nmI f) (aok.a0.asc.imp fun h e => by omega) (bok.a0.asc.imp fun h e => by omega) h.h0 (fun x hx y hy e => ij (aok.a0.rng x hx) (aok.a0.rng y hy) e) q2 hm
    rw [← ij (aok.a0.rng z hz) hx ez]
    exact hz⟩
  have A1 : ∀ {x : Int}, (0 ≤ x ∧ x < a.n) → (x ∈ a.m1 ↔ nmI f x ∈ b.m1) := fun {x} hx => ⟨h.h1 x, fun hm => by
    obtain ⟨z, hz, ez⟩ := back_in (f := nmI f) (aok.a1.asc.imp fun h e => by omega) (bok.a1.asc.imp fun h e => by omega) h.h1 (fun x hx y hy e => ij (aok.a1.rng x hx) (aok.a1.rng y hy) e) q3 hm
    rw [← ij (aok.a1.rng z hz) hx ez]
    exact hz⟩
  have AR : ∀ {x y : Int}, (0 ≤ x ∧ x < a.n) → (0 ≤ y ∧ y < a.n) → ((x, y) ∈ a.ar ↔ (nmI f x, nmI f y) ∈ b.ar) := fun {x y} hx hy => ⟨h.ar (x, y), fun hm => by
    have inn : ∀ x ∈ a.ar, ∀ y ∈ a.ar, (nmI f x.1, nmI f x.2) = (nmI f y.1, nmI f y.2) → x = y := fun x hx y hy e => by
      have r := aok.ar.rng x hx
      have s := aok.ar.rng y hy
      have e := Prod.mk.inj e
      exact Prod.ext (ij ⟨r.1, r.2.1⟩ ⟨s.1, s.2.1⟩ e.1) (ij ⟨r.2.2.1, r.2.2.2⟩ ⟨s.2.2.1, s.2.2.2⟩ e.2)
    obtain ⟨z, hz, ez⟩ := back_in (f := fun p : Int × Int => (nmI f p.1, nmI f p.2)) aok.ar.nodup bok.ar.nodup h.ar inn q4 hm
    have r := aok.ar.rng z hz
    have ez := Prod.mk.inj ez
    have : z = (x, y) := Prod.ext (ij ⟨r.1, r.2.1⟩ hx ez.1) (ij ⟨r.2.2.1, r.2.2.2⟩ hy ez.2)
    rw [← this]
    exact hz⟩
  exact fit_iff.mpr ⟨⟨fun e => by rw [e], fun e => ij hj hi e⟩, A0 hj, A1 hj, AR hj hi, AR hi hj⟩
theorem good_hom {a b : Wd} (aok : a.Ok) (bok : b.Ok) (e : a.n = b.n) {f : List Int} (h : f ∈ goodT a b) : Hom a b f ∧ InjT f := by
  have la := aok.lo
  rw [good_lk aok bok e] at h
  obtain ⟨h1, h2, h3⟩ := mem_lk0.mp h
  have h3 := stp_iff.mp h3
  have fl : (f.length : Int) = a.n := by omega
  have ft : ∀ {i j : Int}, (0 ≤ i ∧ i < a.n) → (0 ≤ j ∧ j < a.n) → i ≤ j → fitB a b (j, nmI f j) (i, nmI f i) = true := fun hi hj ij => h3 _ _ hi.1 ij (by omega)
  refine ⟨⟨fl, h2, fun x hx => ?_, fun x hx => ?_, fun p hp => ?_⟩, fun x y x0 x1 y0 y1 exy => ?_⟩
  · have r := aok.a0.rng x hx
    exact (fit_iff.mp (ft r r (Int.le_refl _))).2.1.mp hx
  · have r := aok.a1.rng x hx
    exact (fit_iff.mp (ft r r (Int.le_refl _))).2.2.1.mp hx
  · have r := aok.ar.rng p hp
    rcases Int.le_total p.1 p.2 with hle | hle
    · exact (fit_iff.mp (ft ⟨r.1, r.2.1⟩ ⟨r.2.2.1, r.2.2.2⟩ hle)).2.2.2.2.mp hp
    · exact (fit_iff.mp (ft ⟨r.2.2.1, r.2.2.2⟩ ⟨r.1, r.2.1⟩ hle)).2.2.2.1.mp hp
  · rcases Int.le_total x y with hle | hle
    · exact ((fit_iff.mp (ft ⟨x0, by omega⟩ ⟨y0, by omega⟩ hle)).1.mpr exy.symm).symm
    · exact (fit_iff.mp (ft ⟨y0, by omega⟩ ⟨x0, by omega⟩ hle)).1.mpr exy
end LB

set_option Elab.async false
set_option linter.all false
set_option maxRecDepth 100000
namespace LB
open PySem TL
section
variable {w u : Wd} (wok : w.Ok) (uok : u.Ok) (hs : w.n * u.n ≤ 8)
include wok uok hs
end
end LB

set_option Elab.async false
set_option linter.all false
set_option maxRecDepth 100000
namespace LB
open PySem TL
structure Lk (W U : Wd) (t : List Int) : Prop where
  len : (t.length : Int) = W.n
  nn : W.n = U.n
  rg : InR U.n t
  ft : ∀ i j, 0 ≤ i → i < W.n → 0 ≤ j → j < W.n → fitB W U (i, nmI t i) (j, nmI t j) = true
theorem Lk.r {W U : Wd} {t : List Int} (h : Lk W U t) {i : Int} (h0 : 0 ≤ i) (h1 : i < W.n) : 0 ≤ nmI t i ∧ nmI t i < U.n := h.rg.get (x := i) (by have := h.len; omega) h0
theorem Lk.inj {W U : Wd} {t : List Int} (h : Lk W U t) {i j : Int} (i0 : 0 ≤ i) (i1 : i < W.n) (j0 : 0 ≤ j) (j1 : j < W.n) (e : nmI t i = nmI t j) : i = j := (fit_iff.mp (h.ft i j i0 i1 j0 j1)).1.mpr e
theorem nm_get {t : List Int} {i : Nat} (h : i < t.length) : nmI t (i : Int) = t[i] := by
  show t.getD (i : Int).toNat 0 = _
  rw [Int.toNat_natCast, List.getD_eq_getElem?_getD, List.getElem?_eq_getElem h]
  rfl
theorem Lk.perm {W U : Wd} {t : List Int} (h : Lk W U t) (w0 : 0 ≤ W.n) : t.Perm (rangeI 0 W.n.toNat) := by
  refine perm_rng w0 ?_ h.len (by rw [h.nn]; exact h.rg)
  rw [List.Nodup, List.pairwise_iff_getElem]
  intro i j hi hj hij e
  have hl := h.len
  have := h.inj (i := (i : Int)) (j := (j : Int)) (by omega) (by omega) (by omega) (by omega) (by rw [nm_get hi, nm_get hj, e])
  omega
theorem Lk.sym {W U : Wd} {t : List Int} (h : Lk W U t) (w0 : 0 ≤ W.n) : Lk U W (backL t W.n.toNat) ∧ ∀ i, 0 ≤ i → i < W.n → nmI (backL t W.n.toNat) (nmI t i) = i := by
  have hp := h.perm w0
  have bp := back_perm hp
  have bl : (backL t W.n.toNat).length = W.n.toNat := by rw [bp.length_eq, rangeI_len]
  have bk : ∀ i, 0 ≤ i → i < W.n → nmI (backL t W.n.toNat) (nmI t i) = i := fun i h0 h1 => back_nm hp h0 (by omega)
  have sur : ∀ v, 0 ≤ v → v < U.n → ∃ i, 0 ≤ i ∧ i < W.n ∧ nmI t i = v := fun v v0 v1 => by
    have hv : v ∈ t := hp.mem_iff.mpr (rangeI_mem.mpr ⟨v0, by have := h.nn; omega⟩)
    obtain ⟨i, hi⟩ := List.mem_iff_getElem?.mp hv
    have hl := (List.getElem?_eq_some_iff.mp hi).1
    have := h.len
    exact ⟨(i : Int), by omega, by omega, by rw [nm_get hl]; exact (List.getElem?_eq_some_iff.mp hi).2⟩
  refine ⟨⟨by rw [bl, h.nn]; have := h.nn; omega, h.nn.symm, fun v hv => ?_, fun i j i0 i1 j0 j1 => ?_⟩, bk⟩
  · have := rangeI_mem.mp (bp.mem_iff.mp hv)
    omega
  · obtain ⟨p, p0, p1, rfl⟩ := sur i i0 i1
    obtain ⟨q, q0, q1, rfl⟩ := sur j j0 j1
    rw [bk p p0 p1, bk q q0 q1, fit_swap]
    exact h.ft p q p0 p1 q0 q1
theorem fit_tr {W U V : Wd} {a b c a' b' c' : Int} (h1 : fitB W U (a, b) (a', b') = true) (h2 : fitB U V (b, c) (b', c') = true) : fitB W V (a, c) (a', c') = true := by
  obtain ⟨x1, x2, x3, x4, x5⟩ := fit_iff.mp h1
  obtain ⟨y1, y2, y3, y4, y5⟩ := fit_iff.mp h2
  exact fit_iff.mpr ⟨x1.trans y1, x2.trans y2, x3.trans y3, x4.trans y4, x5.trans y5⟩
theorem Lk.trans {W U V : Wd} {t s : List Int} (h : Lk W U t) (g : Lk U V s) : Lk W V (t.map (nmI s)) ∧ ∀ i, 0 ≤ i → i < W.n → nmI (t.map (nmI s)) i = nmI s (nmI t i) := by
  have nm : ∀ i, 0 ≤ i → i < W.n → nmI (t.map (nmI s)) i = nmI s (nmI t i) := fun i h0 h1 => getD_mapI h0 (by have := h.len; omega)
  refine ⟨⟨by rw [List.length_map]; exact h.len, h.nn.trans g.nn, fun v hv => ?_, fun i j i0 i1 j0 j1 => ?_⟩, nm⟩
  · obtain ⟨x, hx, rfl⟩ := List.mem_map.mp hv
    have := h.rg x hx
    exact g.r this.1 this.2
  · rw [nm i i0 i1, nm j j0 j1]
    have ri := h.r i0 i1
    have rj := h.r j0 j1
    exact fit_tr (h.ft i j i0 i1 j0 j1) (g.ft _ _ ri.1 ri.2 rj.1 rj.2)
theorem rng_nm {n : Nat} {i : Int} (h0 : 0 ≤ i) (h1 : i < n) : nmI (rangeI 0 n) i = i := by
  show (rangeI 0 n).getD i.toNat 0 = i
  rw [List.getD_eq_getElem?_getD, rangeI_get (by omega)]
  show (0 : Int) + (i.toNat : Int) = i
  omega
theorem Lk.refl {W : Wd} (w0 : 0 ≤ W.n) : Lk W W (rangeI 0 W.n.toNat) := by
  refine ⟨by rw [rangeI_len]; omega, rfl, fun v hv => by have := rangeI_mem.mp hv; omega, fun i j i0 i1 j0 j1 => ?_⟩
  rw [rng_nm i0 (by omega), rng_nm j0 (by omega)]
  exact fit_iff.mpr ⟨Iff.rfl, Iff.rfl, Iff.rfl, Iff.rfl, Iff.rfl⟩
theorem mem_lkL {W U : Wd} (wok : W.Ok) (uok : U.Ok) (e : W.n = U.n) {t : List Int} : t ∈ lk W U W.n.toNat [] ↔ Lk W U t := by
  have lo := wok.lo
  rw [lk_ways wok uok, waysW_mem]
  unfold goW
  constructor
  · rintro ⟨h1, h2, h3⟩
    have hm : ∀ x : Int, 0 ≤ x → x < W.n → (x, nmI t x) ∈ prsT t := fun x x0 x1 => List.mem_map.mpr ⟨x, rangeI_mem.mpr (by omega), rfl⟩
    exact ⟨by omega, e, h2, fun i j i0 i1 j0 j1 => List.all_eq_true.mp (List.all_eq_true.mp h3 _ (hm i i0 i1)) _ (hm j j0 j1)⟩
  · intro h
    have hl := h.len
    refine ⟨by omega, h.rg, ?_⟩
    rw [List.all_eq_true]
    intro p hp
    rw [List.all_eq_true]
    intro q hq
    obtain ⟨i, hi, rfl⟩ := List.mem_map.mp hp
    obtain ⟨j, hj, rfl⟩ := List.mem_map.mp hq
    have hi := rangeI_mem.mp hi
    have hj := rangeI_mem.mp hj
    exact h.ft i j (by omega) (by omega) (by omega) (by omega)
structure It' (w : Wd) (a : Int) : Prop where
  ok : w.Ok
  h0 : 0 ≤ a
  h1 : a < w.n
theorem It'.len {w : Wd} {a : Int} (i : It' w a) (r : Nat) : 1 ≤ (ballL w a r).length ∧ (ballL w a r).length ≤ 8 := by
  have := ball_len i.ok a r
  have := i.ok.hi
  exact ⟨List.length_pos_iff_exists_mem.mpr ⟨a, ball_self ⟨i.h0, i.h1⟩ r⟩, by omega⟩
theorem It'.pok {w : Wd} {a : Int} (i : It' w a) (r : Nat) : (part w (ballL w a r)).Ok := part_Ok (i.len r).1 (i.len r).2
theorem It'.ix {w : Wd} {a : Int} (i : It' w a) (r : Nat) : (ballL w a r).idxOf a < (ballL w a r).length := idx_lt2 (ball_self ⟨i.h0, i.h1⟩ r)
theorem alike_iff {w u : Wd} {a b : Int} (i : It' w a) (j : It' u b) (r : Nat) : alikeB w a u b r = true ↔ ∃ t, Lk (part w (ballL w a r)) (part u (ballL u b r)) t ∧ nmI t ((ballL w a r).idxOf a) = ((ballL u b r).idxOf b : Int) := by
  unfold alikeB
  rw [Bool.and_eq_true, decide_eq_true_eq, List.any_eq_true]
  constructor
  · rintro ⟨h1, t, h2, h3⟩
    exact ⟨t, (mem_lkL (i.pok r) (j.pok r) (by show ((ballL w a r).length : Int) = (ballL u b r).length; omega)).mp h2, of_decide_eq_true h3⟩
  · rintro ⟨t, h1, h2⟩
    have e : ((ballL w a r).length : Int) = (ballL u b r).length := h1.nn
    exact ⟨by omega, t, (mem_lkL (i.pok r) (j.pok r) e).mpr h1, decide_eq_true h2⟩
theorem alike_refl {w : Wd} {a : Int} (i : It' w a) (r : Nat) : alikeB w a w a r = true := by
  have := i.ix r
  exact (alike_iff i i r).mpr ⟨_, .refl (by show (0 : Int) ≤ ((ballL w a r).length : Int); omega), rng_nm (by omega) (by show _ < ((((ballL w a r).length : Int)).toNat : Int); omega)⟩
theorem alike_symm {w u : Wd} {a b : Int} (i : It' w a) (j : It' u b) {r : Nat} (h : alikeB w a u b r = true) : alikeB u b w a r = true := by
  obtain ⟨t, h1, h2⟩ := (alike_iff i j r).mp h
  obtain ⟨h3, h4⟩ := h1.sym (by show (0 : Int) ≤ ((ballL w a r).length : Int); omega)
  refine (alike_iff j i r).mpr ⟨_, h3, ?_⟩
  rw [← h2]
  have := i.ix r
  exact h4 _ (by omega) (by show _ < ((ballL w a r).length : Int); omega)
theorem alike_trans {w u v : Wd} {a b c : Int} (i : It' w a) (j : It' u b) (k : It' v c) {r : Nat} (h : alikeB w a u b r = true) (g : alikeB u b v c r = true) : alikeB w a v c r = true := by
  obtain ⟨t, h1, h2⟩ := (alike_iff i j r).mp h
  obtain ⟨s, g1, g2⟩ := (alike_iff j k r).mp g
  obtain ⟨h3, h4⟩ := h1.trans g1
  have := i.ix r
  exact (alike_iff i k r).mpr ⟨_, h3, by rw [h4 _ (by omega) (by show _ < ((ballL w a r).length : Int); omega), h2, g2]⟩
def knd (v : Wd) (z : Int) (x : Wd) (r : Nat) : List Int := (rangeI 0 x.n.toNat).filter fun y => alikeB v z x y r
theorem knd_mem {v x : Wd} {z y : Int} {r : Nat} : y ∈ knd v z x r ↔ (0 ≤ y ∧ y < x.n) ∧ alikeB v z x y r = true := by
  unfold knd
  rw [List.mem_filter, rangeI_mem]
  constructor
  · rintro ⟨h1, h2⟩
    exact ⟨by omega, h2⟩
  · rintro ⟨h1, h2⟩
    exact ⟨by omega, h2⟩
theorem knd_nd (v : Wd) (z : Int) (x : Wd) (r : Nat) : (knd v z x r).Nodup := (rngnd _ _).filter _
structure Mt (w u : Wd) (r : Nat) (nm : List Int) : Prop where
  nd : nm.Nodup
  al : ∀ i : Int, 0 ≤ i → i < nm.length → (0 ≤ nmI nm i ∧ nmI nm i < u.n) ∧ alikeB w i u (nmI nm i) r = true
theorem Mt.next {w u : Wd} (wok : w.Ok) (uok : u.Ok) {r : Nat} {nm : List Int} (m : Mt w u r nm) {k : Int} (hk : k = nm.length) (hkn : k < w.n) (hc : (knd w k w r).length ≤ (knd w k u r).length) : ∃ b, b ∈ knd w k u r ∧ b ∉ nm := by
  have ik : It' w k := ⟨wok, by omega, hkn⟩
  refine Classical.byContradiction fun no => ?_
  have sub : ∀ b ∈ knd w k u r, b ∈ ((knd w k w r).erase k).map (nmI nm) := fun b hb => by
    have hbn : b ∈ nm := Classical.byContradiction fun z => no ⟨b, hb, z⟩
    obtain ⟨hb1, hb2⟩ := knd_mem.mp hb
    have jb : It' u b := ⟨uok, hb1.1, hb1.2⟩
    obtain ⟨i, hi⟩ := List.mem_iff_getElem?.mp hbn
    have hl := (List.getElem?_eq_some_iff.mp hi).1
    have e : nmI nm (i : Int) = b := by rw [nm_get hl]; exact (List.getElem?_eq_some_iff.mp hi).2
    have ia := (m.al (i : Int) (by omega) (by omega)).2
    rw [e] at ia
    have ii : It' w (i : Int) := ⟨wok, by omega, by omega⟩
    have hki := alike_trans ik jb ii hb2 (alike_symm ii jb ia)
    refine List.mem_map.mpr ⟨(i : Int), ?_, e⟩
    rw [(knd_nd w k w r).mem_erase_iff]
    exact ⟨by omega, knd_mem.mpr ⟨⟨by omega, by omega⟩, hki⟩⟩
  have h1 := nodup_leM (knd_nd w k u r) sub
  have hm : k ∈ knd w k w r := knd_mem.mpr ⟨⟨ik.h0, hkn⟩, alike_refl ik r⟩
  rw [List.length_map, List.length_erase_of_mem hm] at h1
  have : 0 < (knd w k w r).length := List.length_pos_iff_exists_mem.mpr ⟨k, hm⟩
  omega
theorem Mt.snoc {w u : Wd} {r : Nat} {nm : List Int} (m : Mt w u r nm) {k b : Int} (hk : k = nm.length) (hb : b ∈ knd w k u r) (hn : b ∉ nm) : Mt w u r (nm ++ [b]) := by
  obtain ⟨h1, h2⟩ := knd_mem.mp hb
  refine ⟨nodup_snoc.mpr ⟨m.nd, hn⟩, fun i h0 hi => ?_⟩
  rw [List.length_append, List.length_singleton] at hi
  by_cases e : i = nm.length
  · have : nmI (nm ++ [b]) i = b := by
      show (nm ++ [b]).getD i.toNat 0 = b
      rw [List.getD_eq_getElem?_getD, List.getElem?_append_right (by omega), e, Int.toNat_natCast, Nat.sub_self]
      rfl
    rw [this, e, ← hk]
    exact ⟨h1, h2⟩
  · have : nmI (nm ++ [b]) i = nmI nm i := by
      show (nm ++ [b]).getD i.toNat 0 = nm.getD i.toNat 0
      rw [List.getD_eq_getElem?_getD, List.getD_eq_getElem?_getD, List.getElem?_append_left (by omega)]
    rw [this]
    exact m.al i h0 (by omega)
theorem Mt.nil {w u : Wd} {r : Nat} : Mt w u r [] := ⟨.nil, fun i h0 h1 => by have : i < 0 := h1; omega⟩
theorem Mt.ex {w u : Wd} (wok : w.Ok) (uok : u.Ok) {r : Nat} (hc : ∀ k, 0 ≤ k → k < w.n → (knd w k w r).length ≤ (knd w k u r).length) : ∀ n : Nat, (n : Int) ≤ w.n → ∃ nm, nm.length = n ∧ Mt w u r nm
  | 0, _ => ⟨[], rfl, .nil⟩
  | n + 1, hn => by
    obtain ⟨nm, h1, h2⟩ := Mt.ex wok uok hc n (by omega)
    obtain ⟨b, h3, h4⟩ := h2.next wok uok (k := (n : Int)) (by omega) (by omega) (hc n (by omega) (by omega))
    exact ⟨nm ++ [b], by rw [List.length_append, h1]; rfl, h2.snoc (by omega) h3 h4⟩
theorem Mt.le {w u : Wd} {r : Nat} {nm : List Int} (m : Mt w u r nm) : nm.length ≤ u.n.toNat := by
  have := nodup_leM m.nd (m := rangeI 0 u.n.toNat) fun v hv => by
    obtain ⟨i, hi⟩ := List.mem_iff_getElem?.mp hv
    have hl := (List.getElem?_eq_some_iff.mp hi).1
    have e : nmI nm (i : Int) = v := by rw [nm_get hl]; exact (List.getElem?_eq_some_iff.mp hi).2
    have := (m.al (i : Int) (by omega) (by omega)).1
    rw [e] at this
    exact rangeI_mem.mpr (by omega)
  rw [rangeI_len] at this
  exact this
theorem Mt.perm {w u : Wd} {r : Nat} {nm : List Int} (m : Mt w u r nm) (hl : (nm.length : Int) = u.n) (u0 : 0 ≤ u.n) : nm.Perm (rangeI 0 u.n.toNat) := perm_rng u0 m.nd hl fun v hv => by
  obtain ⟨i, hi⟩ := List.mem_iff_getElem?.mp hv
  have hl := (List.getElem?_eq_some_iff.mp hi).1
  have e : nmI nm (i : Int) = v := by rw [nm_get hl]; exact (List.getElem?_eq_some_iff.mp hi).2
  have := (m.al (i : Int) (by omega) (by omega)).1
  rw [e] at this
  exact this
end LB

set_option Elab.async false
set_option linter.all false
set_option maxRecDepth 100000
namespace LB
open PySem TL
def mineW (s : Bool) (w u : Wd) : Wd := if s then u else w
section
variable {w u : Wd} (wok : w.Ok) (uok : u.Ok) (w5 : w.n ≤ 5) (u5 : u.n ≤ 5) (r : Nat)
include wok uok w5 u5
inductive NearR (w u : Wd) (r : Nat) : D → Prop
  | counted (s : Bool) (item : Int) : It' (mineW s w u) item → (knd (mineW s w u) item w r).length ≠ (knd (mineW s w u) item u r).length → NearR w u r (.tuple [.str "counted", .int (sideI s), .int item])
  | matched (nm : List Int) : (∀ k, 0 ≤ k → k < w.n → (knd w k w r).length = (knd w k u r).length) → (∀ k, 0 ≤ k → k < u.n → (knd u k w r).length = (knd u k u r).length) → (nm.length : Int) = w.n → Mt w u r nm → NearR w u r (.tuple [.str "matched", tI nm])
end
end LB

set_option Elab.async false
set_option linter.all false
set_option maxRecDepth 100000
namespace LB
open PySem TL
end LB

set_option Elab.async false
set_option linter.all false
set_option maxRecDepth 100000
namespace LB
open PySem TL
local macro_rules | `(tactic| walk_at "ev") => `(tactic| simp only [List.length_cons, List.length_nil, if_true, List.map_cons, List.map_nil, List.replicate, List.cons_append, List.nil_append, sSeq, sAsg, eLst, eTup, eArgs, Option.bind_some, Option.map_some, eC, eVar, eCall, e1, e2, eIf, eAnd, eOr, eNot, eChain, TL.gName, TL.gTup, gAll, List.getD_cons_zero, List.getD_cons_succ, List.set_cons_zero, List.set_cons_succ, sFor, iRng1, iRng2, iSeq, itemsD, toI, toB, sIf, sRet, sNext, tV, TL.tAnd, TL.tOr, TL.tNot, add_i, sub_i, lt_i, le_i, gt_i, ge_i, eq_i, ne_i, int_i, len_l, len_t, tuple_l, tuple_t, list_l, list_t, outD, Bool.false_eq_true, if_false, sApp, Nat.zero_le, wipeE, cYes, eSlice, ePart])
def sz : Nat → D → Nat
  | n + 1, .tuple ds => 1 + (ds.map (sz n)).sum
  | _, _ => 1
theorem both {P Q : D → Prop} {l : List D} (hq : ∀ x ∈ l, Q x) (hp : ∀ x ∈ l, P x) : ∀ x ∈ l, P x ∧ Q x := fun x hx => ⟨hp x hx, hq x hx⟩
end LB

set_option Elab.async false
set_option linter.all false
set_option maxRecDepth 100000
namespace LB
open PySem TL
end LB

set_option Elab.async false
set_option linter.all false
set_option maxRecDepth 100000
namespace LB
open PySem TL
section
variable {w u : Wd} (wok : w.Ok) (uok : u.Ok) (w5 : w.n ≤ 5) (u5 : u.n ≤ 5) (r : Nat)
include wok uok w5 u5
end
end LB

set_option Elab.async false
set_option linter.all false
set_option maxRecDepth 100000
namespace LB
open PySem TL
end LB

set_option Elab.async false
set_option linter.all false
set_option maxRecDepth 100000
namespace LB
open PySem TL
structure Vo (v : D) : Prop where
  nice : Nice 1000 20 v
  cost : ∀ x, v = .tuple [.str "parted", x] → nc 60 x ≤ 300000 ∧ (fv 60 x).length ≤ 4000
inductive Told : D → Prop
  | map {t : List Int} : t.length ≤ 8 → (∀ x ∈ t, 0 ≤ x ∧ x ≤ 8) → Told (.tuple [.str "map", tI t])
  | sen {z : Int} {g : D} : Nice 70 13 (.tuple [.str "some", .int z, g]) → (∀ m, sz m (.tuple [.str "some", .int z, g]) ≤ 440) → Told (.tuple [.str "parted", .tuple [.str "some", .int z, g]])
end LB

set_option Elab.async false
set_option linter.all false
set_option maxRecDepth 100000
namespace LB
open PySem TL
theorem pow85' {b a : Nat} (hb : b ≤ 8) (ha : a ≤ 5) : b ^ a ≤ 1000000 := Nat.le_trans (Nat.pow_le_pow_left hb a) (Nat.le_trans (Nat.pow_le_pow_right (by decide) ha) (by decide))
section
variable {w u : Wd} (wok : w.Ok) (uok : u.Ok) (w4 : w.n ≤ 4) (u4 : u.n ≤ 4)
include wok uok w4 u4
end
end LB

set_option Elab.async false
set_option linter.all false
set_option maxRecDepth 100000
namespace LB
open PySem TL
theorem emb_good {w u : Wd} (wok : w.Ok) (uok : u.Ok) (e : w.n = u.n) {t : List Int} : t ∈ waysW false w u w.n.toNat ↔ t ∈ goodT w u := by
  have lo := wok.lo
  rw [good_lk wok uok e, waysW_mem, mem_lk0, stp_iff, goR_iff]
  constructor
  · rintro ⟨h1, h2, h3⟩
    exact ⟨h1, h2, fun i j i0 ij jl => h3 _ (prsT_mem.mpr ⟨j, ⟨by omega, jl⟩, rfl⟩) _ (prsT_mem.mpr ⟨i, ⟨i0, by omega⟩, rfl⟩)⟩
  · rintro ⟨h1, h2, h3⟩
    refine ⟨h1, h2, fun p hp q hq => ?_⟩
    obtain ⟨a, ha, rfl⟩ := prsT_mem.mp hp
    obtain ⟨b, hb, rfl⟩ := prsT_mem.mp hq
    show fitB w u _ _ = true
    rcases Int.le_total b a with hle | hle
    · exact h3 b a hb.1 hle ha.2
    · have f := fit_iff.mp (h3 a b ha.1 hle hb.2)
      have g := fit_iff.mp (h3 a a ha.1 (Int.le_refl _) ha.2)
      exact fit_iff.mpr ⟨⟨fun e => (f.1.mp e.symm).symm, fun e => (f.1.mpr e.symm).symm⟩, g.2.1, g.2.2.1, f.2.2.2.2, f.2.2.2.1⟩
section
variable {w u : Wd} (wok : w.Ok) (uok : u.Ok) (w4 : w.n ≤ 4) (u4 : u.n ≤ 4)
include wok uok w4 u4
inductive ShapeR (w u : Wd) : D → Prop
  | alike {t : List Int} (e : w.n = u.n) (h : t ∈ goodT w u) : ShapeR w u (.tuple [.str "alike", tI t])
  | shape {s : Wd} (ok : s.Ok) (n4 : s.n ≤ 4) (h : goodT w u = []) (hs : hm s w ≠ hm s u) : ShapeR w u (.tuple [.str "shape", s.d])
end
end LB

set_option Elab.async false
set_option linter.all false
set_option maxRecDepth 100000
namespace LB
open PySem TL
def m_orbits_2W : List D → Option D := runF 2 5 ((sSeq (sAsg (eCall m_turnings_2 [(eVar 0)]) (TL.gName 2))
      (sSeq (sAsg (eLst []) (TL.gName 3))
      (sSeq (sFor (iSeq (eCall m_tuples_of [(e2 ixD (eVar 0) (eC (.int 0))), (eVar 1)])) (TL.gName 4)
      (sSeq (sAsg (e1 tupleD (e1 sortSetMD (eLc [6] (iSeq (eVar 2)) (TL.gName 6) cYes (eCall m_led [(eVar 6), (eVar 4)])))) (TL.gName 5))
      (sIf (tV (e2 eqD (e2 ixD (eVar 5) (eC (.int 0))) (eVar 4)))
      (sApp 3 (eVar 5))
      sNext)))
      (sRet (eVar 3))))))
def m__law_unlike_2 : List D → Option D := runF 1 2 ((sSeq (sAsg (eLst []) (TL.gName 1))
      (sSeq (sFor (iSeq (e1 sortedKD (eVar 0))) (TL.gName 2)
      (sIf (tV (e2 ninD (eVar 2) (eVar 1)))
      (sApp 1 (eVar 2))
      sNext))
      (sRet (e1 tupleD (eVar 1))))))
def m_law_k48W : List D → Option D := runF 1 9 ((sSeq (sAsg (eCall m__law_draws [(eCall m__law_cell [(eVar 0), (eC (.int 0))]), (eC (.int 90))]) (TL.gName 1))
      (sSeq (sAsg (eCall m__law_world [(eVar 1), (eC (.int 5))]) (TL.gName 2))
      (sSeq (sAsg (e2 modD (e2 ixD (eVar 1) (eC (.int 70))) (eC (.int 3))) (TL.gName 3))
      (sSeq (sAsg (eCall m__law_ways [(eVar 2), (eVar 2), (eC (.int 0))]) (TL.gName 4))
      (sSeq (sAsg (eLst []) (TL.gName 5))
      (sSeq (sFor (iSeq (eCall m__law_tuples [(e2 ixD (eVar 2) (eC (.int 0))), (eVar 3)])) (TL.gName 6)
      (sSeq (sAsg (eCall m__law_unlike_2 [(eLc [8] (iSeq (eVar 4)) (TL.gName 8) cYes (e1 tupleD (eLc [9] (iSeq (eVar 6)) (TL.gName 9) cYes (e2 ixD (eVar 8) (eVar 9)))))]) (TL.gName 7))
      (sIf (tV (e2 ninD (eVar 7) (eVar 5)))
      (sApp 5 (eVar 7))
      sNext)))
      (sRet (eAnd (eCall (m__law_equal 60) [(eCall m_orbits_2W [(eVar 2), (eVar 3)]), (e1 sortedKD (eVar 5))]) (eCall (m__law_equal 60) [(eCall m_orbits_2W [(eVar 2), (eC (.int 0))]), (eLst [(eTup [(eTup [])])])]))))))))))
end LB

set_option Elab.async false
set_option linter.all false
set_option maxRecDepth 100000
namespace LB
open PySem TL
abbrev LL := List (List (List Int))
structure GI (G : List Int → Prop) (n : Nat) (L : LL) : Prop where
  len : L.length ≤ n
  lot : ∀ l ∈ L, l ≠ [] ∧ l.length ≤ n ∧ ∀ t ∈ l, G t
theorem GI.nil {G : List Int → Prop} : GI G 0 [] := ⟨Nat.le_refl _, fun l h => by cases h⟩
theorem GI.head {G : List Int → Prop} {n : Nat} {L : LL} (g : GI G n L) {l : List (List Int)} (h : l ∈ L) : ∃ r, l = l.headD [] :: r ∧ G (l.headD []) := by
  obtain ⟨h1, _, h3⟩ := g.lot l h
  cases l with
  | nil => exact absurd rfl h1
  | cons a r => exact ⟨r, rfl, h3 a List.mem_cons_self⟩
def lotD (l : List (List Int)) : D := .tuple (l.map tI)
theorem lotD_T (l : List (List Int)) : toT 2 l = lotD l := by
  show PyData.tuple (List.map (toT 1) l) = _
  unfold lotD
  congr 1
theorem lots_tr {L : LL} (hL : L.length ≤ 1000) (h : ∀ l ∈ L, l.length ≤ 1000 ∧ ∀ t ∈ l, t.length ≤ 1000) : Tr 4 (.list (L.map lotD)) := .lst (by rw [List.length_map]; exact hL) fun x hx => by
  obtain ⟨l, hl, rfl⟩ := List.mem_map.mp hx
  obtain ⟨h1, h2⟩ := h l hl
  refine .tup (by rw [List.length_map]; exact h1) fun y hy => ?_
  obtain ⟨t, ht, rfl⟩ := List.mem_map.mp hy
  exact tr_ints (d := 1) (h2 t ht)
end LB

set_option Elab.async false
set_option linter.all false
set_option maxRecDepth 100000
namespace LB
open PySem TL
theorem unlike_gen2 {α : Type} [BEq α] [LawfulBEq α] (ι : α → D) {lt : α → α → Bool} (O : SrtO.Swo lt) (anti : ∀ x y, lt x y = false → lt y x = false → x = y) (hin : ∀ (a : α) (l : List α), inD (ι a) (.list (l.map ι)) = some (.bool (decide (a ∈ l)))) {V : D} {ns : List α} (hV : sortedKD V = some (.list ((isort lt ns).map ι))) (hl : ns.length ≤ 1000000) :
    ∃ l : List α, m__law_unlike_2 [V] = some (.tuple (l.map ι)) ∧ l.Pairwise (fun a b => lt a b = true) ∧ ∀ x, x ∈ l ↔ x ∈ ns := by
  have perm := isort_perm (lt := lt) ns
  have asc : (isort lt ns).Pairwise fun a b => lt b a = false := isort_asc O ns
  have loop : ∀ (l acc : List α) (o : Option D), (l.Pairwise fun a b => lt b a = false) → (acc.Pairwise fun a b => lt a b = true) → (∀ a ∈ acc, ∀ x ∈ l, lt x a = false) → acc.length + l.length ≤ 1000000 → ∃ (acc' : List α) (o' : Option D), forGo (TL.gName 2) (sIf (tV (e2 ninD (eVar 2) (eVar 1))) (sApp 1 (eVar 2)) sNext) (l.map ι) [some V, some (.list (acc.map ι)), o] = some (.nx [some V, some (.list (acc'.map ι)), o']) ∧ (acc'.Pairwise fun a b => lt a b = true) ∧ ∀ x, x ∈ acc' ↔ x ∈ acc ∨ x ∈ l := by
    intro l
    induction l with
    | nil => exact fun acc o _ h2 _ _ => ⟨acc, o, rfl, h2, fun x => by simp⟩
    | cons y l ih =>
      intro acc o h1 h2 h3 h4
      rw [List.length_cons] at h4
      have h1' := List.pairwise_cons.mp h1
      have T : tV (e2 ninD (eVar 2) (eVar 1)) [some V, some (.list (acc.map ι)), some (ι y)] = some (!decide (y ∈ acc)) := tV_go (e2_go rfl rfl (nin_of (hin y acc)))
      by_cases hy : y ∈ acc
      · rw [decide_eq_true hy] at T
        obtain ⟨acc', o', g1, g2, g3⟩ := ih acc (some (ι y)) h1'.2 h2 (fun a ha x hx => h3 a ha x (List.mem_cons_of_mem _ hx)) (by omega)
        refine ⟨acc', o', for_cons rfl (if_f T rfl) g1, g2, fun x => ?_⟩
        rw [g3 x, List.mem_cons]
        constructor
        · rintro (q | q)
          · exact .inl q
          · exact .inr (.inr q)
        · rintro (q | rfl | q)
          · exact .inl q
          · exact .inl hy
          · exact .inr q
      · rw [decide_eq_false hy] at T
        have hlt : ∀ a ∈ acc, lt a y = true := fun a ha => by
          cases q : lt a y with
          | true => rfl
          | false => exact absurd (anti a y q (h3 a ha y List.mem_cons_self) ▸ ha) hy
        obtain ⟨acc', o', g1, g2, g3⟩ := ih (acc ++ [y]) (some (ι y)) h1'.2 (List.pairwise_append.mpr ⟨h2, List.pairwise_singleton _ _, fun a ha b hb => by rw [List.mem_singleton.mp hb]; exact hlt a ha⟩) (fun a ha x hx => by
          rcases List.mem_append.mp ha with ha | ha
          · exact h3 a ha x (List.mem_cons_of_mem _ hx)
          · rw [List.mem_singleton.mp ha]; exact h1'.1 x hx) (by rw [List.length_append, List.length_singleton]; omega)
        have app : sApp 1 (eVar 2) [some V, some (.list (acc.map ι)), some (ι y)] = some (.nx [some V, some (.list ((acc ++ [y]).map ι)), some (ι y)]) := by
          simp only [sApp, eVar, List.getD_cons_succ, List.getD_cons_zero, Option.bind_some]
          rw [if_pos (small' (by rw [List.length_map]; omega)), List.map_append]
          rfl
        refine ⟨acc', o', for_cons rfl (if_t T app) g1, g2, fun x => ?_⟩
        rw [g3 x, List.mem_append, List.mem_singleton, List.mem_cons, or_assoc]
  obtain ⟨acc', o', g1, g2, g3⟩ := loop (isort lt ns) [] none asc List.Pairwise.nil (fun a ha => by cases ha) (by rw [perm.length_eq, List.length_nil]; omega)
  refine ⟨acc', run_rt rfl (seq_go (asg_go rfl) (seq_go (for_go (ds := (isort lt ns).map ι) ?_ g1) (ret_go (e1_go rfl rfl)))), g2, fun x => ?_⟩
  · simp only [iSeq]
    rw [e1_go rfl hV]
    rfl
  · rw [g3 x, perm.mem_iff]
    simp

theorem sortK_len {k : Nat} (hk : k ≤ 2) {ts : List (List Int)} (h : ∀ t ∈ ts, t.length = k) : sortedKD (.list (ts.map tI)) = some (.list ((isort ltLI ts).map tI)) := by
  have gen : sortL (ts.map tI) = none → sortedKD (.list (ts.map tI)) = some (.list ((isort ltLI ts).map tI)) := fun hn => by
    have s0 : sortK 0 (ts.map tI) = some ((isort ltLI ts).map tI) := by
      rcases Nat.eq_zero_or_pos k with rfl | hp
      · cases ts with
        | nil => rfl
        | cons t r =>
          have e : t = [] := List.eq_nil_of_length_eq_zero (h t List.mem_cons_self)
          subst e
          exact sorted_K0 (k := 0) (ts := [] :: r) (by decide) rfl
      · exact sorted_K (k := 0) (ts := ts) (by decide) (.inr (List.all_eq_true.mpr fun t ht => by
          have := h t ht
          cases t with
          | nil => exact absurd this (by show ¬ 0 = k; omega)
          | cons a b => rfl))
    show (orO (sortL (ts.map tI)) (orO (sortK 0 (ts.map tI)) _)).map PyData.list = _
    rw [hn, s0]
    rfl
  rcases (by omega : k = 0 ∨ k = 1 ∨ k = 2) with rfl | rfl | rfl
  · cases ts with
    | nil => kernel_rfl
    | cons t r =>
      have e : t = [] := List.eq_nil_of_length_eq_zero (h t List.mem_cons_self)
      subst e
      exact gen rfl
  · cases ts with
    | nil => kernel_rfl
    | cons t r =>
      obtain ⟨a, rfl⟩ : ∃ a, t = [a] := by
        have := h t List.mem_cons_self
        match t, this with
        | [a], _ => exact ⟨a, rfl⟩
      exact gen rfl
  · obtain ⟨ps, rfl⟩ : ∃ ps : List (Int × Int), ts = ps.map pk2 := by
      clear gen
      induction ts with
      | nil => exact ⟨[], rfl⟩
      | cons t r ih =>
        obtain ⟨ps, rfl⟩ := ih fun t ht => h t (List.mem_cons_of_mem _ ht)
        have := h t List.mem_cons_self
        match t, this with
        | [a, b], _ => exact ⟨(a, b) :: ps, rfl⟩
    have e : (ps.map pk2).map tI = ps.map prD := by
      rw [List.map_map]
      rfl
    cases ps with
    | nil => kernel_rfl
    | cons p r =>
      have hs : sortL ((p :: r).map prD) = some ((isort ltPr (p :: r)).map prD) := by
        have := sorted_prs (p :: r)
        simp only [sortedD] at this
        obtain ⟨es, h1, h2⟩ := map_some this
        injection h2 with h2
        rw [h1, h2]
      rw [e]
      show (orO (sortL ((p :: r).map prD)) _).map PyData.list = _
      rw [hs]
      show some (PyData.list ((isort ltPr (p :: r)).map prD)) = some (PyData.list ((isort ltLI ((p :: r).map pk2)).map tI))
      have e2 : isort ltLI ((p :: r).map pk2) = (isort ltPr (p :: r)).map pk2 := by
        refine (asc_uniq swoLI.2 ?_ ?_ (isort_asc swoLI.1 _)).symm
        · exact ((isort_perm (lt := ltPr) (p :: r)).map pk2).trans (isort_perm _).symm
        · refine List.pairwise_map.mpr ?_
          refine (isort_asc swoP (p :: r)).imp fun {a b} hab => ?_
          cases q : ltLI (pk2 b) (pk2 a) with
          | false => rfl
          | true =>
            have := lt_pk (a := b.1) (b := b.2) (c := a.1) (d := a.2) q
            rw [show ltPr (b.1, b.2) (a.1, a.2) = ltPr b a from rfl, hab] at this
            cases this
      rw [e2, List.map_map]
      rfl
theorem unlike_tis {k : Nat} (hk : k ≤ 2) {ts : List (List Int)} (h : ∀ t ∈ ts, t.length = k) (hl : ts.length ≤ 1000000) : m__law_unlike_2 [.list (ts.map tI)] = some (.tuple ((isort ltLI (ddL ts)).map tI)) := by
  obtain ⟨l, h1, h2, h3⟩ := unlike_gen2 tI swoLI.1 swoLI.2 in_tis (sortK_len hk h) hl
  rw [h1]
  have : l = isort ltLI (ddL ts) := asc_uniq swoLI.2 ((List.perm_ext_iff_of_nodup (asc_nodup h2) ((isort_perm _).symm.nodup (ddL_nodup ts))).mpr fun t => by rw [h3, isort_mem, ddL_mem]) (h2.imp fun {a b} hab => swoLI.1.asym _ _ hab) (isort_asc swoLI.1 _)
  rw [this]
end LB

set_option Elab.async false
set_option linter.all false
set_option maxRecDepth 100000
namespace LB
open PySem TL
theorem allT_of {n : Nat} : ∀ {k : Nat} {t : List Int}, t.length = k → (∀ v ∈ t, 0 ≤ v ∧ v < n) → t ∈ allT n k
  | 0, t, h, _ => by rw [List.eq_nil_of_length_eq_zero h]; exact List.mem_singleton.mpr rfl
  | k + 1, t, h, hr => by
    rcases List.eq_nil_or_concat t with e | ⟨s, b, e⟩
    · subst e
      cases h
    · rw [List.concat_eq_append] at e
      subst e
      rw [List.length_append, List.length_singleton] at h
      have := hr b (List.mem_append_right _ List.mem_cons_self)
      exact List.mem_flatMap.mpr ⟨s, allT_of (by omega) fun v hv => hr v (List.mem_append_left _ hv), List.mem_map.mpr ⟨b, rangeI_mem.mpr (by omega), rfl⟩⟩
theorem eqT48 (A B : List Int) : eqD (tI A) (tI B) = some (.bool (decide (A = B))) := by
  unfold eqD tI
  rw [if_pos ⟨shaped_ti A, shaped_ti B⟩, PyData.eqv, eqvAll_ints]
theorem tups_tI : ∀ l : List (List Int), tupsOf (l.map tI) = some l
  | [] => rfl
  | t :: l => by
    show (intsOf (t.map .int)).bind _ = _
    rw [ints_of, Option.bind_some, tups_tI l]
    rfl
def leds (G : List (List Int)) (row : List Int) : List (List Int) := G.map fun t => row.map (nmI t)
def orb (G : List (List Int)) (row : List Int) : List (List Int) := isort ltLI (ddL (leds G row))
theorem orb_mem {G : List (List Int)} {row t : List Int} : t ∈ orb G row ↔ ∃ s ∈ G, t = row.map (nmI s) := by
  unfold orb
  rw [isort_mem, ddL_mem]
  exact ⟨fun h => by obtain ⟨s, hs, e⟩ := List.mem_map.mp h; exact ⟨s, hs, e.symm⟩, fun ⟨s, hs, e⟩ => List.mem_map.mpr ⟨s, hs, e.symm⟩⟩
theorem orb_asc (G : List (List Int)) (row : List Int) : (orb G row).Pairwise fun t u => ltLI t u = true := isort_lt swoLI.1 swoLI.2 (ddL_nodup _)
theorem orb_ext {G H : List (List Int)} {r s : List Int} (h : ∀ t, t ∈ orb G r ↔ t ∈ orb H s) : orb G r = orb H s :=
  asc_uniq swoLI.2 ((List.perm_ext_iff_of_nodup (asc_nodup (orb_asc G r)) (asc_nodup (orb_asc H s))).mpr h) ((orb_asc G r).imp fun {a b} hab => swoLI.1.asym _ _ hab) ((orb_asc H s).imp fun {a b} hab => swoLI.1.asym _ _ hab)
theorem orb_cg {G H : List (List Int)} (h : ∀ t, t ∈ G ↔ t ∈ H) (row : List Int) : orb G row = orb H row := orb_ext fun t => by
  rw [orb_mem, orb_mem]
  exact ⟨fun ⟨s, hs, e⟩ => ⟨s, (h s).mp hs, e⟩, fun ⟨s, hs, e⟩ => ⟨s, (h s).mpr hs, e⟩⟩
section
variable {w : Wd} (wok : w.Ok) (wn : w.n ≤ 5)
include wok
theorem good_id : tab w.n id ∈ goodT w w := (alike_of wok wok (hom_id wok).1 (hom_id wok).2 (hom_id wok).1 (hom_id wok).2).2
theorem good_inj {f : List Int} (h : Hom w w f) (inj : InjT f) : f ∈ goodT w w := (alike_of wok wok h inj (hom_id wok).1 (hom_id wok).2).2
theorem good_rng {t : List Int} (h : t ∈ goodT w w) : t.length = w.n.toNat ∧ InR w.n t := by
  have hh := (good_hom wok wok rfl h).1
  have := hh.len
  have := wok.lo
  exact ⟨by omega, hh.rng⟩
theorem good_comp {s t : List Int} (hs : s ∈ goodT w w) (ht : t ∈ goodT w w) : t.map (nmI s) ∈ goodT w w := by
  obtain ⟨s1, s2⟩ := good_hom wok wok rfl hs
  obtain ⟨t1, t2⟩ := good_hom wok wok rfl ht
  have l1 := s1.len
  have l2 := t1.len
  refine good_inj wok (t1.comp wok s1) fun a b a0 a1 b0 b1 e => ?_
  rw [List.length_map] at a1 b1
  rw [nm_mapT a0 a1, nm_mapT b0 b1] at e
  have r1 := nm_in t1.rng a0 a1
  have r2 := nm_in t1.rng b0 b1
  exact t2 _ _ a0 a1 b0 b1 (s2 _ _ r1.1 (by omega) r2.1 (by omega) e)
theorem good_inv {t : List Int} (ht : t ∈ goodT w w) : ∃ s ∈ goodT w w, t.map (nmI s) = tab w.n id := by
  obtain ⟨t1, t2⟩ := good_hom wok wok rfl ht
  have l2 := t1.len
  have lo := wok.lo
  have nd : (goodT w w).Nodup := by
    rw [good_lk wok wok rfl]
    exact asc_nodup (lk_asc _ _ _ _)
  have onto : ∀ y, 0 ≤ y → y < w.n → y ∈ t := fun y y0 y1 => by
    obtain ⟨fl, fr, fn⟩ := ordT_mem.mp (List.mem_filter.mp ht).1
    have pm : t.Perm (rangeI 0 w.n.toNat) := perm_rng (by omega) fn (by omega) (by rwa [show ((w.n.toNat : Nat) : Int) = w.n by omega] at fr)
    exact pm.mem_iff.mpr (rgm.mpr ⟨y0, y1⟩)
  refine back_in (f := fun s => t.map (nmI s)) nd nd (fun s hs => good_comp wok hs ht) (fun s hs s' hs' e => ?_) (Nat.le_refl _) (good_id wok)
  obtain ⟨a1, a2⟩ := good_rng wok hs
  obtain ⟨b1, b2⟩ := good_rng wok hs'
  refine nm_ext (by omega) fun y y0 y1 => ?_
  obtain ⟨i1, i2⟩ := nm_idx (onto y y0 (by omega))
  have e := congrArg (fun l => nmI l (t.idxOf y : Nat)) e
  rw [nm_mapT (by omega) (by omega), nm_mapT (by omega) (by omega), i2] at e
  exact e
theorem led_comp {s t row : List Int} (ht : t.length = w.n.toNat) (hr : InR w.n row) : (row.map (nmI t)).map (nmI s) = row.map (nmI (t.map (nmI s))) := by
  have lo := wok.lo
  rw [List.map_map]
  refine List.map_congr_left fun x hx => ?_
  have := hr x hx
  exact (nm_mapT this.1 (by omega)).symm
theorem led_rng {t row : List Int} (ht : t ∈ goodT w w) (hr : InR w.n row) : InR w.n (row.map (nmI t)) := fun v hv => by
  obtain ⟨x, hx, rfl⟩ := List.mem_map.mp hv
  obtain ⟨h1, h2⟩ := good_rng wok ht
  have := hr x hx
  exact nm_in h2 this.1 (by have := wok.lo; omega)
theorem led_id {row : List Int} (hr : InR w.n row) : row.map (nmI (tab w.n id)) = row := by
  have : row.map (nmI (tab w.n id)) = row.map id := List.map_congr_left fun x hx => nm_tab (hr x hx).1 (hr x hx).2
  rw [this, List.map_id]
theorem orb_self {row : List Int} (hr : InR w.n row) : row ∈ orb (goodT w w) row := orb_mem.mpr ⟨_, good_id wok, (led_id wok hr).symm⟩
theorem orb_led {row t : List Int} (ht : t ∈ goodT w w) (hr : InR w.n row) : orb (goodT w w) (row.map (nmI t)) = orb (goodT w w) row := orb_ext fun x => by
  rw [orb_mem, orb_mem]
  constructor
  · rintro ⟨s, hs, rfl⟩
    exact ⟨_, good_comp wok hs ht, led_comp wok (good_rng wok ht).1 hr⟩
  · rintro ⟨s, hs, rfl⟩
    obtain ⟨r, hr', e⟩ := good_inv wok ht
    refine ⟨_, good_comp wok hs hr', ?_⟩
    rw [← led_comp wok (good_rng wok hr').1 (led_rng wok ht hr), led_comp wok (good_rng wok ht).1 hr, e, led_id wok hr]
theorem orb_in {row x : List Int} (h : x ∈ orb (goodT w w) row) (hr : InR w.n row) : x.length = row.length ∧ InR w.n x := by
  obtain ⟨s, hs, rfl⟩ := orb_mem.mp h
  exact ⟨List.length_map _, led_rng wok hs hr⟩
theorem rows_in {k : Nat} {row : List Int} (h : row ∈ allT w.n.toNat k) : row.length = k ∧ InR w.n row := by
  obtain ⟨h1, h2⟩ := allT_mem h
  exact ⟨h1, fun v hv => by have := h2 v hv; omega⟩
theorem orb_len {k : Nat} {row : List Int} (h : row ∈ allT w.n.toNat k) : (orb (goodT w w) row).length ≤ w.n.toNat ^ k := by
  obtain ⟨h1, h2⟩ := rows_in wok h
  rw [← allT_len]
  refine nodup_leM (asc_nodup (orb_asc _ _)) fun x hx => ?_
  obtain ⟨x1, x2⟩ := orb_in wok hx h2
  exact allT_of (by omega) fun v hv => by have := x2 v hv; omega
include wn
theorem row_le {k : Nat} (hk : k ≤ 2) : w.n.toNat ^ k ≤ 25 := Nat.le_trans (Nat.pow_le_pow_left (show w.n.toNat ≤ 5 by omega) k) (Nat.le_trans (Nat.pow_le_pow_right (by decide) hk) (by decide))
theorem orbM_ok {k : Nat} (hk : k ≤ 2) {row : List Int} (h : row ∈ allT w.n.toNat k) : sortSetMD (.list ((leds (goodT w w) row).map tI)) = some (.list ((orb (goodT w w) row).map tI)) := by
  obtain ⟨h1, h2⟩ := rows_in wok h
  have ol := orb_len wok h
  have rl := row_le wok wn hk
  have ll : (ddL (leds (goodT w w) row)).length = (orb (goodT w w) row).length := ((isort_perm _).length_eq).symm
  have inr : ∀ t ∈ leds (goodT w w) row, t.length = k ∧ InR w.n t := fun t ht => by
    obtain ⟨s, hs, rfl⟩ := List.mem_map.mp ht
    exact ⟨by rw [List.length_map]; exact h1, led_rng wok hs h2⟩
  have ok : okTM (leds (goodT w w) row) = true := by
    simp only [okTM, Bool.and_eq_true, Nat.blt_eq, List.all_eq_true, decide_eq_true_eq]
    refine ⟨by omega, fun t ht => ⟨?_, fun x hx => ?_⟩⟩
    · rw [(inr t ht).1]
      cases hl : leds (goodT w w) row with
      | nil => rw [hl] at ht; cases ht
      | cons a l => exact (inr a (by rw [hl]; exact List.mem_cons_self)).1.symm
    · have := (inr t ht).2 x hx
      have := wok.hi
      omega
  simp only [sortSetMD, tups_tI, Option.bind_some]
  rw [if_pos ok]
  rfl
def orbF (w : Wd) (k : Nat) : List (List Int) := (allT w.n.toNat k).filter fun row => decide ((orb (goodT w w) row).head? = some row)
theorem orbits_ok {k : Nat} (hk : k ≤ 2) : m_orbits_2W [w.d, .int k] = some (.list (((orbF w k).map (orb (goodT w w))).map lotD)) := by
  have lo := wok.lo
  have rl := row_le wok wn hk
  let G := goodT w w
  let E := fun (e3 e4 e5 : Option D) => [some w.d, some (PyData.int k), some (PyData.list (G.map tI)), e3, e4, e5, none]
  let P := fun row : List Int => decide ((orb G row).head? = some row)
  refine run_rt rfl (seq_go (e := [some w.d, some (PyData.int k), some (PyData.list (G.map tI)), none, none, none, none]) (asg_go (call1_go rfl (turnings5 wok wok wn))) (seq_go (e := E (some (.list [])) none none) (asg_go rfl) ?_))
  have htu : m_tuples_of [.int w.n, .int k] = some (.list ((allT w.n.toNat k).map tI)) := by
    have := ptuples_ok (n := w.n.toNat) (k := k) (by omega) (by omega) fun j hj => Nat.le_trans (Nat.pow_le_pow_left (show w.n.toNat ≤ 5 by omega) j) (Nat.le_trans (Nat.pow_le_pow_right (by decide) (show j ≤ 2 by omega)) (by decide))
    rwa [show ((w.n.toNat : Nat) : Int) = w.n by omega] at this
  refine seq_for_invP tI (fun done env => ∃ e4 e5, env = E (some (.list (((done.filter P).map (orb G)).map lotD))) e4 e5) (allT w.n.toNat k) ?_ ⟨_, _, rfl⟩ ?_ ?_
  · simp only [iSeq]
    rw [call2_go (x := .int w.n) (y := .int k) (e2_go rfl rfl (wdn w)) rfl htu]
    rfl
  · rintro done row rest hd env ⟨e4, e5, rfl⟩
    have hrow : row ∈ allT w.n.toNat k := by rw [hd]; exact List.mem_append_right _ List.mem_cons_self
    obtain ⟨r1, r2⟩ := rows_in wok hrow
    let Fd := some (PyData.list (((done.filter P).map (orb G)).map lotD))
    have lot : (e1 tupleD (e1 sortSetMD (eLc [6] (iSeq (eVar 2)) (TL.gName 6) cYes (eCall m_led [(eVar 6), (eVar 4)])))) (E Fd (some (tI row)) e5) = some (lotD (orb G row)) := by
      refine e1_go (e1_go (lc_go (ds := G.map tI) rfl (lc_map tI tI (fun t => row.map (nmI t)) fun t ht => ⟨_, rfl, call2_go rfl rfl (run_rt rfl (ret_go (e1_go (lc_go (ds := row.map .int) rfl (lc_map PyData.int PyData.int (nmI t) fun x hx => ⟨_, rfl, e2_go rfl rfl (ix_tI (r2 x hx).1 (by have := r2 x hx; have := (good_rng wok ht).1; omega))⟩)) rfl)))⟩)) (orbM_ok wok wn hk hrow)) rfl
    have self := orb_self wok r2
    cases ho : orb G row with
    | nil =>
      rw [show orb (goodT w w) row = orb G row from rfl, ho] at self
      cases self
    | cons a L =>
      have c : tV (e2 eqD (e2 ixD (eVar 5) (eC (.int 0))) (eVar 4)) (E Fd (some (tI row)) (some (lotD (orb G row)))) = some (decide (a = row)) := tV_go (e2_go (e2_go rfl rfl (by rw [ho]; exact ix_ti (Int.le_refl 0) rfl)) rfl (eqT48 _ _))
      have hP : P row = decide (a = row) := by
        show decide ((orb G row).head? = some row) = _
        rw [ho, List.head?_cons, Bool.eq_iff_iff, decide_eq_true_eq, decide_eq_true_eq, Option.some.injEq]
      have ll : ((done.filter P).map (orb G)).length ≤ 25 := by
        rw [List.length_map]
        have h1 := List.length_filter_le P done
        have h2 := congrArg List.length hd
        rw [allT_len, List.length_append] at h2
        omega
      by_cases hq : a = row
      · rw [decide_eq_true hq] at c hP
        refine ⟨_, rfl, E (some (.list ((((done ++ [row]).filter P).map (orb G)).map lotD))) (some (tI row)) (some (lotD (orb G row))), .inl (seq_go (e := E Fd (some (tI row)) (some (lotD (orb G row)))) (asg_go lot) (if_t c ((app_go' rfl rfl (by rw [List.length_map]; omega)).trans ?_))), _, _, rfl⟩
        rw [List.filter_append, List.filter_cons_of_pos hP, List.filter_nil, List.map_append, List.map_append]
        rfl
      · rw [decide_eq_false hq] at c hP
        refine ⟨_, rfl, E Fd (some (tI row)) (some (lotD (orb G row))), .inl (seq_go (e := E Fd (some (tI row)) (some (lotD (orb G row)))) (asg_go lot) (if_f c rfl)), some (tI row), some (lotD (orb G row)), ?_⟩
        rw [List.filter_append, List.filter_cons_of_neg (by rw [hP]; decide), List.filter_nil, List.append_nil]
  · rintro _ ⟨e4, e5, rfl⟩
    exact ret_go rfl
end
end LB

set_option Elab.async false
set_option linter.all false
set_option maxRecDepth 100000
namespace LB
open PySem TL
theorem sort_lots48 {L : LL} (h : ∀ l ∈ L, l ≠ []) (hL : L ≠ []) : sortedKD (.list (L.map lotD)) = some (.list ((isort (ltT 2) L).map lotD)) := by
  cases L with
  | nil => exact absurd rfl hL
  | cons l L =>
    cases hl : l with
    | nil => exact absurd hl (h l List.mem_cons_self)
    | cons t r =>
      let X : LL := (t :: r) :: L
      have hX : X.map lotD = List.map (toT 2) X := List.map_congr_left fun x _ => (lotD_T x).symm
      have full : fullT 1 X = true := by
        refine List.all_eq_true.mpr fun x hx => ?_
        have : x ≠ [] := by
          rcases List.mem_cons.mp hx with rfl | hx
          · exact List.cons_ne_nil _ _
          · exact h x (List.mem_cons_of_mem _ hx)
        cases x with
        | nil => exact absurd rfl this
        | cons a b => rfl
      have h1 : sortK 1 (X.map lotD) = some ((isort (ltT 2) X).map (toT 2)) := by
        rw [hX]
        exact sorted_K (by decide) (.inr full)
      have h0 : sortK 0 (X.map lotD) = none := rfl
      have hs : sortL (X.map lotD) = none := by
        cases t with
        | nil => cases r <;> rfl
        | cons a t =>
          cases r with
          | nil => rfl
          | cons b r => cases r <;> rfl
      show (orO (sortL (X.map lotD)) (orO (sortK 0 (X.map lotD)) (orO (sortK 1 (X.map lotD)) (sortK 2 (X.map lotD))))).map PyData.list = _
      rw [hs, h0, h1]
      show some (PyData.list ((isort (ltT 2) X).map (toT 2))) = some (PyData.list ((isort (ltT 2) X).map lotD))
      congr 2
theorem eqvAll_tis : ∀ a b : List (List Int), PyData.eqvAll (a.map tI) (b.map tI) = decide (a = b)
  | [], [] => by simp [PyData.eqvAll]
  | [], _ :: _ => by simp [PyData.eqvAll]
  | _ :: _, [] => by simp [PyData.eqvAll]
  | x :: a, y :: b => by
    have e : PyData.eqv (tI x) (tI y) = decide (x = y) := by
      unfold tI
      rw [PyData.eqv, eqvAll_ints]
    simp only [List.map_cons, PyData.eqvAll, eqvAll_tis a b, e]
    by_cases h1 : x = y <;> by_cases h2 : a = b <;> simp [h1, h2]
theorem eqv_lot (a b : List (List Int)) : PyData.eqv (lotD a) (lotD b) = decide (a = b) := by
  unfold lotD
  rw [PyData.eqv, eqvAll_tis]
theorem lay_tis48 : ∀ l : List (List Int), PyData.canLayAll0 (l.map tI) = true ∧ PyData.depthAll (l.map tI) ≤ 1 := fun l => by
  have c1 : ∀ t, PyData.canLay0 (tI t) = true := fun t => by simp [tI, PyData.canLay0, lay_ints]
  have d1 : ∀ t, (tI t).depth = 1 := fun t => by simp [tI, PyData.depth, dep_ints]
  induction l with
  | nil => simp [PyData.canLayAll0, PyData.depthAll]
  | cons t l ih =>
    simp only [List.map_cons, PyData.canLayAll0, PyData.depthAll, c1, d1, Bool.true_and]
    exact ⟨ih.1, by have := ih.2; omega⟩
theorem lay_lot (a : List (List Int)) : PyData.canLay0 (lotD a) = true ∧ (lotD a).depth ≤ 2 := by
  obtain ⟨h1, h2⟩ := lay_tis48 a
  constructor
  · simp [lotD, PyData.canLay0, h1]
  · simp only [lotD, PyData.depth]
    omega
theorem nin_lot (x : List (List Int)) (L : LL) : ninD (lotD x) (.list (L.map lotD)) = some (.bool (!decide (x ∈ L))) := by
  obtain ⟨a1, a2⟩ := lay_lot x
  have hall : ∀ L : LL, PyData.canLayAll0 (L.map lotD) = true ∧ PyData.depthAll (L.map lotD) ≤ 2 := fun L => by
    induction L with
    | nil => simp [PyData.canLayAll0, PyData.depthAll]
    | cons y L ih =>
      obtain ⟨b1, b2⟩ := lay_lot y
      simp only [List.map_cons, PyData.canLayAll0, PyData.depthAll, b1, Bool.true_and]
      exact ⟨ih.1, by have := ih.2; omega⟩
  have sh1 : SeqAt.shaped (lotD x) = true := shaped_of a1 (by omega)
  have sh2 : SeqAt.shaped (.list (L.map lotD)) = true := shaped_of (by simp [PyData.canLay0, (hall L).1]) (by
    have := (hall L).2
    simp only [PyData.depth]
    omega)
  have hin : inD (lotD x) (.list (L.map lotD)) = some (.bool (decide (x ∈ L))) := by
    simp only [inD]
    rw [if_pos ⟨sh1, sh2⟩]
    congr 2
    clear sh2 hall
    induction L with
    | nil => rfl
    | cons y L ih =>
      rw [List.map_cons, List.any_cons, ih, eqv_lot, Bool.eq_iff_iff, Bool.or_eq_true, decide_eq_true_eq, decide_eq_true_eq, decide_eq_true_eq, List.mem_cons]
      exact ⟨fun h => h.elim (fun e => .inl e.symm) .inr, fun h => h.elim (fun e => .inl e.symm) .inr⟩
  exact nin_of hin
section
variable {w : Wd} (wok : w.Ok) (wn : w.n ≤ 5)
include wok wn
theorem orb_ne {k : Nat} {row : List Int} (h : row ∈ allT w.n.toNat k) : orb (goodT w w) row ≠ [] := fun e => by
  have := orb_self wok (rows_in wok h).2
  rw [e] at this
  cases this
theorem orbF_asc (k : Nat) : ((orbF w k).map (orb (goodT w w))).Pairwise fun a b => ltT 2 a b = true := by
  refine List.pairwise_map.mpr ?_
  have h := (allT_asc w.n.toNat k).filter (fun row => decide ((orb (goodT w w) row).head? = some row))
  refine List.Pairwise.imp_of_mem (fun {r s} hr hs hlt => ?_) h
  have h1 := of_decide_eq_true (List.mem_filter.mp hr).2
  have h2 := of_decide_eq_true (List.mem_filter.mp hs).2
  cases ho : orb (goodT w w) r with
  | nil => rw [ho] at h1; cases h1
  | cons a L =>
    cases hp : orb (goodT w w) s with
    | nil => rw [hp] at h2; cases h2
    | cons b M =>
      rw [ho, List.head?_cons, Option.some.injEq] at h1
      rw [hp, List.head?_cons, Option.some.injEq] at h2
      subst h1
      subst h2
      exact if_pos (show ltT 1 a b = true from hlt)
theorem orbF_mem {k : Nat} {x : List (List Int)} : x ∈ (orbF w k).map (orb (goodT w w)) ↔ ∃ row ∈ allT w.n.toNat k, x = orb (goodT w w) row := by
  constructor
  · intro h
    obtain ⟨row, hr, rfl⟩ := List.mem_map.mp h
    exact ⟨row, (List.mem_filter.mp hr).1, rfl⟩
  · rintro ⟨row, hr, rfl⟩
    obtain ⟨r1, r2⟩ := rows_in wok hr
    cases ho : orb (goodT w w) row with
    | nil => exact absurd ho (orb_ne wok wn hr)
    | cons a L =>
      have ha : a ∈ orb (goodT w w) row := by rw [ho]; exact List.mem_cons_self
      obtain ⟨a1, a2⟩ := orb_in wok ha r2
      obtain ⟨t, ht, e⟩ := orb_mem.mp ha
      have eo : orb (goodT w w) a = orb (goodT w w) row := by rw [e]; exact orb_led wok ht r2
      refine List.mem_map.mpr ⟨a, List.mem_filter.mpr ⟨allT_of (by omega) fun v hv => by have := a2 v hv; omega, ?_⟩, by rw [eo, ho]⟩
      rw [eo, ho, List.head?_cons, decide_eq_true rfl]
theorem sort_due {k : Nat} {L : LL} (nd : L.Nodup) (hm : ∀ x, x ∈ L ↔ ∃ row ∈ allT w.n.toNat k, x = orb (goodT w w) row) : isort (ltT 2) L = (orbF w k).map (orb (goodT w w)) := by
  have nf : ((orbF w k).map (orb (goodT w w))).Nodup := (orbF_asc wok wn k).imp fun {a b} hab e => by
    subst e
    rw [(swoT 2).1.refl] at hab
    cases hab
  refine (asc_uniq (swoT 2).2 ?_ ((orbF_asc wok wn k).imp fun {a b} hab => (swoT 2).1.asym _ _ hab) (isort_asc (swoT 2).1 L)).symm
  refine List.Perm.trans ?_ (isort_perm L).symm
  exact (List.perm_ext_iff_of_nodup nf nd).mpr fun x => (orbF_mem wok wn).trans (hm x).symm
theorem orbF_zero : (orbF w 0).map (orb (goodT w w)) = [[[]]] := by
  have hs : sortedKD (.list []) = some (.list []) := by kernel_rfl
  have h1 : isort (ltT 2) ([[[]]] : LL) = (orbF w 0).map (orb (goodT w w)) := sort_due wok wn (k := 0) (List.pairwise_singleton _ _) fun x => by
    have e : orb (goodT w w) [] = [[]] := by
      have nd := asc_nodup (orb_asc (goodT w w) [])
      refine List.perm_singleton.mp ((List.perm_ext_iff_of_nodup nd (List.pairwise_singleton _ _)).mpr fun t => ?_)
      rw [orb_mem, List.mem_singleton]
      constructor
      · rintro ⟨s, _, rfl⟩
        rfl
      · rintro rfl
        exact ⟨_, good_id wok, rfl⟩
    rw [List.mem_singleton]
    constructor
    · rintro rfl
      exact ⟨[], List.mem_singleton.mpr rfl, e.symm⟩
    · rintro ⟨row, hr, rfl⟩
      rw [List.mem_singleton.mp hr, e]
  rw [← h1]
  rfl
end
theorem law_true_k48 (ns : List Int) (h : ns.length ≤ 63) : m_law_k48W [.list (ns.map .int)] = some (.bool true) := by
  obtain ⟨cl0, hcell⟩ := cell_ok ns 0
  obtain ⟨rs, hdr, hlen, hr⟩ := draws_ok cl0 90 (by decide)
  obtain ⟨w, hw, wok, wn⟩ := world_ok rs (by omega) (by omega) hr 5 (by decide) (by decide)
  have lo := wok.lo
  have r70 := hr _ (TL.getD_mem (rs := rs) (i := 70) (by omega))
  obtain ⟨k, hk, hkv⟩ : ∃ k : Nat, k ≤ 2 ∧ rs.getD 70 0 % 3 = k := ⟨(rs.getD 70 0 % 3).toNat, by omega, by omega⟩
  let G := goodT w w
  let W0 := waysW false w w w.n.toNat
  have cg : ∀ row, orb W0 row = orb G row := fun row => orb_cg (fun t => emb_good wok wok rfl) row
  have wlen : W0.length ≤ 3125 := Nat.le_trans (waysW_len _ _ _ _) (pow5 (by omega) (by omega))
  have rl := row_le wok wn hk
  let E := fun (e3 e4 e5 e6 e7 : Option D) => [some (PyData.list (ns.map .int)), some (PyData.list (rs.map .int)), some w.d, e3, e4, e5, e6, e7, none, none]
  let K := some (PyData.int k)
  let N := some (PyData.list (W0.map tI))
  have htu : m__law_tuples [.int w.n, .int k] = some (.list ((allT w.n.toNat k).map tI)) := by
    have := tuples_ok (n := w.n.toNat) (k := k) (by omega) (by omega) fun j hj => Nat.le_trans (Nat.pow_le_pow_left (show w.n.toNat ≤ 5 by omega) j) (Nat.le_trans (Nat.pow_le_pow_right (by decide) (show j ≤ 2 by omega)) (by decide))
    rwa [show ((w.n.toNat : Nat) : Int) = w.n by omega] at this
  refine run_rt rfl (seq_go (e := [some (PyData.list (ns.map .int)), some (PyData.list (rs.map .int)), none, none, none, none, none, none, none, none]) (asg_go (call2_go (call2_go rfl rfl hcell) rfl hdr)) ?_)
  refine seq_go (e := E none none none none none) (asg_go (call2_go rfl rfl hw)) ?_
  refine seq_go (e := E K none none none none) (asg_go (e2_go (e2_go rfl rfl (ix_ints (i := 70) (by omega) (by omega))) rfl ((mod_n (by decide)).trans (congrArg (fun z => some (PyData.int z)) hkv)))) ?_
  refine seq_go (e := E K N none none none) (asg_go (call3_go rfl rfl rfl (ways_ok false wok wok fun a ha => pow85' (by omega) (by omega)))) ?_
  refine seq_go (e := E K N (some (.list [])) none none) (asg_go rfl) ?_
  refine seq_for_invP tI (fun done env => ∃ (L : LL) (e6 e7 : Option D), env = E K N (some (.list (L.map lotD))) e6 e7 ∧ L.Nodup ∧ (∀ x, x ∈ L ↔ ∃ row ∈ done, x = orb G row) ∧ L.length ≤ done.length) (allT w.n.toNat k) ?_ ⟨[], none, none, rfl, .nil, fun x => by simp, Nat.le_refl _⟩ ?_ ?_
  · simp only [iSeq]
    rw [call2_go (x := .int w.n) (y := .int k) (e2_go rfl rfl (wdn w)) rfl htu]
    rfl
  · rintro done row rest hd env ⟨L, e6, e7, rfl, nd, hm, hl⟩
    have hrow : row ∈ allT w.n.toNat k := by rw [hd]; exact List.mem_append_right _ List.mem_cons_self
    obtain ⟨r1, r2⟩ := rows_in wok hrow
    have dl : done.length ≤ 25 := by
      have h2 := congrArg List.length hd
      rw [allT_len, List.length_append] at h2
      omega
    let D5 := some (PyData.list (L.map lotD))
    have lot : eCall m__law_unlike_2 [(eLc [8] (iSeq (eVar 4)) (TL.gName 8) cYes (e1 tupleD (eLc [9] (iSeq (eVar 6)) (TL.gName 9) cYes (e2 ixD (eVar 8) (eVar 9)))))] (E K N D5 (some (tI row)) e7) = some (lotD (orb G row)) := by
      have un := unlike_tis (k := k) hk (ts := leds W0 row) (fun t ht => by
        obtain ⟨s, hs, rfl⟩ := List.mem_map.mp ht
        rw [List.length_map]
        exact r1) (by unfold leds; rw [List.length_map]; omega)
      refine call1_go (lc_go (ds := W0.map tI) rfl (lc_map tI tI (fun t => row.map (nmI t)) fun t ht => ⟨_, rfl, e1_go (lc_go (ds := row.map .int) rfl (lc_map PyData.int PyData.int (nmI t) fun x hx => ⟨_, rfl, e2_go rfl rfl (ix_tI (r2 x hx).1 (by have := r2 x hx; have := waysW_at ht; omega))⟩)) rfl⟩)) (un.trans ?_)
      show some (lotD (orb W0 row)) = _
      rw [cg]
    have c : tV (e2 ninD (eVar 7) (eVar 5)) (E K N D5 (some (tI row)) (some (lotD (orb G row)))) = some (!decide (orb G row ∈ L)) := tV_go (e2_go rfl rfl (nin_lot _ _))
    by_cases hx : orb G row ∈ L
    · rw [decide_eq_true hx] at c
      refine ⟨_, rfl, E K N D5 (some (tI row)) (some (lotD (orb G row))), .inl (seq_go (e := E K N D5 (some (tI row)) (some (lotD (orb G row)))) (asg_go lot) (if_f c rfl)), L, _, _, rfl, nd, fun x => ?_, by rw [List.length_append]; omega⟩
      rw [hm x]
      constructor
      · rintro ⟨r, hr, e⟩
        exact ⟨r, List.mem_append_left _ hr, e⟩
      · rintro ⟨r, hr, e⟩
        rcases List.mem_append.mp hr with hr | hr
        · exact ⟨r, hr, e⟩
        · rw [List.mem_singleton.mp hr] at e
          rw [e]
          exact (hm _).mp hx
    · rw [decide_eq_false hx] at c
      refine ⟨_, rfl, E K N (some (.list ((L ++ [orb G row]).map lotD))) (some (tI row)) (some (lotD (orb G row))), .inl (seq_go (e := E K N D5 (some (tI row)) (some (lotD (orb G row)))) (asg_go lot) (if_t c ((app_go' rfl rfl (by rw [List.length_map]; omega)).trans (by rw [List.map_append]; rfl)))), L ++ [orb G row], _, _, rfl, ?_, fun x => ?_, by rw [List.length_append, List.length_append, List.length_singleton, List.length_singleton]; omega⟩
      · exact List.nodup_append.mpr ⟨nd, List.pairwise_singleton _ _, fun a ha b hb e => by
          rw [List.mem_singleton.mp hb] at e
          exact hx (e ▸ ha)⟩
      · rw [List.mem_append, hm x, List.mem_singleton]
        constructor
        · rintro (⟨r, hr, e⟩ | e)
          · exact ⟨r, List.mem_append_left _ hr, e⟩
          · exact ⟨row, List.mem_append_right _ List.mem_cons_self, e⟩
        · rintro ⟨r, hr, e⟩
          rcases List.mem_append.mp hr with hr | hr
          · exact .inl ⟨r, hr, e⟩
          · rw [List.mem_singleton.mp hr] at e
            exact .inr e
  · rintro _ ⟨L, e6, e7, rfl, nd, hm, hl⟩
    rw [allT_len] at hl
    have id0 : List.replicate k (0 : Int) ∈ allT w.n.toNat k := allT_of (List.length_replicate ..) fun v hv => by
      rw [(List.mem_replicate.mp hv).2]
      omega
    have hne : L ≠ [] := fun e => by
      have := (hm (orb G (List.replicate k 0))).mpr ⟨_, id0, rfl⟩
      rw [e] at this
      cases this
    have hL : ∀ l ∈ L, l ≠ [] := fun l hl => by
      obtain ⟨row, hr, rfl⟩ := (hm l).mp hl
      exact orb_ne wok wn hr
    have hs := (sort_lots48 hL hne).trans (by rw [sort_due wok wn nd hm])
    have len1 : ((orbF w k).map (orb G)).length ≤ 25 := by
      rw [← sort_due wok wn nd hm]
      exact Nat.le_trans (Nat.le_of_eq (isort_perm (lt := ltT 2) L).length_eq) (Nat.le_trans hl rl)
    have tr := lots_tr (L := (orbF w k).map (orb G)) (by omega) fun l hl => by
      obtain ⟨row, hr, rfl⟩ := (orbF_mem wok wn).mp hl
      have := orb_len wok hr
      exact ⟨by omega, fun t ht => by have := (orb_in wok ht (rows_in wok hr).2).1; have := (rows_in wok hr).1; omega⟩
    refine ret_go ((and_go (call2_go (call2_go rfl rfl (orbits_ok wok wn hk)) (e1_go rfl hs) (equal_refl tr (by decide))) fun _ => call2_go (call2_go rfl rfl ((orbits_ok wok wn (k := 0) (by decide)).trans (by rw [orbF_zero wok wn]))) rfl ?_).trans rfl)
    kernel_rfl
end LB

set_option Elab.async false
set_option linter.all false
set_option maxRecDepth 100000
set_option maxHeartbeats 4000000
namespace K48
open PySem PySem.Spec PyProof.Rows L2 TL
def topS (i : Nat) : Stmt := PySem.Challenge.pw_backforth_k48_orbits_listed.main.body.getD i (.Pass ⟨0, 0, 0, 0⟩)
structure Top (K : PySem.W.Frag) (mg : Str → Option Value) (w : World) (base : Heap) where
  f_tuples_of : Addr
  fd_tuples_of : FuncData
  F_tuples_of : Fun K "tuples_of" "tuples_of" (topS 1) f_tuples_of fd_tuples_of
  g_tuples_of : mg "tuples_of" = some (.ref f_tuples_of)
  b_tuples_of : Binds K fd_tuples_of ["n", "size"] []
  f_goes : Addr
  fd_goes : FuncData
  F_goes : Fun K "goes" "goes" (topS 3) f_goes fd_goes
  g_goes : mg "goes" = some (.ref f_goes)
  b_goes : Binds K fd_goes ["one", "two", "first", "last"] []
  f_likenesses : Addr
  fd_likenesses : FuncData
  F_likenesses : Fun K "likenesses" "likenesses" (topS 5) f_likenesses fd_likenesses
  g_likenesses : mg "likenesses" = some (.ref f_likenesses)
  b_likenesses : Binds K fd_likenesses ["one", "two", "begun"] []
  f_turnings : Addr
  fd_turnings : FuncData
  F_turnings : Fun K "turnings" "turnings" (topS 6) f_turnings fd_turnings
  g_turnings : mg "turnings" = some (.ref f_turnings)
  b_turnings : Binds K fd_turnings ["world"] []
  f_led : Addr
  fd_led : FuncData
  F_led : Fun K "led" "led" (topS 7) f_led fd_led
  g_led : mg "led" = some (.ref f_led)
  b_led : Binds K fd_led ["names", "items"] []
  f_orbits : Addr
  fd_orbits : FuncData
  F_orbits : Fun K "orbits" "orbits" (topS 8) f_orbits fd_orbits
  g_orbits : mg "orbits" = some (.ref f_orbits)
  b_orbits : Binds K fd_orbits ["world", "size"] []
  f__law_cell : Addr
  fd__law_cell : FuncData
  F__law_cell : Fun K "_law_cell" "_law_cell" (topS 10) f__law_cell fd__law_cell
  g__law_cell : mg "_law_cell" = some (.ref f__law_cell)
  b__law_cell : Binds K fd__law_cell ["script", "k"] []
  f__law_draws : Addr
  fd__law_draws : FuncData
  F__law_draws : Fun K "_law_draws" "_law_draws" (topS 11) f__law_draws fd__law_draws
  g__law_draws : mg "_law_draws" = some (.ref f__law_draws)
  b__law_draws : Binds K fd__law_draws ["cell", "amount"] []
  f__law_kind : Addr
  fd__law_kind : FuncData
  F__law_kind : Fun K "_law_kind" "_law_kind" (topS 12) f__law_kind fd__law_kind
  g__law_kind : mg "_law_kind" = some (.ref f__law_kind)
  b__law_kind : Binds K fd__law_kind ["x"] []
  f__law_equal : Addr
  fd__law_equal : FuncData
  F__law_equal : Fun K "_law_equal" "_law_equal" (topS 13) f__law_equal fd__law_equal
  g__law_equal : mg "_law_equal" = some (.ref f__law_equal)
  b__law_equal : Binds K fd__law_equal ["x", "due"] []
  f__law_line : Addr
  fd__law_line : FuncData
  F__law_line : Fun K "_law_line" "_law_line" (topS 14) f__law_line fd__law_line
  g__law_line : mg "_law_line" = some (.ref f__law_line)
  b__law_line : Binds K fd__law_line ["n"] []
  f__law_ring : Addr
  fd__law_ring : FuncData
  F__law_ring : Fun K "_law_ring" "_law_ring" (topS 15) f__law_ring fd__law_ring
  g__law_ring : mg "_law_ring" = some (.ref f__law_ring)
  b__law_ring : Binds K fd__law_ring ["n"] []
  f__law_both_ways : Addr
  fd__law_both_ways : FuncData
  F__law_both_ways : Fun K "_law_both_ways" "_law_both_ways" (topS 16) f__law_both_ways fd__law_both_ways
  g__law_both_ways : mg "_law_both_ways" = some (.ref f__law_both_ways)
  b__law_both_ways : Binds K fd__law_both_ways ["n", "edges"] []
  f__law_special : Addr
  fd__law_special : FuncData
  F__law_special : Fun K "_law_special" "_law_special" (topS 17) f__law_special fd__law_special
  g__law_special : mg "_law_special" = some (.ref f__law_special)
  b__law_special : Binds K fd__law_special ["number"] []
  f__law_world : Addr
  fd__law_world : FuncData
  F__law_world : Fun K "_law_world" "_law_world" (topS 18) f__law_world fd__law_world
  g__law_world : mg "_law_world" = some (.ref f__law_world)
  b__law_world : Binds K fd__law_world ["draws", "most"] []
  f__law_tuples : Addr
  fd__law_tuples : FuncData
  F__law_tuples : Fun K "_law_tuples" "_law_tuples" (topS 19) f__law_tuples fd__law_tuples
  g__law_tuples : mg "_law_tuples" = some (.ref f__law_tuples)
  b__law_tuples : Binds K fd__law_tuples ["n", "size"] []
  f__law_unlike : Addr
  fd__law_unlike : FuncData
  F__law_unlike : Fun K "_law_unlike" "_law_unlike" (topS 20) f__law_unlike fd__law_unlike
  g__law_unlike : mg "_law_unlike" = some (.ref f__law_unlike)
  b__law_unlike : Binds K fd__law_unlike ["items"] []
  f__law_fit : Addr
  fd__law_fit : FuncData
  F__law_fit : Fun K "_law_fit" "_law_fit" (topS 21) f__law_fit fd__law_fit
  g__law_fit : mg "_law_fit" = some (.ref f__law_fit)
  b__law_fit : Binds K fd__law_fit ["one", "two", "x", "y"] []
  f__law_carry : Addr
  fd__law_carry : FuncData
  F__law_carry : Fun K "_law_carry" "_law_carry" (topS 22) f__law_carry fd__law_carry
  g__law_carry : mg "_law_carry" = some (.ref f__law_carry)
  b__law_carry : Binds K fd__law_carry ["one", "two", "x", "y"] []
  f__law_goes : Addr
  fd__law_goes : FuncData
  F__law_goes : Fun K "_law_goes" "_law_goes" (topS 23) f__law_goes fd__law_goes
  g__law_goes : mg "_law_goes" = some (.ref f__law_goes)
  b__law_goes : Binds K fd__law_goes ["one", "two", "pairs", "way"] []
  f__law_ways : Addr
  fd__law_ways : FuncData
  F__law_ways : Fun K "_law_ways" "_law_ways" (topS 24) f__law_ways fd__law_ways
  g__law_ways : mg "_law_ways" = some (.ref f__law_ways)
  b__law_ways : Binds K fd__law_ways ["one", "two", "way"] []
  f_law : Addr
  fd_law : FuncData
  F_law : Fun K "law" "law" (topS 25) f_law fd_law
  g_law : mg "law" = some (.ref f_law)
  b_law : Binds K fd_law ["script"] []
  z_all : mg "all" = none
  z_any : mg "any" = none
  z_bool : mg "bool" = none
  z_can_go : mg "can_go" = none
  z_dense_truth : mg "dense_truth" = none
  z_dict : mg "dict" = none
  z_int : mg "int" = none
  z_isinstance : mg "isinstance" = none
  z_len : mg "len" = none
  z_line_truth : mg "line_truth" = none
  z_list : mg "list" = none
  z_range : mg "range" = none
  z_set : mg "set" = none
  z_sorted : mg "sorted" = none
  z_steps_truth : mg "steps_truth" = none
  z_str : mg "str" = none
  z_truth : mg "truth" = none
  z_truth_almost : mg "truth_almost" = none
  z_truth_truth : mg "truth_truth" = none
  z_tuple : mg "tuple" = none
end K48

set_option Elab.async false
set_option linter.all false
set_option maxRecDepth 100000
set_option maxHeartbeats 4000000
namespace K48
open PySem PySem.Spec PyProof.Rows L2 TL
section
variable {P : Program} {w : World} {K : PySem.W.Frag} {mg : Str → Option Value} {base : Heap}
abbrev s_tuples_of : Stmt := topS 1
theorem sc_tuples_of : FnScope ["n", "size", "found", "_", "row", "item"] ["n", "size"] (defScope s_tuples_of) := ⟨rfl, rfl, rfl, by decide +kernel, rfl, by decide +kernel, by decide +kernel⟩
theorem ok_tuples_of (T : Top K mg w base) : FnOk P w K mg base CX0 1 T.f_tuples_of T.fd_tuples_of ["n", "size"] (spV ⟨K, mg, P, w⟩ 2 LB.m_tuples_of) :=
  fnV (G := ⟨K, mg, P, w⟩) T.F_tuples_of sc_tuples_of rfl (Oe := []) fun cdv A outer s H E hr =>
    (bc (sset 2 sc_tuples_of.nd (nv (elst (ac (etup an) an))))
      (bc (sfor (O := []) PassesOwn.never rfl (irng1 rfl T.z_range (ev 1)) (gn 3 sc_tuples_of.nd)
      (bo (sless (O' := [2]) (O'' := []) (ssetLN2 (own := [("row", 4), ("item", 5)]) (vs1 := [5]) 2 rfl sc_tuples_of.nd (sw_true rfl rfl rfl (by decide +kernel)) (iseqB (eb 2)) (blkOk_by (by kernel_rfl)) (by decide) (fun _ _ _ _ _ => (gn 4 sc_tuples_of.nd)) (fun _ _ _ _ _ => pyes) (fun _ _ _ _ _ => (irng1 rfl T.z_range (ev 0))) (fun _ _ _ _ _ => (gn 5 sc_tuples_of.nd)) (fun _ _ _ _ _ => pyes) (fun _ _ _ _ _ => (eo o_add (eb 4) (vb (etup (ac (ev 5) an)))))))))
      (bo (sret (ev 2)))))
abbrev s_goes : Stmt := topS 3
theorem sc_goes : FnScope ["one", "two", "first", "last", "a", "b", "c", "d", "i"] ["one", "two", "first", "last"] (defScope s_goes) := ⟨rfl, rfl, rfl, by decide +kernel, rfl, by decide +kernel, by decide +kernel⟩
theorem ok_goes (T : Top K mg w base) : FnOk P w K mg base CX0 1 T.f_goes T.fd_goes ["one", "two", "first", "last"] (spV ⟨K, mg, P, w⟩ 4 LB.m_goes) :=
  fnV (G := ⟨K, mg, P, w⟩) T.F_goes sc_goes rfl (Oe := []) fun cdv A outer s H E hr =>
    (bc (sasg (ev 2) (gt rfl (gsc (gn 4 sc_goes.nd) (gsc (gn 5 sc_goes.nd) gsn))))
      (bc (sasg (ev 3) (gt rfl (gsc (gn 6 sc_goes.nd) (gsc (gn 7 sc_goes.nd) gsn))))
      (bc (sif (O' := []) (tc (o_ne (u64 hr)) (vb (ec (o_eq (u64 hr)) (eb 4) (eb 6))) (vb (ec (o_eq (u64 hr)) (eb 5) (eb 7))))
      (bo (sret ebl))
      bn)
      (bc (sif (O' := []) (tv (eB (c_any rfl) rfl T.z_any (by decide +kernel) (nb (elc (own := [("i", 8)]) rfl sc_goes.nd (iseqB (vb (etup (ac ei (ac ei an))))) (blkOk_by (by kernel_rfl)) (fun _ _ _ _ _ => (gn 8 sc_goes.nd)) (fun _ _ _ _ _ => pyes) (fun _ _ _ _ _ => (ec (o_ne (u64 hr)) (vb (ec (o_in (u65 hr)) (eb 4) (vb (eix (vb (eix (eb 0) (vb ei))) (eb 8))))) (vb (ec (o_in (u65 hr)) (eb 5) (vb (eix (vb (eix (eb 1) (vb ei))) (eb 8)))))))))))
      (bo (sret ebl))
      bn)
      (bo (sret (eand (ec (o_eq (u64 hr)) (vb (ec (o_in (u65 hr)) (vb (etup (ac (ev 4) (ac (ev 6) an)))) (vb (eix (eb 0) (vb ei))))) (vb (ec (o_in (u65 hr)) (vb (etup (ac (ev 5) (ac (ev 7) an)))) (vb (eix (eb 1) (vb ei)))))) (eone (ec (o_eq (u64 hr)) (vb (ec (o_in (u65 hr)) (vb (etup (ac (ev 6) (ac (ev 4) an)))) (vb (eix (eb 0) (vb ei))))) (vb (ec (o_in (u65 hr)) (vb (etup (ac (ev 7) (ac (ev 5) an)))) (vb (eix (eb 1) (vb ei))))))))))))))
abbrev s_likenesses : Stmt := topS 5
theorem sc_likenesses : FnScope ["one", "two", "begun", "at", "found", "name", "pairs", "k", "pair"] ["one", "two", "begun"] (defScope s_likenesses) := ⟨rfl, rfl, rfl, by decide +kernel, rfl, by decide +kernel, by decide +kernel⟩
theorem ok_likenesses (T : Top K mg w base) : ∀ n, FnOk P w K mg base CX0 (n + 1) T.f_likenesses T.fd_likenesses ["one", "two", "begun"] (spN ⟨K, mg, P, w⟩ 3 (LB.m_likenesses_2 n))
  | 0 => fnNever fun vs H Q E h => by obtain ⟨_, _, _, _, _, _, h, _⟩ := h; cases h
  | n + 1 => by
    have ih := ok_likenesses T n
    exact fnN (G := ⟨K, mg, P, w⟩) T.F_likenesses sc_likenesses rfl (Oe := []) fun cdv A outer s H E hr =>
    (bc (sset 3 sc_likenesses.nd (eB c_len rfl T.z_len (by decide +kernel) (eb 2)))
      (bc (sif (O' := []) (tc (o_eq (u64 hr)) (eb 3) (vb (eix (eb 0) (vb ei))))
      (bo (sretN (elst (ac (ev 2) an))))
      bn)
      (bc (ssetN 4 sc_likenesses.nd (elst an))
      (bc (sfor (O := [4]) PassesOwn.never rfl (irng1 rfl T.z_range (eix (eb 1) (vb ei))) (gn 5 sc_likenesses.nd)
      (bc (sset 6 sc_likenesses.nd (eo o_add (nb (elc (own := [("k", 7)]) rfl sc_likenesses.nd (iv_b (irng1 rfl T.z_range (ev 3))) (blkOk_by (by kernel_rfl)) (fun _ _ _ _ _ => (gn 7 sc_likenesses.nd)) (fun _ _ _ _ _ => pyes) (fun _ _ _ _ _ => (etup (ac (ev 7) (ac (eix (eb 2) (eb 7)) an)))))) (nb (elst (ac (etup (ac (ev 3) (ac (ev 5) an))) an)))))
      (bo (sif (O' := [4]) (tv (eB (c_all rfl) rfl T.z_all (by decide +kernel) (nb (elc (own := [("pair", 8)]) rfl sc_likenesses.nd (iseqB (eb 6)) (blkOk_by (by kernel_rfl)) (fun _ _ _ _ _ => (gn 8 sc_likenesses.nd)) (fun _ _ _ _ _ => pyes) (fun _ _ _ _ _ => (ecall (ok_goes T) (hr.mono (by omega)) rfl T.g_goes T.F_goes.kp T.b_goes (ac (ev 0) (ac (ev 1) (ac (etup (ac (ev 3) (ac (ev 5) an))) (ac (ev 8) an))))))))))
      (bo (sext 4 (ecallN ih (hr.mono (by omega)) rfl T.g_likenesses T.F_likenesses.kp T.b_likenesses (ac (ev 0) (ac (ev 1) (ac (eo o_add (eb 2) (vb (etup (ac (ev 5) an)))) an))))))
      bn))))
      (bo (sretO 4))))))
abbrev s_turnings : Stmt := topS 6
theorem sc_turnings : FnScope ["world"] ["world"] (defScope s_turnings) := ⟨rfl, rfl, rfl, by decide +kernel, rfl, by decide +kernel, by decide +kernel⟩
theorem ok_turnings (T : Top K mg w base) : FnOk P w K mg base CX0 62 T.f_turnings T.fd_turnings ["world"] (spV ⟨K, mg, P, w⟩ 1 LB.m_turnings_2) :=
  fnV (G := ⟨K, mg, P, w⟩) T.F_turnings sc_turnings rfl (Oe := []) fun cdv A outer s H E hr =>
    (bo (sret (nv (ecallN (ok_likenesses T 60) (hr.mono (by omega)) rfl T.g_likenesses T.F_likenesses.kp T.b_likenesses (ac (ev 0) (ac (ev 0) (ac (etup an) an)))))))
abbrev s_led : Stmt := topS 7
theorem sc_led : FnScope ["names", "items", "item"] ["names", "items"] (defScope s_led) := ⟨rfl, rfl, rfl, by decide +kernel, rfl, by decide +kernel, by decide +kernel⟩
theorem ok_led (T : Top K mg w base) : FnOk P w K mg base CX0 1 T.f_led T.fd_led ["names", "items"] (spV ⟨K, mg, P, w⟩ 2 LB.m_led) :=
  fnV (G := ⟨K, mg, P, w⟩) T.F_led sc_led rfl (Oe := []) fun cdv A outer s H E hr =>
    (bo (sret (eT c_tuple rfl T.z_tuple (by decide +kernel) (nb (elc (own := [("item", 2)]) rfl sc_led.nd (iseqB (eb 1)) (blkOk_by (by kernel_rfl)) (fun _ _ _ _ _ => (gn 2 sc_led.nd)) (fun _ _ _ _ _ => pyes) (fun _ _ _ _ _ => (eix (eb 0) (eb 2))))))))
abbrev s_orbits : Stmt := topS 8
theorem sc_orbits : FnScope ["world", "size", "rows", "found", "items", "lot", "names"] ["world", "size"] (defScope s_orbits) := ⟨rfl, rfl, rfl, by decide +kernel, rfl, by decide +kernel, by decide +kernel⟩
theorem ok_orbits (T : Top K mg w base) : FnOk P w K mg base CX0 63 T.f_orbits T.fd_orbits ["world", "size"] (spV ⟨K, mg, P, w⟩ 2 LB.m_orbits_2W) :=
  fnV (G := ⟨K, mg, P, w⟩) T.F_orbits sc_orbits rfl (Oe := []) fun cdv A outer s H E hr =>
    (bc (sset 2 sc_orbits.nd (ecall (ok_turnings T) (hr.mono (by omega)) rfl T.g_turnings T.F_turnings.kp T.b_turnings (ac (ev 0) an)))
      (bc (ssetN 3 sc_orbits.nd (elst an))
      (bc (sfor (O := [3]) PassesOwn.never rfl (iseq (ecall (ok_tuples_of T) (hr.mono (by omega)) rfl T.g_tuples_of T.F_tuples_of.kp T.b_tuples_of (ac (eix (eb 0) (vb ei)) (ac (ev 1) an)))) (gn 4 sc_orbits.nd)
      (bc (sset 5 sc_orbits.nd (eT c_tuple rfl T.z_tuple (by decide +kernel) (nb (esortsetM (u64 hr) rfl rfl T.z_sorted rfl T.z_set (nv (elc (own := [("names", 6)]) rfl sc_orbits.nd (iseqB (eb 2)) (blkOk_by (by kernel_rfl)) (fun _ _ _ _ _ => (gn 6 sc_orbits.nd)) (fun _ _ _ _ _ => pyes) (fun _ _ _ _ _ => (ecall (ok_led T) (hr.mono (by omega)) rfl T.g_led T.F_led.kp T.b_led (ac (ev 6) (ac (ev 4) an))))))))))
      (bo (sif (O' := [3]) (tc (o_eq (u64 hr)) (vb (eix (eb 5) (vb ei))) (eb 4))
      (bo (sapp 3 (ev 5)))
      bn))))
      (bo (spre (O' := []) (sret (ev 3)))))))
abbrev s__law_cell : Stmt := topS 10
theorem sc__law_cell : FnScope ["script", "k"] ["script", "k"] (defScope s__law_cell) := ⟨rfl, rfl, rfl, by decide +kernel, rfl, by decide +kernel, by decide +kernel⟩
theorem ok__law_cell (T : Top K mg w base) : FnOk P w K mg base CX0 1 T.f__law_cell T.fd__law_cell ["script", "k"] (spV ⟨K, mg, P, w⟩ 2 LB.m__law_cell) :=
  fnV (G := ⟨K, mg, P, w⟩) T.F__law_cell sc__law_cell rfl (Oe := []) fun cdv A outer s H E hr =>
    (bc (sif (O' := []) (tc (o_lt (u0 hr)) (eb 1) (vb (eB c_len rfl T.z_len (by decide +kernel) (eb 0))))
      (bo (sret (eix (eb 0) (eb 1))))
      bn)
      (bo (sret ei)))
abbrev s__law_draws : Stmt := topS 11
theorem sc__law_draws : FnScope ["cell", "amount", "rows", "left", "k", "blended"] ["cell", "amount"] (defScope s__law_draws) := ⟨rfl, rfl, rfl, by decide +kernel, rfl, by decide +kernel, by decide +kernel⟩
theorem ok__law_draws (T : Top K mg w base) : FnOk P w K mg base CX0 1 T.f__law_draws T.fd__law_draws ["cell", "amount"] (spV ⟨K, mg, P, w⟩ 2 LB.m__law_draws) :=
  fnV (G := ⟨K, mg, P, w⟩) T.F__law_draws sc__law_draws rfl (Oe := []) fun cdv A outer s H E hr =>
    (bc (ssetN 2 sc__law_draws.nd (elst an))
      (bc (sset 3 sc__law_draws.nd (ev 0))
      (bc (sfor (O := [2]) PassesOwn.never rfl (irng1 rfl T.z_range (ev 1)) (gn 4 sc__law_draws.nd)
      (bo (sif (O' := [2]) (tw (tand (tc (o_ge (u0 hr)) (eb 0) (vb (eo o_pow (vb ei) (vb ei)))) (tone1 (tc (o_gt (u0 hr)) (eb 3) (vb ei)))))
      (bc (sapp 2 (eo o_mod (vb (eT c_int rfl T.z_int (by decide +kernel) (eb 3))) (vb ei)))
      (bo (sset 3 sc__law_draws.nd (eo o_fdiv (eb 3) (vb ei)))))
      (bc (sset 5 sc__law_draws.nd (eo o_mod (vb (eT c_int rfl T.z_int (by decide +kernel) (vb (eo o_add (vb (eo o_mul (eb 0) (vb ei))) (vb (eo o_mul (vb (eo o_add (eb 4) (vb ei))) (vb ei))))))) (vb ei)))
      (bc (sset 5 sc__law_draws.nd (eo o_mod (vb (eT c_int rfl T.z_int (by decide +kernel) (vb (eo o_add (vb (eo o_add (vb (eo o_mul (eb 5) (eb 5))) (vb (eo o_mul (eb 5) (vb ei))))) (vb (eo o_mul (eb 4) (vb ei))))))) (vb ei)))
      (bc (sset 5 sc__law_draws.nd (eo o_mod (vb (eT c_int rfl T.z_int (by decide +kernel) (vb (eo o_add (vb (eo o_add (vb (eo o_mul (eb 5) (eb 5))) (eb 0))) (vb (eo o_mul (vb ei) (eb 4))))))) (vb ei)))
      (bo (sapp 2 (eo o_mod (vb (eo o_fdiv (eb 5) (vb ei))) (vb ei))))))))))
      (bo (spre (O' := []) (sret (ev 2)))))))
abbrev s__law_kind : Stmt := topS 12
theorem sc__law_kind : FnScope ["x"] ["x"] (defScope s__law_kind) := ⟨rfl, rfl, rfl, by decide +kernel, rfl, by decide +kernel, by decide +kernel⟩
theorem ok__law_kind (T : Top K mg w base) : FnOk P w K mg base CX0 1 T.f__law_kind T.fd__law_kind ["x"] (spV ⟨K, mg, P, w⟩ 1 LB.m__law_kind) :=
  fnV (G := ⟨K, mg, P, w⟩) T.F__law_kind sc__law_kind rfl (Oe := []) fun cdv A outer s H E hr =>
    (bc (sif (O' := []) (tv (eisi .bool rfl T.z_isinstance rfl T.z_bool (by decide +kernel) (eb 0)))
      (bo (sret ei))
      bn)
      (bc (sif (O' := []) (tv (eisi .int rfl T.z_isinstance rfl T.z_int (by decide +kernel) (eb 0)))
      (bo (sret ei))
      bn)
      (bc (sif (O' := []) (tv (eisi .str rfl T.z_isinstance rfl T.z_str (by decide +kernel) (eb 0)))
      (bo (sret ei))
      bn)
      (bc (sif (O' := []) (tv (eisi .tuple rfl T.z_isinstance rfl T.z_tuple (by decide +kernel) (eb 0)))
      (bo (sret ei))
      bn)
      (bc (sif (O' := []) (tv (eisi .list rfl T.z_isinstance rfl T.z_list (by decide +kernel) (eb 0)))
      (bo (sret ei))
      bn)
      (bc (sif (O' := []) (tv (eisi .dict rfl T.z_isinstance rfl T.z_dict (by decide +kernel) (eb 0)))
      (bo (sret ei))
      bn)
      (bo (sret ei))))))))
abbrev s__law_equal : Stmt := topS 13
theorem sc__law_equal : FnScope ["x", "due", "key", "k", "other"] ["x", "due"] (defScope s__law_equal) := ⟨rfl, rfl, rfl, by decide +kernel, rfl, by decide +kernel, by decide +kernel⟩
theorem ok__law_equal (T : Top K mg w base) : ∀ n, FnOk P w K mg base CX0 (n + 1) T.f__law_equal T.fd__law_equal ["x", "due"] (spV ⟨K, mg, P, w⟩ 2 (LB.m__law_equal n))
  | 0 => fnNever fun vs H Q E h => by obtain ⟨_, _, _, _, _, _, h, _⟩ := h; cases h
  | n + 1 => by
    have ih := ok__law_equal T n
    exact fnV (G := ⟨K, mg, P, w⟩) T.F__law_equal sc__law_equal rfl (Oe := []) fun cdv A outer s H E hr =>
    (bc (sif (O' := []) (tc (o_ne (u64 hr)) (vb (ecall (ok__law_kind T) (hr.mono (by omega)) rfl T.g__law_kind T.F__law_kind.kp T.b__law_kind (ac (ev 0) an))) (vb (ecall (ok__law_kind T) (hr.mono (by omega)) rfl T.g__law_kind T.F__law_kind.kp T.b__law_kind (ac (ev 1) an))))
      (bo (sret ebl))
      bn)
      (bc (sif (O' := []) (tw (tor (tv (eisi .tuple rfl T.z_isinstance rfl T.z_tuple (by decide +kernel) (eb 1))) (tone2 (tv (eisi .list rfl T.z_isinstance rfl T.z_list (by decide +kernel) (eb 1))))))
      (bc (sif (O' := []) (tc (o_ne (u64 hr)) (vb (eB c_len rfl T.z_len (by decide +kernel) (eb 0))) (vb (eB c_len rfl T.z_len (by decide +kernel) (eb 1))))
      (bo (sret ebl))
      bn)
      (bo (sret (ec (o_eq (u64 hr)) (vb (eB c_len rfl T.z_len (by decide +kernel) (nb (elc (own := [("k", 3)]) rfl sc__law_equal.nd (iv_b (irng1 rfl T.z_range (eB c_len rfl T.z_len (by decide +kernel) (eb 1)))) (blkOk_by (by kernel_rfl)) (fun _ _ _ _ _ => (gn 3 sc__law_equal.nd)) (fun _ _ _ _ _ => (pone (tnot (tv (ecall ih (hr.mono (by omega)) rfl T.g__law_equal T.F__law_equal.kp T.b__law_equal (ac (eix (eb 0) (eb 3)) (ac (eix (eb 1) (eb 3)) an))))))) (fun _ _ _ _ _ => (ev 3)))))) (vb ei)))))
      bn)
      (bc (sif (O' := []) (tv (eisi .dict rfl T.z_isinstance rfl T.z_dict (by decide +kernel) (eb 1)))
      (bc (sif (O' := []) (tc (o_ne (u64 hr)) (vb (eB c_len rfl T.z_len (by decide +kernel) (eb 0))) (vb (eB c_len rfl T.z_len (by decide +kernel) (eb 1))))
      (bo (sret ebl))
      bn)
      (bc (sfor (O := []) PassesOwn.never rfl (iseq (ev 0)) (gn 2 sc__law_equal.nd)
      (bc (sif (O' := []) (tw (tor (tc (o_nin (u65 hr)) (eb 2) (eb 1)) (tone2 (tnot (tv (ecall ih (hr.mono (by omega)) rfl T.g__law_equal T.F__law_equal.kp T.b__law_equal (ac (eix (eb 0) (eb 2)) (ac (eix (eb 1) (eb 2)) an))))))))
      (bo (sret ebl))
      bn)
      (bo (sif (O' := []) (tc (o_eq (u64 hr)) (vb (eB c_len rfl T.z_len (by decide +kernel) (nb (elc (own := [("other", 4)]) rfl sc__law_equal.nd (iseqB (eb 1)) (blkOk_by (by kernel_rfl)) (fun _ _ _ _ _ => (gn 4 sc__law_equal.nd)) (fun _ _ _ _ _ => (pone (tw (tand (tc (o_eq (u64 hr)) (eb 4) (eb 2)) (tone1 (tv (ecall ih (hr.mono (by omega)) rfl T.g__law_equal T.F__law_equal.kp T.b__law_equal (ac (ev 2) (ac (ev 4) an))))))))) (fun _ _ _ _ _ => (ev 4)))))) (vb ei))
      (bo (sret ebl))
      bn))))
      (bo (sret ebl))))
      bn)
      (bo (sret (ec (o_eq (u64 hr)) (eb 0) (eb 1)))))))
abbrev s__law_line : Stmt := topS 14
theorem sc__law_line : FnScope ["n", "pairs", "a", "b"] ["n"] (defScope s__law_line) := ⟨rfl, rfl, rfl, by decide +kernel, rfl, by decide +kernel, by decide +kernel⟩
theorem ok__law_line (T : Top K mg w base) : FnOk P w K mg base CX0 1 T.f__law_line T.fd__law_line ["n"] (spV ⟨K, mg, P, w⟩ 1 LB.m__law_line) :=
  fnV (G := ⟨K, mg, P, w⟩) T.F__law_line sc__law_line rfl (Oe := []) fun cdv A outer s H E hr =>
    (bc (sset 1 sc__law_line.nd (etup an))
      (bc (sfor (O := []) PassesOwn.never rfl (irng1 rfl T.z_range (ev 0)) (gn 2 sc__law_line.nd)
      (bo (sset 1 sc__law_line.nd (eo o_add (eb 1) (vb (eT c_tuple rfl T.z_tuple (by decide +kernel) (nb (elc (own := [("b", 3)]) rfl sc__law_line.nd (iv_b (irng2 rfl T.z_range (eo o_add (eb 2) (vb ei)) (ev 0))) (blkOk_by (by kernel_rfl)) (fun _ _ _ _ _ => (gn 3 sc__law_line.nd)) (fun _ _ _ _ _ => pyes) (fun _ _ _ _ _ => (etup (ac (ev 2) (ac (ev 3) an))))))))))))
      (bo (sret (etup (ac (ev 0) (ac (etup (ac (etup an) (ac (etup an) an))) (ac (ev 1) an))))))))
abbrev s__law_ring : Stmt := topS 15
theorem sc__law_ring : FnScope ["n", "a"] ["n"] (defScope s__law_ring) := ⟨rfl, rfl, rfl, by decide +kernel, rfl, by decide +kernel, by decide +kernel⟩
theorem ok__law_ring (T : Top K mg w base) : FnOk P w K mg base CX0 1 T.f__law_ring T.fd__law_ring ["n"] (spV ⟨K, mg, P, w⟩ 1 LB.m__law_ring) :=
  fnV (G := ⟨K, mg, P, w⟩) T.F__law_ring sc__law_ring rfl (Oe := []) fun cdv A outer s H E hr =>
    (bo (sret (etup (ac (ev 0) (ac (etup (ac (etup an) (ac (etup an) an))) (ac (eT c_tuple rfl T.z_tuple (by decide +kernel) (nb (eBN c_sorted rfl T.z_sorted (by decide +kernel) (nb (elc (own := [("a", 1)]) rfl sc__law_ring.nd (iv_b (irng1 rfl T.z_range (ev 0))) (blkOk_by (by kernel_rfl)) (fun _ _ _ _ _ => (gn 1 sc__law_ring.nd)) (fun _ _ _ _ _ => pyes) (fun _ _ _ _ _ => (etup (ac (ev 1) (ac (eo o_mod (vb (eo o_add (eb 1) (vb ei))) (eb 0)) an))))))))) an))))))
abbrev s__law_both_ways : Stmt := topS 16
theorem sc__law_both_ways : FnScope ["n", "edges", "pair", "a", "b"] ["n", "edges"] (defScope s__law_both_ways) := ⟨rfl, rfl, rfl, by decide +kernel, rfl, by decide +kernel, by decide +kernel⟩
theorem ok__law_both_ways (T : Top K mg w base) : FnOk P w K mg base CX0 1 T.f__law_both_ways T.fd__law_both_ways ["n", "edges"] (spV ⟨K, mg, P, w⟩ 2 LB.m__law_both_ways) :=
  fnV (G := ⟨K, mg, P, w⟩) T.F__law_both_ways sc__law_both_ways rfl (Oe := []) fun cdv A outer s H E hr =>
    (bo (sret (etup (ac (ev 0) (ac (etup (ac (etup an) (ac (etup an) an))) (ac (eT c_tuple rfl T.z_tuple (by decide +kernel) (nb (eBN c_sorted rfl T.z_sorted (by decide +kernel) (vb (eo o_add (nb (elc (own := [("pair", 2)]) rfl sc__law_both_ways.nd (iseqB (eb 1)) (blkOk_by (by kernel_rfl)) (fun _ _ _ _ _ => (gn 2 sc__law_both_ways.nd)) (fun _ _ _ _ _ => pyes) (fun _ _ _ _ _ => (ev 2)))) (nb (elc (own := [("a", 3), ("b", 4)]) rfl sc__law_both_ways.nd (iseqB (eb 1)) (blkOk_by (by kernel_rfl)) (fun _ _ _ _ _ => (gt rfl (gsc (gn 3 sc__law_both_ways.nd) (gsc (gn 4 sc__law_both_ways.nd) gsn)))) (fun _ _ _ _ _ => pyes) (fun _ _ _ _ _ => (etup (ac (ev 4) (ac (ev 3) an))))))))))) an))))))
abbrev s__law_special : Stmt := topS 17
theorem sc__law_special : FnScope ["number", "rows"] ["number"] (defScope s__law_special) := ⟨rfl, rfl, rfl, by decide +kernel, rfl, by decide +kernel, by decide +kernel⟩
theorem ok__law_special (T : Top K mg w base) : FnOk P w K mg base CX0 2 T.f__law_special T.fd__law_special ["number"] (spV ⟨K, mg, P, w⟩ 1 LB.m__law_special) :=
  fnV (G := ⟨K, mg, P, w⟩) T.F__law_special sc__law_special rfl (Oe := []) fun cdv A outer s H E hr =>
    (bc (sset 1 sc__law_special.nd (nv (elst (ac (ecall (ok__law_line T) (hr.mono (by omega)) rfl T.g__law_line T.F__law_line.kp T.b__law_line (ac ei an)) (ac (ecall (ok__law_line T) (hr.mono (by omega)) rfl T.g__law_line T.F__law_line.kp T.b__law_line (ac ei an)) (ac (ecall (ok__law_ring T) (hr.mono (by omega)) rfl T.g__law_ring T.F__law_ring.kp T.b__law_ring (ac ei an)) (ac (ecall (ok__law_ring T) (hr.mono (by omega)) rfl T.g__law_ring T.F__law_ring.kp T.b__law_ring (ac ei an)) (ac (etup (ac ei (ac (etup (ac (etup an) (ac (etup an) an))) (ac (etup an) an)))) (ac (etup (ac ei (ac (etup (ac (etup an) (ac (etup an) an))) (ac (etup an) an)))) (ac (etup (ac ei (ac (etup (ac (etup an) (ac (etup an) an))) (ac (etup an) an)))) an))))))))))
      (bc (sset 1 sc__law_special.nd (eo o_add (eb 1) (nb (elst (ac (ecall (ok__law_both_ways T) (hr.mono (by omega)) rfl T.g__law_both_ways T.F__law_both_ways.kp T.b__law_both_ways (ac ei (ac (etup (ac (etup (ac ei (ac ei an))) (ac (etup (ac ei (ac ei an))) (ac (etup (ac ei (ac ei an))) an)))) an))) (ac (ecall (ok__law_both_ways T) (hr.mono (by omega)) rfl T.g__law_both_ways T.F__law_both_ways.kp T.b__law_both_ways (ac ei (ac (etup (ac (etup (ac ei (ac ei an))) (ac (etup (ac ei (ac ei an))) (ac (etup (ac ei (ac ei an))) (ac (etup (ac ei (ac ei an))) an))))) an))) (ac (ecall (ok__law_both_ways T) (hr.mono (by omega)) rfl T.g__law_both_ways T.F__law_both_ways.kp T.b__law_both_ways (ac ei (ac (etup (ac (etup (ac ei (ac ei an))) (ac (etup (ac ei (ac ei an))) (ac (etup (ac ei (ac ei an))) an)))) an))) an)))))))
      (bo (sret (eix (eb 1) (vb (eo o_mod (eb 0) (vb (eB c_len rfl T.z_len (by decide +kernel) (eb 1))))))))))
abbrev s__law_world : Stmt := topS 18
theorem sc__law_world : FnScope ["draws", "most", "n", "dense", "marked", "marks", "i", "arrows", "at", "a", "b"] ["draws", "most"] (defScope s__law_world) := ⟨rfl, rfl, rfl, by decide +kernel, rfl, by decide +kernel, by decide +kernel⟩
theorem ok__law_world (T : Top K mg w base) : FnOk P w K mg base CX0 3 T.f__law_world T.fd__law_world ["draws", "most"] (spV ⟨K, mg, P, w⟩ 2 LB.m__law_world) :=
  fnV (G := ⟨K, mg, P, w⟩) T.F__law_world sc__law_world rfl (Oe := []) fun cdv A outer s H E hr =>
    (bc (sset 2 sc__law_world.nd (eo o_add (vb ei) (vb (eo o_mod (vb (eT c_int rfl T.z_int (by decide +kernel) (vb (eix (eb 0) (vb ei))))) (eb 1)))))
      (bc (sif (O' := []) (tw (tand (tc (o_eq (u64 hr)) (vb (eo o_mod (vb (eix (eb 0) (vb ei))) (vb ei))) (vb ei)) (tone1 (tc (o_le (u0 hr)) (vb (eix (vb (ecall (ok__law_special T) (hr.mono (by omega)) rfl T.g__law_special T.F__law_special.kp T.b__law_special (ac (eT c_int rfl T.z_int (by decide +kernel) (vb (eix (eb 0) (vb ei)))) an))) (vb ei))) (eb 1)))))
      (bo (sret (ecall (ok__law_special T) (hr.mono (by omega)) rfl T.g__law_special T.F__law_special.kp T.b__law_special (ac (eT c_int rfl T.z_int (by decide +kernel) (vb (eix (eb 0) (vb ei)))) an))))
      bn)
      (bc (sset 3 sc__law_world.nd (eix (nb (elst (ac ei (ac ei (ac ei (ac ei an)))))) (vb (eo o_mod (vb (eo o_fdiv (vb (eT c_int rfl T.z_int (by decide +kernel) (vb (eix (eb 0) (vb ei))))) (vb ei))) (vb ei)))))
      (bc (sset 4 sc__law_world.nd (eix (nb (elst (ac ei (ac ei (ac ei (ac ei an)))))) (vb (eo o_mod (vb (eo o_fdiv (vb (eT c_int rfl T.z_int (by decide +kernel) (vb (eix (eb 0) (vb ei))))) (vb ei))) (vb ei)))))
      (bc (sset 5 sc__law_world.nd (etup an))
      (bc (sfor (O := []) PassesOwn.never rfl (irng1 rfl T.z_range ei) (gn 6 sc__law_world.nd)
      (bo (sset 5 sc__law_world.nd (eo o_add (eb 5) (vb (etup (ac (eT c_tuple rfl T.z_tuple (by decide +kernel) (nb (elc (own := [("a", 9)]) rfl sc__law_world.nd (iv_b (irng1 rfl T.z_range (ev 2))) (blkOk_by (by kernel_rfl)) (fun _ _ _ _ _ => (gn 9 sc__law_world.nd)) (fun _ _ _ _ _ => (pone (tc (o_eq (u64 hr)) (vb (eo o_mod (vb (eo o_fdiv (vb (eT c_int rfl T.z_int (by decide +kernel) (vb (eix (eb 0) (vb (eo o_add (vb ei) (eb 9))))))) (vb (eo o_add (vb ei) (eb 6))))) (eb 4))) (vb ei)))) (fun _ _ _ _ _ => (ev 9))))) an)))))))
      (bc (ssetN 7 sc__law_world.nd (elst an))
      (bc (sset 8 sc__law_world.nd ei)
      (bc (sfor (O := [7]) PassesOwn.never rfl (irng1 rfl T.z_range (ev 2)) (gn 9 sc__law_world.nd)
      (bo (sfor (O := [7]) PassesOwn.never rfl (irng1 rfl T.z_range (ev 2)) (gn 10 sc__law_world.nd)
      (bc (sif (O' := [7]) (tc (o_eq (u64 hr)) (vb (eo o_mod (vb (eo o_fdiv (vb (eT c_int rfl T.z_int (by decide +kernel) (vb (eix (eb 0) (vb (eo o_mod (eb 8) (vb (eB c_len rfl T.z_len (by decide +kernel) (eb 0))))))))) (vb (eo o_add (vb ei) (vb (eo o_fdiv (eb 8) (vb (eB c_len rfl T.z_len (by decide +kernel) (eb 0))))))))) (eb 3))) (vb ei))
      (bo (sapp 7 (etup (ac (ev 9) (ac (ev 10) an)))))
      bn)
      (bo (sset 8 sc__law_world.nd (eo o_add (eb 8) (vb ei))))))))
      (bc (sif (O' := [7]) (tc (o_eq (u64 hr)) (vb (eo o_mod (vb (eix (eb 0) (vb ei))) (vb ei))) (vb ei))
      (bc (spre (O' := []) (ssetN 7 sc__law_world.nd (eoN o_addN (eb 7) (nb (elc (own := [("a", 9), ("b", 10)]) rfl sc__law_world.nd (iseqB (eb 7)) (blkOk_by (by kernel_rfl)) (fun _ _ _ _ _ => (gt rfl (gsc (gn 9 sc__law_world.nd) (gsc (gn 10 sc__law_world.nd) gsn)))) (fun _ _ _ _ _ => (pone (tc (o_nin (u65 hr)) (vb (etup (ac (ev 10) (ac (ev 9) an)))) (eb 7)))) (fun _ _ _ _ _ => (etup (ac (ev 10) (ac (ev 9) an)))))))))
      (bo (spre (O' := []) (ssetN 7 sc__law_world.nd (elc (own := [("a", 9), ("b", 10)]) rfl sc__law_world.nd (iseqB (eb 7)) (blkOk_by (by kernel_rfl)) (fun _ _ _ _ _ => (gt rfl (gsc (gn 9 sc__law_world.nd) (gsc (gn 10 sc__law_world.nd) gsn)))) (fun _ _ _ _ _ => (pone (tc (o_ne (u64 hr)) (eb 9) (eb 10)))) (fun _ _ _ _ _ => (etup (ac (ev 9) (ac (ev 10) an)))))))))
      bn)
      (bo (sret (etup (ac (ev 2) (ac (ev 5) (ac (eT c_tuple rfl T.z_tuple (by decide +kernel) (nb (eBN c_sorted rfl T.z_sorted (by decide +kernel) (eb 7)))) an))))))))))))))))
abbrev s__law_tuples : Stmt := topS 19
theorem sc__law_tuples : FnScope ["n", "size", "rows", "k", "more", "row", "item"] ["n", "size"] (defScope s__law_tuples) := ⟨rfl, rfl, rfl, by decide +kernel, rfl, by decide +kernel, by decide +kernel⟩
theorem ok__law_tuples (T : Top K mg w base) : FnOk P w K mg base CX0 1 T.f__law_tuples T.fd__law_tuples ["n", "size"] (spV ⟨K, mg, P, w⟩ 2 LB.m__law_tuples) :=
  fnV (G := ⟨K, mg, P, w⟩) T.F__law_tuples sc__law_tuples rfl (Oe := []) fun cdv A outer s H E hr =>
    (bc (sset 2 sc__law_tuples.nd (nv (elst (ac (etup an) an))))
      (bc (sfor (O := []) PassesOwn.never rfl (irng1 rfl T.z_range (ev 1)) (gn 3 sc__law_tuples.nd)
      (bc (sset 4 sc__law_tuples.nd (nv (elst an)))
      (bc (sfor (O := []) PassesOwn.never rfl (iseq (ev 2)) (gn 5 sc__law_tuples.nd)
      (bo (sset 4 sc__law_tuples.nd (eo o_add (eb 4) (nb (elc (own := [("item", 6)]) rfl sc__law_tuples.nd (iv_b (irng1 rfl T.z_range (ev 0))) (blkOk_by (by kernel_rfl)) (fun _ _ _ _ _ => (gn 6 sc__law_tuples.nd)) (fun _ _ _ _ _ => pyes) (fun _ _ _ _ _ => (eo o_add (eb 5) (vb (etup (ac (ev 6) an)))))))))))
      (bo (sset 2 sc__law_tuples.nd (ev 4))))))
      (bo (sret (ev 2)))))
abbrev s__law_unlike : Stmt := topS 20
theorem sc__law_unlike : FnScope ["items", "found", "item"] ["items"] (defScope s__law_unlike) := ⟨rfl, rfl, rfl, by decide +kernel, rfl, by decide +kernel, by decide +kernel⟩
theorem ok__law_unlike (T : Top K mg w base) : FnOk P w K mg base CX0 1 T.f__law_unlike T.fd__law_unlike ["items"] (spV ⟨K, mg, P, w⟩ 1 LB.m__law_unlike_2) :=
  fnV (G := ⟨K, mg, P, w⟩) T.F__law_unlike sc__law_unlike rfl (Oe := []) fun cdv A outer s H E hr =>
    (bc (ssetN 1 sc__law_unlike.nd (elst an))
      (bc (sfor (O := [1]) PassesOwn.never rfl (iseq (nv (eBN (c_sortedK (u64 hr)) rfl T.z_sorted (by decide +kernel) (eb 0)))) (gn 2 sc__law_unlike.nd)
      (bo (sif (O' := [1]) (tc (o_nin (u65 hr)) (eb 2) (eb 1))
      (bo (sapp 1 (ev 2)))
      bn)))
      (bo (sret (eT c_tuple rfl T.z_tuple (by decide +kernel) (eb 1))))))
abbrev s__law_fit : Stmt := topS 21
theorem sc__law_fit : FnScope ["one", "two", "x", "y", "a", "b", "c", "d"] ["one", "two", "x", "y"] (defScope s__law_fit) := ⟨rfl, rfl, rfl, by decide +kernel, rfl, by decide +kernel, by decide +kernel⟩
theorem ok__law_fit (T : Top K mg w base) : FnOk P w K mg base CX0 1 T.f__law_fit T.fd__law_fit ["one", "two", "x", "y"] (spV ⟨K, mg, P, w⟩ 4 LB.m__law_fit) :=
  fnV (G := ⟨K, mg, P, w⟩) T.F__law_fit sc__law_fit rfl (Oe := []) fun cdv A outer s H E hr =>
    (bc (sasg (ev 2) (gt rfl (gsc (gn 4 sc__law_fit.nd) (gsc (gn 5 sc__law_fit.nd) gsn))))
      (bc (sasg (ev 3) (gt rfl (gsc (gn 6 sc__law_fit.nd) (gsc (gn 7 sc__law_fit.nd) gsn))))
      (bc (sif (O' := []) (tc (o_ne (u64 hr)) (vb (ec (o_eq (u64 hr)) (eb 4) (eb 6))) (vb (ec (o_eq (u64 hr)) (eb 5) (eb 7))))
      (bo (sret ebl))
      bn)
      (bc (sif (O' := []) (tw (tor (tc (o_ne (u64 hr)) (vb (ec (o_in (u65 hr)) (eb 4) (vb (eix (vb (eix (eb 0) (vb ei))) (vb ei))))) (vb (ec (o_in (u65 hr)) (eb 5) (vb (eix (vb (eix (eb 1) (vb ei))) (vb ei)))))) (tone2 (tc (o_ne (u64 hr)) (vb (ec (o_in (u65 hr)) (eb 4) (vb (eix (vb (eix (eb 0) (vb ei))) (vb ei))))) (vb (ec (o_in (u65 hr)) (eb 5) (vb (eix (vb (eix (eb 1) (vb ei))) (vb ei)))))))))
      (bo (sret ebl))
      bn)
      (bo (sret (eand (ec (o_eq (u64 hr)) (vb (ec (o_in (u65 hr)) (vb (etup (ac (ev 4) (ac (ev 6) an)))) (vb (eix (eb 0) (vb ei))))) (vb (ec (o_in (u65 hr)) (vb (etup (ac (ev 5) (ac (ev 7) an)))) (vb (eix (eb 1) (vb ei)))))) (eone (ec (o_eq (u64 hr)) (vb (ec (o_in (u65 hr)) (vb (etup (ac (ev 6) (ac (ev 4) an)))) (vb (eix (eb 0) (vb ei))))) (vb (ec (o_in (u65 hr)) (vb (etup (ac (ev 7) (ac (ev 5) an)))) (vb (eix (eb 1) (vb ei))))))))))))))
abbrev s__law_carry : Stmt := topS 22
theorem sc__law_carry : FnScope ["one", "two", "x", "y", "a", "b", "c", "d"] ["one", "two", "x", "y"] (defScope s__law_carry) := ⟨rfl, rfl, rfl, by decide +kernel, rfl, by decide +kernel, by decide +kernel⟩
theorem ok__law_carry (T : Top K mg w base) : FnOk P w K mg base CX0 1 T.f__law_carry T.fd__law_carry ["one", "two", "x", "y"] (spV ⟨K, mg, P, w⟩ 4 LB.m__law_carry) :=
  fnV (G := ⟨K, mg, P, w⟩) T.F__law_carry sc__law_carry rfl (Oe := []) fun cdv A outer s H E hr =>
    (bc (sasg (ev 2) (gt rfl (gsc (gn 4 sc__law_carry.nd) (gsc (gn 5 sc__law_carry.nd) gsn))))
      (bc (sasg (ev 3) (gt rfl (gsc (gn 6 sc__law_carry.nd) (gsc (gn 7 sc__law_carry.nd) gsn))))
      (bc (sif (O' := []) (tw (tor (tw (tand (tc (o_eq (u64 hr)) (eb 4) (eb 6)) (tone1 (tc (o_ne (u64 hr)) (eb 5) (eb 7))))) (tor (tw (tand (tc (o_in (u65 hr)) (eb 4) (vb (eix (vb (eix (eb 0) (vb ei))) (vb ei)))) (tone1 (tc (o_nin (u65 hr)) (eb 5) (vb (eix (vb (eix (eb 1) (vb ei))) (vb ei))))))) (tone2 (tw (tand (tc (o_in (u65 hr)) (eb 4) (vb (eix (vb (eix (eb 0) (vb ei))) (vb ei)))) (tone1 (tc (o_nin (u65 hr)) (eb 5) (vb (eix (vb (eix (eb 1) (vb ei))) (vb ei)))))))))))
      (bo (sret ebl))
      bn)
      (bo (sret (eand (enot (eand (ec (o_in (u65 hr)) (vb (etup (ac (ev 4) (ac (ev 6) an)))) (vb (eix (eb 0) (vb ei)))) (eone (ec (o_nin (u65 hr)) (vb (etup (ac (ev 5) (ac (ev 7) an)))) (vb (eix (eb 1) (vb ei))))))) (eone (enot (eand (ec (o_in (u65 hr)) (vb (etup (ac (ev 6) (ac (ev 4) an)))) (vb (eix (eb 0) (vb ei)))) (eone (ec (o_nin (u65 hr)) (vb (etup (ac (ev 7) (ac (ev 5) an)))) (vb (eix (eb 1) (vb ei))))))))))))))
abbrev s__law_goes : Stmt := topS 23
theorem sc__law_goes : FnScope ["one", "two", "pairs", "way", "x", "y"] ["one", "two", "pairs", "way"] (defScope s__law_goes) := ⟨rfl, rfl, rfl, by decide +kernel, rfl, by decide +kernel, by decide +kernel⟩
theorem ok__law_goes (T : Top K mg w base) : FnOk P w K mg base CX0 2 T.f__law_goes T.fd__law_goes ["one", "two", "pairs", "way"] (spV ⟨K, mg, P, w⟩ 4 LB.m__law_goes) :=
  fnV (G := ⟨K, mg, P, w⟩) T.F__law_goes sc__law_goes rfl (Oe := []) fun cdv A outer s H E hr =>
    (bc (sfor (O := []) PassesOwn.never rfl (iseq (ev 2)) (gn 4 sc__law_goes.nd)
      (bc (sif (O' := []) (tw (tand (tc (o_eq (u64 hr)) (eb 3) (vb ei)) (tone1 (tc (o_gt (u0 hr)) (vb (eB c_len rfl T.z_len (by decide +kernel) (nb (elc (own := [("y", 5)]) rfl sc__law_goes.nd (iseqB (eb 2)) (blkOk_by (by kernel_rfl)) (fun _ _ _ _ _ => (gn 5 sc__law_goes.nd)) (fun _ _ _ _ _ => (pone (tnot (tv (ecall (ok__law_fit T) (hr.mono (by omega)) rfl T.g__law_fit T.F__law_fit.kp T.b__law_fit (ac (ev 0) (ac (ev 1) (ac (ev 4) (ac (ev 5) an))))))))) (fun _ _ _ _ _ => (ev 5)))))) (vb ei)))))
      (bo (sret ebl))
      bn)
      (bo (sif (O' := []) (tw (tand (tc (o_eq (u64 hr)) (eb 3) (vb ei)) (tone1 (tc (o_gt (u0 hr)) (vb (eB c_len rfl T.z_len (by decide +kernel) (nb (elc (own := [("y", 5)]) rfl sc__law_goes.nd (iseqB (eb 2)) (blkOk_by (by kernel_rfl)) (fun _ _ _ _ _ => (gn 5 sc__law_goes.nd)) (fun _ _ _ _ _ => (pone (tnot (tv (ecall (ok__law_carry T) (hr.mono (by omega)) rfl T.g__law_carry T.F__law_carry.kp T.b__law_carry (ac (ev 0) (ac (ev 1) (ac (ev 4) (ac (ev 5) an))))))))) (fun _ _ _ _ _ => (ev 5)))))) (vb ei)))))
      (bo (sret ebl))
      bn))))
      (bo (sret ebl)))
abbrev s__law_ways : Stmt := topS 24
theorem sc__law_ways : FnScope ["one", "two", "way", "rows", "k", "more", "row", "item", "pairs", "j"] ["one", "two", "way"] (defScope s__law_ways) := ⟨rfl, rfl, rfl, by decide +kernel, rfl, by decide +kernel, by decide +kernel⟩
theorem ok__law_ways (T : Top K mg w base) : FnOk P w K mg base CX0 3 T.f__law_ways T.fd__law_ways ["one", "two", "way"] (spV ⟨K, mg, P, w⟩ 3 LB.m__law_ways) :=
  fnV (G := ⟨K, mg, P, w⟩) T.F__law_ways sc__law_ways rfl (Oe := []) fun cdv A outer s H E hr =>
    (bc (sset 3 sc__law_ways.nd (nv (elst (ac (etup an) an))))
      (bc (sfor (O := []) PassesOwn.never rfl (irng1 rfl T.z_range (eix (eb 0) (vb ei))) (gn 4 sc__law_ways.nd)
      (bc (ssetN 5 sc__law_ways.nd (elst an))
      (bc (sfor (O := [5]) PassesOwn.never rfl (iseq (ev 3)) (gn 6 sc__law_ways.nd)
      (bo (sfor (O := [5]) PassesOwn.never rfl (irng1 rfl T.z_range (eix (eb 1) (vb ei))) (gn 7 sc__law_ways.nd)
      (bc (sset 8 sc__law_ways.nd (eo o_add (vb (eT c_tuple rfl T.z_tuple (by decide +kernel) (nb (elc (own := [("j", 9)]) rfl sc__law_ways.nd (iv_b (irng1 rfl T.z_range (ev 4))) (blkOk_by (by kernel_rfl)) (fun _ _ _ _ _ => (gn 9 sc__law_ways.nd)) (fun _ _ _ _ _ => pyes) (fun _ _ _ _ _ => (etup (ac (ev 9) (ac (eix (eb 6) (eb 9)) an)))))))) (vb (etup (ac (etup (ac (ev 4) (ac (ev 7) an))) an)))))
      (bo (sif (O' := [5]) (tv (ecall (ok__law_goes T) (hr.mono (by omega)) rfl T.g__law_goes T.F__law_goes.kp T.b__law_goes (ac (ev 0) (ac (ev 1) (ac (ev 8) (ac (ev 2) an))))))
      (bo (sapp 5 (eo o_add (eb 6) (vb (etup (ac (ev 7) an))))))
      bn))))))
      (bo (spre (O' := []) (sset 3 sc__law_ways.nd (ev 5)))))))
      (bo (sret (ev 3)))))
abbrev s_law : Stmt := topS 25
theorem sc_law : FnScope ["script", "draws", "world", "size", "names", "due", "row", "lot", "name", "item"] ["script"] (defScope s_law) := ⟨rfl, rfl, rfl, by decide +kernel, rfl, by decide +kernel, by decide +kernel⟩
theorem ok_law (T : Top K mg w base) : FnOk P w K mg base CX0 64 T.f_law T.fd_law ["script"] (spV ⟨K, mg, P, w⟩ 1 LB.m_law_k48W) :=
  fnV (G := ⟨K, mg, P, w⟩) T.F_law sc_law rfl (Oe := []) fun cdv A outer s H E hr =>
    (bc (sset 1 sc_law.nd (ecall (ok__law_draws T) (hr.mono (by omega)) rfl T.g__law_draws T.F__law_draws.kp T.b__law_draws (ac (ecall (ok__law_cell T) (hr.mono (by omega)) rfl T.g__law_cell T.F__law_cell.kp T.b__law_cell (ac (ev 0) (ac ei an))) (ac ei an))))
      (bc (sset 2 sc_law.nd (ecall (ok__law_world T) (hr.mono (by omega)) rfl T.g__law_world T.F__law_world.kp T.b__law_world (ac (ev 1) (ac ei an))))
      (bc (sset 3 sc_law.nd (eo o_mod (vb (eix (eb 1) (vb ei))) (vb ei)))
      (bc (sset 4 sc_law.nd (ecall (ok__law_ways T) (hr.mono (by omega)) rfl T.g__law_ways T.F__law_ways.kp T.b__law_ways (ac (ev 2) (ac (ev 2) (ac ei an)))))
      (bc (ssetN 5 sc_law.nd (elst an))
      (bc (sfor (O := [5]) PassesOwn.never rfl (iseq (ecall (ok__law_tuples T) (hr.mono (by omega)) rfl T.g__law_tuples T.F__law_tuples.kp T.b__law_tuples (ac (eix (eb 2) (vb ei)) (ac (ev 3) an)))) (gn 6 sc_law.nd)
      (bc (sset 7 sc_law.nd (ecall (ok__law_unlike T) (hr.mono (by omega)) rfl T.g__law_unlike T.F__law_unlike.kp T.b__law_unlike (ac (nv (elc (own := [("name", 8)]) rfl sc_law.nd (iseqB (eb 4)) (blkOk_by (by kernel_rfl)) (fun _ _ _ _ _ => (gn 8 sc_law.nd)) (fun _ _ _ _ _ => pyes) (fun _ _ _ _ _ => (eT c_tuple rfl T.z_tuple (by decide +kernel) (nb (elc (own := [("item", 9)]) rfl sc_law.nd (iseqB (eb 6)) (blkOk_by (by kernel_rfl)) (fun _ _ _ _ _ => (gn 9 sc_law.nd)) (fun _ _ _ _ _ => pyes) (fun _ _ _ _ _ => (eix (eb 8) (eb 9))))))))) an)))
      (bo (sif (O' := [5]) (tc (o_nin (u65 hr)) (eb 7) (eb 5))
      (bo (sapp 5 (ev 7)))
      bn))))
      (bo (sret (eand (ecall (ok__law_equal T 60) (hr.mono (by omega)) rfl T.g__law_equal T.F__law_equal.kp T.b__law_equal (ac (ecall (ok_orbits T) (hr.mono (by omega)) rfl T.g_orbits T.F_orbits.kp T.b_orbits (ac (ev 2) (ac (ev 3) an))) (ac (nv (eBN (c_sortedK (u64 hr)) rfl T.z_sorted (by decide +kernel) (eb 5))) an))) (eone (ecall (ok__law_equal T 60) (hr.mono (by omega)) rfl T.g__law_equal T.F__law_equal.kp T.b__law_equal (ac (ecall (ok_orbits T) (hr.mono (by omega)) rfl T.g_orbits T.F_orbits.kp T.b_orbits (ac (ev 2) (ac ei an))) (ac (nv (elst (ac (etup (ac (etup an) an)) an))) an)))))))))))))
end
end K48

set_option Elab.async false
set_option linter.all false
set_option maxRecDepth 100000
set_option maxHeartbeats 4000000
namespace K48
open PySem PySem.Spec PyProof.Rows L2 TL
def spLaw (K : PySem.W.Frag) (tabs : List (Addr × Addr)) : Sp := fun vs H Q _ => ∃ (a : Addr) (ns : List Int), vs = [.ref a] ∧ SqL K H a (ns.map V.int) ∧ ns.length ≤ 63 ∧ (∀ p ∈ tabs, H p.2 = some (.tbl #[])) ∧ ∀ H', Q (.bl true) H'
theorem rp_ints {G : Gx} {F : Hp} : ∀ ns : List Int, RpAll G F (ns.map V.int) (ns.map .int)
  | [] => .nil
  | i :: r => .cons (.int i) (rp_ints r)
theorem ok_end {P : Program} {w : World} {K : PySem.W.Frag} {mg : Str → Option Value} {base : Heap} (T : Top K mg w base) (hN_truth : PySem.W.tabIn K "truth" = none) (hN_can_go : PySem.W.tabIn K "can_go" = none) (hN_dense_truth : PySem.W.tabIn K "dense_truth" = none) (hN_steps_truth : PySem.W.tabIn K "steps_truth" = none) (hN_line_truth : PySem.W.tabIn K "line_truth" = none) (hN_truth_almost : PySem.W.tabIn K "truth_almost" = none) (hN_truth_truth : PySem.W.tabIn K "truth_truth" = none) : FnOk P w K mg base CX0 64 T.f_law T.fd_law ["script"] (spLaw K []) :=
  (ok_law T).imp fun vs H Q E ⟨a, ns, e, hS, hl, hT, q⟩ => by
    subst e
    refine ⟨noT H, [.list (ns.map .int)], .bool true, ⟨noT_le, fun x hx c P e => ?_⟩, .cons (.lst (noT_seq hS) (rp_ints ns)) .nil, rfl, LB.law_true_k48 ns hl, fun v F' H' g r => ?_⟩
    · simp only [tabNames, List.mem_cons, List.not_mem_nil, or_false] at hx
      rcases hx with rfl | rfl | rfl | rfl | rfl | rfl | rfl
      · rw [hN_truth] at e
        cases e
      · rw [hN_can_go] at e
        cases e
      · rw [hN_dense_truth] at e
        cases e
      · rw [hN_steps_truth] at e
        cases e
      · rw [hN_line_truth] at e
        cases e
      · rw [hN_truth_almost] at e
        cases e
      · rw [hN_truth_truth] at e
        cases e
    · cases r
      exact q H'
theorem all_mk {l : PySem.W.OpenLaw} {w : World} {K : PySem.W.Frag} {h : Heap} {mg : Str → Option Value} {fa : Addr} (X : K.In h) (G : h.Ns mainGlobals mg) (hfa : mg "law" = some (.ref fa)) (hTab : TabsAtH K [] h)
    {f0 : Addr} {od0 an0 : Option Addr} {sl0 : Array (Option Value)} {oc0 kV0 dc0 pm0 cd0 ct0 : Value}
    {f1 : Addr} {od1 an1 : Option Addr} {sl1 : Array (Option Value)} {oc1 kV1 dc1 pm1 cd1 ct1 : Value}
    {f2 : Addr} {od2 an2 : Option Addr} {sl2 : Array (Option Value)} {oc2 kV2 dc2 pm2 cd2 ct2 : Value}
    {f3 : Addr} {od3 an3 : Option Addr} {sl3 : Array (Option Value)} {oc3 kV3 dc3 pm3 cd3 ct3 : Value}
    {f4 : Addr} {od4 an4 : Option Addr} {sl4 : Array (Option Value)} {oc4 kV4 dc4 pm4 cd4 ct4 : Value}
    {f5 : Addr} {od5 an5 : Option Addr} {sl5 : Array (Option Value)} {oc5 kV5 dc5 pm5 cd5 ct5 : Value}
    {f6 : Addr} {od6 an6 : Option Addr} {sl6 : Array (Option Value)} {oc6 kV6 dc6 pm6 cd6 ct6 : Value}
    {f7 : Addr} {od7 an7 : Option Addr} {sl7 : Array (Option Value)} {oc7 kV7 dc7 pm7 cd7 ct7 : Value}
    {f8 : Addr} {od8 an8 : Option Addr} {sl8 : Array (Option Value)} {oc8 kV8 dc8 pm8 cd8 ct8 : Value}
    {f9 : Addr} {od9 an9 : Option Addr} {sl9 : Array (Option Value)} {oc9 kV9 dc9 pm9 cd9 ct9 : Value}
    {f10 : Addr} {od10 an10 : Option Addr} {sl10 : Array (Option Value)} {oc10 kV10 dc10 pm10 cd10 ct10 : Value}
    {f11 : Addr} {od11 an11 : Option Addr} {sl11 : Array (Option Value)} {oc11 kV11 dc11 pm11 cd11 ct11 : Value}
    {f12 : Addr} {od12 an12 : Option Addr} {sl12 : Array (Option Value)} {oc12 kV12 dc12 pm12 cd12 ct12 : Value}
    {f13 : Addr} {od13 an13 : Option Addr} {sl13 : Array (Option Value)} {oc13 kV13 dc13 pm13 cd13 ct13 : Value}
    {f14 : Addr} {od14 an14 : Option Addr} {sl14 : Array (Option Value)} {oc14 kV14 dc14 pm14 cd14 ct14 : Value}
    {f15 : Addr} {od15 an15 : Option Addr} {sl15 : Array (Option Value)} {oc15 kV15 dc15 pm15 cd15 ct15 : Value}
    {f16 : Addr} {od16 an16 : Option Addr} {sl16 : Array (Option Value)} {oc16 kV16 dc16 pm16 cd16 ct16 : Value}
    {f17 : Addr} {od17 an17 : Option Addr} {sl17 : Array (Option Value)} {oc17 kV17 dc17 pm17 cd17 ct17 : Value}
    {f18 : Addr} {od18 an18 : Option Addr} {sl18 : Array (Option Value)} {oc18 kV18 dc18 pm18 cd18 ct18 : Value}
    {f19 : Addr} {od19 an19 : Option Addr} {sl19 : Array (Option Value)} {oc19 kV19 dc19 pm19 cd19 ct19 : Value}
    {f20 : Addr} {od20 an20 : Option Addr} {sl20 : Array (Option Value)} {oc20 kV20 dc20 pm20 cd20 ct20 : Value}
    {f21 : Addr} {od21 an21 : Option Addr} {sl21 : Array (Option Value)} {oc21 kV21 dc21 pm21 cd21 ct21 : Value}
    (a0 : PySem.W.nsIn K mainGlobals "tuples_of" = some (some (.ref f0))) (l0 : K.lookup f0 = some ⟨oc0, od0, .func (PySem.W.fnOf "tuples_of" "tuples_of" (defArgs (topS 1)) (defBody (topS 1)) (defScope (topS 1)) .none kV0 dc0 pm0 an0 cd0 ct0), sl0⟩) (c0 : PySem.W.codeIn K cd0 "tuples_of" = true) (k0 : PySem.W.keepIn K (.ref f0) = true)
    (a1 : PySem.W.nsIn K mainGlobals "goes" = some (some (.ref f1))) (l1 : K.lookup f1 = some ⟨oc1, od1, .func (PySem.W.fnOf "goes" "goes" (defArgs (topS 3)) (defBody (topS 3)) (defScope (topS 3)) .none kV1 dc1 pm1 an1 cd1 ct1), sl1⟩) (c1 : PySem.W.codeIn K cd1 "goes" = true) (k1 : PySem.W.keepIn K (.ref f1) = true)
    (a2 : PySem.W.nsIn K mainGlobals "likenesses" = some (some (.ref f2))) (l2 : K.lookup f2 = some ⟨oc2, od2, .func (PySem.W.fnOf "likenesses" "likenesses" (defArgs (topS 5)) (defBody (topS 5)) (defScope (topS 5)) .none kV2 dc2 pm2 an2 cd2 ct2), sl2⟩) (c2 : PySem.W.codeIn K cd2 "likenesses" = true) (k2 : PySem.W.keepIn K (.ref f2) = true)
    (a3 : PySem.W.nsIn K mainGlobals "turnings" = some (some (.ref f3))) (l3 : K.lookup f3 = some ⟨oc3, od3, .func (PySem.W.fnOf "turnings" "turnings" (defArgs (topS 6)) (defBody (topS 6)) (defScope (topS 6)) .none kV3 dc3 pm3 an3 cd3 ct3), sl3⟩) (c3 : PySem.W.codeIn K cd3 "turnings" = true) (k3 : PySem.W.keepIn K (.ref f3) = true)
    (a4 : PySem.W.nsIn K mainGlobals "led" = some (some (.ref f4))) (l4 : K.lookup f4 = some ⟨oc4, od4, .func (PySem.W.fnOf "led" "led" (defArgs (topS 7)) (defBody (topS 7)) (defScope (topS 7)) .none kV4 dc4 pm4 an4 cd4 ct4), sl4⟩) (c4 : PySem.W.codeIn K cd4 "led" = true) (k4 : PySem.W.keepIn K (.ref f4) = true)
    (a5 : PySem.W.nsIn K mainGlobals "orbits" = some (some (.ref f5))) (l5 : K.lookup f5 = some ⟨oc5, od5, .func (PySem.W.fnOf "orbits" "orbits" (defArgs (topS 8)) (defBody (topS 8)) (defScope (topS 8)) .none kV5 dc5 pm5 an5 cd5 ct5), sl5⟩) (c5 : PySem.W.codeIn K cd5 "orbits" = true) (k5 : PySem.W.keepIn K (.ref f5) = true)
    (a6 : PySem.W.nsIn K mainGlobals "_law_cell" = some (some (.ref f6))) (l6 : K.lookup f6 = some ⟨oc6, od6, .func (PySem.W.fnOf "_law_cell" "_law_cell" (defArgs (topS 10)) (defBody (topS 10)) (defScope (topS 10)) .none kV6 dc6 pm6 an6 cd6 ct6), sl6⟩) (c6 : PySem.W.codeIn K cd6 "_law_cell" = true) (k6 : PySem.W.keepIn K (.ref f6) = true)
    (a7 : PySem.W.nsIn K mainGlobals "_law_draws" = some (some (.ref f7))) (l7 : K.lookup f7 = some ⟨oc7, od7, .func (PySem.W.fnOf "_law_draws" "_law_draws" (defArgs (topS 11)) (defBody (topS 11)) (defScope (topS 11)) .none kV7 dc7 pm7 an7 cd7 ct7), sl7⟩) (c7 : PySem.W.codeIn K cd7 "_law_draws" = true) (k7 : PySem.W.keepIn K (.ref f7) = true)
    (a8 : PySem.W.nsIn K mainGlobals "_law_kind" = some (some (.ref f8))) (l8 : K.lookup f8 = some ⟨oc8, od8, .func (PySem.W.fnOf "_law_kind" "_law_kind" (defArgs (topS 12)) (defBody (topS 12)) (defScope (topS 12)) .none kV8 dc8 pm8 an8 cd8 ct8), sl8⟩) (c8 : PySem.W.codeIn K cd8 "_law_kind" = true) (k8 : PySem.W.keepIn K (.ref f8) = true)
    (a9 : PySem.W.nsIn K mainGlobals "_law_equal" = some (some (.ref f9))) (l9 : K.lookup f9 = some ⟨oc9, od9, .func (PySem.W.fnOf "_law_equal" "_law_equal" (defArgs (topS 13)) (defBody (topS 13)) (defScope (topS 13)) .none kV9 dc9 pm9 an9 cd9 ct9), sl9⟩) (c9 : PySem.W.codeIn K cd9 "_law_equal" = true) (k9 : PySem.W.keepIn K (.ref f9) = true)
    (a10 : PySem.W.nsIn K mainGlobals "_law_line" = some (some (.ref f10))) (l10 : K.lookup f10 = some ⟨oc10, od10, .func (PySem.W.fnOf "_law_line" "_law_line" (defArgs (topS 14)) (defBody (topS 14)) (defScope (topS 14)) .none kV10 dc10 pm10 an10 cd10 ct10), sl10⟩) (c10 : PySem.W.codeIn K cd10 "_law_line" = true) (k10 : PySem.W.keepIn K (.ref f10) = true)
    (a11 : PySem.W.nsIn K mainGlobals "_law_ring" = some (some (.ref f11))) (l11 : K.lookup f11 = some ⟨oc11, od11, .func (PySem.W.fnOf "_law_ring" "_law_ring" (defArgs (topS 15)) (defBody (topS 15)) (defScope (topS 15)) .none kV11 dc11 pm11 an11 cd11 ct11), sl11⟩) (c11 : PySem.W.codeIn K cd11 "_law_ring" = true) (k11 : PySem.W.keepIn K (.ref f11) = true)
    (a12 : PySem.W.nsIn K mainGlobals "_law_both_ways" = some (some (.ref f12))) (l12 : K.lookup f12 = some ⟨oc12, od12, .func (PySem.W.fnOf "_law_both_ways" "_law_both_ways" (defArgs (topS 16)) (defBody (topS 16)) (defScope (topS 16)) .none kV12 dc12 pm12 an12 cd12 ct12), sl12⟩) (c12 : PySem.W.codeIn K cd12 "_law_both_ways" = true) (k12 : PySem.W.keepIn K (.ref f12) = true)
    (a13 : PySem.W.nsIn K mainGlobals "_law_special" = some (some (.ref f13))) (l13 : K.lookup f13 = some ⟨oc13, od13, .func (PySem.W.fnOf "_law_special" "_law_special" (defArgs (topS 17)) (defBody (topS 17)) (defScope (topS 17)) .none kV13 dc13 pm13 an13 cd13 ct13), sl13⟩) (c13 : PySem.W.codeIn K cd13 "_law_special" = true) (k13 : PySem.W.keepIn K (.ref f13) = true)
    (a14 : PySem.W.nsIn K mainGlobals "_law_world" = some (some (.ref f14))) (l14 : K.lookup f14 = some ⟨oc14, od14, .func (PySem.W.fnOf "_law_world" "_law_world" (defArgs (topS 18)) (defBody (topS 18)) (defScope (topS 18)) .none kV14 dc14 pm14 an14 cd14 ct14), sl14⟩) (c14 : PySem.W.codeIn K cd14 "_law_world" = true) (k14 : PySem.W.keepIn K (.ref f14) = true)
    (a15 : PySem.W.nsIn K mainGlobals "_law_tuples" = some (some (.ref f15))) (l15 : K.lookup f15 = some ⟨oc15, od15, .func (PySem.W.fnOf "_law_tuples" "_law_tuples" (defArgs (topS 19)) (defBody (topS 19)) (defScope (topS 19)) .none kV15 dc15 pm15 an15 cd15 ct15), sl15⟩) (c15 : PySem.W.codeIn K cd15 "_law_tuples" = true) (k15 : PySem.W.keepIn K (.ref f15) = true)
    (a16 : PySem.W.nsIn K mainGlobals "_law_unlike" = some (some (.ref f16))) (l16 : K.lookup f16 = some ⟨oc16, od16, .func (PySem.W.fnOf "_law_unlike" "_law_unlike" (defArgs (topS 20)) (defBody (topS 20)) (defScope (topS 20)) .none kV16 dc16 pm16 an16 cd16 ct16), sl16⟩) (c16 : PySem.W.codeIn K cd16 "_law_unlike" = true) (k16 : PySem.W.keepIn K (.ref f16) = true)
    (a17 : PySem.W.nsIn K mainGlobals "_law_fit" = some (some (.ref f17))) (l17 : K.lookup f17 = some ⟨oc17, od17, .func (PySem.W.fnOf "_law_fit" "_law_fit" (defArgs (topS 21)) (defBody (topS 21)) (defScope (topS 21)) .none kV17 dc17 pm17 an17 cd17 ct17), sl17⟩) (c17 : PySem.W.codeIn K cd17 "_law_fit" = true) (k17 : PySem.W.keepIn K (.ref f17) = true)
    (a18 : PySem.W.nsIn K mainGlobals "_law_carry" = some (some (.ref f18))) (l18 : K.lookup f18 = some ⟨oc18, od18, .func (PySem.W.fnOf "_law_carry" "_law_carry" (defArgs (topS 22)) (defBody (topS 22)) (defScope (topS 22)) .none kV18 dc18 pm18 an18 cd18 ct18), sl18⟩) (c18 : PySem.W.codeIn K cd18 "_law_carry" = true) (k18 : PySem.W.keepIn K (.ref f18) = true)
    (a19 : PySem.W.nsIn K mainGlobals "_law_goes" = some (some (.ref f19))) (l19 : K.lookup f19 = some ⟨oc19, od19, .func (PySem.W.fnOf "_law_goes" "_law_goes" (defArgs (topS 23)) (defBody (topS 23)) (defScope (topS 23)) .none kV19 dc19 pm19 an19 cd19 ct19), sl19⟩) (c19 : PySem.W.codeIn K cd19 "_law_goes" = true) (k19 : PySem.W.keepIn K (.ref f19) = true)
    (a20 : PySem.W.nsIn K mainGlobals "_law_ways" = some (some (.ref f20))) (l20 : K.lookup f20 = some ⟨oc20, od20, .func (PySem.W.fnOf "_law_ways" "_law_ways" (defArgs (topS 24)) (defBody (topS 24)) (defScope (topS 24)) .none kV20 dc20 pm20 an20 cd20 ct20), sl20⟩) (c20 : PySem.W.codeIn K cd20 "_law_ways" = true) (k20 : PySem.W.keepIn K (.ref f20) = true)
    (a21 : PySem.W.nsIn K mainGlobals "law" = some (some (.ref f21))) (l21 : K.lookup f21 = some ⟨oc21, od21, .func (PySem.W.fnOf "law" "law" (defArgs (topS 25)) (defBody (topS 25)) (defScope (topS 25)) .none kV21 dc21 pm21 an21 cd21 ct21), sl21⟩) (c21 : PySem.W.codeIn K cd21 "law" = true) (k21 : PySem.W.keepIn K (.ref f21) = true)
    (zz_all : PySem.W.nsIn K mainGlobals "all" = some none)
    (zz_any : PySem.W.nsIn K mainGlobals "any" = some none)
    (zz_bool : PySem.W.nsIn K mainGlobals "bool" = some none)
    (zz_can_go : PySem.W.nsIn K mainGlobals "can_go" = some none)
    (zz_dense_truth : PySem.W.nsIn K mainGlobals "dense_truth" = some none)
    (zz_dict : PySem.W.nsIn K mainGlobals "dict" = some none)
    (zz_int : PySem.W.nsIn K mainGlobals "int" = some none)
    (zz_isinstance : PySem.W.nsIn K mainGlobals "isinstance" = some none)
    (zz_len : PySem.W.nsIn K mainGlobals "len" = some none)
    (zz_line_truth : PySem.W.nsIn K mainGlobals "line_truth" = some none)
    (zz_list : PySem.W.nsIn K mainGlobals "list" = some none)
    (zz_range : PySem.W.nsIn K mainGlobals "range" = some none)
    (zz_set : PySem.W.nsIn K mainGlobals "set" = some none)
    (zz_sorted : PySem.W.nsIn K mainGlobals "sorted" = some none)
    (zz_steps_truth : PySem.W.nsIn K mainGlobals "steps_truth" = some none)
    (zz_str : PySem.W.nsIn K mainGlobals "str" = some none)
    (zz_truth : PySem.W.nsIn K mainGlobals "truth" = some none)
    (zz_truth_almost : PySem.W.nsIn K mainGlobals "truth_almost" = some none)
    (zz_truth_truth : PySem.W.nsIn K mainGlobals "truth_truth" = some none)
    (zz_tuple : PySem.W.nsIn K mainGlobals "tuple" = some none) :
    LamX.LawAtS l w K CX0 64 63 "script" mg fa h := by
  have e := hfa.symm.trans (PySem.W.mg_of X G a21)
  cases e
  let T : ∀ (base : Heap), Top K mg w base := fun base => {
    f_tuples_of := f0, fd_tuples_of := _, F_tuples_of := fun_mk (st := topS 1) l0 c0 k0, g_tuples_of := PySem.W.mg_of X G a0, b_tuples_of := (fun_mk (st := topS 1) l0 c0 k0).binds (ps := ["n", "size"]) fun _ _ _ _ _ _ us hl => match us, hl with | [_, _], _ => rfl,
    f_goes := f1, fd_goes := _, F_goes := fun_mk (st := topS 3) l1 c1 k1, g_goes := PySem.W.mg_of X G a1, b_goes := (fun_mk (st := topS 3) l1 c1 k1).binds (ps := ["one", "two", "first", "last"]) fun _ _ _ _ _ _ us hl => match us, hl with | [_, _, _, _], _ => rfl,
    f_likenesses := f2, fd_likenesses := _, F_likenesses := fun_mk (st := topS 5) l2 c2 k2, g_likenesses := PySem.W.mg_of X G a2, b_likenesses := (fun_mk (st := topS 5) l2 c2 k2).binds (ps := ["one", "two", "begun"]) fun _ _ _ _ _ _ us hl => match us, hl with | [_, _, _], _ => rfl,
    f_turnings := f3, fd_turnings := _, F_turnings := fun_mk (st := topS 6) l3 c3 k3, g_turnings := PySem.W.mg_of X G a3, b_turnings := (fun_mk (st := topS 6) l3 c3 k3).binds (ps := ["world"]) fun _ _ _ _ _ _ us hl => match us, hl with | [_], _ => rfl,
    f_led := f4, fd_led := _, F_led := fun_mk (st := topS 7) l4 c4 k4, g_led := PySem.W.mg_of X G a4, b_led := (fun_mk (st := topS 7) l4 c4 k4).binds (ps := ["names", "items"]) fun _ _ _ _ _ _ us hl => match us, hl with | [_, _], _ => rfl,
    f_orbits := f5, fd_orbits := _, F_orbits := fun_mk (st := topS 8) l5 c5 k5, g_orbits := PySem.W.mg_of X G a5, b_orbits := (fun_mk (st := topS 8) l5 c5 k5).binds (ps := ["world", "size"]) fun _ _ _ _ _ _ us hl => match us, hl with | [_, _], _ => rfl,
    f__law_cell := f6, fd__law_cell := _, F__law_cell := fun_mk (st := topS 10) l6 c6 k6, g__law_cell := PySem.W.mg_of X G a6, b__law_cell := (fun_mk (st := topS 10) l6 c6 k6).binds (ps := ["script", "k"]) fun _ _ _ _ _ _ us hl => match us, hl with | [_, _], _ => rfl,
    f__law_draws := f7, fd__law_draws := _, F__law_draws := fun_mk (st := topS 11) l7 c7 k7, g__law_draws := PySem.W.mg_of X G a7, b__law_draws := (fun_mk (st := topS 11) l7 c7 k7).binds (ps := ["cell", "amount"]) fun _ _ _ _ _ _ us hl => match us, hl with | [_, _], _ => rfl,
    f__law_kind := f8, fd__law_kind := _, F__law_kind := fun_mk (st := topS 12) l8 c8 k8, g__law_kind := PySem.W.mg_of X G a8, b__law_kind := (fun_mk (st := topS 12) l8 c8 k8).binds (ps := ["x"]) fun _ _ _ _ _ _ us hl => match us, hl with | [_], _ => rfl,
    f__law_equal := f9, fd__law_equal := _, F__law_equal := fun_mk (st := topS 13) l9 c9 k9, g__law_equal := PySem.W.mg_of X G a9, b__law_equal := (fun_mk (st := topS 13) l9 c9 k9).binds (ps := ["x", "due"]) fun _ _ _ _ _ _ us hl => match us, hl with | [_, _], _ => rfl,
    f__law_line := f10, fd__law_line := _, F__law_line := fun_mk (st := topS 14) l10 c10 k10, g__law_line := PySem.W.mg_of X G a10, b__law_line := (fun_mk (st := topS 14) l10 c10 k10).binds (ps := ["n"]) fun _ _ _ _ _ _ us hl => match us, hl with | [_], _ => rfl,
    f__law_ring := f11, fd__law_ring := _, F__law_ring := fun_mk (st := topS 15) l11 c11 k11, g__law_ring := PySem.W.mg_of X G a11, b__law_ring := (fun_mk (st := topS 15) l11 c11 k11).binds (ps := ["n"]) fun _ _ _ _ _ _ us hl => match us, hl with | [_], _ => rfl,
    f__law_both_ways := f12, fd__law_both_ways := _, F__law_both_ways := fun_mk (st := topS 16) l12 c12 k12, g__law_both_ways := PySem.W.mg_of X G a12, b__law_both_ways := (fun_mk (st := topS 16) l12 c12 k12).binds (ps := ["n", "edges"]) fun _ _ _ _ _ _ us hl => match us, hl with | [_, _], _ => rfl,
    f__law_special := f13, fd__law_special := _, F__law_special := fun_mk (st := topS 17) l13 c13 k13, g__law_special := PySem.W.mg_of X G a13, b__law_special := (fun_mk (st := topS 17) l13 c13 k13).binds (ps := ["number"]) fun _ _ _ _ _ _ us hl => match us, hl with | [_], _ => rfl,
    f__law_world := f14, fd__law_world := _, F__law_world := fun_mk (st := topS 18) l14 c14 k14, g__law_world := PySem.W.mg_of X G a14, b__law_world := (fun_mk (st := topS 18) l14 c14 k14).binds (ps := ["draws", "most"]) fun _ _ _ _ _ _ us hl => match us, hl with | [_, _], _ => rfl,
    f__law_tuples := f15, fd__law_tuples := _, F__law_tuples := fun_mk (st := topS 19) l15 c15 k15, g__law_tuples := PySem.W.mg_of X G a15, b__law_tuples := (fun_mk (st := topS 19) l15 c15 k15).binds (ps := ["n", "size"]) fun _ _ _ _ _ _ us hl => match us, hl with | [_, _], _ => rfl,
    f__law_unlike := f16, fd__law_unlike := _, F__law_unlike := fun_mk (st := topS 20) l16 c16 k16, g__law_unlike := PySem.W.mg_of X G a16, b__law_unlike := (fun_mk (st := topS 20) l16 c16 k16).binds (ps := ["items"]) fun _ _ _ _ _ _ us hl => match us, hl with | [_], _ => rfl,
    f__law_fit := f17, fd__law_fit := _, F__law_fit := fun_mk (st := topS 21) l17 c17 k17, g__law_fit := PySem.W.mg_of X G a17, b__law_fit := (fun_mk (st := topS 21) l17 c17 k17).binds (ps := ["one", "two", "x", "y"]) fun _ _ _ _ _ _ us hl => match us, hl with | [_, _, _, _], _ => rfl,
    f__law_carry := f18, fd__law_carry := _, F__law_carry := fun_mk (st := topS 22) l18 c18 k18, g__law_carry := PySem.W.mg_of X G a18, b__law_carry := (fun_mk (st := topS 22) l18 c18 k18).binds (ps := ["one", "two", "x", "y"]) fun _ _ _ _ _ _ us hl => match us, hl with | [_, _, _, _], _ => rfl,
    f__law_goes := f19, fd__law_goes := _, F__law_goes := fun_mk (st := topS 23) l19 c19 k19, g__law_goes := PySem.W.mg_of X G a19, b__law_goes := (fun_mk (st := topS 23) l19 c19 k19).binds (ps := ["one", "two", "pairs", "way"]) fun _ _ _ _ _ _ us hl => match us, hl with | [_, _, _, _], _ => rfl,
    f__law_ways := f20, fd__law_ways := _, F__law_ways := fun_mk (st := topS 24) l20 c20 k20, g__law_ways := PySem.W.mg_of X G a20, b__law_ways := (fun_mk (st := topS 24) l20 c20 k20).binds (ps := ["one", "two", "way"]) fun _ _ _ _ _ _ us hl => match us, hl with | [_, _, _], _ => rfl,
    f_law := fa, fd_law := _, F_law := fun_mk (st := topS 25) l21 c21 k21, g_law := PySem.W.mg_of X G a21, b_law := (fun_mk (st := topS 25) l21 c21 k21).binds (ps := ["script"]) fun _ _ _ _ _ _ us hl => match us, hl with | [_], _ => rfl,
    z_all := PySem.W.mg_none_of X G zz_all,
    z_any := PySem.W.mg_none_of X G zz_any,
    z_bool := PySem.W.mg_none_of X G zz_bool,
    z_can_go := PySem.W.mg_none_of X G zz_can_go,
    z_dense_truth := PySem.W.mg_none_of X G zz_dense_truth,
    z_dict := PySem.W.mg_none_of X G zz_dict,
    z_int := PySem.W.mg_none_of X G zz_int,
    z_isinstance := PySem.W.mg_none_of X G zz_isinstance,
    z_len := PySem.W.mg_none_of X G zz_len,
    z_line_truth := PySem.W.mg_none_of X G zz_line_truth,
    z_list := PySem.W.mg_none_of X G zz_list,
    z_range := PySem.W.mg_none_of X G zz_range,
    z_set := PySem.W.mg_none_of X G zz_set,
    z_sorted := PySem.W.mg_none_of X G zz_sorted,
    z_steps_truth := PySem.W.mg_none_of X G zz_steps_truth,
    z_str := PySem.W.mg_none_of X G zz_str,
    z_truth := PySem.W.mg_none_of X G zz_truth,
    z_truth_almost := PySem.W.mg_none_of X G zz_truth_almost,
    z_truth_truth := PySem.W.mg_none_of X G zz_truth_truth,
    z_tuple := PySem.W.mg_none_of X G zz_tuple }
  refine ⟨PySem.W.fnOf "law" "law" (defArgs (topS 25)) (defBody (topS 25)) (defScope (topS 25)) .none kV21 dc21 pm21 an21 cd21 ct21, [], spLaw K [], fun p hp => ?_, fun p hp => ?_, fun p hp => ?_, fun s v => .of_eq rfl, fun H a ns hl _ hH hS => ⟨a, ns, rfl, hS, hl, hH, fun _ => rfl⟩, fun base _ _ tb => ok_end (T base) (tabIn_none zz_truth) (tabIn_none zz_can_go) (tabIn_none zz_dense_truth) (tabIn_none zz_steps_truth) (tabIn_none zz_line_truth) (tabIn_none zz_truth_almost) (tabIn_none zz_truth_truth)⟩
  all_goals
    simp only [List.mem_cons, List.not_mem_nil, or_false] at hp
    first | (cases hp; done) | skip

end K48
open PySem PySem.W PyProof.Rows
set_option maxHeartbeats 0 in
theorem PySem.Challenge.cw_backforth_k48_orbits_listed_holds : PySem.Challenge.rw_backforth_k48_orbits_listed.Holds := by
  w_on; o_law; k_head; (case hw => w_witness2)
  k_fill
  refine TL.walk_tabs (l := PySem.Challenge.rw_backforth_k48_orbits_listed) (n := 63) (k := 64) (x := "script") (CX := fun _ => L2.CX0) [] rfl (by decide) rfl ⟨rfl, by decide, by decide⟩ (by kernel_rfl) (fun w h Y => PySem.W.kIn_of Y) ?F (fun _ _ _ _ _ h => h)
  case F =>
    intro w mg fa h KX G hmg hT
    refine' K48.all_mk KX G hmg hT ?a0 ?l0 ?c0 ?k0 ?a1 ?l1 ?c1 ?k1 ?a2 ?l2 ?c2 ?k2 ?a3 ?l3 ?c3 ?k3 ?a4 ?l4 ?c4 ?k4 ?a5 ?l5 ?c5 ?k5 ?a6 ?l6 ?c6 ?k6 ?a7 ?l7 ?c7 ?k7 ?a8 ?l8 ?c8 ?k8 ?a9 ?l9 ?c9 ?k9 ?a10 ?l10 ?c10 ?k10 ?a11 ?l11 ?c11 ?k11 ?a12 ?l12 ?c12 ?k12 ?a13 ?l13 ?c13 ?k13 ?a14 ?l14 ?c14 ?k14 ?a15 ?l15 ?c15 ?k15 ?a16 ?l16 ?c16 ?k16 ?a17 ?l17 ?c17 ?k17 ?a18 ?l18 ?c18 ?k18 ?a19 ?l19 ?c19 ?k19 ?a20 ?l20 ?c20 ?k20 ?a21 ?l21 ?c21 ?k21 ?zz_all ?zz_any ?zz_bool ?zz_can_go ?zz_dense_truth ?zz_dict ?zz_int ?zz_isinstance ?zz_len ?zz_line_truth ?zz_list ?zz_range ?zz_set ?zz_sorted ?zz_steps_truth ?zz_str ?zz_truth ?zz_truth_almost ?zz_truth_truth ?zz_tuple
    (case a0 => k_is); (case l0 => k_is); (case c0 => k_is); (case k0 => k_is); (case a1 => k_is); (case l1 => k_is); (case c1 => k_is); (case k1 => k_is); (case a2 => k_is); (case l2 => k_is); (case c2 => k_is); (case k2 => k_is); (case a3 => k_is); (case l3 => k_is); (case c3 => k_is); (case k3 => k_is); (case a4 => k_is); (case l4 => k_is); (case c4 => k_is); (case k4 => k_is); (case a5 => k_is); (case l5 => k_is); (case c5 => k_is); (case k5 => k_is); (case a6 => k_is); (case l6 => k_is); (case c6 => k_is); (case k6 => k_is); (case a7 => k_is); (case l7 => k_is); (case c7 => k_is); (case k7 => k_is); (case a8 => k_is); (case l8 => k_is); (case c8 => k_is); (case k8 => k_is); (case a9 => k_is); (case l9 => k_is); (case c9 => k_is); (case k9 => k_is); (case a10 => k_is); (case l10 => k_is); (case c10 => k_is); (case k10 => k_is); (case a11 => k_is); (case l11 => k_is); (case c11 => k_is); (case k11 => k_is); (case a12 => k_is); (case l12 => k_is); (case c12 => k_is); (case k12 => k_is); (case a13 => k_is); (case l13 => k_is); (case c13 => k_is); (case k13 => k_is); (case a14 => k_is); (case l14 => k_is); (case c14 => k_is); (case k14 => k_is); (case a15 => k_is); (case l15 => k_is); (case c15 => k_is); (case k15 => k_is); (case a16 => k_is); (case l16 => k_is); (case c16 => k_is); (case k16 => k_is); (case a17 => k_is); (case l17 => k_is); (case c17 => k_is); (case k17 => k_is); (case a18 => k_is); (case l18 => k_is); (case c18 => k_is); (case k18 => k_is); (case a19 => k_is); (case l19 => k_is); (case c19 => k_is); (case k19 => k_is); (case a20 => k_is); (case l20 => k_is); (case c20 => k_is); (case k20 => k_is); (case a21 => k_is); (case l21 => k_is); (case c21 => k_is); (case k21 => k_is); (case zz_all => k_is); (case zz_any => k_is); (case zz_bool => k_is); (case zz_can_go => k_is); (case zz_dense_truth => k_is); (case zz_dict => k_is); (case zz_int => k_is); (case zz_isinstance => k_is); (case zz_len => k_is); (case zz_line_truth => k_is); (case zz_list => k_is); (case zz_range => k_is); (case zz_set => k_is); (case zz_sorted => k_is); (case zz_steps_truth => k_is); (case zz_str => k_is); (case zz_truth => k_is); (case zz_truth_almost => k_is); (case zz_truth_truth => k_is); (case zz_tuple => k_is)

