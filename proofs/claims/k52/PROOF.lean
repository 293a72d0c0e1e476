import PyProof.Rows.All
import Wide.All
import OpenK.AllK
import Wide.FinOn
import HandS.ForMost
import HandS.Conv
import HandS.Deep
import HandS.TupAny
import HandS.TupLe
import HandS.IsInst
import HandS.Style
import HandS.SortRule
import HandS.SortInts
import HandS.AnyAll
import HandS.GenOver
import HandS.GenList
import HandS.Dict
import KE.KDictKeyed
import HandS.TupMul
import HandS.Strs
import HandS.Defaults
import HandS.More
import HandS.Text
import HandS.SetFor
import HandS.SortKw
import PyProof.MinMaxWalk
import PyProof.WalkInts
import PyProof.GenQ
import PyProof.ConsumeS
import HandS.EndTab
import KE.DataMinMax
import HandS.CallLocal
import HandS.RevRange
import HandS.WideBits
import HandS.Replace
import HandS.TupSets
import HandS.Exc
import HandS.ExcOwn
import HandS.ExcIs
import HandS.WordsExc
import HandS.DictComp
import KE.SortData
import KE.GoesEnum
import HandS.Iter
import PySem.Challenge.RW_backforth_k52_words_and_their_kinds
set_option Elab.async false
set_option linter.all false
set_option maxRecDepth 100000
namespace TL
open PySem
abbrev D := PyData
abbrev Env := List (Option D)
abbrev SE := Env → Option D
abbrev ST := Env → Option Bool
abbrev SI := Env → Option (List D)
abbrev SG := D → Env → Option Env
inductive Out where
  | nx (e : Env) | rt (d : D) | bk (e : Env) | ct (e : Env)
abbrev SS := Env → Option Out

@[simp] def toB : D → Option Bool
  | .bool b => some b
  | _ => none
@[simp] def toI : D → Option Int
  | .int i => some i
  | _ => none
def intsOf : List D → Option (List Int)
  | [] => some []
  | .int i :: r => (intsOf r).map (i :: ·)
  | _ => none
def boolsOf : List D → Option (List Bool)
  | [] => some []
  | .bool i :: r => (boolsOf r).map (i :: ·)
  | _ => none

def addD : D → D → Option D
  | .int a, .int b => some (.int (a + b))
  | .str a, .str b => if a.length + b.length ≤ sizeLine then some (.str (a ++ b)) else none
  | .tuple a, .tuple b => if a.length + b.length ≤ sizeLine then some (.tuple (a ++ b)) else none
  | .list a, .list b => if a.length + b.length ≤ sizeLine then some (.list (a ++ b)) else none
  | _, _ => none
def addLD : D → D → Option D
  | .list a, .list b => addD (.list a) (.list b)
  | _, _ => none
def subD : D → D → Option D
  | .int a, .int b => some (.int (a - b))
  | _, _ => none
def okMul (a b : Int) : Bool := Nat.blt a.natAbs (2 ^ 64) || Nat.blt b.natAbs (2 ^ 64)
def okDiv (b : Int) : Bool := Nat.ble 1 b.toNat && Nat.ble b.toNat 1073741823
def okPow (a b : Int) : Bool := Nat.ble b.natAbs b.toNat && Nat.ble b.toNat 1000000 && Nat.blt a.natAbs (2 ^ 64)
def okRng (lo hi : Int) : Bool := Nat.ble lo.natAbs 4000000000000000000 && Nat.ble hi.natAbs 4000000000000000000 && Nat.ble (hi - lo).toNat sizeLine
def mulD : D → D → Option D
  | .int a, .int b => if okMul a b = true then some (.int (a * b)) else none
  | _, _ => none
def fdivD : D → D → Option D
  | .int a, .int b => if okDiv b = true then some (.int (a / b)) else none
  | _, _ => none
def modD : D → D → Option D
  | .int a, .int b => if 0 < b then some (.int (a % b)) else none
  | _, _ => none
def powD : D → D → Option D
  | .int a, .int b => if okPow a b = true then some (.int (a ^ b.toNat)) else none
  | _, _ => none
def negD : D → Option D
  | .int a => some (.int (-a))
  | _ => none
def eqD (a b : D) : Option D := if SeqAt.shaped a = true ∧ SeqAt.shaped b = true then some (.bool (PyData.eqv a b)) else none
def neD (a b : D) : Option D := if SeqAt.shaped a = true ∧ SeqAt.shaped b = true then some (.bool (!PyData.eqv a b)) else none
def lexLt : List Int → List Int → Bool
  | [], [] => false
  | [], _ :: _ => true
  | _ :: _, [] => false
  | x :: xs, y :: ys => if x = y then lexLt xs ys else decide (x < y)
def ltD : D → D → Option D
  | .int a, .int b => some (.bool (decide (a < b)))
  | .tuple a, .tuple b => (intsOf a).bind fun x => (intsOf b).map fun y => .bool (lexLt x y)
  | _, _ => none
def leD : D → D → Option D
  | .int a, .int b => some (.bool (decide (a ≤ b)))
  | .tuple a, .tuple b => (intsOf a).bind fun x => (intsOf b).map fun y => .bool (!lexLt y x)
  | _, _ => none
def gtD : D → D → Option D
  | .int a, .int b => some (.bool (decide (b < a)))
  | .tuple a, .tuple b => (intsOf a).bind fun x => (intsOf b).map fun y => .bool (lexLt y x)
  | _, _ => none
def geD : D → D → Option D
  | .int a, .int b => some (.bool (decide (b ≤ a)))
  | .tuple a, .tuple b => (intsOf a).bind fun x => (intsOf b).map fun y => .bool (!lexLt x y)
  | _, _ => none
@[simp] def isNoneD : D → Bool
  | .none => true
  | _ => false
def isD : D → D → Option D
  | a, .none => some (.bool (isNoneD a))
  | .bool a, .bool b => some (.bool (decide (a = b)))
  | _, _ => none
def inD : D → D → Option D
  | a, .list ds => if SeqAt.shaped a = true ∧ SeqAt.shaped (.list ds) = true then some (.bool (ds.any fun z => PyData.eqv z a)) else none
  | a, .tuple ds => if SeqAt.shaped a = true ∧ SeqAt.shaped (.tuple ds) = true then some (.bool (ds.any fun z => PyData.eqv z a)) else none
  | _, _ => none
def ninD (a b : D) : Option D := match inD a b with
  | some (.bool c) => some (.bool (!c))
  | _ => none
def ixD : D → D → Option D
  | .list ds, .int i => L2.atI ds i
  | .tuple ds, .int i => L2.atI ds i
  | .str z, .int i => if z.length ≤ sizeLine then (L2.atI z.cps.toList i).map fun c => .str ⟨#[c]⟩ else none
  | _, _ => none
def cutT {α : Type} (xs : List α) (lo hi : Option Int) : List α := (xs.drop (HT.sIx xs.length 0 lo)).take (HT.sIx xs.length xs.length hi - HT.sIx xs.length 0 lo)
def cutD (lo hi : Option Int) : D → Option D
  | .list ds => some (.list (cutT ds lo hi))
  | .tuple ds => some (.tuple (cutT ds lo hi))
  | _ => none
def lenD : D → Option D
  | .list ds => some (.int ds.length)
  | .tuple ds => some (.int ds.length)
  | .str z => if z.length ≤ sizeLine then some (.int z.length) else none
  | _ => none
def listD : D → Option D
  | .list ds => some (.list ds)
  | .tuple ds => some (.list ds)
  | _ => none
def tupleD : D → Option D
  | .list ds => some (.tuple ds)
  | .tuple ds => some (.tuple ds)
  | _ => none
def intD : D → Option D
  | .int i => some (.int i)
  | .bool b => some (.int (if b then 1 else 0))
  | _ => none
def allD : D → Option D
  | .list ds => (boolsOf ds).map fun bs => .bool (bs.all id)
  | _ => none
def anyD : D → Option D
  | .list ds => (boolsOf ds).map fun bs => .bool (bs.any id)
  | _ => none
inductive Ty where | int | bool | str | tuple | list | dict
def isTy : Ty → D → Bool
  | .int, .int _ => true
  | .int, .bool _ => true
  | .bool, .bool _ => true
  | .str, .str _ => true
  | .tuple, .tuple _ => true
  | .list, .list _ => true
  | _, _ => false
def isiD (t : Ty) : D → Option D
  | .dict _ => none
  | d => some (.bool (isTy t d))
def insB {α : Type} (lt : α → α → Bool) (x : α) : List α → List α
  | [] => [x]
  | y :: r => if lt y x = true then y :: insB lt x r else x :: y :: r
def isort {α : Type} (lt : α → α → Bool) : List α → List α
  | [] => []
  | x :: r => insB lt x (isort lt r)
def ltI (a b : Int) : Bool := decide (a < b)
def ltPr (p q : Int × Int) : Bool := if p.1 = q.1 then decide (p.2 < q.2) else decide (p.1 < q.1)
def prsOf : List D → Option (List (Int × Int))
  | [] => some []
  | .tuple [.int i, .int j] :: r => (prsOf r).map ((i, j) :: ·)
  | _ => none
def prD (p : Int × Int) : D := .tuple [.int p.1, .int p.2]
def sortL (ds : List D) : Option (List D) := match intsOf ds with
  | some ns => some ((isort ltI ns).map .int)
  | none => (prsOf ds).map fun ps => (isort ltPr ps).map prD
def sortedD : D → Option D
  | .list ds => (sortL ds).map .list
  | .tuple ds => (sortL ds).map .list
  | _ => none
@[simp] def eVar (i : Nat) : SE := fun env => env.getD i none
@[simp] def eC (d : D) : SE := fun _ => some d
@[simp] def e1 (op : D → Option D) (a : SE) : SE := fun env => (a env).bind op
@[simp] def e2 (op : D → D → Option D) (a b : SE) : SE := fun env => (a env).bind fun x => (b env).bind fun y => op x y
@[simp] def eIf (c : ST) (a b : SE) : SE := fun env => (c env).bind fun k => if k = true then a env else b env
@[simp] def eAnd (a b : SE) : SE := fun env => (a env).bind fun x => (toB x).bind fun k => if k = true then b env else some (.bool false)
@[simp] def eOr (a b : SE) : SE := fun env => (a env).bind fun x => (toB x).bind fun k => if k = true then some (.bool true) else b env
@[simp] def eNot (a : SE) : SE := fun env => (a env).bind fun x => (toB x).map fun k => .bool (!k)
@[simp] def eChain (o1 o2 : D → D → Option D) (a b c : SE) : SE := fun env => (a env).bind fun x => (b env).bind fun y => (o1 x y).bind fun z => (toB z).bind fun k =>
  if k = true then (c env).bind fun w => o2 y w else some (.bool false)
@[simp] def eArgs : List SE → SI
  | [] => fun _ => some []
  | a :: r => fun env => (a env).bind fun x => (eArgs r env).map (x :: ·)
@[simp] def eTup (l : List SE) : SE := fun env => (eArgs l env).bind fun ds => if ds.length ≤ sizeLine then some (.tuple ds) else none
@[simp] def eLst (l : List SE) : SE := fun env => (eArgs l env).bind fun ds => if ds.length ≤ sizeLine then some (.list ds) else none
@[simp] def eCall (m : List D → Option D) (l : List SE) : SE := fun env => (eArgs l env).bind m
@[simp] def ePart : Option SE → Env → Option (Option Int)
  | none, _ => some none
  | some a, env => (a env).bind fun x => (toI x).map some
@[simp] def eSlice (a : SE) (lo hi : Option SE) : SE := fun env => (a env).bind fun x => (ePart lo env).bind fun l => (ePart hi env).bind fun h => cutD l h x
@[simp] def itemsD : D → Option (List D)
  | .list ds => some ds
  | .tuple ds => some ds
  | _ => none
@[simp] def iSeq (a : SE) : SI := fun env => (a env).bind itemsD
def rangeL (lo : Int) : Nat → List D
  | 0 => []
  | n + 1 => .int lo :: rangeL (lo + 1) n
def rangeD (lo hi : Int) : Option (List D) := if okRng lo hi = true then some (rangeL lo (hi - lo).toNat) else none
@[simp] def iRng1 (a : SE) : SI := fun env => (a env).bind fun x => (toI x).bind fun n => rangeD 0 n
@[simp] def iRng2 (a b : SE) : SI := fun env => (a env).bind fun x => (b env).bind fun y => (toI x).bind fun n => (toI y).bind fun m => rangeD n m
@[simp] def gName (i : Nat) : SG := fun d env => some (env.set i (some d))
@[simp] def gAll : List SG → List D → Env → Option Env
  | [], [], env => some env
  | g :: gs, d :: ds, env => (g d env).bind fun e => gAll gs ds e
  | _, _, _ => none
@[simp] def gTup (gs : List SG) : SG := fun d env => match d with
  | .tuple ds => gAll gs ds env
  | _ => none
@[simp] def wipeE (env : Env) : List Nat → Env
  | [] => env
  | i :: r => (wipeE env r).set i none
@[simp] def cYes : ST := fun _ => some true
def lcGo (g : SG) (c : ST) (e : SE) (env : Env) : List D → Option (List D)
  | [] => some []
  | x :: xs => (g x env).bind fun env1 => (c env1).bind fun k =>
    if k = true then (e env1).bind fun y => (lcGo g c e env xs).map (y :: ·) else lcGo g c e env xs
@[simp] def eLc (vs : List Nat) (it : SI) (g : SG) (c : ST) (e : SE) : SE := fun env => (it env).bind fun ds => (lcGo g c e (wipeE env vs) ds).map .list
def lcGo2 (g : SG) (c : ST) (it1 : SI) (vs1 : List Nat) (g1 : SG) (c1 : ST) (e : SE) (env : Env) : List D → Option (List D)
  | [] => some []
  | x :: xs => (g x env).bind fun env1 => (c env1).bind fun k =>
    if k = true then (it1 env1).bind fun ds => (lcGo g1 c1 e (wipeE env1 vs1) ds).bind fun a => (lcGo2 g c it1 vs1 g1 c1 e env xs).map (a ++ ·) else lcGo2 g c it1 vs1 g1 c1 e env xs
@[simp] def eLc2 (vs : List Nat) (it : SI) (g : SG) (c : ST) (vs1 : List Nat) (it1 : SI) (g1 : SG) (c1 : ST) (e : SE) : SE := fun env => (it env).bind fun ds => (lcGo2 g c it1 vs1 g1 c1 e (wipeE env vs) ds).bind fun r =>
  if r.length ≤ sizeLine then some (.list r) else none
@[simp] def tV (a : SE) : ST := fun env => (a env).bind toB
@[simp] def tAnd (a b : ST) : ST := fun env => (a env).bind fun k => if k = true then b env else some false
@[simp] def tOr (a b : ST) : ST := fun env => (a env).bind fun k => if k = true then some true else b env
@[simp] def tNot (a : ST) : ST := fun env => (a env).map (!·)
@[simp] def sNext : SS := fun env => some (.nx env)
@[simp] def sSeq (a b : SS) : SS := fun env => (a env).bind fun o => match o with
  | .nx e => b e
  | .rt d => some (.rt d)
  | .bk e => some (.bk e)
  | .ct e => some (.ct e)
@[simp] def sBreak : SS := fun env => some (.bk env)
@[simp] def sCont : SS := fun env => some (.ct env)
@[simp] def sRet (a : SE) : SS := fun env => (a env).map .rt
@[simp] def sIf (c : ST) (a b : SS) : SS := fun env => (c env).bind fun k => if k = true then a env else b env
@[simp] def sAsg (a : SE) (g : SG) : SS := fun env => (a env).bind fun d => (g d env).map .nx
@[simp] def sDrop (a : SE) : SS := fun env => (a env).map fun _ => .nx env
@[simp] def sPar (i j : Nat) (a b : SE) : SS := fun env => (a env).bind fun x => (b env).map fun y => .nx ((env.set i (some x)).set j (some y))
@[simp] def sAug (op : D → D → Option D) (i : Nat) (a : SE) : SS := fun env => (env.getD i none).bind fun x => (a env).bind fun y => (op x y).map fun z => .nx (env.set i (some z))
@[simp] def sApp (i : Nat) (a : SE) : SS := fun env => (a env).bind fun y => match env.getD i none with
  | some (.list ds) => if ds.length < sizeLine then some (.nx (env.set i (some (.list (ds ++ [y]))))) else none
  | _ => none
@[simp] def sExt (i : Nat) (a : SE) : SS := fun env => (a env).bind fun y => match env.getD i none, y with
  | some (.list ds), .list es => if ds.length + es.length ≤ sizeLine then some (.nx (env.set i (some (.list (ds ++ es))))) else none
  | _, _ => none
def forGo (g : SG) (body : SS) : List D → Env → Option Out
  | [], env => some (.nx env)
  | x :: xs, env => (g x env).bind fun env1 => (body env1).bind fun o => match o with
    | .nx e => forGo g body xs e
    | .ct e => forGo g body xs e
    | .bk e => some (.nx e)
    | .rt d => some (.rt d)
@[simp] def sFor (it : SI) (g : SG) (body : SS) : SS := fun env => (it env).bind fun ds => forGo g body ds env
def whileGo (c : ST) (body : SS) : Nat → Env → Option Out
  | 0, _ => none
  | n + 1, env => (c env).bind fun k => if k = true then (body env).bind fun o => match o with
    | .nx e => whileGo c body n e
    | .ct e => whileGo c body n e
    | .bk e => some (.nx e)
    | .rt d => some (.rt d) else some (.nx env)
@[simp] def sWhile (fuel : Nat) (c : ST) (body : SS) : SS := whileGo c body fuel
@[simp] def outD : Out → Option D
  | .rt d => some d
  | .nx _ => some .none
  | _ => none
def runF (np nl : Nat) (body : SS) (ds : List D) : Option D :=
  if ds.length = np then (body (ds.map some ++ List.replicate nl none)).bind outD else none
end TL

set_option Elab.async false
set_option linter.all false
set_option maxRecDepth 100000
namespace TL
open PySem
theorem mul_l {a b : Int} (h1 : -(2 ^ 64) < a) (h2 : a < 2 ^ 64) : mulD (.int a) (.int b) = some (.int (a * b)) := by
  have h : okMul a b = true := by
    simp only [okMul, Bool.or_eq_true, Nat.blt_eq]
    exact .inl (by omega)
  simp only [mulD, h, if_true]
theorem mul_r {a b : Int} (h1 : -(2 ^ 64) < b) (h2 : b < 2 ^ 64) : mulD (.int a) (.int b) = some (.int (a * b)) := by
  have h : okMul a b = true := by
    simp only [okMul, Bool.or_eq_true, Nat.blt_eq]
    exact .inr (by omega)
  simp only [mulD, h, if_true]
theorem pow_18 : powD (.int 10) (.int 18) = some (.int 1000000000000000000) := by kernel_rfl
theorem mod_n {a b : Int} (h : 0 < b) : modD (.int a) (.int b) = some (.int (a % b)) := by
  show (if 0 < b then _ else _) = _
  rw [if_pos h]
theorem fdiv_n {a b : Int} (h : 0 < b) (h2 : b < 1073741824) : fdivD (.int a) (.int b) = some (.int (a / b)) := by
  have h : okDiv b = true := by
    simp only [okDiv, Bool.and_eq_true, Nat.ble_eq]
    exact ⟨by omega, by omega⟩
  simp only [fdivD, h, if_true]
@[simp] theorem add_i (a b : Int) : addD (.int a) (.int b) = some (.int (a + b)) := rfl
@[simp] theorem sub_i (a b : Int) : subD (.int a) (.int b) = some (.int (a - b)) := rfl
@[simp] theorem lt_i (a b : Int) : ltD (.int a) (.int b) = some (.bool (decide (a < b))) := rfl
@[simp] theorem le_i (a b : Int) : leD (.int a) (.int b) = some (.bool (decide (a ≤ b))) := rfl
@[simp] theorem gt_i (a b : Int) : gtD (.int a) (.int b) = some (.bool (decide (b < a))) := rfl
@[simp] theorem ge_i (a b : Int) : geD (.int a) (.int b) = some (.bool (decide (b ≤ a))) := rfl
@[simp] theorem int_i (a : Int) : intD (.int a) = some (.int a) := rfl
@[simp] theorem len_l (ds : List D) : lenD (.list ds) = some (.int ds.length) := rfl
@[simp] theorem len_t (ds : List D) : lenD (.tuple ds) = some (.int ds.length) := rfl
@[simp] theorem tuple_l (ds : List D) : tupleD (.list ds) = some (.tuple ds) := rfl
@[simp] theorem tuple_t (ds : List D) : tupleD (.tuple ds) = some (.tuple ds) := rfl
@[simp] theorem list_l (ds : List D) : listD (.list ds) = some (.list ds) := rfl
@[simp] theorem list_t (ds : List D) : listD (.tuple ds) = some (.list ds) := rfl
theorem shaped_int (i : Int) : SeqAt.shaped (.int i) = true := by simp [SeqAt.shaped, PyData.canLay0, PyData.depth]
@[simp] theorem eq_i (a b : Int) : eqD (.int a) (.int b) = some (.bool (decide (a = b))) := by
  unfold eqD
  rw [if_pos ⟨shaped_int a, shaped_int b⟩]
  simp [PyData.eqv]
  by_cases h : a = b <;> simp [h]
@[simp] theorem ne_i (a b : Int) : neD (.int a) (.int b) = some (.bool (!decide (a = b))) := by
  unfold neD
  rw [if_pos ⟨shaped_int a, shaped_int b⟩]
  simp [PyData.eqv]
  by_cases h : a = b <;> simp [h]
@[simp] theorem is_b (a b : Bool) : isD (.bool a) (.bool b) = some (.bool (decide (a = b))) := rfl
@[simp] theorem is_n (a : D) : isD a .none = some (.bool (isNoneD a)) := by cases a <;> rfl
theorem small {n : Nat} (h : n ≤ 1000000) : n ≤ sizeLine := Nat.le_trans h (by decide)
theorem small' {n : Nat} (h : n ≤ 1000000) : n < sizeLine := Nat.lt_of_le_of_lt h (by decide)
theorem rng_n {lo hi : Int} (h1 : -1000000 ≤ lo) (h2 : lo ≤ 1000000) (h3 : -1000000 ≤ hi) (h4 : hi ≤ 1000000) : rangeD lo hi = some (rangeL lo (hi - lo).toNat) := by
  have h : okRng lo hi = true := by
    simp only [okRng, Bool.and_eq_true, Nat.ble_eq]
    exact ⟨⟨by omega, by omega⟩, Nat.le_trans (m := 2000000) (by omega) (by decide)⟩
  simp only [rangeD, h, if_true]
theorem ix_l {ds : List D} {i : Nat} {d : D} (h : ds[i]? = some d) : ixD (.list ds) (.int i) = some d := L2.atI_nat h
theorem ix_li {ds : List D} {i : Int} {d : D} (h0 : 0 ≤ i) (h : ds[i.toNat]? = some d) : ixD (.list ds) (.int i) = some d := by
  have := ix_l h
  rwa [Int.toNat_of_nonneg h0] at this
theorem cat_t {a b : List D} (h : a.length + b.length ≤ sizeLine) : addD (.tuple a) (.tuple b) = some (.tuple (a ++ b)) := by
  show (if _ then _ else _) = _
  rw [if_pos h]
theorem for_inv {g : SG} {body : SS} (I : Nat → Env → Prop) : ∀ (xs : List D) (i : Nat) (env : Env), I i env →
    (∀ j x env, xs[j]? = some x → I (i + j) env → ∃ e1, g x env = some e1 ∧ ∃ e2, (body e1 = some (.nx e2) ∨ body e1 = some (.ct e2)) ∧ I (i + j + 1) e2) → ∃ e, forGo g body xs env = some (.nx e) ∧ I (i + xs.length) e
  | [], i, env, h, _ => ⟨env, rfl, h⟩
  | x :: xs, i, env, h, step => by
    obtain ⟨e1, h1, e2, h2, h3⟩ := step 0 x env rfl h
    obtain ⟨e, h4, h5⟩ := for_inv I xs (i + 1) e2 h3 fun j y env' hy hI => by
      have := step (j + 1) y env' hy (by rw [show i + (j + 1) = i + 1 + j by omega]; exact hI)
      rwa [show i + (j + 1) + 1 = i + 1 + j + 1 by omega] at this
    refine ⟨e, ?_, by rw [show i + (x :: xs).length = i + 1 + xs.length by simp only [List.length_cons]; omega]; exact h5⟩
    simp only [forGo, h1, Option.bind_some]
    rcases h2 with h2 | h2 <;> (rw [h2]; exact h4)
theorem for_rng {g : SG} {body : SS} (I : Nat → Env → Prop) {lo : Int} {n : Nat} {env : Env} (h0 : I 0 env)
    (step : ∀ j env, j < n → I j env → ∃ e1, g (.int (lo + j)) env = some e1 ∧ ∃ e2, (body e1 = some (.nx e2) ∨ body e1 = some (.ct e2)) ∧ I (j + 1) e2) : ∃ e, forGo g body (rangeL lo n) env = some (.nx e) ∧ I n e := by
  have len : ∀ (lo : Int) n, (rangeL lo n).length = n := fun lo n => by
    induction n generalizing lo with
    | zero => rfl
    | succ n ih => exact congrArg (· + 1) (ih (lo + 1))
  have get : ∀ (n : Nat) (lo : Int) (j : Nat) x, (rangeL lo n)[j]? = some x → j < n ∧ x = .int (lo + j) := by
    intro n
    induction n with
    | zero => intro lo j x h; simp [rangeL] at h
    | succ n ih =>
      intro lo j x h
      cases j with
      | zero => simp [rangeL] at h; exact ⟨by omega, by rw [← h]; simp⟩
      | succ j =>
        obtain ⟨h1, h2⟩ := ih (lo + 1) j x h
        exact ⟨by omega, by rw [h2]; congr 1; omega⟩
  obtain ⟨e, h1, h2⟩ := for_inv I (rangeL lo n) 0 env h0 fun j x env hx hI => by
    obtain ⟨h3, h4⟩ := get n lo j x hx
    subst h4
    rw [Nat.zero_add] at hI ⊢
    exact step j env h3 hI
  rw [len, Nat.zero_add] at h2
  exact ⟨e, h1, h2⟩
section
variable {α : Type} {lt : α → α → Bool}
theorem insB_perm (x : α) : ∀ l : List α, (insB lt x l).Perm (x :: l)
  | [] => List.Perm.refl _
  | y :: r => by
    unfold insB
    split
    · exact ((insB_perm x r).cons y).trans (List.Perm.swap x y r)
    · exact List.Perm.refl _
theorem isort_perm : ∀ l : List α, (isort lt l).Perm l
  | [] => List.Perm.refl _
  | x :: r => (insB_perm x (isort lt r)).trans ((isort_perm r).cons x)
abbrev Asc (lt : α → α → Bool) (l : List α) : Prop := l.Pairwise fun a b => lt b a = false
theorem insB_asc (O : SrtO.Swo lt) (x : α) : ∀ l : List α, Asc lt l → Asc lt (insB lt x l)
  | [], _ => List.pairwise_singleton _ _
  | y :: r, h => by
    have hy := List.pairwise_cons.mp h
    unfold insB
    split
    · rename_i hlt
      refine List.pairwise_cons.mpr ⟨fun z hz => ?_, insB_asc O x r hy.2⟩
      rcases List.mem_cons.mp ((insB_perm x r).mem_iff.mp hz) with e | hz
      · rw [e]
        exact O.asym y x hlt
      · exact hy.1 z hz
    · rename_i hlt
      exact List.pairwise_cons.mpr ⟨fun z hz => by
        rcases List.mem_cons.mp hz with e | hz
        · rw [e]; exact Bool.eq_false_iff.mpr hlt
        · exact O.tr x y z (Bool.eq_false_iff.mpr hlt) (hy.1 z hz), h⟩
theorem isort_asc (O : SrtO.Swo lt) : ∀ l : List α, Asc lt (isort lt l)
  | [] => List.Pairwise.nil
  | x :: r => insB_asc O x _ (isort_asc O r)
theorem asc_uniq (anti : ∀ x y, lt x y = false → lt y x = false → x = y) : ∀ {l m : List α}, l.Perm m → Asc lt l → Asc lt m → l = m
  | [], m, p, _, _ => (List.Perm.eq_nil p.symm).symm
  | x :: l, [], p, _, _ => absurd p.length_eq (by simp)
  | x :: l, y :: m, p, hl, hm => by
    have h1 := List.pairwise_cons.mp hl
    have h2 := List.pairwise_cons.mp hm
    have e : x = y := by
      rcases List.mem_cons.mp (p.mem_iff.mp (List.mem_cons_self (a := x) (l := l))) with e | hx
      · exact e
      · rcases List.mem_cons.mp (p.mem_iff.mpr (List.mem_cons_self (a := y) (l := m))) with e | hy
        · exact e.symm
        · exact anti x y (h2.1 x hx) (h1.1 y hy)
    subst e
    rw [asc_uniq anti p.cons_inv h1.2 h2.2]
end
theorem swoI : SrtO.Swo ltI := ⟨fun x y h => by
  have h' := of_decide_eq_true h
  exact decide_eq_false (by omega), fun x y z h1 h2 => by
  have a := of_decide_eq_false h1
  have b := of_decide_eq_false h2
  exact decide_eq_false (by omega)⟩
theorem antiI (x y : Int) (h1 : ltI x y = false) (h2 : ltI y x = false) : x = y := by
  have a := of_decide_eq_false h1
  have b := of_decide_eq_false h2
  omega
theorem swoP : SrtO.Swo ltPr := by
  refine ⟨fun x y h => ?_, fun x y z h1 h2 => ?_⟩
  · have a := SrtO.lexB_iff.mp h
    refine SrtO.lexB_no.mpr ?_
    omega
  · have a := SrtO.lexB_no.mp h1
    have b := SrtO.lexB_no.mp h2
    refine SrtO.lexB_no.mpr ?_
    omega
theorem antiP (p q : Int × Int) (h1 : ltPr p q = false) (h2 : ltPr q p = false) : p = q := by
  have a := SrtO.lexB_no.mp h1
  have b := SrtO.lexB_no.mp h2
  have e1 : p.1 = q.1 := by omega
  have e2 : p.2 = q.2 := by omega
  exact Prod.ext e1 e2
theorem sorted_prs (ps : List (Int × Int)) : sortedD (.list (ps.map prD)) = some (.list ((isort ltPr ps).map prD)) := by
  have h : ∀ ps : List (Int × Int), prsOf (ps.map prD) = some ps := by
    intro ps
    induction ps with
    | nil => rfl
    | cons n r ih => simp only [List.map_cons, prD, prsOf, ih, Option.map_some]
  cases ps with
  | nil => rfl
  | cons p r =>
    have e : intsOf ((p :: r).map prD) = none := rfl
    simp only [sortedD, sortL, e, h, Option.map_some]
def rangeI (lo : Int) (n : Nat) : List Int := (List.range n).map fun (i : Nat) => lo + (i : Int)
theorem rangeL_eq : ∀ (n : Nat) (lo : Int), rangeL lo n = (rangeI lo n).map .int
  | 0, lo => rfl
  | n + 1, lo => by
    show PyData.int lo :: rangeL (lo + 1) n = _
    rw [rangeL_eq n (lo + 1)]
    unfold rangeI
    rw [List.range_succ_eq_map]
    simp only [List.map_cons, List.map_map]
    congr 1
    · simp
    · refine List.map_congr_left fun i _ => ?_
      simp only [Function.comp]
      congr 1
      omega
theorem rangeI_mem {lo a : Int} {n : Nat} : a ∈ rangeI lo n ↔ lo ≤ a ∧ a < lo + n := by
  unfold rangeI
  rw [List.mem_map]
  constructor
  · rintro ⟨i, hi, rfl⟩
    have := List.mem_range.mp hi
    omega
  · rintro ⟨h1, h2⟩
    exact ⟨(a - lo).toNat, List.mem_range.mpr (by omega), by omega⟩
theorem rangeI_len (lo : Int) (n : Nat) : (rangeI lo n).length = n := by
  unfold rangeI
  rw [List.length_map, List.length_range]
theorem rangeI_get {lo : Int} {n i : Nat} (h : i < n) : (rangeI lo n)[i]? = some (lo + i) := by
  unfold rangeI
  rw [List.getElem?_map, List.getElem?_range h]
  rfl
theorem rng_0 {n : Int} (h0 : 0 ≤ n) (h : n ≤ 1000000) : rangeD 0 n = some ((rangeI 0 n.toNat).map .int) := by
  rw [rng_n (by decide) (by decide) (by omega) h, rangeL_eq]
  simp
theorem lc_typed {α β : Type} {g : SG} {c : ST} {e : SE} {env : Env} (ι : α → D) (κ : β → D) (G : α → Option β) : ∀ {zs : List α},
    (∀ a ∈ zs, ∃ env1, g (ι a) env = some env1 ∧ ((∃ b, G a = some b ∧ c env1 = some true ∧ e env1 = some (κ b)) ∨ (G a = none ∧ c env1 = some false))) → lcGo g c e env (zs.map ι) = some ((zs.filterMap G).map κ)
  | [], _ => rfl
  | a :: zs, h => by
    obtain ⟨env1, h1, h2⟩ := h a List.mem_cons_self
    have ih := lc_typed ι κ G (zs := zs) fun b hb => h b (List.mem_cons_of_mem _ hb)
    simp only [List.map_cons, lcGo, h1, Option.bind_some]
    rcases h2 with ⟨b, h3, h4, h5⟩ | ⟨h3, h4⟩
    · simp [h4, h5, ih, List.filterMap_cons, h3]
    · simp [h4, ih, List.filterMap_cons, h3]
theorem lc_map {α β : Type} {g : SG} {e : SE} {env : Env} (ι : α → D) (κ : β → D) (G : α → β) {zs : List α}
    (h : ∀ a ∈ zs, ∃ env1, g (ι a) env = some env1 ∧ e env1 = some (κ (G a))) : lcGo g cYes e env (zs.map ι) = some ((zs.map G).map κ) := by
  rw [lc_typed ι κ (fun a => some (G a)) fun a ha => by
    obtain ⟨env1, h1, h2⟩ := h a ha
    exact ⟨env1, h1, .inl ⟨G a, rfl, rfl, h2⟩⟩]
  congr 2
  exact List.filterMap_eq_map ▸ rfl
theorem lc_filter {α β : Type} {g : SG} {c : ST} {e : SE} {env : Env} (ι : α → D) (κ : β → D) (p : α → Bool) (G : α → β) {zs : List α}
    (h : ∀ a ∈ zs, ∃ env1, g (ι a) env = some env1 ∧ c env1 = some (p a) ∧ (p a = true → e env1 = some (κ (G a)))) : lcGo g c e env (zs.map ι) = some (((zs.filter p).map G).map κ) := by
  rw [lc_typed ι κ (fun a => if p a = true then some (G a) else none) fun a ha => by
    obtain ⟨env1, h1, h2, h3⟩ := h a ha
    refine ⟨env1, h1, ?_⟩
    cases q : p a with
    | true => exact .inl ⟨G a, by simp, by rw [h2, q], h3 q⟩
    | false => exact .inr ⟨by simp, by rw [h2, q]⟩]
  congr 2
  induction zs with
  | nil => rfl
  | cons a zs ih =>
    have ih := ih fun b hb => h b (List.mem_cons_of_mem _ hb)
    cases q : p a <;> simp [q, ih]
theorem ix_ints {rs : List Int} {i : Int} (h0 : 0 ≤ i) (h : i < rs.length) : ixD (.list (rs.map .int)) (.int i) = some (.int (rs.getD i.toNat 0)) := by
  refine ix_li h0 ?_
  have h' : i.toNat < rs.length := by omega
  rw [List.getElem?_map, List.getD_eq_getElem?_getD, List.getElem?_eq_getElem h']
  rfl
theorem getD_mem {rs : List Int} {i : Nat} (h : i < rs.length) : rs.getD i 0 ∈ rs := by
  rw [List.getD_eq_getElem?_getD, List.getElem?_eq_getElem h]
  exact List.getElem_mem h
theorem seq_go {a b : SS} {env e : Env} {r : Option Out} (h1 : a env = some (.nx e)) (h2 : b e = r) : sSeq a b env = r := by
  simp only [sSeq, h1, Option.bind_some]
  exact h2
theorem seq_rt {a b : SS} {env : Env} {d : D} (h1 : a env = some (.rt d)) : sSeq a b env = some (.rt d) := by
  simp only [sSeq, h1, Option.bind_some]
theorem run_rt {np nl : Nat} {body : SS} {ds : List D} {d : D} (hl : ds.length = np) (h : body (ds.map some ++ List.replicate nl none) = some (.rt d)) : runF np nl body ds = some d := by
  simp only [runF, hl, if_true, h, Option.bind_some, outD]
theorem if_t {c : ST} {a b : SS} {env : Env} {r : Option Out} (h1 : c env = some true) (h2 : a env = r) : sIf c a b env = r := by
  simp only [sIf, h1, Option.bind_some, if_true]
  exact h2
theorem if_f {c : ST} {a b : SS} {env : Env} {r : Option Out} (h1 : c env = some false) (h2 : b env = r) : sIf c a b env = r := by
  simp only [sIf, h1, Option.bind_some, Bool.false_eq_true, if_false]
  exact h2
theorem for_go {it : SI} {g : SG} {b : SS} {env : Env} {ds : List D} {r : Option Out} (h1 : it env = some ds) (h2 : forGo g b ds env = r) : sFor it g b env = r := by
  simp only [sFor, h1, Option.bind_some]
  exact h2
theorem lc_go {vs : List Nat} {it : SI} {g : SG} {c : ST} {e : SE} {env : Env} {ds rs : List D} (h1 : it env = some ds) (h2 : lcGo g c e (wipeE env vs) ds = some rs) : eLc vs it g c e env = some (.list rs) := by
  simp only [eLc, h1, Option.bind_some, h2, Option.map_some]
theorem asg_go {a : SE} {i : Nat} {env : Env} {d : D} (h : a env = some d) : sAsg a (TL.gName i) env = some (.nx (env.set i (some d))) := by
  simp only [sAsg, h, Option.bind_some, TL.gName, Option.map_some]
theorem e2_go {op : D → D → Option D} {a b : SE} {env : Env} {x y : D} {r : Option D} (h1 : a env = some x) (h2 : b env = some y) (h3 : op x y = r) : e2 op a b env = r := by
  simp only [e2, h1, h2, Option.bind_some]
  exact h3
theorem e1_go {op : D → Option D} {a : SE} {env : Env} {x : D} {r : Option D} (h1 : a env = some x) (h3 : op x = r) : e1 op a env = r := by
  simp only [e1, h1, Option.bind_some]
  exact h3
theorem ret_go {a : SE} {env : Env} {d : D} (h : a env = some d) : sRet a env = some (.rt d) := by
  simp only [sRet, h, Option.map_some]
theorem shaped_of {d : D} (h1 : PyData.canLay0 d = true) (h2 : d.depth ≤ 64) : SeqAt.shaped d = true := by
  unfold SeqAt.shaped
  rw [h1, decide_eq_true h2]
  rfl
theorem lay_ints : ∀ l : List Int, PyData.canLayAll0 (l.map .int) = true
  | [] => by simp [PyData.canLayAll0]
  | i :: r => by simp [PyData.canLayAll0, PyData.canLay0, lay_ints r]
theorem dep_ints : ∀ l : List Int, PyData.depthAll (l.map .int) = 0
  | [] => by simp [PyData.depthAll]
  | i :: r => by simp [PyData.depthAll, PyData.depth, dep_ints r]
theorem lay_pr (p : Int × Int) : PyData.canLay0 (prD p) = true := by simp [prD, PyData.canLay0, PyData.canLayAll0]
theorem dep_pr (p : Int × Int) : (prD p).depth = 1 := by simp [prD, PyData.depth, PyData.depthAll]
theorem lay_prs : ∀ l : List (Int × Int), PyData.canLayAll0 (l.map prD) = true
  | [] => by simp [PyData.canLayAll0]
  | p :: r => by simp [PyData.canLayAll0, lay_pr p, lay_prs r]
theorem dep_prs : ∀ l : List (Int × Int), PyData.depthAll (l.map prD) ≤ 1
  | [] => by simp [PyData.depthAll]
  | p :: r => by
    have h := dep_prs r
    simp only [List.map_cons, PyData.depthAll, dep_pr p]
    omega
theorem shaped_pr (p : Int × Int) : SeqAt.shaped (prD p) = true := shaped_of (lay_pr p) (by rw [dep_pr]; decide)
theorem shaped_ti (l : List Int) : SeqAt.shaped (.tuple (l.map .int)) = true := shaped_of (by simp [PyData.canLay0, lay_ints l]) (by simp [PyData.depth, dep_ints l])
theorem shaped_tp (l : List (Int × Int)) : SeqAt.shaped (.tuple (l.map prD)) = true := shaped_of (by simp [PyData.canLay0, lay_prs l]) (by
  have := dep_prs l
  simp only [PyData.depth]
  omega)
theorem eqv_int (a b : Int) : PyData.eqv (.int a) (.int b) = decide (a = b) := by
  simp [PyData.eqv]
  by_cases h : a = b <;> simp [h]
theorem eqv_pr (p q : Int × Int) : PyData.eqv (prD p) (prD q) = decide (p = q) := by
  obtain ⟨a, b⟩ := p
  obtain ⟨c, d⟩ := q
  simp only [prD, PyData.eqv, PyData.eqvAll, Bool.and_true]
  by_cases h : a = c <;> by_cases h2 : b = d <;> simp [h, h2]
theorem any_ints (i : Int) : ∀ l : List Int, ((l.map PyData.int).any fun z => PyData.eqv z (.int i)) = decide (i ∈ l)
  | [] => by simp
  | a :: r => by
    simp only [List.map_cons, List.any_cons, any_ints i r, eqv_int]
    by_cases h : a = i
    · simp [h]
    · have h' : ¬ i = a := fun e => h e.symm
      simp [h, h']
theorem any_prs (p : Int × Int) : ∀ l : List (Int × Int), ((l.map prD).any fun z => PyData.eqv z (prD p)) = decide (p ∈ l)
  | [] => by simp
  | a :: r => by
    simp only [List.map_cons, List.any_cons, any_prs p r, eqv_pr]
    by_cases h : a = p
    · simp [h]
    · have h' : ¬ p = a := fun e => h e.symm
      simp [h, h']
theorem in_ti (i : Int) (l : List Int) : inD (.int i) (.tuple (l.map .int)) = some (.bool (decide (i ∈ l))) := by
  simp only [inD, shaped_int, shaped_ti, and_self, if_true, any_ints]
theorem in_tp (p : Int × Int) (l : List (Int × Int)) : inD (prD p) (.tuple (l.map prD)) = some (.bool (decide (p ∈ l))) := by
  simp only [inD, shaped_pr, shaped_tp, and_self, if_true, any_prs]
theorem for_cons {g : SG} {body : SS} {x : D} {xs : List D} {env e1 e2 : Env} {r : Option Out} (h1 : g x env = some e1) (h2 : body e1 = some (.nx e2)) (h3 : forGo g body xs e2 = r) : forGo g body (x :: xs) env = r := by
  simp only [forGo, h1, Option.bind_some, h2]
  exact h3
theorem tup1_go {a : SE} {env : Env} {d : D} (h : a env = some d) : eTup [a] env = some (.tuple [d]) := by
  simp only [eTup, eArgs, h, Option.bind_some, Option.map_some, List.length_cons, List.length_nil]
  rw [if_pos (small (by decide))]
end TL

set_option Elab.async false
set_option linter.all false
set_option maxRecDepth 100000
namespace TL
open PySem PySem.Spec PyProof.Rows L2
structure Gx where
  K : PySem.W.Frag
  mg : Str → Option Value
  P : Program
  w : World
abbrev gx (X : Cx) : Gx := ⟨X.K, X.mg, X.prog, X.w⟩
mutual
def keyD : D → Option NestedKey
  | .none => some .none
  | .bool b => some (.num (if b = true then 1 else 0))
  | .int i => some (.num i)
  | .str x => some (.text x)
  | .tuple ds => (keyAll ds).map .tup
  | .list _ => none
  | .dict _ => none
def keyAll : List D → Option (List NestedKey)
  | [] => some []
  | d :: r => (keyD d).bind fun k => (keyAll r).map (k :: ·)
end
abbrev KEnt := NestedKey × Addr × V
abbrev KEnt' := NestedKey × Addr × Value
abbrev KRel : KEnt → KEnt' → Prop := fun x u => x.1 = u.1 ∧ x.2.1 = u.2.1 ∧ RelV x.2.2 u.2.2
def rawO (P : Program) (w : World) (r : Addr) (xs : List KEnt) : HO := .ext fun h => ∃ o es ep us, h.get? r = some o ∧ o.ExactDict ∧ o.data = .dict es ep ∧ es.toList = us.map (entryOfKey (nestedKind P w)) ∧ Paired KRel xs us
def atV (xs : List KEnt) (k : NestedKey) : Option V := (xs.find? fun x => decide (x.1 = k)).map (·.2.2)
def putR (xs : List KEnt) (k : NestedKey) (b : Addr) (v : V) : List KEnt := if (atV xs k).isSome then xs.map fun x => if x.1 = k then (x.1, x.2.1, v) else x else xs ++ [(k, b, v)]
inductive Kd where
  | lst
  | dct (o : Option Obj) (ks : List NestedKey)
  | dki (o : Option Obj) (ks : List Int)
def frzO : Option Obj → HO → HO
  | none, u => u
  | some o, u => .frz o u
def frzM : Option Obj → D
  | none => .none
  | some _ => .bool true
def entsOf : List NestedKey → List V → List KEnt
  | k :: ks, .ref b :: v :: vs => (k, b, v) :: entsOf ks vs
  | _, _ => []
def entsI : List V → List (Key × V)
  | .int i :: v :: vs => (.inl i, v) :: entsI vs
  | _ => []
def prsD : List D → List (D × D)
  | a :: b :: r => (a, b) :: prsD r
  | _ => []
def keysD : List D → List D
  | a :: _ :: r => a :: keysD r
  | _ => []
def kO (P : Program) (w : World) (p : Addr) : Kd → List V → HO
  | .lst, vs => .lst vs
  | .dct o ks, vs => frzO o (rawO P w p (entsOf ks vs))
  | .dki o _, vs => frzO o (.dK (entsI vs))
def kD : Kd → List D → D
  | .lst, ds => .list ds
  | .dct o _, ds => .dict ((.none, frzM o) :: prsD ds)
  | .dki o _, ds => .dict ((.tuple [], frzM o) :: prsD ds)
def KdOk (p : Addr) : Kd → List D → Prop
  | .lst, _ => True
  | .dct _ ks, ds => keyAll (keysD ds) = some ks ∧ ks.Nodup ∧ ks.length < sizeLine ∧ ds.length = 2 * ks.length ∧ (∀ k ∈ ks, k.depth ≤ 8) ∧ (p == sysModules) = false ∧ ∀ d ∈ keysD ds, ∃ es, d = .tuple es
  | .dki _ ks, ds => keysD ds = ks.map .int ∧ ks.Nodup ∧ ks.length < sizeLine ∧ ds.length = 2 * ks.length ∧ (p == sysModules) = false

def nt : HO → Bool
  | .tbl _ => false
  | _ => true
structure SameN (H H' : Hp) : Prop where
  nn : ∀ p o, H p = some o → nt o = true → H' p = some o
  tb : ∀ p ps, H p = some (.tbl ps) → ∃ ps', H' p = some (.tbl ps') ∧ (TriplesOk ps.toList → TriplesOk ps'.toList)
theorem SameN.of {H H' : Hp} (h : Same H H') : SameN H H' := ⟨fun p o e _ => h p o e, fun p ps e => ⟨ps, h p _ e, id⟩⟩
theorem SameN.refl (H : Hp) : SameN H H := .of (Same.refl H)
theorem SameN.trans {H H1 H2 : Hp} (a : SameN H H1) (b : SameN H1 H2) : SameN H H2 := ⟨fun p o e n => b.nn p o (a.nn p o e n) n, fun p ps e => by
  obtain ⟨ps1, e1, t1⟩ := a.tb p ps e
  obtain ⟨ps2, e2, t2⟩ := b.tb p ps1 e1
  exact ⟨ps2, e2, fun z => t2 (t1 z)⟩⟩
theorem SameN.some_ {H H' : Hp} (a : SameN H H') {p : Addr} {o : HO} (e : H p = some o) : ∃ o', H' p = some o' := by
  cases o with
  | tbl ps => obtain ⟨ps', e', _⟩ := a.tb p ps e; exact ⟨_, e'⟩
  | _ => exact ⟨_, a.nn p _ e rfl⟩
theorem SameN.ex {H H' : Hp} (a : SameN H H') {p : Addr} {o : HO} (e : H p = some o) : ∃ o', H' p = some o' ∧ (nt o = true → o' = o) := by
  cases o with
  | tbl ps => obtain ⟨ps', e', _⟩ := a.tb p ps e; exact ⟨_, e', fun z => (by cases z)⟩
  | _ => exact ⟨_, a.nn p _ e rfl, fun _ => rfl⟩
theorem SameN.free {H H' : Hp} (a : SameN H H') {p : Addr} (h : H' p = none) : H p = none := by
  cases e : H p with
  | none => rfl
  | some o =>
    obtain ⟨o', e'⟩ := a.some_ e
    rw [h] at e'; cases e'
theorem SameN.upd_ {H H' : Hp} (a : SameN H H') {p : Addr} {o : HO} (hn : H p = none) : SameN H (upd H' p o) :=
  ⟨fun b u e n => by rw [upd_ne (ne_of_none e hn)]; exact a.nn b u e n, fun b ps e => by rw [upd_ne (ne_of_none e hn)]; exact a.tb b ps e⟩
theorem SameN.seq {K : PySem.W.Frag} {H H' : Hp} {a : Addr} {xs : List V} (e : SameN H H') (h : SqL K H a xs) : SqL K H' a xs := by
  rcases h with (h | ⟨o, h⟩) | h
  · exact .inl (.inl (e.nn _ _ h rfl))
  · exact .inl (.inr ⟨o, e.nn _ _ h rfl⟩)
  · exact .inr h
theorem nt_kO (P : Program) (w : World) (p : Addr) (k : Kd) (vs : List V) : nt (kO P w p k vs) = true := by
  cases k with
  | lst => rfl
  | dct o ks => cases o <;> rfl
  | dki o ks => cases o <;> rfl
theorem SameN.o {H H' : Hp} (a : SameN H H') {P : Program} {w : World} {q p : Addr} {k : Kd} {vs : List V} (e : H q = some (kO P w p k vs)) : H' q = some (kO P w p k vs) := a.nn q _ e (nt_kO _ _ _ _ _)
theorem SameN.l {H H' : Hp} (a : SameN H H') {p : Addr} {vs : List V} (e : H p = some (.lst vs)) : H' p = some (.lst vs) := a.nn p _ e rfl
structure Gr (F H F' H' : Hp) : Prop where
  ff : Same F F'
  hh : SameN H H'
  fh : Same F' H'
  hid : ∀ p o, H p = some o → F p = none → F' p = none
theorem Gr.refl {F H : Hp} (h : Same F H) : Gr F H F H := ⟨Same.refl F, SameN.refl H, h, fun _ _ _ e => e⟩
theorem Gr.trans {F H F1 H1 F2 H2 : Hp} (a : Gr F H F1 H1) (b : Gr F1 H1 F2 H2) : Gr F H F2 H2 :=
  ⟨a.ff.trans b.ff, a.hh.trans b.hh, b.fh, fun p o e n => let ⟨o', e'⟩ := a.hh.some_ e; b.hid p o' e' (a.hid p o e n)⟩
def tabNames : List Str := ["truth", "can_go", "dense_truth", "steps_truth", "line_truth"]
def TbOk (G : Gx) (F H : Hp) : Prop := ∀ x ∈ tabNames, ∀ c P, PySem.W.tabIn G.K x = some (c, P) → F P = none ∧ GxR.TabG H P
theorem TbOk.gr {G : Gx} {F H F' H' : Hp} (t : TbOk G F H) (g : Gr F H F' H') : TbOk G F' H' := fun x hx c P e => by
  obtain ⟨h1, ps, h2, h3⟩ := t x hx c P e
  obtain ⟨ps', e', t'⟩ := g.hh.tb P ps h2
  exact ⟨g.hid P _ h2 h1, ps', e', t' h3⟩
theorem TbOk.upd_o {G : Gx} {F H : Hp} (t : TbOk G F H) {p : Addr} {u : HO} (h : H p = some u) (n : nt u = true) {o : HO} : TbOk G F (upd H p o) := fun x hx c P e => by
  obtain ⟨h1, ps, h2, h3⟩ := t x hx c P e
  have hn : P ≠ p := fun z => by rw [z, h] at h2; cases h2; cases n
  exact ⟨h1, ps, by rw [upd_ne hn]; exact h2, h3⟩
theorem TbOk.upd_ {G : Gx} {F H : Hp} (t : TbOk G F H) {p : Addr} {vs : List V} (h : H p = some (.lst vs)) {o : HO} : TbOk G F (upd H p o) := fun x hx c P e => by
  obtain ⟨h1, ps, h2, h3⟩ := t x hx c P e
  have hn : P ≠ p := fun z => by rw [z, h] at h2; cases h2
  exact ⟨h1, ps, by rw [upd_ne hn]; exact h2, h3⟩
structure Fz (G : Gx) (F H : Hp) : Prop where
  sm : Same F H
  tb : TbOk G F H
theorem Fz.gr {G : Gx} {F H F' H' : Hp} (f : Fz G F H) (g : Gr F H F' H') : Fz G F' H' := ⟨g.fh, f.tb.gr g⟩
theorem same_upd {H : Hp} {p : Addr} {o : HO} (h : H p = none) : Same H (upd H p o) := fun b x e => by
  rw [upd_ne (ne_of_none e h)]
  exact e
theorem Same.nn {F H : Hp} (s : Same F H) {p : Addr} (h : H p = none) : F p = none := Same.free s h
theorem Gr.new {F H : Hp} {p : Addr} {o : HO} (s : Same F H) (h : H p = none) : Gr F H (upd F p o) (upd H p o) := by
  refine ⟨same_upd (Same.nn s h), .of (same_upd h), fun b x e => ?_, fun b x e n => ?_⟩
  · by_cases hb : b = p
    · subst hb
      rw [upd_same] at e ⊢
      exact e
    · rw [upd_ne hb] at e ⊢
      exact s b x e
  · rw [upd_ne (ne_of_none e h)]
    exact n
theorem Gr.open_ {F H : Hp} {p : Addr} {o : HO} (s : Same F H) (h : H p = none) : Gr F H F (upd H p o) :=
  ⟨Same.refl F, .of (same_upd h), s.trans (same_upd h), fun _ _ _ n => n⟩
theorem Gr.close {F H F' H' : Hp} {p : Addr} {o : HO} (g : Gr F H F' H') (hn : H p = none) (hf : F' p = none) (hh : H' p = some o) : Gr F H (upd F' p o) H' := by
  refine ⟨g.ff.trans (same_upd hf), g.hh, fun b x e => ?_, fun b x e n => ?_⟩
  · by_cases hb : b = p
    · subst hb
      rw [upd_same] at e
      rw [hh]
      exact e
    · rw [upd_ne hb] at e
      exact g.fh b x e
  · rw [upd_ne (ne_of_none e hn)]
    exact g.hid b x e n

theorem sameT {K : PySem.W.Frag} {H H' : Hp} {a : Addr} {xs : List V} (e : Same H H') (h : SqT K H a xs) : SqT K H' a xs := by
  rcases h with (h | ⟨o, h⟩) | h
  · exact .inl (.inl (e _ _ h))
  · exact .inl (.inr ⟨o, e _ _ h⟩)
  · exact .inr h

def SqU (K : PySem.W.Frag) (F : Hp) (a : Addr) (xs : List V) : Prop :=
  (∃ o : Obj, F a = some (.frz o (.tup xs)) ∧ o.dict = none) ∨
    ∃ (o : Obj) (its : Array Value) (n : Nat), K.lookup a = some o ∧ o.cls = .type "tuple" ∧ o.dict = none ∧ o.data = .seq its n ∧ its.size ≤ sizeLine ∧ Vals xs its.toList
theorem SqU.t {K : PySem.W.Frag} {F : Hp} {a : Addr} {xs : List V} (h : SqU K F a xs) : SqT K F a xs := by
  rcases h with ⟨o, h, _⟩ | ⟨o, its, n, h1, h2, _, h3, h4, h5⟩
  · exact .inl (.inr ⟨o, h⟩)
  · exact .inr ⟨o, its, n, h1, h2, h3, h4, h5⟩
theorem sameU {K : PySem.W.Frag} {H H' : Hp} {a : Addr} {xs : List V} (e : Same H H') (h : SqU K H a xs) : SqU K H' a xs := by
  rcases h with ⟨o, h, d⟩ | h
  · exact .inl ⟨o, e _ _ h, d⟩
  · exact .inr h
mutual
inductive Rp (G : Gx) (F : Hp) : V → D → Prop
  | non : Rp G F .non .none
  | bl (b : Bool) : Rp G F (.bl b) (.bool b)
  | int (i : Int) : Rp G F (.int i) (.int i)
  | str (x : Str) : Rp G F (.str x) (.str x)
  | lst {a : Addr} {xs : List V} {ds : List D} : SqL G.K F a xs → RpAll G F xs ds → Rp G F (.ref a) (.list ds)
  | tup {a : Addr} {xs : List V} {ds : List D} : SqU G.K F a xs → RpAll G F xs ds → Rp G F (.ref a) (.tuple ds)
  /-- a def -/
  | fn {a : Addr} {x : Str} : G.mg x = some (.ref a) → Rp G F (.ref a) (.dict [(.str x, .none)])
  /-- a pool: rows, and the counter's cell r -/
  | pl {p a : Addr} {r : Nat} {xs : List V} {ds : List D} : SqL G.K F p [.ref a, .ref r] → SqL G.K F a xs → RpAll G F xs ds → Rp G F (.ref p) (.dict [(.int (r : Int), .list ds)])
  /-- a range -/
  | rng {a : Addr} {lo hi : Int} : F a = some (.rng lo hi) → Rp G F (.ref a) (.dict [(.bool true, .tuple [.int lo, .int hi])])
  /-- a dict -/
  | dct {a : Addr} {o : Option Obj} {ks : List NestedKey} {vs : List V} {ds : List D} : F a = some (kO G.P G.w a (.dct o ks) vs) → KdOk a (.dct o ks) ds → RpAll G F vs ds → Rp G F (.ref a) (kD (.dct o ks) ds)
  /-- a dict whose keys are whole numbers -/
  | dki {a : Addr} {o : Option Obj} {ks : List Int} {vs : List V} {ds : List D} : F a = some (kO G.P G.w a (.dki o ks) vs) → KdOk a (.dki o ks) ds → RpAll G F vs ds → Rp G F (.ref a) (kD (.dki o ks) ds)
inductive RpAll (G : Gx) (F : Hp) : List V → List D → Prop
  | nil : RpAll G F [] []
  | cons {v : V} {vs : List V} {d : D} {ds : List D} : Rp G F v d → RpAll G F vs ds → RpAll G F (v :: vs) (d :: ds)
end
section
variable {G : Gx} {F F' H H' : Hp}
mutual
theorem Rp.mono (e : Same F F') : ∀ {d : D} {v : V}, Rp G F v d → Rp G F' v d
  | _, _, .non => .non
  | _, _, .bl b => .bl b
  | _, _, .int i => .int i
  | _, _, .str x => .str x
  | _, _, .lst h a => .lst (e.seq h) (RpAll.mono e a)
  | _, _, .tup h a => .tup (sameU e h) (RpAll.mono e a)
  | _, _, .fn h => .fn h
  | _, _, .pl h h2 a => .pl (e.seq h) (e.seq h2) (RpAll.mono e a)
  | _, _, .rng h => .rng (e _ _ h)
  | _, _, .dct h k a => .dct (e _ _ h) k (RpAll.mono e a)
  | _, _, .dki h k a => .dki (e _ _ h) k (RpAll.mono e a)
theorem RpAll.mono (e : Same F F') : ∀ {ds : List D} {vs : List V}, RpAll G F vs ds → RpAll G F' vs ds
  | _, _, .nil => .nil
  | _, _, .cons h r => .cons (Rp.mono e h) (RpAll.mono e r)
end
theorem RpAll.length : ∀ {ds : List D} {vs : List V}, RpAll G F vs ds → vs.length = ds.length
  | _, _, .nil => rfl
  | _, _, .cons _ r => congrArg (· + 1) (RpAll.length r)
theorem RpAll.get : ∀ {ds : List D} {vs : List V} {i : Nat} {d : D}, RpAll G F vs ds → ds[i]? = some d → ∃ v, vs[i]? = some v ∧ Rp G F v d
  | _, _, _, _, .nil, e => by simp at e
  | _, _, 0, _, .cons h _, e => by
    have e' := Option.some.inj e
    subst e'
    exact ⟨_, rfl, h⟩
  | _, _, i + 1, _, .cons _ r, e => RpAll.get (i := i) r e
theorem RpAll.append : ∀ {ds es : List D} {vs us : List V}, RpAll G F vs ds → RpAll G F us es → RpAll G F (vs ++ us) (ds ++ es)
  | _, _, _, _, .nil, r => r
  | _, _, _, _, .cons h t, r => .cons h (RpAll.append t r)
theorem RpAll.take : ∀ {ds : List D} {vs : List V} (n : Nat), RpAll G F vs ds → RpAll G F (vs.take n) (ds.take n)
  | _, _, 0, _ => .nil
  | _, _, _ + 1, .nil => .nil
  | _, _, n + 1, .cons h t => .cons h (RpAll.take n t)
theorem RpAll.drop : ∀ {ds : List D} {vs : List V} (n : Nat), RpAll G F vs ds → RpAll G F (vs.drop n) (ds.drop n)
  | _, _, 0, r => r
  | _, _, _ + 1, .nil => .nil
  | _, _, n + 1, .cons _ t => RpAll.drop n t
theorem RpAll.reverse {ds : List D} {vs : List V} (h : RpAll G F vs ds) : RpAll G F vs.reverse ds.reverse := by
  induction ds generalizing vs with
  | nil => cases h; exact .nil
  | cons d ds ih =>
    cases h with
    | cons h t =>
      rw [List.reverse_cons, List.reverse_cons]
      exact (ih t).append (.cons h .nil)
theorem RpAll.atI {ds : List D} {vs : List V} {i : Int} {d : D} (h : RpAll G F vs ds) (e : L2.atI ds i = some d) : ∃ v, L2.atI vs i = some v ∧ Rp G F v d := by
  unfold L2.atI at e ⊢
  rw [h.length]
  cases q : ixN ds.length i with
  | none => rw [q] at e; cases e
  | some j =>
    rw [q] at e
    exact h.get e
def RpB (G : Gx) (F H : Hp) (v : V) (d : D) : Prop := Rp G F v d ∨ ∃ p k vs ds, v = .ref p ∧ d = kD k ds ∧ H p = some (kO G.P G.w p k vs) ∧ RpAll G F vs ds ∧ KdOk p k ds
theorem Rp.b {v : V} {d : D} (h : Rp G F v d) : RpB G F H v d := .inl h
theorem RpB.gr {v : V} {d : D} (h : RpB G F H v d) (g : Gr F H F' H') : RpB G F' H' v d := by
  rcases h with h | ⟨p, k, vs, ds, h1, h2, h3, h4, h5⟩
  · exact .inl (h.mono g.ff)
  · exact .inr ⟨p, k, vs, ds, h1, h2, g.hh.o h3, h4.mono g.ff, h5⟩
theorem RpB.int {v : V} {i : Int} (h : RpB G F H v (.int i)) : v = .int i := by
  rcases h with h | ⟨p, k, vs, ds, h1, h2, h3, h4⟩
  · cases h; rfl
  · cases k <;> cases h2
theorem RpB.bl {v : V} {i : Bool} (h : RpB G F H v (.bool i)) : v = .bl i := by
  rcases h with h | ⟨p, k, vs, ds, h1, h2, h3, h4⟩
  · cases h; rfl
  · cases k <;> cases h2
theorem RpB.str {v : V} {i : Str} (h : RpB G F H v (.str i)) : v = .str i := by
  rcases h with h | ⟨p, k, vs, ds, h1, h2, h3, h4⟩
  · cases h; rfl
  · cases k <;> cases h2
theorem RpB.non {v : V} (h : RpB G F H v .none) : v = .non := by
  rcases h with h | ⟨p, k, vs, ds, h1, h2, h3, h4⟩
  · cases h; rfl
  · cases k <;> cases h2
theorem RpB.tup {v : V} {ds : List D} (h : RpB G F H v (.tuple ds)) (s : Same F H) : ∃ a vs, v = .ref a ∧ SqU G.K F a vs ∧ SqT G.K H a vs ∧ RpAll G F vs ds := by
  rcases h with h | ⟨p, k, vs, ds, h1, h2, h3, h4⟩
  · cases h with
    | tup h r => exact ⟨_, _, rfl, h, sameT s h.t, r⟩
  · cases k <;> cases h2
theorem RpB.lst {v : V} {ds : List D} (h : RpB G F H v (.list ds)) (s : Same F H) : ∃ a vs, v = .ref a ∧ SqL G.K H a vs ∧ RpAll G F vs ds := by
  rcases h with h | ⟨p, k, vs, es, h1, h2, h3, h4, _⟩
  · cases h with
    | lst h r => exact ⟨_, _, rfl, s.seq h, r⟩
  · cases k with
    | lst =>
      cases h2
      exact ⟨p, vs, h1, .inl (.inl h3), h4⟩
    | dct o ks => cases h2
    | dki o ks => cases h2
mutual
theorem Rp.dp (s : Same F H) : ∀ {d : D} {v : V}, Rp G F v d → PyData.canLay0 d = true → Dp G.K H v d
  | _, _, .non, _ => .non
  | _, _, .bl b, _ => .bl b
  | _, _, .int i, _ => .int i
  | _, _, .str x, _ => .str x
  | _, _, .lst h a, c => .lst (s.seq h) (RpAll.dp s a (by simpa [PyData.canLay0] using c))
  | _, _, .tup h a, c => .tup (sameT s h.t) (RpAll.dp s a (by simpa [PyData.canLay0] using c))
  | _, _, .fn _, c => by simp [PyData.canLay0] at c
  | _, _, .pl _ _ _, c => by simp [PyData.canLay0] at c
  | _, _, .rng _, c => by simp [PyData.canLay0] at c
  | _, _, .dct _ _ _, c => by simp [kD, PyData.canLay0] at c
  | _, _, .dki _ _ _, c => by simp [kD, PyData.canLay0] at c
theorem RpAll.dp (s : Same F H) : ∀ {ds : List D} {vs : List V}, RpAll G F vs ds → PyData.canLayAll0 ds = true → DpAll G.K H vs ds
  | _, _, .nil, _ => .nil
  | _, _, .cons h r, c => by
    simp only [PyData.canLayAll0, Bool.and_eq_true] at c
    exact .cons (Rp.dp s h c.1) (RpAll.dp s r c.2)
end
theorem RpB.dp {v : V} {d : D} (h : RpB G F H v d) (s : Same F H) (c : PyData.canLay0 d = true) : Dp G.K H v d := by
  rcases h with h | ⟨p, k, vs, ds, rfl, rfl, h3, h4, _⟩
  · exact h.dp s c
  · cases k with
    | lst => exact .lst (.inl (.inl h3)) (h4.dp s (by simpa [kD, PyData.canLay0] using c))
    | dct o ks => simp [kD, PyData.canLay0] at c
    | dki o ks => simp [kD, PyData.canLay0] at c
theorem RpB.shp {v : V} {d : D} (h : RpB G F H v d) (s : Same F H) (c : SeqAt.shaped d = true) : Dp G.K H v d := h.dp s (SeqAt.canLay_of_shaped c)
theorem RpAll.ints : ∀ {ds : List D} {vs : List V} {ns : List Int}, RpAll G F vs ds → intsOf ds = some ns → vs = ns.map V.int
  | _, _, _, .nil, e => by
    cases e
    rfl
  | _ :: ds, _, ns, .cons h r, e => by
    cases h with
    | int i =>
      simp only [intsOf] at e
      cases q : intsOf ds with
      | none => rw [q] at e; cases e
      | some ms =>
        rw [q] at e
        cases e
        rw [RpAll.ints r q]
        rfl
    | _ => cases e
theorem RpAll.bools : ∀ {ds : List D} {vs : List V} {ns : List Bool}, RpAll G F vs ds → boolsOf ds = some ns → vs = ns.map V.bl
  | _, _, _, .nil, e => by
    cases e
    rfl
  | _ :: ds, _, ns, .cons h r, e => by
    cases h with
    | bl i =>
      simp only [boolsOf] at e
      cases q : boolsOf ds with
      | none => rw [q] at e; cases e
      | some ms =>
        rw [q] at e
        cases e
        rw [RpAll.bools r q]
        rfl
    | _ => cases e
end

structure SOk (G : Gx) (O : List Nat) (F H : Hp) (σ : L2.St) (env : Env) : Prop where
  fh : Same F H
  len : env.length = σ.length
  imm : ∀ (i : Nat) (d : D), env[i]? = some (some d) → i ∉ O → ∃ v, σ[i]? = some (some v) ∧ Rp G F v d
  own : ∀ i ∈ O, ∃ p k vs ds, σ[i]? = some (some (.ref p)) ∧ env[i]? = some (some (kD k ds)) ∧ F p = none ∧ H p = some (kO G.P G.w p k vs) ∧ RpAll G F vs ds ∧ KdOk p k ds
  dj : ∀ i ∈ O, ∀ j ∈ O, σ[i]? = σ[j]? → i = j
  tb : TbOk G F H
section
variable {G : Gx} {O O' : List Nat} {F H F' H' : Hp} {σ : L2.St} {env : Env}
theorem SOk.fz (s : SOk G O F H σ env) : Fz G F H := ⟨s.fh, s.tb⟩
theorem SOk.gr (s : SOk G O F H σ env) (g : Gr F H F' H') : SOk G O F' H' σ env := by
  refine ⟨g.fh, s.len, fun i d e n => ?_, fun i hi => ?_, s.dj, s.tb.gr g⟩
  · obtain ⟨v, h1, h2⟩ := s.imm i d e n
    exact ⟨v, h1, h2.mono g.ff⟩
  · obtain ⟨p, k, vs, ds, h1, h2, h3, h4, h5, h6⟩ := s.own i hi
    exact ⟨p, k, vs, ds, h1, h2, g.hid p _ h4 h3, g.hh.o h4, h5.mono g.ff, h6⟩
theorem Rp.ofK {p : Addr} {k : Kd} {vs : List V} {ds : List D} (h : F p = some (kO G.P G.w p k vs)) (r : RpAll G F vs ds) (o : KdOk p k ds) : Rp G F (.ref p) (kD k ds) := by
  cases k with
  | lst => exact .lst (.inl (.inl h)) r
  | dct oo ks => exact .dct h o r
  | dki oo ks => exact .dki h o r
theorem SOk.ownC (s : SOk G O F H σ env) {i : Nat} (hi : i ∈ O) : (∃ p vs ds, σ[i]? = some (some (.ref p)) ∧ env[i]? = some (some (.list ds)) ∧ F p = none ∧ H p = some (.lst vs) ∧ RpAll G F vs ds) ∨ ∃ kvs, env[i]? = some (some (.dict kvs)) := by
  obtain ⟨p, k, vs, ds, h1, h2, h3, h4, h5, h6⟩ := s.own i hi
  cases k with
  | lst => exact .inl ⟨p, vs, ds, h1, h2, h3, h4, h5⟩
  | dct oo ks => exact .inr ⟨_, h2⟩
  | dki oo ks => exact .inr ⟨_, h2⟩
theorem getD_some {env : Env} {i : Nat} {d : D} (h : env.getD i none = some d) : env[i]? = some (some d) := by
  rw [List.getD_eq_getElem?_getD] at h
  cases q : env[i]? with
  | none => rw [q] at h; cases h
  | some o => rw [q] at h; exact congrArg some h
theorem SOk.any (s : SOk G O F H σ env) {i : Nat} {d : D} (e : env.getD i none = some d) : ∃ v, σ[i]? = some (some v) ∧ RpB G F H v d := by
  have e' := getD_some e
  by_cases hi : i ∈ O
  · obtain ⟨p, k, vs, ds, h1, h2, h3, h4, h5, h6⟩ := s.own i hi
    rw [e'] at h2
    cases h2
    exact ⟨_, h1, .inr ⟨p, k, vs, ds, rfl, rfl, h4, h5, h6⟩⟩
  · obtain ⟨v, h1, h2⟩ := s.imm i d e' hi
    exact ⟨v, h1, .inl h2⟩
theorem SOk.set (s : SOk G O F H σ env) {i : Nat} {v : V} {d : D} (h : i ∉ O) (r : Rp G F v d) : SOk G O F H (σ.set i (some v)) (env.set i (some d)) := by
  have hne : ∀ j ∈ O, i ≠ j := fun j hj e => h (e ▸ hj)
  refine ⟨s.fh, by rw [List.length_set, List.length_set]; exact s.len, fun j e hj n => ?_, fun j hj => ?_, fun j hj k hk e => ?_, s.tb⟩
  · by_cases ij : i = j
    · subst ij
      have hl : i < env.length := by
        have := (List.getElem?_eq_some_iff.mp hj).1
        rw [List.length_set] at this
        exact this
      rw [List.getElem?_set_self hl] at hj
      cases hj
      exact ⟨v, List.getElem?_set_self (s.len ▸ hl), r⟩
    · rw [List.getElem?_set_ne ij] at hj ⊢
      exact s.imm j e hj n
  · rw [List.getElem?_set_ne (hne j hj), List.getElem?_set_ne (hne j hj)]
    exact s.own j hj
  · rw [List.getElem?_set_ne (hne j hj), List.getElem?_set_ne (hne k hk)] at e
    exact s.dj j hj k hk e
theorem SOk.drop (s : SOk G O F H σ env) (i : Nat) : SOk G (O.filter (· ≠ i)) F H (σ.set i none) (env.set i none) := by
  have hne : ∀ j ∈ O.filter (· ≠ i), i ≠ j ∧ j ∈ O := fun j hj => by
    obtain ⟨h1, h2⟩ := List.mem_filter.mp hj
    exact ⟨fun e => (of_decide_eq_true h2) e.symm, h1⟩
  refine ⟨s.fh, by rw [List.length_set, List.length_set]; exact s.len, fun j e hj n => ?_, fun j hj => ?_, fun j hj k hk e => ?_, s.tb⟩
  · by_cases ij : i = j
    · subst ij
      have hl : i < env.length := by
        have := (List.getElem?_eq_some_iff.mp hj).1
        rw [List.length_set] at this
        exact this
      rw [List.getElem?_set_self hl] at hj
      cases hj
    · rw [List.getElem?_set_ne ij] at hj ⊢
      exact s.imm j e hj fun z => n (List.mem_filter.mpr ⟨z, decide_eq_true (Ne.symm ij)⟩)
  · rw [List.getElem?_set_ne (hne j hj).1, List.getElem?_set_ne (hne j hj).1]
    exact s.own j (hne j hj).2
  · rw [List.getElem?_set_ne (hne j hj).1, List.getElem?_set_ne (hne k hk).1] at e
    exact s.dj j (hne j hj).2 k (hne k hk).2 e
theorem SOk.wipe (s : SOk G O F H σ env) : ∀ {vs : List Nat}, (∀ i ∈ vs, i ∉ O) → SOk G O F H (wipe σ vs) (wipeE env vs)
  | [], _ => s
  | i :: vs, h => by
    have q := (SOk.wipe s fun j hj => h j (List.mem_cons_of_mem _ hj)).drop i
    have e : O.filter (· ≠ i) = O := List.filter_eq_self.mpr fun j hj => decide_eq_true fun z => h i List.mem_cons_self (z ▸ hj)
    rw [e] at q
    exact q
theorem ext_wipe {σ σ' : L2.St} {sl : List Nat} (hl : σ'.length = σ.length) (h : ∀ j, j ∉ sl → σ'[j]? = σ[j]?) : ∀ {vs : List Nat}, (∀ j ∈ sl, j ∈ vs) → L2.wipe σ' vs = L2.wipe σ vs := by
  intro vs hs
  have at_ : ∀ (τ : L2.St) (vs : List Nat) (j : Nat), j < τ.length → (L2.wipe τ vs)[j]? = if j ∈ vs then some none else τ[j]? := by
    intro τ vs j hj
    induction vs with
    | nil => rfl
    | cons v vs ih =>
      show ((L2.wipe τ vs).set v none)[j]? = _
      by_cases e : v = j
      · subst e
        rw [List.getElem?_set_self (by rw [wipe_length]; exact hj), if_pos List.mem_cons_self]
      · rw [List.getElem?_set_ne e, ih]
        by_cases m : j ∈ vs
        · rw [if_pos m, if_pos (List.mem_cons_of_mem _ m)]
        · rw [if_neg m, if_neg fun z => (List.mem_cons.mp z).elim (fun q => e q.symm) m]
  refine List.ext_getElem? fun j => ?_
  by_cases hj : j < σ.length
  · rw [at_ σ' vs j (hl ▸ hj), at_ σ vs j hj]
    by_cases m : j ∈ vs
    · rw [if_pos m, if_pos m]
    · rw [if_neg m, if_neg m]
      exact h j fun z => m (hs j z)
  · rw [List.getElem?_eq_none (by rw [wipe_length]; omega), List.getElem?_eq_none (by rw [wipe_length]; omega)]
end
end TL

set_option Elab.async false
set_option linter.all false
set_option maxRecDepth 100000
namespace TL
open PySem PySem.Spec PyProof.Rows L2
def kV (G : Gx) (F H : Hp) (d : D) (Q : VK) : Prop := ∀ v F' H', Gr F H F' H' → Rp G F' v d → Q v H'
def kB (G : Gx) (F H : Hp) (d : D) (Q : VK) : Prop := ∀ v F' H', Gr F H F' H' → RpB G F' H' v d → Q v H'
def kN (G : Gx) (F H : Hp) (d : D) (Q : VK) : Prop := ∀ p k vs ds F' H', Gr F H F' H' → H p = none → F' p = none → H' p = some (kO G.P G.w p k vs) → RpAll G F' vs ds → KdOk p k ds → d = kD k ds → Q (.ref p) H'
def rV (G : Gx) (O : List Nat) (f : SE) : TE := fun σ H Q => ∃ F env d, SOk G O F H σ env ∧ f env = some d ∧ kV G F H d Q
def rB (G : Gx) (O : List Nat) (f : SE) : TE := fun σ H Q => ∃ F env d, SOk G O F H σ env ∧ f env = some d ∧ kB G F H d Q
def rN (G : Gx) (O : List Nat) (f : SE) : TE := fun σ H Q => ∃ F env d, SOk G O F H σ env ∧ f env = some d ∧ kN G F H d Q
def rT (G : Gx) (O : List Nat) (f : ST) : TT := fun σ H Q => ∃ F env b, SOk G O F H σ env ∧ f env = some b ∧ ∀ F' H', Gr F H F' H' → Q b H'
section
variable {G : Gx} {O : List Nat} {F H F1 H1 : Hp} {d : D} {Q : VK} {σ : L2.St}
theorem kV.gr (h : kV G F H d Q) (g : Gr F H F1 H1) : kV G F1 H1 d Q := fun v F' H' g' r => h v F' H' (g.trans g') r
theorem kN.gr (h : kN G F H d Q) (g : Gr F H F1 H1) : kN G F1 H1 d Q := fun p k vs ds F' H' g' e1 => h p k vs ds F' H' (g.trans g') (g.hh.free e1)
theorem kB.v (h : kB G F H d Q) : kV G F H d Q := fun v F' H' g r => h v F' H' g r.b
theorem kV.n (h : kV G F H d Q) : kN G F H d Q := fun p k vs ds F' H' g e1 e2 e3 r o e => by
  subst e
  have g2 := g.close e1 e2 e3
  exact h _ _ _ g2 (.ofK upd_same (r.mono (same_upd e2)) o)
theorem kV.same (h : kV G F H d Q) (s : Same F H) {v : V} (r : Rp G F v d) : Q v H := h v F H (Gr.refl s) r
theorem kV.newT {vs : List V} {ds : List D} (h : kV G F H (.tuple ds) Q) (s : Same F H) (r : RpAll G F vs ds) {p : Addr} {ob : Obj} (hp : H p = none) (hd : ob.dict = none) : Q (.ref p) (upd H p (.frz ob (.tup vs))) :=
  h _ _ _ (Gr.new s hp) (.tup (.inl ⟨ob, upd_same, hd⟩) (r.mono (same_upd (Same.nn s hp))))
theorem kN.newL {vs : List V} {ds : List D} (h : kN G F H (.list ds) Q) (s : Same F H) (r : RpAll G F vs ds) {p : Addr} (hp : H p = none) : Q (.ref p) (upd H p (.lst vs)) :=
  h p .lst vs ds _ _ (Gr.open_ s hp) hp (Same.nn s hp) upd_same r trivial rfl
end
section
variable {X : Cx} {e : Expr} {O : List Nat} {f : SE}
theorem _root_.L2.PE.imp {t t' : TE} (h : PE X e t) (i : ∀ σ H Q, t' σ H Q → t σ H Q) : PE X e t' := ⟨fun pins s σ H Q I q => h.run pins s σ H Q I (i σ H Q q)⟩
theorem _root_.L2.PT.imp {t t' : TT} (h : PT X e t) (i : ∀ σ H Q, t' σ H Q → t σ H Q) : PT X e t' := ⟨fun pins s σ H Q I q => h.run pins s σ H Q I (i σ H Q q)⟩
theorem _root_.L2.PW.imp {t t' : TT} (h : PW X e t) (i : ∀ σ H Q, t' σ H Q → t σ H Q) : PW X e t' := ⟨fun w pins s σ H Q I q => h.run w pins s σ H Q I (i σ H Q q)⟩
theorem vb (h : PE X e (rV (gx X) O f)) : PE X e (rB (gx X) O f) := h.imp fun σ H Q ⟨F, env, d, hs, hf, q⟩ => ⟨F, env, d, hs, hf, q.v⟩
theorem nv (h : PE X e (rN (gx X) O f)) : PE X e (rV (gx X) O f) := h.imp fun σ H Q ⟨F, env, d, hs, hf, q⟩ => ⟨F, env, d, hs, hf, q.n⟩
theorem nb (h : PE X e (rN (gx X) O f)) : PE X e (rB (gx X) O f) := vb (nv h)
theorem ev (i : Nat) {x : Str} {pos : Pos} (hO : i ∉ O := by decide) (hN : X.N[i]? = some x := by rfl) (hv : Vis X.env.scope x := by first | exact Or.inl rfl | exact Or.inr (Or.inl rfl) | exact Or.inr (Or.inr rfl)) (hd : (x == ("__debug__" : Str)) = false := by decide)
    (hcd : (x == ("__classdict__" : Str)) = false := by decide) : PE X (.Name x pos) (rV (gx X) O (eVar i)) := (pe_var hN hv hd hcd).imp fun σ H Q ⟨F, env, d, hs, hf, q⟩ => by
  obtain ⟨v, h1, h2⟩ := hs.imm i d (getD_some hf) hO
  exact ⟨v, h1, q.same hs.fh h2⟩
theorem eb (i : Nat) {x : Str} {pos : Pos} (hN : X.N[i]? = some x := by rfl) (hv : Vis X.env.scope x := by first | exact Or.inl rfl | exact Or.inr (Or.inl rfl) | exact Or.inr (Or.inr rfl)) (hd : (x == ("__debug__" : Str)) = false := by decide)
    (hcd : (x == ("__classdict__" : Str)) = false := by decide) : PE X (.Name x pos) (rB (gx X) O (eVar i)) := (pe_var hN hv hd hcd).imp fun σ H Q ⟨F, env, d, hs, hf, q⟩ => by
  obtain ⟨v, h1, h2⟩ := hs.any hf
  exact ⟨v, h1, q v F H (Gr.refl hs.fh) h2⟩
theorem rC {v : V} {d : D} (r : ∀ F, Rp (gx X) F v d) (h : PE X e (tC v)) : PE X e (rV (gx X) O (eC d)) := h.imp fun σ H Q ⟨F, env, d', hs, hf, q⟩ => by
  have e' := Option.some.inj hf
  subst e'
  exact q.same hs.fh (r F)
theorem ei {i : Int} {j pos} : PE X (.Constant (.int i) j pos) (rV (gx X) O (eC (.int i))) := rC (fun _ => .int i) pe_int
theorem ebl {b : Bool} {j pos} : PE X (.Constant (.bool b) j pos) (rV (gx X) O (eC (.bool b))) := rC (fun _ => .bl b) pe_bl
theorem es {x : Str} {j pos} : PE X (.Constant (.str x) j pos) (rV (gx X) O (eC (.str x))) := rC (fun _ => .str x) pe_str
end

def OpV (X : Cx) (f : Value → Value → Sem Value) (g : D → D → Option D) : Prop :=
  OpR X f fun x y H Q => ∃ F dx dy d, Same F H ∧ RpB (gx X) F H x dx ∧ RpB (gx X) F H y dy ∧ g dx dy = some d ∧ kV (gx X) F H d Q
def OpN (X : Cx) (f : Value → Value → Sem Value) (g : D → D → Option D) : Prop :=
  OpR X f fun x y H Q => ∃ F dx dy d, Same F H ∧ RpB (gx X) F H x dx ∧ RpB (gx X) F H y dy ∧ g dx dy = some d ∧ kN (gx X) F H d Q
def UnV (X : Cx) (f : Value → Sem Value) (g : D → Option D) : Prop :=
  UnR X f fun x H Q => ∃ F dx d, Same F H ∧ RpB (gx X) F H x dx ∧ g dx = some d ∧ kV (gx X) F H d Q
section
variable {X : Cx} {O : List Nat} {a b c : Expr} {fa fb fc : SE} {pos : Pos} {g : D → D → Option D}
theorem seq2 {R : V → V → Hp → Prop} {F H : Hp} {σ : L2.St} {env : Env} {x y : D} (hs : SOk (gx X) O F H σ env) (ha : fa env = some x) (hb : fb env = some y)
    (h : ∀ v u F' H', Gr F H F' H' → RpB (gx X) F' H' v x → RpB (gx X) F' H' u y → R v u H') : rB (gx X) O fa σ H fun v H1 => rB (gx X) O fb σ H1 fun u H2 => R v u H2 :=
  ⟨F, env, x, hs, ha, fun v F1 H1 g1 r1 => ⟨F1, env, y, hs.gr g1, hb, fun u F2 H2 g2 r2 => h v u F2 H2 (g1.trans g2) (r1.gr g2) r2⟩⟩
theorem split2 {env : Env} {d : D} (h : e2 g fa fb env = some d) : ∃ x y, fa env = some x ∧ fb env = some y ∧ g x y = some d := by
  simp only [e2] at h
  cases q : fa env with
  | none => rw [q] at h; cases h
  | some x =>
    rw [q] at h
    cases q2 : fb env with
    | none => rw [q2] at h; cases h
    | some y =>
      rw [q2] at h
      exact ⟨x, y, rfl, rfl, h⟩
theorem eo {op : Operator} (ho : OpV X (binaryOp op) g) (ha : PE X a (rB (gx X) O fa)) (hb : PE X b (rB (gx X) O fb)) : PE X (.BinOp a op b pos) (rV (gx X) O (e2 g fa fb)) :=
  (pe_op ho ha hb).imp fun σ H Q ⟨F, env, d, hs, hf, q⟩ => by
    obtain ⟨x, y, h1, h2, h3⟩ := split2 hf
    exact seq2 hs h1 h2 fun v u F' H' g' r1 r2 => ⟨F', x, y, d, g'.fh, r1, r2, h3, q.gr g'⟩
theorem split1 {g : D → Option D} {env : Env} {d : D} (h : e1 g fa env = some d) : ∃ x, fa env = some x ∧ g x = some d := by
  simp only [e1] at h
  cases q : fa env with
  | none => rw [q] at h; cases h
  | some x =>
    rw [q] at h
    exact ⟨x, rfl, h⟩
theorem eu {op : UnaryOp} {g : D → Option D} (ho : UnV X (unaryOp op) g) (ha : PE X a (rB (gx X) O fa)) : PE X (.UnaryOp op a pos) (rV (gx X) O (e1 g fa)) :=
  (pe_un ho ha).imp fun σ H Q ⟨F, env, d, hs, hf, q⟩ => by
    obtain ⟨x, h1, h3⟩ := split1 hf
    exact ⟨F, env, x, hs, h1, fun v F' H' g' r1 => ⟨F', x, d, g'.fh, r1, h3, q.gr g'⟩⟩
theorem ec {op : CmpOp} (ho : OpV X (compareOp op) g) (ha : PE X a (rB (gx X) O fa)) (hb : PE X b (rB (gx X) O fb)) (hm : behindInMarks op b = false := by first | exact nomark _ | rfl | with_unfolding_all rfl) : PE X (.Compare a [op] [b] pos) (rV (gx X) O (e2 g fa fb)) :=
  (pe_cmpR ho ha hb hm).imp fun σ H Q ⟨F, env, d, hs, hf, q⟩ => by
    obtain ⟨x, y, h1, h2, h3⟩ := split2 hf
    exact seq2 hs h1 h2 fun v u F' H' g' r1 r2 => ⟨F', x, y, d, g'.fh, r1, r2, h3, q.gr g'⟩
theorem tvSplit {f : SE} {env : Env} {k : Bool} (h : tV f env = some k) : f env = some (.bool k) := by
  simp only [tV] at h
  cases q : f env with
  | none => rw [q] at h; cases h
  | some x =>
    rw [q] at h
    cases x <;> first | (cases h; done) | skip
    simp only [Option.bind_some, toB] at h
    rw [Option.some.inj h]
theorem tc {op : CmpOp} (ho : OpV X (compareOp op) g) (ha : PE X a (rB (gx X) O fa)) (hb : PE X b (rB (gx X) O fb)) (hm : behindInMarks op b = false := by first | exact nomark _ | rfl | with_unfolding_all rfl) : PT X (.Compare a [op] [b] pos) (rT (gx X) O (tV (e2 g fa fb))) :=
  (pt_cmpR ho ha hb hm).imp fun σ H Q ⟨F, env, d, hs, hf, q⟩ => by
    obtain ⟨x, y, h1, h2, h3⟩ := split2 (tvSplit hf)
    exact seq2 hs h1 h2 fun v u F' H' g' r1 r2 => ⟨F', x, y, _, g'.fh, r1, r2, h3, fun w F2 H2 g2 rw => by
      cases rw
      exact ⟨d, rfl, q F2 H2 (g'.trans g2)⟩⟩
theorem tv (h : PE X a (rV (gx X) O fa)) (he : ∀ whole, isTrue a X.env whole = (do let v ← whole; standAt a.pos; holding [v] (truthy v)) := by intro _; rfl) : PT X a (rT (gx X) O (tV fa)) :=
  (pt_val h he).imp fun σ H Q ⟨F, env, d, hs, hf, q⟩ => ⟨F, env, .bool d, hs, tvSplit hf, fun v F' H' g' r => by
    cases r
    exact ⟨d, rfl, q F' H' g'⟩⟩
end
end TL

set_option Elab.async false
set_option linter.all false
set_option maxRecDepth 100000
namespace TL
open PySem PySem.Spec PyProof.Rows L2
section
variable {X : Cx} {es : List Expr} {t : TA} {pos : Pos}
def tTupF (t : TA) : TE := fun σ H Q => t σ H fun xs H1 => xs.length ≤ sizeLine ∧ ∀ p (o : Obj), H1 p = none → o.dict = none → Q (.ref p) (upd H1 p (.frz o (.tup xs)))
theorem isTup_new {h : Heap} {its : Array Value} : (h.push { cls := .type "tuple", data := .seq its }).get? h.objs.size = some { cls := .type "tuple", data := .seq its } := Heap.get?_push_size _ rfl
theorem pe_tupF {x1} (h : PA X es t) : PE X (.Tuple es x1 pos) (tTupF t) := by
  refine ⟨fun pins s σ H Q I hq => ?_⟩
  refine wpAny_Tuple_spliced (thn (h.run pos pins s σ H _ I hq) fun us s1 ⟨xs, H1, I1, r, z, q⟩ => ⟨by rw [← r.length]; exact z, ?_⟩)
  have hf : H1 s1.heap.objs.size = none := I1.hok.fresh (Nat.le_refl _)
  refine ⟨.ref s1.heap.objs.size, upd H1 s1.heap.objs.size (.frz { cls := .type "tuple", data := .seq us.toArray } (.tup xs)), I1.laid (t' := s1.toks) (fun b u e => Heap.get?_push_of_some _ e) (Nat.le_refl _) ?_, rfl, q _ _ hf rfl⟩
  exact ⟨isTup_new, z, us, r, ⟨_, Heap.get?_push_size _ rfl, rfl, _, rfl⟩⟩
theorem call_tuple_ofF : CallR X (.type "tuple") (fun xs H Q => ∃ p ys, xs = [.ref p] ∧ ((SqL X.K H p ys ∧ ∀ l (o : Obj), H l = none → o.dict = none → Q (.ref l) (upd H l (.frz o (.tup ys)))) ∨ (SqT X.K H p ys ∧ Q (.ref p) H))) := by
  intro pins s σ H xs us Q I r h
  obtain ⟨p, ys, rfl, h⟩ := h
  obtain ⟨u, rfl, rx⟩ := vals1 r
  cases rx
  rcases h with ⟨hq, q⟩ | ⟨hq, q⟩
  · obtain ⟨its, r', pl, hz⟩ := I.list hq
    have hlen := r'.length
    refine call_tuple_list pl.isList (fun h' kp => ?_) (by simp only [List.size_toArray] <;> omega)
    have I1 : Inv X pins σ H { s with heap := h' } := I.kept (t' := s.toks) kp
    have I2 : Inv X pins σ (upd H h'.objs.size (.frz { cls := .type "tuple", data := .seq its.toArray } (.tup ys))) { s with heap := h'.push { cls := .type "tuple", data := .seq its.toArray } } :=
      I1.laid (t' := s.toks) (fun b o e => Heap.get?_push_of_some _ e) (Nat.le_refl _) (show ObjOk X.prog X.w _ _ _ (.frz _ (.tup ys)) from ⟨isTup_new, hz, its, r', IsTup.new _ _⟩)
    exact ⟨.ref h'.objs.size, _, I2, rfl, q _ _ (I1.hok.fresh (Nat.le_refl _)) rfl⟩
  · obtain ⟨its, r', pl, hz⟩ := I.tuple hq
    exact call_tuple_same pl ⟨.ref p, H, I, rfl, q⟩
def rCatF (K : PySem.W.Frag) : R2 := fun x y H Q => ∃ a b xs ys, x = .ref a ∧ y = .ref b ∧ SqT K H a xs ∧ SqT K H b ys ∧ xs.length + ys.length ≤ sizeLine ∧
  (xs = [] → Q (.ref b) H) ∧ (xs ≠ [] → ys = [] → Q (.ref a) H) ∧ (xs ≠ [] → ys ≠ [] → ∀ p (o : Obj), H p = none → o.dict = none → Q (.ref p) (upd H p (.frz o (.tup (xs ++ ys)))))
theorem op_catF : OpR X (binaryOp .Add) (rCatF X.K) := by
  intro pins s σ H x y v u Q I rx ry h
  obtain ⟨a, b, xs, ys, rfl, rfl, ha, hb, hz, q0, q1, q2⟩ := h
  by_cases hx : xs = []
  · exact op_catA pins s σ H _ _ v u Q I rx ry ⟨a, b, xs, ys, rfl, rfl, ha, hb, hz, q0, q1, fun z => absurd hx z⟩
  · cases rx
    cases ry
    obtain ⟨its, r1, p1, _⟩ := I.tuple ha
    obtain ⟨its2, r2, p2, _⟩ := I.tuple hb
    refine HT.cat_tup p1 p2 (fun z => hx (r1.nil_iff.mp z)) (fun z => ⟨.ref a, H, I, rfl, q1 hx (r2.nil_iff.mp z)⟩) (fun z => ?_) (by rw [← r1.length, ← r2.length]; exact hz)
    exact ⟨.ref s.heap.objs.size, _, I.laid (t' := s.toks) (o := .frz { cls := .type "tuple", data := .seq (its ++ its2).toArray } (.tup (xs ++ ys))) (fun b ob q => Heap.get?_push_of_some _ q) (Nat.le_refl _)
      ⟨isTup_new, by rw [List.length_append]; exact hz, _, r1.append r2, IsTup.new _ _⟩, rfl, q2 hx (fun w => z (r2.nil_iff.mpr w)) _ _ (I.hok.fresh (Nat.le_refl _)) rfl⟩
variable {e : Expr} {te : L2.St → Hp → (Int → Int → Hp → Prop) → Prop}
end
end TL

set_option Elab.async false
set_option linter.all false
set_option maxRecDepth 100000
namespace TL
open PySem PySem.Spec PyProof.Rows L2
theorem bind_some {α β : Type} {a : Option α} {f : α → Option β} {b : β} (h : a.bind f = some b) : ∃ x, a = some x ∧ f x = some b := by
  cases a with
  | none => cases h
  | some x => exact ⟨x, rfl, h⟩
theorem map_some {α β : Type} {a : Option α} {f : α → β} {b : β} (h : a.map f = some b) : ∃ x, a = some x ∧ f x = b := by
  cases a with
  | none => cases h
  | some x => exact ⟨x, rfl, Option.some.inj h⟩
theorem toB_some {d : D} {k : Bool} (h : toB d = some k) : d = .bool k := by
  cases d <;> first | (cases h; done) | skip
  simp only [toB] at h
  rw [Option.some.inj h]
theorem toI_some {d : D} {k : Int} (h : toI d = some k) : d = .int k := by
  cases d <;> first | (cases h; done) | skip
  simp only [toI] at h
  rw [Option.some.inj h]
section
variable {X : Cx} {O : List Nat} {a b c : Expr} {fa fb fc : SE} {ta tb : ST} {pos : Pos} {rest : List Expr}
theorem eone {op} (h : PE X a (rV (gx X) O fa)) : PE X (.BoolOp op [a] pos) (rV (gx X) O fa) := pe_one h
theorem eand (ha : PE X a (rV (gx X) O fa)) (hb : PE X (.BoolOp .And (b :: rest) pos) (rV (gx X) O fb)) : PE X (.BoolOp .And (a :: b :: rest) pos) (rV (gx X) O (eAnd fa fb)) :=
  (pe_and ha hb).imp fun σ H Q ⟨F, env, d, hs, hf, q⟩ => by
    simp only [eAnd] at hf
    obtain ⟨x, h1, hf⟩ := bind_some hf
    obtain ⟨k, h4, hk⟩ := bind_some hf
    refine ⟨F, env, x, hs, h1, fun v F1 H1 g1 r1 => ?_⟩
    have e4 := toB_some h4
    subst e4
    cases r1
    refine ⟨k, rfl, ?_⟩
    cases k with
    | true => exact ⟨F1, env, d, hs.gr g1, hk, q.gr g1⟩
    | false =>
      cases hk
      exact q _ F1 H1 g1 (.bl false)
theorem tone1 (h : PT X a (rT (gx X) O ta)) : PW X (.BoolOp .And [a] pos) (rT (gx X) O ta) := pw_and1 h
theorem tone2 (h : PT X a (rT (gx X) O ta)) : PW X (.BoolOp .Or [a] pos) (rT (gx X) O ta) := pw_or1 h
theorem tand (ha : PT X a (rT (gx X) O ta)) (hb : PW X (.BoolOp .And (b :: rest) pos) (rT (gx X) O tb)) : PW X (.BoolOp .And (a :: b :: rest) pos) (rT (gx X) O (TL.tAnd ta tb)) :=
  (pw_and ha hb).imp fun σ H Q ⟨F, env, d, hs, hf, q⟩ => by
    simp only [TL.tAnd] at hf
    obtain ⟨k, h1, hf⟩ := bind_some hf
    refine ⟨F, env, k, hs, h1, fun F1 H1 g1 => ?_⟩
    cases k with
    | true => exact ⟨F1, env, d, hs.gr g1, hf, fun F2 H2 g2 => q F2 H2 (g1.trans g2)⟩
    | false =>
      cases hf
      exact q F1 H1 g1
theorem tor (ha : PT X a (rT (gx X) O ta)) (hb : PW X (.BoolOp .Or (b :: rest) pos) (rT (gx X) O tb)) : PW X (.BoolOp .Or (a :: b :: rest) pos) (rT (gx X) O (TL.tOr ta tb)) :=
  (pw_or ha hb).imp fun σ H Q ⟨F, env, d, hs, hf, q⟩ => by
    simp only [TL.tOr] at hf
    obtain ⟨k, h1, hf⟩ := bind_some hf
    refine ⟨F, env, k, hs, h1, fun F1 H1 g1 => ?_⟩
    cases k with
    | false => exact ⟨F1, env, d, hs.gr g1, hf, fun F2 H2 g2 => q F2 H2 (g1.trans g2)⟩
    | true =>
      cases hf
      exact q F1 H1 g1
theorem tw (h : PW X a (rT (gx X) O ta)) : PT X a (rT (gx X) O ta) := h.pt
theorem tnot (ha : PT X a (rT (gx X) O ta)) : PT X (.UnaryOp .Not a pos) (rT (gx X) O (TL.tNot ta)) :=
  (pt_not ha).imp fun σ H Q ⟨F, env, d, hs, hf, q⟩ => by
    simp only [TL.tNot] at hf
    obtain ⟨k, h1, hf⟩ := map_some hf
    subst hf
    exact ⟨F, env, k, hs, h1, q⟩
theorem eif (hc : PT X c (rT (gx X) O ta)) (ha : PE X a (rV (gx X) O fa)) (hb : PE X b (rV (gx X) O fb)) : PE X (.IfExp c a b pos) (rV (gx X) O (eIf ta fa fb)) :=
  (pe_ifExp hc ha hb).imp fun σ H Q ⟨F, env, d, hs, hf, q⟩ => by
    simp only [eIf] at hf
    obtain ⟨k, h1, hf⟩ := bind_some hf
    refine ⟨F, env, k, hs, h1, fun F1 H1 g1 => ?_⟩
    cases k with
    | true => exact ⟨F1, env, d, hs.gr g1, hf, q.gr g1⟩
    | false => exact ⟨F1, env, d, hs.gr g1, hf, q.gr g1⟩
end
def aV (G : Gx) (O : List Nat) (f : SI) : TA := fun σ H Q => ∃ F env ds, SOk G O F H σ env ∧ f env = some ds ∧ ∀ vs F' H', Gr F H F' H' → RpAll G F' vs ds → Q vs H'
section
variable {X : Cx} {O : List Nat} {e : Expr} {es : List Expr} {f : SE} {l : List SE} {pos : Pos}
theorem _root_.L2.PA.imp {t t' : TA} (h : PA X es t) (i : ∀ σ H Q, t' σ H Q → t σ H Q) : PA X es t' := ⟨fun pos pins s σ H Q I q => h.run pos pins s σ H Q I (i σ H Q q)⟩
theorem an : PA X [] (aV (gx X) O (eArgs [])) := pa_nil.imp fun σ H Q ⟨F, env, ds, hs, hf, q⟩ => by
  cases hf
  exact q [] F H (Gr.refl hs.fh) .nil
theorem ac (ha : PE X e (rV (gx X) O f)) (hr : PA X es (aV (gx X) O (eArgs l))) (hs : starEach (e :: es) X.env = (false, eval e X.env) :: starEach es X.env := by rfl) : PA X (e :: es) (aV (gx X) O (eArgs (f :: l))) :=
  (pa_cons ha hr hs).imp fun σ H Q ⟨F, env, ds, hs, hf, q⟩ => by
    simp only [eArgs] at hf
    obtain ⟨x, h1, hf⟩ := bind_some hf
    obtain ⟨xs, h2, hf⟩ := map_some hf
    subst hf
    exact ⟨F, env, x, hs, h1, fun v F1 H1 g1 r1 => ⟨F1, env, xs, hs.gr g1, h2, fun vs F2 H2 g2 r2 => q (v :: vs) F2 H2 (g1.trans g2) (.cons (r1.mono g2.ff) r2)⟩⟩
theorem etup {x1} (h : PA X es (aV (gx X) O (eArgs l))) : PE X (.Tuple es x1 pos) (rV (gx X) O (eTup l)) :=
  (pe_tupF h).imp fun σ H Q ⟨F, env, d, hs, hf, q⟩ => by
    simp only [eTup] at hf
    obtain ⟨ds, h1, hf⟩ := bind_some hf
    refine ⟨F, env, ds, hs, h1, fun vs F1 H1 g1 r1 => ?_⟩
    split at hf
    · cases hf
      exact ⟨by rw [r1.length]; assumption, fun p o hp ho => (q.gr g1).newT g1.fh r1 hp ho⟩
    · cases hf
theorem elst (h : PA X es (aV (gx X) O (eArgs l))) : PE X (.List es pos) (rN (gx X) O (eLst l)) :=
  (pe_lst h).imp fun σ H Q ⟨F, env, d, hs, hf, q⟩ => by
    simp only [eLst] at hf
    obtain ⟨ds, h1, hf⟩ := bind_some hf
    refine ⟨F, env, ds, hs, h1, fun vs F1 H1 g1 r1 => ?_⟩
    split at hf
    · cases hf
      exact ⟨by rw [r1.length]; assumption, fun p hp => (q.gr g1).newL g1.fh r1 hp⟩
    · cases hf
end
def spV (G : Gx) (n : Nat) (m : List D → Option D) : Sp := fun vs H Q _ => ∃ F ds d, Fz G F H ∧ RpAll G F vs ds ∧ ds.length = n ∧ m ds = some d ∧ kV G F H d Q
def spN (G : Gx) (n : Nat) (m : List D → Option D) : Sp := fun vs H Q _ => ∃ F ds d, Fz G F H ∧ RpAll G F vs ds ∧ ds.length = n ∧ m ds = some d ∧ kN G F H d Q
section
variable {X : Cx} {O : List Nat} {e : Expr} {es : List Expr} {l : List SE} {p pos : Pos} {x : Str} {k n : Nat} {fa : Addr} {fd : FuncData} {ps : List Str} {m : List D → Option D}
theorem FnOk.nv {P w} {G : Gx} {base CX} (F : FnOk P w G.K G.mg base CX k fa fd ps (spN G n m)) : FnOk P w G.K G.mg base CX k fa fd ps (spV G n m) :=
  F.imp fun vs H Q E ⟨F, ds, d, h1, h2, h3, h4, q⟩ => ⟨F, ds, d, h1, h2, h3, h4, q.n⟩
theorem ecall (F : FnOk X.prog X.w (gx X).K (gx X).mg X.base CX0 k fa fd ps (spV (gx X) n m)) (hr : Room k X.A) (hg : Gl X x) (hm : X.mg x = some (.ref fa)) (hk : PySem.W.keepIn X.K (.ref fa) = true) (hb : Binds X.K fd ps [])
    (ha : PA X (e :: es) (aV (gx X) O (eArgs l))) (hn : l.length = n := by rfl) (hdb : (x == ("__debug__" : Str)) = false := by decide) (he : starEach (e :: es) X.env = (false, eval e X.env) :: starEach es X.env := by rfl) (hpl : (backTo pos (starEach es X.env)).any (·.1) = false := by rfl) :
    PE X (.Call (.Name x p) (e :: es) [] pos) (rV (gx X) O (eCall m l)) :=
  (pe_call F hr hg hm hk hb .nil pass0 ha hdb he hpl).imp fun σ H Q ⟨F, env, d, hs, hf, q⟩ => by
    simp only [eCall] at hf
    obtain ⟨ds, h1, hf⟩ := bind_some hf
    have hl : ∀ (l : List SE) (ds : List D), eArgs l env = some ds → ds.length = l.length := by
      intro l
      induction l with
      | nil => intro ds h; cases h; rfl
      | cons a l ih =>
        intro ds h
        simp only [eArgs] at h
        obtain ⟨x, _, h⟩ := bind_some h
        obtain ⟨xs, h2, h⟩ := map_some h
        subst h
        exact congrArg (· + 1) (ih xs h2)
    refine ⟨F, env, ds, hs, h1, fun vs F1 H1 g1 r1 => ?_⟩
    show spV (gx X) n m (vs ++ []) H1 Q E0
    rw [List.append_nil]
    exact ⟨F1, ds, d, (hs.gr g1).fz, r1, (hl l ds h1).trans hn, hf, q.gr g1⟩
end
def CalV (X : Cx) (f : Value) (g : D → Option D) : Prop := CallR X f fun xs H Q => ∃ F x dx d, xs = [x] ∧ Same F H ∧ RpB (gx X) F H x dx ∧ g dx = some d ∧ kV (gx X) F H d Q
def CalN (X : Cx) (f : Value) (g : D → Option D) : Prop := CallR X f fun xs H Q => ∃ F x dx d, xs = [x] ∧ Same F H ∧ RpB (gx X) F H x dx ∧ g dx = some d ∧ kN (gx X) F H d Q
section
variable {X : Cx} {O : List Nat} {e e' : Expr} {f f' : SE} {p pos : Pos} {x : Str} {g : D → Option D} {id T : String}
theorem eB (hc : CalV X (.builtin id) g) (hg : Gl X x) (hm : X.mg x = none) (hv : bootBuiltins x = some (.builtin id)) (ha : PE X e (rB (gx X) O f)) (hn : x ≠ "__name__" := by decide) (hdb : (x == ("__debug__" : Str)) = false := by decide)
    (hs : starEach [e] X.env = (false, eval e X.env) :: starEach [] X.env := by rfl) : PE X (.Call (.Name x p) [e] [] pos) (rV (gx X) O (e1 g f)) :=
  (pe_callB hc hg hm hv (pa_cons ha pa_nil hs) hn hdb hs rfl).imp fun σ H Q ⟨F, env, d, hs, hf, q⟩ => by
    obtain ⟨x, h1, h3⟩ := split1 hf
    exact ⟨F, env, x, hs, h1, fun v F1 H1 g1 r1 => ⟨F1, v, x, d, rfl, g1.fh, r1, h3, q.gr g1⟩⟩
theorem eBN (hc : CalN X (.builtin id) g) (hg : Gl X x) (hm : X.mg x = none) (hv : bootBuiltins x = some (.builtin id)) (ha : PE X e (rB (gx X) O f)) (hn : x ≠ "__name__" := by decide) (hdb : (x == ("__debug__" : Str)) = false := by decide)
    (hs : starEach [e] X.env = (false, eval e X.env) :: starEach [] X.env := by rfl) : PE X (.Call (.Name x p) [e] [] pos) (rN (gx X) O (e1 g f)) :=
  (pe_callB hc hg hm hv (pa_cons ha pa_nil hs) hn hdb hs rfl).imp fun σ H Q ⟨F, env, d, hs, hf, q⟩ => by
    obtain ⟨x, h1, h3⟩ := split1 hf
    exact ⟨F, env, x, hs, h1, fun v F1 H1 g1 r1 => ⟨F1, v, x, d, rfl, g1.fh, r1, h3, q.gr g1⟩⟩
theorem eT (hc : CalV X (.type T) g) (hg : Gl X x) (hm : X.mg x = none) (hv : bootBuiltins x = some (.type T)) (ha : PE X e (rB (gx X) O f)) (hn : x ≠ "__name__" := by decide) (hdb : (x == ("__debug__" : Str)) = false := by decide)
    (hs : starEach [e] X.env = (false, eval e X.env) :: starEach [] X.env := by rfl) : PE X (.Call (.Name x p) [e] [] pos) (rV (gx X) O (e1 g f)) :=
  (pe_callTy hc hg hm hv (pa_cons ha pa_nil hs) hn hdb hs rfl).imp fun σ H Q ⟨F, env, d, hs, hf, q⟩ => by
    obtain ⟨x, h1, h3⟩ := split1 hf
    exact ⟨F, env, x, hs, h1, fun v F1 H1 g1 r1 => ⟨F1, v, x, d, rfl, g1.fh, r1, h3, q.gr g1⟩⟩
end
section
variable {X : Cx} {O : List Nat} {a b : Expr} {fa fb : SE} {pos p2 : Pos}
theorem ixV : IxR X fun x y H Q => ∃ F dx dy d, Same F H ∧ RpB (gx X) F H x dx ∧ RpB (gx X) F H y dy ∧ ixD dx dy = some d ∧ kV (gx X) F H d Q := by
  intro va sl pins s σ H x y v u Q hI rx ry h hp
  obtain ⟨F, dx, dy, d, sm, bx, by_, hd, q⟩ := h
  cases dx with
  | list ds =>
    cases dy with
    | int i =>
      have ey := by_.int
      subst ey
      obtain ⟨p, vs, rfl, hl, r⟩ := bx.lst sm
      obtain ⟨w, h1, h2⟩ := r.atI hd
      exact ix_list va sl pins s σ H _ _ v u Q hI rx ry ⟨p, vs, i, w, rfl, rfl, hl, h1, q.same sm h2⟩ hp
    | _ => cases hd
  | tuple ds =>
    cases dy with
    | int i =>
      have ey := by_.int
      subst ey
      obtain ⟨p, vs, rfl, _, hl, r⟩ := bx.tup sm
      obtain ⟨w, h1, h2⟩ := r.atI hd
      exact ix_tup va sl pins s σ H _ _ v u Q hI rx ry ⟨p, vs, i, w, rfl, rfl, hl, h1, q.same sm h2⟩ hp
    | _ => cases hd
  | str z =>
    cases dy with
    | int i =>
      have ey := by_.int
      subst ey
      have ex := bx.str
      subst ex
      simp only [ixD] at hd
      split at hd
      · rename_i hz
        obtain ⟨c, h1, h2⟩ := map_some hd
        subst h2
        exact ix_str va sl pins s σ H _ _ v u Q hI rx ry ⟨z, i, c, rfl, rfl, hz, h1, q.same sm (.str _)⟩ hp
      · cases hd
    | _ => cases hd
  | _ => cases dy <;> cases hd
theorem eix (ha : PE X a (rB (gx X) O fa)) (hb : PE X b (rB (gx X) O fb)) (hs : PlainIx b := by exact fun _ _ => rfl) : PE X (.Subscript a b pos) (rV (gx X) O (e2 ixD fa fb)) :=
  (pe_ix ixV ha hb hs).imp fun σ H Q ⟨F, env, d, hs, hf, q⟩ => by
    obtain ⟨x, y, h1, h2, h3⟩ := split2 hf
    exact seq2 hs h1 h2 fun v u F' H' g' r1 r2 => ⟨F', x, y, d, g'.fh, r1, r2, h3, q.gr g'⟩
def oV (G : Gx) (O : List Nat) (o : Option SE) : TO := fun σ H Q => ∃ F env k, SOk G O F H σ env ∧ ePart o env = some k ∧ ∀ F' H', Gr F H F' H' → Q k H'
theorem on : PO X none (oV (gx X) O none) := ⟨fun pins s σ H Q I ⟨F, env, k, hs, hf, q⟩ => by
  cases hf
  exact po_none.run pins s σ H Q I (q F H (Gr.refl hs.fh))⟩
theorem os (ha : PE X a (rV (gx X) O fa)) : PO X (some a) (oV (gx X) O (some fa)) := ⟨fun pins s σ H Q I ⟨F, env, k, hs, hf, q⟩ => by
  simp only [ePart] at hf
  obtain ⟨x, h1, hf⟩ := bind_some hf
  obtain ⟨i, h2, h3⟩ := map_some hf
  have e2 := toI_some h2
  subst e2 h3
  refine (po_some ha).run pins s σ H Q I ⟨F, env, _, hs, h1, fun v F1 H1 g1 r1 => ?_⟩
  cases r1
  exact ⟨i, rfl, q F1 H1 g1⟩⟩
end
end TL

set_option Elab.async false
set_option linter.all false
set_option maxRecDepth 100000
namespace TL
open PySem PySem.Spec PyProof.Rows L2
section
variable {X : Cx}
theorem add_listG {pins : List (Addr × Obj)} {s : Shared} {σ : L2.St} {H : Hp} {Q : VK} {a b : Addr} {xs ys : List V} (I : Inv X pins σ H s) (ha : SqL X.K H a xs) (hb : SqL X.K H b ys) (hz : xs.length + ys.length ≤ sizeLine)
    (q : ∀ p, H p = none → Q (.ref p) (upd H p (.lst (xs ++ ys)))) : wpAny (model X.prog X.w) X.A (binaryOp .Add (.ref a) (.ref b)) (EP X pins σ Q) X.xe s := by
  obtain ⟨its, r, p, _⟩ := I.list ha
  obtain ⟨its2, r2, p2, _⟩ := I.list hb
  have hl := r.length
  have hl2 := r2.length
  obtain ⟨⟨cls, dd, data, sl⟩, n, ho, hc, _, hd⟩ := p
  obtain ⟨⟨cls2, dd2, data2, sl2⟩, n2, ho2, hc2, _, hd2⟩ := p2
  simp only at hc hd hc2 hd2
  subst hc hd hc2 hd2
  have e : its.toArray ++ its2.toArray = (its ++ its2).toArray := by simp
  refine PySem.concat_meets ⟨_, ho, rfl⟩ ⟨_, ho2, rfl⟩ noFill_list_add seq_list_add PySem.F.slot_list_add PySem.F.entry_list_add (PySem.F.args_list_add_2 _ _) (list_addW a b its.toArray its2.toArray n n2 dd dd2 sl sl2 (by simp; omega)) ⟨ho, ho2, ?_⟩
  rw [e]
  exact ⟨.ref _, _, I.lnew (t' := s.toks) (r.append r2) (by rw [List.length_append]; omega), rfl, q _ I.fresh⟩
theorem o_addN : OpN X (binaryOp .Add) addLD := by
  intro pins s σ H x y v u Q I rx ry h
  obtain ⟨F, dx, dy, d, sm, bx, by_, hd, q⟩ := h
  cases dx with
  | list ds =>
    cases dy with
    | list es =>
      obtain ⟨p, vs, rfl, hl, r⟩ := bx.lst sm
      obtain ⟨p', us, rfl, hl', r'⟩ := by_.lst sm
      cases rx
      cases ry
      simp only [addLD, addD] at hd
      split at hd
      · rename_i hz
        cases hd
        refine add_listG I hl hl' (by rw [r.length, r'.length]; exact hz) fun p hp => q.newL sm (r.append r') hp
      · cases hd
    | _ => cases hd
  | _ => cases dy <;> cases hd
theorem o_add : OpV X (binaryOp .Add) addD := by
  intro pins s σ H x y v u Q I rx ry h
  obtain ⟨F, dx, dy, d, sm, bx, by_, hd, q⟩ := h
  cases dx with
  | int i =>
    cases dy with
    | int j =>
      have e1 := bx.int
      have e2 := by_.int
      subst e1 e2
      cases hd
      exact op_add pins s σ H _ _ v u Q I rx ry ⟨i, j, rfl, rfl, q.same sm (.int _)⟩
    | _ => cases hd
  | str i =>
    cases dy with
    | str j =>
      have e1 := bx.str
      have e2 := by_.str
      subst e1 e2
      simp only [addD] at hd
      split at hd
      · rename_i hz
        cases hd
        exact op_add_str pins s σ H _ _ v u Q I rx ry ⟨i, j, rfl, rfl, hz, q.same sm (.str _)⟩
      · cases hd
    | _ => cases hd
  | tuple ds =>
    cases dy with
    | tuple es =>
      obtain ⟨p, vs, rfl, hf, hl, r⟩ := bx.tup sm
      obtain ⟨p', us, rfl, hf', hl', r'⟩ := by_.tup sm
      simp only [addD] at hd
      split at hd
      · rename_i hz
        cases hd
        refine op_catF pins s σ H _ _ v u Q I rx ry ⟨p, p', vs, us, rfl, rfl, hl, hl', by rw [r.length, r'.length]; exact hz, fun e => ?_, fun _ e => ?_, fun _ _ p o hp ho => q.newT sm (r.append r') hp ho⟩
        · subst e
          cases r
          exact q.same sm (.tup hf' r')
        · subst e
          cases r'
          rw [List.append_nil] at q
          exact q.same sm (.tup hf r)
      · cases hd
    | _ => cases hd
  | list ds =>
    cases dy with
    | list es => exact o_addN pins s σ H x y v u Q I rx ry ⟨F, _, _, d, sm, bx, by_, hd, q.n⟩
    | _ => cases hd
  | _ => cases dy <;> cases hd
theorem o_int {f : Value → Value → Sem Value} {r : Int → Int → Hp → VK → Prop} {g : D → D → Option D} (ho : OpR X f fun x y H Q => ∃ i j, x = .int i ∧ y = .int j ∧ r i j H Q)
    (hg : ∀ dx dy d, g dx dy = some d → ∃ i j, dx = .int i ∧ dy = .int j ∧ ∀ (F H : Hp) (Q : VK), Same F H → kV (gx X) F H d Q → r i j H Q) : OpV X f g := by
  intro pins s σ H x y v u Q I rx ry h
  obtain ⟨F, dx, dy, d, sm, bx, by_, hd, q⟩ := h
  obtain ⟨i, j, rfl, rfl, h⟩ := hg dx dy d hd
  exact ho pins s σ H x y v u Q I rx ry ⟨i, j, bx.int, by_.int, h F H Q sm q⟩
theorem o_sub : OpV X (binaryOp .Sub) subD := o_int (r := fun i j H Q => Q (.int (i - j)) H) op_sub fun dx dy d h => by
  cases dx <;> cases dy <;> first | (cases h; done) | skip
  cases h
  exact ⟨_, _, rfl, rfl, fun F H Q sm q => q.same sm (.int _)⟩
theorem okMul_c {a b : Int} (h : okMul a b = true) : CMul a b := by
  simp only [okMul, Bool.or_eq_true, Nat.blt_eq] at h
  rcases h with h | h
  · exact .inl ⟨by omega, by omega⟩
  · exact .inr ⟨by omega, by omega⟩
theorem okDiv_c {i b : Int} (h : okDiv b = true) : CDiv i b := by
  simp only [okDiv, Bool.and_eq_true, Nat.ble_eq] at h
  exact ⟨by omega, by omega⟩
theorem okPow_c {a b : Int} (h : okPow a b = true) : CPow a b := by
  simp only [okPow, Bool.and_eq_true, Nat.ble_eq, Nat.blt_eq] at h
  exact ⟨by omega, by omega, by omega⟩
theorem o_mul : OpV X (binaryOp .Mult) mulD := o_int (r := fun i j H Q => CMul i j ∧ Q (.int (i * j)) H) op_mul fun dx dy d h => by
  cases dx <;> cases dy <;> first | (cases h; done) | skip
  simp only [mulD] at h
  split at h
  · cases h
    exact ⟨_, _, rfl, rfl, fun F H Q sm q => ⟨okMul_c (by assumption), q.same sm (.int _)⟩⟩
  · cases h
theorem o_fdiv : OpV X (binaryOp .FloorDiv) fdivD := o_int (r := fun i j H Q => CDiv i j ∧ Q (.int (i / j)) H) op_fdiv fun dx dy d h => by
  cases dx <;> cases dy <;> first | (cases h; done) | skip
  simp only [fdivD] at h
  split at h
  · cases h
    exact ⟨_, _, rfl, rfl, fun F H Q sm q => ⟨okDiv_c (by assumption), q.same sm (.int _)⟩⟩
  · cases h
theorem o_mod : OpV X (binaryOp .Mod) modD := o_int (r := fun i j H Q => 0 < j ∧ Q (.int (i % j)) H) op_mod fun dx dy d h => by
  cases dx <;> cases dy <;> first | (cases h; done) | skip
  simp only [modD] at h
  split at h
  · cases h
    exact ⟨_, _, rfl, rfl, fun F H Q sm q => ⟨by assumption, q.same sm (.int _)⟩⟩
  · cases h
theorem o_pow : OpV X (binaryOp .Pow) powD := o_int (r := fun i j H Q => CPow i j ∧ Q (.int (i ^ j.toNat)) H) op_pow fun dx dy d h => by
  cases dx <;> cases dy <;> first | (cases h; done) | skip
  simp only [powD] at h
  split at h
  · cases h
    exact ⟨_, _, rfl, rfl, fun F H Q sm q => ⟨okPow_c (by assumption), q.same sm (.int _)⟩⟩
  · cases h
theorem lexAt_shift {e r : Nat → Bool} {z : Bool} {n : Nat} : ∀ {i : Nat}, Ob.lexAt e r z (i + 1) n = Ob.lexAt (fun j => e (j + 1)) (fun j => r (j + 1)) z i n := by
  induction n with
  | zero => intro i; rfl
  | succ n ih =>
    intro i
    rw [Ob.lexAt_succ, Ob.lexAt_succ, ih]
theorem lexAt_lt : ∀ (ns ms : List Int), Ob.lexAt (fun j => decide (ns.getD j 0 = ms.getD j 0)) (fun j => decide (ns.getD j 0 < ms.getD j 0)) (decide (ns.length < ms.length)) 0 (min ns.length ms.length) = lexLt ns ms
  | [], [] => rfl
  | [], _ :: _ => by simp [lexLt, Ob.lexAt_zero]
  | _ :: _, [] => by simp [lexLt, Ob.lexAt_zero]
  | x :: ns, y :: ms => by
    have ih := lexAt_lt ns ms
    rw [show min (x :: ns).length (y :: ms).length = min ns.length ms.length + 1 by simp only [List.length_cons]; omega, Ob.lexAt_succ, lexAt_shift]
    have e1 : (decide ((x :: ns).length < (y :: ms).length)) = decide (ns.length < ms.length) := by simp
    rw [e1]
    show (if decide (x = y) = true then Ob.lexAt (fun j => decide (ns.getD j 0 = ms.getD j 0)) (fun j => decide (ns.getD j 0 < ms.getD j 0)) (decide (ns.length < ms.length)) 0 (min ns.length ms.length) else decide (x < y)) = lexLt (x :: ns) (y :: ms)
    rw [ih]
    show _ = if x = y then lexLt ns ms else decide (x < y)
    by_cases h : x = y
    · simp [h]
    · simp [h]
theorem lexAt_le : ∀ (ns ms : List Int), Ob.lexAt (fun j => decide (ns.getD j 0 = ms.getD j 0)) (fun j => decide (ns.getD j 0 ≤ ms.getD j 0)) (decide (ns.length ≤ ms.length)) 0 (min ns.length ms.length) = !lexLt ms ns
  | [], [] => rfl
  | [], _ :: _ => by simp [lexLt, Ob.lexAt_zero]
  | _ :: _, [] => by simp [lexLt, Ob.lexAt_zero]
  | x :: ns, y :: ms => by
    have ih := lexAt_le ns ms
    rw [show min (x :: ns).length (y :: ms).length = min ns.length ms.length + 1 by simp only [List.length_cons]; omega, Ob.lexAt_succ, lexAt_shift]
    have e1 : (decide ((x :: ns).length ≤ (y :: ms).length)) = decide (ns.length ≤ ms.length) := by simp
    rw [e1]
    show (if decide (x = y) = true then Ob.lexAt (fun j => decide (ns.getD j 0 = ms.getD j 0)) (fun j => decide (ns.getD j 0 ≤ ms.getD j 0)) (decide (ns.length ≤ ms.length)) 0 (min ns.length ms.length) else decide (x ≤ y)) = !lexLt (y :: ms) (x :: ns)
    rw [ih]
    show _ = !(if y = x then lexLt ms ns else decide (y < x))
    by_cases h : x = y
    · simp [h]
    · have h' : ¬ y = x := fun z => h z.symm
      simp only [h, h', decide_false, Bool.false_eq_true, if_false]
      by_cases h1 : x ≤ y
      · have h2 : ¬ y < x := by omega
        simp [h1, h2]
      · have h2 : y < x := by omega
        simp [h1, h2]
theorem tupOrd {op : CmpOp} {pi : Int → Int → Bool} {pz : Nat → Nat → Bool} (hu : X.A.units < cLine) (ri : ∀ {A : Around} {s : Shared} (a b : Int) (t u : Tok), Ob.RcOp op A s (.int a t) (.int b u) (pi a b))
    (rule : ∀ {A : Around} {s : Shared} {l b : Addr} {items items2 : Array Value} {e r : Nat → Bool}, s.heap.IsTuple l items → s.heap.IsTuple b items2 → A.units < cLine →
      (∀ j (h1 : j < items.size) (h2 : j < items2.size), SeqAt.EqAt A.in1 s items[j] items2[j] (e j)) → (∀ j (h1 : j < items.size) (h2 : j < items2.size), e j = false → Ob.RcOp op A.in1 s items[j] items2[j] (r j)) →
      Ob.RcOp op A s (.ref l) (.ref b) (Ob.lexAt e r (pz items.size items2.size) 0 (min items.size items2.size)))
    (hop : ∀ v u, compareOp op v u = richCompare op v u)
    {pins : List (Addr × Obj)} {s : Shared} {σ : L2.St} {H : Hp} {Q : VK} {a b : Addr} {ns ms : List Int} (I : Inv X pins σ H s) (ha : SqT X.K H a (ns.map V.int)) (hb : SqT X.K H b (ms.map V.int))
    (q : Q (.bl (Ob.lexAt (fun j => decide (ns.getD j 0 = ms.getD j 0)) (fun j => pi (ns.getD j 0) (ms.getD j 0)) (pz ns.length ms.length) 0 (min ns.length ms.length))) H) :
    wpAny (model X.prog X.w) X.A (compareOp op (.ref a) (.ref b)) (EP X pins σ Q) X.xe s := by
  obtain ⟨its, r1, p1, _⟩ := I.tuple ha
  obtain ⟨its2, r2, p2, _⟩ := I.tuple hb
  have i1 : IntsAre its ns := Vals.ints r1
  have i2 : IntsAre its2 ms := Vals.ints r2
  have e1 : its.toArray.size = ns.length := by rw [List.size_toArray]; exact i1.length
  have e2 : its2.toArray.size = ms.length := by rw [List.size_toArray]; exact i2.length
  have at1 : ∀ j (h1 : j < its.toArray.size), ∃ t, its.toArray[j] = .int (ns.getD j 0) t := fun j h1 => PyProof.Rows.IntsAre.int_at i1 _ _ (by simp at h1; simp [h1])
  have at2 : ∀ j (h1 : j < its2.toArray.size), ∃ t, its2.toArray[j] = .int (ms.getD j 0) t := fun j h1 => PyProof.Rows.IntsAre.int_at i2 _ _ (by simp at h1; simp [h1])
  have R := rule (A := X.A) (s := s) (e := fun j => decide (ns.getD j 0 = ms.getD j 0)) (r := fun j => pi (ns.getD j 0) (ms.getD j 0)) p1 p2 hu (fun j h1 h2 => by
    obtain ⟨t, et⟩ := at1 j h1
    obtain ⟨t', et'⟩ := at2 j h2
    rw [et, et']
    have z : (ns.getD j 0 == ms.getD j 0) = decide (ns.getD j 0 = ms.getD j 0) := by
      by_cases q : ns.getD j 0 = ms.getD j 0
      · rw [decide_eq_true q]; exact beq_iff_eq.mpr q
      · rw [decide_eq_false q]; exact beq_eq_false_iff_ne.mpr q
    rw [← z]
    exact SeqAt.EqAt.int_int _ _ _ _) (fun j h1 h2 _ => by
    obtain ⟨t, et⟩ := at1 j h1
    obtain ⟨t', et'⟩ := at2 j h2
    rw [et, et']
    exact ri _ _ _ _)
  rw [e1, e2] at R
  rw [hop]
  exact R X.prog X.w X.xe (EP X pins σ Q) ⟨.bl _, H, I, rfl, q⟩
theorem o_ord {op : CmpOp} {g : D → D → Option D} {pi : Int → Int → Bool} {pt : List Int → List Int → Bool} (hi : OpR X (compareOp op) (rI0 fun i j => .bl (pi i j)))
    (ht : ∀ {pins : List (Addr × Obj)} {s : Shared} {σ : L2.St} {H : Hp} {Q : VK} {a b : Addr} {ns ms : List Int}, Inv X pins σ H s → SqT X.K H a (ns.map V.int) → SqT X.K H b (ms.map V.int) → Q (.bl (pt ns ms)) H → wpAny (model X.prog X.w) X.A (compareOp op (.ref a) (.ref b)) (EP X pins σ Q) X.xe s)
    (hg : ∀ dx dy d, g dx dy = some d → (∃ i j, dx = .int i ∧ dy = .int j ∧ d = .bool (pi i j)) ∨ ∃ xs ys ns ms, dx = .tuple xs ∧ dy = .tuple ys ∧ intsOf xs = some ns ∧ intsOf ys = some ms ∧ d = .bool (pt ns ms)) : OpV X (compareOp op) g := by
  intro pins s σ H x y v u Q I rx ry h
  obtain ⟨F, dx, dy, d, sm, bx, by_, hd, q⟩ := h
  rcases hg dx dy d hd with ⟨i, j, rfl, rfl, rfl⟩ | ⟨xs, ys, ns, ms, rfl, rfl, h1, h2, rfl⟩
  · exact hi pins s σ H x y v u Q I rx ry ⟨i, j, bx.int, by_.int, q.same sm (.bl _)⟩
  · obtain ⟨p, vs, rfl, _, hl, r⟩ := bx.tup sm
    obtain ⟨p', us, rfl, _, hl', r'⟩ := by_.tup sm
    cases rx
    cases ry
    rw [r.ints h1] at hl
    rw [r'.ints h2] at hl'
    exact ht I hl hl' (q.same sm (.bl _))
theorem ordSplit {g : List Int → List Int → D} {xs ys : List D} {d : D} (h : ((intsOf xs).bind fun x => (intsOf ys).map fun y => g x y) = some d) : ∃ ns ms, intsOf xs = some ns ∧ intsOf ys = some ms ∧ d = g ns ms := by
  obtain ⟨ns, h1, h⟩ := bind_some h
  obtain ⟨ms, h2, h⟩ := map_some h
  exact ⟨ns, ms, h1, h2, h.symm⟩
theorem o_lt (hu : X.A.units < cLine) : OpV X (compareOp .Lt) ltD := o_ord (pi := fun i j => decide (i < j)) (pt := fun x y => lexLt x y) op_lt
  (fun I ha hb q => tupOrd (op := .Lt) (pi := fun i j => decide (i < j)) (pz := fun i j => decide (i < j)) hu (fun a b t u => Ob.RcOp.lt_int a b t u) (fun h1 h2 h3 h4 h5 => Ob.RcOp.tuples_lt h1 h2 h3 h4 h5) (fun _ _ => rfl) I ha hb (by rw [lexAt_lt]; exact q)) fun dx dy d h => by
  cases dx <;> cases dy <;> first | (cases h; done) | skip
  · cases h; exact .inl ⟨_, _, rfl, rfl, rfl⟩
  · obtain ⟨ns, ms, h1, h2, h3⟩ := ordSplit (g := fun x y => .bool (lexLt x y)) h
    exact .inr ⟨_, _, ns, ms, rfl, rfl, h1, h2, h3⟩
theorem o_gt (hu : X.A.units < cLine) : OpV X (compareOp .Gt) gtD := o_ord (pi := fun i j => decide (j < i)) (pt := fun x y => lexLt y x) op_gt
  (fun {pins s σ H Q a b ns ms} I ha hb q => tupOrd (op := .Gt) (pi := fun i j => decide (j < i)) (pz := fun i j => decide (i > j)) hu (fun a b t u => Ob.RcOp.gt_int a b t u) (fun h1 h2 h3 h4 h5 => Ob.RcOp.tuples_gt h1 h2 h3 h4 h5) (fun _ _ => rfl) I ha hb (by
    have e := lexAt_lt ms ns
    rw [Nat.min_comm] at e
    rw [show (fun j => decide (ns.getD j 0 = ms.getD j 0)) = fun j => decide (ms.getD j 0 = ns.getD j 0) from funext fun j => by rw [decide_eq_decide]; exact ⟨Eq.symm, Eq.symm⟩]
    show Q (.bl (Ob.lexAt _ _ (decide (ms.length < ns.length)) 0 _)) H
    rw [e]; exact q)) fun dx dy d h => by
  cases dx <;> cases dy <;> first | (cases h; done) | skip
  · cases h; exact .inl ⟨_, _, rfl, rfl, rfl⟩
  · obtain ⟨ns, ms, h1, h2, h3⟩ := ordSplit (g := fun x y => .bool (lexLt y x)) h
    exact .inr ⟨_, _, ns, ms, rfl, rfl, h1, h2, h3⟩
theorem o_ge (hu : X.A.units < cLine) : OpV X (compareOp .GtE) geD := o_ord (pi := fun i j => decide (j ≤ i)) (pt := fun x y => !lexLt x y) op_ge
  (fun {pins s σ H Q a b ns ms} I ha hb q => tupOrd (op := .GtE) (pi := fun i j => decide (j ≤ i)) (pz := fun i j => decide (i ≥ j)) hu (fun a b t u => Ob.RcOp.ge_int a b t u) (fun h1 h2 h3 h4 h5 => Ob.RcOp.tuples_ge h1 h2 h3 h4 h5) (fun _ _ => rfl) I ha hb (by
    have e := lexAt_le ms ns
    rw [Nat.min_comm] at e
    rw [show (fun j => decide (ns.getD j 0 = ms.getD j 0)) = fun j => decide (ms.getD j 0 = ns.getD j 0) from funext fun j => by rw [decide_eq_decide]; exact ⟨Eq.symm, Eq.symm⟩]
    show Q (.bl (Ob.lexAt _ _ (decide (ms.length ≤ ns.length)) 0 _)) H
    rw [e]; exact q)) fun dx dy d h => by
  cases dx <;> cases dy <;> first | (cases h; done) | skip
  · cases h; exact .inl ⟨_, _, rfl, rfl, rfl⟩
  · obtain ⟨ns, ms, h1, h2, h3⟩ := ordSplit (g := fun x y => .bool (!lexLt x y)) h
    exact .inr ⟨_, _, ns, ms, rfl, rfl, h1, h2, h3⟩
theorem o_eq (hu : X.A.units + 64 < cLine) : OpV X (compareOp .Eq) eqD := by
  intro pins s σ H x y v u Q I rx ry h
  obtain ⟨F, dx, dy, d, sm, bx, by_, hd, q⟩ := h
  unfold eqD at hd
  split at hd
  · rename_i hs
    cases hd
    exact op_eqD hu pins s σ H x y v u Q I rx ry ⟨dx, dy, bx.shp sm hs.1, by_.shp sm hs.2, hs.1, hs.2, q.same sm (.bl _)⟩
  · cases hd
theorem o_ne (hu : X.A.units + 64 < cLine) : OpV X (compareOp .NotEq) neD := by
  intro pins s σ H x y v u Q I rx ry h
  obtain ⟨F, dx, dy, d, sm, bx, by_, hd, q⟩ := h
  unfold neD at hd
  split at hd
  · rename_i hs
    cases hd
    exact op_neD hu pins s σ H x y v u Q I rx ry ⟨dx, dy, bx.shp sm hs.1, by_.shp sm hs.2, hs.1, hs.2, q.same sm (.bl _)⟩
  · cases hd
theorem in_tupD (hu : X.A.units + 65 < cLine) {pins : List (Addr × Obj)} {s : Shared} {σ : L2.St} {H : Hp} {x y : V} {v u : Value} {Q : VK} {d : D} {ds : List D} (I : Inv X pins σ H s) (rx : RelV x v) (ry : RelV y u) (hd : Dp X.K H x d) (he : Dp X.K H y (.tuple ds))
    (sd : SeqAt.shaped d = true) (se : SeqAt.shaped (.tuple ds) = true) (q : Q (.bl (ds.any fun z => PyData.eqv z d)) H) : wpAny (model X.prog X.w) X.A (compareOp .In v u) (EP X pins σ Q) X.xe s := by
  obtain ⟨as, r1⟩ := Dp.reads I d x v hd rx
  obtain ⟨bs, r2⟩ := Dp.reads I (.tuple ds) y u he ry
  exact SeqAt.in_tuple_reads r2 r1 (SeqAt.canLay_of_shaped se) (SeqAt.canLay_of_shaped sd) (room_in_shaped sd hu) ⟨.bl _, H, I, rfl, q⟩
theorem nin_tupD (hu : X.A.units + 65 < cLine) {pins : List (Addr × Obj)} {s : Shared} {σ : L2.St} {H : Hp} {x y : V} {v u : Value} {Q : VK} {d : D} {ds : List D} (I : Inv X pins σ H s) (rx : RelV x v) (ry : RelV y u) (hd : Dp X.K H x d) (he : Dp X.K H y (.tuple ds))
    (sd : SeqAt.shaped d = true) (se : SeqAt.shaped (.tuple ds) = true) (q : Q (.bl (!ds.any fun z => PyData.eqv z d)) H) : wpAny (model X.prog X.w) X.A (compareOp .NotIn v u) (EP X pins σ Q) X.xe s := by
  obtain ⟨as, r1⟩ := Dp.reads I d x v hd rx
  obtain ⟨bs, r2⟩ := Dp.reads I (.tuple ds) y u he ry
  exact SeqAt.notIn_tuple_reads r2 r1 (SeqAt.canLay_of_shaped se) (SeqAt.canLay_of_shaped sd) (room_in_shaped sd hu) ⟨.bl _, H, I, rfl, q⟩
theorem o_in (hu : X.A.units + 65 < cLine) : OpV X (compareOp .In) inD := by
  intro pins s σ H x y v u Q I rx ry h
  obtain ⟨F, dx, dy, d, sm, bx, by_, hd, q⟩ := h
  cases dy with
  | list ds =>
    simp only [inD] at hd
    split at hd
    · rename_i hs
      cases hd
      exact op_inD hu pins s σ H x y v u Q I rx ry ⟨dx, ds, bx.shp sm hs.1, by_.shp sm hs.2, hs.1, hs.2, q.same sm (.bl _)⟩
    · cases hd
  | tuple ds =>
    simp only [inD] at hd
    split at hd
    · rename_i hs
      cases hd
      exact in_tupD hu I rx ry (bx.shp sm hs.1) (by_.shp sm hs.2) hs.1 hs.2 (q.same sm (.bl _))
    · cases hd
  | _ => cases hd
theorem o_nin (hu : X.A.units + 65 < cLine) : OpV X (compareOp .NotIn) ninD := by
  intro pins s σ H x y v u Q I rx ry h
  obtain ⟨F, dx, dy, d, sm, bx, by_, hd, q⟩ := h
  cases dy with
  | list ds =>
    by_cases hs : SeqAt.shaped dx = true ∧ SeqAt.shaped (.list ds) = true
    · simp only [ninD, inD, if_pos hs] at hd
      cases hd
      exact op_notInD hu pins s σ H x y v u Q I rx ry ⟨dx, ds, bx.shp sm hs.1, by_.shp sm hs.2, hs.1, hs.2, q.same sm (.bl _)⟩
    · simp only [ninD, inD, if_neg hs] at hd
      cases hd
  | tuple ds =>
    by_cases hs : SeqAt.shaped dx = true ∧ SeqAt.shaped (.tuple ds) = true
    · simp only [ninD, inD, if_pos hs] at hd
      cases hd
      exact nin_tupD hu I rx ry (bx.shp sm hs.1) (by_.shp sm hs.2) hs.1 hs.2 (q.same sm (.bl _))
    · simp only [ninD, inD, if_neg hs] at hd
      cases hd
  | _ => cases hd
theorem RpB.isN {G : Gx} {F H : Hp} {v : V} {d : D} (h : RpB G F H v d) : decide (v = .non) = isNoneD d := by
  rcases h with h | ⟨p, k, vs, ds, rfl, rfl, _, _⟩
  · cases h <;> rfl
  · cases k <;> rfl
theorem o_is : OpV X (compareOp .Is) isD := by
  intro pins s σ H x y v u Q I rx ry h
  obtain ⟨F, dx, dy, d, sm, bx, by_, hd, q⟩ := h
  cases dy with
  | none =>
    cases hd
    refine op_isN pins s σ H x y v u Q I rx ry ⟨by_.non, ?_⟩
    rw [bx.isN]
    exact q.same sm (.bl _)
  | bool b =>
    cases dx with
    | bool a =>
      cases hd
      exact op_is_bl pins s σ H x y v u Q I rx ry ⟨a, b, bx.bl, by_.bl, q.same sm (.bl _)⟩
    | _ => cases hd
  | _ => cases dx <;> cases hd
end
end TL

set_option Elab.async false
set_option linter.all false
set_option maxRecDepth 100000
namespace TL
open PySem PySem.Spec PyProof.Rows L2
section
variable {X : Cx}
theorem c_len : CalV X (.builtin "len") lenD := by
  intro pins s σ H xs us Q I r h
  obtain ⟨F, x, dx, d, rfl, sm, bx, hd, q⟩ := h
  cases dx with
  | list ds =>
    obtain ⟨p, vs, rfl, hl, r'⟩ := bx.lst sm
    cases hd
    exact call_len_seq pins s σ H _ us Q I r ⟨p, vs, rfl, .inl hl, by rw [r'.length]; exact q.same sm (.int _)⟩
  | tuple ds =>
    obtain ⟨p, vs, rfl, _, hl, r'⟩ := bx.tup sm
    cases hd
    exact call_len_seq pins s σ H _ us Q I r ⟨p, vs, rfl, .inr hl, by rw [r'.length]; exact q.same sm (.int _)⟩
  | str z =>
    have e := bx.str
    subst e
    simp only [lenD] at hd
    split at hd
    · cases hd
      exact call_len_str pins s σ H _ us Q I r ⟨z, rfl, by assumption, q.same sm (.int _)⟩
    · cases hd
  | _ => cases hd
theorem c_tuple : CalV X (.type "tuple") tupleD := by
  intro pins s σ H xs us Q I r h
  obtain ⟨F, x, dx, d, rfl, sm, bx, hd, q⟩ := h
  cases dx with
  | list ds =>
    obtain ⟨p, vs, rfl, hl, r'⟩ := bx.lst sm
    cases hd
    exact call_tuple_ofF pins s σ H _ us Q I r ⟨p, vs, rfl, .inl ⟨hl, fun l o hl ho => q.newT sm r' hl ho⟩⟩
  | tuple ds =>
    obtain ⟨p, vs, rfl, hf, hl, r'⟩ := bx.tup sm
    cases hd
    exact call_tuple_ofF pins s σ H _ us Q I r ⟨p, vs, rfl, .inr ⟨hl, q.same sm (.tup hf r')⟩⟩
  | _ => cases hd
theorem c_int : CalV X (.type "int") intD := by
  intro pins s σ H xs us Q I r h
  obtain ⟨F, x, dx, d, rfl, sm, bx, hd, q⟩ := h
  cases dx with
  | int i =>
    have e := bx.int
    subst e
    cases hd
    exact call_int1 pins s σ H _ us Q I r (.inl ⟨i, rfl, q.same sm (.int _)⟩)
  | bool i =>
    have e := bx.bl
    subst e
    cases hd
    exact call_int1 pins s σ H _ us Q I r (.inr ⟨i, rfl, q.same sm (.int _)⟩)
  | _ => cases hd
theorem c_all (hc : X.calm = true) : CalV X (.builtin "all") allD := by
  intro pins s σ H xs us Q I r h
  obtain ⟨F, x, dx, d, rfl, sm, bx, hd, q⟩ := h
  cases dx with
  | list ds =>
    obtain ⟨p, vs, rfl, hl, r'⟩ := bx.lst sm
    obtain ⟨bs, h1, h2⟩ := map_some (show (boolsOf ds).map _ = some d from hd)
    subst h2
    rw [r'.bools h1] at hl
    exact cr_all hc pins s σ H _ us Q I r ⟨p, bs, rfl, hl, q.same sm (.bl _)⟩
  | _ => cases hd
theorem c_any (hc : X.calm = true) : CalV X (.builtin "any") anyD := by
  intro pins s σ H xs us Q I r h
  obtain ⟨F, x, dx, d, rfl, sm, bx, hd, q⟩ := h
  cases dx with
  | list ds =>
    obtain ⟨p, vs, rfl, hl, r'⟩ := bx.lst sm
    obtain ⟨bs, h1, h2⟩ := map_some (show (boolsOf ds).map _ = some d from hd)
    subst h2
    rw [r'.bools h1] at hl
    exact cr_any hc pins s σ H _ us Q I r ⟨p, bs, rfl, hl, q.same sm (.bl _)⟩
  | _ => cases hd
def tyS : Ty → String
  | .int => "int"
  | .bool => "bool"
  | .str => "str"
  | .tuple => "tuple"
  | .list => "list"
  | .dict => "dict"
theorem kb (a : String) (t : Ty) (ha : a = "NoneType" ∨ a = "int" ∨ a = "bool" ∨ a = "str" ∨ a = "tuple" ∨ a = "list") : kitB a (tyS t) = some (isTy t (match a with | "int" => .int 0 | "bool" => .bool true | "str" => .str ⟨#[]⟩ | "tuple" => .tuple [] | "list" => .list [] | _ => .none)) := by
  rcases ha with rfl | rfl | rfl | rfl | rfl | rfl <;> cases t <;> decide +kernel
theorem tyx_lst {K : PySem.W.Frag} {H : Hp} {a : Addr} {xs : List V} (h : SqL K H a xs) : TyX K H (.ref a) (.type "list") := by
  rcases h with (h | ⟨o, h⟩) | ⟨o, its, n, hk, hc, _⟩
  · exact .base (.lst h)
  · exact .base (.frz h)
  · exact .kList hk hc
theorem tyx_tup {K : PySem.W.Frag} {H : Hp} {a : Addr} {xs : List V} (h : SqT K H a xs) : TyX K H (.ref a) (.type "tuple") := by
  rcases h with (h | ⟨o, h⟩) | ⟨o, its, n, hk, hc, _⟩
  · exact .base (.tup h)
  · exact .fTuple h
  · exact .kTuple hk hc
theorem c_isi {pins : List (Addr × Obj)} {s : Shared} {σ : L2.St} {F H : Hp} {x : V} {dx d : D} {us : List Value} {Q : VK} {t : Ty} (I : Inv X pins σ H s) (r : Vals [x, .ty (tyS t)] us) (sm : Same F H) (bx : RpB (gx X) F H x dx) (hd : isiD t dx = some d) (q : kV (gx X) F H d Q) :
    wpAny (model X.prog X.w) X.A (call (.builtin "isinstance") us) (EP X pins σ Q) X.xe s := by
  have go : ∀ {a : String} {b : Bool}, TyX X.K H x (.type a) → kitB a (tyS t) = some b → Q (.bl b) H → wpAny (model X.prog X.w) X.A (call (.builtin "isinstance") us) (EP X pins σ Q) X.xe s :=
    fun {a b} ty e qq => call_isi pins s σ H _ us Q I r ⟨x, .ty (tyS t), .type a, .type (tyS t), b, rfl, .ty _, ty, kit_ty e, qq⟩
  cases dx with
  | none =>
    have e := bx.non
    subst e
    cases hd
    have hk := kb "NoneType" t (.inl rfl)
    exact go (.base .non) hk (q.same sm (by cases t <;> exact .bl _))
  | bool b =>
    have e := bx.bl
    subst e
    cases hd
    have hk := kb "bool" t (.inr (.inr (.inl rfl)))
    exact go (.base (.bl b)) hk (q.same sm (by cases t <;> exact .bl _))
  | int i =>
    have e := bx.int
    subst e
    cases hd
    have hk := kb "int" t (.inr (.inl rfl))
    exact go (.base (.int i)) hk (q.same sm (by cases t <;> exact .bl _))
  | str z =>
    have e := bx.str
    subst e
    cases hd
    have hk := kb "str" t (.inr (.inr (.inr (.inl rfl))))
    exact go (.base (.str z)) hk (q.same sm (by cases t <;> exact .bl _))
  | tuple ds =>
    obtain ⟨p, vs, rfl, _, hl, r'⟩ := bx.tup sm
    cases hd
    have hk := kb "tuple" t (.inr (.inr (.inr (.inr (.inl rfl)))))
    exact go (tyx_tup hl) hk (q.same sm (by cases t <;> exact .bl _))
  | list ds =>
    obtain ⟨p, vs, rfl, hl, r'⟩ := bx.lst sm
    cases hd
    have hk := kb "list" t (.inr (.inr (.inr (.inr (.inr rfl)))))
    exact go (tyx_lst hl) hk (q.same sm (by cases t <;> exact .bl _))
  | dict _ => cases hd
variable {O : List Nat} {e : Expr} {f : SE} {p p2 pos : Pos} {x y : Str}
theorem eisi (t : Ty) (hg : Gl X "isinstance") (hm : X.mg "isinstance" = none) (hg2 : Gl X y) (hm2 : X.mg y = none) (hv2 : bootBuiltins y = some (.type (tyS t))) (ha : PE X e (rB (gx X) O f))
    (hn2 : y ≠ "__name__" := by decide) (hd2 : (y == ("__debug__" : Str)) = false := by decide) (hs : starEach [e, .Name y p2] X.env = (false, eval e X.env) :: starEach [.Name y p2] X.env := by rfl)
    (hs2 : starEach [.Name y p2] X.env = (false, eval (.Name y p2) X.env) :: starEach [] X.env := by rfl) (hpl : (backTo pos (starEach [.Name y p2] X.env)).any (·.1) = false := by rfl) :
    PE X (.Call (.Name "isinstance" p) [e, .Name y p2] [] pos) (rV (gx X) O (e1 (isiD t) f)) := by
  have hc : CallR X (.builtin "isinstance") fun xs H Q => ∃ F x dx d, xs = [x, .ty (tyS t)] ∧ Same F H ∧ RpB (gx X) F H x dx ∧ isiD t dx = some d ∧ kV (gx X) F H d Q := by
    intro pins s σ H xs us Q I r h
    obtain ⟨F, x, dx, d, rfl, sm, bx, hd, q⟩ := h
    exact c_isi I r sm bx hd q
  refine (pe_callB hc hg hm (by decide +kernel) (pa_cons ha (pa_cons (pe_bltn (v := .ty (tyS t)) hg2 hm2 hv2 rfl hn2 hd2) pa_nil hs2) hs) (by decide) (by decide) hs hpl).imp fun σ H Q ⟨F, env, d, hs, hf, q⟩ => ?_
  obtain ⟨x, h1, h3⟩ := split1 hf
  exact ⟨F, env, x, hs, h1, fun v F1 H1 g1 r1 => ⟨F1, v, x, d, rfl, g1.fh, r1, h3, q.gr g1⟩⟩
end
end TL

set_option Elab.async false
set_option linter.all false
set_option maxRecDepth 100000
namespace TL
open PySem PySem.Spec PyProof.Rows L2
def HLen (K : PySem.W.Frag) (H : Hp) : Prop := (∀ a xs, SqL K H a xs → xs.length ≤ sizeLine) ∧ ∀ a xs, SqT K H a xs → xs.length ≤ sizeLine
theorem pe_hl {X : Cx} {e : Expr} {t : TE} (h : PE X e t) : PE X e fun σ H Q => t σ H fun v H' => HLen X.K H' → Q v H' := by
  refine ⟨fun pins s σ H Q I q => thn (h.run pins s σ H _ I q) fun u s1 ⟨v, H', I', r, q'⟩ => ⟨v, H', I', r, q' ⟨fun a xs h => ?_, fun a xs h => ?_⟩⟩⟩
  · obtain ⟨_, _, _, z⟩ := I'.list h; exact z
  · obtain ⟨_, _, _, z⟩ := I'.tuple h; exact z
def ItV (G : Gx) (J : It) (F : Hp) (ds : List D) : Prop := ∀ i F2 H2, Same F F2 → Same F2 H2 →
  (∀ d, ds[i]? = some d → J.go i H2 ∧ ∀ v H3, J.yld i H2 v H3 → H3 = H2 ∧ Rp G F2 v d) ∧ (ds[i]? = none → J.stop i H2)
def ItB (G : Gx) (J : It) (F H : Hp) (ds : List D) : Prop := ∀ i F2 H2, Same F F2 → SameN H H2 → Same F2 H2 →
  (∀ d, ds[i]? = some d → J.go i H2 ∧ ∀ v H3, J.yld i H2 v H3 → H3 = H2 ∧ Rp G F2 v d) ∧ (ds[i]? = none → J.stop i H2)
theorem ItV.b {G : Gx} {J : It} {F H : Hp} {ds : List D} (h : ItV G J F ds) : ItB G J F H ds := fun i F2 H2 a _ c => h i F2 H2 a c
def iV (G : Gx) (O : List Nat) (f : SI) : TI := fun σ H R => ∃ F env ds, SOk G O F H σ env ∧ f env = some ds ∧ ∀ J F' H', Gr F H F' H' → ds.length ≤ sizeLine → ItV G J F' ds → R J H'
def iB (G : Gx) (O : List Nat) (f : SI) : TI := fun σ H R => ∃ F env ds, SOk G O F H σ env ∧ f env = some ds ∧ ∀ J F' H', Gr F H F' H' → ds.length ≤ sizeLine → ItB G J F' H' ds → R J H'
section
variable {G : Gx} {F H : Hp}
theorem range_get (lo : Int) : ∀ (n i : Nat), (rangeL lo n)[i]? = if i < n then some (.int (lo + i)) else none := by
  intro n
  induction n generalizing lo with
  | zero => intro i; simp [rangeL]
  | succ n ih =>
    intro i
    cases i with
    | zero => simp [rangeL]
    | succ i =>
      show (rangeL (lo + 1) n)[i]? = _
      rw [ih (lo + 1) i]
      by_cases h : i < n
      · rw [if_pos h, if_pos (by omega)]
        congr 2
        omega
      · rw [if_neg h, if_neg (by omega)]
theorem range_len (lo : Int) : ∀ n : Nat, (rangeL lo n).length = n
  | 0 => rfl
  | n + 1 => congrArg (· + 1) (range_len (lo + 1) n)
theorem itv_range (lo : Int) (n : Nat) : ItV G (Itr lo n) F (rangeL lo n) := fun i F2 H2 _ _ => by
  rw [range_get]
  refine ⟨fun d e => ?_, fun e => ?_⟩
  · by_cases h : i < n
    · rw [if_pos h] at e
      cases e
      exact ⟨h, fun v H3 ⟨h1, h2⟩ => by subst h2; exact ⟨h1, .int _⟩⟩
    · rw [if_neg h] at e; cases e
  · by_cases h : i < n
    · rw [if_pos h] at e; cases e
    · show n ≤ i
      omega
end
section
variable {X : Cx} {O : List Nat} {tg a b : Expr} {fa fb : SE} {p pos : Pos}
theorem _root_.L2.PI.imp {t t' : TI} {it : Expr} (h : PI X tg it t) (i : ∀ σ H Q, t' σ H Q → t σ H Q) : PI X tg it t' := ⟨fun pins s σ H R I q => h.run pins s σ H R I (i σ H R q)⟩
theorem iv_b {it : Expr} {f : SI} (h : PI X tg it (iV (gx X) O f)) : PI X tg it (iB (gx X) O f) := h.imp fun σ H R ⟨F, env, ds, hs, hf, q⟩ => ⟨F, env, ds, hs, hf, fun J F' H' g z k => q J F' H' g z k.b⟩
theorem rngSplit {lo hi : Int} {ds : List D} (h : rangeD lo hi = some ds) : -(2 ^ 62) ≤ lo ∧ lo < 2 ^ 62 ∧ -(2 ^ 62) ≤ hi ∧ hi < 2 ^ 62 ∧ (hi - lo).toNat ≤ sizeLine ∧ ds = rangeL lo (hi - lo).toNat := by
  unfold rangeD at h
  split at h
  · rename_i z
    simp only [okRng, Bool.and_eq_true, Nat.ble_eq] at z
    exact ⟨by omega, by omega, by omega, by omega, z.2, (Option.some.inj h).symm⟩
  · cases h
theorem irng1 (hg : Gl X "range") (hm : X.mg "range" = none) (ha : PE X a (rV (gx X) O fa)) (hs : starEach [a] X.env = [(false, eval a X.env)] := by rfl) : PI X tg (.Call (.Name "range" p) [a] [] pos) (iV (gx X) O (iRng1 fa)) :=
  (pi_range1 hg hm (pa_cons ha pa_nil hs) hs).imp fun σ H R ⟨F, env, ds, hs, hf, q⟩ => by
    simp only [iRng1] at hf
    obtain ⟨x, h1, hf⟩ := bind_some hf
    obtain ⟨n, h2, h3⟩ := bind_some hf
    have e2 := toI_some h2
    subst e2
    obtain ⟨_, _, z1, z2, z3, e4⟩ := rngSplit h3
    refine ⟨F, env, _, hs, h1, fun v F1 H1 g1 r1 => ?_⟩
    cases r1
    refine ⟨n, rfl, z1, z2, ?_⟩
    rw [Int.sub_zero] at e4 z3
    subst e4
    exact q _ F1 H1 g1 (by rw [range_len]; exact z3) (itv_range 0 _)
theorem irng2 (hg : Gl X "range") (hm : X.mg "range" = none) (ha : PE X a (rV (gx X) O fa)) (hb : PE X b (rV (gx X) O fb)) (hs : starEach [a, b] X.env = [(false, eval a X.env), (false, eval b X.env)] := by rfl) (hs2 : starEach [b] X.env = [(false, eval b X.env)] := by rfl) :
    PI X tg (.Call (.Name "range" p) [a, b] [] pos) (iV (gx X) O (iRng2 fa fb)) :=
  (pi_range2 hg hm (pa_cons ha (pa_cons hb pa_nil hs2) (by rw [hs, hs2])) hs hs2).imp fun σ H R ⟨F, env, ds, hs, hf, q⟩ => by
    simp only [iRng2] at hf
    obtain ⟨x, h1, hf⟩ := bind_some hf
    obtain ⟨y, h2, hf⟩ := bind_some hf
    obtain ⟨n, h3, hf⟩ := bind_some hf
    obtain ⟨m, h4, h5⟩ := bind_some hf
    have e3 := toI_some h3
    have e4 := toI_some h4
    subst e3 e4
    obtain ⟨z1, z2, z3, z4, z5, e6⟩ := rngSplit h5
    refine ⟨F, env, _, hs, h1, fun v F1 H1 g1 r1 => ⟨F1, env, _, hs.gr g1, h2, fun u F2 H2 g2 r2 => ?_⟩⟩
    cases r1
    cases r2
    subst e6
    exact ⟨n, m, rfl, ⟨z1, z2, z3, z4⟩, q _ F2 H2 (g1.trans g2) (by rw [range_len]; exact z5) (itv_range n _)⟩
theorem _root_.L2.PI.or {t t' : TI} {it : Expr} (h : PI X tg it t) (h' : PI X tg it t') : PI X tg it fun σ H R => t σ H R ∨ t' σ H R := ⟨fun pins s σ H R I q => q.elim (h.run pins s σ H R I) (h'.run pins s σ H R I)⟩
theorem itv_list {K : PySem.W.Frag} {mg : Str → Option Value} {P0 : Program} {w0 : World} {F : Hp} {a : Addr} {vs : List V} {ds : List D} (h : SqL K F a vs) (r : RpAll ⟨K, mg, P0, w0⟩ F vs ds) : ItV ⟨K, mg, P0, w0⟩ (Itl K a) F ds := fun i F2 H2 s1 s2 => by
  have h2 : SqL K H2 a vs := s2.seq (s1.seq h)
  refine ⟨fun d e => ?_, fun e => ⟨vs, h2, by rw [r.length]; exact List.getElem?_eq_none_iff.mp e⟩⟩
  obtain ⟨v, h3, h4⟩ := r.get e
  refine ⟨⟨vs, v, h2, h3⟩, fun x H3 ⟨e1, e2⟩ => ⟨e1, ?_⟩⟩
  have e3 := e2 vs h2
  rw [h3] at e3
  cases e3
  exact h4.mono s1
theorem itv_tup {K : PySem.W.Frag} {mg : Str → Option Value} {P0 : Program} {w0 : World} {F : Hp} {a : Addr} {vs : List V} {ds : List D} (h : SqT K F a vs) (r : RpAll ⟨K, mg, P0, w0⟩ F vs ds) : ItV ⟨K, mg, P0, w0⟩ (Itt K a) F ds := fun i F2 H2 s1 s2 => by
  have h2 : SqT K H2 a vs := sameT s2 (sameT s1 h)
  refine ⟨fun d e => ?_, fun e => ⟨vs, h2, by rw [r.length]; exact List.getElem?_eq_none_iff.mp e⟩⟩
  obtain ⟨v, h3, h4⟩ := r.get e
  refine ⟨⟨vs, v, h2, h3⟩, fun x H3 ⟨e1, e2⟩ => ⟨e1, ?_⟩⟩
  have e3 := e2 vs h2
  rw [h3] at e3
  cases e3
  exact h4.mono s1
theorem itb_list {K : PySem.W.Frag} {mg : Str → Option Value} {P0 : Program} {w0 : World} {F H : Hp} {a : Addr} {vs : List V} {ds : List D} (h : SqL K H a vs) (r : RpAll ⟨K, mg, P0, w0⟩ F vs ds) : ItB ⟨K, mg, P0, w0⟩ (Itl K a) F H ds := fun i F2 H2 s1 s2 s3 => by
  have h2 : SqL K H2 a vs := s2.seq h
  refine ⟨fun d e => ?_, fun e => ⟨vs, h2, by rw [r.length]; exact List.getElem?_eq_none_iff.mp e⟩⟩
  obtain ⟨v, h3, h4⟩ := r.get e
  refine ⟨⟨vs, v, h2, h3⟩, fun x H3 ⟨e1, e2⟩ => ⟨e1, ?_⟩⟩
  have e3 := e2 vs h2
  rw [h3] at e3
  cases e3
  exact h4.mono s1
theorem iseq (ha : PE X a (rV (gx X) O fa)) : PI X tg a (iV (gx X) O (iSeq fa)) :=
  (PI.or (pi_list (pe_hl ha)) (pi_tup (pe_hl ha))).imp fun σ H R ⟨F, env, ds, hs, hf, q⟩ => by
    simp only [iSeq] at hf
    obtain ⟨x, h1, h2⟩ := bind_some hf
    cases x with
    | list es =>
      have e2 := Option.some.inj h2
      subst e2
      refine .inl ⟨F, env, _, hs, h1, fun v F1 H1 g1 r1 hl => ?_⟩
      cases r1 with
      | lst h r => exact ⟨_, rfl, ⟨_, g1.fh.seq h⟩, q _ F1 H1 g1 (by rw [← r.length]; exact hl.1 _ _ (g1.fh.seq h)) (itv_list h r)⟩
    | tuple es =>
      have e2 := Option.some.inj h2
      subst e2
      refine .inr ⟨F, env, _, hs, h1, fun v F1 H1 g1 r1 hl => ?_⟩
      cases r1 with
      | tup h r => exact ⟨_, rfl, ⟨_, sameT g1.fh h.t⟩, q _ F1 H1 g1 (by rw [← r.length]; exact hl.2 _ _ (sameT g1.fh h.t)) (itv_tup h.t r)⟩
    | _ => cases h2
theorem iseqB (ha : PE X a (rB (gx X) O fa)) : PI X tg a (iB (gx X) O (iSeq fa)) :=
  (PI.or (pi_list (pe_hl ha)) (pi_tup (pe_hl ha))).imp fun σ H R ⟨F, env, ds, hs, hf, q⟩ => by
    simp only [iSeq] at hf
    obtain ⟨x, h1, h2⟩ := bind_some hf
    cases x with
    | list es =>
      have e2 := Option.some.inj h2
      subst e2
      refine .inl ⟨F, env, _, hs, h1, fun v F1 H1 g1 r1 hl => ?_⟩
      obtain ⟨p, vs, rfl, h, r⟩ := r1.lst g1.fh
      exact ⟨_, rfl, ⟨_, h⟩, q _ F1 H1 g1 (by rw [← r.length]; exact hl.1 _ _ h) (itb_list h r)⟩
    | tuple es =>
      have e2 := Option.some.inj h2
      subst e2
      refine .inr ⟨F, env, _, hs, h1, fun v F1 H1 g1 r1 hl => ?_⟩
      obtain ⟨p, vs, rfl, hf, h, r⟩ := r1.tup g1.fh
      exact ⟨_, rfl, ⟨_, h⟩, q _ F1 H1 g1 (by rw [← r.length]; exact hl.2 _ _ h) (itv_tup hf.t r).b⟩
    | _ => cases h2
end
def tG (G : Gx) (O : List Nat) (sl : List Nat) (g : SG) : TG := fun v σ H Q => ∃ F env d env', SOk G O F H σ env ∧ Rp G F v d ∧ g d env = some env' ∧
  ∀ σ', SOk G O F H σ' env' → σ'.length = σ.length → (∀ j, j ∉ sl → σ'[j]? = σ[j]?) → Q σ' H
def tGs (G : Gx) (O : List Nat) (sl : List Nat) (gs : List SG) : TGs := fun vs σ H Q => ∃ F env ds env', SOk G O F H σ env ∧ RpAll G F vs ds ∧ gAll gs ds env = some env' ∧
  ∀ σ', SOk G O F H σ' env' → σ'.length = σ.length → (∀ j, j ∉ sl → σ'[j]? = σ[j]?) → Q σ' H
section
variable {X : Cx} {O : List Nat} {pos : Pos}
theorem _root_.L2.PG.imp {t t' : TG} {e : Expr} (h : PG X e t) (i : ∀ v σ H Q, t' v σ H Q → t v σ H Q) : PG X e t' := ⟨fun pins s σ H v u Q I r q => h.run pins s σ H v u Q I r (i v σ H Q q)⟩
theorem _root_.L2.PGs.imp {t t' : TGs} {e : List Expr} (h : PGs X e t) (i : ∀ v σ H Q, t' v σ H Q → t v σ H Q) : PGs X e t' := ⟨fun pins s σ H v u Q I r q => h.run pins s σ H v u Q I r (i v σ H Q q)⟩
theorem gn (i : Nat) {x : Str} (hN : X.N.Nodup) (hO : i ∉ O := by decide) (hi : X.N[i]? = some x := by rfl) (hx : Loc X.env.scope x := by first | exact Or.inl rfl | exact Or.inr rfl) (hf : X.fn x = true ∨ X.env.scope.names.lookup x = some .local := by first | exact .inl rfl | exact .inr rfl | assumption) :
    PG X (.Name x pos) (tG (gx X) O [i] (TL.gName i)) := (pg_name hN hi hx hf).imp fun v σ H Q ⟨F, env, d, env', hs, r, hg, q⟩ => by
  cases hg
  exact q _ (hs.set hO r) (List.length_set ..) fun j hj => List.getElem?_set_ne fun e => hj (by rw [e]; exact List.mem_singleton.mpr rfl)
theorem gsn : PGs X [] (tGs (gx X) O [] []) := pgs_nil.imp fun vs σ H Q ⟨F, env, ds, env', hs, r, hg, q⟩ => by
  cases r with
  | nil =>
    cases hg
    exact ⟨rfl, q σ hs rfl fun _ _ => rfl⟩
  | cons _ _ => cases hg
theorem gsc {e : Expr} {es : List Expr} {sl sl' : List Nat} {g : SG} {gs : List SG} (h1 : PG X e (tG (gx X) O sl g)) (h2 : PGs X es (tGs (gx X) O sl' gs)) (hs : (assignEach (e :: es) X.env).map (·.2) = assign e X.env :: (assignEach es X.env).map (·.2) := by rfl) :
    PGs X (e :: es) (tGs (gx X) O (sl ++ sl') (g :: gs)) := (pgs_cons h1 h2 hs).imp fun vs σ H Q ⟨F, env, ds, env', hs, r, hg, q⟩ => by
  cases r with
  | nil => cases hg
  | @cons v vs d ds r1 r2 =>
    simp only [gAll] at hg
    obtain ⟨env1, h3, h4⟩ := bind_some hg
    refine ⟨v, vs, rfl, F, env, d, env1, hs, r1, h3, fun σ1 s1 l1 k1 => ⟨F, env1, ds, env', s1, r2, h4, fun σ2 s2 l2 k2 => q σ2 s2 (l2.trans l1) fun j hj => ?_⟩⟩
    rw [List.mem_append, not_or] at hj
    rw [k2 j hj.2, k1 j hj.1]
theorem gAll_len : ∀ {gs : List SG} {ds : List D} {env env' : Env}, gAll gs ds env = some env' → ds.length = gs.length
  | [], [], _, _, _ => rfl
  | [], _ :: _, _, _, h => by cases h
  | _ :: _, [], _, _, h => by cases h
  | g :: gs, d :: ds, env, env', h => by
    simp only [gAll] at h
    obtain ⟨e, _, h⟩ := bind_some h
    exact congrArg (· + 1) (gAll_len h)
theorem gt {es : List Expr} {k : Nat} {sl : List Nat} {gs : List SG} (hc : X.calm = true) (h : PGs X es (tGs (gx X) O sl gs)) (hn : (assignEach es X.env).length = gs.length := by rfl) (hst : (assignEach es X.env).findIdx? (·.1) = none := by rfl) :
    PG X (.Tuple es k pos) (tG (gx X) O sl (TL.gTup gs)) := (pg_tup hc h hn hst).imp fun v σ H Q ⟨F, env, d, env', hs, r, hg, q⟩ => by
  cases d with
  | tuple ds =>
    have hg : gAll gs ds env = some env' := hg
    cases r with
    | tup h r => exact ⟨_, _, rfl, sameT hs.fh h.t, by rw [r.length]; exact gAll_len hg, F, env, ds, env', hs, r, hg, q⟩
  | _ => cases hg
end
section
variable {X : Cx} {O : List Nat}
theorem _root_.L2.PTs.imp {t t' : TT} {e : List Expr} (h : PTs X e t) (i : ∀ σ H Q, t' σ H Q → t σ H Q) : PTs X e t' := ⟨fun pins s σ H Q I q => h.run pins s σ H Q I (i σ H Q q)⟩
theorem pyes : PTs X [] (rT (gx X) O cYes) := pts_nil.imp fun σ H Q ⟨F, env, b, hs, hf, q⟩ => by
  cases hf
  exact q F H (Gr.refl hs.fh)
theorem pone {c : Expr} {f : ST} (h : PT X c (rT (gx X) O f)) : PTs X [c] (rT (gx X) O f) := pts_one h
structure LcI (G : Gx) (F1 H1 F' H' : Hp) (D0 : Addr) (acc : List V) (accD : List D) : Prop where
  gr : Gr F1 H1 F' H'
  fr : F' D0 = none
  at_ : H' D0 = some (.lst acc)
  rp : RpAll G F' acc accD
theorem LcI.app {G : Gx} {F1 H1 F' H' : Hp} {D0 : Addr} {acc : List V} {accD : List D} (h : LcI G F1 H1 F' H' D0 acc accD) (hn : H1 D0 = none) {y : V} {d : D} (r : Rp G F' y d) : LcI G F1 H1 F' (upd H' D0 (.lst (acc ++ [y]))) D0 (acc ++ [y]) (accD ++ [d]) := by
  refine ⟨⟨h.gr.ff, h.gr.hh.upd_ hn, fun b x e => ?_, h.gr.hid⟩, h.fr, upd_same, h.rp.append (.cons r .nil)⟩
  · rw [upd_ne (ne_of_none e h.fr)]
    exact h.gr.fh b x e
theorem LcI.gr' {G : Gx} {F1 H1 F' H' F2 H2 : Hp} {D0 : Addr} {acc : List V} {accD : List D} (h : LcI G F1 H1 F' H' D0 acc accD) (g : Gr F' H' F2 H2) : LcI G F1 H1 F2 H2 D0 acc accD :=
  ⟨h.gr.trans g, g.hid _ _ h.at_ h.fr, g.hh.l h.at_, h.rp.mono g.ff⟩
theorem lc_read {G : Gx} {O : List Nat} {fi : SI} {g : SG} {c : ST} {f : SE} {sl vs : List Nat} (hsl : ∀ j ∈ sl, j ∈ vs) (hO : ∀ j ∈ vs, j ∉ O) {σ : L2.St} {H : Hp} {Q : VK} (h : rN G O (eLc vs fi g c f) σ H Q) :
    tLc (iB G O fi) (tG G O sl g) (rT G O c) (rV G O f) vs σ H Q := by
    obtain ⟨F, env, d, hs, hf, q⟩ := h
    simp only [eLc] at hf
    obtain ⟨ds, h1, hf⟩ := bind_some hf
    obtain ⟨es, h2, h3⟩ := map_some hf
    subst h3
    refine ⟨F, env, ds, hs, h1, fun J F1 H1 g1 hz hJ D0 hD => ?_⟩
    have hs1 := hs.gr g1
    refine ⟨fun i m H' => ∃ F' acc accD rest, LcI G F1 H1 F' H' D0 acc accD ∧ accD.length ≤ i ∧ i ≤ ds.length ∧ m = ds.length - i ∧ lcGo g c f (wipeE env (vs)) (ds.drop i) = some rest ∧ es = accD ++ rest,
      ⟨ds.length, F1, [], [], es, ⟨Gr.open_ g1.fh hD, Same.nn g1.fh hD, upd_same, .nil⟩, Nat.le_refl _, Nat.zero_le _, by omega, h2, rfl⟩, ?_⟩
    rintro i m H' ⟨F', acc, accD, rest, L, l1, l2, rfl, hgo, ees⟩
    have hs' := (hs1.gr L.gr).wipe hO
    have hJ' := hJ i F' H' L.gr.ff L.gr.hh L.gr.fh
    cases hd : ds[i]? with
    | none =>
      have hi : ds.length ≤ i := List.getElem?_eq_none_iff.mp hd
      refine .inl ⟨hJ'.2 hd, ?_⟩
      rw [List.drop_eq_nil_of_le hi] at hgo
      cases hgo
      rw [List.append_nil] at ees
      subst ees
      exact q D0 .lst acc es F' H' (g1.trans L.gr) (g1.hh.free hD) L.fr L.at_ L.rp trivial rfl
    | some x =>
      have hi : i < ds.length := (List.getElem?_eq_some_iff.mp hd).1
      have hx : ds[i] = x := (List.getElem?_eq_some_iff.mp hd).2
      have hdr : ds.drop i = x :: ds.drop (i + 1) := by rw [List.drop_eq_getElem_cons hi, hx]
      rw [hdr] at hgo
      simp only [lcGo] at hgo
      obtain ⟨env1, hg1, hgo⟩ := bind_some hgo
      obtain ⟨b, hc1, hgo⟩ := bind_some hgo
      refine .inr ⟨(hJ'.1 x hd).1, fun H2 => ∃ F' acc accD rest, LcI G F1 H1 F' H2 D0 acc accD ∧ accD.length ≤ i + 1 ∧ lcGo g c f (wipeE env (vs)) (ds.drop (i + 1)) = some rest ∧ es = accD ++ rest, fun H2 h => ?_, fun v H2 hy => ?_⟩
      · obtain ⟨F2, acc2, accD2, rest2, L2, l3, hg2, e2⟩ := h
        exact ⟨ds.length - (i + 1), by omega, F2, acc2, accD2, rest2, L2, l3, hi, rfl, hg2, e2⟩
      · obtain ⟨rfl, rv⟩ := (hJ'.1 x hd).2 v H2 hy
        refine ⟨F', _, x, env1, hs', rv, hg1, fun σ2 s2 ln kp => ⟨ext_wipe ln kp hsl |>.trans ?_, F', env1, b, s2, hc1, fun F3 H3 g3 => ?_⟩⟩
        · have : ∀ (vs ws : List Nat) (τ : L2.St), (∀ j ∈ ws, j ∈ vs) → L2.wipe (L2.wipe τ ws) vs = L2.wipe τ vs := fun vs ws τ h => ext_wipe (sl := ws) (wipe_length _ _) (fun j hj => wipe_out hj) h
          exact this _ _ _ fun j h => h
        · cases b with
          | true =>
            rw [if_pos rfl] at hgo ⊢
            obtain ⟨y, he1, hgo⟩ := bind_some hgo
            obtain ⟨rest2, hg2, e2⟩ := map_some hgo
            refine ⟨F3, env1, y, s2.gr g3, he1, fun w F4 H4 g4 r4 => ?_⟩
            have L4 := (L.gr' g3).gr' g4
            refine ⟨acc, L4.at_, ?_, F4, acc ++ [w], accD ++ [y], rest2, L4.app hD r4, by rw [List.length_append]; exact Nat.succ_le_succ l1, hg2, ?_⟩
            · rw [L.rp.length]
              omega
            · rw [ees, ← e2, List.append_assoc]
              rfl
          | false =>
            rw [if_neg Bool.false_ne_true] at hgo ⊢
            exact ⟨F3, acc, accD, rest, L.gr' g3, by omega, hgo, ees⟩
theorem elc {elt tg iter : Expr} {ifs : List Expr} {scope : Scope} {own : List (Str × Nat)} {pos : Pos} {fi : SI} {g : SG} {c : ST} {f : SE} {sl : List Nat} (hc : X.calm = true) (hN : X.N.Nodup) (hi : PI X tg iter (iB (gx X) O fi)) (ok : BlkOk X.N X.env.scope scope own)
    (hg : ∀ (s : Shared) (H : Hp) (C : Addr) (cl : List (Str × Addr)) (fp : List Addr), PG (X.blk s H scope (compEnvC scope cl C X.env) fp) tg (tG (gx X) O sl g)) (ht : ∀ (s : Shared) (H : Hp) (C : Addr) (cl : List (Str × Addr)) (fp : List Addr), PTs (X.blk s H scope (compEnvC scope cl C X.env) fp) ifs (rT (gx X) O c))
    (he : ∀ (s : Shared) (H : Hp) (C : Addr) (cl : List (Str × Addr)) (fp : List Addr), PE (X.blk s H scope (compEnvC scope cl C X.env) fp) elt (rV (gx X) O f)) (hsl : ∀ j ∈ sl, j ∈ own.map (·.2) := by decide) (hO : ∀ j ∈ own.map (·.2), j ∉ O := by decide) (hs : ∀ x, foldedSetIterable iter X.env x = pure x := by intro _; rfl) :
    PE X (.ListComp elt [⟨tg, iter, ifs, 0⟩] scope pos) (rN (gx X) O (eLc (own.map (·.2)) fi g c f)) :=
  (pe_lc hc hN hi ok hg ht he hs).imp fun σ H Q h => lc_read hsl hO h
end
end TL

set_option Elab.async false
set_option linter.all false
set_option maxRecDepth 100000
namespace TL
open PySem PySem.Spec PyProof.Rows L2
structure Fr (F0 H0 : Hp) (O : List Nat) (F H : Hp) (σ : L2.St) : Prop where
  gr : Gr F0 H0 F H
  own : ∀ i ∈ O, ∀ p, σ[i]? = some (some (.ref p)) → H0 p = none
theorem Fr.step {F0 H0 F H F' H' : Hp} {O : List Nat} {σ : L2.St} (f : Fr F0 H0 O F H σ) (g : Gr F H F' H') : Fr F0 H0 O F' H' σ := ⟨f.gr.trans g, f.own⟩
abbrev RK := Hp → Hp → D → VK → Prop
def oV' (G : Gx) : RK := fun F0 H0 d k => kV G F0 H0 d k
def sPost (G : Gx) (R : RK) (O' Ob : List Nat) (F0 H0 F : Hp) (D : Ends) : Out → Prop
  | .nx e => ∀ σ' F' H', SOk G O' F' H' σ' e → Fr F0 H0 O' F' H' σ' → Same F F' → D.nx σ' H'
  | .bk e => ∀ σ' F' H', SOk G Ob F' H' σ' e → Fr F0 H0 Ob F' H' σ' → Same F F' → D.bk σ' H'
  | .ct e => ∀ σ' F' H', SOk G Ob F' H' σ' e → Fr F0 H0 Ob F' H' σ' → Same F F' → D.ct σ' H'
  | .rt d => R F0 H0 d D.rt
theorem sPost.ff {G : Gx} {R : RK} {O' Ob : List Nat} {F0 H0 F F1 : Hp} {D : Ends} {out : Out} (q : sPost G R O' Ob F0 H0 F D out) (k : Same F F1) : sPost G R O' Ob F0 H0 F1 D out := by
  cases out with
  | nx e => exact fun σ' F' H' s' f' k' => q σ' F' H' s' f' (k.trans k')
  | bk e => exact fun σ' F' H' s' f' k' => q σ' F' H' s' f' (k.trans k')
  | ct e => exact fun σ' F' H' s' f' k' => q σ' F' H' s' f' (k.trans k')
  | rt d => exact q
def sV (G : Gx) (R : RK) (O O' Ob : List Nat) (f : SS) : TS := fun D σ H => ∃ F0 H0 F env out, SOk G O F H σ env ∧ Fr F0 H0 O F H σ ∧ f env = some out ∧ sPost G R O' Ob F0 H0 F D out
section
variable {X : Cx} {R : RK} {O O' O'' Ob : List Nat} {st : Stmt} {rest : List Stmt} {pos : Pos}
theorem _root_.L2.PS.imp {t t' : TS} {st : Stmt} (h : PS X st t) (i : ∀ D σ H, t' D σ H → t D σ H) : PS X st t' := ⟨fun pins s σ H D I q => h.run pins s σ H D I (i D σ H q)⟩
theorem _root_.L2.PSs.imp {t t' : TS} {st : List Stmt} (h : PSs X st t) (i : ∀ D σ H, t' D σ H → t D σ H) : PSs X st t' := ⟨fun pins s σ H D I q => h.run pins s σ H D I (i D σ H q)⟩
theorem bn : PSs X [] (sV (gx X) R O O Ob sNext) := pss_nil.imp fun D σ H ⟨F0, H0, F, env, out, hs, hf, ho, q⟩ => by
  cases ho
  exact q σ F H hs hf (Same.refl F)
theorem bc {f g : SS} (h1 : PS X st (sV (gx X) R O O' Ob f)) (h2 : PSs X rest (sV (gx X) R O' O'' Ob g)) : PSs X (st :: rest) (sV (gx X) R O O'' Ob (sSeq f g)) :=
  (pss_cons h1 h2).imp fun D σ H ⟨F0, H0, F, env, out, hs, hf, ho, q⟩ => by
    simp only [sSeq] at ho
    obtain ⟨o1, h1, h2⟩ := bind_some ho
    refine ⟨F0, H0, F, env, o1, hs, hf, h1, ?_⟩
    cases o1 with
    | nx e =>
      refine fun σ' F' H' s' f' k' => ⟨F0, H0, F', e, out, s', f', h2, ?_⟩
      cases out with
      | nx e2 => exact fun σ2 F2 H2 s2 f2 k2 => q σ2 F2 H2 s2 f2 (k'.trans k2)
      | bk e2 => exact fun σ2 F2 H2 s2 f2 k2 => q σ2 F2 H2 s2 f2 (k'.trans k2)
      | ct e2 => exact fun σ2 F2 H2 s2 f2 k2 => q σ2 F2 H2 s2 f2 (k'.trans k2)
      | rt d => exact q
    | bk e => cases h2; exact q
    | ct e => cases h2; exact q
    | rt d => cases h2; exact q
theorem bo {f : SS} (h1 : PS X st (sV (gx X) R O O' Ob f)) : PSs X [st] (sV (gx X) R O O' Ob f) := pss_one h1
theorem SOk.less {G : Gx} {F H : Hp} {σ : L2.St} {env : Env} (hs : SOk G O F H σ env) {F0 H0 : Hp} (hf : Fr F0 H0 O F H σ) (h : ∀ i ∈ O', i ∈ O) : ∃ F', SOk G O' F' H σ env ∧ Fr F0 H0 O' F' H σ ∧ Same F F' := by
  classical
  refine ⟨fun p => if ∃ i ∈ O, i ∉ O' ∧ σ[i]? = some (some (.ref p)) then H p else F p, ?_⟩
  have sm : Same F fun p => if ∃ i ∈ O, i ∉ O' ∧ σ[i]? = some (some (.ref p)) then H p else F p := fun b o e => by
    by_cases c : ∃ i ∈ O, i ∉ O' ∧ σ[i]? = some (some (.ref b))
    · show (if _ then _ else _) = _
      rw [if_pos c]; exact hs.fh b o e
    · show (if _ then _ else _) = _
      rw [if_neg c]; exact e
  have fh : Same (fun p => if ∃ i ∈ O, i ∉ O' ∧ σ[i]? = some (some (.ref p)) then H p else F p) H := fun b o e => by
    have e : (if ∃ i ∈ O, i ∉ O' ∧ σ[i]? = some (some (.ref b)) then H b else F b) = some o := e
    split at e
    · exact e
    · exact hs.fh b o e
  refine ⟨⟨fh, hs.len, fun i d e n => ?_, fun i hi => ?_, fun i hi j hj => hs.dj i (h i hi) j (h j hj), fun x hx c P e => ?_⟩, ⟨⟨hf.gr.ff.trans sm, hf.gr.hh, fh, fun p o e n => ?_⟩, fun i hi => hf.own i (h i hi)⟩, sm⟩
  · by_cases hO : i ∈ O
    · obtain ⟨p, kk, vs, ds, h1, h2, h3, h4, h5, hK⟩ := hs.own i hO
      rw [e] at h2
      cases h2
      exact ⟨_, h1, .ofK (by show (if _ then _ else _) = _; rw [if_pos ⟨i, hO, n, h1⟩]; exact h4) (h5.mono sm) hK⟩
    · obtain ⟨v, h1, h2⟩ := hs.imm i d e hO
      exact ⟨v, h1, h2.mono sm⟩
  · obtain ⟨p, kk, vs, ds, h1, h2, h3, h4, h5, hK⟩ := hs.own i (h i hi)
    refine ⟨p, kk, vs, ds, h1, h2, ?_, h4, h5.mono sm, hK⟩
    show (if _ then _ else _) = _
    rw [if_neg fun ⟨j, hj, nj, e⟩ => nj (hs.dj i (h i hi) j hj (h1.trans e.symm) ▸ hi)]
    exact h3
  · obtain ⟨h1, ps, h2, h3⟩ := hs.tb x hx c P e
    refine ⟨?_, ps, h2, h3⟩
    show (if _ then _ else _) = _
    rw [if_neg fun ⟨j, hj, nj, e'⟩ => by
      obtain ⟨p, kk, vs, ds, k1, k2, k3, k4, k5, hK⟩ := hs.own j hj
      rw [e'] at k1
      cases k1
      rw [h2] at k4
      have z := nt_kO G.P G.w P kk vs
      rw [← Option.some.inj k4] at z
      cases z]
    exact h1
  · show (if _ then _ else _) = _
    rw [if_neg fun ⟨j, hj, nj, e'⟩ => by rw [hf.own j hj p e'] at e; cases e]
    exact hf.gr.hid p o e n
theorem sless {f : SS} (hs : PS X st (sV (gx X) R O O' Ob f)) (h : ∀ i ∈ O'', i ∈ O' := by decide) : PS X st (sV (gx X) R O O'' Ob f) :=
  hs.imp fun D σ H ⟨F0, H0, F, env, out, hs, hf, ho, q⟩ => ⟨F0, H0, F, env, out, hs, hf, ho, by
    cases out with
    | nx e => exact fun σ' F' H' s' f' k' => let ⟨F2, s2, f2, k2⟩ := SOk.less s' f' h; q σ' F2 H' s2 f2 (k'.trans k2)
    | bk e => exact q
    | ct e => exact q
    | rt d => exact q⟩
theorem spre {f : SS} (hs : PS X st (sV (gx X) R O' O'' Ob f)) (h : ∀ i ∈ O', i ∈ O := by decide) : PS X st (sV (gx X) R O O'' Ob f) :=
  hs.imp fun D σ H ⟨F0, H0, F, env, out, hs, hf, ho, q⟩ => by
    obtain ⟨F2, s2, f2, k2⟩ := SOk.less hs hf h
    refine ⟨F0, H0, F2, env, out, s2, f2, ho, ?_⟩
    cases out with
    | nx e => exact fun σ' F' H' s' f' k' => q σ' F' H' s' f' (k2.trans k')
    | bk e => exact fun σ' F' H' s' f' k' => q σ' F' H' s' f' (k2.trans k')
    | ct e => exact fun σ' F' H' s' f' k' => q σ' F' H' s' f' (k2.trans k')
    | rt d => exact q
theorem sret {e : Expr} {a : SE} (he : PE X e (rV (gx X) O a)) : PS X (.Return (some e) pos) (sV (gx X) (oV' (gx X)) O O' Ob (sRet a)) :=
  (ps_ret he).imp fun D σ H ⟨F0, H0, F, env, out, hs, hf, ho, q⟩ => by
    simp only [sRet] at ho
    obtain ⟨d, h1, h2⟩ := map_some ho
    subst h2
    exact ⟨F, env, d, hs, h1, kV.gr q hf.gr⟩
theorem sif {c : Expr} {a b : List Stmt} {fc : ST} {fa fb : SS} (hc : PT X c (rT (gx X) O fc)) (ha : PSs X a (sV (gx X) R O O' Ob fa)) (hb : PSs X b (sV (gx X) R O O' Ob fb)) : PS X (.If c a b pos) (sV (gx X) R O O' Ob (sIf fc fa fb)) :=
  (ps_if hc ha hb).imp fun D σ H ⟨F0, H0, F, env, out, hs, hf, ho, q⟩ => by
    simp only [sIf] at ho
    obtain ⟨k, h1, h2⟩ := bind_some ho
    refine ⟨F, env, k, hs, h1, fun F1 H1 g1 => ?_⟩
    have q' := q.ff g1.ff
    cases k with
    | true => exact ⟨F0, H0, F1, env, out, hs.gr g1, hf.step g1, h2, q'⟩
    | false => exact ⟨F0, H0, F1, env, out, hs.gr g1, hf.step g1, h2, q'⟩
theorem sasg {tg e : Expr} {a : SE} {g : SG} {sl : List Nat} (he : PE X e (rV (gx X) O a)) (hg : PG X tg (tG (gx X) O sl g)) (hsl : ∀ i ∈ O, i ∉ sl := by decide) (hs : swapsWithSole [tg] e pos.line X.env = pure false := by rfl) (hw : swappedStores [tg] e X.env = pure none := by rfl)
    (h1 : (assignEach [tg] X.env).map (·.2) = [assign tg X.env] := by rfl) : PS X (.Assign [tg] e pos) (sV (gx X) R O O Ob (sAsg a g)) :=
  (ps_asg he hg hs hw h1).imp fun D σ H ⟨F0, H0, F, env, out, hs, hf, ho, q⟩ => by
    simp only [sAsg] at ho
    obtain ⟨d, h1, h2⟩ := bind_some ho
    obtain ⟨e', h3, h4⟩ := map_some h2
    subst h4
    refine ⟨F, env, d, hs, h1, fun v F1 H1 g1 r1 => ⟨F1, env, d, e', hs.gr g1, r1, h3, fun σ' s' l' k' => q σ' F1 H1 s' ⟨hf.gr.trans g1, fun i hi p hp => hf.own i hi p ?_⟩ g1.ff⟩⟩
    rw [← k' i (hsl i hi)]
    exact hp
theorem fr_set {F0 H0 F H : Hp} {σ : L2.St} (hf : Fr F0 H0 O F H σ) {i : Nat} {v : V} (hO : i ∉ O) : Fr F0 H0 O F H (σ.set i (some v)) :=
  ⟨hf.gr, fun j hj p hp => hf.own j hj p (by rw [List.getElem?_set_ne (show i ≠ j from fun e => hO (by rw [e]; exact hj))] at hp; exact hp)⟩
theorem sset {x : Str} {e : Expr} {a : SE} {pos' : Pos} (i : Nat) (hN : X.N.Nodup) (he : PE X e (rV (gx X) O a)) (hO : i ∉ O := by decide) (hi : X.N[i]? = some x := by rfl) (hx : Loc X.env.scope x := by first | exact Or.inl rfl | exact Or.inr rfl) (hs : swapsWith e (some (.Name x pos')) pos.line X.env = pure false := by rfl)
    (hf : X.fn x = true ∨ X.env.scope.names.lookup x = some .local := by first | exact .inl rfl | exact .inr rfl | assumption) : PS X (.Assign [.Name x pos'] e pos) (sV (gx X) R O O Ob (sAsg a (TL.gName i))) :=
  (ps_set hN hi hx he hs hf).imp fun D σ H ⟨F0, H0, F, env, out, hs, hf, ho, q⟩ => by
    simp only [sAsg, TL.gName] at ho
    obtain ⟨d, h1, h2⟩ := bind_some ho
    cases h2
    exact ⟨F, env, d, hs, h1, fun v F1 H1 g1 r1 => q _ F1 H1 ((hs.gr g1).set hO r1) (fr_set (hf.step g1) hO) g1.ff⟩
theorem SOk.open_ {G : Gx} {F H F1 H1 : Hp} {σ : L2.St} {env : Env} (hs : SOk G O F H σ env) (g : Gr F H F1 H1) {i : Nat} (hi : i < σ.length) (hO : i ∉ O) {p : Addr} {k : Kd} {vs : List V} {ds : List D} (e1 : H p = none) (e2 : F1 p = none) (e3 : H1 p = some (kO G.P G.w p k vs)) (r : RpAll G F1 vs ds) (o : KdOk p k ds) :
    SOk G (i :: O) F1 H1 (σ.set i (some (.ref p))) (env.set i (some (kD k ds))) := by
  have hs1 := hs.gr g
  have hne : ∀ j ∈ O, i ≠ j := fun j hj e => hO (e ▸ hj)
  have pne : ∀ j ∈ O, σ[j]? ≠ some (some (.ref p)) := fun j hj e => by
    obtain ⟨p', kk, _, _, h1, _, _, h4, _⟩ := hs.own j hj
    rw [e] at h1
    cases h1
    rw [e1] at h4
    cases h4
  refine ⟨hs1.fh, by rw [List.length_set, List.length_set]; exact hs.len, fun j d e n => ?_, fun j hj => ?_, fun j hj k hk e => ?_, hs1.tb⟩
  · have hj : i ≠ j := fun z => n (z ▸ List.mem_cons_self)
    rw [List.getElem?_set_ne hj] at e ⊢
    exact hs1.imm j d e fun z => n (List.mem_cons_of_mem _ z)
  · rcases List.mem_cons.mp hj with rfl | hj
    · exact ⟨p, k, vs, ds, List.getElem?_set_self hi, List.getElem?_set_self (hs.len ▸ hi), e2, e3, r, o⟩
    · rw [List.getElem?_set_ne (hne j hj), List.getElem?_set_ne (hne j hj)]
      exact hs1.own j hj
  · rcases List.mem_cons.mp hj with ej | hj
    · rcases List.mem_cons.mp hk with ek | hk
      · rw [ej, ek]
      · rw [ej, List.getElem?_set_self hi, List.getElem?_set_ne (hne k hk)] at e
        exact absurd e.symm (pne k hk)
    · rcases List.mem_cons.mp hk with ek | hk
      · rw [ek, List.getElem?_set_self hi, List.getElem?_set_ne (hne j hj)] at e
        exact absurd e (pne j hj)
      · rw [List.getElem?_set_ne (hne j hj), List.getElem?_set_ne (hne k hk)] at e
        exact hs.dj j hj k hk e
theorem fr_open {F0 H0 F H F1 H1 : Hp} {σ : L2.St} (hf : Fr F0 H0 O F H σ) (g : Gr F H F1 H1) {i : Nat} (hi : i < σ.length) (hO : i ∉ O) {p : Addr} (e1 : H p = none) : Fr F0 H0 (i :: O) F1 H1 (σ.set i (some (.ref p))) := by
  refine ⟨hf.gr.trans g, fun j hj p' hp => ?_⟩
  rcases List.mem_cons.mp hj with rfl | hj
  · rw [List.getElem?_set_self hi] at hp
    cases hp
    exact hf.gr.hh.free e1
  · rw [List.getElem?_set_ne (show i ≠ j from fun e => hO (by rw [e]; exact hj))] at hp
    exact hf.own j hj p' hp
theorem tAsg_new {G : Gx} {R : RK} {O Ob : List Nat} {i : Nat} {a : SE} {te : TE} {D : Ends} {σ : L2.St} {H : Hp} (hte : ∀ Q, rN G O a σ H Q → te σ H Q) (hO : i ∉ O) (hi : ∀ F env, SOk G O F H σ env → i < σ.length) (h : sV G R O (i :: O) Ob (sAsg a (TL.gName i)) D σ H) : tAsg te (L2.gName i) D σ H := by
  obtain ⟨F0, H0, F, env, out, hs, hf, ho, q⟩ := h
  simp only [sAsg, TL.gName] at ho
  obtain ⟨d, h1, h2⟩ := bind_some ho
  cases h2
  have hi := hi F env hs
  refine hte _ ⟨F, env, d, hs, h1, fun p k vs ds F1 H1 g1 e1 e2 e3 r o e => ?_⟩
  subst e
  exact q _ F1 H1 (hs.open_ g1 hi hO e1 e2 e3 r o) (fr_open hf g1 hi hO e1) g1.ff
theorem ps_ln {t : TS} (h : PS X st t) : PS X st fun D σ H => σ.length = X.N.length → t D σ H := ⟨fun pins s σ H D I q => h.run pins s σ H D I (q I.len)⟩
theorem ix_lt {σ : L2.St} {i : Nat} {x : Str} (hl : σ.length = X.N.length) (hi : X.N[i]? = some x) : i < σ.length := by
  rw [hl]
  exact (List.getElem?_eq_some_iff.mp hi).1
theorem ssetN {x : Str} {e : Expr} {a : SE} {pos' : Pos} (i : Nat) (hN : X.N.Nodup) (he : PE X e (rN (gx X) O a)) (hO : i ∉ O := by decide) (hi : X.N[i]? = some x := by rfl) (hx : Loc X.env.scope x := by first | exact Or.inl rfl | exact Or.inr rfl) (hs : swapsWith e (some (.Name x pos')) pos.line X.env = pure false := by rfl)
    (hf : X.fn x = true ∨ X.env.scope.names.lookup x = some .local := by first | exact .inl rfl | exact .inr rfl | assumption) : PS X (.Assign [.Name x pos'] e pos) (sV (gx X) R O (i :: O) Ob (sAsg a (TL.gName i))) :=
  (ps_ln (ps_set hN hi hx he hs hf)).imp fun D σ H h hl => tAsg_new (fun Q q => q) hO (fun _ _ _ => ix_lt hl hi) h
theorem ssetLN {y : Str} {py : Pos} {elt tg iter : Expr} {ifs : List Expr} {scope : Scope} {own : List (Str × Nat)} {spos : Pos} {fi : SI} {g : SG} {c : ST} {f : SE} {sl : List Nat} (i : Nat) (hc : X.calm = true) (hN : X.N.Nodup) (hsw : swapsWith (.ListComp elt [⟨tg, iter, ifs, 0⟩] scope pos) (some (.Name y py)) spos.line X.env = pure true)
    (hi : PI X tg iter (iB (gx X) O fi)) (ok : BlkOk X.N X.env.scope scope own)
    (hg : ∀ (s : Shared) (H : Hp) (C : Addr) (cl : List (Str × Addr)) (fp : List Addr), PG (X.blk s H scope (compEnvC scope cl C X.env) fp) tg (tG (gx X) O sl g)) (ht : ∀ (s : Shared) (H : Hp) (C : Addr) (cl : List (Str × Addr)) (fp : List Addr), PTs (X.blk s H scope (compEnvC scope cl C X.env) fp) ifs (rT (gx X) O c))
    (he : ∀ (s : Shared) (H : Hp) (C : Addr) (cl : List (Str × Addr)) (fp : List Addr), PE (X.blk s H scope (compEnvC scope cl C X.env) fp) elt (rV (gx X) O f)) (hO' : i ∉ O := by decide) (hy : X.N[i]? = some y := by rfl) (hyl : X.env.scope.names.lookup y = some .local := by rfl) (hsl : ∀ j ∈ sl, j ∈ own.map (·.2) := by decide) (hO : ∀ j ∈ own.map (·.2), j ∉ O := by decide) (hs : ∀ x, foldedSetIterable iter X.env x = pure x := by intro _; rfl) :
    PS X (.Assign [.Name y py] (.ListComp elt [⟨tg, iter, ifs, 0⟩] scope pos) spos) (sV (gx X) R O (i :: O) Ob (sAsg (eLc (own.map (·.2)) fi g c f) (TL.gName i))) :=
  (ps_ln (ps_setLc hc hN hy hyl hsw hi ok hg ht he hs)).imp fun D σ H h hl => tAsg_new (fun Q q => lc_read hsl hO q) hO' (fun _ _ _ => ix_lt hl hy) h
theorem SOk.chg {G : Gx} {F H : Hp} {σ : L2.St} {env : Env} (hs : SOk G O F H σ env) {i : Nat} (hi : i ∈ O) {p : Addr} (hp : σ[i]? = some (some (.ref p))) {k : Kd} {vs : List V} {ds : List D} (r : RpAll G F vs ds) (o : KdOk p k ds) : SOk G O F (upd H p (kO G.P G.w p k vs)) σ (env.set i (some (kD k ds))) := by
  obtain ⟨p', kk, _, _, h1, h2, h3, h4, _⟩ := hs.own i hi
  rw [hp] at h1
  cases h1
  have hl : i < env.length := (List.getElem?_eq_some_iff.mp h2).1
  have fne : ∀ b o, F b = some o → b ≠ p := fun b o e z => by rw [z, h3] at e; cases e
  refine ⟨fun b o e => by rw [upd_ne (fne b o e)]; exact hs.fh b o e, by rw [List.length_set]; exact hs.len, fun j d e n => ?_, fun j hj => ?_, hs.dj, hs.tb.upd_o h4 (nt_kO _ _ _ _ _)⟩
  · rw [List.getElem?_set_ne (fun z => n (by rw [← z]; exact hi))] at e
    exact hs.imm j d e n
  · by_cases ij : i = j
    · subst ij
      exact ⟨p, k, vs, ds, hp, List.getElem?_set_self hl, h3, upd_same, r, o⟩
    · obtain ⟨q, kk, us, es, k1, k2, k3, k4, k5, hK⟩ := hs.own j hj
      refine ⟨q, kk, us, es, k1, by rw [List.getElem?_set_ne ij]; exact k2, k3, ?_, k5, hK⟩
      rw [upd_ne (fun z => ij (hs.dj i hi j hj (by rw [hp, k1, z])))]
      exact k4
theorem fr_chg {F0 H0 F H : Hp} {σ : L2.St} {env : Env} {G : Gx} (hs : SOk G O F H σ env) (hf : Fr F0 H0 O F H σ) {i : Nat} (hi : i ∈ O) {p : Addr} (hp : σ[i]? = some (some (.ref p))) {o : HO} : Fr F0 H0 O F (upd H p o) σ := by
  obtain ⟨p', kk, _, _, h1, h2, h3, h4, _⟩ := hs.own i hi
  rw [hp] at h1
  cases h1
  have hn := hf.own i hi p hp
  exact ⟨⟨hf.gr.ff, hf.gr.hh.upd_ hn, fun b x e => by rw [upd_ne (fun z => by rw [z, h3] at e; cases e)]; exact hs.fh b x e, hf.gr.hid⟩, hf.own⟩
theorem sapp {x : Str} {e : Expr} {a : SE} {p1 apos cpos : Pos} (i : Nat) (he : PE X e (rV (gx X) O a)) (hi : i ∈ O := by decide) (hN : X.N[i]? = some x := by rfl) (hv : Vis X.env.scope x := by first | exact Or.inl rfl | exact Or.inr (Or.inl rfl) | exact Or.inr (Or.inr rfl)) (hd : (x == ("__debug__" : Str)) = false := by decide)
    (hcd : (x == ("__classdict__" : Str)) = false := by decide)
    (hbase : attributeBase (.Name x p1) "append" X.env (eval (.Name x p1) X.env) = eval (.Name x p1) X.env := by rfl)
    (hfew : ((backTo cpos (starEach [e] X.env)).all (fun x => !x.1) && (backToKw cpos (keywordEach [] X.env)).all (fun x => x.1.isSome)
      && decide ([e].length + ([] : List Keyword).length + (if ([] : List Keyword).isEmpty then 0 else 1) < 30)) = true := by rfl)
    (hline : (apos.endLine == cpos.line) = true := by rfl) (hs1 : starEach [e] X.env = (false, eval e X.env) :: starEach [] X.env := by rfl) (hplain : (backTo cpos (starEach [] X.env)).any (·.1) = false := by rfl)
    (hs : swapsWith (.Call (.Attribute (.Name x p1) "append" apos) [e] [] cpos) none pos.line X.env = pure false := by rfl) :
    PS X (.Expr (.Call (.Attribute (.Name x p1) "append" apos) [e] [] cpos) pos) (sV (gx X) R O O Ob (sApp i a)) :=
  (ps_expr (pe_bm PySem.F.plainAttrs_list PySem.F.slot_list_append PySem.F.type_list_append mt_append (pe_var hN hv hd hcd) (pa_cons he pa_nil hs1) hbase hfew hline hs1 hplain) hs).imp fun D σ H ⟨F0, H0, F, env, out, hs, hf, ho, q⟩ => by
    simp only [sApp] at ho
    obtain ⟨d, h1, ho⟩ := bind_some ho
    rcases hs.ownC hi with ⟨p, vs, ds, h2, h3, h4, h5, h6⟩ | ⟨kvs, h3⟩
    rotate_left
    · rw [show env.getD i none = some (.dict kvs) by rw [List.getD_eq_getElem?_getD, h3]; rfl] at ho
      cases ho
    rw [show env.getD i none = some (.list ds) by rw [List.getD_eq_getElem?_getD, h3]; rfl] at ho
    simp only at ho
    split at ho
    · rename_i hz
      cases ho
      refine ⟨.ref p, h2, .inl ⟨rfl, vs, .inl (.inl h5)⟩, F, env, d, hs, h1, fun v F1 H1 g1 r1 => ⟨p, vs, v, rfl, rfl, g1.hh.l h5, by rw [h6.length]; exact hz, ?_⟩⟩
      exact q σ F1 _ ((hs.gr g1).chg (k := .lst) hi h2 ((h6.mono g1.ff).append (.cons r1 .nil)) trivial) (fr_chg (hs.gr g1) (hf.step g1) hi h2) g1.ff
    · cases ho
end
end TL

set_option Elab.async false
set_option linter.all false
set_option maxRecDepth 100000
namespace TL
open PySem PySem.Spec PyProof.Rows L2
section
variable {X : Cx} {R : RK} {O O' O'' Ob : List Nat} {st : Stmt} {rest : List Stmt} {pos : Pos}
theorem sfor {tg iter : Expr} {body : List Stmt} {fi : SI} {g : SG} {fb : SS} {sl : List Nat} (hp : PassesOwn (model X.prog X.w) X.A X.env X.xe) (hc : X.calm = true) (hi : PI X tg iter (iV (gx X) O fi)) (hg : PG X tg (tG (gx X) O sl g)) (hb : PSs X body (sV (gx X) R O O O fb)) (hsl : ∀ i ∈ O, i ∉ sl := by decide)
    (hs : ∀ x, foldedSetIterable iter X.env x = pure x := by intro _; rfl) : PS X (.For tg iter body [] pos) (sV (gx X) R O O Ob (sFor fi g fb)) :=
  (ps_for hp hc hi hg hb hs).imp fun D σ H ⟨F0, H0, F, env, out, hs, hf, ho, q⟩ => by
    simp only [sFor] at ho
    obtain ⟨ds, h1, ho⟩ := bind_some ho
    refine ⟨F, env, ds, hs, h1, fun J F1 H1 g1 hz hJ => ?_⟩
    refine ⟨fun i m σ' H' => ∃ F' env', SOk (gx X) O F' H' σ' env' ∧ Fr F0 H0 O F' H' σ' ∧ Same F1 F' ∧ i ≤ ds.length ∧ m = ds.length - i ∧ forGo g fb (ds.drop i) env' = some out,
      ⟨ds.length, F1, env, hs.gr g1, hf.step g1, Same.refl F1, Nat.zero_le _, by omega, ho⟩, ?_⟩
    rintro i m σ' H' ⟨F', env', s', f', k', hi, rfl, hgo⟩
    have hJ' := hJ i F' H' k' s'.fh
    cases hd : ds[i]? with
    | none =>
      have hi' : ds.length ≤ i := List.getElem?_eq_none_iff.mp hd
      rw [List.drop_eq_nil_of_le hi'] at hgo
      cases hgo
      exact .inl ⟨hJ'.2 hd, q σ' F' H' s' f' (g1.ff.trans k')⟩
    | some x =>
      have hi' : i < ds.length := (List.getElem?_eq_some_iff.mp hd).1
      have hx : ds[i] = x := (List.getElem?_eq_some_iff.mp hd).2
      have hdr : ds.drop i = x :: ds.drop (i + 1) := by rw [List.drop_eq_getElem_cons hi', hx]
      rw [hdr] at hgo
      simp only [forGo] at hgo
      obtain ⟨env1, hg1, hgo⟩ := bind_some hgo
      obtain ⟨o, hb1, hgo⟩ := bind_some hgo
      refine .inr ⟨(hJ'.1 x hd).1, fun σ2 H2 => ∃ F2 env2, SOk (gx X) O F2 H2 σ2 env2 ∧ Fr F0 H0 O F2 H2 σ2 ∧ Same F' F2 ∧ forGo g fb (ds.drop (i + 1)) env2 = some out, fun σ2 H2 h => ?_, fun v H2 hy => ?_⟩
      · obtain ⟨F2, env2, s2, f2, k2, hg2⟩ := h
        exact ⟨ds.length - (i + 1), by omega, F2, env2, s2, f2, k'.trans k2, hi', rfl, hg2⟩
      · obtain ⟨rfl, rv⟩ := (hJ'.1 x hd).2 v H2 hy
        refine ⟨F', env', x, env1, s', rv, hg1, fun σ2 s2 ln kp => ⟨F0, H0, F', env1, o, s2, ⟨f'.gr, fun j hj p hp => f'.own j hj p (by rw [← kp j (hsl j hj)]; exact hp)⟩, hb1, ?_⟩⟩
        cases o with
        | nx e => exact fun σ3 F3 H3 s3 f3 k3 => ⟨F3, e, s3, f3, k3, hgo⟩
        | ct e => exact fun σ3 F3 H3 s3 f3 k3 => ⟨F3, e, s3, f3, k3, hgo⟩
        | bk e =>
          cases hgo
          exact fun σ3 F3 H3 s3 f3 k3 => q σ3 F3 H3 s3 f3 ((g1.ff.trans k').trans k3)
        | rt d =>
          cases hgo
          exact q
end
section
variable {P : Program} {w : World} {G : Gx} {base : Heap}
theorem start_ok {N ps : List Str} {vs : List V} {ds : List D} {F H : Hp} (hn : N.length = ps.length + n) (sm : Fz G F H) (r : RpAll G F vs ds) (hl : ds.length = ps.length) : SOk G [] F H (L2.start N vs) (ds.map some ++ List.replicate n none) := by
  have lv := r.length
  refine ⟨sm.sm, ?_, fun i d e _ => ?_, fun i h => (by cases h), fun i h => (by cases h), sm.tb⟩
  · unfold L2.start
    simp only [List.length_append, List.length_map, List.length_replicate]
    omega
  · have hi : i < ds.length := by
      by_cases h : i < ds.length
      · exact h
      · rw [List.getElem?_append_right (by simpa using h), List.getElem?_replicate] at e
        split at e <;> cases e
    rw [List.getElem?_append_left (by simpa using hi), List.getElem?_map] at e
    cases q : ds[i]? with
    | none => rw [q] at e; cases e
    | some d' =>
      rw [q] at e
      cases e
      obtain ⟨v, h1, h2⟩ := r.get q
      refine ⟨v, ?_, h2⟩
      unfold L2.start
      rw [List.getElem?_append_left (by simp; omega), List.getElem?_map, h1]
      rfl
theorem fnV {x qual : Str} {st : Stmt} {f : Addr} {fd : FuncData} {N ps : List Str} {k nl : Nat} {body : SS} (Fn : Fun G.K x qual st f fd) (S : FnScope N ps (defScope st)) (hN : N.length = ps.length + nl) {Oe : List Nat}
    (hb : ∀ (cdv : Value) (A : Around) (outer : List PySem.Env) (s : Shared) (H : Hp) (E : XK), Room k (A.deeper (envOfC qual (defScope st) s.heap.objs.size f cdv)) →
      PSs (cxOf CX0 P w G.K G.mg base N qual (defScope st) f cdv A outer s H E).nox (defBody st) (sV G (oV' G) [] Oe [] body)) : FnOk P w G.K G.mg base CX0 (k + 1) f fd ps (spV G ps.length (runF ps.length nl body)) := by
  refine Fn.ok S (fun vs H Q E h => ?_) (fun cdv A outer s H vs Q E hr h => ?_)
  · obtain ⟨F, ds, d, sm, r, hl, _, _⟩ := h
    rw [r.length, hl]
  · obtain ⟨F, ds, d, sm, r, hl, hm, q⟩ := h
    refine ⟨_, hb cdv A outer s H E hr, ?_⟩
    simp only [runF, hl, if_pos rfl] at hm
    obtain ⟨out, h1, h2⟩ := bind_some hm
    refine ⟨F, H, F, _, out, start_ok hN sm r hl, ⟨Gr.refl sm.sm, fun i h => by cases h⟩, h1, ?_⟩
    cases out with
    | nx e =>
      cases h2
      exact fun σ' F' H' s' f' k' => q .non F' H' f'.gr .non
    | rt d' =>
      cases h2
      exact q
    | bk e => cases h2
    | ct e => cases h2
end
end TL

set_option Elab.async false
set_option linter.all false
set_option maxRecDepth 100000
namespace TL
open PySem PySem.Spec PyProof.Rows L2
theorem u0 {k : Nat} {A : Around} (h : Room k A) : A.units < cLine := h.units0
theorem u64 {k : Nat} {A : Around} (h : Room k A) : A.units + 64 < cLine := h.units
theorem u65 {k : Nat} {A : Around} (h : Room k A) : A.units + 65 < cLine := by have := h.un; omega
theorem fnNever {P : Program} {w : World} {K : PySem.W.Frag} {mg : Str → Option Value} {base : Heap} {CX : CXT} {k : Nat} {f : Addr} {fd : FuncData} {ps : List Str} {sp : Sp} (h : ∀ vs H Q E, ¬ sp vs H Q E) : FnOk P w K mg base CX k f fd ps sp :=
  ⟨fun vs H Q E q => absurd q (h vs H Q E), fun _ _ _ H _ _ vs Q E _ _ _ _ q => absurd q (h vs H Q E)⟩
section
variable {X : Cx} {O : List Nat}
theorem lc2_read {G : Gx} {O : List Nat} {fi fi1 : SI} {g g1 : SG} {c c1 : ST} {f : SE} {sl sl1 vs vs1 : List Nat} (hsl : ∀ j ∈ sl, j ∈ vs) (hsl1 : ∀ j ∈ sl1, j ∈ vs1) (hO : ∀ j ∈ vs, j ∉ O) (hO1 : ∀ j ∈ vs1, j ∉ O) {σ : L2.St} {H : Hp} {Q : VK} (h : rN G O (eLc2 vs fi g c vs1 fi1 g1 c1 f) σ H Q) :
    tLc2 (iB G O fi) (tG G O sl g) (rT G O c) (iV G O fi1) (tG G O sl1 g1) (rT G O c1) (rV G O f) vs vs1 σ H Q := by
    obtain ⟨F, env, d, hs, hf, q⟩ := h
    simp only [eLc2] at hf
    obtain ⟨ds, h1, hf⟩ := bind_some hf
    obtain ⟨es, h2, h3⟩ := bind_some hf
    split at h3
    case isFalse => cases h3
    rename_i hlen
    cases h3
    have wipe2 : ∀ (vs ws : List Nat) (τ : L2.St), (∀ j ∈ ws, j ∈ vs) → L2.wipe (L2.wipe τ ws) vs = L2.wipe τ vs := fun vs ws τ h => ext_wipe (sl := ws) (wipe_length _ _) (fun j hj => wipe_out hj) h
    refine ⟨F, env, ds, hs, h1, fun J F1 H1 gr1 hz hJ D0 hD => ?_⟩
    have hs1 := hs.gr gr1
    refine ⟨fun i m H' => ∃ F' acc accD rest, LcI G F1 H1 F' H' D0 acc accD ∧ i ≤ ds.length ∧ m = ds.length - i ∧ lcGo2 g c fi1 vs1 g1 c1 f (wipeE env vs) (ds.drop i) = some rest ∧ es = accD ++ rest,
      ⟨ds.length, F1, [], [], es, ⟨Gr.open_ gr1.fh hD, Same.nn gr1.fh hD, upd_same, .nil⟩, Nat.zero_le _, by omega, h2, rfl⟩, ?_⟩
    rintro i m H' ⟨F', acc, accD, rest, L, l2, rfl, hgo, ees⟩
    have hs' := (hs1.gr L.gr).wipe hO
    have hJ' := hJ i F' H' L.gr.ff L.gr.hh L.gr.fh
    cases hd : ds[i]? with
    | none =>
      have hi : ds.length ≤ i := List.getElem?_eq_none_iff.mp hd
      refine .inl ⟨hJ'.2 hd, ?_⟩
      rw [List.drop_eq_nil_of_le hi] at hgo
      cases hgo
      rw [List.append_nil] at ees
      subst ees
      exact q D0 .lst acc es F' H' (gr1.trans L.gr) (gr1.hh.free hD) L.fr L.at_ L.rp trivial rfl
    | some x =>
      have hi : i < ds.length := (List.getElem?_eq_some_iff.mp hd).1
      have hx : ds[i] = x := (List.getElem?_eq_some_iff.mp hd).2
      have hdr : ds.drop i = x :: ds.drop (i + 1) := by rw [List.drop_eq_getElem_cons hi, hx]
      rw [hdr] at hgo
      simp only [lcGo2] at hgo
      obtain ⟨env1, hg1, hgo⟩ := bind_some hgo
      obtain ⟨b, hc1, hgo⟩ := bind_some hgo
      refine .inr ⟨(hJ'.1 x hd).1, fun H2 => ∃ F' acc accD rest, LcI G F1 H1 F' H2 D0 acc accD ∧ lcGo2 g c fi1 vs1 g1 c1 f (wipeE env vs) (ds.drop (i + 1)) = some rest ∧ es = accD ++ rest, fun H2 h => ?_, fun v H2 hy => ?_⟩
      · obtain ⟨F2, acc2, accD2, rest2, L2, hg2, e2⟩ := h
        exact ⟨ds.length - (i + 1), by omega, F2, acc2, accD2, rest2, L2, hi, rfl, hg2, e2⟩
      · obtain ⟨rfl, rv⟩ := (hJ'.1 x hd).2 v H2 hy
        refine ⟨F', _, x, env1, hs', rv, hg1, fun σ2 s2 ln kp => ⟨ext_wipe ln kp hsl |>.trans (wipe2 _ _ _ fun j h => h), F', env1, b, s2, hc1, fun F3 H3 g3 => ?_⟩⟩
        cases b with
        | false =>
          rw [if_neg Bool.false_ne_true] at hgo ⊢
          exact ⟨F3, acc, accD, rest, L.gr' g3, hgo, ees⟩
        | true =>
          rw [if_pos rfl] at hgo ⊢
          obtain ⟨ds1, hi1, hgo⟩ := bind_some hgo
          obtain ⟨a1, ha1, hgo⟩ := bind_some hgo
          obtain ⟨rest2, hg2, e2⟩ := map_some hgo
          refine ⟨F3, env1, ds1, s2.gr g3, hi1, fun J1 F4 H4 g4 hz1 hJ1 => ?_⟩
          have L4 := (L.gr' g3).gr' g4
          have s4 := (s2.gr g3).gr g4
          -- the frame of the inner loop: all but the list that grows
          refine ⟨fun j k H5 => ∃ F5 acc5 accD5 rest5, LcI G F1 H1 F5 H5 D0 acc5 accD5 ∧ Same F4 F5 ∧ (∀ p o, H4 p = some o → p ≠ D0 → ∃ o', H5 p = some o' ∧ (nt o = true → o' = o)) ∧ (∀ p o, H4 p = some o → F4 p = none → F5 p = none) ∧ j ≤ ds1.length ∧ k = ds1.length - j ∧ lcGo g1 c1 f (wipeE env1 vs1) (ds1.drop j) = some rest5 ∧ es = accD5 ++ (rest5 ++ rest2),
            ⟨ds1.length, F4, acc, accD, a1, L4, Same.refl F4, fun _ _ e _ => ⟨_, e, fun _ => rfl⟩, fun _ _ _ e => e, Nat.zero_le _, by omega, ha1, by rw [ees, ← e2]⟩, ?_⟩
          rintro j k H5 ⟨F5, acc5, accD5, rest5, L5, k5, kh5, kf5, lj, rfl, hgo5, ees5⟩
          have s5 : SOk G O F5 H5 σ2 env1 := by
            refine ⟨L5.gr.fh, s4.len, fun i d e n => ?_, fun i hi => ?_, s4.dj, hs1.tb.gr L5.gr⟩
            · obtain ⟨v, e1, e2⟩ := s4.imm i d e n
              exact ⟨v, e1, e2.mono k5⟩
            · obtain ⟨p, kk, us, es', e1, e2, e3, e4, e5, hK⟩ := s4.own i hi
              have pne : p ≠ D0 := by
                intro z
                obtain ⟨p', kk', _, _, e1', _, _, e4', _⟩ := hs1.own i hi
                have ei : L2.wipe σ vs = L2.wipe σ2 vs := (ext_wipe ln kp hsl |>.trans (wipe2 _ _ _ fun j h => h)).symm
                have w1 : (L2.wipe σ vs)[i]? = σ[i]? := wipe_out fun z => hO i z hi
                have w2 : (L2.wipe σ2 vs)[i]? = σ2[i]? := wipe_out fun z => hO i z hi
                rw [ei, w2, e1] at w1
                rw [e1'] at w1
                cases w1
                rw [z, hD] at e4'
                cases e4'
              obtain ⟨o', k1, k2⟩ := kh5 p _ e4 pne
              have k3 := k2 (nt_kO _ _ _ _ _)
              subst k3
              exact ⟨p, kk, us, es', e1, e2, kf5 p _ e4 e3, k1, e5.mono k5, hK⟩
          have s5' := s5.wipe hO1
          have hJ5 := hJ1 j F5 H5 k5 L5.gr.fh
          cases hd1 : ds1[j]? with
          | none =>
            have hj : ds1.length ≤ j := List.getElem?_eq_none_iff.mp hd1
            rw [List.drop_eq_nil_of_le hj] at hgo5
            cases hgo5
            exact .inl ⟨hJ5.2 hd1, F5, acc5, accD5, rest2, L5, hg2, ees5⟩
          | some x1 =>
            have hj : j < ds1.length := (List.getElem?_eq_some_iff.mp hd1).1
            have hx1 : ds1[j] = x1 := (List.getElem?_eq_some_iff.mp hd1).2
            have hdr1 : ds1.drop j = x1 :: ds1.drop (j + 1) := by rw [List.drop_eq_getElem_cons hj, hx1]
            rw [hdr1] at hgo5
            simp only [lcGo] at hgo5
            obtain ⟨env2, hg5, hgo5⟩ := bind_some hgo5
            obtain ⟨b1, hc5, hgo5⟩ := bind_some hgo5
            refine .inr ⟨(hJ5.1 x1 hd1).1, fun H6 => ∃ F5 acc5 accD5 rest5, LcI G F1 H1 F5 H6 D0 acc5 accD5 ∧ Same F4 F5 ∧ (∀ p o, H4 p = some o → p ≠ D0 → ∃ o', H6 p = some o' ∧ (nt o = true → o' = o)) ∧ (∀ p o, H4 p = some o → F4 p = none → F5 p = none) ∧ lcGo g1 c1 f (wipeE env1 vs1) (ds1.drop (j + 1)) = some rest5 ∧ es = accD5 ++ (rest5 ++ rest2), fun H6 h => ?_, fun v1 H6 hy1 => ?_⟩
            · obtain ⟨F6, acc6, accD6, rest6, L6, k6, kh6, kf6, hg6, e6⟩ := h
              exact ⟨ds1.length - (j + 1), by omega, F6, acc6, accD6, rest6, L6, k6, kh6, kf6, hj, rfl, hg6, e6⟩
            · obtain ⟨rfl, rv1⟩ := (hJ5.1 x1 hd1).2 v1 H6 hy1
              refine ⟨F5, _, x1, env2, s5', rv1, hg5, fun σ3 s3 ln3 kp3 => ⟨ext_wipe ln3 kp3 hsl1 |>.trans (wipe2 _ _ _ fun j h => h), F5, env2, b1, s3, hc5, fun F7 H7 g7 => ?_⟩⟩
              have ih7 : ∀ {F8 H8}, Gr F5 H6 F8 H8 → Same F4 F8 ∧ (∀ p o, H4 p = some o → p ≠ D0 → ∃ o', H8 p = some o' ∧ (nt o = true → o' = o)) ∧ (∀ p o, H4 p = some o → F4 p = none → F8 p = none) := fun {F8 H8} g8 => ⟨k5.trans g8.ff, fun p o e n => (by
                obtain ⟨o5, e5, t5⟩ := kh5 p o e n
                obtain ⟨o8, e8, t8⟩ := g8.hh.ex e5
                exact ⟨o8, e8, fun z => by
                  have z5 := t5 z
                  subst z5
                  exact t8 z⟩), fun p o e n => by
                by_cases z : p = D0
                · rw [z]; exact g8.hid _ _ L5.at_ L5.fr
                · obtain ⟨o5, e5, _⟩ := kh5 p o e z
                  exact g8.hid p o5 e5 (kf5 p o e n)⟩
              cases b1 with
              | false =>
                rw [if_neg Bool.false_ne_true] at hgo5
                refine iteF ?_
                obtain ⟨q1, q2, q3⟩ := ih7 g7
                exact ⟨F7, acc5, accD5, rest5, L5.gr' g7, q1, q2, q3, hgo5, ees5⟩
              | true =>
                rw [if_pos rfl] at hgo5
                refine iteT ?_
                obtain ⟨y, he1, hgo5⟩ := bind_some hgo5
                obtain ⟨rest6, hg6, e6⟩ := map_some hgo5
                refine ⟨F7, env2, y, s3.gr g7, he1, fun w F8 H8 g8 r8 => ?_⟩
                have L8 := (L5.gr' g7).gr' g8
                obtain ⟨q1, q2, q3⟩ := ih7 (g7.trans g8)
                refine ⟨acc5, L8.at_, ?_, F8, acc5 ++ [w], accD5 ++ [y], rest6, L8.app hD r8, q1, fun p o e n => by rw [upd_ne n]; exact q2 p o e n, q3, hg6, ?_⟩
                · rw [L8.rp.length]
                  have := hlen
                  rw [ees5, ← e6] at this
                  simp only [List.length_append, List.length_cons] at this
                  omega
                · rw [ees5, ← e6, List.append_assoc]
                  rfl
theorem elc2 {elt tg iter tg1 iter1 : Expr} {ifs ifs1 : List Expr} {scope : Scope} {own : List (Str × Nat)} {vs1 : List Nat} {pos : Pos} {fi fi1 : SI} {g g1 : SG} {c c1 : ST} {f : SE} {sl sl1 : List Nat} (hc : X.calm = true) (hN : X.N.Nodup) (hi : PI X tg iter (iB (gx X) O fi)) (ok : BlkOk X.N X.env.scope scope own) (hv : ∀ i ∈ vs1, i ∈ own.map (·.2))
    (hg : ∀ (s : Shared) (H : Hp) (C : Addr) (cl : List (Str × Addr)) (fp : List Addr), PG (X.blk s H scope (compEnvC scope cl C X.env) fp) tg (tG (gx X) O sl g)) (ht : ∀ (s : Shared) (H : Hp) (C : Addr) (cl : List (Str × Addr)) (fp : List Addr), PTs (X.blk s H scope (compEnvC scope cl C X.env) fp) ifs (rT (gx X) O c))
    (hi1 : ∀ (s : Shared) (H : Hp) (C : Addr) (cl : List (Str × Addr)) (fp : List Addr), PI (X.blk s H scope (compEnvC scope cl C X.env) fp) tg1 iter1 (iV (gx X) O fi1))
    (hg1 : ∀ (s : Shared) (H : Hp) (C : Addr) (cl : List (Str × Addr)) (fp : List Addr), PG (X.blk s H scope (compEnvC scope cl C X.env) fp) tg1 (tG (gx X) O sl1 g1)) (ht1 : ∀ (s : Shared) (H : Hp) (C : Addr) (cl : List (Str × Addr)) (fp : List Addr), PTs (X.blk s H scope (compEnvC scope cl C X.env) fp) ifs1 (rT (gx X) O c1))
    (he : ∀ (s : Shared) (H : Hp) (C : Addr) (cl : List (Str × Addr)) (fp : List Addr), PE (X.blk s H scope (compEnvC scope cl C X.env) fp) elt (rV (gx X) O f)) (hsl : ∀ j ∈ sl, j ∈ own.map (·.2) := by decide) (hsl1 : ∀ j ∈ sl1, j ∈ vs1 := by decide) (hO : ∀ j ∈ own.map (·.2), j ∉ O := by decide) (hO1 : ∀ j ∈ vs1, j ∉ O := by decide)
    (hs : ∀ x, foldedSetIterable iter X.env x = pure x := by intro _; rfl) (hs1 : ∀ env x, foldedSetIterable iter1 env x = pure x := by intro _ _; rfl) :
    PE X (.ListComp elt [⟨tg, iter, ifs, 0⟩, ⟨tg1, iter1, ifs1, 0⟩] scope pos) (rN (gx X) O (eLc2 (own.map (·.2)) fi g c vs1 fi1 g1 c1 f)) :=
  (pe_lc2 hc hN hi ok hv hg ht hi1 hg1 ht1 he hs hs1).imp fun σ H Q h => lc2_read hsl hsl1 hO hO1 h
end
end TL

set_option Elab.async false
set_option linter.all false
set_option maxRecDepth 100000
namespace TL
open PySem PySem.Spec PyProof.Rows L2
section
variable {X : Cx}
theorem prs_get : ∀ {ds : List D} {ps : List (Int × Int)}, prsOf ds = some ps → ds = ps.map prD
  | [], ps, h => by cases h; rfl
  | .tuple [.int i, .int j] :: r, ps, h => by
    simp only [prsOf] at h
    obtain ⟨qs, h1, h2⟩ := map_some h
    subst h2
    rw [prs_get h1]
    rfl
  | .none :: _, _, h => by cases h
  | .bool _ :: _, _, h => by cases h
  | .int _ :: _, _, h => by cases h
  | .str _ :: _, _, h => by cases h
  | .list _ :: _, _, h => by cases h
  | .dict _ :: _, _, h => by cases h
  | .tuple [] :: _, _, h => by cases h
  | .tuple [_] :: _, _, h => by simp [prsOf] at h
  | .tuple (_ :: _ :: _ :: _) :: _, _, h => by simp [prsOf] at h
  | .tuple [.none, _] :: _, _, h => by simp [prsOf] at h
  | .tuple [.bool _, _] :: _, _, h => by simp [prsOf] at h
  | .tuple [.str _, _] :: _, _, h => by simp [prsOf] at h
  | .tuple [.list _, _] :: _, _, h => by simp [prsOf] at h
  | .tuple [.tuple _, _] :: _, _, h => by simp [prsOf] at h
  | .tuple [.dict _, _] :: _, _, h => by simp [prsOf] at h
  | .tuple [.int _, .none] :: _, _, h => by simp [prsOf] at h
  | .tuple [.int _, .bool _] :: _, _, h => by simp [prsOf] at h
  | .tuple [.int _, .str _] :: _, _, h => by simp [prsOf] at h
  | .tuple [.int _, .list _] :: _, _, h => by simp [prsOf] at h
  | .tuple [.int _, .tuple _] :: _, _, h => by simp [prsOf] at h
  | .tuple [.int _, .dict _] :: _, _, h => by simp [prsOf] at h
def kOf (h : Heap) : Value → Int × Int
  | .ref a => match h.get? a with
    | some o => match o.data with
      | .seq its _ => match its.toList with
        | [.int i _, .int j _] => (i, j)
        | _ => (0, 0)
      | _ => (0, 0)
    | none => (0, 0)
  | _ => (0, 0)
theorem prs_vals {pins : List (Addr × Obj)} {s : Shared} {σ : L2.St} {F H : Hp} (I : Inv X pins σ H s) (sm : Same F H) : ∀ {ps : List (Int × Int)} {vs : List V} {its : List Value}, RpAll (gx X) F vs (ps.map prD) → Vals vs its →
    its.map (kOf s.heap) = ps ∧ (∀ v ∈ its, Srt.IsPair s.heap v (kOf s.heap v).1 (kOf s.heap v).2) ∧ ∀ u ∈ its, ∃ v, RelV v u ∧ Rp (gx X) F v (prD (kOf s.heap u))
  | [], _, _, .nil, .nil => ⟨rfl, fun _ h => (by cases h), fun _ h => (by cases h)⟩
  | p :: ps, _, _, .cons h r, .cons rv rr => by
    obtain ⟨h1, h2, h3⟩ := prs_vals I sm r rr
    cases h with
    | @tup a xs _ hs ha =>
      cases rv
      obtain ⟨its2, r2, ⟨o, ho, hc, n, hd⟩, _⟩ := I.tuple (sameT sm hs.t)
      cases ha with
      | cons e1 ha =>
        cases ha with
        | cons e2 ha =>
          cases ha
          cases e1
          cases e2
          obtain ⟨u1, u2, rfl, ri, rj⟩ := vals2 r2
          obtain ⟨t1, rfl⟩ := ri
          obtain ⟨t2, rfl⟩ := rj
          have ek : kOf s.heap (.ref a) = p := by
            unfold kOf
            simp only [ho, hd]
          refine ⟨by rw [List.map_cons, ek, h1], fun v hv => ?_, fun u hu => ?_⟩
          · rcases List.mem_cons.mp hv with rfl | hv
            · rw [ek]
              exact ⟨a, o, t1, t2, n, rfl, ho, hc, hd⟩
            · exact h2 v hv
          · rcases List.mem_cons.mp hu with rfl | hu
            · rw [ek]
              exact ⟨.ref a, rfl, .tup hs (.cons (.int _) (.cons (.int _) .nil))⟩
            · exact h3 u hu
end
namespace SX
open SrtO
section
variable {prog : Program} {w : World} {A : Around} {E : Value → Shared → Prop} {s : Shared}
theorem collect_seq {l : Addr} {vs : List Value} {Q : List Value → Shared → Prop} {T : String} (hT : T = "list" ∨ T = "tuple") {o : Obj} {n : Nat} (ho : s.heap.get? l = some o) (hc : o.cls = .type T) (hd : o.data = .seq vs.toArray n)
    (h : Q vs { s with heap := (s.heap.push (seqObj "list" #[] 0)).update s.heap.objs.size (Obj.mapSeq (· ++ vs.toArray)) }) (hsz : vs.length ≤ sizeLine) :
    wpAny (model prog w) A (collect (.ref l)) Q E s := by
  unfold collect
  refine wpAny_bind (wpAny_runValue (codeAny_builtin entry_proto_collect' ?_))
  show wpAny _ _ (do again (.builtin "list.__iadd__" ⟨[← newList [], .ref l], []⟩)) _ _ s
  refine wpAny_bind (wpAny_newList (wpAny_pure ⟨Code.quiet_builtin _ (by decide +kernel), codeAny_builtin entry_list_iadd' ?_⟩))
  show wpAny _ _ (Builtin.List.listExtendWith (.ref s.heap.objs.size) (.ref l) (.ref s.heap.objs.size)) _ _ { s with heap := s.heap.push (seqObj "list" #[] 0) }
  unfold Builtin.List.listExtendWith
  have ho' : (s.heap.push (seqObj "list" #[] 0)).get? l = some o := Heap.get?_push_of_some _ ho
  refine wpAny_bind (wpAny_typeOf (T := T) ⟨o, ho', hc⟩ ?_)
  have ht : ((Value.type T == Value.type "list") || (Value.type T == Value.type "tuple")) = true := by
    rcases hT with rfl | rfl <;> rfl
  rw [if_pos (by rw [Bool.or_assoc, ht, Bool.or_true])]
  refine wpAny_bind (listItems_at ho' hd ?_)
  refine wpAny_bind (listItems_at (xs := #[]) (n := 0) (Heap.get?_push_size _ rfl) rfl ?_)
  rw [if_neg (by simp)]
  refine wpAny_bind (listUpdate_at (xs := #[]) (n := 0) (Heap.get?_push_size _ rfl) rfl ?_ (Nat.zero_le _) (by show (#[] ++ vs.toArray).size ≤ sizeLine + 1; simp only [Array.size_append, List.size_toArray, List.length_nil]; omega))
  refine wpAny_pure ?_
  show wpAny (model prog w) A (do
      let o ← load s.heap.objs.size
      match o.data with
      | .seq xs _ => pure xs.toList
      | _ => unsupported "internal:collect") Q E { s with heap := (s.heap.push (seqObj "list" #[] 0)).update s.heap.objs.size (Obj.mapSeq (· ++ vs.toArray)) }
  refine wpAny_bind (wpAny_load (get?_update_seq (Heap.get?_push_size _ rfl) _) ?_)
  show wpAny _ _ (pure ((#[] : Array Value) ++ vs.toArray).toList) Q E _
  rw [show ((#[] : Array Value) ++ vs.toArray).toList = vs by simp]
  exact wpAny_pure h
theorem sorted_seq {l : Addr} {vs : List Value} {ltv : Value → Value → Bool} {Q : Value → Shared → Prop} (O : Swo ltv) {T : String} (hT : T = "list" ∨ T = "tuple") {o : Obj} {n : Nat} (ho : s.heap.get? l = some o) (hc : o.cls = .type T) (hd : o.data = .seq vs.toArray n) (hz : vs.length ≤ sizeLine)
    (hS : 2 ≤ vs.length → ∀ (h₁ : Heap) (a : Addr), h₁.get? a = some (seqObj "list" vs.toArray 0) → (∀ b o, s.heap.get? b = some o → b ≠ a ∧ h₁.get? b = some o) → SortableO prog w A.in1.in1 { s with heap := h₁ } a vs ltv)
    (h : ∀ out : List Value, Srtd ltv out → Stb ltv out vs → Q (.ref (s.heap.objs.size + 1)) { s with heap := sortedAll s.heap vs out.toArray }) :
    wpAny (model prog w) A (call (.builtin "sorted") [.ref l]) Q E s := by
  refine Calls.call_function_entry kind_sorted plain_sorted entry_sorted (args_sorted1 _) ?_
  unfold Builtin.«sorted»
  refine wpAny_bind (m := checkCount "sorted" 1 1 _) (wpAny_pure ?_)
  refine wpAny_bind (collect_seq hT ho hc hd ?_ hz)
  refine wpAny_bind (wpAny_newList ?_ hz)
  have hsz : ((s.heap.push (seqObj "list" #[] 0)).update s.heap.objs.size (Obj.mapSeq (· ++ vs.toArray))).objs.size = s.heap.objs.size + 1 := by
    rw [Heap.size_update, size_push']
  have hoL : (((s.heap.push (seqObj "list" #[] 0)).update s.heap.objs.size (Obj.mapSeq (· ++ vs.toArray))).push (seqObj "list" vs.toArray 0)).get? (s.heap.objs.size + 1) = some (seqObj "list" vs.toArray 0) := by
    rw [← hsz]; exact Heap.get?_push_size _ rfl
  have keep : ∀ b o, s.heap.get? b = some o → b ≠ s.heap.objs.size + 1 ∧ (((s.heap.push (seqObj "list" #[] 0)).update s.heap.objs.size (Obj.mapSeq (· ++ vs.toArray))).push (seqObj "list" vs.toArray 0)).get? b = some o := fun b o q => by
    have hlt : b < s.heap.objs.size := Heap.lt_size q
    refine ⟨Nat.ne_of_lt (Nat.lt_succ_of_lt hlt), Heap.get?_push_of_some _ ?_⟩
    rw [Heap.get?_update_ne _ _ _ _ (Nat.ne_of_lt hlt)]
    exact Heap.get?_push_of_some _ q
  show wpAny _ _ _ _ _ { s with heap := ((s.heap.push (seqObj "list" #[] 0)).update s.heap.objs.size (Obj.mapSeq (· ++ vs.toArray))).push (seqObj "list" vs.toArray 0) }
  rw [hsz]
  refine wpAny_bind (wpAny_holding (wpAny_call_entry slot_list_sort ⟨_, hoL, rfl⟩ entry_list_sort (list_sort_ord O hoL hz (fun h2 => hS h2 _ _ hoL keep) fun out hs hb => ⟨_, rfl, ?_⟩) (args_list_sort _)))
  exact wpAny_pure ⟨_, rfl, h out hs hb⟩
end
end SX
section
variable {X : Cx}
theorem sorted_core {pins : List (Addr × Obj)} {s : Shared} {σ : L2.St} {F H : Hp} {p : Addr} {vs : List V} {its : List Value} {ds es : List D} {Q : VK} {T : String} {o : Obj} {n : Nat} (I : Inv X pins σ H s) (sm : Same F H) (hT : T = "list" ∨ T = "tuple") (ho : s.heap.get? p = some o) (hc : o.cls = .type T) (hd : o.data = .seq its.toArray n)
    (rv : Vals vs its) (hz : vs.length ≤ sizeLine) (r' : RpAll (gx X) F vs ds) (hs : sortL ds = some es) (q : kN (gx X) F H (.list es) Q) : wpAny (model X.prog X.w) X.A (call (.builtin "sorted") [.ref p]) (EP X pins σ Q) X.xe s := by
  unfold sortL at hs
  cases hi : intsOf ds with
  | some ns =>
    rw [hi] at hs
    cases hs
    have hv := r'.ints hi
    subst hv
    have hI := rv.ints
    refine SX.sorted_seq SrtO.swo_int hT ho hc hd (by rw [← rv.length]; exact hz) (fun h2 h₁ a' _ _ => SrtO.ints_sortable hI h2) fun out h1 h2 => ?_
    obtain ⟨k1, k2, k3⟩ := SrtO.ints_out hI h1 h2
    obtain ⟨ep, he'⟩ := PyProof.Rows.sortedAll_at s.heap its out.toArray
    have hlen : ((out.map SrtO.iv).map V.int).length ≤ sizeLine := by
      rw [List.length_map, k2.length_eq]
      rw [List.length_map] at hz
      exact hz
    have e : out.map SrtO.iv = isort ltI ns := asc_uniq antiI (k2.trans (isort_perm ns).symm) (k3.imp fun h => decide_eq_false (by omega)) (isort_asc swoI ns)
    have rr : ∀ l : List Int, RpAll (gx X) F (l.map V.int) (l.map .int) := by
      intro l
      induction l with
      | nil => exact .nil
      | cons i l ih => exact .cons (.int i) ih
    refine ⟨.ref _, upd H (s.heap.objs.size + 1) (.lst ((out.map SrtO.iv).map V.int)), I.laid (t' := s.toks) (fun _ _ => PyProof.Rows.sortedAll_old) (Nat.le_succ _) ⟨hlen, out, ep, vals_of_ints k1, he'⟩, rfl, ?_⟩
    exact q.newL sm (by rw [e]; exact rr _) (I.hok.fresh (Nat.le_succ _))
  | none =>
    rw [hi] at hs
    obtain ⟨ps, h3, h4⟩ := map_some hs
    subst h4
    have ed := prs_get h3
    subst ed
    obtain ⟨k1, k2, k3⟩ := prs_vals I sm r' rv
    refine SX.sorted_seq (SrtO.swo_lex (kOf s.heap)) hT ho hc hd (by rw [← rv.length]; exact hz) (fun h2 h₁ a ha kk => ?_) fun out h1 h2 => ?_
    · refine SrtO.pairs_sortableO (s := { s with heap := h₁ }) (by omega) (fun v hm => (k2 v hm).keeps fun b o e _ => (kk b o e).2) fun o e => ?_
      have e' : some o = some (seqObj "list" its.toArray 0) := e.symm.trans ha
      cases e'
      intro c
      exact absurd (Value.type.inj c) (by decide)
    · have hmem : ∀ u ∈ out, u ∈ its := fun u hu => h2.perm.mem_iff.mp hu
      have rel : ∀ l : List Value, (∀ u ∈ l, u ∈ its) → ∃ ws, Vals ws l ∧ RpAll (gx X) F ws ((l.map (kOf s.heap)).map prD) := by
        intro l
        induction l with
        | nil => exact fun _ => ⟨[], .nil, .nil⟩
        | cons u l ih =>
          intro hu
          obtain ⟨ws, w1, w2⟩ := ih fun v hv => hu v (List.mem_cons_of_mem _ hv)
          obtain ⟨v, v1, v2⟩ := k3 u (hu u List.mem_cons_self)
          exact ⟨v :: ws, .cons v1 w1, .cons v2 w2⟩
      obtain ⟨ws, w1, w2⟩ := rel out hmem
      have e : out.map (kOf s.heap) = isort ltPr ps := by
        refine asc_uniq antiP ?_ ?_ (isort_asc swoP ps)
        · have := h2.perm.map (kOf s.heap)
          rw [k1] at this
          exact this.trans (isort_perm ps).symm
        · exact List.pairwise_map.mpr (h1.imp fun h => h)
      rw [e] at w2
      obtain ⟨ep, he'⟩ := PyProof.Rows.sortedAll_at s.heap its out.toArray
      refine ⟨.ref _, upd H (s.heap.objs.size + 1) (.lst ws), I.laid (t' := s.toks) (fun _ _ => PyProof.Rows.sortedAll_old) (Nat.le_succ _) ⟨?_, out, ep, w1, he'⟩, rfl, q.newL sm w2 (I.hok.fresh (Nat.le_succ _))⟩
      rw [w1.length, h2.perm.length_eq, ← rv.length]
      exact hz
theorem c_sorted : CalN X (.builtin "sorted") sortedD := by
  intro pins s σ H xs us Q I r h
  obtain ⟨F, x, dx, d, rfl, sm, bx, hd, q⟩ := h
  cases dx with
  | list ds =>
    obtain ⟨p, vs, rfl, hl, r'⟩ := bx.lst sm
    obtain ⟨es, h1, h2⟩ := map_some hd
    subst h2
    obtain ⟨its, rv, hL, hz⟩ := I.list hl
    obtain ⟨o, ho, hc, n, hd'⟩ := hL.isList
    rw [Vals.ref1 r]
    exact sorted_core I sm (.inl rfl) ho hc hd' rv hz r' h1 q
  | tuple ds =>
    obtain ⟨p, vs, rfl, _, hl, r'⟩ := bx.tup sm
    obtain ⟨es, h1, h2⟩ := map_some hd
    subst h2
    obtain ⟨its, rv, hT, hz⟩ := I.tuple hl
    obtain ⟨o, ho, hc, n, hd'⟩ := hT
    rw [Vals.ref1 r]
    exact sorted_core I sm (.inr rfl) ho hc hd' rv hz r' h1 q
  | _ => cases hd
theorem _root_.L2.PE.or {t t' : TE} {e : Expr} (h : PE X e t) (h' : PE X e t') : PE X e fun σ H Q => t σ H Q ∨ t' σ H Q := ⟨fun pins s σ H Q I q => q.elim (h.run pins s σ H Q I) (h'.run pins s σ H Q I)⟩
end
end TL

set_option Elab.async false
set_option linter.all false
set_option maxRecDepth 100000
namespace TL
open PySem PySem.Spec PyProof.Rows L2
@[simp] def eRngL (a : SE) : SE := fun env => (a env).bind fun x => (toI x).bind fun n => (rangeD 0 n).map .list
def popD (ds : List D) (i : Int) : Option (D × List D) := if Nat.ble i.natAbs 1000000000 = true then (seqIndex? i ds.length).bind fun k => ds[k]?.map fun d => (d, ds.eraseIdx k) else none
@[simp] def sPopAdd (i j : Nat) (a : SE) : SS := fun env => match env.getD i none, env.getD j none with
  | some (.tuple ds), some (.list es) => (a env).bind fun y => (toI y).bind fun k => (popD es k).bind fun z => if ds.length + 1 ≤ sizeLine then some (.nx ((env.set j (some (.list z.2))).set i (some (.tuple (ds ++ [z.1]))))) else none
  | _, _ => none
section
variable {X : Cx} {R : RK} {O Ob : List Nat} {e : Expr} {pos p p2 pos2 : Pos} {f : SE}
end
end TL

set_option Elab.async false
set_option linter.all false
set_option maxRecDepth 100000
namespace TL
open PySem PySem.Spec PyProof.Rows L2
abbrev QE := Nat → Env → Int → Option (D × Int)
abbrev QT := Nat → Env → Int → Option (Bool × Int)
abbrev QA := Nat → Env → Int → Option (List D × Int)
inductive QOut where
  | nx (e : Env) (c : Int) | rt (d : D) (c : Int) | bk (e : Env) (c : Int) | ct (e : Env) (c : Int)
abbrev QS := Nat → Env → Int → Option QOut
@[simp] def ql (f : SE) : QE := fun _ env c => (f env).map fun d => (d, c)
@[simp] def qlT (f : ST) : QT := fun _ env c => (f env).map fun d => (d, c)
@[simp] def qlI (f : SI) : QA := fun _ env c => (f env).map fun d => (d, c)
@[simp] def toQ (c : Int) : Out → QOut
  | .nx e => .nx e c
  | .rt d => .rt d c
  | .bk e => .bk e c
  | .ct e => .ct e c
@[simp] def qlS (f : SS) : QS := fun _ env c => (f env).map (toQ c)
@[simp] def q1 (op : D → Option D) (a : QE) : QE := fun r env c => (a r env c).bind fun x => (op x.1).map fun d => (d, x.2)
@[simp] def q2 (op : D → D → Option D) (a b : QE) : QE := fun r env c => (a r env c).bind fun x => (b r env x.2).bind fun y => (op x.1 y.1).map fun d => (d, y.2)
@[simp] def qIf (k : QT) (a b : QE) : QE := fun r env c => (k r env c).bind fun x => if x.1 = true then a r env x.2 else b r env x.2
@[simp] def qAnd (a b : QE) : QE := fun r env c => (a r env c).bind fun x => (toB x.1).bind fun k => if k = true then b r env x.2 else some (.bool false, x.2)
@[simp] def qOr (a b : QE) : QE := fun r env c => (a r env c).bind fun x => (toB x.1).bind fun k => if k = true then some (.bool true, x.2) else b r env x.2
@[simp] def qNot (a : QE) : QE := fun r env c => (a r env c).bind fun x => (toB x.1).map fun k => (.bool (!k), x.2)
@[simp] def qArgs : List QE → QA
  | [] => fun _ _ c => some ([], c)
  | a :: l => fun r env c => (a r env c).bind fun x => (qArgs l r env x.2).map fun y => (x.1 :: y.1, y.2)
@[simp] def qTup (l : List QE) : QE := fun r env c => (qArgs l r env c).bind fun x => if x.1.length ≤ sizeLine then some (.tuple x.1, x.2) else none
@[simp] def qLst (l : List QE) : QE := fun r env c => (qArgs l r env c).bind fun x => if x.1.length ≤ sizeLine then some (.list x.1, x.2) else none
@[simp] def qCallV (m : List D → Option D) (l : List QE) : QE := fun r env c => (qArgs l r env c).bind fun x => (m x.1).map fun d => (d, x.2)
@[simp] def qCall (m : Nat → List D → Int → Option (D × Int)) (l : List QE) : QE := fun r env c => (qArgs l r env c).bind fun x => m r x.1 x.2
@[simp] def qtV (a : QE) : QT := fun r env c => (a r env c).bind fun x => (toB x.1).map fun k => (k, x.2)
@[simp] def qtAnd (a b : QT) : QT := fun r env c => (a r env c).bind fun k => if k.1 = true then b r env k.2 else some (false, k.2)
@[simp] def qtOr (a b : QT) : QT := fun r env c => (a r env c).bind fun k => if k.1 = true then some (true, k.2) else b r env k.2
@[simp] def qtNot (a : QT) : QT := fun r env c => (a r env c).map fun k => (!k.1, k.2)
@[simp] def qRng1 (a : QE) : QA := fun r env c => (a r env c).bind fun x => (toI x.1).bind fun n => (rangeD 0 n).map fun d => (d, x.2)
@[simp] def qSeqI (a : QE) : QA := fun r env c => (a r env c).bind fun x => (itemsD x.1).map fun d => (d, x.2)
def hid (r : Nat) (H : Hp) : Hp := fun p => if p = r then none else H p
theorem hid_r {r : Nat} {H : Hp} : hid r H r = none := if_pos rfl
theorem hid_ne {r : Nat} {H : Hp} {p : Addr} (h : p ≠ r) : hid r H p = H p := if_neg h
theorem hid_some {r : Nat} {H : Hp} {p : Addr} {o : HO} (h : hid r H p = some o) : p ≠ r ∧ H p = some o := by
  by_cases e : p = r
  · subst e; rw [hid_r] at h; cases h
  · rw [hid_ne e] at h; exact ⟨e, h⟩
theorem hid_le {r : Nat} {H : Hp} : Same (hid r H) H := fun b o e => (hid_some e).2
theorem SameN.hid_ {r : Nat} {H H' : Hp} (a : SameN H H') : SameN (hid r H) (hid r H') :=
  ⟨fun b o e n => by obtain ⟨k, e⟩ := hid_some e; rw [hid_ne k]; exact a.nn b o e n, fun b ps e => by obtain ⟨k, e⟩ := hid_some e; rw [hid_ne k]; exact a.tb b ps e⟩
theorem TbOk.unhid {G : Gx} {F H : Hp} {r : Nat} (t : TbOk G F (hid r H)) : TbOk G F H := fun x hx c P e =>
  let ⟨h1, ps, h2, h3⟩ := t x hx c P e
  ⟨h1, ps, hid_le _ _ h2, h3⟩
theorem TbOk.hid_ {G : Gx} {F H : Hp} {r : Nat} {vs : List V} (t : TbOk G F H) (hr : H r = some (.lst vs)) : TbOk G F (hid r H) := fun x hx c P e =>
  let ⟨h1, ps, h2, h3⟩ := t x hx c P e
  ⟨h1, ps, by rw [hid_ne (fun z => by rw [z, hr] at h2; cases h2)]; exact h2, h3⟩
structure QOk (G : Gx) (O : List Nat) (r : Nat) (c : Int) (F H : Hp) (σ : L2.St) (env : Env) : Prop where
  s : SOk G O F (hid r H) σ env
  fr : F r = none
  hr : H r = some (.lst [.int c])
structure QGr (r : Nat) (c : Int) (F H F' H' : Hp) : Prop where
  g : Gr F (hid r H) F' (hid r H')
  fr : F' r = none
  hr : H' r = some (.lst [.int c])
section
variable {G : Gx} {O O' : List Nat} {r : Nat} {c c' c2 : Int} {F H F' H' F2 H2 : Hp} {σ : L2.St} {env : Env}
theorem QOk.sok (q : QOk G O r c F H σ env) : SOk G O F H σ env := ⟨q.s.fh.trans hid_le, q.s.len, q.s.imm, fun i hi => by
  obtain ⟨p, kk, vs, ds, h1, h2, h3, h4, h5, hK⟩ := q.s.own i hi
  exact ⟨p, kk, vs, ds, h1, h2, h3, hid_le _ _ h4, h5, hK⟩, q.s.dj, q.s.tb.unhid⟩
theorem QOk.gr (q : QOk G O r c F H σ env) (g : QGr r c' F H F' H') : QOk G O r c' F' H' σ env := ⟨q.s.gr g.g, g.fr, g.hr⟩
theorem QGr.of (g : Gr F H F' H') (hf : F r = none) (hr : H r = some (.lst [.int c])) : QGr r c F H F' H' := by
  have fr : F' r = none := g.hid r _ hr hf
  refine ⟨⟨g.ff, g.hh.hid_, fun b o e => ?_, fun p o e n => ?_⟩, fr, g.hh.l hr⟩
  · have n : b ≠ r := fun z => by rw [z, fr] at e; cases e
    rw [hid_ne n]
    exact g.fh b o e
  · obtain ⟨_, e⟩ := hid_some e
    exact g.hid p o e n
theorem QGr.trans (a : QGr r c F H F' H') (b : QGr r c2 F' H' F2 H2) : QGr r c2 F H F2 H2 := ⟨a.g.trans b.g, b.fr, b.hr⟩
theorem QGr.fh (a : QGr r c F H F' H') : Same F' H' := a.g.fh.trans hid_le
theorem QGr.ff (a : QGr r c F H F' H') : Same F F' := a.g.ff
theorem QOk.of (q : QOk G O r c F H σ env) (g : Gr F H F' H') : QGr r c F H F' H' := .of g q.fr q.hr
theorem QOk.refl (q : QOk G O r c F H σ env) : QGr r c F H F H := q.of (Gr.refl q.sok.fh)
end
section
variable {X : Cx} {O : List Nat} {a b e k : Expr} {es rest : List Expr} {fa fb : QE} {ta tb : QT} {l : List QE} {pos p2 : Pos} {g : D → D → Option D}
end
section
variable {X : Cx} {O : List Nat} {e : Expr} {es : List Expr} {l : List QE} {p pos : Pos} {x : Str} {k n : Nat} {fa : Addr} {fd : FuncData} {ps : List Str}
end
section
variable {X : Cx} {O : List Nat} {e e' : Expr} {f f' : QE} {p pos : Pos} {x : Str} {g : D → Option D} {id T : String}
end
end TL

set_option Elab.async false
set_option linter.all false
set_option maxRecDepth 100000
namespace TL
open PySem PySem.Spec PyProof.Rows L2
@[simp] def qSeq (a b : QS) : QS := fun r env c => (a r env c).bind fun o => match o with
  | .nx e c => b r e c
  | .rt d c => some (.rt d c)
  | .bk e c => some (.bk e c)
  | .ct e c => some (.ct e c)
@[simp] def qNext : QS := fun _ env c => some (.nx env c)
@[simp] def qRet (a : QE) : QS := fun r env c => (a r env c).map fun x => .rt x.1 x.2
@[simp] def qIfS (k : QT) (a b : QS) : QS := fun r env c => (k r env c).bind fun x => if x.1 = true then a r env x.2 else b r env x.2
@[simp] def qAsg (a : QE) (g : SG) : QS := fun r env c => (a r env c).bind fun x => (g x.1 env).map fun e => .nx e x.2
@[simp] def qDrop (a : QE) : QS := fun r env c => (a r env c).map fun x => .nx env x.2
@[simp] def qPar (i j : Nat) (a b : QE) : QS := fun r env c => (a r env c).bind fun x => (b r env x.2).map fun y => .nx ((env.set i (some x.1)).set j (some y.1)) y.2
@[simp] def qApp (i : Nat) (a : QE) : QS := fun r env c => (a r env c).bind fun y => match env.getD i none with
  | some (.list ds) => if ds.length < sizeLine then some (.nx (env.set i (some (.list (ds ++ [y.1])))) y.2) else none
  | _ => none
def qForGo (g : SG) (body : QS) (r : Nat) : List D → Env → Int → Option QOut
  | [], env, c => some (.nx env c)
  | x :: xs, env, c => (g x env).bind fun env1 => (body r env1 c).bind fun o => match o with
    | .nx e c => qForGo g body r xs e c
    | .ct e c => qForGo g body r xs e c
    | .bk e c => some (.nx e c)
    | .rt d c => some (.rt d c)
@[simp] def qFor (it : QA) (g : SG) (body : QS) : QS := fun r env c => (it r env c).bind fun x => qForGo g body r x.1 env x.2
@[simp] def outQ : QOut → Option (D × Int)
  | .rt d c => some (d, c)
  | .nx _ c => some (.none, c)
  | _ => none
def qPost (G : Gx) (O' Ob : List Nat) (F0 H0 : Hp) (r : Nat) (F : Hp) (D : Ends) : QOut → Prop
  | .nx e c => ∀ σ' F' H', QOk G O' r c F' H' σ' e → Fr F0 (hid r H0) O' F' (hid r H') σ' → Same F F' → D.nx σ' H'
  | .bk e c => ∀ σ' F' H', QOk G Ob r c F' H' σ' e → Fr F0 (hid r H0) Ob F' (hid r H') σ' → Same F F' → D.bk σ' H'
  | .ct e c => ∀ σ' F' H', QOk G Ob r c F' H' σ' e → Fr F0 (hid r H0) Ob F' (hid r H') σ' → Same F F' → D.ct σ' H'
  | .rt d c => ∀ v F' H', QGr r c F0 H0 F' H' → Rp G F' v d → D.rt v H'
theorem qPost.ff {G : Gx} {O' Ob : List Nat} {F0 H0 F F1 : Hp} {r : Nat} {D : Ends} {out : QOut} (q : qPost G O' Ob F0 H0 r F D out) (k : Same F F1) : qPost G O' Ob F0 H0 r F1 D out := by
  cases out with
  | nx e => exact fun σ' F' H' s' f' k' => q σ' F' H' s' f' (k.trans k')
  | bk e => exact fun σ' F' H' s' f' k' => q σ' F' H' s' f' (k.trans k')
  | ct e => exact fun σ' F' H' s' f' k' => q σ' F' H' s' f' (k.trans k')
  | rt d => exact q
theorem QOk.ne {G : Gx} {O : List Nat} {r : Nat} {c : Int} {F H : Hp} {σ : L2.St} {env : Env} (ok : QOk G O r c F H σ env) : ∀ i ∈ O, ∀ p, σ[i]? = some (some (.ref p)) → p ≠ r := fun i hi p hp => by
  obtain ⟨p', kk, vs, ds, h1, h2, h3, h4, h5, hK⟩ := ok.s.own i hi
  rw [hp] at h1
  cases h1
  exact (hid_some h4).1
section
variable {X : Cx} {O O' O'' Ob : List Nat} {st : Stmt} {rest : List Stmt} {pos : Pos}
end
section
variable {P : Program} {w : World} {G : Gx} {base : Heap}
end
end TL

set_option Elab.async false
set_option linter.all false
set_option maxRecDepth 100000
namespace TL
open PySem PySem.Spec PyProof.Rows L2
def rowsOf : D → Option D
  | .dict [(.int _, .list rows)] => some (.list rows)
  | _ => none
def cellOf : D → Option Int
  | .dict [(.int r, .list _)] => some r
  | _ => none
@[simp] def eRows (i : Nat) : SE := fun env => (env.getD i none).bind rowsOf
@[simp] def qCnt (i : Nat) : QE := fun r env c => (env.getD i none).bind fun d => (cellOf d).bind fun k => if k = (r : Int) then some (.int c, c) else none
@[simp] def qStore (i : Nat) (a : QE) : QS := fun r env c => (a r env c).bind fun x => (toI x.1).bind fun n => (env.getD i none).bind fun d => (cellOf d).bind fun k => if k = (r : Int) then some (.nx env n) else none
section
variable {X : Cx} {O O' Ob : List Nat} {e : Expr} {pos p1 p2 p3 : Pos} {x : Str}
theorem tC_go {v : V} {σ : L2.St} {H : Hp} {Q : VK} (q : Q v H) : tC v σ H Q := q
end
section
variable {X : Cx} {O O' Ob : List Nat} {e : Expr} {pos p1 p2 p3 : Pos} {x : Str}
end
section
variable {P : Program} {w : World} {G : Gx} {base : Heap}
end
section
variable {X : Cx} {e : Expr} {es : List Expr} {rest : List Stmt} {pos p cpos : Pos} {x y : Str} {l : List SE} {k n : Nat} {fa : Addr} {fd : FuncData} {ps : List Str} {m : List D → Option D} {Oe : List Nat} {body : QS} {pos' : Pos}
end
section
variable {P : Program} {w : World} {G : Gx} {base : Heap}
end
end TL

set_option Elab.async false
set_option linter.all false
set_option maxRecDepth 100000
namespace TL
open PySem PySem.Spec PyProof.Rows L2
def qLcGo (g : SG) (k : QT) (e : QE) (r : Nat) (env : Env) : List D → Int → Option (List D × Int)
  | [], c => some ([], c)
  | x :: xs, c => (g x env).bind fun env1 => (k r env1 c).bind fun t => if t.1 = true then (e r env1 t.2).bind fun y => (qLcGo g k e r env xs y.2).map fun z => (y.1 :: z.1, z.2) else qLcGo g k e r env xs t.2
@[simp] def qLc (vs : List Nat) (it : QA) (g : SG) (k : QT) (e : QE) : QE := fun r env c => (it r env c).bind fun x => (qLcGo g k e r (wipeE env vs) x.1 x.2).map fun y => (.list y.1, y.2)
theorem hid_upd {r : Nat} {H : Hp} {p : Addr} {o : HO} (h : p ≠ r) : hid r (upd H p o) = upd (hid r H) p o := by
  funext b
  by_cases hb : b = r
  · subst hb
    rw [hid_r, upd_ne (fun z => h z.symm), hid_r]
  · rw [hid_ne hb]
    by_cases hp : b = p
    · subst hp
      rw [upd_same, upd_same]
    · rw [upd_ne hp, upd_ne hp, hid_ne hb]
section
variable {X : Cx} {O : List Nat}
end
end TL

set_option Elab.async false
set_option linter.all false
set_option maxRecDepth 100000
namespace TL
open PySem PySem.Spec PyProof.Rows L2
section
variable {P : Program} {w : World} {G : Gx} {base : Heap}
end
def KTup0 (K : PySem.W.Frag) (a : Addr) : Prop := ∃ (o : Obj) (n : Nat), K.lookup a = some o ∧ o.cls = .type "tuple" ∧ o.dict = none ∧ o.data = .seq #[] n
theorem KTup0.rp {G : Gx} {F : Hp} {a : Addr} (h : KTup0 G.K a) : Rp G F (.ref a) (.tuple []) := by
  obtain ⟨o, n, h1, h2, h3, h4⟩ := h
  exact .tup (.inr ⟨o, #[], n, h1, h2, h3, h4, Nat.zero_le _, .nil⟩) .nil
section
variable {X : Cx} {O : List Nat} {e : Expr} {es : List Expr} {l : List SE} {p pos : Pos} {x : Str} {k n : Nat} {fa a0 : Addr} {fd : FuncData} {ps : List Str} {m : List D → Option D}
@[simp] def eCallD (m : List D → Option D) (l : List SE) : SE := fun env => (eArgs l env).bind fun ds => m (ds ++ [.tuple []])
end
@[simp] def sSetIx (i : Nat) (a b : SE) : SS := fun env => (b env).bind fun y => (a env).bind fun x => (toI x).bind fun k => match env.getD i none with
  | some (.list ds) => (L2.ixN ds.length k).map fun j => .nx (env.set i (some (.list (ds.set j y))))
  | _ => none
theorem RpAll.set {G : Gx} {F : Hp} {v : V} {d : D} (h : Rp G F v d) : ∀ {vs : List V} {ds : List D} (j : Nat), RpAll G F vs ds → RpAll G F (vs.set j v) (ds.set j d)
  | _, _, _, .nil => .nil
  | _, _, 0, .cons _ r => .cons h r
  | _, _, j + 1, .cons h0 r => .cons h0 (RpAll.set h j r)
section
variable {X : Cx} {R : RK} {O Ob : List Nat} {ei ev : Expr} {fi fv : SE} {p1 pos pos' : Pos} {x : Str}
theorem ssetIx (i : Nat) (hi : PE X ei (rV (gx X) O fi)) (he : PE X ev (rV (gx X) O fv)) (hO : i ∈ O := by decide) (hN : X.N[i]? = some x := by rfl) (hv : Vis X.env.scope x := by first | exact Or.inl rfl | exact Or.inr (Or.inl rfl) | exact Or.inr (Or.inr rfl)) (hd : (x == ("__debug__" : Str)) = false := by decide)
    (hcd : (x == ("__classdict__" : Str)) = false := by decide)
    (hs : swapsWithSole [.Subscript (.Name x p1) ei pos] ev pos'.line X.env = pure false := by rfl) (hw : swappedStores [.Subscript (.Name x p1) ei pos] ev X.env = pure none := by rfl)
    (h1 : (assignEach [.Subscript (.Name x p1) ei pos] X.env).map (·.2) = [assign (.Subscript (.Name x p1) ei pos) X.env] := by rfl)
    (hass : ∀ v, assign (.Subscript (.Name x p1) ei pos) X.env v = (do
      let ov ← holding [v] (eval (.Name x p1) X.env)
      let iv ← holding [v, ov] (eval ei X.env)
      standAt pos
      holding [v, ov, iv] (setItem ov iv v)
      release [v, ov, iv] []) := by intro _; rfl) :
    PS X (.Assign [.Subscript (.Name x p1) ei pos] ev pos') (sV (gx X) R O O Ob (sSetIx i fi fv)) :=
  (ps_asg he (pg_sub (pe_var hN hv hd hcd) hi set_list hass) hs hw h1).imp fun Dn σ H ⟨F0, H0, F, env, out, hs, hf, ho, q⟩ => by
    simp only [sSetIx] at ho
    obtain ⟨y, h1, ho⟩ := bind_some ho
    obtain ⟨xi, h2, ho⟩ := bind_some ho
    obtain ⟨k, h3, ho⟩ := bind_some ho
    have e3 := toI_some h3
    subst e3
    rcases hs.ownC hO with ⟨p, vs, ds, h4, h5, h6, h7, h8⟩ | ⟨kvs, h5⟩
    rotate_left
    · rw [show env.getD i none = some (.dict kvs) by rw [List.getD_eq_getElem?_getD, h5]; rfl] at ho
      cases ho
    rw [show env.getD i none = some (.list ds) by rw [List.getD_eq_getElem?_getD, h5]; rfl] at ho
    simp only at ho
    obtain ⟨j, h9, h10⟩ := map_some ho
    subst h10
    refine ⟨F, env, y, hs, h1, fun v F1 H1 g1 r1 => ⟨_, h4, F1, env, _, hs.gr g1, h2, fun w F2 H2 g2 r2 => ?_⟩⟩
    cases r2
    have g := g1.trans g2
    refine ⟨p, vs, k, j, rfl, rfl, g.hh.l h7, by rw [h8.length]; exact h9, ?_⟩
    exact q σ F2 _ ((hs.gr g).chg (k := .lst) hO h4 (RpAll.set (r1.mono g2.ff) j (h8.mono g.ff)) trivial) (fr_chg (hs.gr g) (hf.step g) hO h4) g.ff
end
end TL

set_option Elab.async false
set_option linter.all false
set_option maxRecDepth 100000
set_option maxHeartbeats 4000000
namespace TL
open PySem PySem.Spec PyProof.Rows L2
section
variable {X : Cx}
end
def KTab (G : Gx) (w : World) (a : Addr) (tab : List (Str × D)) : Prop :=
  ∃ es n, G.K.lookup a = some ⟨.type "dict", none, .dict es n, #[]⟩ ∧ PySem.W.KeysLit w.params es.toList ∧ ∀ x d, tab.lookup x = some d → ∃ u v, PySem.W.nsIn G.K a x = some (some u) ∧ RelV v u ∧ ∀ F, Rp G F v d
@[simp] def eTab (tab : List (Str × D)) (a : SE) : SE := fun env => (a env).bind fun d => match d with
  | .str x => tab.lookup x
  | _ => none
theorem etab {X : Cx} {O : List Nat} {e : Expr} {fa : SE} {x : Str} {p : Addr} {tab : List (Str × D)} {p1 pos : Pos} (hg : Gl X x) (hm : X.mg x = some (.ref p)) (ht : KTab (gx X) X.w p tab) (ha : PE X e (rV (gx X) O fa)) (hd : (x == ("__debug__" : Str)) = false := by decide) (hs : PlainIx e := by exact fun _ _ => rfl) :
    PE X (.Subscript (.Name x p1) e pos) (rV (gx X) O (eTab tab fa)) :=
  (pe_ix ix_kdict (pe_glob (v := .ref p) hg hm rfl hd) ha hs).imp fun σ H Q ⟨F, env, d, hs, hf, q⟩ => by
    simp only [eTab] at hf
    obtain ⟨d0, h1, h2⟩ := bind_some hf
    split at h2
    · rename_i z
      obtain ⟨es, n, k1, k2, k3⟩ := ht
      obtain ⟨u, v, n1, n2, n3⟩ := k3 _ _ h2
      refine tC_go ⟨F, env, _, hs, h1, fun y F1 H1 g1 r1 => ?_⟩
      cases r1
      exact ⟨p, z, v, rfl, rfl, ⟨es, n, u, k1, k2, n1, n2⟩, q v F1 H1 g1 (n3 F1)⟩
    · cases h2
theorem ktab_nil {G : Gx} {a : Addr} : ∀ x d, ([] : List (Str × D)).lookup x = some d → ∃ u v, PySem.W.nsIn G.K a x = some (some u) ∧ RelV v u ∧ ∀ F, Rp G F v d := fun x d h => by cases h
theorem ktab_cons {G : Gx} {a : Addr} {y : Str} {e : D} {tab : List (Str × D)} {u : Value} {v : V} (h1 : PySem.W.nsIn G.K a y = some (some u)) (h2 : RelV v u) (h3 : ∀ F, Rp G F v e) (hr : ∀ x d, tab.lookup x = some d → ∃ u v, PySem.W.nsIn G.K a x = some (some u) ∧ RelV v u ∧ ∀ F, Rp G F v d) :
    ∀ x d, ((y, e) :: tab).lookup x = some d → ∃ u v, PySem.W.nsIn G.K a x = some (some u) ∧ RelV v u ∧ ∀ F, Rp G F v d := fun x d h => by
  rw [List.lookup_cons] at h
  split at h
  · rename_i hq
    cases h
    rw [eq_of_beq hq]
    exact ⟨u, v, h1, h2, h3⟩
  · exact hr x d h
end TL
namespace TL
open PySem
theorem keys_cons {P : Params} {e : DictEntry} {r : List DictEntry} {x : Str} {t : Tok} (h1 : e.key = .str x t) (h2 : e.hash = PyData.keyHash P x) (h3 : PySem.W.KeysLit P r) : PySem.W.KeysLit P (e :: r) := ⟨⟨x, t, h1, h2⟩, h3⟩
theorem keys_nil {P : Params} : PySem.W.KeysLit P [] := trivial
end TL

set_option Elab.async false
set_option linter.all false
set_option maxRecDepth 100000
namespace TL
open PySem PySem.Spec PyProof.Rows L2
def inSD : D → D → Option D
  | .str x, .str z => match x.cps.toList with
    | [c] => some (.bool (decide (c ∈ z.cps.toList)))
    | _ => none
  | _, _ => none
theorem str_one {x : Str} {c : Nat} (h : x.cps.toList = [c]) : x = ⟨#[c]⟩ := by
  obtain ⟨a⟩ := x
  have : a = #[c] := Array.toList_inj.mp (by simpa using h)
  rw [this]
theorem o_inS {X : Cx} : OpV X (compareOp .In) inSD := by
  intro pins s σ H x y v u Q I rx ry h
  obtain ⟨F, dx, dy, d, sm, bx, by_, hd, q⟩ := h
  cases dx with
  | str a =>
    cases dy with
    | str z =>
      have e1 := bx.str
      have e2 := by_.str
      subst e1 e2
      simp only [inSD] at hd
      split at hd
      · rename_i c hc
        cases hd
        exact op_in_sign pins s σ H _ _ v u Q I rx ry ⟨c, z, by rw [str_one hc], rfl, q.same sm (.bl _)⟩
      · cases hd
    | _ => cases hd
  | _ => cases dy <;> cases hd
def strsO : List D → Option (List Str)
  | [] => some []
  | .str x :: r => (strsO r).map (x :: ·)
  | _ => none
theorem strsO_vs {G : Gx} {F : Hp} : ∀ {ds : List D} {vs : List V} {ys : List Str}, RpAll G F vs ds → strsO ds = some ys → vs = ys.map V.str
  | _, _, _, .nil, e => by
    cases e
    rfl
  | _ :: ds, _, ys, .cons h r, e => by
    cases h with
    | str i =>
      simp only [strsO] at e
      cases q : strsO ds with
      | none => rw [q] at e; cases e
      | some ms =>
        rw [q] at e
        cases e
        rw [strsO_vs r q]
        rfl
    | _ => cases e
@[simp] def eJoin (a : Str) (f : SE) : SE := fun env => (f env).bind fun d => match d with
  | .list ds => (strsO ds).bind fun ys => if (ys.map (·.length)).sum + ys.length * a.length ≤ 16777216 then some (.str (Txt.join a ys)) else none
  | _ => none
theorem ejoin {X : Cx} {O : List Nat} {a : Str} {e : Expr} {f : SE} {j : Nat} {p1 apos pos : Pos} (he : PE X e (rV (gx X) O f)) (hs : starEach [e] X.env = [(false, eval e X.env)] := by rfl) (hbase : attributeBase (.Constant (.str a) j p1) "join" X.env (eval (.Constant (.str a) j p1) X.env) = eval (.Constant (.str a) j p1) X.env := by rfl) (hline : (apos.endLine == pos.line) = true := by rfl) :
    PE X (.Call (.Attribute (.Constant (.str a) j p1) "join" apos) [e] [] pos) (rV (gx X) O (eJoin a f)) :=
  (pe_join pe_str he hs hbase hline).imp fun σ H Q ⟨F, env, d, hs, hf, q⟩ => by
    simp only [eJoin] at hf
    obtain ⟨d0, h1, h2⟩ := bind_some hf
    split at h2
    · rename_i ds
      obtain ⟨ys, h3, h4⟩ := bind_some h2
      split at h4
      · rename_i hz
        cases h4
        refine tC_go ⟨⟨a, rfl⟩, F, env, _, hs, h1, fun v F1 H1 g1 r1 => ?_⟩
        cases r1 with
        | lst sq ra =>
          have e := strsO_vs ra h3
          subst e
          exact ⟨a, _, ys, rfl, rfl, .inl (g1.fh.seq sq), hz, q _ F1 H1 g1 (.str _)⟩
      · cases h4
    · cases h2
end TL

set_option Elab.async false
set_option linter.all false
set_option maxRecDepth 100000
set_option maxHeartbeats 4000000
namespace TL
open PySem PySem.Spec PyProof.Rows L2
section
variable {P : Program} {w : World} {A : Around} {E : Value → Shared → Prop} {s : Shared}
end
end TL

set_option Elab.async false
set_option linter.all false
set_option maxRecDepth 100000
namespace TL
open PySem PySem.Spec PyProof.Rows L2
section
variable {prog : Program} {w : World} {A : Around} {R : Result → Shared → Prop} {I : Addr} {fp wr : List Addr} {n : Nat} {P : Nat → Value → Prop} {St : Nat → Heap → Prop} {dv : Value}
end
section
variable {prog : Program} {w : World} {A : Around} {E : Value → Shared → Prop} {s : Shared}
end
section
variable {X : Cx}
end
end TL

set_option Elab.async false
set_option linter.all false
set_option maxRecDepth 100000
namespace TL
open PySem PySem.Spec PyProof.Rows L2
section
variable {X : Cx} {O : List Nat}
end
end TL

set_option Elab.async false
set_option linter.all false
set_option maxRecDepth 100000
namespace TL
open PySem PySem.Spec PyProof.Rows L2 GenW
abbrev gX (X : Cx) (A : Around) (s : Shared) (H : Hp) (env : PySem.Env) (fp : List Addr) (pn : List (Addr × Obj)) : Cx :=
  { X with A := A, s_0 := s, H_0 := H, env := env, outer := X.stack, stack := env :: X.stack, ex := fp, fn := fun _ => false, calm := true, pn := pn, xe := fun _ _ => False }
structure GenOk (N : List Str) (sc scope : Scope) (own : List (Str × Nat)) : Prop where
  b : BlkOk N sc scope own
  co : scope.isCoroutine = false
  cell : ∀ y ∈ scope.names, y.2 ≠ .cell
  dot : scope.names.lookup (".0" : Str) = some NameKind.local
theorem over_gen {A : Around} {elt tg iter : Expr} {ifs : List Expr} {scope : Scope} {pos : Pos} {it acc : Value} {env : PySem.Env} :
    A.over (.compLoop (.GeneratorExp elt [⟨tg, iter, ifs, 0⟩] scope pos) 0 it acc env) [] = A.deeper env := by
  first
    | rfl
    | (obtain ⟨hd, d, fr, gs, u⟩ := A; simp [Around.over, Around.deeper, marksOver, frameCount, unitsOf, envsOf, guardsOf, pushEnvs, pushGuards, Code.envs, Code.env?, Code.isFrame, Code.guards, Code.isGuard, Code.weight, Code.frames, Code.isCreation, Code.isCaller, Code.cUnits])
section
variable {X : Cx} {pins : List (Addr × Obj)} {σ : L2.St} {H : Hp} {s : Shared}
theorem inv_gens {g : Array GenState} (I : Inv X pins σ H s) (hg : AllBare g) : Inv X pins σ H { s with gens := g } :=
  ⟨I.ok, I.os, hg, I.base, I.loc, I.cell, I.free, I.freeC, I.pin, I.hok, I.len⟩
theorem inv_setGen {g : Nat} {x : GenState} (I : Inv X pins σ H s) (hx : x.bare = true) : Inv X pins σ H (s.setGen g x) := inv_gens I (allBare_setGen I.bare hx)
theorem gen_start {scope : Scope} {own : List (Str × Nat)} {fp : List Addr} {A' : Around} {code : Value} {m : Str → Option Value} {s5 : Shared} {pn : List (Addr × Obj)} (I : Inv X pins σ H s) (ok : GenOk X.N X.env.scope scope own) (hN : X.N.Nodup) (hfp : ∀ b ∈ fp, FpOk X pins H b ∧ b < s.heap.objs.size)
    (hA : A'.frames = some (genEnv scope (cloFrom X.env.cells scope.names []) s.heap.objs.size code builtinsNs X.env :: X.stack)) (hh : A'.handled = none)
    (hk : ∀ b o, s.heap.get? b = some o → s5.heap.get? b = some o) (hns : s5.heap.Ns s.heap.objs.size m) (hos : s5.os = s.os) (hg : AllBare s5.gens)
    (hpn : ∀ p ∈ pn, s5.heap.get? p.1 = some p.2 ∧ s.heap.objs.size < p.1 ∧ ∀ v, p.2.data ≠ .cell v) :
    Inv (gX X A' s H (genEnv scope (cloFrom X.env.cells scope.names []) s.heap.objs.size code builtinsNs X.env) fp pn) [] (wipe σ (own.map (·.2))) H s5 := by
  have hfree : ∀ y ∈ scope.names, y.2 = .free → ∃ c, X.env.cells.lookup y.1 = some c := fun y hy e => by
    rcases ok.b.free y hy e with k | k
    · exact I.ok.has _ (.inl k)
    · exact I.ok.has _ (.inr k)
  generalize hcenv : genEnv scope (cloFrom X.env.cells scope.names []) s.heap.objs.size code builtinsNs X.env = cenv at hA
  have hL : cenv.locals = s.heap.objs.size := by rw [← hcenv]; rfl
  have hcl : cenv.cells = cloFrom X.env.cells scope.names [] := by rw [← hcenv]; rfl
  have hsc : cenv.scope = scope := by rw [← hcenv]; rfl
  have cm : ∀ {y c}, cenv.cells.lookup y = some c → X.env.cells.lookup y = some c ∧ c < s.heap.objs.size := fun {y c} e => by
    rw [hcl] at e
    rcases cloFrom_mem (PySem.mem_of_lookup e) with hm | ⟨h1, rfl⟩
    · cases hm
    · obtain ⟨c, hc⟩ := hfree _ h1 rfl
      rw [hc]
      obtain ⟨w, z⟩ := I.cell _ _ hc
      exact ⟨rfl, z.lt⟩
  have look : ∀ {y}, scope.names.lookup y = some .free → ∃ c, cenv.cells.lookup y = some c ∧ X.env.cells.lookup y = some c := fun {y} hl => by
    have hy : (y, NameKind.free) ∈ scope.names := PySem.mem_of_lookup hl
    obtain ⟨c', e'⟩ := mem_lookup (cloFrom_has (cells := X.env.cells) (acc := []) hy)
    rw [← hcl] at e'
    exact ⟨c', e', (cm e').1⟩
  have okB : (gX X A' s H cenv fp pn).Ok := by
    refine ⟨I.ok.mod, by show cenv.scope.kind = _; rw [hsc]; exact ok.b.kind, by show cenv.globals = _; rw [← hcenv]; exact I.ok.glob, by show cenv.builtins = _; rw [← hcenv]; rfl, by show s.heap.objs.size ≤ cenv.locals; rw [hL]; exact Nat.le_refl _,
      fun y z c e1 e2 => I.ok.inj y z c (cm e1).1 (cm e2).1, fun y hy => ?_, fun y c z e => (by cases z), fun _ => hh, hA, .inr ⟨rfl, by show cenv.frame = some cenv.locals; rw [← hcenv]; rfl⟩, fun b hb => ⟨?_, fun y c e z => (hfp b hb).1.2.2.2.2.1 y c (cm e).1 z⟩, I.bs, Nat.le_trans I.ok.bsz I.sz, fun b o e hb => ?_, fun b hb z => ?_, I.stack, I.stkFree⟩
    · show ∃ c, cenv.cells.lookup y = some c
      rcases hy with hy | hy
      · have hy : cenv.scope.names.lookup y = some .cell := hy
        rw [hsc] at hy
        exact absurd rfl (ok.cell _ (PySem.mem_of_lookup hy))
      · have hy : cenv.scope.names.lookup y = some .free := hy
        rw [hsc] at hy
        obtain ⟨c, h1, _⟩ := look hy
        exact ⟨c, h1⟩
    · show b ≠ cenv.locals
      rw [hL]; exact Nat.ne_of_lt (hfp b hb).2
    · rcases (hfp b hb).1.2.2.2.1 with z | z
      · exact I.ok.noex b o e z
      · exact absurd (Nat.lt_of_lt_of_le (Heap.lt_size e) (Nat.le_trans I.ok.bsz z)) (Nat.lt_irrefl _)
    · rcases List.mem_cons.mp (I.stkSub b z) with z | z
      · exact (hfp b hb).1.2.1 z
      · exact (hfp b hb).1.2.2.1 z
  refine ⟨okB, hos, hg, Un.kept hk, ⟨m, by show s5.heap.Ns cenv.locals m; rw [hL]; exact hns, fun i y av e1 e2 e3 => ?_⟩, fun y c e => ?_, ?_, fun y c e => ?_, fun p hp => ?_, I.hok.kept hk, by rw [wipe_length]; exact I.len⟩
  · obtain ⟨e2, hne⟩ := wipe_some e2
    have hfr : scope.names.lookup y = some .free := by
      have e3 : Vis cenv.scope y := e3
      rw [hsc] at e3
      rcases e3 with e3 | e3 | e3
      · rcases ok.b.own _ (PySem.mem_of_lookup e3) (.inl rfl) with e' | e'
        · obtain ⟨p, hp, hpy⟩ := List.mem_map.mp e'
          have e4 := ok.b.ix p hp
          have : p.1 = y := hpy
          rw [this] at e4
          exact absurd (List.mem_map.mpr ⟨p, hp, nodup_ix hN e4 e1⟩) hne
        · exact absurd (List.mem_of_getElem? e1) e'
      · exact absurd rfl (ok.cell _ (PySem.mem_of_lookup e3))
      · exact e3
    obtain ⟨m0, hn, hl⟩ := I.loc
    have hvis : Vis X.env.scope y := (ok.b.free _ (PySem.mem_of_lookup hfr) rfl).elim (fun k => .inr (.inl k)) (fun k => .inr (.inr k))
    obtain ⟨w, r, q⟩ := hl i y av e1 e2 hvis
    refine ⟨w, r, .inr ⟨.inr (by show cenv.scope.names.lookup y = _; rw [hsc]; exact hfr), ?_⟩⟩
    obtain ⟨c, h1, h2⟩ := look hfr
    rcases q with ⟨k, _⟩ | ⟨_, c', e', z⟩
    · have k : X.env.scope.names.lookup y = some .local := k
      rcases ok.b.free _ (PySem.mem_of_lookup hfr) rfl with k' | k' <;> rw [show X.env.scope.names.lookup y = _ from k'] at k <;> cases k
    · rw [h2] at e'; cases e'
      exact ⟨c, h1, z.keeps hk⟩
  · have e : cenv.cells.lookup y = some c := e
    obtain ⟨w, z⟩ := I.cell y c (cm e).1
    exact ⟨w, z.keeps hk⟩
  · show H cenv.locals = none
    rw [hL]; exact I.hok.fresh (Nat.le_refl _)
  · have e : cenv.cells.lookup y = some c := e
    exact I.freeC y c (cm e).1
  · have hp : p ∈ pn := by
      rcases List.mem_append.mp hp with z | z
      · exact z
      · cases z
    obtain ⟨h1, h2, h3⟩ := hpn p hp
    refine ⟨h1, I.hok.fresh (Nat.le_of_lt h2), ?_, fun z => ?_, h3⟩
    · show p.1 ≠ cenv.locals
      rw [hL]; exact Nat.ne_of_gt h2
    · rcases List.mem_cons.mp (I.stkSub _ z) with z | z
      · rw [z] at h2; exact absurd (Nat.lt_trans h2 I.lt) (Nat.lt_irrefl _)
      · exact I.nofs (Nat.le_of_lt h2) z
end
def gL (X : Cx) (σ0 : L2.St) (fp : List Addr) (tn : Nat → Heap → Prop) (W : Nat → Hp → Prop) (g : Nat) (i : Nat) (s : Shared) : Prop :=
  g < s.gens.size ∧ ∃ H, Inv X [] σ0 H s ∧ tn i s.heap ∧ (∀ b ∈ fp, H b = none) ∧ W i H
def gD (X : Cx) (σ0 : L2.St) (g : Nat) (Q : Hp → Prop) (s : Shared) : Prop := g < s.gens.size ∧ ∃ H, Inv X [] σ0 H s ∧ Q H
def gY (X : Cx) (σ0 : L2.St) (fp : List Addr) (tn : Nat → Heap → Prop) (W : Nat → Hp → Prop) (g n : Nat) (cb : Bool) (QF : Hp → Prop) : Protocol := fun m s0 v s kap =>
  ∃ b, v = .bool b ∧ (if b = cb then gL X σ0 fp tn W g (n - m) s else gD X σ0 g QF s) ∧ ∀ s'', gL X σ0 fp tn W g (n - m) s'' → kap (.send .none) s''
abbrev gP (X : Cx) (σ0 : L2.St) (g : Nat) (QT : Hp → Prop) (m : Nat) (s0 s1 : Shared) : Prop := m = 0 ∧ gD X σ0 g QT s1
def gR (X : Cx) (σ0 : L2.St) (g : Nat) (QT : Hp → Prop) : GenEnd := fun m s0 r s1 => r = .ok .next ∧ gP X σ0 g QT m s0 s1
section
variable {X : Cx} {σ0 : L2.St} {fp : List Addr} {tn : Nat → Heap → Prop} {W : Nat → Hp → Prop} {g n : Nat} {cb : Bool} {QF QT : Hp → Prop} {J : It} {gt : TG} {te : TE}
  {elt tg iter : Expr} {scope : Scope} {pos : Pos} {it : Addr} {As : Around} {vs : List Nat}
def gTurn (J : It) (σ0 : L2.St) (vs : List Nat) (n : Nat) (cb : Bool) (gt : TG) (te : TE) (W : Nat → Hp → Prop) (QT QF : Hp → Prop) : Prop := ∀ i H, W i H →
  (i = n ∧ J.stop i H ∧ QT H) ∨ (i < n ∧ J.go i H ∧ ∀ y H', J.yld i H y H' → gt y σ0 H' fun σ2 H2 => wipe σ2 vs = σ0 ∧ te σ2 H2 fun v H3 => ∃ b, v = .bl b ∧ if b = cb then W (i + 1) H3 else QF H3)
theorem gL_setGen {i : Nat} {s : Shared} {x : GenState} (h : gL X σ0 fp tn W g i s) (hx : x.bare = true) : gL X σ0 fp tn W g i (s.setGen g x) := by
  obtain ⟨h0, H, I, h1, h2, h3⟩ := h
  exact ⟨by rw [setGen_size]; exact h0, H, inv_setGen I hx, h1, h2, h3⟩
theorem gen_loop (hA : X.A = As.deeper X.env) (hc : X.calm = true) (hco : X.env.scope.isCoroutine = false) (hxe : X.xe = fun _ _ => False) (T : Turn X.prog X.w X.K tg J fp it tn) (stat : ∀ {σ' : L2.St} {H' : Hp} {s' : Shared}, Inv X [] σ' H' s' → (∀ b ∈ fp, H' b = none) → ∀ b ∈ fp, FpOk X [] H' b)
    (hg : PG X tg gt) (he : PE X elt te) (hvs : ∀ σ2 : L2.St, wipe σ2 vs = σ0 → σ0.length = σ2.length) (turn : gTurn J σ0 vs n cb gt te W QT QF) :
    ∀ (k i : Nat) (s0 s : Shared), n - i = k → i ≤ n → gL X σ0 fp tn W g i s →
      Seg (model X.prog X.w) As (gR X σ0 g QT) (gY X σ0 fp tn W g n cb QF) k s0
        (.compLoop (.GeneratorExp elt [⟨tg, iter, [], 0⟩] scope pos) 0 (.ref it) .none X.env)
        ((model X.prog X.w).den (.compLoop (.GeneratorExp elt [⟨tg, iter, [], 0⟩] scope pos) 0 (.ref it) .none X.env)) [] s := by
  intro k
  induction k with
  | zero =>
    intro i s0 s hk hi hL
    obtain ⟨hgs, H, I, st, fr, w⟩ := hL
    rcases turn i H w with ⟨hin, stop, q⟩ | ⟨hlt, _⟩
    · show Seg _ As _ _ _ s0 _ ((compTurn (.GeneratorExp elt [⟨tg, iter, [], 0⟩] scope pos) 0 (.ref it) .none X.env).onRaise (leaving X.env)) [] s
      rw [compTurn_gen, Sem.onRaise_eq_wrap]
      refine seg_bind_wrap (wpAny_standAt ?_)
      refine seg_bind_wrap ?_
      rw [over_gen, ← hA]
      refine wpAny_gsz hgs (thnF (T.done X rfl rfl rfl hc i [] s σ0 H (fun _ _ => False) I (stat I fr) st stop) fun r s1 ⟨hr, I1⟩ hsz => ?_)
      subst hr
      exact seg_end (.ok .next) ⟨rfl, rfl, hsz, H, I1, q⟩
    · omega
  | succ k ih =>
    intro i s0 s hk hi hL
    obtain ⟨hgs, H, I, st, fr, w⟩ := hL
    rcases turn i H w with ⟨hin, _⟩ | ⟨hlt, go, step⟩
    · omega
    · show Seg _ As _ _ _ s0 _ ((compTurn (.GeneratorExp elt [⟨tg, iter, [], 0⟩] scope pos) 0 (.ref it) .none X.env).onRaise (leaving X.env)) [] s
      rw [compTurn_gen, Sem.onRaise_eq_wrap]
      refine seg_bind_wrap (wpAny_standAt ?_)
      refine seg_bind_wrap ?_
      rw [over_gen, ← hA]
      refine wpAny_gsz hgs (thnF (T.item X rfl rfl rfl hc i [] s σ0 H (fun _ _ => False) I (stat I fr) st go) fun r s1 ⟨u, hr, h1⟩ hgs1 => ?_)
      subst hr
      refine seg_bind_wrap ?_
      rw [over_gen, ← hA]
      refine wpAny_gsz hgs1 (thnF h1 fun _ s2 ⟨y, H2, I2, r2, y2, st2, fr2⟩ hgs2 => ?_)
      have I2' := I2.pinned (stat I2 fr2) (T.obj _ _ st2)
      refine seg_bind_wrap ?_
      rw [over_gen, ← hA]
      have hgr := hg.run _ s2 σ0 H2 y u _ I2' r2 (step y H2 y2)
      rw [hxe] at hgr
      refine wpAny_gsz hgs2 (thnF hgr fun _ s3 ⟨σ3, H3, I3, hw3, q3⟩ hgs3 => ?_)
      refine seg_bind_wrap ?_
      rw [over_gen, ← hA]
      simp only [List.forIn_nil]
      refine wpAny_pure ?_
      simp only [if_true]
      have hy : ∀ v, yieldOut X.env v = yieldValue v := fun v => by simp only [yieldOut, hco, Bool.false_eq_true, if_false]
      simp only [hy]
      rw [Sem.bind_eq_wrap', Sem.bind_eq_wrap', Sem.wrap_wrap, Sem.wrap_wrap]
      refine seg_wrap ?_
      rw [over_gen, ← hA]
      have her := he.run _ s3 σ3 H3 _ I3 q3
      rw [hxe] at her
      refine wpAny_gsz hgs3 (thnF her fun v s4 ⟨yv, H4, I4, r4, b, hb, q4⟩ hgs4 => ?_)
      subst hb
      obtain rfl : v = Value.bool b := r4
      have hkn : n - k = i + 1 := by omega
      have hl := hvs σ3 hw3
      have I5 : Inv X [] σ0 H4 s4 := (I4.unpinned (pins := [])).weak hl fun j v e => by
        rw [← hw3] at e
        exact (wipe_some e).1
      have pin' : ∀ b ∈ fp, ∀ o, s2.heap.get? b = some o → s4.heap.get? b = some o ∧ H4 b = none := fun b hb o e =>
        let z := I4.pin (b, o) (List.mem_append_right _ (List.mem_append_right _ (mem_pinsAt hb e)))
        ⟨z.1, z.2.1⟩
      have st4 : tn (i + 1) s4.heap := T.keep _ _ _ st2 fun b hb o e => (pin' b hb o e).1
      have fr4 : ∀ b ∈ fp, H4 b = none := fun b hb => by
        obtain ⟨o, e, _⟩ := T.obj _ _ st2 b hb
        exact (pin' b hb o e).2
      refine seg_at (seg_yield rfl rfl rfl ⟨b, rfl, ?_, fun s'' hL => ?_⟩)
      · rw [hkn]
        split
        · rename_i hb
          rw [if_pos hb] at q4
          exact ⟨hgs4, H4, I5, st4, fr4, q4⟩
        · rename_i hb
          rw [if_neg hb] at q4
          exact ⟨hgs4, H4, I5, q4⟩
      · rw [hkn] at hL
        exact seg_again rfl (ih (i + 1) s'' s'' (by omega) hlt hL)
theorem gen_begin (hA : X.A = As.deeper X.env) (hc : X.calm = true) (hco : X.env.scope.isCoroutine = false) (hxe : X.xe = fun _ _ => False) (T : Turn X.prog X.w X.K tg J fp it tn) (stat : ∀ {σ' : L2.St} {H' : Hp} {s' : Shared}, Inv X [] σ' H' s' → (∀ b ∈ fp, H' b = none) → ∀ b ∈ fp, FpOk X [] H' b)
    (hg : PG X tg gt) (he : PE X elt te) (hvs : ∀ σ2 : L2.St, wipe σ2 vs = σ0 → σ0.length = σ2.length) (turn : gTurn J σ0 vs n cb gt te W QT QF) (s : Shared) (hL : gL X σ0 fp tn W g 0 s) :
      Seg (model X.prog X.w) As (gR X σ0 g QT) (gY X σ0 fp tn W g n cb QF) n s
        (.compStart (.GeneratorExp elt [⟨tg, iter, [], 0⟩] scope pos) 0 (.ref it) .none X.env)
        ((model X.prog X.w).den (.compStart (.GeneratorExp elt [⟨tg, iter, [], 0⟩] scope pos) 0 (.ref it) .none X.env)) [] s := by
  have loop := gen_loop (iter := iter) (scope := scope) (pos := pos) hA hc hco hxe T stat hg he hvs turn n 0 s s (Nat.sub_zero _) (Nat.zero_le _) hL
  obtain ⟨hgs, H, I, st, fr, w⟩ := hL
  show Seg _ As _ _ _ s _ ((compStart (.GeneratorExp elt [⟨tg, iter, [], 0⟩] scope pos) 0 (.ref it) .none X.env).onRaise (leaving X.env)) [] s
  unfold compStart
  rw [Sem.onRaise_eq_wrap]
  show Seg _ As _ _ _ s _ ((ask >>= _).wrap _ _ _ _) [] s
  refine seg_bind_wrap (wpAny_askSetting ?_)
  split
  · exact seg_again rfl loop
  · first
      | exact seg_bind_wrap (wpAny_rule (seg_bind_wrap (wpAny_standAt (seg_bind_wrap (T.self _ 0 s _ _ st (seg_again rfl loop))))))
      | (refine seg_bind_wrap (wpAny_rule ?_); show Seg _ As _ _ _ s _ ((standAt iter.pos >>= _).wrap _ _ _ _) [] s; exact seg_bind_wrap (wpAny_standAt (seg_bind_wrap (T.self _ 0 s _ _ st (seg_again rfl loop)))))
def gSt (X : Cx) (As : Around) (σ0 : L2.St) (fp : List Addr) (tn : Nat → Heap → Prop) (W : Nat → Hp → Prop) (a g n : Nat) (cb : Bool) (QT QF : Hp → Prop) (i : Nat) (s : Shared) : Prop :=
  gL X σ0 fp tn W g i s ∧ ∃ gs, s.gens[g]? = some gs ∧ ∀ s'', gL X σ0 fp tn W g i s'' → gs.Goes (model X.prog X.w) As (gR X σ0 g QT) (gY X σ0 fp tn W g n cb QF) (n - i) (.send .none) s''
theorem gD_setGen {Q : Hp → Prop} {s : Shared} {x : GenState} (h : gD X σ0 g Q s) (hx : x.bare = true) : gD X σ0 g Q (s.setGen g x) := by
  obtain ⟨h0, H, I, h1⟩ := h
  exact ⟨by rw [setGen_size]; exact h0, H, inv_setGen I hx, h1⟩
theorem gen_item {A : Around} {a : Addr} {E : Value → Shared → Prop} {i : Nat} {s : Shared} (hh : A.handled = none) (hroom : A.depth < recursionLimit) (hs : ∀ {σ' : L2.St} {H' : Hp} {s' : Shared}, Inv X [] σ' H' s' → s'.heap.IsGen a g) (hi : i < n)
    (h : gSt X A.in1 σ0 fp tn W a g n cb QT QF i s) :
    wpAny (model X.prog X.w) A (pyNext (.ref a)) (fun r s' => ∃ b, r = some (.bool b) ∧ if b = cb then gSt X A.in1 σ0 fp tn W a g n cb QT QF (i + 1) s' else gD X σ0 g QF s') E s := by
  obtain ⟨hL, gs, hgs, hgo⟩ := h
  obtain ⟨m, hm⟩ : ∃ m, n - i = m + 1 := ⟨n - i - 1, by omega⟩
  rw [hm] at hgo
  have hIg : s.heap.IsGen a g := let ⟨_, _, I, _⟩ := hL; hs I
  have hlim : s.heap.NoLimit := let ⟨_, _, I, _⟩ := hL; I.nolimit
  refine wpAny_pyNext_genexpQ (P := gP X σ0 g QT) (Y := gY X σ0 fp tn W g n cb QF) hh hlim hroom hIg hgs (hgo _ (gL_setGen hL rfl)) (fun v s1 gs' hb hv => ?_) (fun s1 hp h' hk => absurd hp.1 (Nat.succ_ne_zero m))
  obtain ⟨b, rfl, hq, hkap⟩ := hv
  have e : n - (m + 1 - 1) = i + 1 := by omega
  rw [e] at hq hkap
  refine ⟨b, rfl, ?_⟩
  split
  · rename_i hbc
    rw [if_pos hbc] at hq
    refine ⟨gL_setGen hq hb, gs', setGen_at hq.1, fun s'' hL'' => ?_⟩
    have e2 : n - (i + 1) = m := by omega
    rw [e2]
    exact hkap s'' hL''
  · rename_i hbc
    rw [if_neg hbc] at hq
    exact gD_setGen hq hb
theorem gen_done {A : Around} {a : Addr} {E : Value → Shared → Prop} {s : Shared} (hh : A.handled = none) (hroom : A.depth < recursionLimit) (hs : ∀ {σ' : L2.St} {H' : Hp} {s' : Shared}, Inv X [] σ' H' s' → s'.heap.IsGen a g)
    (h : gSt X A.in1 σ0 fp tn W a g n cb QT QF n s) :
    wpAny (model X.prog X.w) A (pyNext (.ref a)) (fun r s' => r = none ∧ gD X σ0 g QT s') E s := by
  obtain ⟨hL, gs, hgs, hgo⟩ := h
  rw [Nat.sub_self] at hgo
  have hIg : s.heap.IsGen a g := let ⟨_, _, I, _⟩ := hL; hs I
  have hlim : s.heap.NoLimit := let ⟨_, _, I, _⟩ := hL; I.nolimit
  refine wpAny_pyNext_genexpQ (P := gP X σ0 g QT) (Y := gY X σ0 fp tn W g n cb QF) hh hlim hroom hIg hgs (hgo _ (gL_setGen hL rfl)) (fun v s1 gs' hb hv => ?_) (fun s1 hp h' hk => ?_)
  · obtain ⟨_, _, _, hkap⟩ := hv
    refine False.elim (hkap s (by simpa using hL))
  · obtain ⟨_, hd⟩ := hp
    obtain ⟨h0, H, I, q⟩ := gD_setGen (x := .finished) hd rfl
    exact ⟨rfl, h0, H, I.kept (t' := s1.toks) hk, q⟩
end
section
variable {prog : Program} {w : World} {A : Around} {R : Result → Shared → Prop}
theorem codeAny_all_by {a : Addr} {n : Nat} {St : Nat → Shared → Prop} {DT DF : Shared → Prop} (item : ∀ i s E, i < n → St i s → wpAny (model prog w) A.in1 (pyNext (.ref a)) (fun r s' => ∃ b, r = some (.bool b) ∧ if b = true then St (i + 1) s' else DF s') E s)
    (done : ∀ s E, St n s → wpAny (model prog w) A.in1 (pyNext (.ref a)) (fun r s' => r = none ∧ DT s') E s) (hT : ∀ s, DT s → R (.ok (.ret (.bool true))) s) (hF : ∀ s, DF s → R (.ok (.ret (.bool false))) s) :
    ∀ (k i : Nat) (s : Shared), n - i = k → i ≤ n → St i s → codeAny (model prog w) A (.builtin "all.loop" ⟨[.ref a], []⟩) R s := by
  intro k
  induction k with
  | zero =>
    intro i s hk hi hst
    have hin : i = n := by omega
    subst hin
    refine codeAny_builtin F.entry_all_loop ?_
    rw [Around.under_plainId F.plain_all_loop _]
    show wpAny _ A.in1 (pyNext (.ref a) >>= _) _ _ s
    refine wpAny_bind (wpAny_mono (done s _ hst) (fun r s1 ⟨hr, hd⟩ => ?_) fun _ _ e => e)
    subst hr
    exact wpAny_bind (wpAny_rule (wpAny_pure (hT s1 hd)))
  | succ k ih =>
    intro i s hk hi hst
    refine codeAny_builtin F.entry_all_loop ?_
    rw [Around.under_plainId F.plain_all_loop _]
    show wpAny _ A.in1 (pyNext (.ref a) >>= _) _ _ s
    refine wpAny_bind (wpAny_mono (item i s _ (by omega) hst) (fun r s1 ⟨b, hr, hd⟩ => ?_) fun _ _ e => e)
    subst hr
    refine wpAny_bind (wpAny_holding (wpAny_truthy_bool ?_))
    refine wpAny_bind (wpAny_letGo ?_)
    cases b with
    | true =>
      simp only [if_true] at hd ⊢
      exact wpAny_pure ⟨plainId_quiet F.plain_all_loop _, ih (i + 1) s1 (by omega) (by omega) hd⟩
    | false =>
      simp only [Bool.false_eq_true, if_false] at hd ⊢
      exact wpAny_bind (wpAny_rule (wpAny_pure (hF s1 hd)))
end
def tAg (P : Addr) (cb : Bool) (wi : TI) (g : TG) (te : TE) (vs : List Nat) : TE := fun σ H Q => wi σ H fun J H1 => GxR.TabG H1 P ∧ ∀ H2, GxR.Tabbed P H1 H2 →
  ∃ (n : Nat) (W : Nat → Hp → Prop), W 0 H2 ∧ gTurn J (wipe σ vs) vs n cb g te W (fun H => Q (.bl cb) H) (fun H => Q (.bl (!cb)) H)
def GReady (X : Cx) (pins : List (Addr × Obj)) (σ : L2.St) (cb : Bool) (Q : VK) (a : Addr) (s5 : Shared) : Prop :=
  ∃ (g n : Nat) (St : Nat → Shared → Prop) (DT DF : Shared → Prop), s5.heap.IsGen a g ∧ St 0 s5 ∧
    (∀ i s E, i < n → St i s → wpAny (model X.prog X.w) X.A.in1 (pyNext (.ref a)) (fun r s' => ∃ b, r = some (.bool b) ∧ if b = cb then St (i + 1) s' else DF s') E s) ∧
    (∀ s E, St n s → wpAny (model X.prog X.w) X.A.in1 (pyNext (.ref a)) (fun r s' => r = none ∧ DT s') E s) ∧
    (∀ s', DT s' → ∃ H', Inv X pins σ H' s' ∧ Q (.bl cb) H') ∧ (∀ s', DF s' → ∃ H', Inv X pins σ H' s' ∧ Q (.bl (!cb)) H')
theorem room_gen {k : Nat} {A : Around} (r : Room (k + 1) A) (env : PySem.Env) : Room k (A.in1.in1.deeper env) :=
  ⟨r.hd, by have := r.dp; show A.depth + 1 + 3 * k + 5 < _; omega, by have := r.un; show A.units + 1 + 1 + 3 + 16 * k + 200 < _; omega⟩
section
variable {X : Cx} {pins : List (Addr × Obj)} {σ : L2.St} {H : Hp} {s : Shared}
theorem gen_made {c P : Addr} {elt tg iter : Expr} {gpos : Pos} {scope : Scope} {own : List (Str × Nat)} {wi : TI} {gt : TG} {te : TE} {k : Nat} {cb : Bool} {Q : VK} {Q' : Value → Shared → Prop}
    (hr : Room (k + 1) X.A) (TB : GxR.TabB X.base X.mg c P) (hcode : X.env.code = .ref c) (hN : X.N.Nodup) (ok : GenOk X.N X.env.scope scope own) (hi : PI X tg iter wi)
    (hg : ∀ (A : Around) (s : Shared) (H : Hp) (C : Addr) (code : Value) (fp : List Addr) (pn : List (Addr × Obj)), PG (gX X A s H (genEnv scope (cloFrom X.env.cells scope.names []) C code builtinsNs X.env) fp pn) tg gt)
    (he : ∀ (A : Around) (s : Shared) (H : Hp) (C : Addr) (code : Value) (fp : List Addr) (pn : List (Addr × Obj)), Room k A → PE (gX X A s H (genEnv scope (cloFrom X.env.cells scope.names []) C code builtinsNs X.env) fp pn) elt te)
    (hs : ∀ v, genFold iter X.env v = pure v) (I : Inv X pins σ H s) (h : tAg P cb wi gt te (own.map (·.2)) σ H Q)
    (hQ : ∀ a s5, GReady X pins σ cb Q a s5 → Q' (.ref a) s5) :
    wpAny (model X.prog X.w) X.A (eval (.GeneratorExp elt [⟨tg, iter, [], 0⟩] scope gpos) X.env) Q' X.xe s := by
  have hfree : ∀ y ∈ scope.names, y.2 = .free → ∃ c, X.env.cells.lookup y.1 = some c := fun y hy e => by
    rcases ok.b.free y hy e with k | k
    · exact I.ok.has _ (.inl k)
    · exact I.ok.has _ (.inr k)
  refine wpAny_GeneratorExp_make ok.co (closure_ok hfree) ok.cell ok.dot ok.b.kind (by have := hr.dp; omega) ?_ hs
  refine thn (hi.run pins s σ H _ I h) fun xv s1 hx => thn hx fun itv s2 h2 => ?_
  obtain ⟨it, fp, tn, J, H2, e, I2, T, st2, f2, ⟨ps, hP, ht⟩, q⟩ := h2
  subst e
  refine ⟨I2.nolimit, ?_⟩
  have hPs : s2.heap.get? P = some { cls := .none, data := .fields ps } := I2.hok P _ hP
  have cd : PySem.W.CodeHd s2.heap c P := TB.code.keeps fun b u e => I2.bk b u e
  have nfpP : ∀ b ∈ fp, b ≠ P := fun b hb z => by
    have := (f2 b hb).1
    rw [z, hP] at this; cases this
  have sz : ∀ b ∈ fp, b < s2.heap.objs.size := fun b hb => by
    obtain ⟨o, e, _⟩ := T.obj _ _ st2 b hb
    exact Heap.lt_size e
  have cont : ∀ (code : Value) (h3 : Heap) (tk : Nat) (more : Array Value), Heap.ExtBut P s2.heap h3 → s2.heap.objs.size ≤ h3.objs.size → h3.get? P = some { cls := .none, data := .fields (ps ++ more) } → TriplesOk (ps ++ more).toList →
      wpAny (model X.prog X.w) X.A (builtinsFor X.env.globals X.env.builtins) (fun bi s₄ =>
        ∀ h', h'.Ns s₄.heap.objs.size (fun y => if y = ".0" then some (.ref it) else none) → Heap.SameBut s₄.heap.objs.size (s₄.heap.push { cls := .type "frame", data := .dict #[] }) h' →
          Q' (.ref h'.objs.size) { s₄ with
            gens := s₄.gens.push (.fresh (.compStart (.GeneratorExp elt [⟨tg, iter, [], 0⟩] scope gpos) 0 (.ref it) .none (genEnv scope (cloFrom X.env.cells scope.names []) s₄.heap.objs.size code bi X.env))),
            toks := s₄.toks + 1 + 1 + 1,
            heap := h'.push { cls := .type "generator", data := .fields #[.int s₄.gens.size 0, .str "<genexpr>" (s₄.toks + 1), .str (X.env.qual ++ "<genexpr>") (s₄.toks + 1 + 1)] } }) X.xe { s2 with heap := h3, toks := tk } := by
    intro code h3 tk more hx hsz hP3 ht3
    have I3 : Inv X pins σ (upd H2 P (.tbl (ps ++ more))) { s2 with heap := h3, toks := tk } := GxR.inv_tab (g' := s2.gens) (d' := s2.drawn) I2 hP (fun b u hb e => hx b u hb e) hP3 I2.bare
    obtain ⟨bm, ob, e1, e2, e3, e4, e5, e6, e7, e8⟩ := TB.bm
    refine wpAny_builtinsFor (m := X.mg) (by rw [I3.ok.glob]; exact I3.mod.glob.keeps I3.bk) e1 e2 (I3.bk _ _ e5) e6 e7 e8 ?_
    generalize hs3 : ({ s2 with heap := h3, toks := tk } : Shared) = s3 at I3 ⊢
    have h3e : s3.heap = h3 := by rw [← hs3]
    intro h' hn' hsb
    generalize hH3 : upd H2 P (.tbl (ps ++ more)) = H3 at I3
    have hT : GxR.Tabbed P H2 H3 := by
      rw [← hH3]
      exact ⟨⟨_, upd_same, ht3⟩, fun b hb => upd_ne hb⟩
    obtain ⟨n, W, w0, turn⟩ := q H3 hT
    have hsz' : h'.objs.size = s3.heap.objs.size + 1 := by rw [hsb.1, Heap.size_push]
    have keep' : ∀ b o, s3.heap.get? b = some o → h'.get? b = some o := fun b o e => hsb.extBut b o (Nat.ne_of_lt (Heap.lt_size e)) (Heap.get?_push_of_some _ e)
    generalize hgo : ({ cls := .type "generator", data := .fields #[.int s3.gens.size 0, .str "<genexpr>" (s3.toks + 1), .str (X.env.qual ++ "<genexpr>") (s3.toks + 1 + 1)] } : Obj) = go
    have keep5 : ∀ b o, s3.heap.get? b = some o → (h'.push go).get? b = some o := fun b o e => Heap.get?_push_of_some _ (keep' b o e)
    generalize hce : genEnv scope (cloFrom X.env.cells scope.names []) s3.heap.objs.size code builtinsNs X.env = ce
    generalize hs5 : ({ s3 with
            gens := s3.gens.push (.fresh (.compStart (.GeneratorExp elt [⟨tg, iter, [], 0⟩] scope gpos) 0 (.ref it) .none ce)),
            toks := s3.toks + 1 + 1 + 1,
            heap := h'.push go } : Shared) = s5
    have h5 : s5.heap = h'.push go := by rw [← hs5]
    have g5 : s5.gens = s3.gens.push (.fresh (.compStart (.GeneratorExp elt [⟨tg, iter, [], 0⟩] scope gpos) 0 (.ref it) .none ce)) := by rw [← hs5]
    have goAt : (h'.push go).get? h'.objs.size = some go := by rw [← hgo]; exact Heap.get?_push_size _ rfl
    have st3 : tn 0 s3.heap := T.keep _ _ _ st2 fun b hb o e => by rw [h3e]; exact hx b o (nfpP b hb) e
    have f3 : ∀ b ∈ fp, FpOk X pins H3 b ∧ b < s3.heap.objs.size := fun b hb => by
      refine ⟨⟨?_, (f2 b hb).2⟩, by rw [h3e]; exact Nat.lt_of_lt_of_le (sz b hb) hsz⟩
      rw [← hH3, upd_ne (nfpP b hb)]
      exact (f2 b hb).1
    have hfr : (X.A.in1.in1.deeper ce).frames = some (ce :: X.stack) := Around.frames_deeper I.ok.frames
    have I5 : Inv (gX X (X.A.in1.in1.deeper ce) s3 H3 ce fp [(h'.objs.size, go)]) [] (wipe σ (own.map (·.2))) H3 s5 := by
      rw [← hce]
      refine gen_start (m := fun y => if y = ".0" then some (.ref it) else none) I3 ok hN f3 (by rw [hce]; exact hfr) hr.hd (fun b o e => by rw [h5]; exact keep5 b o e) ?_ (by rw [← hs5]) ?_ fun p hp => ?_
      · rw [h5]
        exact hn'.push _
      · rw [g5]
        exact AllBare.push I3.bare rfl
      · rw [List.mem_singleton.mp hp]
        refine ⟨by rw [h5]; exact goAt, by rw [hsz']; exact Nat.lt_succ_self _, fun v z => ?_⟩
        rw [← hgo] at z
        cases z
    have hgen : ∀ {σ' : L2.St} {H' : Hp} {s' : Shared}, Inv (gX X (X.A.in1.in1.deeper ce) s3 H3 ce fp [(h'.objs.size, go)]) [] σ' H' s' → s'.heap.IsGen h'.objs.size s3.gens.size := fun {σ' H' s'} I' => by
      have e := (I'.pin (h'.objs.size, go) (List.mem_append_left _ (List.mem_singleton.mpr rfl))).1
      subst hgo
      exact ⟨_, _, _, e, rfl, rfl, rfl⟩
    have stat : ∀ {σ' : L2.St} {H' : Hp} {s' : Shared}, Inv (gX X (X.A.in1.in1.deeper ce) s3 H3 ce fp [(h'.objs.size, go)]) [] σ' H' s' → (∀ b ∈ fp, H' b = none) → ∀ b ∈ fp, FpOk (gX X (X.A.in1.in1.deeper ce) s3 H3 ce fp [(h'.objs.size, go)]) [] H' b := fun {σ' H' s'} I' hn b hb =>
      ⟨hn b hb, (I'.ok.exf b hb).1, I'.ok.exfs b hb, .inl hb, fun x c e => (I'.ok.exf b hb).2 x c e, fun p hp => by
        have hp : p ∈ [(h'.objs.size, go)] := by
          rcases List.mem_append.mp hp with z | z
          · exact z
          · cases z
        rw [List.mem_singleton.mp hp]
        have h7 : b < s3.heap.objs.size := (f3 b hb).2
        show h'.objs.size ≠ b
        rw [hsz']
        exact Nat.ne_of_gt (Nat.lt_succ_of_lt h7)⟩
    have hL5 : gL (gX X (X.A.in1.in1.deeper ce) s3 H3 ce fp [(h'.objs.size, go)]) (wipe σ (own.map (·.2))) fp tn W s3.gens.size 0 s5 :=
      ⟨by rw [g5, Array.size_push]; exact Nat.lt_succ_self _, H3, I5, T.keep _ _ _ st3 fun b _ o e => by rw [h5]; exact keep5 b o e, fun b hb => (f3 b hb).1.1, w0⟩
    have hwl : ∀ σ2 : L2.St, wipe σ2 (own.map (·.2)) = wipe σ (own.map (·.2)) → (wipe σ (own.map (·.2))).length = σ2.length := fun σ2 e => by rw [← e, wipe_length]
    have back : ∀ {Q0 : Hp → Prop} {s' : Shared}, gD (gX X (X.A.in1.in1.deeper ce) s3 H3 ce fp [(h'.objs.size, go)]) (wipe σ (own.map (·.2))) s3.gens.size Q0 s' → ∃ H', Inv X pins σ H' s' ∧ Q0 H' := fun {Q0 s'} ⟨_, H', I', q'⟩ =>
      ⟨H', I3.call' (ch := fp) I'.os I'.base I'.hok I'.bare fun b hb => ⟨(f3 b hb).1.2.2.2.1, (f3 b hb).1.2.1, (f3 b hb).1.2.2.2.2.1, (f3 b hb).1.2.2.2.2.2⟩, q'⟩
    have hco : ce.scope.isCoroutine = false := by rw [← hce]; exact ok.co
    have pg := hg (X.A.in1.in1.deeper ce) s3 H3 s3.heap.objs.size code fp [(h'.objs.size, go)]
    have pe := he (X.A.in1.in1.deeper ce) s3 H3 s3.heap.objs.size code fp [(h'.objs.size, go)] (room_gen hr ce)
    rw [hce] at pg pe
    have hst0 : gSt (gX X (X.A.in1.in1.deeper ce) s3 H3 ce fp [(h'.objs.size, go)]) X.A.in1.in1 (wipe σ (own.map (·.2))) fp tn W h'.objs.size s3.gens.size n cb (fun H => Q (.bl cb) H) (fun H => Q (.bl (!cb)) H) 0 s5 := by
      refine ⟨hL5, GenState.fresh (.compStart (.GeneratorExp elt [⟨tg, iter, [], 0⟩] scope gpos) 0 (.ref it) .none ce), by rw [g5]; exact Array.getElem?_push_size .., fun s'' hL'' => ?_⟩
      show _ = _ ∧ Seg _ _ _ _ _ _ _ _ _ _
      refine ⟨rfl, ?_⟩
      exact gen_begin (X := gX X (X.A.in1.in1.deeper ce) s3 H3 ce fp [(h'.objs.size, go)]) (As := X.A.in1.in1) rfl rfl hco rfl T stat pg pe hwl turn s'' hL''
    have hd1 : X.A.in1.depth < recursionLimit := by have := hr.dp; show X.A.depth < _; omega
    refine hQ h'.objs.size s5 ⟨s3.gens.size, n, _, _, _, hgen I5, hst0, ?_, ?_, fun s' hd => back hd, fun s' hd => back hd⟩
    · exact fun i s E hi hst => gen_item (X := gX X (X.A.in1.in1.deeper ce) s3 H3 ce fp [(h'.objs.size, go)]) (A := X.A.in1) hr.hd hd1 hgen hi hst
    · exact fun s E hst => gen_done (X := gX X (X.A.in1.in1.deeper ce) s3 H3 ce fp [(h'.objs.size, go)]) (A := X.A.in1) hr.hd hd1 hgen hst
  cases hf : codeAmong gpos ps.toList with
  | none =>
    refine wpAny_genexprCodeX hcode (cd.code hPs ht) (cd.tab hPs) hf fun c' h' tk hx hge hlt hco' _ htab' _ => ?_
    obtain ⟨o1, vs, f1, tf, fl, tg, inF, tx, tt, op, _, _, _, _, _, _, _, _, _, htr, _⟩ := hco'
    exact cont _ h' tk _ hx (Nat.le_trans hge (Nat.le_of_lt hlt)) htab'.2 htr
  | some cv =>
    refine wpAny_genexprCode_hit hcode (cd.code hPs ht) hf ?_
    exact cont cv s2.heap s2.toks #[] (Heap.ExtBut.refl _ _) (Nat.le_refl _) (by simpa using hPs) (by simpa using ht)
theorem pe_all {c P : Addr} {elt tg iter : Expr} {gpos p pos : Pos} {scope : Scope} {own : List (Str × Nat)} {wi : TI} {gt : TG} {te : TE} {k : Nat}
    (hr : Room (k + 1) X.A) (hgl : Gl X "all") (hm : X.mg "all" = none) (hb : bootBuiltins "all" = some (.builtin "all")) (TB : GxR.TabB X.base X.mg c P) (hcode : X.env.code = .ref c) (hN : X.N.Nodup) (ok : GenOk X.N X.env.scope scope own) (hi : PI X tg iter wi)
    (hg : ∀ (A : Around) (s : Shared) (H : Hp) (C : Addr) (code : Value) (fp : List Addr) (pn : List (Addr × Obj)), PG (gX X A s H (genEnv scope (cloFrom X.env.cells scope.names []) C code builtinsNs X.env) fp pn) tg gt)
    (he : ∀ (A : Around) (s : Shared) (H : Hp) (C : Addr) (code : Value) (fp : List Addr) (pn : List (Addr × Obj)), Room k A → PE (gX X A s H (genEnv scope (cloFrom X.env.cells scope.names []) C code builtinsNs X.env) fp pn) elt te)
    (hs : ∀ v, genFold iter X.env v = pure v := by intro _; rfl)
    (hst : starEach [.GeneratorExp elt [⟨tg, iter, [], 0⟩] scope gpos] X.env = (false, eval (.GeneratorExp elt [⟨tg, iter, [], 0⟩] scope gpos) X.env) :: starEach [] X.env := by rfl) :
    PE X (.Call (.Name "all" p) [.GeneratorExp elt [⟨tg, iter, [], 0⟩] scope gpos] [] pos) (tAg P true wi gt te (own.map (·.2))) := by
  refine ⟨fun pins s σ H Q I h => ?_⟩
  refine wpAny_Call_Name_kw (ld_blt I hgl hm hb ?_)
  refine PyProof.Rows.callWith_builtin1 ?_ hst (by rfl)
  rw [hst]
  show wpAny _ _ (spliced ((false, eval (.GeneratorExp elt [⟨tg, iter, [], 0⟩] scope gpos) X.env) :: backTo pos (starEach [] X.env))) _ _ s
  refine Calls.spliced_cons (gen_made hr TB hcode hN ok hi hg he hs I h fun a s5 hG => ?_)
  obtain ⟨g, n, St, DT, DF, hgen, st0, item, done, hT, hF⟩ := hG
  refine Calls.spliced_nil ?_
  refine call_function_tree F.kind_all F.plain_all F.entry_all (F.args_all1 _) ?_
  unfold Builtin.«all»
  refine wpAny_bind (m := oneArg "all" _) (wpAny_pure ?_)
  refine wpAny_bind (wpAny_pyIter_gen hgen ?_)
  refine wpAny_pure ⟨plainId_quiet F.plain_all_loop _, codeAny_all_by item done (fun s' hd => ?_) (fun s' hd => ?_) n 0 s5 rfl (Nat.zero_le _) st0⟩
  · obtain ⟨H', I', q'⟩ := hT s' hd
    exact ⟨.bl true, H', I', rfl, q'⟩
  · obtain ⟨H', I', q'⟩ := hF s' hd
    exact ⟨.bl false, H', I', rfl, q'⟩
end
end TL

set_option Elab.async false
set_option linter.all false
set_option maxRecDepth 100000
namespace TL
open PySem PySem.Spec PyProof.Rows L2
abbrev Row := List (Option Int)
abbrev WE := Env → Row → Option (D × Row)
abbrev WT := Env → Row → Option (Bool × Row)
abbrev WA := Env → Row → Option (List D × Row)
inductive WOut where
  | nx (e : Env) (c : Row) | rt (d : D) (c : Row) | bk (e : Env) (c : Row) | ct (e : Env) (c : Row)
abbrev WS := Env → Row → Option WOut
def ofO : Option Int → D
  | none => .none
  | some i => .int i
def toO : D → Option (Option Int)
  | .none => some none
  | .int i => some (some i)
  | _ => none
def toRow : List D → Option Row
  | [] => some []
  | d :: ds => (toO d).bind fun o => (toRow ds).map (o :: ·)
@[simp] def wl (f : SE) : WE := fun env c => (f env).map fun d => (d, c)
@[simp] def wlT (f : ST) : WT := fun env c => (f env).map fun d => (d, c)
@[simp] def toW (c : Row) : Out → WOut
  | .nx e => .nx e c
  | .rt d => .rt d c
  | .bk e => .bk e c
  | .ct e => .ct e c
@[simp] def wlS (f : SS) : WS := fun env c => (f env).map (toW c)
@[simp] def w1 (op : D → Option D) (a : WE) : WE := fun env c => (a env c).bind fun x => (op x.1).map fun d => (d, x.2)
@[simp] def w2 (op : D → D → Option D) (a b : WE) : WE := fun env c => (a env c).bind fun x => (b env x.2).bind fun y => (op x.1 y.1).map fun d => (d, y.2)
@[simp] def wNot (a : WE) : WE := fun env c => (a env c).bind fun x => (toB x.1).map fun k => (.bool (!k), x.2)
@[simp] def wArgs : List WE → WA
  | [] => fun _ c => some ([], c)
  | a :: l => fun env c => (a env c).bind fun x => (wArgs l env x.2).map fun y => (x.1 :: y.1, y.2)
@[simp] def wTup (l : List WE) : WE := fun env c => (wArgs l env c).bind fun x => if x.1.length ≤ sizeLine then some (.tuple x.1, x.2) else none
@[simp] def wCall (m : List D → Row → Option (D × Row)) (l : List SE) : WE := fun env c => (eArgs l env).bind fun x => m x c
@[simp] def wRow (a : SE) : WE := fun env c => (a env).bind fun x => (toI x).bind fun k => (L2.atI c k).map fun o => (ofO o, c)
def wAgGo (cb : Bool) (g : SG) (f : WE) (env : Env) : List D → Row → Option (D × Row)
  | [], c => some (.bool cb, c)
  | d :: ds, c => (g d env).bind fun e1 => (f e1 c).bind fun x => (toB x.1).bind fun b => if b = cb then wAgGo cb g f env ds x.2 else some (.bool (!cb), x.2)
@[simp] def wAg (cb : Bool) (vs : List Nat) (fi : SI) (g : SG) (f : WE) : WE := fun env c => (fi env).bind fun ds => wAgGo cb g f (wipeE env vs) ds c
@[simp] def wSeq (a b : WS) : WS := fun env c => (a env c).bind fun o => match o with
  | .nx e c => b e c
  | .rt d c => some (.rt d c)
  | .bk e c => some (.bk e c)
  | .ct e c => some (.ct e c)
@[simp] def wNext : WS := fun env c => some (.nx env c)
@[simp] def wRet (a : WE) : WS := fun env c => (a env c).map fun x => .rt x.1 x.2
@[simp] def wIfS (k : ST) (a b : WS) : WS := fun env c => (k env).bind fun x => if x = true then a env c else b env c
@[simp] def wAsg (a : WE) (g : SG) : WS := fun env c => (a env c).bind fun x => (g x.1 env).map fun e => .nx e x.2
@[simp] def wAug (op : D → D → Option D) (i : Nat) (a : WE) : WS := fun env c => (env.getD i none).bind fun d => (a env c).bind fun x => (op d x.1).map fun z => .nx (env.set i (some z)) x.2
@[simp] def wStore (k a : SE) : WS := fun env c => (a env).bind fun x => (toO x).bind fun o => (k env).bind fun y => (toI y).bind fun z => (L2.ixN c.length z).map fun j => .nx env (c.set j o)
def wForGo (g : SG) (body : WS) : List D → Env → Row → Option WOut
  | [], env, c => some (.nx env c)
  | x :: xs, env, c => (g x env).bind fun env1 => (body env1 c).bind fun o => match o with
    | .nx e c => wForGo g body xs e c
    | .ct e c => wForGo g body xs e c
    | .bk e c => some (.nx e c)
    | .rt d c => some (.rt d c)
@[simp] def wFor (it : SI) (g : SG) (body : WS) : WS := fun env c => (it env).bind fun x => wForGo g body x env c
@[simp] def outW : WOut → Option (D × Row)
  | .rt d c => some (d, c)
  | .nx _ c => some (.none, c)
  | _ => none
def vO : Option Int → V
  | none => .non
  | some i => .int i
structure WOk (G : Gx) (i0 : Nat) (O : List Nat) (r : Nat) (c : Row) (F H : Hp) (σ : L2.St) (env : Env) : Prop where
  s : SOk G O F (hid r H) σ env
  fr : F r = none
  hr : H r = some (.lst (c.map vO))
  rw : σ[i0]? = some (some (.ref r))
structure WGr (r : Nat) (c : Row) (F H F' H' : Hp) : Prop where
  g : Gr F (hid r H) F' (hid r H')
  fr : F' r = none
  hr : H' r = some (.lst (c.map vO))
section
variable {G : Gx} {i0 : Nat} {O O' : List Nat} {r : Nat} {c c' c2 : Row} {F H F' H' F2 H2 : Hp} {σ : L2.St} {env : Env}
theorem WOk.sok (q : WOk G i0 O r c F H σ env) : SOk G O F H σ env := ⟨q.s.fh.trans hid_le, q.s.len, q.s.imm, fun i hi => by
  obtain ⟨p, kk, vs, ds, h1, h2, h3, h4, h5, hK⟩ := q.s.own i hi
  exact ⟨p, kk, vs, ds, h1, h2, h3, hid_le _ _ h4, h5, hK⟩, q.s.dj, q.s.tb.unhid⟩
theorem WOk.gr (q : WOk G i0 O r c F H σ env) (g : WGr r c' F H F' H') : WOk G i0 O r c' F' H' σ env := ⟨q.s.gr g.g, g.fr, g.hr, q.rw⟩
theorem WGr.of (g : Gr F H F' H') (hf : F r = none) (hr : H r = some (.lst (c.map vO))) : WGr r c F H F' H' := by
  have fr : F' r = none := g.hid r _ hr hf
  refine ⟨⟨g.ff, g.hh.hid_, fun b o e => ?_, fun p o e n => ?_⟩, fr, g.hh.l hr⟩
  · have n : b ≠ r := fun z => by rw [z, fr] at e; cases e
    rw [hid_ne n]
    exact g.fh b o e
  · obtain ⟨_, e⟩ := hid_some e
    exact g.hid p o e n
theorem WGr.trans (a : WGr r c F H F' H') (b : WGr r c2 F' H' F2 H2) : WGr r c2 F H F2 H2 := ⟨a.g.trans b.g, b.fr, b.hr⟩
theorem WGr.fh (a : WGr r c F H F' H') : Same F' H' := a.g.fh.trans hid_le
theorem WGr.ff (a : WGr r c F H F' H') : Same F F' := a.g.ff
theorem WOk.of (q : WOk G i0 O r c F H σ env) (g : Gr F H F' H') : WGr r c F H F' H' := .of g q.fr q.hr
theorem WOk.refl (q : WOk G i0 O r c F H σ env) : WGr r c F H F H := q.of (Gr.refl q.sok.fh)
theorem WOk.ne (ok : WOk G i0 O r c F H σ env) : ∀ i ∈ O, ∀ p, σ[i]? = some (some (.ref p)) → p ≠ r := fun i hi p hp => by
  obtain ⟨p', kk, vs, ds, h1, h2, h3, h4, h5, hK⟩ := ok.s.own i hi
  rw [hp] at h1
  cases h1
  exact (hid_some h4).1
theorem WGr.up {g : Row} (h : WGr r c F H F' H') {vs : List V} (e : vs = g.map vO) : WGr r g F H F' (upd H' r (.lst vs)) := by
  have eH : hid r (upd H' r (.lst vs)) = hid r H' := by
    funext b
    by_cases hb : b = r
    · subst hb; rw [hid_r, hid_r]
    · rw [hid_ne hb, hid_ne hb, upd_ne hb]
  exact ⟨by rw [eH]; exact h.g, h.fr, by rw [upd_same, e]⟩
end
section
variable {X : Cx} {i0 : Nat} {O : List Nat} {a b e k : Expr} {es rest : List Expr} {fa fb : WE} {l : List WE} {pos p2 : Pos} {g : D → D → Option D}
end
section
variable {X : Cx} {i0 : Nat} {O : List Nat} {e : Expr} {es : List Expr} {l : List SE} {p pos : Pos} {x : Str} {k n : Nat} {fa : Addr} {fd : FuncData} {ps : List Str} {a : SE}
theorem eArgs_len {env : Env} : ∀ (l : List SE) (ds : List D), eArgs l env = some ds → ds.length = l.length
  | [], ds, h => by cases h; rfl
  | a :: l, ds, h => by
    simp only [eArgs] at h
    obtain ⟨x, _, h⟩ := bind_some h
    obtain ⟨xs, h2, h⟩ := map_some h
    subst h
    exact congrArg (· + 1) (eArgs_len l xs h2)
@[simp] def eRow (m : List D → Row → Option (D × Row)) (l : List SE) (a : SE) : SE := fun env => (eArgs l env).bind fun ds => (a env).bind fun x => match x with
  | .list rs => (toRow rs).bind fun c => (m ds c).map (·.1)
  | _ => none
end
end TL

set_option Elab.async false
set_option linter.all false
set_option maxRecDepth 100000
namespace TL
open PySem PySem.Spec PyProof.Rows L2
theorem wipe_idem (vs : List Nat) (τ : L2.St) : L2.wipe (L2.wipe τ vs) vs = L2.wipe τ vs := ext_wipe (sl := vs) (wipe_length _ _) (fun j hj => wipe_out hj) fun j h => h
section
variable {X : Cx} {i0 : Nat} {O : List Nat}
end
def wPost (G : Gx) (i0 : Nat) (O' Ob : List Nat) (F0 H0 : Hp) (r : Nat) (F : Hp) (D : Ends) : WOut → Prop
  | .nx e c => ∀ σ' F' H', WOk G i0 O' r c F' H' σ' e → Fr F0 (hid r H0) O' F' (hid r H') σ' → Same F F' → D.nx σ' H'
  | .bk e c => ∀ σ' F' H', WOk G i0 Ob r c F' H' σ' e → Fr F0 (hid r H0) Ob F' (hid r H') σ' → Same F F' → D.bk σ' H'
  | .ct e c => ∀ σ' F' H', WOk G i0 Ob r c F' H' σ' e → Fr F0 (hid r H0) Ob F' (hid r H') σ' → Same F F' → D.ct σ' H'
  | .rt d c => ∀ v F' H', WGr r c F0 H0 F' H' → Rp G F' v d → D.rt v H'
theorem wPost.ff {G : Gx} {i0 : Nat} {O' Ob : List Nat} {F0 H0 F F1 : Hp} {r : Nat} {D : Ends} {out : WOut} (q : wPost G i0 O' Ob F0 H0 r F D out) (k : Same F F1) : wPost G i0 O' Ob F0 H0 r F1 D out := by
  cases out with
  | nx e => exact fun σ' F' H' s' f' k' => q σ' F' H' s' f' (k.trans k')
  | bk e => exact fun σ' F' H' s' f' k' => q σ' F' H' s' f' (k.trans k')
  | ct e => exact fun σ' F' H' s' f' k' => q σ' F' H' s' f' (k.trans k')
  | rt d => exact q
section
variable {X : Cx} {i0 : Nat} {O O' O'' Ob : List Nat} {st : Stmt} {rest : List Stmt} {pos : Pos}
end
structure FunC (K : PySem.W.Frag) (x qual : Str) (st : Stmt) (f : Addr) (fd : FuncData) (cc : Addr) : Prop where
  ex : ∃ (oc : Value) (od : Option Addr) (kV doc pm : Value) (an : Option Addr) (ct : Value) (osl : Array (Option Value)),
    fd = PySem.W.fnOf x qual (defArgs st) (defBody st) (defScope st) .none kV doc pm an (.ref cc) ct ∧ K.lookup f = some ⟨oc, od, .func fd, osl⟩ ∧ PySem.W.codeIn K (.ref cc) qual = true
  kp : PySem.W.keepIn K (.ref f) = true
theorem FunC.f {K : PySem.W.Frag} {x qual : Str} {st : Stmt} {f : Addr} {fd : FuncData} {cc : Addr} (F : FunC K x qual st f fd cc) : Fun K x qual st f fd :=
  ⟨let ⟨oc, od, kV, doc, pm, an, ct, osl, h⟩ := F.ex; ⟨oc, od, kV, doc, pm, an, .ref cc, ct, osl, h⟩, F.kp⟩
theorem funC_mk {K : PySem.W.Frag} {x qual : Str} {st : Stmt} {f cc : Addr} {oc : Value} {od an : Option Addr} {osl : Array (Option Value)} {kV doc pm ct : Value} (l : K.lookup f = some ⟨oc, od, .func (PySem.W.fnOf x qual (defArgs st) (defBody st) (defScope st) .none kV doc pm an (.ref cc) ct), osl⟩)
    (c : PySem.W.codeIn K (.ref cc) qual = true) (k : PySem.W.keepIn K (.ref f) = true) : FunC K x qual st f (PySem.W.fnOf x qual (defArgs st) (defBody st) (defScope st) .none kV doc pm an (.ref cc) ct) cc := ⟨⟨oc, od, kV, doc, pm, an, ct, osl, rfl, l, c⟩, k⟩
section
variable {P : Program} {w : World} {G : Gx} {base : Heap}
end
end TL

set_option Elab.async false
set_option linter.all false
set_option maxRecDepth 100000
namespace TL
open PySem PySem.Spec PyProof.Rows L2
section
variable {X : Cx} {O : List Nat} {a b : Expr} {fa fb : SE} {pos : Pos}
end
theorem genOk_by {N : List Str} {sc scope : Scope} {own : List (Str × Nat)} (h : blkC N sc scope own = true) (h1 : scope.isCoroutine = false) (h2 : (scope.names.all fun y => match y.2 with | .cell => false | _ => true) = true)
    (h3 : (match scope.names.lookup (".0" : Str) with | some .local => true | _ => false) = true) : GenOk N sc scope own := by
  refine ⟨blkOk_by h, h1, fun y hy e => ?_, ?_⟩
  · have q := List.all_eq_true.mp h2 y hy
    rw [e] at q
    cases q
  · split at h3
    · assumption
    · cases h3
def noT (H : Hp) : Hp := fun p => match H p with
  | some (.tbl _) => none
  | o => o
theorem noT_le {H : Hp} : Same (noT H) H := fun b o e => by
  unfold noT at e
  split at e
  · cases e
  · exact e
theorem noT_seq {K : PySem.W.Frag} {H : Hp} {a : Addr} {xs : List V} (h : SqL K H a xs) : SqL K (noT H) a xs := by
  rcases h with (h | ⟨o, h⟩) | h
  · exact .inl (.inl (by unfold noT; rw [h]))
  · exact .inl (.inr ⟨o, by unfold noT; rw [h]⟩)
  · exact .inr h
theorem noT_tbl {H : Hp} {P : Addr} {ps : Array Value} (h : H P = some (.tbl ps)) : noT H P = none := by unfold noT; rw [h]
theorem tabIn_of {K : PySem.W.Frag} {x : Str} {f c P : Addr} {oc e : Value} {od dd : Option Addr} {fd : FuncData} {sl sl2 : Array (Option Value)} {vs : Array Value} (a : PySem.W.nsIn K mainGlobals x = some (some (.ref f))) (l : K.lookup f = some ⟨oc, od, .func fd, sl⟩) (hc : fd.code = .ref c)
    (z : K.lookup c = some ⟨e, dd, .fields vs, sl2⟩) (h11 : (vs[11]? : Option Value) = some (.ref P)) : PySem.W.tabIn K x = some (c, P) := by
  unfold PySem.W.tabIn
  simp only [a, l, hc, z, h11]
theorem tabIn_none {K : PySem.W.Frag} {x : Str} (a : PySem.W.nsIn K mainGlobals x = some none) : PySem.W.tabIn K x = none := by
  unfold PySem.W.tabIn
  simp only [a]
def TabsAtH (K : PySem.W.Frag) (names : List Str) (h : Heap) : Prop := ∀ y ∈ names, ∀ c P, PySem.W.tabIn K y = some (c, P) → PySem.W.CodeHd h c P ∧ h.get? P = some { cls := .none, data := .fields #[] }
theorem walk_tabs {l : PySem.W.OpenLaw} {n k : Nat} {q : Program} {loose : List Str} {XP : (Str → Option Value) → Heap → Prop} {YP : World → Heap → Prop} {d : DefRec} {K : Params → PySem.W.Frag} {CX : World → CXT} {x : Str} (names : List Str)
    (hn : l.most = some n) (hn2 : n ≤ sizeLine) (hdf : d.params.defaults = []) (hr : Room k callerA) (hrec : (names.all fun y => ((recsOf q).find? (fun e => e.name == y)).isSome) = true) (hY : ∀ (w : World) (h : Heap), YP w h → (K w.params).In h)
    (F : ∀ (w : World) (mg : Str → Option Value) (fa : Addr) (h : Heap), (K w.params).In h → h.Ns mainGlobals mg → mg d.name = some (.ref fa) → TabsAtH (K w.params) names h → LamX.LawAtS l w (K w.params) (CX w) k n x mg fa h)
    (hCX : ∀ (w : World) (H : Hp) (s : Shared) (e : Value) (s' : Shared), CX w [] H s (fun _ _ _ => False) e s' → False) :
    PySem.W.WalkO q loose XP YP l.row.toRowW d [] (fun f vs => PySem.call f vs) := by
  refine Att.attach_callB hn hdf fun w s₀ s₁ mg mb fa o pm cd doc a vs ns G Y ho hd hcd hmg hobj hints hlen hbits hg => ?_
  have KX := hY w _ Y
  have hT : TabsAtH (K w.params) names s₁.heap := fun y hy c P e => by
    have h1 := List.all_eq_true.mp hrec y hy
    obtain ⟨dL, h2⟩ := Option.isSome_iff_exists.mp h1
    exact PySem.W.tab_of G.T KX h2 e
  obtain ⟨fd, cs, sp, hT, nT, C, hb, hsp, hF⟩ := F w mg fa _ KX G.T.g hmg hT
  exact LamX.law_callTs KX G.T.g G.T.b G.T.builtins G.T.nolimit hg hT nT C G.T.bmain hobj hints (Nat.le_trans hlen hn2) hr hF hb (fun H hH hS => hsp H a ns hlen hbits hH hS) fun H e s' => hCX w H s₁ e s'
end TL

set_option Elab.async false
set_option linter.all false
set_option maxRecDepth 100000
namespace TL
open PySem PySem.Spec PyProof.Rows L2
section
variable {X : Cx} {O Ob : List Nat} {R : RK}
theorem ssetLN2 {y : Str} {py : Pos} {elt tg iter tg1 iter1 : Expr} {ifs ifs1 : List Expr} {scope : Scope} {own : List (Str × Nat)} {vs1 : List Nat} {pos spos : Pos} {fi fi1 : SI} {g g1 : SG} {c c1 : ST} {f : SE} {sl sl1 : List Nat} (i : Nat) (hc : X.calm = true) (hN : X.N.Nodup) (hsw : swapsWith (.ListComp elt [⟨tg, iter, ifs, 0⟩, ⟨tg1, iter1, ifs1, 0⟩] scope pos) (some (.Name y py)) spos.line X.env = pure true)
    (hi : PI X tg iter (iB (gx X) O fi)) (ok : BlkOk X.N X.env.scope scope own) (hv : ∀ i ∈ vs1, i ∈ own.map (·.2))
    (hg : ∀ (s : Shared) (H : Hp) (C : Addr) (cl : List (Str × Addr)) (fp : List Addr), PG (X.blk s H scope (compEnvC scope cl C X.env) fp) tg (tG (gx X) O sl g)) (ht : ∀ (s : Shared) (H : Hp) (C : Addr) (cl : List (Str × Addr)) (fp : List Addr), PTs (X.blk s H scope (compEnvC scope cl C X.env) fp) ifs (rT (gx X) O c))
    (hi1 : ∀ (s : Shared) (H : Hp) (C : Addr) (cl : List (Str × Addr)) (fp : List Addr), PI (X.blk s H scope (compEnvC scope cl C X.env) fp) tg1 iter1 (iV (gx X) O fi1))
    (hg1 : ∀ (s : Shared) (H : Hp) (C : Addr) (cl : List (Str × Addr)) (fp : List Addr), PG (X.blk s H scope (compEnvC scope cl C X.env) fp) tg1 (tG (gx X) O sl1 g1)) (ht1 : ∀ (s : Shared) (H : Hp) (C : Addr) (cl : List (Str × Addr)) (fp : List Addr), PTs (X.blk s H scope (compEnvC scope cl C X.env) fp) ifs1 (rT (gx X) O c1))
    (he : ∀ (s : Shared) (H : Hp) (C : Addr) (cl : List (Str × Addr)) (fp : List Addr), PE (X.blk s H scope (compEnvC scope cl C X.env) fp) elt (rV (gx X) O f)) (hO' : i ∉ O := by decide) (hy : X.N[i]? = some y := by rfl) (hyl : X.env.scope.names.lookup y = some .local := by rfl) (hsl : ∀ j ∈ sl, j ∈ own.map (·.2) := by decide) (hsl1 : ∀ j ∈ sl1, j ∈ vs1 := by decide) (hO : ∀ j ∈ own.map (·.2), j ∉ O := by decide) (hO1 : ∀ j ∈ vs1, j ∉ O := by decide)
    (hs : ∀ x, foldedSetIterable iter X.env x = pure x := by intro _; rfl) (hs1 : ∀ env x, foldedSetIterable iter1 env x = pure x := by intro _ _; rfl) :
    PS X (.Assign [.Name y py] (.ListComp elt [⟨tg, iter, ifs, 0⟩, ⟨tg1, iter1, ifs1, 0⟩] scope pos) spos) (sV (gx X) R O (i :: O) Ob (sAsg (eLc2 (own.map (·.2)) fi g c vs1 fi1 g1 c1 f) (TL.gName i))) :=
  (ps_ln (ps_setLc2 hc hN hy hyl hsw hi ok hv hg ht hi1 hg1 ht1 he hs hs1)).imp fun D σ H h hl => tAsg_new (fun Q q => lc2_read hsl hsl1 hO hO1 q) hO' (fun _ _ _ => ix_lt hl hy) h
end
end TL

set_option Elab.async false
set_option linter.all false
set_option maxRecDepth 100000
namespace TL
open PySem PySem.Spec PyProof.Rows L2
def TK : Nat → Type
  | 0 => Int
  | k + 1 => List (TK k)
instance decTK : (k : Nat) → DecidableEq (TK k)
  | 0 => inferInstanceAs (DecidableEq Int)
  | k + 1 => have := decTK k; inferInstanceAs (DecidableEq (List (TK k)))
def orO {α : Type} : Option α → Option α → Option α
  | some a, _ => some a
  | none, b => b
def rdT (h : Heap) : (k : Nat) → Value → TK k
  | 0 => fun v => match v with | .int i _ => i | _ => (0 : Int)
  | k + 1 => fun v => match v with
    | .ref a => match h.get? a with
      | some o => match o.data with
        | .seq its _ => List.map (rdT h k) its.toList
        | _ => ([] : List (TK k))
      | none => ([] : List (TK k))
    | _ => ([] : List (TK k))
def IsTK (h : Heap) : Nat → Value → Prop
  | 0, v => ∃ i t, v = .int i t
  | k + 1, v => ∃ a its, v = .ref a ∧ h.IsTuple a its ∧ ∀ u ∈ its.toList, IsTK h k u
theorem rdT_tup {h : Heap} {k : Nat} {a : Addr} {its : Array Value} (ht : h.IsTuple a its) : rdT h (k + 1) (.ref a) = List.map (rdT h k) its.toList := by
  obtain ⟨o, h1, h2, n, h3⟩ := ht
  simp only [rdT, h1, h3]
  rfl
theorem IsTK.keeps {h h' : Heap} (kp : ∀ b o, h.get? b = some o → o.cls = .type "tuple" → h'.get? b = some o) : ∀ {k : Nat} {v : Value}, IsTK h k v → IsTK h' k v ∧ rdT h' k v = rdT h k v
  | 0, _, ⟨i, t, e⟩ => ⟨⟨i, t, e⟩, by rw [e]; rfl⟩
  | k + 1, _, ⟨a, its, e, ht, hu⟩ => by
    have ht' : h'.IsTuple a its := by
      obtain ⟨o, h1, h2, n, h3⟩ := ht
      exact ⟨o, kp _ _ h1 h2, h2, n, h3⟩
    subst e
    refine ⟨⟨a, its, rfl, ht', fun u m => (IsTK.keeps kp (hu u m)).1⟩, ?_⟩
    rw [rdT_tup ht, rdT_tup ht']
    exact List.map_congr_left fun u m => (IsTK.keeps kp (hu u m)).2
section
variable {X : Cx}
end
end TL

set_option Elab.async false
set_option linter.all false
set_option maxRecDepth 100000
namespace TL
open PySem PySem.Spec PyProof.Rows L2
section
variable {X : Cx}
end
end TL

set_option Elab.async false
set_option linter.all false
set_option maxRecDepth 100000
namespace TL
open PySem PySem.Spec PyProof.Rows L2
def isFn (x : Str) : D → Bool
  | .dict [(.str y, .none)] => decide (y = x)
  | _ => false
@[simp] def eCallL (x : Str) (m : List D → Option D) (i : Nat) (l : List SE) : SE := fun env => (env.getD i none).bind fun d => if isFn x d = true then (eArgs l env).bind m else none
@[simp] def eAlt (a b : SE) : SE := fun env => orO (a env) (b env)
section
variable {X : Cx} {O : List Nat} {e : Expr} {es : List Expr} {l : List SE} {p pos : Pos} {x y : Str} {k n : Nat} {fa : Addr} {fd : FuncData} {ps : List Str} {m : List D → Option D}
end
end TL

set_option Elab.async false
set_option linter.all false
set_option maxRecDepth 100000
namespace TL
open PySem PySem.Spec PyProof.Rows L2
structure KDat (P : Program) (w : World) (G : Gx) (F H : Hp) (r : Addr) (xs : List KEnt) : Prop where
  ns : (r == sysModules) = false
  at_ : Rd H r (rawO P w r xs)
  nd : (xs.map (·.1)).Nodup
  ln : xs.length < sizeLine
  ks : ∀ x ∈ xs, ∃ kd, keyD kd = some x.1 ∧ x.1.depth ≤ 8 ∧ Rp G F (.ref x.2.1) kd
section
variable {X : Cx} {pins : List (Addr × Obj)} {σ : L2.St} {F H : Hp} {s : Shared}
mutual
theorem Rp.nested (I : Inv X pins σ H s) (sm : Same F H) : ∀ {d : D} {v : V} {k : NestedKey} {u : Value}, Rp (gx X) F v d → keyD d = some k → RelV v u → NestedIs s.heap k u
  | _, _, _, _, .non, e, r => by
    cases r
    cases Option.some.inj e
    exact .none
  | _, _, _, _, .bl b, e, r => by
    cases r
    cases Option.some.inj e
    exact .bool rfl
  | _, _, _, _, .int i, e, r => by
    obtain ⟨t, rfl⟩ := r
    cases Option.some.inj e
    exact .int _ _
  | _, _, _, _, .str x, e, r => by
    obtain ⟨t, rfl⟩ := r
    cases Option.some.inj e
    exact .text _ _
  | _, _, _, _, .lst _ _, e, _ => by cases e
  | _, _, _, _, .tup h a, e, r => by
    cases r
    simp only [keyD] at e
    obtain ⟨ks, h1, rfl⟩ := Option.map_eq_some_iff.mp e
    obtain ⟨its, hv, ⟨o, ho, hc, n, hd⟩, _⟩ := I.tuple (sameT sm h.t)
    exact .tup ho hc hd (by simpa using RpAll.nested I sm a h1 hv)
  | _, _, _, _, .fn _, e, _ => by cases e
  | _, _, _, _, .pl _ _ _, e, _ => by cases e
  | _, _, _, _, .rng _, e, _ => by cases e
  | _, _, _, _, .dct _ _ _, e, _ => by simp [kD, keyD] at e
  | _, _, _, _, .dki _ _ _, e, _ => by simp [kD, keyD] at e
theorem RpAll.nested (I : Inv X pins σ H s) (sm : Same F H) : ∀ {ds : List D} {vs : List V} {ks : List NestedKey} {us : List Value}, RpAll (gx X) F vs ds → keyAll ds = some ks → Vals vs us → NestedAll s.heap ks us
  | _, _, _, _, .nil, e, r => by
    cases r
    cases Option.some.inj e
    exact .nil
  | _, _, _, _, .cons h a, e, r => by
    simp only [keyAll] at e
    obtain ⟨k, h1, e⟩ := Option.bind_eq_some_iff.mp e
    obtain ⟨ks, h2, rfl⟩ := Option.map_eq_some_iff.mp e
    cases r with
    | cons r1 r2 => exact .cons (Rp.nested I sm h h1 r1) (RpAll.nested I sm a h2 r2)
end
theorem paired_mem {α β : Type} {G : α → β → Prop} : ∀ {l₁ : List α} {l₂ : List β}, Paired G l₁ l₂ → ∀ b ∈ l₂, ∃ a ∈ l₁, G a b
  | _, _, .nil, _, h => by cases h
  | _, _, .cons r t, b, h => by
    rcases List.mem_cons.mp h with rfl | h
    · exact ⟨_, List.mem_cons_self, r⟩
    · obtain ⟨a, h1, h2⟩ := paired_mem t b h
      exact ⟨a, List.mem_cons_of_mem _ h1, h2⟩
theorem krel_keys : ∀ {xs : List KEnt} {us : List KEnt'}, Paired KRel xs us → xs.map (·.1) = us.map (·.1)
  | _, _, .nil => rfl
  | _, _, .cons r t => by rw [List.map_cons, List.map_cons, krel_keys t, r.1]
theorem krel_at {k : NestedKey} : ∀ {xs : List KEnt} {us : List KEnt'}, Paired KRel xs us → (atV xs k = none ∧ atKey us k = none) ∨ ∃ v p, atV xs k = some v ∧ atKey us k = some p ∧ RelV v p.2
  | _, _, .nil => .inl ⟨rfl, rfl⟩
  | x :: xs, u :: us, .cons r t => by
    have r1 := r.1
    by_cases h : x.1 = k
    · refine .inr ⟨x.2.2, u.2, ?_, ?_, r.2.2⟩
      · simp [atV, List.find?_cons, h]
      · simp [atKey, List.find?_cons, ← r1, h]
    · have e1 : atV (x :: xs) k = atV xs k := by simp [atV, List.find?_cons, h]
      have e2 : atKey (u :: us) k = atKey us k := by simp [atKey, List.find?_cons, ← r1, h]
      rw [e1, e2]
      exact krel_at t
theorem krel_map {k : NestedKey} {v : V} {w : Value} (rv : RelV v w) : ∀ {xs : List KEnt} {us : List KEnt'}, Paired KRel xs us → Paired KRel (xs.map fun x => if x.1 = k then (x.1, x.2.1, v) else x) (us.map (putAt k w))
  | _, _, .nil => .nil
  | x :: xs, u :: us, .cons r t => by
    refine .cons ?_ (krel_map rv t)
    show KRel (if x.1 = k then (x.1, x.2.1, v) else x) (putAt k w u)
    unfold putAt
    by_cases h : x.1 = k
    · rw [if_pos h, if_pos (by rw [← r.1]; exact h)]
      exact ⟨r.1, r.2.1, rv⟩
    · rw [if_neg h, if_neg (by rw [← r.1]; exact h)]
      exact r
theorem krel_put {k : NestedKey} {b : Addr} {v : V} {w : Value} (rv : RelV v w) {xs : List KEnt} {us : List KEnt'} (t : Paired KRel xs us) : Paired KRel (putR xs k b v) (storedH us k b w) := by
  rcases krel_at (k := k) t with ⟨h1, h2⟩ | ⟨u, p, h1, h2, h3⟩
  · rw [storedH_new h2]
    unfold putR
    rw [h1]
    exact t.snoc ⟨rfl, rfl, rv⟩
  · rw [storedH_old h2]
    unfold putR
    rw [h1]
    exact krel_map rv t
theorem putR_mem {xs : List KEnt} {k : NestedKey} {b : Addr} {v : V} {x : KEnt} (h : x ∈ putR xs k b v) : x = (k, b, v) ∨ x ∈ xs ∨ ∃ y ∈ xs, y.1 = k ∧ x = (y.1, y.2.1, v) := by
  unfold putR at h
  split at h
  · obtain ⟨y, hy, e⟩ := List.mem_map.mp h
    by_cases hk : y.1 = k
    · rw [if_pos hk] at e
      exact .inr (.inr ⟨y, hy, hk, e.symm⟩)
    · rw [if_neg hk] at e
      exact .inr (.inl (e ▸ hy))
  · rcases List.mem_append.mp h with h | h
    · exact .inr (.inl h)
    · exact .inl (List.mem_singleton.mp h)
theorem atV_none {xs : List KEnt} {k : NestedKey} (h : atV xs k = none) : k ∉ xs.map (·.1) := by
  intro hm
  obtain ⟨x, hx, e⟩ := List.mem_map.mp hm
  unfold atV at h
  rw [Option.map_eq_none_iff, List.find?_eq_none] at h
  exact h x hx (by simpa using e)
theorem atV_some {xs : List KEnt} {k : NestedKey} {v : V} (h : atV xs k = some v) : ∃ x ∈ xs, x.1 = k ∧ x.2.2 = v := by
  unfold atV at h
  obtain ⟨x, hx, e⟩ := Option.map_eq_some_iff.mp h
  have := List.find?_some hx
  exact ⟨x, List.mem_of_find?_eq_some hx, by simpa using this, e⟩
theorem putR_nd {xs : List KEnt} {k : NestedKey} {b : Addr} {v : V} (h : (xs.map (·.1)).Nodup) : ((putR xs k b v).map (·.1)).Nodup := by
  unfold putR
  split
  · have e : (xs.map fun x => if x.1 = k then (x.1, x.2.1, v) else x).map (·.1) = xs.map (·.1) := by
      rw [List.map_map]
      refine List.map_congr_left fun x _ => ?_
      show (if x.1 = k then (x.1, x.2.1, v) else x).1 = x.1
      split <;> rfl
    rw [e]
    exact h
  · rename_i hn
    have hn : atV xs k = none := by
      cases e : atV xs k with
      | none => rfl
      | some _ => rw [e] at hn; exact absurd rfl hn
    rw [List.map_append]
    refine List.nodup_append.mpr ⟨h, by simp, fun a ha b' hb e => ?_⟩
    rw [List.map_singleton, List.mem_singleton] at hb
    exact atV_none hn (by have hb : b' = k := hb; rw [← hb, ← e]; exact ha)
theorem KDat.heap {r : Addr} {xs : List KEnt} (d : KDat X.prog X.w (gx X) F H r xs) (I : Inv X pins σ H s) (sm : Same F H) : ∃ us, Paired KRel xs us ∧ s.heap.DictOfH (nestedKind X.prog X.w) r us := by
  obtain ⟨⟨o, es, ep, us, h1, h2, h3, h4, h5⟩, _⟩ := (show ObjOk X.prog X.w H s.heap r (rawO X.prog X.w r xs) from d.at_.ok I.hok)
  refine ⟨us, h5, o, es, ep, h1, h2, h3, h4, fun u hu => ?_, by rw [← krel_keys h5]; exact d.nd⟩
  obtain ⟨x, hx, e1, e2, _⟩ := paired_mem h5 u hu
  obtain ⟨kd, k1, k2, k3⟩ := d.ks x hx
  rw [← e1, ← e2]
  exact ⟨k3.nested I sm k1 rfl, k2⟩
theorem rawO_ok {H' : Hp} {h' : Heap} {r : Addr} {xs : List KEnt} {o : Obj} {es : Array DictEntry} {ep : Nat} {us : List KEnt'} (h1 : h'.get? r = some o) (h2 : o.ExactDict) (h3 : o.data = .dict es ep) (h4 : es.toList = us.map (entryOfKey (nestedKind X.prog X.w))) (h5 : Paired KRel xs us) :
    ObjOk X.prog X.w H' h' r (rawO X.prog X.w r xs) :=
  ⟨⟨o, es, ep, us, h1, h2, h3, h4, h5⟩, ⟨o, h1⟩, fun _ _ ⟨o, es, ep, us, q1, q⟩ z => ⟨o, es, ep, us, z o q1, q⟩⟩
structure IsK (G : Gx) (F : Hp) (y : V) (kd : D) (k : NestedKey) : Prop where
  ref : ∃ b, y = .ref b
  rp : Rp G F y kd
  ke : keyD kd = some k
  dp : k.depth ≤ 8
def rNotInK (X : Cx) : R2 := fun y x H Q => ∃ F r xs kd k, x = .ref r ∧ Same F H ∧ KDat X.prog X.w (gx X) F H r xs ∧ IsK (gx X) F y kd k ∧ Q (.bl (!(atV xs k).isSome)) H
def rIxK (X : Cx) : R2 := fun x y H Q => ∃ F r xs kd k v, x = .ref r ∧ Same F H ∧ KDat X.prog X.w (gx X) F H r xs ∧ IsK (gx X) F y kd k ∧ atV xs k = some v ∧ Q v H
def rSetK (X : Cx) : V → V → V → Hp → (Hp → Prop) → Prop := fun x y v H Q => ∃ F r xs kd k b, x = .ref r ∧ Same F H ∧ KDat X.prog X.w (gx X) F H r xs ∧ H r = some (rawO X.prog X.w r xs) ∧ y = .ref b ∧ IsK (gx X) F y kd k ∧ Q (upd H r (rawO X.prog X.w r (putR xs k b v)))
theorem room_k (hu : X.A.units + 64 < cLine) : (nestedKind X.prog X.w).room X.A.in1 := by
  show X.A.units + 1 + 8 < cLine
  omega
theorem o_ninK (hu : X.A.units + 64 < cLine) : OpR X (compareOp .NotIn) (rNotInK X) := by
  intro pins s σ H y x u v Q I ry rx ⟨F, r, xs, kd, k, e, sm, d, ik, q⟩
  subst e
  cases rx
  obtain ⟨b, rfl⟩ := ik.ref
  cases ry
  obtain ⟨us, rel, dd⟩ := d.heap I sm
  refine wpAny_notIn_heap (room_k hu) ⟨ik.rp.nested I sm ik.ke rfl, ik.dp⟩ d.ns dd ?_
  refine ⟨_, H, I.tok _, ?_, q⟩
  rcases krel_at (k := k) rel with ⟨h1, h2⟩ | ⟨v, p, h1, h2, h3⟩ <;> rw [h1, h2] <;> rfl
theorem ix_K (hu : X.A.units + 64 < cLine) : IxR X (rIxK X) := by
  intro value slice pins s σ H x y v u Q I rx ry ⟨F, r, xs, kd, k, z, e, sm, d, ik, hz, q⟩ hs
  subst e
  cases rx
  obtain ⟨b, rfl⟩ := ik.ref
  cases ry
  obtain ⟨us, rel, dd⟩ := d.heap I sm
  rcases krel_at (k := k) rel with ⟨h1, h2⟩ | ⟨v', p, h1, h2, h3⟩
  · rw [h1] at hz
    cases hz
  · rw [h1] at hz
    cases hz
    exact subscriptTail_builtinR (x := p.2) dd.typeIs PySem.F.slot_dict_getitem.lookup
      (wpAny_getItem_heap (Q := fun w' s' => w' = p.2 ∧ EP X pins σ Q w' s') (room_k hu) ⟨ik.rp.nested I sm ik.ke rfl, ik.dp⟩ dd h2 ⟨rfl, z, H, I.tok _, h3, q⟩) hs
theorem set_K (hu : X.A.units + 64 < cLine) : PSet X (rSetK X) := by
  intro pins s σ H x y v ov iv u Q I rx ry rv ⟨F, r, xs, kd, k, b, e, sm, d, hat, e2, ik, q⟩
  subst e
  cases rx
  subst e2
  cases ry
  obtain ⟨us, rel, dd⟩ := d.heap I sm
  have hz : us.length ≤ sizeLine := by rw [← Paired.length rel]; exact Nat.le_of_lt d.ln
  refine wpAny_setItem_heap (hsz := hz) (room_k hu) ⟨ik.rp.nested I sm ik.ke rfl, ik.dp⟩ dd fun h' dd' hs => ?_
  obtain ⟨o, es, ep, h1, h2, h3, h4, _, h5⟩ := dd'
  exact ⟨_, d_write I (by rw [hat]; exact True.intro) hs ⟨o, h1⟩ (rawO_ok h1 h2 h3 h4 (krel_put rv rel)), q⟩
def tDNewR (X : Cx) : TE := fun _ H Q => ∀ p : Addr, (p == sysModules) = false → H p = none → Q (.ref p) (upd H p (rawO X.prog X.w p []))
theorem pe_dnewR {pos : Pos} : PE X (.Dict [] [] pos) (tDNewR X) := ⟨fun pins s σ H Q I h =>
  wpAny_Dict_empty ⟨.ref s.heap.objs.size, _, I.laid (a := s.heap.objs.size) (o := rawO X.prog X.w s.heap.objs.size []) (t' := s.toks) (fun _ _ q => Heap.get?_push_of_some _ q) (Nat.le_refl _)
    (rawO_ok (us := []) (Heap.get?_push_size _ rfl) ⟨rfl, rfl, rfl⟩ rfl rfl .nil), rfl, h _ (beq_eq_false_iff_ne.mpr (Ne.symm (Nat.ne_of_lt I.big))) (I.hok.fresh (Nat.le_refl _))⟩⟩
end
end TL

set_option Elab.async false
set_option linter.all false
set_option maxRecDepth 100000
namespace TL
open PySem PySem.Spec PyProof.Rows L2
structure MC where
  P : Program
  w : World
  G : Gx
  u : D → Bool
  sp : D → D → D → D
abbrev mc (X : Cx) (u : D → Bool) (sp : D → D → D → D) : MC := ⟨X.prog, X.w, gx X, u, sp⟩
structure Sl where
  i0 : Nat
  i1 : Nat
  i2 : Nat
structure UOk (u : D → Bool) : Prop where
  fin : ∃ L : List NestedKey, L.length < 16000000 ∧ ∀ kd, u kd = true → ∃ k ∈ L, keyD kd = some k ∧ k.depth ≤ 8
  inj : ∀ kd kd', u kd = true → u kd' = true → keyD kd = keyD kd' → kd = kd'
  tup : ∀ kd, u kd = true → ∃ ds, kd = .tuple ds
def Cel (U : MC) (F H : Hp) (r : Addr) (a b : D) : Prop := ∃ xs : List KEnt, (r == sysModules) = false ∧ H r = some (rawO U.P U.w r xs) ∧ (xs.map (·.1)).Nodup ∧
  ∀ x ∈ xs, ∃ kd, U.u kd = true ∧ keyD kd = some x.1 ∧ Rp U.G F (.ref x.2.1) kd ∧ Rp U.G F x.2.2 (U.sp a b kd)
structure MOk (U : MC) (S : Sl) (O : List Nat) (r : Addr) (a b : D) (F H : Hp) (σ : L2.St) (env : Env) : Prop where
  s : SOk U.G O F (hid r H) σ env
  fr : F r = none
  ce : Cel U F H r a b
  sg : σ[S.i0]? = some (some (.ref r))
  e1 : env.getD S.i1 none = some a
  e2 : env.getD S.i2 none = some b
structure MGr (U : MC) (r : Addr) (a b : D) (F H F' H' : Hp) : Prop where
  g : Gr F (hid r H) F' (hid r H')
  fr : F' r = none
  ce : Cel U F' H' r a b
theorem nodup_leM {α : Type} [DecidableEq α] : ∀ {l m : List α}, l.Nodup → (∀ x ∈ l, x ∈ m) → l.length ≤ m.length
  | [], _, _, _ => Nat.zero_le _
  | x :: l, m, h, s => by
    rw [List.nodup_cons] at h
    have hx := s x List.mem_cons_self
    have := nodup_leM (m := m.erase x) h.2 fun y hy => (List.mem_erase_of_ne fun e => h.1 (by rw [← e]; exact hy)).mpr (s y (List.mem_cons_of_mem _ hy))
    rw [List.length_erase_of_mem hx] at this
    have : 0 < m.length := List.length_pos_of_mem hx
    rw [List.length_cons]
    omega
section
variable {U : MC} {S : Sl} {O O' : List Nat} {r : Addr} {a b : D} {F H F' H' F2 H2 : Hp} {σ : L2.St} {env : Env}
theorem Cel.nt (c : Cel U F H r a b) : ∀ ps, H r ≠ some (.tbl ps) := fun ps e => by
  obtain ⟨xs, _, h, _⟩ := c
  rw [e] at h
  cases h
theorem Cel.mono (c : Cel U F H r a b) (k : Same F F') (h : H' r = H r) : Cel U F' H' r a b := by
  obtain ⟨xs, h1, h2, h3, h4⟩ := c
  exact ⟨xs, h1, by rw [h]; exact h2, h3, fun x hx => let ⟨kd, q1, q2, q3, q4⟩ := h4 x hx; ⟨kd, q1, q2, q3.mono k, q4.mono k⟩⟩
theorem celx_dat {xs : List KEnt} (uk : UOk U.u) (h1 : (r == sysModules) = false) (h2 : H r = some (rawO U.P U.w r xs)) (h3 : (xs.map (·.1)).Nodup)
    (h4 : ∀ x ∈ xs, ∃ kd, U.u kd = true ∧ keyD kd = some x.1 ∧ Rp U.G F (.ref x.2.1) kd ∧ Rp U.G F x.2.2 (U.sp a b kd)) : KDat U.P U.w U.G F H r xs := by
  obtain ⟨L, hL, hk⟩ := uk.fin
  have key : ∀ x ∈ xs, x.1 ∈ L ∧ x.1.depth ≤ 8 := fun x hx => by
    obtain ⟨kd, q1, q2, _⟩ := h4 x hx
    obtain ⟨k, z1, z2, z3⟩ := hk kd q1
    rw [q2] at z2
    cases z2
    exact ⟨z1, z3⟩
  refine ⟨h1, .inl h2, h3, ?_, fun x hx => ?_⟩
  · have := nodup_leM h3 fun k hm => by
      obtain ⟨x, hx, e⟩ := List.mem_map.mp hm
      rw [← e]
      exact (key x hx).1
    rw [List.length_map] at this
    rw [sizeLine_eq]
    omega
  · obtain ⟨kd, q1, q2, q3, _⟩ := h4 x hx
    exact ⟨kd, q2, (key x hx).2, q3⟩
theorem Cel.dat (c : Cel U F H r a b) (uk : UOk U.u) : ∃ xs : List KEnt, KDat U.P U.w U.G F H r xs ∧ ∀ x ∈ xs, ∃ kd, U.u kd = true ∧ keyD kd = some x.1 ∧ Rp U.G F (.ref x.2.1) kd ∧ Rp U.G F x.2.2 (U.sp a b kd) := by
  obtain ⟨xs, h1, h2, h3, h4⟩ := c
  exact ⟨xs, celx_dat uk h1 h2 h3 h4, h4⟩
theorem TbOk.hid2 {G : Gx} (t : TbOk G F H) (hr : ∀ ps, H r ≠ some (.tbl ps)) : TbOk G F (hid r H) := fun x hx c P e =>
  let ⟨h1, ps, h2, h3⟩ := t x hx c P e
  ⟨h1, ps, by rw [hid_ne (fun z => hr ps (by rw [← z]; exact h2))]; exact h2, h3⟩
theorem MOk.sok (q : MOk U S O r a b F H σ env) : SOk U.G O F H σ env := ⟨q.s.fh.trans hid_le, q.s.len, q.s.imm, fun i hi => by
  obtain ⟨p, kk, vs, ds, h1, h2, h3, h4, h5, hK⟩ := q.s.own i hi
  exact ⟨p, kk, vs, ds, h1, h2, h3, hid_le _ _ h4, h5, hK⟩, q.s.dj, q.s.tb.unhid⟩
theorem MOk.gr (q : MOk U S O r a b F H σ env) (g : MGr U r a b F H F' H') : MOk U S O r a b F' H' σ env := ⟨q.s.gr g.g, g.fr, g.ce, q.sg, q.e1, q.e2⟩
theorem MGr.of (g : Gr F H F' H') (hf : F r = none) (ce : Cel U F H r a b) : MGr U r a b F H F' H' := by
  obtain ⟨xs, h1, h2, h3, h4⟩ := id ce
  have fr : F' r = none := g.hid r _ h2 hf
  have hr : H' r = H r := by rw [g.hh.nn r _ h2 rfl, h2]
  refine ⟨⟨g.ff, g.hh.hid_, fun c o e => ?_, fun p o e n => ?_⟩, fr, ce.mono g.ff hr⟩
  · have n : c ≠ r := fun z => by rw [z, fr] at e; cases e
    rw [hid_ne n]
    exact g.fh c o e
  · obtain ⟨_, e⟩ := hid_some e
    exact g.hid p o e n
theorem MGr.trans (x : MGr U r a b F H F' H') (y : MGr U r a b F' H' F2 H2) : MGr U r a b F H F2 H2 := ⟨x.g.trans y.g, y.fr, y.ce⟩
theorem MGr.fh (x : MGr U r a b F H F' H') : Same F' H' := x.g.fh.trans hid_le
theorem MGr.ff (x : MGr U r a b F H F' H') : Same F F' := x.g.ff
theorem MOk.of (q : MOk U S O r a b F H σ env) (g : Gr F H F' H') : MGr U r a b F H F' H' := .of g q.fr q.ce
theorem MOk.refl (q : MOk U S O r a b F H σ env) : MGr U r a b F H F H := q.of (Gr.refl q.sok.fh)
theorem MOk.ne (ok : MOk U S O r a b F H σ env) : ∀ i ∈ O, ∀ p, σ[i]? = some (some (.ref p)) → p ≠ r := fun i hi p hp => by
  obtain ⟨p', kk, vs, ds, h1, h2, h3, h4, h5, hK⟩ := ok.s.own i hi
  rw [hp] at h1
  cases h1
  exact (hid_some h4).1
theorem SOk.rehid2 {G : Gx} (s : SOk G O F H σ env) (hf : F r = none) (hr : ∀ ps, H r ≠ some (.tbl ps)) (hn : ∀ i ∈ O, ∀ p, σ[i]? = some (some (.ref p)) → p ≠ r) : SOk G O F (hid r H) σ env :=
  ⟨fun b o e => by rw [hid_ne (fun z => by rw [z, hf] at e; cases e)]; exact s.fh b o e, s.len, s.imm, fun i hi => by
    obtain ⟨p, kk, vs, ds, h1, h2, h3, h4, h5, hK⟩ := s.own i hi
    exact ⟨p, kk, vs, ds, h1, h2, h3, by rw [hid_ne (hn i hi p h1)]; exact h4, h5, hK⟩, s.dj, s.tb.hid2 hr⟩
end
def mV (U : MC) (S : Sl) (O : List Nat) (f : SE) : TE := fun σ H Q => ∃ F env r a b d, MOk U S O r a b F H σ env ∧ f env = some d ∧ ∀ v F' H', MGr U r a b F H F' H' → Rp U.G F' v d → Q v H'
def mT (U : MC) (S : Sl) (O : List Nat) (f : ST) : TT := fun σ H Q => ∃ F env r a b d, MOk U S O r a b F H σ env ∧ f env = some d ∧ ∀ F' H', MGr U r a b F H F' H' → Q d H'
def mA (U : MC) (S : Sl) (O : List Nat) (f : SI) : TA := fun σ H Q => ∃ F env r a b ds, MOk U S O r a b F H σ env ∧ f env = some ds ∧ ∀ vs F' H', MGr U r a b F H F' H' → RpAll U.G F' vs ds → Q vs H'
section
variable {X : Cx} {u : D → Bool} {sp : D → D → D → D} {S : Sl} {O : List Nat} {a b e k : Expr} {es rest : List Expr} {fa fb : SE} {ta tb : ST} {l : List SE} {pos p2 : Pos} {g : D → D → Option D}
theorem mlift {f : SE} (h : PE X e (rV (gx X) O f)) : PE X e (mV (mc X u sp) S O f) := h.imp fun σ H Q ⟨F, env, r, a, b, d, ok, hf, q⟩ =>
  ⟨F, env, d, ok.sok, hf, fun v F' H' g r => q v F' H' (ok.of g) r⟩
theorem mliftT {f : ST} (h : PT X e (rT (gx X) O f)) : PT X e (mT (mc X u sp) S O f) := h.imp fun σ H Q ⟨F, env, r, a, b, d, ok, hf, q⟩ =>
  ⟨F, env, d, ok.sok, hf, fun F' H' g => q F' H' (ok.of g)⟩
theorem mtvSplit {f : SE} {env : Env} {k : Bool} (h : tV f env = some k) : f env = some (.bool k) := by
  simp only [tV] at h
  obtain ⟨x, h1, h⟩ := bind_some h
  rw [h1, toB_some h]
theorem mtv (h : PE X a (mV (mc X u sp) S O fa)) (he : ∀ whole, isTrue a X.env whole = (do let v ← whole; standAt a.pos; holding [v] (truthy v)) := by intro _; rfl) : PT X a (mT (mc X u sp) S O (tV fa)) :=
  (pt_val h he).imp fun σ H Q ⟨F, env, r, a, b, d, ok, hf, q⟩ => ⟨F, env, r, a, b, .bool d, ok, mtvSplit hf, fun v F' H' g' r => by
    cases r
    exact ⟨d, rfl, q F' H' g'⟩⟩
theorem mone {op} (h : PE X a (mV (mc X u sp) S O fa)) : PE X (.BoolOp op [a] pos) (mV (mc X u sp) S O fa) := pe_one h
theorem mand (ha : PE X a (mV (mc X u sp) S O fa)) (hb : PE X (.BoolOp .And (b :: rest) pos) (mV (mc X u sp) S O fb)) : PE X (.BoolOp .And (a :: b :: rest) pos) (mV (mc X u sp) S O (eAnd fa fb)) :=
  (pe_and ha hb).imp fun σ H Q ⟨F, env, r, a, b, d, ok, hf, q⟩ => by
    simp only [eAnd] at hf
    obtain ⟨x, h1, hf⟩ := bind_some hf
    obtain ⟨k, h4, hk⟩ := bind_some hf
    have e4 := toB_some h4
    subst e4
    refine ⟨F, env, r, a, b, _, ok, h1, fun v F1 H1 g1 r1 => ?_⟩
    cases r1
    refine ⟨k, rfl, ?_⟩
    cases k with
    | true => exact ⟨F1, env, r, a, b, d, ok.gr g1, hk, fun v F2 H2 g2 r2 => q v F2 H2 (g1.trans g2) r2⟩
    | false =>
      cases hk
      exact q _ F1 H1 g1 (.bl false)
theorem mtone1 (h : PT X a (mT (mc X u sp) S O ta)) : PW X (.BoolOp .And [a] pos) (mT (mc X u sp) S O ta) := pw_and1 h
theorem mtand (ha : PT X a (mT (mc X u sp) S O ta)) (hb : PW X (.BoolOp .And (b :: rest) pos) (mT (mc X u sp) S O tb)) : PW X (.BoolOp .And (a :: b :: rest) pos) (mT (mc X u sp) S O (TL.tAnd ta tb)) :=
  (pw_and ha hb).imp fun σ H Q ⟨F, env, r, a, b, d, ok, hf, q⟩ => by
    simp only [TL.tAnd] at hf
    obtain ⟨k, h1, hf⟩ := bind_some hf
    refine ⟨F, env, r, a, b, k, ok, h1, fun F1 H1 g1 => ?_⟩
    cases k with
    | true => exact ⟨F1, env, r, a, b, d, ok.gr g1, hf, fun F2 H2 g2 => q F2 H2 (g1.trans g2)⟩
    | false =>
      cases hf
      exact q F1 H1 g1
theorem mtw (h : PW X a (mT (mc X u sp) S O ta)) : PT X a (mT (mc X u sp) S O ta) := h.pt
theorem man : PA X [] (mA (mc X u sp) S O (eArgs [])) := pa_nil.imp fun σ H Q ⟨F, env, r, a, b, ds, ok, hf, q⟩ => by
  cases hf
  exact q [] F H ok.refl .nil
theorem mac (ha : PE X e (mV (mc X u sp) S O fa)) (hr : PA X es (mA (mc X u sp) S O (eArgs l))) (hs : starEach (e :: es) X.env = (false, eval e X.env) :: starEach es X.env := by rfl) : PA X (e :: es) (mA (mc X u sp) S O (eArgs (fa :: l))) :=
  (pa_cons ha hr hs).imp fun σ H Q ⟨F, env, r, a, b, ds, ok, hf, q⟩ => by
    simp only [eArgs] at hf
    obtain ⟨x, h1, hf⟩ := bind_some hf
    obtain ⟨xs, h2, hf⟩ := map_some hf
    cases hf
    exact ⟨F, env, r, a, b, x, ok, h1, fun v F1 H1 g1 r1 => ⟨F1, env, r, a, b, xs, ok.gr g1, h2, fun vs F2 H2 g2 r2 => q (v :: vs) F2 H2 (g1.trans g2) (.cons (r1.mono g2.ff) r2)⟩⟩
end
def spM (U : MC) (n j c1 c2 : Nat) (m : List D → Option D) : Sp := fun vs H Q _ => ∃ F r us ds a b d, vs = us.take j ++ .ref r :: us.drop j ∧ Fz U.G F (hid r H) ∧ F r = none ∧ Cel U F H r a b ∧ RpAll U.G F us ds ∧ ds.length = n ∧
  ds[c1]? = some a ∧ ds[c2]? = some b ∧ m ds = some d ∧ ∀ v F' H', MGr U r a b F H F' H' → Rp U.G F' v d → Q v H'
def mAK (U : MC) (S : Sl) (O : List Nat) (j : Nat) (f : SI) : TA := fun σ H Q => ∃ F env r a b ds, MOk U S O r a b F H σ env ∧ f env = some ds ∧ ∀ us F' H', MGr U r a b F H F' H' → RpAll U.G F' us ds → Q (us.take j ++ .ref r :: us.drop j) H'
section
variable {X : Cx} {u : D → Bool} {sp : D → D → D → D} {S : Sl} {O : List Nat} {e : Expr} {es : List Expr} {l : List SE} {p pos : Pos} {x : Str} {k n j c1 c2 : Nat} {fa : Addr} {fd : FuncData} {ps : List Str} {a : SE}
theorem mk_here (hr : PA X es (mA (mc X u sp) S O (eArgs l))) (hN : X.N[S.i0]? = some x := by rfl) (hv : Vis X.env.scope x := by first | exact Or.inl rfl | exact Or.inr (Or.inl rfl) | exact Or.inr (Or.inr rfl)) (hd : (x == ("__debug__" : Str)) = false := by decide)
    (hcd : (x == ("__classdict__" : Str)) = false := by decide) (hs : starEach (.Name x p :: es) X.env = (false, eval (.Name x p) X.env) :: starEach es X.env := by rfl) : PA X (.Name x p :: es) (mAK (mc X u sp) S O 0 (eArgs l)) :=
  (pa_cons (pe_var hN hv hd hcd) hr hs).imp fun σ H Q ⟨F, env, r, a, b, ds, ok, hf, q⟩ =>
    ⟨_, ok.sg, F, env, r, a, b, ds, ok, hf, fun vs F' H' g r1 => q vs F' H' g r1⟩
theorem mk_cons (ha : PE X e (mV (mc X u sp) S O a)) (hr : PA X es (mAK (mc X u sp) S O j (eArgs l))) (hs : starEach (e :: es) X.env = (false, eval e X.env) :: starEach es X.env := by rfl) : PA X (e :: es) (mAK (mc X u sp) S O (j + 1) (eArgs (a :: l))) :=
  (pa_cons ha hr hs).imp fun σ H Q ⟨F, env, r, a, b, ds, ok, hf, q⟩ => by
    simp only [eArgs] at hf
    obtain ⟨x, h1, hf⟩ := bind_some hf
    obtain ⟨xs, h2, hf⟩ := map_some hf
    subst hf
    exact ⟨F, env, r, a, b, x, ok, h1, fun v F1 H1 g1 r1 => ⟨F1, env, r, a, b, xs, ok.gr g1, h2, fun us F2 H2 g2 r2 => q (v :: us) F2 H2 (g1.trans g2) (.cons (r1.mono g2.ff) r2)⟩⟩
theorem eArgs_at {env : Env} : ∀ {l : List SE} {ds : List D} {c i : Nat}, eArgs l env = some ds → l[c]? = some (eVar i) → ds[c]? = env.getD i none
  | a :: l, ds, 0, i, h, e => by
    cases Option.some.inj e
    simp only [eArgs] at h
    obtain ⟨x, h1, h⟩ := bind_some h
    obtain ⟨xs, h2, h⟩ := map_some h
    subst h
    exact h1.symm
  | a :: l, ds, c + 1, i, h, e => by
    simp only [eArgs] at h
    obtain ⟨x, h1, h⟩ := bind_some h
    obtain ⟨xs, h2, h⟩ := map_some h
    subst h
    exact eArgs_at (c := c) h2 e
  | [], _, 0, _, _, e => by cases e
  | [], _, _ + 1, _, _, e => by cases e
theorem mcall {m : List D → Option D} (F : FnOk X.prog X.w (gx X).K (gx X).mg X.base CX0 k fa fd ps (spM (mc X u sp) n j c1 c2 m)) (hr : Room k X.A) (hg : Gl X x) (hm : X.mg x = some (.ref fa)) (hk : PySem.W.keepIn X.K (.ref fa) = true) (hb : Binds X.K fd ps [])
    (ha : PA X (e :: es) (mAK (mc X u sp) S O j (eArgs l))) (hn : l.length = n := by rfl) (hc1 : l[c1]? = some (eVar S.i1) := by rfl) (hc2 : l[c2]? = some (eVar S.i2) := by rfl) (hdb : (x == ("__debug__" : Str)) = false := by decide) (he : starEach (e :: es) X.env = (false, eval e X.env) :: starEach es X.env := by rfl) (hpl : (backTo pos (starEach es X.env)).any (·.1) = false := by rfl) :
    PE X (.Call (.Name x p) (e :: es) [] pos) (mV (mc X u sp) S O (eCall m l)) :=
  (pe_call F hr hg hm hk hb .nil pass0 ha hdb he hpl).imp fun σ H Q ⟨F, env, r, a, b, d, ok, hf, q⟩ => by
    simp only [eCall] at hf
    obtain ⟨ds, h1, hf⟩ := bind_some hf
    refine ⟨F, env, r, a, b, ds, ok, h1, fun us F1 H1 g1 r1 => ?_⟩
    show spM (mc X u sp) n j c1 c2 m ((us.take j ++ .ref r :: us.drop j) ++ []) H1 Q E0
    rw [List.append_nil]
    exact ⟨F1, r, us, ds, a, b, d, rfl, (ok.gr g1).s.fz, g1.fr, g1.ce, r1, (eArgs_len l ds h1).trans hn, (eArgs_at h1 hc1).trans ok.e1, (eArgs_at h1 hc2).trans ok.e2, hf, fun v F2 H2 g2 r2 => q v F2 H2 (g1.trans g2) r2⟩
end
def aK (X : Cx) (G : Gx) (O : List Nat) (f : SI) : TA := fun σ H Q => ∃ F env ds, SOk G O F H σ env ∧ f env = some ds ∧
  ∀ us p F' H', Gr F H F' H' → (p == sysModules) = false → H' p = none → RpAll G F' us ds → Q (us ++ [.ref p]) (upd H' p (rawO X.prog X.w p []))
section
variable {X : Cx} {u : D → Bool} {sp : D → D → D → D} {O : List Nat} {e : Expr} {es : List Expr} {l : List SE} {p pos : Pos} {x : Str} {k n c1 c2 : Nat} {fa : Addr} {fd : FuncData} {ps : List Str} {a : SE}
theorem ak_end (hs : starEach [.Dict [] [] p] X.env = (false, eval (.Dict [] [] p) X.env) :: starEach [] X.env := by rfl) : PA X [.Dict [] [] p] (aK X (gx X) O (eArgs [])) :=
  (pa_cons pe_dnewR pa_nil hs).imp fun σ H Q ⟨F, env, ds, hs, hf, q⟩ => by
    cases hf
    exact fun p hp hn => q [] p F H (Gr.refl hs.fh) hp hn .nil
theorem ak_cons (ha : PE X e (rV (gx X) O a)) (hr : PA X es (aK X (gx X) O (eArgs l))) (hs : starEach (e :: es) X.env = (false, eval e X.env) :: starEach es X.env := by rfl) : PA X (e :: es) (aK X (gx X) O (eArgs (a :: l))) :=
  (pa_cons ha hr hs).imp fun σ H Q ⟨F, env, ds, hs, hf, q⟩ => by
    simp only [eArgs] at hf
    obtain ⟨x, h1, hf⟩ := bind_some hf
    obtain ⟨xs, h2, hf⟩ := map_some hf
    subst hf
    exact ⟨F, env, x, hs, h1, fun v F1 H1 g1 r1 => ⟨F1, env, xs, hs.gr g1, h2, fun us p F2 H2 g2 e1 e2 r2 => q (v :: us) p F2 H2 (g1.trans g2) e1 e2 (.cons (r1.mono g2.ff) r2)⟩⟩
theorem hid_fresh {r : Addr} {H : Hp} {o : HO} (h : H r = none) : hid r (upd H r o) = H := by
  funext b
  by_cases hb : b = r
  · subst hb; rw [hid_r, h]
  · rw [hid_ne hb, upd_ne hb]
theorem cel_new {U : MC} {F H : Hp} {r : Addr} {a b : D} (h : (r == sysModules) = false) : Cel U F (upd H r (rawO U.P U.w r [])) r a b := ⟨[], h, upd_same, List.nodup_nil, fun x hx => by cases hx⟩
theorem mgr_out {U : MC} {r : Addr} {a b : D} {F H F' H' : Hp} {o : HO} (hn : H r = none) (g : MGr U r a b F (upd H r o) F' H') : Gr F H F' H' := by
  have g1 := g.g
  rw [hid_fresh hn] at g1
  exact ⟨g1.ff, g1.hh.trans (.of hid_le), g1.fh.trans hid_le, g1.hid⟩
theorem ecallM {m : List D → Option D} (F : FnOk X.prog X.w (gx X).K (gx X).mg X.base CX0 k fa fd ps (spM (mc X u sp) n n c1 c2 m)) (hr : Room k X.A) (hg : Gl X x) (hm : X.mg x = some (.ref fa)) (hk : PySem.W.keepIn X.K (.ref fa) = true) (hb : Binds X.K fd ps [])
    (ha : PA X (e :: es) (aK X (gx X) O (eArgs l))) (hn : l.length = n := by rfl) (h1 : c1 < n := by decide) (h2 : c2 < n := by decide) (hdb : (x == ("__debug__" : Str)) = false := by decide) (he : starEach (e :: es) X.env = (false, eval e X.env) :: starEach es X.env := by rfl) (hpl : (backTo pos (starEach es X.env)).any (·.1) = false := by rfl) :
    PE X (.Call (.Name x p) (e :: es) [] pos) (rV (gx X) O (eCall m l)) :=
  (pe_call F hr hg hm hk hb .nil pass0 ha hdb he hpl).imp fun σ H Q ⟨F, env, d, hs, hf, q⟩ => by
    simp only [eCall] at hf
    obtain ⟨ds, h3, hf⟩ := bind_some hf
    refine ⟨F, env, ds, hs, h3, fun us p F1 H1 g1 hp hnew r1 => ?_⟩
    show spM (mc X u sp) n n c1 c2 m ((us ++ [.ref p]) ++ []) _ Q E0
    rw [List.append_nil]
    have hl := (eArgs_len l ds h3).trans hn
    have hl2 := r1.length
    have hf1 : F1 p = none := Same.nn g1.fh hnew
    obtain ⟨a, ea⟩ : ∃ a, ds[c1]? = some a := ⟨_, List.getElem?_eq_getElem (by omega)⟩
    obtain ⟨b, eb⟩ : ∃ b, ds[c2]? = some b := ⟨_, List.getElem?_eq_getElem (by omega)⟩
    refine ⟨F1, p, us, ds, a, b, d, ?_, ?_, hf1, cel_new hp, r1, hl, ea, eb, hf, fun v F2 H2 g2 rv => q v F2 H2 (g1.trans (mgr_out hnew g2)) rv⟩
    · rw [List.take_of_length_le (by omega), List.drop_of_length_le (by omega)]
    · rw [hid_fresh hnew]
      exact (hs.gr g1).fz
end
end TL

set_option Elab.async false
set_option linter.all false
set_option maxRecDepth 100000
namespace TL
open PySem PySem.Spec PyProof.Rows L2
def agGo (cb : Bool) (g : SG) (e : SE) (env : Env) : List D → Option D
  | [] => some (.bool cb)
  | x :: xs => (g x env).bind fun env1 => (e env1).bind fun y => (toB y).bind fun b => if b = cb then agGo cb g e env xs else some (.bool (!cb))
@[simp] def eAg (cb : Bool) (vs : List Nat) (it : SI) (g : SG) (e : SE) : SE := fun env => (it env).bind fun ds => agGo cb g e (wipeE env vs) ds
theorem wipeE_out : ∀ {vs : List Nat} {env : Env} {i : Nat}, i ∉ vs → (wipeE env vs).getD i none = env.getD i none
  | [], _, _, _ => rfl
  | v :: vs, env, i, h => by
    simp only [wipeE]
    rw [List.getD_eq_getElem?_getD, List.getElem?_set_ne (fun z => h (by rw [z]; exact List.mem_cons_self)), ← List.getD_eq_getElem?_getD]
    exact wipeE_out fun z => h (List.mem_cons_of_mem _ z)
def SgKeep (g : SG) (sl : List Nat) : Prop := ∀ d env e, g d env = some e → ∀ i, i ∉ sl → e.getD i none = env.getD i none
theorem keep_name (i : Nat) : SgKeep (TL.gName i) [i] := fun d env e h j hj => by
  cases h
  rw [List.getD_eq_getElem?_getD, List.getElem?_set_ne (fun z => hj (by rw [z]; exact List.mem_singleton.mpr rfl)), ← List.getD_eq_getElem?_getD]
section
variable {X : Cx} {u : D → Bool} {sp : D → D → D → D} {S : Sl} {O : List Nat}
abbrev Sl.off (S : Sl) (vs : List Nat) : Prop := S.i0 ∉ vs ∧ S.i1 ∉ vs ∧ S.i2 ∉ vs
theorem mag_read {x : Str} {cc P : Addr} (hx : x ∈ tabNames) (ht : PySem.W.tabIn (gx X).K x = some (cc, P)) {cb : Bool} {fi : SI} {g : SG} {f : SE} {sl vs : List Nat} (hk : SgKeep g sl) (hsl : ∀ j ∈ sl, j ∈ vs) (hO : ∀ j ∈ vs, j ∉ O) (h0 : S.off vs) {σ : L2.St} {H : Hp} {Q : VK} (h : mV (mc X u sp) S O (eAg cb vs fi g f) σ H Q) :
    tAg P cb (iV (gx X) O fi) (tG (gx X) O sl g) (mV (mc X u sp) S O f) vs σ H Q := by
  obtain ⟨F, env, r, a, b, d, ok, hf, q⟩ := h
  simp only [eAg] at hf
  obtain ⟨ds, h1, hf⟩ := bind_some hf
  refine ⟨F, env, ds, ok.sok, h1, fun J F1 H1 g1 hz hJ => ⟨((ok.sok.gr g1).tb x hx cc P ht).2, fun H2 hT => ?_⟩⟩
  obtain ⟨⟨ps', e', t'⟩, hk2⟩ := hT
  obtain ⟨n1, ps, e1, t1⟩ := (ok.sok.gr g1).tb x hx cc P ht
  have gT : Gr F1 H1 F1 H2 := by
    refine ⟨Same.refl F1, ⟨fun b o e n => ?_, fun b qs e => ?_⟩, fun b o e => ?_, fun _ _ _ n => n⟩
    · rw [hk2 b fun z => by rw [z, e1] at e; cases e; cases n]; exact e
    · by_cases hb : b = P
      · subst hb; exact ⟨ps', e', fun _ => t'⟩
      · exact ⟨qs, by rw [hk2 b hb]; exact e, id⟩
    · rw [hk2 b fun z => by rw [z, n1] at e; cases e]; exact g1.fh b o e
  have w0 := ok.of (g1.trans gT)
  refine ⟨ds.length, fun i H' => ∃ F', MGr (mc X u sp) r a b F H F' H' ∧ Same F1 F' ∧ i ≤ ds.length ∧ agGo cb g f (wipeE env vs) (ds.drop i) = some d, ⟨F1, w0, Same.refl F1, Nat.zero_le _, hf⟩, ?_⟩
  rintro i H' ⟨F', gr, sm, hi, hgo⟩
  have hJ' := hJ i F' H' sm gr.fh
  have okw := ok.gr gr
  have s' := okw.sok.wipe hO
  cases hd : ds[i]? with
  | none =>
    have hi' : ds.length ≤ i := List.getElem?_eq_none_iff.mp hd
    rw [List.drop_eq_nil_of_le hi'] at hgo
    cases hgo
    exact .inl ⟨Nat.le_antisymm hi hi', hJ'.2 hd, q _ F' H' gr (.bl cb)⟩
  | some x =>
    have hi' : i < ds.length := (List.getElem?_eq_some_iff.mp hd).1
    have hx : ds[i] = x := (List.getElem?_eq_some_iff.mp hd).2
    have hdr : ds.drop i = x :: ds.drop (i + 1) := by rw [List.drop_eq_getElem_cons hi', hx]
    rw [hdr] at hgo
    simp only [agGo] at hgo
    obtain ⟨env1, hg1, hgo⟩ := bind_some hgo
    obtain ⟨y, he1, hgo⟩ := bind_some hgo
    obtain ⟨b', hb, hgo2⟩ := bind_some hgo
    have hb := toB_some hb
    subst hb
    clear hgo
    refine .inr ⟨hi', (hJ'.1 x hd).1, fun v H3 hy => ?_⟩
    obtain ⟨rfl, rv⟩ := (hJ'.1 x hd).2 v H3 hy
    refine ⟨F', _, x, env1, s', rv, hg1, fun σ2 s2 ln kp => ⟨(ext_wipe ln kp hsl).trans (wipe_idem vs σ), F', env1, r, a, b, .bool b', ⟨s2.rehid2 gr.fr gr.ce.nt fun j hj p hp => okw.ne j hj p ?_, gr.fr, gr.ce, ?_, ?_, ?_⟩, he1, fun w F4 H4 g4 r4 => ?_⟩⟩
    · rw [← wipe_out (σ := σ) (fun z => hO j z hj), ← kp j fun z => hO j (hsl j z) hj]
      exact hp
    · rw [kp S.i0 fun z => h0.1 (hsl _ z), wipe_out h0.1]
      exact ok.sg
    · rw [hk _ _ _ hg1 _ fun z => h0.2.1 (hsl _ z), wipeE_out h0.2.1]
      exact ok.e1
    · rw [hk _ _ _ hg1 _ fun z => h0.2.2 (hsl _ z), wipeE_out h0.2.2]
      exact ok.e2
    · cases r4
      refine ⟨b', rfl, ?_⟩
      split
      · rename_i hbc
        rw [if_pos hbc] at hgo2
        exact ⟨F4, gr.trans g4, sm.trans g4.ff, hi', hgo2⟩
      · rename_i hbc
        rw [if_neg hbc] at hgo2
        cases hgo2
        exact q _ F4 H4 (gr.trans g4) (.bl _)
theorem mall {x : Str} {cc P : Addr} {elt tg iter : Expr} {gpos p pos : Pos} {scope : Scope} {own : List (Str × Nat)} {fi : SI} {g : SG} {f : SE} {sl : List Nat} {k : Nat}
    (ht : PySem.W.tabIn (gx X).K x = some (cc, P)) (TB : GxR.TabB X.base X.mg cc P) (hcode : X.env.code = .ref cc) (hr : Room (k + 1) X.A) (hgl : Gl X "all") (hm : X.mg "all" = none) (hN : X.N.Nodup) (ok : GenOk X.N X.env.scope scope own) (hi : PI X tg iter (iV (gx X) O fi))
    (hg : ∀ (A : Around) (s : Shared) (H : Hp) (C : Addr) (code : Value) (fp : List Addr) (pn : List (Addr × Obj)), PG (gX X A s H (genEnv scope (cloFrom X.env.cells scope.names []) C code builtinsNs X.env) fp pn) tg (tG (gx X) O sl g))
    (he : ∀ (A : Around) (s : Shared) (H : Hp) (C : Addr) (code : Value) (fp : List Addr) (pn : List (Addr × Obj)), Room k A → PE (gX X A s H (genEnv scope (cloFrom X.env.cells scope.names []) C code builtinsNs X.env) fp pn) elt (mV (mc X u sp) S O f))
    (hk : SgKeep g sl) (hx : x ∈ tabNames := by decide) (hsl : ∀ j ∈ sl, j ∈ own.map (·.2) := by decide) (hO : ∀ j ∈ own.map (·.2), j ∉ O := by decide) (h0 : S.off (own.map (·.2)) := by decide) (hs : ∀ v, genFold iter X.env v = pure v := by intro _; rfl)
    (hst : starEach [.GeneratorExp elt [⟨tg, iter, [], 0⟩] scope gpos] X.env = (false, eval (.GeneratorExp elt [⟨tg, iter, [], 0⟩] scope gpos) X.env) :: starEach [] X.env := by rfl) :
    PE X (.Call (.Name "all" p) [.GeneratorExp elt [⟨tg, iter, [], 0⟩] scope gpos] [] pos) (mV (mc X u sp) S O (eAg true (own.map (·.2)) fi g f)) :=
  (pe_all hr hgl hm (by decide +kernel) TB hcode hN ok hi hg he hs hst).imp fun σ H Q h => mag_read hx ht hk hsl hO h0 h
theorem mpT {ifs : List Expr} {f : ST} (h : PTs X ifs (rT (gx X) O f)) : PTs X ifs (mT (mc X u sp) S O f) := h.imp fun σ H Q ⟨F, env, r, a, b, d, ok, hf, q⟩ =>
  ⟨F, env, d, ok.sok, hf, fun F' H' g => q F' H' (ok.of g)⟩
theorem mlc_read {fi : SI} {g : SG} {k : ST} {f : SE} {sl vs : List Nat} (hk : SgKeep g sl) (hsl : ∀ j ∈ sl, j ∈ vs) (hO : ∀ j ∈ vs, j ∉ O) (h0 : S.off vs) {σ : L2.St} {H : Hp} {Q : VK} (h : mV (mc X u sp) S O (eLc vs fi g k f) σ H Q) :
    tLc (iV (gx X) O fi) (tG (gx X) O sl g) (mT (mc X u sp) S O k) (mV (mc X u sp) S O f) vs σ H Q := by
    obtain ⟨F, env, r, a, b, d, ok, hf, q⟩ := h
    simp only [eLc] at hf
    obtain ⟨ds, h1, hf⟩ := bind_some hf
    obtain ⟨es, h2, h3⟩ := map_some hf
    cases h3
    refine ⟨F, env, ds, ok.sok, h1, fun J F1 H1 gq hz hJ D0 hD => ?_⟩
    have g1 := ok.of gq
    have ok1 := ok.gr g1
    have hDr : D0 ≠ r := fun z => by
      obtain ⟨xs, _, e, _⟩ := ok1.ce
      rw [← z, hD] at e
      cases e
    have hD' : hid r H1 D0 = none := by rw [hid_ne hDr]; exact hD
    have hD1 : F1 D0 = none := Same.nn g1.fh hD
    refine ⟨fun i m H' => ∃ F' acc accD rest, LcI (gx X) F1 (hid r H1) F' (hid r H') D0 acc accD ∧ F' r = none ∧ Cel (mc X u sp) F' H' r a b ∧ accD.length ≤ i ∧ i ≤ ds.length ∧ m = ds.length - i ∧ lcGo g k f (wipeE env vs) (ds.drop i) = some rest ∧ es = accD ++ rest,
      ⟨ds.length, F1, [], [], es, ⟨by rw [hid_upd hDr]; exact Gr.open_ ok1.s.fh hD', hD1, by rw [hid_ne hDr]; exact upd_same, .nil⟩, ok1.fr, ok1.ce.mono (Same.refl _) (upd_ne (fun z => hDr z.symm)), Nat.le_refl _, Nat.zero_le _, by omega, h2, rfl⟩, ?_⟩
    rintro i m H' ⟨F', acc, accD, rest, L, fr, hr, l1, l2, rfl, hgo, ees⟩
    have okw : MOk (mc X u sp) S O r a b F' H' (L2.wipe σ vs) (wipeE env vs) := ⟨(ok1.s.gr L.gr).wipe hO, fr, hr, by rw [wipe_out h0.1]; exact ok.sg, by rw [wipeE_out h0.2.1]; exact ok.e1, by rw [wipeE_out h0.2.2]; exact ok.e2⟩
    have hJ' := hJ i F' H' L.gr.ff okw.sok.fh
    cases hd : ds[i]? with
    | none =>
      have hi : ds.length ≤ i := List.getElem?_eq_none_iff.mp hd
      refine .inl ⟨hJ'.2 hd, ?_⟩
      rw [List.drop_eq_nil_of_le hi] at hgo
      cases hgo
      rw [List.append_nil] at ees
      subst ees
      have gc : Gr F1 (hid r H1) (upd F' D0 (.lst acc)) (hid r H') := L.gr.close hD' L.fr L.at_
      exact q (.ref D0) (upd F' D0 (.lst acc)) H' (g1.trans ⟨gc, by rw [upd_ne (fun z => hDr z.symm)]; exact fr, hr.mono (same_upd L.fr) rfl⟩) (.lst (.inl (.inl upd_same)) (L.rp.mono (same_upd L.fr)))
    | some x =>
      have hi : i < ds.length := (List.getElem?_eq_some_iff.mp hd).1
      have hx : ds[i] = x := (List.getElem?_eq_some_iff.mp hd).2
      have hdr : ds.drop i = x :: ds.drop (i + 1) := by rw [List.drop_eq_getElem_cons hi, hx]
      rw [hdr] at hgo
      simp only [lcGo] at hgo
      obtain ⟨env1, hg1, hgo⟩ := bind_some hgo
      obtain ⟨b', hc1, hgo⟩ := bind_some hgo
      refine .inr ⟨(hJ'.1 x hd).1, fun H2 => ∃ F' acc accD rest, LcI (gx X) F1 (hid r H1) F' (hid r H2) D0 acc accD ∧ F' r = none ∧ Cel (mc X u sp) F' H2 r a b ∧ accD.length ≤ i + 1 ∧ lcGo g k f (wipeE env vs) (ds.drop (i + 1)) = some rest ∧ es = accD ++ rest, fun H2 h => ?_, fun v H2 hy => ?_⟩
      · obtain ⟨F2, acc2, accD2, rest2, L2, fr2, hr2, l3, hg2, e2⟩ := h
        exact ⟨ds.length - (i + 1), by omega, F2, acc2, accD2, rest2, L2, fr2, hr2, l3, hi, rfl, hg2, e2⟩
      · obtain ⟨rfl, rv⟩ := (hJ'.1 x hd).2 v H2 hy
        have mk : ∀ σ2, SOk (gx X) O F' H2 σ2 env1 → (∀ j, j ∉ sl → σ2[j]? = (L2.wipe σ vs)[j]?) → MOk (mc X u sp) S O r a b F' H2 σ2 env1 := fun σ2 s2 kp =>
          ⟨s2.rehid2 fr okw.ce.nt fun j hj p hp => okw.ne j hj p (by rw [← kp j fun z => hO j (hsl j z) hj]; exact hp), fr, hr, (kp _ fun z => h0.1 (hsl _ z)).trans okw.sg, (hk _ _ _ hg1 _ fun z => h0.2.1 (hsl _ z)).trans okw.e1, (hk _ _ _ hg1 _ fun z => h0.2.2 (hsl _ z)).trans okw.e2⟩
        refine ⟨F', _, x, env1, okw.sok, rv, hg1, fun σ2 s2 ln kp => ⟨ext_wipe ln kp hsl |>.trans ?_, F', env1, r, a, b, b', mk σ2 s2 kp, hc1, fun F3 H3 g3 => ?_⟩⟩
        · have : ∀ (vs ws : List Nat) (τ : L2.St), (∀ j ∈ ws, j ∈ vs) → L2.wipe (L2.wipe τ ws) vs = L2.wipe τ vs := fun vs ws τ h => ext_wipe (sl := ws) (wipe_length _ _) (fun j hj => wipe_out hj) h
          exact this _ _ _ fun j h => h
        · cases b' with
          | true =>
            rw [if_pos rfl] at hgo ⊢
            obtain ⟨y, he1, hgo⟩ := bind_some hgo
            obtain ⟨rest2, hg2, e2⟩ := map_some hgo
            subst e2
            refine ⟨F3, env1, r, a, b, y, (mk σ2 s2 kp).gr g3, he1, fun w F4 H4 g4 r4 => ?_⟩
            have L4 := (L.gr' g3.g).gr' g4.g
            have at4 := L4.at_
            rw [hid_ne hDr] at at4
            refine ⟨acc, at4, ?_, F4, acc ++ [w], accD ++ [y], rest2, by rw [hid_upd hDr]; exact L4.app hD' r4, g4.fr, g4.ce.mono (Same.refl _) (upd_ne (fun z => hDr z.symm)), by rw [List.length_append]; exact Nat.succ_le_succ l1, hg2, ?_⟩
            · rw [L.rp.length]
              omega
            · rw [ees, List.append_assoc]
              rfl
          | false =>
            rw [if_neg Bool.false_ne_true] at hgo ⊢
            exact ⟨F3, acc, accD, rest, L.gr' g3.g, g3.fr, g3.ce, by omega, hgo, ees⟩
end
def mPost (U : MC) (S : Sl) (O' Ob : List Nat) (F0 H0 : Hp) (r : Addr) (a b : D) (F : Hp) (D : Ends) : Out → Prop
  | .nx e => ∀ σ' F' H', MOk U S O' r a b F' H' σ' e → Fr F0 (hid r H0) O' F' (hid r H') σ' → Same F F' → D.nx σ' H'
  | .bk e => ∀ σ' F' H', MOk U S Ob r a b F' H' σ' e → Fr F0 (hid r H0) Ob F' (hid r H') σ' → Same F F' → D.bk σ' H'
  | .ct e => ∀ σ' F' H', MOk U S Ob r a b F' H' σ' e → Fr F0 (hid r H0) Ob F' (hid r H') σ' → Same F F' → D.ct σ' H'
  | .rt d => ∀ v F' H', MGr U r a b F0 H0 F' H' → Rp U.G F' v d → D.rt v H'
theorem mPost.ff {U : MC} {S : Sl} {O' Ob : List Nat} {F0 H0 F F1 : Hp} {r : Addr} {a b : D} {D : Ends} {out : Out} (q : mPost U S O' Ob F0 H0 r a b F D out) (k : Same F F1) : mPost U S O' Ob F0 H0 r a b F1 D out := by
  cases out with
  | nx e => exact fun σ' F' H' s' f' k' => q σ' F' H' s' f' (k.trans k')
  | bk e => exact fun σ' F' H' s' f' k' => q σ' F' H' s' f' (k.trans k')
  | ct e => exact fun σ' F' H' s' f' k' => q σ' F' H' s' f' (k.trans k')
  | rt d => exact q
def mS (U : MC) (S : Sl) (O O' Ob : List Nat) (f : SS) : TS := fun D σ H => ∃ F0 H0 F env r a b out, MOk U S O r a b F H σ env ∧ Fr F0 (hid r H0) O F (hid r H) σ ∧ f env = some out ∧ mPost U S O' Ob F0 H0 r a b F D out
section
variable {X : Cx} {u : D → Bool} {sp : D → D → D → D} {S : Sl} {O O' O'' Ob : List Nat} {st : Stmt} {rest : List Stmt} {pos : Pos}
theorem mbn : PSs X [] (mS (mc X u sp) S O O Ob sNext) := pss_nil.imp fun D σ H ⟨F0, H0, F, env, r, a, b, out, ok, hf, ho, q⟩ => by
  cases ho
  exact q σ F H ok hf (Same.refl F)
theorem mbc {f g : SS} (h1 : PS X st (mS (mc X u sp) S O O' Ob f)) (h2 : PSs X rest (mS (mc X u sp) S O' O'' Ob g)) : PSs X (st :: rest) (mS (mc X u sp) S O O'' Ob (sSeq f g)) :=
  (pss_cons h1 h2).imp fun D σ H ⟨F0, H0, F, env, r, a, b, out, ok, hf, ho, q⟩ => by
    simp only [sSeq] at ho
    obtain ⟨o1, h1, h2⟩ := bind_some ho
    refine ⟨F0, H0, F, env, r, a, b, o1, ok, hf, h1, ?_⟩
    cases o1 with
    | nx e => exact fun σ' F' H' s' f' k' => ⟨F0, H0, F', e, r, a, b, out, s', f', h2, q.ff k'⟩
    | bk e => cases h2; exact q
    | ct e => cases h2; exact q
    | rt d => cases h2; exact q
theorem mbo {f : SS} (h1 : PS X st (mS (mc X u sp) S O O' Ob f)) : PSs X [st] (mS (mc X u sp) S O O' Ob f) := pss_one h1
theorem mret {e : Expr} {f : SE} (he : PE X e (mV (mc X u sp) S O f)) : PS X (.Return (some e) pos) (mS (mc X u sp) S O O' Ob (sRet f)) :=
  (ps_ret he).imp fun D σ H ⟨F0, H0, F, env, r, a, b, out, ok, hf, ho, q⟩ => by
    simp only [sRet] at ho
    obtain ⟨d, h1, h2⟩ := map_some ho
    subst h2
    exact ⟨F, env, r, a, b, d, ok, h1, fun v F' H' g r' => q v F' H' ⟨hf.gr.trans g.g, g.fr, g.ce⟩ r'⟩
theorem mif_ {c : Expr} {sa sb : List Stmt} {fc : ST} {fa fb : SS} (hc : PT X c (mT (mc X u sp) S O fc)) (ha : PSs X sa (mS (mc X u sp) S O O' Ob fa)) (hb : PSs X sb (mS (mc X u sp) S O O' Ob fb)) : PS X (.If c sa sb pos) (mS (mc X u sp) S O O' Ob (sIf fc fa fb)) :=
  (ps_if hc ha hb).imp fun D σ H ⟨F0, H0, F, env, r, a, b, out, ok, hf, ho, q⟩ => by
    simp only [sIf] at ho
    obtain ⟨k, h1, h2⟩ := bind_some ho
    refine ⟨F, env, r, a, b, k, ok, h1, fun F1 H1 g1 => ?_⟩
    have q' := q.ff g1.ff
    cases k with
    | true => exact ⟨F0, H0, F1, env, r, a, b, out, ok.gr g1, hf.step g1.g, h2, q'⟩
    | false => exact ⟨F0, H0, F1, env, r, a, b, out, ok.gr g1, hf.step g1.g, h2, q'⟩
theorem setD_ne {env : Env} {i j : Nat} {d : Option D} (h : i ≠ j) : (env.set i d).getD j none = env.getD j none := by
  rw [List.getD_eq_getElem?_getD, List.getElem?_set_ne h, ← List.getD_eq_getElem?_getD]
theorem MOk.set {U : MC} {r : Addr} {a b : D} {F H : Hp} {σ : L2.St} {env : Env} (ok : MOk U S O r a b F H σ env) {i : Nat} {v : V} {d : D} (hO : i ∉ O) (h0 : S.off [i]) (rv : Rp U.G F v d) : MOk U S O r a b F H (σ.set i (some v)) (env.set i (some d)) := by
  have n0 : i ≠ S.i0 := fun z => h0.1 (by rw [z]; exact List.mem_singleton.mpr rfl)
  have n1 : i ≠ S.i1 := fun z => h0.2.1 (by rw [z]; exact List.mem_singleton.mpr rfl)
  have n2 : i ≠ S.i2 := fun z => h0.2.2 (by rw [z]; exact List.mem_singleton.mpr rfl)
  exact ⟨ok.s.set hO rv, ok.fr, ok.ce, by rw [List.getElem?_set_ne n0]; exact ok.sg, by rw [setD_ne n1]; exact ok.e1, by rw [setD_ne n2]; exact ok.e2⟩
theorem mset {x : Str} {e : Expr} {f : SE} {pos' : Pos} (i : Nat) (hN : X.N.Nodup) (he : PE X e (mV (mc X u sp) S O f)) (hO : i ∉ O := by decide) (h0 : S.off [i] := by decide) (hi : X.N[i]? = some x := by rfl) (hx : Loc X.env.scope x := by first | exact Or.inl rfl | exact Or.inr rfl) (hs : swapsWith e (some (.Name x pos')) pos.line X.env = pure false := by rfl)
    (hf : X.fn x = true ∨ X.env.scope.names.lookup x = some .local := by first | exact .inl rfl | exact .inr rfl | assumption) : PS X (.Assign [.Name x pos'] e pos) (mS (mc X u sp) S O O Ob (sAsg f (TL.gName i))) :=
  (ps_set hN hi hx he hs hf).imp fun D σ H ⟨F0, H0, F, env, r, a, b, out, ok, hf, ho, q⟩ => by
    simp only [sAsg, TL.gName] at ho
    obtain ⟨d, h1, h2⟩ := bind_some ho
    cases h2
    exact ⟨F, env, r, a, b, d, ok, h1, fun v F1 H1 g1 r1 => q _ F1 H1 ((ok.gr g1).set hO h0 r1) (fr_set (hf.step g1.g) hO) g1.ff⟩
theorem mfor {tg iter : Expr} {body : List Stmt} {fi : SI} {g : SG} {fb : SS} {sl : List Nat} (hp : PassesOwn (model X.prog X.w) X.A X.env X.xe) (hc : X.calm = true) (hi : PI X tg iter (iV (gx X) O fi)) (hg : PG X tg (tG (gx X) O sl g)) (hb : PSs X body (mS (mc X u sp) S O O O fb)) (hk : SgKeep g sl) (hsl : ∀ i ∈ O, i ∉ sl := by decide) (h0 : S.off sl := by decide)
    (hs : ∀ x, foldedSetIterable iter X.env x = pure x := by intro _; rfl) : PS X (.For tg iter body [] pos) (mS (mc X u sp) S O O Ob (sFor fi g fb)) :=
  (ps_for hp hc hi hg hb hs).imp fun D σ H ⟨F0, H0, F, env, r, a, b, out, ok, hf, ho, q⟩ => by
    simp only [sFor] at ho
    obtain ⟨ds, h1, ho⟩ := bind_some ho
    refine ⟨F, env, ds, ok.sok, h1, fun J F1 H1 gq hz hJ => ?_⟩
    have g1 := ok.of gq
    refine ⟨fun i m σ' H' => ∃ F' env', MOk (mc X u sp) S O r a b F' H' σ' env' ∧ Fr F0 (hid r H0) O F' (hid r H') σ' ∧ Same F1 F' ∧ i ≤ ds.length ∧ m = ds.length - i ∧ forGo g fb (ds.drop i) env' = some out,
      ⟨ds.length, F1, env, ok.gr g1, hf.step g1.g, Same.refl F1, Nat.zero_le _, by omega, ho⟩, ?_⟩
    rintro i m σ' H' ⟨F', env', s', f', k', hi, rfl, hgo⟩
    have hJ' := hJ i F' H' k' s'.sok.fh
    cases hd : ds[i]? with
    | none =>
      have hi' : ds.length ≤ i := List.getElem?_eq_none_iff.mp hd
      rw [List.drop_eq_nil_of_le hi'] at hgo
      cases hgo
      exact .inl ⟨hJ'.2 hd, q σ' F' H' s' f' (g1.ff.trans k')⟩
    | some x =>
      have hi' : i < ds.length := (List.getElem?_eq_some_iff.mp hd).1
      have hx : ds[i] = x := (List.getElem?_eq_some_iff.mp hd).2
      have hdr : ds.drop i = x :: ds.drop (i + 1) := by rw [List.drop_eq_getElem_cons hi', hx]
      rw [hdr] at hgo
      simp only [forGo] at hgo
      obtain ⟨env1, hg1, hgo⟩ := bind_some hgo
      obtain ⟨o, hb1, hgo⟩ := bind_some hgo
      refine .inr ⟨(hJ'.1 x hd).1, fun σ2 H2 => ∃ F2 env2, MOk (mc X u sp) S O r a b F2 H2 σ2 env2 ∧ Fr F0 (hid r H0) O F2 (hid r H2) σ2 ∧ Same F' F2 ∧ forGo g fb (ds.drop (i + 1)) env2 = some out, fun σ2 H2 h => ?_, fun v H2 hy => ?_⟩
      · obtain ⟨F2, env2, s2, f2, k2, hg2⟩ := h
        exact ⟨ds.length - (i + 1), by omega, F2, env2, s2, f2, k'.trans k2, hi', rfl, hg2⟩
      · obtain ⟨rfl, rv⟩ := (hJ'.1 x hd).2 v H2 hy
        refine ⟨F', env', x, env1, s'.sok, rv, hg1, fun σ2 s2 ln kp => ⟨F0, H0, F', env1, r, a, b, o, ⟨s2.rehid2 s'.fr s'.ce.nt fun j hj p hp => s'.ne j hj p (by rw [← kp j (hsl j hj)]; exact hp), s'.fr, s'.ce, (kp _ h0.1).trans s'.sg, (hk _ _ _ hg1 _ h0.2.1).trans s'.e1, (hk _ _ _ hg1 _ h0.2.2).trans s'.e2⟩, ⟨f'.gr, fun j hj p hp => f'.own j hj p (by rw [← kp j (hsl j hj)]; exact hp)⟩, hb1, ?_⟩⟩
        cases o with
        | nx e => exact fun σ3 F3 H3 s3 f3 k3 => ⟨F3, e, s3, f3, k3, hgo⟩
        | ct e => exact fun σ3 F3 H3 s3 f3 k3 => ⟨F3, e, s3, f3, k3, hgo⟩
        | bk e =>
          cases hgo
          exact fun σ3 F3 H3 s3 f3 k3 => q σ3 F3 H3 s3 f3 ((g1.ff.trans k').trans k3)
        | rt d =>
          cases hgo
          exact q
end
end TL

set_option Elab.async false
set_option linter.all false
set_option maxRecDepth 100000
namespace TL
open PySem PySem.Spec PyProof.Rows L2
mutual
def deq : D → D → Bool
  | .none, .none => true
  | .bool a, .bool b => decide (a = b)
  | .int a, .int b => decide (a = b)
  | .str a, .str b => decide (a = b)
  | .tuple a, .tuple b => deqs a b
  | .list a, .list b => deqs a b
  | _, _ => false
def deqs : List D → List D → Bool
  | [], [] => true
  | a :: l, b :: m => deq a b && deqs l m
  | _, _ => false
end
mutual
theorem deq_eq : ∀ {a b : D}, deq a b = true → a = b
  | .none, b, h => by cases b <;> simp [deq] at h ⊢
  | .bool x, b, h => by cases b <;> simp [deq] at h ⊢; exact h
  | .int x, b, h => by cases b <;> simp [deq] at h ⊢; exact h
  | .str x, b, h => by cases b <;> simp [deq] at h ⊢; exact h
  | .tuple l, b, h => by
    cases b with
    | tuple m =>
      simp only [deq] at h
      rw [deqs_eq h]
    | _ => simp [deq] at h
  | .list l, b, h => by
    cases b with
    | list m =>
      simp only [deq] at h
      rw [deqs_eq h]
    | _ => simp [deq] at h
  | .dict l, b, h => by cases b <;> simp [deq] at h
theorem deqs_eq : ∀ {l m : List D}, deqs l m = true → l = m
  | [], m, h => by cases m <;> simp [deqs] at h ⊢
  | a :: l, m, h => by
    cases m with
    | nil => simp [deqs] at h
    | cons b m =>
      simp only [deqs, Bool.and_eq_true] at h
      rw [deq_eq h.1, deqs_eq h.2]
end
mutual
def noDict : D → Bool
  | .dict _ => false
  | .tuple l => noDicts l
  | .list l => noDicts l
  | _ => true
def noDicts : List D → Bool
  | [] => true
  | a :: l => noDict a && noDicts l
end
mutual
theorem deq_refl : ∀ {a : D}, noDict a = true → deq a a = true
  | .none, _ => rfl
  | .bool x, _ => by simp [deq]
  | .int x, _ => by simp [deq]
  | .str x, _ => by simp [deq]
  | .tuple l, h => by
    simp only [noDict] at h
    simp only [deq]
    exact deqs_refl h
  | .list l, h => by
    simp only [noDict] at h
    simp only [deq]
    exact deqs_refl h
  | .dict l, h => by simp [noDict] at h
theorem deqs_refl : ∀ {l : List D}, noDicts l = true → deqs l l = true
  | [], _ => rfl
  | a :: l, h => by
    simp only [noDicts, Bool.and_eq_true] at h
    simp only [deqs, deq_refl h.1, deqs_refl h.2, Bool.and_self]
end
@[simp] def sEnd (u : D → Bool) (sp : D → D → D → D) (i1 i2 : Nat) (fk e : SE) : SS := fun env => (fk env).bind fun kd => (e env).bind fun d => (env.getD i1 none).bind fun a => (env.getD i2 none).bind fun b => if (u kd && deq d (sp a b kd)) = true then some (.rt d) else none
@[simp] def sSeqN (f g : SS) : SS := fun env => (f env).bind fun o => match o with
  | .nx e => g e
  | _ => none
@[simp] def sMemo (u : D → Bool) (sp : D → D → D → D) (i1 i2 : Nat) (fk : SE) (blk : SS) : SS := fun env => (fk env).bind fun kd => (blk env).bind fun o => match o with
  | .rt d => (env.getD i1 none).bind fun a => (env.getD i2 none).bind fun b => if (u kd && deq d (sp a b kd)) = true then some (.rt d) else none
  | _ => none
def Has (U : MC) (F H : Hp) (r : Addr) (kd d : D) : Prop := ∃ xs k v, KDat U.P U.w U.G F H r xs ∧ keyD kd = some k ∧ atV xs k = some v ∧ Rp U.G F v d
def mBk (U : MC) (S : Sl) (O : List Nat) (fk : SE) (f : SS) : TS := fun D σ H => ∃ F0 H0 F env r a b d, MOk U S O r a b F H σ env ∧ Fr F0 (hid r H0) O F (hid r H) σ ∧ f env = some (.rt d) ∧
  ∀ σ' F' H' env' kd, MOk U S O r a b F' H' σ' env' → Fr F0 (hid r H0) O F' (hid r H') σ' → Same F F' → fk env' = some kd → U.u kd = true → Has U F' H' r kd d → D.nx σ' H'
theorem atV_put {xs : List KEnt} {k : NestedKey} {b : Addr} {v : V} : atV (putR xs k b v) k = some v := by
  unfold putR
  split
  · rename_i h
    revert h
    induction xs with
    | nil => intro h; cases h
    | cons x xs ih =>
      intro h
      by_cases hk : x.1 = k
      · simp [atV, List.find?_cons, hk]
      · have e : atV (x :: xs) k = atV xs k := by simp [atV, List.find?_cons, hk]
        rw [e] at h
        rw [List.map_cons, if_neg hk]
        have e2 : atV (x :: xs.map fun x => if x.1 = k then (x.1, x.2.1, v) else x) k = atV (xs.map fun x => if x.1 = k then (x.1, x.2.1, v) else x) k := by simp [atV, List.find?_cons, hk]
        rw [e2]
        exact ih h
  · rename_i h
    have h : atV xs k = none := by
      cases e : atV xs k with
      | none => rfl
      | some _ => rw [e] at h; exact absurd rfl h
    unfold atV at h ⊢
    rw [List.find?_append, Option.map_eq_none_iff.mp h]
    simp
section
variable {X : Cx} {u : D → Bool} {sp : D → D → D → D} {S : Sl} {O O' Ob : List Nat}
theorem isK_of {U : MC} {F : Hp} {v : V} {kd : D} (uk : UOk U.u) (hu : U.u kd = true) (r : Rp U.G F v kd) : ∃ k, IsK U.G F v kd k := by
  obtain ⟨L, _, h⟩ := uk.fin
  obtain ⟨k, _, h1, h2⟩ := h kd hu
  obtain ⟨ds, e⟩ := uk.tup kd hu
  subst e
  cases r with
  | tup h3 h4 => exact ⟨k, ⟨_, rfl⟩, .tup h3 h4, h1, h2⟩
theorem upd_hid {r : Addr} {H : Hp} {o : HO} : hid r (upd H r o) = hid r H := by
  funext b
  by_cases hb : b = r
  · subst hb; rw [hid_r, hid_r]
  · rw [hid_ne hb, hid_ne hb, upd_ne hb]
theorem mbk_end {x : Str} {k2 ve : Expr} {fk e : SE} {p2 q1 q2 : Pos} (uk : UOk u) (hu : X.A.units + 64 < cLine) (hk2 : PE X k2 (rV (gx X) O fk)) (hv : PE X ve (mV (mc X u sp) S O e)) (hN : X.N[S.i0]? = some x := by rfl) (hvi : Vis X.env.scope x := by first | exact Or.inl rfl | exact Or.inr (Or.inl rfl) | exact Or.inr (Or.inr rfl)) (hd : (x == ("__debug__" : Str)) = false := by decide)
    (hcd : (x == ("__classdict__" : Str)) = false := by decide)
    (hs : swapsWithSole [.Subscript (.Name x p2) k2 q1] ve q2.line X.env = pure false := by rfl) (hw : swappedStores [.Subscript (.Name x p2) k2 q1] ve X.env = pure none := by rfl)
    (h1 : (assignEach [.Subscript (.Name x p2) k2 q1] X.env).map (·.2) = [assign (.Subscript (.Name x p2) k2 q1) X.env] := by rfl)
    (ha : ∀ v, assign (.Subscript (.Name x p2) k2 q1) X.env v = (do
      let ov ← holding [v] (eval (.Name x p2) X.env)
      let iv ← holding [v, ov] (eval k2 X.env)
      standAt q1
      holding [v, ov, iv] (setItem ov iv v)
      release [v, ov, iv] []) := by intro _; rfl) :
    PSs X [.Assign [.Subscript (.Name x p2) k2 q1] ve q2] (mBk (mc X u sp) S O fk (sEnd u sp S.i1 S.i2 fk e)) :=
  pss_one ((ps_asg hv (pg_sub (pe_var hN hvi hd hcd) hk2 (set_K hu) ha) hs hw h1).imp fun D σ H ⟨F0, H0, F, env, r, a, b, d, ok, hf, ho, q⟩ => by
    simp only [sEnd] at ho
    obtain ⟨kd, h2, ho⟩ := bind_some ho
    obtain ⟨d', h3, ho⟩ := bind_some ho
    obtain ⟨a', h4, ho⟩ := bind_some ho
    obtain ⟨b', h5, ho⟩ := bind_some ho
    rw [ok.e1] at h4
    rw [ok.e2] at h5
    cases h4
    cases h5
    split at ho
    · rename_i hz
      cases ho
      rw [Bool.and_eq_true] at hz
      have ed := deq_eq hz.2
      refine ⟨F, env, r, a, b, d, ok, h3, fun v F1 H1 g1 r1 => ⟨_, ok.sg, F1, env, kd, (ok.gr g1).sok, h2, fun y F2 H2 g2 r2 => ?_⟩⟩
      have gm := (ok.gr g1).of g2
      have ok2 := (ok.gr g1).gr gm
      obtain ⟨xs, c1, hat, c3, hxs⟩ := ok2.ce
      have kdat := celx_dat uk c1 hat c3 hxs
      obtain ⟨k, ik⟩ := isK_of (U := mc X u sp) uk hz.1 r2
      obtain ⟨c, rfl⟩ := ik.ref
      refine ⟨F2, r, xs, kd, k, c, rfl, ok2.sok.fh, kdat, hat, rfl, ik, ?_⟩
      have rv : Rp (gx X) F2 v d := r1.mono g2.ff
      have cel4 : ∀ x ∈ putR xs k c v, ∃ kd, (mc X u sp).u kd = true ∧ keyD kd = some x.1 ∧ Rp (gx X) F2 (.ref x.2.1) kd ∧ Rp (gx X) F2 x.2.2 ((mc X u sp).sp a b kd) := fun z hz2 => by
        rcases putR_mem hz2 with e | hm | ⟨y, hy, hy2, e⟩
        · subst e
          exact ⟨kd, hz.1, ik.ke, ik.rp, by rw [show (mc X u sp).sp a b kd = d from ed.symm]; exact rv⟩
        · exact hxs z hm
        · subst e
          obtain ⟨kd', t1, t2, t3, t4⟩ := hxs y hy
          have : kd' = kd := uk.inj kd' kd t1 hz.1 (by rw [t2, hy2, ik.ke])
          subst this
          exact ⟨kd', t1, t2, t3, by rw [show (mc X u sp).sp a b kd' = d from ed.symm]; exact rv⟩
      have cel : Cel (mc X u sp) F2 (upd H2 r (rawO X.prog X.w r (putR xs k c v))) r a b := ⟨_, kdat.ns, upd_same, putR_nd kdat.nd, cel4⟩
      refine q σ F2 _ env kd ⟨?_, gm.fr, cel, ok.sg, ok.e1, ok.e2⟩ ?_ (g1.ff.trans g2.ff) h2 hz.1 ⟨putR xs k c v, k, v, ?_, ik.ke, atV_put, rv⟩
      · rw [upd_hid]; exact ok2.s
      · rw [upd_hid]; exact (hf.step g1.g).step gm.g
      · exact celx_dat uk kdat.ns upd_same (putR_nd kdat.nd) cel4
    · cases ho)
theorem mbk_cons {f g : SS} {fk : SE} {st : Stmt} {rest : List Stmt} (h1 : PS X st (mS (mc X u sp) S O O [] f)) (h2 : PSs X rest (mBk (mc X u sp) S O fk g)) : PSs X (st :: rest) (mBk (mc X u sp) S O fk (sSeqN f g)) :=
  (pss_cons h1 h2).imp fun D σ H ⟨F0, H0, F, env, r, a, b, d, ok, hf, ho, q⟩ => by
    simp only [sSeqN] at ho
    obtain ⟨o1, h1, h2⟩ := bind_some ho
    cases o1 with
    | nx e => exact ⟨F0, H0, F, env, r, a, b, .nx e, ok, hf, h1, fun σ' F' H' s' f' k' => ⟨F0, H0, F', e, r, a, b, d, s', f', h2, fun σ2 F2 H2 env2 kd s2 f2 k2 => q σ2 F2 H2 env2 kd s2 f2 (k'.trans k2)⟩⟩
    | rt d => cases h2
    | bk e => cases h2
    | ct e => cases h2
theorem Has.mono {U : MC} {F H F' H' : Hp} {r : Addr} {kd d : D} (h : Has U F H r kd d) (k : Same F F') (e : H' r = H r) : Has U F' H' r kd d := by
  obtain ⟨xs, k', v, ⟨h1, h2, h3, h4, h5⟩, hk, ha, rp⟩ := h
  exact ⟨xs, k', v, ⟨h1, h2.imp (fun z => by rw [e]; exact z) (fun ⟨o, z⟩ => ⟨o, by rw [e]; exact z⟩), h3, h4, fun x hx => let ⟨kd, a1, a2, a3⟩ := h5 x hx; ⟨kd, a1, a2, a3.mono k⟩⟩, hk, ha, rp.mono k⟩
theorem mmemo {x : Str} {k1 k3 : Expr} {blk : List Stmt} {fk : SE} {f : SS} {p1 p3 q3 q4 q5 q6 : Pos} (uk : UOk u) (hu : X.A.units + 64 < cLine) (hk1 : PE X k1 (rV (gx X) O fk)) (hk3 : PE X k3 (rV (gx X) O fk))
    (hb : PSs X blk (mBk (mc X u sp) S O fk f)) (hN : X.N[S.i0]? = some x := by rfl) (hvi : Vis X.env.scope x := by first | exact Or.inl rfl | exact Or.inr (Or.inl rfl) | exact Or.inr (Or.inr rfl)) (hd : (x == ("__debug__" : Str)) = false := by decide)
    (hcd : (x == ("__classdict__" : Str)) = false := by decide) (hm : behindInMarks .NotIn (.Name x p1) = false := by first | exact nomark _ | rfl | with_unfolding_all rfl) (hx3 : PlainIx k3 := by exact fun _ _ => rfl) :
    PSs X [.If (.Compare k1 [.NotIn] [.Name x p1] q3) blk [] q4, .Return (some (.Subscript (.Name x p3) k3 q5)) q6] (mS (mc X u sp) S O O' Ob (sMemo u sp S.i1 S.i2 fk f)) :=
  (pss_cons (ps_if (pt_cmpR (o_ninK hu) hk1 (pe_var hN hvi hd hcd) hm) hb pss_nil) (pss_one (ps_ret (pe_ix (ix_K hu) (pe_var hN hvi hd hcd) hk3 hx3)))).imp fun D σ H ⟨F0, H0, F, env, r, a, b, out, ok, hf, ho, q⟩ => by
    simp only [sMemo] at ho
    obtain ⟨kd, h1, ho⟩ := bind_some ho
    obtain ⟨o1, h2, ho⟩ := bind_some ho
    cases o1 with
    | nx e => cases ho
    | bk e => cases ho
    | ct e => cases ho
    | rt d =>
      simp only at ho
      obtain ⟨a', h4, ho⟩ := bind_some ho
      obtain ⟨b', h5, ho⟩ := bind_some ho
      rw [ok.e1] at h4
      rw [ok.e2] at h5
      cases h4
      cases h5
      split at ho
      · rename_i hz
        cases ho
        rw [Bool.and_eq_true] at hz
        have ed := deq_eq hz.2
        -- the end: known[KEY]
        have fin : ∀ σ' F' H' env' kd', MOk (mc X u sp) S O r a b F' H' σ' env' → Fr F0 (hid r H0) O F' (hid r H') σ' → Same F F' → fk env' = some kd' → u kd' = true → Has (mc X u sp) F' H' r kd' d →
            tOp (rIxK X) (tVar S.i0) (rV (gx X) O fk) σ' H' D.rt := fun σ' F' H' env' kd' ok' hf' sm' hk' hu' has => by
          refine ⟨_, ok'.sg, F', env', kd', ok'.sok, hk', fun y F2 H2 g2 r2 => ?_⟩
          have gm := ok'.of g2
          obtain ⟨xs, _, h2', _⟩ := ok'.ce
          have has2 := has.mono g2.ff (show H2 r = H' r by rw [g2.hh.nn r _ h2' rfl, h2'])
          obtain ⟨xs, k, v, kdat, ke, hat, rv⟩ := has2
          obtain ⟨k2, ik⟩ := isK_of (U := mc X u sp) uk hu' r2
          have ek : k2 = k := by
            have := ik.ke
            rw [ke] at this
            exact (Option.some.inj this).symm
          subst ek
          exact ⟨F2, r, xs, kd', k2, v, rfl, (ok'.gr gm).sok.fh, kdat, ik, hat, q v F2 H2 ⟨hf'.gr.trans gm.g, gm.fr, gm.ce⟩ rv⟩
        refine ⟨F, env, kd, ok.sok, h1, fun y F1 H1 g1 r1 => ⟨_, ok.sg, ?_⟩⟩
        have gm := ok.of g1
        have ok1 := ok.gr gm
        obtain ⟨xs, kdat, hxs⟩ := ok1.ce.dat uk
        obtain ⟨k, ik⟩ := isK_of (U := mc X u sp) uk hz.1 r1
        refine ⟨F1, r, xs, kd, k, rfl, ok1.sok.fh, kdat, ik, ?_⟩
        cases hat : atV xs k with
        | none => exact ⟨true, rfl, F0, H0, F1, env, r, a, b, d, ok1, hf.step gm.g, h2, fun σ' F' H' env' kd' s' f' k' hk' hu' has => fin σ' F' H' env' kd' s' f' (g1.ff.trans k') hk' hu' has⟩
        | some v =>
          obtain ⟨z, hz1, hz2, hz3⟩ := atV_some hat
          obtain ⟨kd', t1, t2, t3, t4⟩ := hxs z hz1
          have e : kd' = kd := uk.inj kd' kd t1 hz.1 (by rw [t2, hz2, ik.ke])
          subst e
          exact ⟨false, rfl, fin σ F1 H1 env kd' ok1 (hf.step gm.g) g1.ff h1 hz.1 ⟨xs, k, v, kdat, ik.ke, hat, by rw [← hz3, ed]; exact t4⟩⟩
      · cases ho
end
end TL

set_option Elab.async false
set_option linter.all false
set_option maxRecDepth 100000
namespace TL
open PySem PySem.Spec PyProof.Rows L2
def rngD (lo hi : Int) : D := .dict [(.bool true, .tuple [.int lo, .int hi])]
def rngItems : D → Option (List D)
  | .dict [(.bool true, .tuple [.int lo, .int hi])] => rangeD lo hi
  | _ => none
@[simp] def eRngV (a b : SE) : SE := fun env => (a env).bind fun x => (b env).bind fun y => (toI x).bind fun n => (toI y).map fun m => rngD n m
@[simp] def iRngO (a : SE) : SI := fun env => (a env).bind rngItems
@[simp] def iRev2 (a b : SE) : SI := fun env => (a env).bind fun x => (b env).bind fun y => (toI x).bind fun n => (toI y).bind fun m => (rangeD n m).map List.reverse
section
variable {X : Cx} {O : List Nat} {a b e tg : Expr} {fa fb : SE} {p pos : Pos}
theorem cr_range1 : CallR X (.type "range") (fun vs H Q => ∃ j, vs = [V.int j] ∧ ∀ p, H p = none → Q (.ref p) (upd H p (.rng 0 j))) := by
  intro pins s σ H vs us Q I r h
  obtain ⟨j, rfl, q⟩ := h
  cases r with
  | cons r rr =>
    cases rr
    obtain ⟨t, rfl⟩ := r
    refine call_range_1 ⟨.ref s.heap.objs.size, upd H s.heap.objs.size (.rng 0 j), I.laid (t' := _) (fun b o e => Heap.get?_push_of_some _ e) (Nat.le_refl _) ?_, rfl, q _ (I.hok.fresh (Nat.le_refl _))⟩
    exact ⟨_, _, _, Heap.get?_push_size _ rfl⟩
theorem erngV1 (hg : Gl X "range") (hm : X.mg "range" = none) (ha : PE X a (rV (gx X) O fa)) (hs : starEach [a] X.env = (false, eval a X.env) :: starEach [] X.env := by rfl) :
    PE X (.Call (.Name "range" p) [a] [] pos) (rV (gx X) O (eRngV (eC (.int 0)) fa)) :=
  (pe_callTy cr_range1 hg hm (by decide +kernel) (pa_cons ha pa_nil hs) (by decide) (by decide) hs rfl).imp fun σ H Q ⟨F, env, d, hs, hf, q⟩ => by
    simp only [eRngV, eC, Option.bind_some, toI] at hf
    obtain ⟨x, h1, hf⟩ := bind_some hf
    obtain ⟨n, h2, hf⟩ := map_some hf
    subst hf
    have e2 := toI_some h2
    subst e2
    refine ⟨F, env, _, hs, h1, fun v F1 H1 g1 r1 => ?_⟩
    cases r1
    refine ⟨n, rfl, fun p hp => ?_⟩
    have g2 : Gr F1 H1 (upd F1 p (.rng 0 n)) (upd H1 p (.rng 0 n)) := Gr.new g1.fh hp
    exact q _ _ _ (g1.trans g2) (.rng upd_same)
def iRngS (tl : TE) : TI := fun σ H R => tl σ H fun x H1 => ∃ a lo hi, x = .ref a ∧ H1 a = some (.rng lo hi) ∧ (-(2 ^ 62) ≤ lo ∧ lo < 2 ^ 62 ∧ -(2 ^ 62) ≤ hi ∧ hi < 2 ^ 62) ∧ R (Itr lo (hi - lo).toNat) H1
theorem pi_rngO {tl : TE} (hl : PE X e tl) : PI X tg e (iRngS tl) := by
  refine ⟨fun pins s σ H R I h => ?_⟩
  refine thn (hl.run pins s σ H _ I h) fun v s1 ⟨x, H1, I1, r1, q1⟩ => ?_
  obtain ⟨a, lo, hi, e, ha, ⟨h1, h2, h3, h4⟩, q⟩ := q1
  subst e
  cases r1
  obtain ⟨t, u, v, ho⟩ := (show ObjOk X.prog X.w H1 s1.heap a (.rng lo hi) from I1.hok a _ ha)
  refine wpAny_pyIter_range (show IsRange s1.heap a lo hi 1 t u v from ho) (small_one h1 h2 h3 h4) ?_
  refine ⟨s1.heap.objs.size, [s1.heap.objs.size], _, _, H1, rfl, I1.kept (t' := s1.toks) fun b o e => Heap.get?_push_of_some _ e, turn_range _ lo (hi - lo).toNat, ?_, fun b hb => ?_, q⟩
  · have e1 : lo + ((0 : Nat) : Int) * 1 = lo := by simp
    have e2 : (((hi - lo).toNat : Nat) : Int) - ((0 : Nat) : Int) = Builtin.Range.rangeSize lo hi 1 := by rw [rangeSize_one]; split <;> omega
    show IsRangeIter _ _ (lo + ((0 : Nat) : Int) * 1) ((((hi - lo).toNat : Nat) : Int) - ((0 : Nat) : Int)) 1
    rw [e1, e2]
    exact Heap.get?_push_size _ rfl
  · have e : b = s1.heap.objs.size := by simpa using hb
    subst e
    exact I1.fpOk (Nat.le_refl _) (I1.hok.fresh (Nat.le_refl _))
theorem irngO (ha : PE X a (rV (gx X) O fa)) : PI X tg a (iV (gx X) O (iRngO fa)) :=
  (pi_rngO ha).imp fun σ H R ⟨F, env, ds, hs, hf, q⟩ => by
    simp only [iRngO] at hf
    obtain ⟨x, h1, h2⟩ := bind_some hf
    refine ⟨F, env, x, hs, h1, fun v F1 H1 g1 r1 => ?_⟩
    unfold rngItems at h2
    split at h2
    · rename_i lo hi
      obtain ⟨z0, z00, z1, z2, z3, e4⟩ := rngSplit h2
      subst e4
      cases r1 with
      | rng h => exact ⟨_, lo, hi, rfl, g1.fh _ _ h, ⟨by omega, by omega, by omega, by omega⟩, q _ F1 H1 g1 (by rw [range_len]; exact z3) (itv_range lo _)⟩
    · cases h2
end
section
variable {X : Cx} {O : List Nat} {a b e tg : Expr} {fa fb : SE} {p pos p2 pos2 : Pos}
end
@[simp] def sExtO (i j : Nat) : SS := fun env => match env.getD i none, env.getD j none with
  | some (.list ds), some (.list es) => if ds.length + es.length ≤ sizeLine then some (.nx (env.set i (some (.list (ds ++ es))))) else none
  | _, _ => none
section
variable {X : Cx} {R : RK} {O O' Ob : List Nat} {pos : Pos}
end
end TL

set_option Elab.async false
set_option linter.all false
set_option maxRecDepth 100000
namespace TL
open PySem PySem.Spec PyProof.Rows L2
def runM (np j nl : Nat) (body : SS) (ds : List D) : Option D :=
  if ds.length = np then (body ((ds.take j).map some ++ none :: ((ds.drop j).map some ++ List.replicate nl none))).bind outD else none
def EnvR (G : Gx) (F : Hp) (env : Env) (σ : L2.St) : Prop := env.length = σ.length ∧ ∀ (i : Nat) (d : D), env[i]? = some (some d) → ∃ v, σ[i]? = some (some v) ∧ Rp G F v d
theorem envr_app {G : Gx} {F : Hp} {e1 e2 : Env} {s1 s2 : L2.St} (a : EnvR G F e1 s1) (b : EnvR G F e2 s2) : EnvR G F (e1 ++ e2) (s1 ++ s2) := by
  refine ⟨by rw [List.length_append, List.length_append, a.1, b.1], fun i d h => ?_⟩
  by_cases hi : i < e1.length
  · rw [List.getElem?_append_left hi] at h
    obtain ⟨v, h1, h2⟩ := a.2 i d h
    exact ⟨v, by rw [List.getElem?_append_left (by rw [← a.1]; exact hi)]; exact h1, h2⟩
  · rw [List.getElem?_append_right (by omega)] at h
    obtain ⟨v, h1, h2⟩ := b.2 _ d h
    exact ⟨v, by rw [List.getElem?_append_right (by rw [← a.1]; omega), ← a.1]; exact h1, h2⟩
theorem envr_some {G : Gx} {F : Hp} {us : List V} {ds : List D} (r : RpAll G F us ds) : EnvR G F (ds.map some) (us.map some) := by
  refine ⟨by rw [List.length_map, List.length_map, r.length], fun i d h => ?_⟩
  rw [List.getElem?_map] at h
  cases q : ds[i]? with
  | none => rw [q] at h; cases h
  | some d' =>
    rw [q] at h
    cases h
    obtain ⟨v, h1, h2⟩ := r.get q
    exact ⟨v, by rw [List.getElem?_map, h1]; rfl, h2⟩
theorem envr_none {G : Gx} {F : Hp} {v : Option V} : EnvR G F [none] [v] := ⟨rfl, fun i d h => by
  cases i with
  | zero => cases h
  | succ i => simp at h⟩
theorem envr_rep {G : Gx} {F : Hp} (n : Nat) : EnvR G F (List.replicate n none) (List.replicate n none) := ⟨by simp, fun i d h => by
  rw [List.getElem?_replicate] at h
  split at h <;> cases h⟩
theorem startM {N : List Str} {us : List V} {r : Addr} {ds : List D} {F H : Hp} {j nl : Nat} {G : Gx} (hN : N.length = ds.length + 1 + nl) (sm : Fz G F H) (rp : RpAll G F us ds) :
    SOk G [] F H (L2.start N (us.take j ++ .ref r :: us.drop j)) ((ds.take j).map some ++ none :: ((ds.drop j).map some ++ List.replicate nl none)) := by
  have hl : (us.take j ++ V.ref r :: us.drop j).length = ds.length + 1 := by
    rw [List.length_append, List.length_cons, List.length_take, List.length_drop, rp.length]
    omega
  have e : L2.start N (us.take j ++ .ref r :: us.drop j) = (us.take j).map some ++ ([some (V.ref r)] ++ ((us.drop j).map some ++ List.replicate nl none)) := by
    unfold L2.start
    rw [List.map_append, List.map_cons, hl, hN]
    rw [show ds.length + 1 + nl - (ds.length + 1) = nl by omega]
    simp
  have er := envr_app (envr_some (rp.take j)) (envr_app (e1 := [none]) (envr_none (v := some (V.ref r))) (envr_app (envr_some (rp.drop j)) (envr_rep (G := G) (F := F) nl)))
  rw [← e] at er
  exact ⟨sm.sm, er.1, fun i d h _ => er.2 i d h, fun i h => (by cases h), fun i h => (by cases h), sm.tb⟩
theorem env_at {ds : List D} {j c i nl : Nat} {a : D} (h : ds[c]? = some a) (hi : (c < j ∧ i = c) ∨ (j ≤ c ∧ i = c + 1)) : ((ds.take j).map some ++ none :: ((ds.drop j).map some ++ List.replicate nl none)).getD i none = some a := by
  have hc : c < ds.length := (List.getElem?_eq_some_iff.mp h).1
  rw [List.getD_eq_getElem?_getD]
  rcases hi with ⟨h1, rfl⟩ | ⟨h1, rfl⟩
  · rw [List.getElem?_append_left (by rw [List.length_map, List.length_take]; omega), List.getElem?_map, List.getElem?_take, if_pos h1, h]
    rfl
  · have hl : ((ds.take j).map some).length = j := by rw [List.length_map, List.length_take]; omega
    rw [List.getElem?_append_right (by omega), hl, show c + 1 - j = (c - j) + 1 by omega, List.getElem?_cons_succ,
      List.getElem?_append_left (by rw [List.length_map, List.length_drop]; omega), List.getElem?_map, List.getElem?_drop, show j + (c - j) = c by omega, h]
    rfl
section
variable {P : Program} {w : World} {G : Gx} {base : Heap} {u : D → Bool} {sp : D → D → D → D} {S : Sl}
theorem runM_go {N ps : List Str} {n j nl c1 c2 : Nat} {body : SS} {vs : List V} {H : Hp} {Q : VK} {E : XK} {U : MC} (hN : N.length = ps.length + nl) (hps : ps.length = n + 1) (h0 : S.i0 = j ∧ j ≤ n) (h1 : (c1 < j ∧ S.i1 = c1) ∨ (j ≤ c1 ∧ S.i1 = c1 + 1)) (h2 : (c2 < j ∧ S.i2 = c2) ∨ (j ≤ c2 ∧ S.i2 = c2 + 1))
    (h : spM U n j c1 c2 (runM n j nl body) vs H Q E) : mS U S [] [] [] body { nx := fun _ H' => Q .non H', rt := Q } (L2.start N vs) H := by
  obtain ⟨F, r, us, ds, a, b, d, rfl, sm, fr, ce, rp, hl, ha, hb, hm, q⟩ := h
  simp only [runM, hl, if_pos rfl] at hm
  obtain ⟨out, h3, h4⟩ := bind_some hm
  have lu := rp.length
  refine ⟨F, H, F, _, r, a, b, out, ⟨startM (by omega) sm rp, fr, ce, ?_, env_at ha h1, env_at hb h2⟩, ⟨Gr.refl sm.sm, fun i h => by cases h⟩, h3, ?_⟩
  · unfold L2.start
    have hlt : (us.take j).length = j := by rw [List.length_take]; omega
    rw [h0.1, List.getElem?_append_left (by rw [List.length_map, List.length_append, hlt, List.length_cons]; omega), List.getElem?_map, List.getElem?_append_right (by omega), hlt, Nat.sub_self]
    rfl
  · cases out with
    | nx e =>
      cases h4
      exact fun σ' F' H' s' f' k' => q .non F' H' ⟨f'.gr, s'.fr, s'.ce⟩ .non
    | rt d' =>
      cases h4
      exact q
    | bk e => cases h4
    | ct e => cases h4
theorem fnM {x qual : Str} {st : Stmt} {f : Addr} {fd : FuncData} {N ps : List Str} {k n j nl c1 c2 : Nat} {body : SS} (Fn : Fun G.K x qual st f fd) (Sc : FnScope N ps (defScope st)) (hN : N.length = ps.length + nl) (hps : ps.length = n + 1) (h0 : S.i0 = j ∧ j ≤ n) (h1 : (c1 < j ∧ S.i1 = c1) ∨ (j ≤ c1 ∧ S.i1 = c1 + 1)) (h2 : (c2 < j ∧ S.i2 = c2) ∨ (j ≤ c2 ∧ S.i2 = c2 + 1))
    (hb : ∀ (cdv : Value) (A : Around) (outer : List PySem.Env) (s : Shared) (H : Hp) (E : XK), Room k (A.deeper (envOfC qual (defScope st) s.heap.objs.size f cdv)) →
      PSs (cxOf CX0 P w G.K G.mg base N qual (defScope st) f cdv A outer s H E).nox (defBody st) (mS ⟨P, w, G, u, sp⟩ S [] [] [] body)) : FnOk P w G.K G.mg base CX0 (k + 1) f fd ps (spM ⟨P, w, G, u, sp⟩ n j c1 c2 (runM n j nl body)) := by
  refine Fn.ok Sc (fun vs H Q E h => ?_) (fun cdv A outer s H vs Q E hr h => ⟨_, hb cdv A outer s H E hr, runM_go hN hps h0 h1 h2 h⟩)
  obtain ⟨F, r, us, ds, a, b, d, rfl, sm, fr, ce, rp, hl, _, _⟩ := h
  rw [List.length_append, List.length_cons, List.length_take, List.length_drop, rp.length, hps]
  omega
theorem fnMC {x qual : Str} {st : Stmt} {f cc : Addr} {fd : FuncData} {N ps : List Str} {k n j nl c1 c2 : Nat} {body : SS} (Fn : FunC G.K x qual st f fd cc) (Sc : FnScope N ps (defScope st)) (hN : N.length = ps.length + nl) (hps : ps.length = n + 1) (h0 : S.i0 = j ∧ j ≤ n) (h1 : (c1 < j ∧ S.i1 = c1) ∨ (j ≤ c1 ∧ S.i1 = c1 + 1)) (h2 : (c2 < j ∧ S.i2 = c2) ∨ (j ≤ c2 ∧ S.i2 = c2 + 1))
    (hb : ∀ (A : Around) (outer : List PySem.Env) (s : Shared) (H : Hp) (E : XK), Room k (A.deeper (envOfC qual (defScope st) s.heap.objs.size f (.ref cc))) →
      PSs (cxOf CX0 P w G.K G.mg base N qual (defScope st) f (.ref cc) A outer s H E).nox (defBody st) (mS ⟨P, w, G, u, sp⟩ S [] [] [] body)) : FnOk P w G.K G.mg base CX0 (k + 1) f fd ps (spM ⟨P, w, G, u, sp⟩ n j c1 c2 (runM n j nl body)) := by
  obtain ⟨oc, od, kV, doc, pm, an, ct, osl, rfl, lk, hcd⟩ := Fn.ex
  refine fn_of lk hcd Sc (fun vs H Q E h => ?_) fun A outer s H vs Q E hr h => ⟨_, (hb A outer s H E hr).nox, runM_go hN hps h0 h1 h2 h⟩
  obtain ⟨F, r, us, ds, a, b, d, rfl, sm, fr, ce, rp, hl, _, _⟩ := h
  rw [List.length_append, List.length_cons, List.length_take, List.length_drop, rp.length, hps]
  omega
end
section
variable {X : Cx} {u : D → Bool} {sp : D → D → D → D} {S : Sl} {O O' O'' Ob : List Nat} {st : Stmt} {rest : List Stmt} {pos : Pos}
@[simp] def sKnown (i0 i1 i2 : Nat) (f : SS) : SS := fun env => (env.getD i1 none).bind fun _ => (env.getD i2 none).bind fun _ => f (env.set i0 none)
theorem mAsg_set {a : SE} {i : Nat} {te : TE} {D : Ends} {σ : L2.St} {H : Hp} (hte : ∀ Q, mV (mc X u sp) S O a σ H Q → te σ H Q) (hO : i ∉ O) (h0 : S.off [i]) (h : mS (mc X u sp) S O O Ob (sAsg a (TL.gName i)) D σ H) : tAsg te (L2.gName i) D σ H := by
  obtain ⟨F0, H0, F, env, r, a, b, out, ok, hf, ho, q⟩ := h
  simp only [sAsg, TL.gName] at ho
  obtain ⟨d, h1, h2⟩ := bind_some ho
  cases h2
  exact hte _ ⟨F, env, r, a, b, d, ok, h1, fun v F1 H1 g1 r1 => q _ F1 H1 ((ok.gr g1).set hO h0 r1) (fr_set (hf.step g1.g) hO) g1.ff⟩
theorem msetL {y : Str} {py : Pos} {elt tg iter : Expr} {ifs : List Expr} {scope : Scope} {own : List (Str × Nat)} {spos : Pos} {fi : SI} {g : SG} {c : ST} {f : SE} {sl : List Nat} (i : Nat) (hc : X.calm = true) (hN : X.N.Nodup) (hsw : swapsWith (.ListComp elt [⟨tg, iter, ifs, 0⟩] scope pos) (some (.Name y py)) spos.line X.env = pure true)
    (hi : PI X tg iter (iV (gx X) O fi)) (ok : BlkOk X.N X.env.scope scope own)
    (hg : ∀ (s : Shared) (H : Hp) (C : Addr) (cl : List (Str × Addr)) (fp : List Addr), PG (X.blk s H scope (compEnvC scope cl C X.env) fp) tg (tG (gx X) O sl g)) (ht : ∀ (s : Shared) (H : Hp) (C : Addr) (cl : List (Str × Addr)) (fp : List Addr), PTs (X.blk s H scope (compEnvC scope cl C X.env) fp) ifs (mT (mc X u sp) S O c))
    (he : ∀ (s : Shared) (H : Hp) (C : Addr) (cl : List (Str × Addr)) (fp : List Addr), PE (X.blk s H scope (compEnvC scope cl C X.env) fp) elt (mV (mc X u sp) S O f)) (hk : SgKeep g sl) (hO' : i ∉ O := by decide) (h0' : S.off [i] := by decide) (hy : X.N[i]? = some y := by rfl) (hyl : X.env.scope.names.lookup y = some .local := by rfl) (hsl : ∀ j ∈ sl, j ∈ own.map (·.2) := by decide) (hO : ∀ j ∈ own.map (·.2), j ∉ O := by decide) (h0 : S.off (own.map (·.2)) := by decide) (hs : ∀ x, foldedSetIterable iter X.env x = pure x := by intro _; rfl) :
    PS X (.Assign [.Name y py] (.ListComp elt [⟨tg, iter, ifs, 0⟩] scope pos) spos) (mS (mc X u sp) S O O Ob (sAsg (eLc (own.map (·.2)) fi g c f) (TL.gName i))) :=
  (ps_setLc hc hN hy hyl hsw hi ok hg ht he hs).imp fun D σ H h => mAsg_set (fun Q q => mlc_read hk hsl hO h0 q) hO' h0' h
end
end TL

set_option Elab.async false
set_option linter.all false
set_option maxRecDepth 100000
namespace LB
open PySem TL
structure Wd where
  n : Int
  m0 : List Int
  m1 : List Int
  ar : List (Int × Int)
def tI (l : List Int) : D := .tuple (l.map .int)
def tP (l : List (Int × Int)) : D := .tuple (l.map prD)
def Wd.d (w : Wd) : D := .tuple [.int w.n, .tuple [tI w.m0, tI w.m1], tP w.ar]
def inOf (d : D) : List Int := match d with
  | .tuple l => (intsOf l).getD []
  | _ => []
def prOf (d : D) : List (Int × Int) := match d with
  | .tuple l => (prsOf l).getD []
  | _ => []
def wdOf : D → Wd
  | .tuple [.int n, .tuple [a, b], c] => ⟨n, inOf a, inOf b, prOf c⟩
  | _ => ⟨0, [], [], []⟩
theorem intsOf_map : ∀ l : List Int, intsOf (l.map .int) = some l
  | [] => rfl
  | i :: l => by rw [List.map_cons, intsOf, intsOf_map l]; rfl
theorem prsOf_map : ∀ l : List (Int × Int), prsOf (l.map prD) = some l
  | [] => rfl
  | (i, j) :: l => by
    rw [List.map_cons]
    show (prsOf (l.map prD)).map ((i, j) :: ·) = _
    rw [prsOf_map l]; rfl
theorem inOf_tI (l : List Int) : inOf (tI l) = l := by
  show (intsOf (l.map .int)).getD [] = l
  rw [intsOf_map]; rfl
theorem prOf_tP (l : List (Int × Int)) : prOf (tP l) = l := by
  show (prsOf (l.map prD)).getD [] = l
  rw [prsOf_map]; rfl
theorem wdOf_d (w : Wd) : wdOf w.d = w := by
  show (⟨w.n, inOf (tI w.m0), inOf (tI w.m1), prOf (tP w.ar)⟩ : Wd) = w
  rw [inOf_tI, inOf_tI, prOf_tP]
def fitB (w u : Wd) (p q : Int × Int) : Bool :=
  decide (decide (p.1 = q.1) = decide (p.2 = q.2)) && (decide (decide (p.1 ∈ w.m0) = decide (p.2 ∈ u.m0)) && decide (decide (p.1 ∈ w.m1) = decide (p.2 ∈ u.m1)))
  && (decide (decide ((p.1, q.1) ∈ w.ar) = decide ((p.2, q.2) ∈ u.ar)) && decide (decide ((q.1, p.1) ∈ w.ar) = decide ((q.2, p.2) ∈ u.ar)))
def growB (w u : Wd) (ps : List (Int × Int)) (p : Int × Int) : Bool := fitB w u p p && ps.all fun q => fitB w u p q
def putP (ps : List (Int × Int)) (p : Int × Int) : List (Int × Int) := if p ∈ ps then ps else isort ltPr (ps ++ [p])
def canB (w u : Wd) : Nat → List (Int × Int) → Bool
  | 0, _ => true
  | k + 1, ps => ((rangeI 0 w.n.toNat).all fun a => (rangeI 0 u.n.toNat).any fun b => growB w u ps (a, b) && canB w u k (putP ps (a, b))) &&
    (rangeI 0 u.n.toNat).all fun b => (rangeI 0 w.n.toNat).any fun a => growB w u ps (a, b) && canB w u k (putP ps (a, b))
def spGo (one two key : D) : D := match key with
  | .tuple [ps, .int k] => .bool (canB (wdOf one) (wdOf two) k.toNat (prOf ps))
  | _ => .none
def inR (n : Int) (p : Int × Int) : Bool := decide (0 ≤ p.1) && decide (p.1 < n) && decide (0 ≤ p.2) && decide (p.2 < n)
def ascF : List (Int × Int) → Bool
  | [] => true
  | [_] => true
  | p :: q :: r => decide (p.1 < q.1) && ascF (q :: r)
def okGo (ps : List (Int × Int)) (k : Int) : Bool := decide (0 ≤ k) && ((ps.all (inR 8) && Nat.ble (ps.length + k.toNat) 3) || (ps.all (inR 6) && (ascF ps && Nat.ble k.toNat 6)))
def uGo : D → Bool
  | .tuple [.tuple l, .int k] => match prsOf l with
    | some ps => okGo ps k
    | none => false
  | _ => false
def upto {α : Type} (A : List α) : Nat → List (List α)
  | 0 => [[]]
  | n + 1 => [] :: A.flatMap fun a => (upto A n).map (a :: ·)
theorem flat_lenM {α β : Type} (f : α → List β) (m : Nat) : ∀ l : List α, (∀ a ∈ l, (f a).length = m) → (l.flatMap f).length = l.length * m
  | [], _ => by simp
  | a :: l, h => by
    rw [List.flatMap_cons, List.length_append, flat_lenM f m l fun b hb => h b (List.mem_cons_of_mem _ hb), h a List.mem_cons_self, List.length_cons, Nat.succ_mul, Nat.add_comm]
theorem upto_len {α : Type} (A : List α) (n : Nat) : (upto A (n + 1)).length = 1 + A.length * (upto A n).length := by
  show ([] :: A.flatMap fun a => (upto A n).map (a :: ·)).length = _
  rw [List.length_cons, flat_lenM _ (upto A n).length A fun a _ => by rw [List.length_map], Nat.add_comm]
theorem upto_mem {α : Type} {A : List α} : ∀ {n : Nat} {l : List α}, l.length ≤ n → (∀ a ∈ l, a ∈ A) → l ∈ upto A n
  | 0, l, h, _ => by
    have : l = [] := List.length_eq_zero_iff.mp (by omega)
    subst this
    exact List.mem_cons_self
  | n + 1, [], _, _ => List.mem_cons_self
  | n + 1, a :: l, h, ha => List.mem_cons_of_mem _ (List.mem_flatMap.mpr ⟨a, ha a List.mem_cons_self, List.mem_map.mpr ⟨l, upto_mem (by simpa using h) fun b hb => ha b (List.mem_cons_of_mem _ hb), rfl⟩⟩)
def sq (n : Nat) : List (Int × Int) := (rangeI 0 n).flatMap fun a => (rangeI 0 n).map fun b => (a, b)
theorem sq_len (n : Nat) : (sq n).length = n * n := by
  unfold sq
  rw [flat_lenM _ n _ fun a _ => by rw [List.length_map, rangeI_len], rangeI_len]
theorem sq_mem {n : Nat} {p : Int × Int} (h : inR n p = true) : p ∈ sq n := by
  simp only [inR, Bool.and_eq_true, decide_eq_true_eq] at h
  exact List.mem_flatMap.mpr ⟨p.1, rangeI_mem.mpr (by omega), List.mem_map.mpr ⟨p.2, rangeI_mem.mpr (by omega), rfl⟩⟩
def ascL : Nat → Int → List (List (Int × Int))
  | 0, _ => [[]]
  | n + 1, lo => ascL n (lo + 1) ++ (rangeI 0 6).flatMap fun b => (ascL n (lo + 1)).map ((lo, b) :: ·)
theorem ascL_len : ∀ (n : Nat) (lo : Int), (ascL n lo).length = 7 ^ n
  | 0, _ => rfl
  | n + 1, lo => by
    rw [ascL, List.length_append, flat_lenM _ (7 ^ n) _ fun b _ => by rw [List.length_map, ascL_len], ascL_len, rangeI_len, Nat.pow_succ]
    omega
theorem ascF_lt : ∀ {p : Int × Int} {l : List (Int × Int)}, ascF (p :: l) = true → ∀ q ∈ l, p.1 < q.1
  | _, [], _, _, h => by cases h
  | p, q :: r, h, x, hx => by
    simp only [ascF, Bool.and_eq_true, decide_eq_true_eq] at h
    rcases List.mem_cons.mp hx with rfl | hx
    · exact h.1
    · have := ascF_lt h.2 x hx
      omega
theorem ascF_tail {p : Int × Int} {l : List (Int × Int)} (h : ascF (p :: l) = true) : ascF l = true := by
  cases l with
  | nil => rfl
  | cons q r =>
    simp only [ascF, Bool.and_eq_true] at h
    exact h.2
theorem ascL_nil : ∀ (n : Nat) (lo : Int), [] ∈ ascL n lo
  | 0, _ => List.mem_cons_self
  | n + 1, lo => List.mem_append_left _ (ascL_nil n (lo + 1))
theorem ascL_mem : ∀ {n : Nat} {lo : Int} {l : List (Int × Int)}, ascF l = true → (∀ p ∈ l, lo ≤ p.1 ∧ p.1 < lo + n ∧ 0 ≤ p.2 ∧ p.2 < 6) → l ∈ ascL n lo
  | n, lo, [], _, _ => ascL_nil n lo
  | 0, lo, p :: l, _, h => by have := h p List.mem_cons_self; omega
  | n + 1, lo, p :: l, ha, h => by
    have hp := h p List.mem_cons_self
    have hl := ascF_lt ha
    rw [ascL]
    by_cases e : p.1 = lo
    · refine List.mem_append_right _ (List.mem_flatMap.mpr ⟨p.2, rangeI_mem.mpr (by omega), List.mem_map.mpr ⟨l, ascL_mem (ascF_tail ha) fun q hq => ?_, ?_⟩⟩)
      · have := h q (List.mem_cons_of_mem _ hq)
        have := hl q hq
        omega
      · rw [← e]
    · refine List.mem_append_left _ (ascL_mem ha fun q hq => ?_)
      have := h q hq
      rcases List.mem_cons.mp hq with rfl | hq
      · omega
      · have := hl q hq
        omega
def kPr (p : Int × Int) : NestedKey := .tup [.num p.1, .num p.2]
def kGo (x : List (Int × Int) × Int) : NestedKey := .tup [.tup (x.1.map kPr), .num x.2]
theorem keyD_pr (p : Int × Int) : keyD (prD p) = some (kPr p) := rfl
theorem keyAll_prs : ∀ ps : List (Int × Int), keyAll (ps.map prD) = some (ps.map kPr)
  | [] => rfl
  | p :: ps => by
    rw [List.map_cons, keyAll, keyD_pr, keyAll_prs ps]
    rfl
theorem keyD_go (ps : List (Int × Int)) (k : Int) : keyD (.tuple [.tuple (ps.map prD), .int k]) = some (kGo (ps, k)) := by
  simp only [keyD, keyAll, keyAll_prs]
  rfl
theorem kPr_inj : ∀ {l m : List (Int × Int)}, l.map kPr = m.map kPr → l = m
  | [], [], _ => rfl
  | [], _ :: _, h => by cases h
  | _ :: _, [], h => by cases h
  | (a, b) :: l, (c, d) :: m, h => by
    rw [List.map_cons, List.map_cons] at h
    injection h with h1 h2
    simp only [kPr, NestedKey.tup.injEq, List.cons.injEq, NestedKey.num.injEq, and_true] at h1
    rw [kPr_inj h2, h1.1, h1.2]
theorem depth_prs : ∀ ps : List (Int × Int), NestedKey.depthAll (ps.map kPr) ≤ 1
  | [] => Nat.zero_le _
  | p :: ps => by
    rw [List.map_cons, NestedKey.depthAll]
    have := depth_prs ps
    have e : (kPr p).depth = 1 := rfl
    rw [e]
    exact Nat.max_le.mpr ⟨Nat.le_refl _, this⟩
theorem depth_go (x : List (Int × Int) × Int) : (kGo x).depth ≤ 8 := by
  have := depth_prs x.1
  simp only [kGo, NestedKey.depth, NestedKey.depthAll]
  omega
theorem uGo_inv {kd : D} (h : uGo kd = true) : ∃ ps k, kd = .tuple [.tuple (ps.map prD), .int k] ∧ okGo ps k = true := by
  unfold uGo at h
  split at h
  · rename_i l k
    split at h
    · rename_i ps e
      exact ⟨ps, k, by rw [prs_get e], h⟩
    · cases h
  · cases h
theorem uGo_of {ps : List (Int × Int)} {k : Int} (h : okGo ps k = true) : uGo (.tuple [.tuple (ps.map prD), .int k]) = true := by
  show (match prsOf (ps.map prD) with
    | some ps => okGo ps k
    | none => false) = true
  rw [prsOf_map]
  exact h
def keysGo : List (List (Int × Int) × Int) := ((upto (sq 8) 3).flatMap fun l => (rangeI 0 4).map fun k => (l, k)) ++ (ascL 6 0).flatMap fun l => (rangeI 0 7).map fun k => (l, k)
theorem upto3 {α : Type} (A : List α) (h : A.length = 64) : (upto A 3).length = 266305 := by
  have h0 : (upto A 0).length = 1 := rfl
  have h1 := upto_len A 0
  have h2 := upto_len A 1
  have h3 := upto_len A 2
  simp only [Nat.zero_add, Nat.reduceAdd, h0, h] at h1 h2 h3
  omega
theorem keysGo_len : keysGo.length < 16000000 := by
  have h1 : ((upto (sq 8) 3).flatMap fun l => (rangeI 0 4).map fun k => (l, k)).length = (upto (sq 8) 3).length * 4 := flat_lenM _ 4 _ fun l _ => by rw [List.length_map, rangeI_len]
  have h2 : ((ascL 6 0).flatMap fun l => (rangeI 0 7).map fun k => (l, k)).length = (ascL 6 0).length * 7 := flat_lenM _ 7 _ fun l _ => by rw [List.length_map, rangeI_len]
  have h3 := upto3 (sq 8) (sq_len 8)
  have h4 : (ascL 6 0).length = 7 ^ 6 := ascL_len 6 0
  unfold keysGo
  rw [List.length_append, h1, h2, h3, h4]
  omega
theorem keysGo_mem {ps : List (Int × Int)} {k : Int} (h : okGo ps k = true) : (ps, k) ∈ keysGo := by
  simp only [okGo, Bool.and_eq_true, Bool.or_eq_true, decide_eq_true_eq, Nat.ble_eq, List.all_eq_true] at h
  rcases h with ⟨hk, ⟨h1, h2⟩ | ⟨h1, h2, h3⟩⟩
  · refine List.mem_append_left _ (List.mem_flatMap.mpr ⟨ps, upto_mem (by omega) fun p hp => sq_mem (n := 8) (h1 p hp), List.mem_map.mpr ⟨k, rangeI_mem.mpr (by omega), rfl⟩⟩)
  · refine List.mem_append_right _ (List.mem_flatMap.mpr ⟨ps, ascL_mem h2 fun p hp => ?_, List.mem_map.mpr ⟨k, rangeI_mem.mpr (by omega), rfl⟩⟩)
    have := h1 p hp
    simp only [inR, Bool.and_eq_true, decide_eq_true_eq] at this
    omega
theorem ok_uGo : UOk uGo where
  fin := ⟨keysGo.map kGo, by rw [List.length_map]; exact keysGo_len, fun kd h => by
    obtain ⟨ps, k, rfl, h2⟩ := uGo_inv h
    exact ⟨kGo (ps, k), List.mem_map.mpr ⟨_, keysGo_mem h2, rfl⟩, keyD_go ps k, depth_go _⟩⟩
  inj := fun kd kd' h h' e => by
    obtain ⟨ps, k, rfl, _⟩ := uGo_inv h
    obtain ⟨ps', k', rfl, _⟩ := uGo_inv h'
    rw [keyD_go, keyD_go] at e
    have e := Option.some.inj e
    simp only [kGo, NestedKey.tup.injEq, List.cons.injEq, NestedKey.num.injEq, and_true] at e
    rw [kPr_inj e.1, e.2]
  tup := fun kd h => by
    obtain ⟨ps, k, rfl, _⟩ := uGo_inv h
    exact ⟨_, rfl⟩
inductive Say where
  | mark (i : Int) (x : Nat) | same (x y : Nat) | arrow (x y : Nat)
def Say.d : Say → D
  | .mark i x => .tuple [.str "mark", .int i, .int x]
  | .same x y => .tuple [.str "same", .int x, .int y]
  | .arrow x y => .tuple [.str "arrow", .int x, .int y]
def okDif (a b : List Int) (k : Int) : Bool := decide (0 ≤ k) && decide (a.length = b.length) && (((a.zip b).all (inR 8) && Nat.ble (a.length + k.toNat) 3) || ((a.zip b).all (inR 5) && (Nat.beq (a.length + k.toNat) 4 || Nat.beq (a.length + k.toNat) 5)))
end LB

set_option Elab.async false
set_option linter.all false
set_option maxRecDepth 100000
namespace TL
open PySem PySem.Spec PyProof.Rows L2
@[simp] def sNo : SS := fun _ => none
section
variable {X : Cx} {R : RK} {O O' Ob : List Nat} {st : Stmt} {a : Expr} {f : SE}
end
end TL
namespace TL
open PySem PySem.Spec PyProof.Rows L2
section
variable {X : Cx} {O : List Nat} {a b : Expr} {f g : SE}
end
end TL
namespace TL
open PySem PySem.Spec PyProof.Rows L2
section
variable {X : Cx} {O : List Nat} {a b : Expr} {f g : SE}
end
@[simp] def sPar3 (i j l : Nat) (a b c : SE) : SS := fun env => (a env).bind fun x => (b env).bind fun y => (c env).map fun z => .nx (((env.set i (some x)).set j (some y)).set l (some z))
section
variable {X : Cx} {R : RK} {O Ob : List Nat} {pos : Pos}
end
end TL

set_option Elab.async false
set_option linter.all false
set_option maxRecDepth 100000
namespace TL
open PySem PySem.Spec PyProof.Rows L2
section
variable {X : Cx}
end
@[simp] def eRngT (a : SE) : SE := fun env => (a env).bind fun x => (toI x).bind fun n => (rangeD 0 n).map .tuple
end TL

set_option Elab.async false
set_option linter.all false
set_option maxRecDepth 100000
namespace TL
open PySem PySem.Spec PyProof.Rows L2
section
variable {X : Cx} {O : List Nat}
end
end TL

set_option Elab.async false
set_option linter.all false
set_option maxRecDepth 100000
namespace TL
open PySem PySem.Spec PyProof.Rows L2
def keyT : D → Option NestedKey
  | .tuple es => (keyD (.tuple es)).bind fun k => if Nat.ble k.depth 8 = true then some k else none
  | _ => none
def dgetP : List (D × D) → NestedKey → Option D
  | [], _ => none
  | (a, b) :: r, k => if keyD a = some k then some b else dgetP r k
def dputP : List (D × D) → NestedKey → D → D → List (D × D)
  | [], _, kd, vd => [(kd, vd)]
  | (a, b) :: r, k, kd, vd => if keyD a = some k then (a, vd) :: r else (a, b) :: dputP r k kd vd
def prsK : D → Option (List (D × D))
  | .dict ((.none, .none) :: kvs) => some kvs
  | _ => none
def mkK (kvs : List (D × D)) : D := .dict ((.none, .none) :: kvs)
@[simp] def sSetK (i : Nat) (fk fv : SE) : SS := fun env => (fv env).bind fun y => (fk env).bind fun kd => (keyT kd).bind fun k => match (env.getD i none).bind prsK with
  | some kvs => if Nat.ble kvs.length 1000000 = true then some (.nx (env.set i (some (mkK (dputP kvs k kd y))))) else none
  | none => none
inductive Al (G : Gx) (F : Hp) : List NestedKey → List V → List D → Prop
  | nil : Al G F [] [] []
  | cons {k : NestedKey} {b : Addr} {es : List D} {v : V} {vd : D} {ks : List NestedKey} {vs : List V} {ds : List D} : keyD (.tuple es) = some k → Rp G F (.ref b) (.tuple es) → Rp G F v vd → Al G F ks vs ds → Al G F (k :: ks) (.ref b :: v :: vs) (.tuple es :: vd :: ds)
section
variable {G : Gx} {F F' : Hp}
theorem Al.of : ∀ {ks : List NestedKey} {vs : List V} {ds : List D}, RpAll G F vs ds → keyAll (keysD ds) = some ks → ds.length = 2 * ks.length → (∀ d ∈ keysD ds, ∃ es, d = .tuple es) → Al G F ks vs ds
  | [], vs, ds, r, _, hl, _ => by
    have : ds = [] := List.eq_nil_of_length_eq_zero (by simpa using hl)
    subst this
    cases r
    exact .nil
  | k :: ks, vs, ds, r, hk, hl, ht => by
    match ds, r, hk, hl, ht with
    | [], _, _, hl, _ => simp at hl
    | [_], _, _, hl, _ => simp at hl; omega
    | a :: b :: ds, .cons ra (.cons rb r), hk, hl, ht =>
      simp only [keysD, keyAll] at hk
      obtain ⟨k', h1, hk⟩ := bind_some hk
      obtain ⟨ks', h2, h3⟩ := map_some hk
      cases h3
      obtain ⟨es, rfl⟩ := ht a (by simp [keysD])
      have rest := Al.of r h2 (by simp only [List.length_cons] at hl ⊢; omega) fun d hd => ht d (by simp only [keysD]; exact List.mem_cons_of_mem _ hd)
      cases ra with
      | tup q1 q2 => exact .cons h1 (.tup q1 q2) rb rest
theorem Al.rp {ks : List NestedKey} {vs : List V} {ds : List D} (h : Al G F ks vs ds) : RpAll G F vs ds ∧ keyAll (keysD ds) = some ks ∧ ds.length = 2 * ks.length ∧ (∀ d ∈ keysD ds, ∃ es, d = .tuple es) := by
  induction h with
  | nil => exact ⟨.nil, rfl, rfl, fun d hd => by cases hd⟩
  | cons h1 h2 h3 _ ih =>
    obtain ⟨i1, i2, i3, i4⟩ := ih
    refine ⟨.cons h2 (.cons h3 i1), ?_, by simp only [List.length_cons, i3]; omega, fun d hd => ?_⟩
    · simp only [keysD, keyAll, h1, i2, Option.bind_some, Option.map_some]
    · simp only [keysD] at hd
      rcases List.mem_cons.mp hd with rfl | hd
      · exact ⟨_, rfl⟩
      · exact i4 d hd
theorem Al.ents {ks : List NestedKey} {vs : List V} {ds : List D} (h : Al G F ks vs ds) : (entsOf ks vs).map (·.1) = ks ∧ ∀ x ∈ entsOf ks vs, ∃ kd, keyD kd = some x.1 ∧ Rp G F (.ref x.2.1) kd := by
  induction h with
  | nil => exact ⟨rfl, fun x hx => by cases hx⟩
  | cons h1 h2 h3 _ ih =>
    obtain ⟨i1, i2⟩ := ih
    refine ⟨by simp only [entsOf, List.map_cons, i1], fun x hx => ?_⟩
    simp only [entsOf] at hx
    rcases List.mem_cons.mp hx with rfl | hx
    · exact ⟨_, h1, h2⟩
    · exact i2 x hx
theorem Al.at_ {ks : List NestedKey} {vs : List V} {ds : List D} (h : Al G F ks vs ds) (k : NestedKey) : (dgetP (prsD ds) k = none ∧ atV (entsOf ks vs) k = none) ∨ ∃ vd v, dgetP (prsD ds) k = some vd ∧ atV (entsOf ks vs) k = some v ∧ Rp G F v vd := by
  induction h with
  | nil => exact .inl ⟨rfl, rfl⟩
  | @cons k' b es v vd ks vs ds h1 h2 h3 _ ih =>
    simp only [prsD, dgetP, entsOf, atV, List.find?_cons]
    by_cases hk : k' = k
    · subst hk
      rw [if_pos h1]
      refine .inr ⟨vd, v, rfl, ?_, h3⟩
      simp
    · rw [if_neg (fun z => hk (by rw [h1] at z; exact Option.some.inj z)), show (decide (k' = k)) = false from decide_eq_false hk]
      exact ih
theorem atV_cons {k k' : NestedKey} {b : Addr} {v : V} {xs : List KEnt} : atV ((k', b, v) :: xs) k = if k' = k then some v else atV xs k := by
  by_cases h : k' = k
  · simp [atV, h]
  · simp [atV, h]
theorem map_same {k : NestedKey} {v : V} {xs : List KEnt} (h : k ∉ xs.map (·.1)) : (xs.map fun x => if x.1 = k then (x.1, x.2.1, v) else x) = xs := by
  induction xs with
  | nil => rfl
  | cons x xs ih =>
    rw [List.map_cons, if_neg (fun e => h (by rw [List.map_cons, ← e]; exact List.mem_cons_self)), ih (fun z => h (by rw [List.map_cons]; exact List.mem_cons_of_mem _ z))]
theorem Al.put {ks : List NestedKey} {vs : List V} {ds : List D} (h : Al G F ks vs ds) (nd : ks.Nodup) {k : NestedKey} {b : Addr} {es : List D} {v : V} {vd : D} (hk : keyD (.tuple es) = some k) (rk : Rp G F (.ref b) (.tuple es)) (rv : Rp G F v vd) :
    ∃ ks' vs' ds', Al G F ks' vs' ds' ∧ prsD ds' = dputP (prsD ds) k (.tuple es) vd ∧ entsOf ks' vs' = putR (entsOf ks vs) k b v ∧ ks'.Nodup ∧ ks'.length ≤ ks.length + 1 ∧ ∀ z ∈ ks', z = k ∨ z ∈ ks := by
  induction h with
  | nil => exact ⟨[k], [.ref b, v], [.tuple es, vd], .cons hk rk rv .nil, rfl, rfl, by simp, by simp, fun z hz => .inl (List.mem_singleton.mp hz)⟩
  | @cons k' b' es' v' vd' ks vs ds h1 h2 h3 h4 ih =>
    obtain ⟨n1, n2⟩ := List.nodup_cons.mp nd
    by_cases e : k' = k
    · subst e
      refine ⟨k' :: ks, .ref b' :: v :: vs, .tuple es' :: vd :: ds, .cons h1 h2 rv h4, ?_, ?_, nd, by simp, fun z hz => .inr hz⟩
      · simp only [prsD, dputP]
        rw [if_pos h1]
      · simp only [entsOf, putR, atV_cons, if_true, Option.isSome_some, List.map_cons]
        rw [map_same (by rw [(Al.ents h4).1]; exact n1)]
    · obtain ⟨ks', vs', ds', i1, i2, i3, i4, i5, i6⟩ := ih n2
      refine ⟨k' :: ks', .ref b' :: v' :: vs', .tuple es' :: vd' :: ds', .cons h1 h2 h3 i1, ?_, ?_, List.nodup_cons.mpr ⟨fun hm => ?_, i4⟩, by simp only [List.length_cons]; omega, fun z hz => ?_⟩
      · simp only [prsD, dputP]
        rw [if_neg (fun z => e (by rw [h1] at z; exact Option.some.inj z)), i2]
      · simp only [entsOf, i3]
        unfold putR
        rw [atV_cons, if_neg e]
        split
        · rw [List.map_cons, if_neg e]
        · rfl
      · rcases i6 k' hm with z | z
        · exact e z
        · exact n1 z
      · rcases List.mem_cons.mp hz with rfl | hz
        · exact .inr List.mem_cons_self
        · rcases i6 z hz with z' | z'
          · exact .inl z'
          · exact .inr (List.mem_cons_of_mem _ z')
end
section
variable {G : Gx} {F H : Hp}
end
section
variable {X : Cx} {O : List Nat} {F H : Hp}
theorem kdat {r : Addr} {o : Option Obj} {ks : List NestedKey} {vs : List V} {ds : List D} (h1 : Rd H r (rawO (gx X).P (gx X).w r (entsOf ks vs))) (h2 : Al (gx X) F ks vs ds) (h3 : KdOk r (.dct o ks) ds) : KDat X.prog X.w (gx X) F H r (entsOf ks vs) := by
  obtain ⟨k1, k2, k3, k4, k5, k6, k7⟩ := h3
  obtain ⟨e1, e2⟩ := h2.ents
  refine ⟨k6, h1, by rw [e1]; exact k2, ?_, fun x hx => ?_⟩
  · have := congrArg List.length e1
    rw [List.length_map] at this
    rw [this]
    exact k3
  · obtain ⟨kd, q1, q2⟩ := e2 x hx
    exact ⟨kd, q1, k5 _ (by rw [← e1]; exact List.mem_map.mpr ⟨x, hx, rfl⟩), q2⟩
variable {a b : Expr} {fa fb : SE} {pos p2 : Pos}
end
section
variable {X : Cx} {R : RK} {O Ob : List Nat} {ei ev : Expr} {fi fv : SE} {p1 pos pos' : Pos} {x : Str}
end
end TL

set_option Elab.async false
set_option linter.all false
set_option maxRecDepth 100000
namespace TL
open PySem PySem.Spec PyProof.Rows L2
section
variable {P : Program} {w : World} {G : Gx} {base : Heap}
end
section
variable {X : Cx} {E : XK} {O O' Ob : List Nat} {st : Stmt} {sts : List Stmt} {pos : Pos}
variable {fx : Str} {k n : Nat} {fa : Addr} {fd : FuncData} {ps : List Str} {m : List D → Option D} {e tg : Expr} {es : List Expr} {l : List SE} {g : SG} {sl : List Nat} {p p2 : Pos}
end
section
variable {X : Cx} {R : RK} {O O' Ob : List Nat} {i : Nat} {a : Addr} {e e2 : Expr} {rest : List Expr} {f f2 : SE} {t t2 : ST} {pos : Pos}
end
section
variable {X : Cx} {O : List Nat} {i : Nat} {a Dc : Addr} {oe : Obj} {pn : List (Addr × Obj)} {n y : Str} {p p0 p1 p2 : Pos}
end
section
variable {X : Cx} {O : List Nat} {i : Nat} {a : Addr} {e : Expr} {f : SE}
end
section
variable {X : Cx} {R : RK} {O O' Ob : List Nat} {i k nn : Nat} {x wx fx n : Str} {C W fa : Addr} {fd : FuncData} {ps : List Str} {m : List D → Option D} {e tg : Expr} {es : List Expr} {l : List SE} {g : SG} {sl : List Nat} {rest suite : List Stmt} {b₀ : Stmt} {fr fh : SS} {p p2 p3 np pos pos' : Pos}
end
end TL
namespace TL
open PySem PySem.Spec PyProof.Rows L2
end TL

set_option Elab.async false
set_option linter.all false
set_option maxRecDepth 100000
namespace TL
open PySem PySem.Spec PyProof.Rows L2
def addTo (v : D) : List Bool → List (List D) → List (List D)
  | true :: _, l :: L => (l ++ [v]) :: L
  | false :: bs, l :: L => l :: addTo v bs L
  | _, [] => [[v]]
  | [], l :: L => l :: L
def flags (T : ST) (it : Nat) (env : Env) : List (List D) → Option (List Bool)
  | [] => some []
  | l :: L => (T ((wipeE env [it]).set it (some (.list l)))).bind fun b => (flags T it env L).map (b :: ·)
def lotsGo (T : ST) (iv it : Nat) (env : Env) : List D → List (List D) → Option (List (List D))
  | [], L => some L
  | v :: vs, L => (flags T it (env.set iv (some v)) L).bind fun bs => lotsGo T iv it env vs (addTo v bs L)
def clr4 (env : Env) (il iv im it : Nat) : Env := (((env.set il none).set iv none).set im none).set it none
def sLots (il iv im it : Nat) (fi : SI) (T : ST) : SS := fun env => match env.getD il none with
  | some (.list []) => (fi env).bind fun ds => (lotsGo T iv it (clr4 env il iv im it) ds []).map fun L => .nx ((clr4 env il iv im it).set il (some (.list (L.map .list))))
  | _ => none
def shut (F H : Hp) (ps : List Addr) : Hp := fun b => if b ∈ ps then H b else F b
theorem shut_in {F H : Hp} {ps : List Addr} {b : Addr} (h : b ∈ ps) : shut F H ps b = H b := by show (if b ∈ ps then H b else F b) = _; rw [if_pos h]
theorem shut_out {F H : Hp} {ps : List Addr} {b : Addr} (h : b ∉ ps) : shut F H ps b = F b := by show (if b ∈ ps then H b else F b) = _; rw [if_neg h]
theorem shut_ge {F H : Hp} {ps : List Addr} (h : ∀ p ∈ ps, F p = none) : Same F (shut F H ps) := fun b o e => by
  rw [shut_out fun m => by rw [h b m] at e; cases e]
  exact e
theorem shut_le {F H : Hp} {ps : List Addr} (h : Same F H) : Same (shut F H ps) H := fun b o e => by
  by_cases m : b ∈ ps
  · rw [shut_in m] at e; exact e
  · rw [shut_out m] at e; exact h b o e
theorem TbOk.sub {G : Gx} {F F2 H : Hp} (t : TbOk G F2 H) (s : Same F F2) : TbOk G F H := fun x hx c P e => by
  obtain ⟨h1, h2⟩ := t x hx c P e
  refine ⟨?_, h2⟩
  cases q : F P with
  | none => rfl
  | some o => rw [s P o q] at h1; cases h1
theorem TbOk.shut {G : Gx} {F H : Hp} (t : TbOk G F H) {ps : List Addr} (h : ∀ p ∈ ps, ∃ vs, H p = some (.lst vs)) : TbOk G (shut F H ps) H := fun x hx c P e => by
  obtain ⟨h1, h2⟩ := t x hx c P e
  refine ⟨?_, h2⟩
  rw [shut_out fun m => ?_]
  · exact h1
  · obtain ⟨vs, h3⟩ := h P m
    obtain ⟨z, h4, _⟩ := h2
    rw [h3] at h4
    cases h4
theorem SOk.at_ {G : Gx} {F H F2 H2 : Hp} {σ : L2.St} {env : Env} (s : SOk G [] F H σ env) (a : Same F F2) (b : Same F2 H2) (t : TbOk G F2 H2) : SOk G [] F2 H2 σ env :=
  ⟨b, s.len, fun i d e n => let ⟨v, h1, h2⟩ := s.imm i d e n; ⟨v, h1, h2.mono a⟩, (fun i hi => by cases hi), (fun i hi => by cases hi), t⟩
theorem SOk.setN {G : Gx} {F H : Hp} {σ : L2.St} {env : Env} (s : SOk G [] F H σ env) {i : Nat} (h : ∀ d, env[i]? ≠ some (some d)) (v : Option V) : SOk G [] F H (σ.set i v) env := by
  refine ⟨s.fh, by rw [List.length_set]; exact s.len, fun j d e n => ?_, (fun i hi => by cases hi), (fun i hi => by cases hi), s.tb⟩
  by_cases ij : i = j
  · subst ij
    exact absurd e (h d)
  · rw [List.getElem?_set_ne ij]
    exact s.imm j d e n
theorem SOk.hide {G : Gx} {O : List Nat} {F H : Hp} {σ : L2.St} {env e2 : Env} (s : SOk G O F H σ env) (l : e2.length = env.length) (h : ∀ i d, e2[i]? = some (some d) → env[i]? = some (some d) ∧ i ∉ O) : SOk G [] F H σ e2 :=
  ⟨s.fh, l.trans s.len, fun i d e _ => s.imm i d (h i d e).1 (h i d e).2, (fun i hi => by cases hi), (fun i hi => by cases hi), s.tb⟩
inductive Lots (G : Gx) (F H0 H : Hp) (n : Nat) : List Addr → List (List D) → Prop
  | nil : Lots G F H0 H n [] []
  | cons {q : Addr} {qs : List Addr} {l : List D} {L : List (List D)} {vs : List V} : F q = none → H0 q = none → l.length ≤ n → H q = some (.lst vs) → RpAll G F vs l → Lots G F H0 H n qs L → Lots G F H0 H n (q :: qs) (l :: L)
section
variable {G : Gx} {F H0 H H' : Hp} {n n' : Nat}
theorem Lots.len : ∀ {qs : List Addr} {L : List (List D)}, Lots G F H0 H n qs L → qs.length = L.length
  | _, _, .nil => rfl
  | _, _, .cons _ _ _ _ _ r => congrArg (· + 1) r.len
theorem Lots.no : ∀ {qs : List Addr} {L : List (List D)}, Lots G F H0 H n qs L → ∀ q ∈ qs, F q = none ∧ H0 q = none ∧ ∃ vs, H q = some (.lst vs)
  | _, _, .nil, q, h => by cases h
  | _, _, .cons a b _ c _ r, q, h => by
    rcases List.mem_cons.mp h with rfl | h
    · exact ⟨a, b, _, c⟩
    · exact r.no q h
theorem Lots.keep (hn : n ≤ n') : ∀ {qs : List Addr} {L : List (List D)}, Lots G F H0 H n qs L → (∀ q ∈ qs, H' q = H q) → Lots G F H0 H' n' qs L
  | _, _, .nil, _ => .nil
  | _, _, .cons a b l c d r, h => .cons a b (Nat.le_trans l hn) ((h _ List.mem_cons_self).trans c) d (r.keep hn fun q m => h q (List.mem_cons_of_mem _ m))
theorem Lots.get : ∀ {qs : List Addr} {L : List (List D)} {i : Nat} {q : Addr}, Lots G F H0 H n qs L → qs[i]? = some q → ∃ l vs, L[i]? = some l ∧ H q = some (.lst vs) ∧ RpAll G F vs l
  | _, _, _, _, .nil, e => by simp at e
  | _, _, 0, _, .cons a b l c d _, e => by
    have e' := Option.some.inj e
    subst e'
    exact ⟨_, _, rfl, c, d⟩
  | _, _, i + 1, _, .cons _ _ _ _ _ r, e => Lots.get (i := i) r e
theorem Lots.app : ∀ {qs : List Addr} {L : List (List D)}, Lots G F H0 H n qs L → ∀ {q : Addr} {l : List D} {vs : List V}, F q = none → H0 q = none → l.length ≤ n → H q = some (.lst vs) → RpAll G F vs l → Lots G F H0 H n (qs ++ [q]) (L ++ [l])
  | _, _, .nil, _, _, _, a, b, c, d, e => .cons a b c d e .nil
  | _, _, .cons a b l c d r, _, _, _, a', b', c', d', e' => .cons a b l c d (r.app a' b' c' d' e')
theorem Lots.rp {F' : Hp} (s : Same F F') : ∀ {qs : List Addr} {L : List (List D)}, Lots G F H0 H n qs L → (∀ q ∈ qs, F' q = H q) → RpAll G F' (qs.map V.ref) (L.map .list)
  | _, _, .nil, _ => .nil
  | _, _, .cons a b l c d r, h => .cons (.lst (.inl (.inl ((h _ List.mem_cons_self).trans c))) (d.mono s)) (r.rp s fun q m => h q (List.mem_cons_of_mem _ m))
end
def sel {α : Type} : List Bool → List α → List α
  | true :: bs, x :: xs => x :: sel bs xs
  | false :: bs, _ :: xs => sel bs xs
  | _, _ => []
theorem sel_take {α : Type} : ∀ {bs : List Bool} {xs : List α} {i : Nat} {b : Bool} {x : α}, bs[i]? = some b → xs[i]? = some x → sel (bs.take (i + 1)) (xs.take (i + 1)) = sel (bs.take i) (xs.take i) ++ if b = true then [x] else []
  | [], _, i, _, _, h, _ => by simp at h
  | _ :: _, [], i, _, _, _, h => by simp at h
  | c :: bs, y :: xs, 0, b, x, h1, h2 => by
    have e1 : c = b := Option.some.inj h1
    have e2 : y = x := Option.some.inj h2
    subst e1 e2
    cases c <;> simp [sel]
  | c :: bs, y :: xs, i + 1, b, x, h1, h2 => by
    have ih := sel_take (bs := bs) (xs := xs) (i := i) (b := b) (x := x) h1 h2
    cases c with
    | true =>
      show y :: sel (bs.take (i + 1)) (xs.take (i + 1)) = y :: sel (bs.take i) (xs.take i) ++ _
      rw [ih]
      rfl
    | false =>
      show sel (bs.take (i + 1)) (xs.take (i + 1)) = sel (bs.take i) (xs.take i) ++ _
      exact ih
theorem flags_len {T : ST} {it : Nat} {env : Env} : ∀ {L : List (List D)} {bs : List Bool}, flags T it env L = some bs → bs.length = L.length
  | [], bs, h => by cases h; rfl
  | l :: L, bs, h => by
    simp only [flags] at h
    obtain ⟨b, _, h⟩ := bind_some h
    obtain ⟨cs, h2, h3⟩ := map_some h
    subst h3
    exact congrArg (· + 1) (flags_len h2)
theorem flags_at {T : ST} {it : Nat} {env : Env} : ∀ {L : List (List D)} {bs : List Bool} {i : Nat} {l : List D}, flags T it env L = some bs → L[i]? = some l → ∃ b, bs[i]? = some b ∧ T ((wipeE env [it]).set it (some (.list l))) = some b
  | [], _, _, _, _, h => by simp at h
  | l :: L, bs, i, l', h, e => by
    simp only [flags] at h
    obtain ⟨b, h1, h⟩ := bind_some h
    obtain ⟨cs, h2, h3⟩ := map_some h
    subst h3
    cases i with
    | zero =>
      have e' := Option.some.inj e
      subst e'
      exact ⟨b, rfl, h1⟩
    | succ i => exact flags_at (i := i) h2 e
theorem first_or {G : Gx} {F H0 H : Hp} {n : Nat} {v : D} : ∀ {qs : List Addr} {L : List (List D)} {bs : List Bool}, Lots G F H0 H n qs L → bs.length = L.length → qs.Nodup →
    (sel bs qs = [] ∧ addTo v bs L = L ++ [[v]]) ∨
    ∃ q r vs l, sel bs qs = q :: r ∧ q ∈ qs ∧ H q = some (.lst vs) ∧ RpAll G F vs l ∧ l.length ≤ n ∧ ∀ (x : V), Rp G F x v → Lots G F H0 (upd H q (.lst (vs ++ [x]))) (n + 1) qs (addTo v bs L)
  | _, _, bs, .nil, _, _ => .inl ⟨by cases bs with
      | nil => rfl
      | cons b bs => cases b <;> rfl, by cases bs with
      | nil => rfl
      | cons b bs => cases b <;> rfl⟩
  | _, _, [], .cons _ _ _ _ _ _, h, _ => by simp at h
  | _, _, true :: bs, .cons (q := q) (qs := qs) (l := l) (L := L) (vs := vs) a b c d e r, h, nd => by
    refine .inr ⟨q, sel bs qs, vs, l, rfl, List.mem_cons_self, d, e, c, fun x hx => ?_⟩
    obtain ⟨nd1, nd2⟩ := List.nodup_cons.mp nd
    refine .cons a b (by rw [List.length_append]; exact Nat.succ_le_succ c) upd_same (e.append (.cons hx .nil)) (r.keep (Nat.le_succ n) fun q' hq' => upd_ne fun z => nd1 (z ▸ hq'))
  | _, _, false :: bs, .cons (q := q) (qs := qs) (l := l) (L := L) (vs := vs) a b c d e r, h, nd => by
    obtain ⟨nd1, nd2⟩ := List.nodup_cons.mp nd
    rcases first_or (v := v) r (by simpa using h) nd2 with ⟨h1, h2⟩ | ⟨q', r', vs', l', h1, h2, h3, h4, h5, h6⟩
    · exact .inl ⟨h1, by show l :: addTo v bs L = _; rw [h2]; rfl⟩
    · exact .inr ⟨q', r', vs', l', h1, List.mem_cons_of_mem _ h2, h3, h4, h5, fun x hx => .cons a b (Nat.le_succ_of_le c) ((upd_ne fun z => nd1 (by rw [z]; exact h2)).trans d) e (h6 x hx)⟩
structure Lo (G : Gx) (F H0 : Hp) (il : Nat) (e0 : Env) (n : Nat) (σ : L2.St) (H : Hp) (L : List (List D)) : Prop where
  s : SOk G [] F H σ e0
  hh : SameN H0 H
  ex : ∃ p qs, σ[il]? = some (some (.ref p)) ∧ H p = some (.lst (qs.map V.ref)) ∧ F p = none ∧ H0 p = none ∧ (p :: qs).Nodup ∧ L.length ≤ n ∧ Lots G F H0 H n qs L
end TL
namespace TL
open PySem PySem.Spec PyProof.Rows L2
theorem SOk.put {G : Gx} {F H : Hp} {σ : L2.St} {env : Env} (s : SOk G [] F H σ env) {i : Nat} {v : V} {d : D} (h : σ[i]? = some (some v)) (r : Rp G F v d) : SOk G [] F H σ (env.set i (some d)) := by
  refine ⟨s.fh, by rw [List.length_set]; exact s.len, fun j e hj n => ?_, (fun i hi => by cases hi), (fun i hi => by cases hi), s.tb⟩
  by_cases ij : i = j
  · subst ij
    have hl : i < env.length := by
      have := (List.getElem?_eq_some_iff.mp hj).1
      rw [List.length_set] at this
      exact this
    rw [List.getElem?_set_self hl] at hj
    cases hj
    exact ⟨v, h, r⟩
  · rw [List.getElem?_set_ne ij] at hj
    exact s.imm j e hj n
theorem sel_sub {α : Type} : ∀ {bs : List Bool} {xs : List α}, (sel bs xs).length ≤ xs.length
  | [], _ => Nat.zero_le _
  | true :: _, [] => Nat.le_refl _
  | false :: _, [] => Nat.le_refl _
  | true :: bs, x :: xs => Nat.succ_le_succ (sel_sub (bs := bs) (xs := xs))
  | false :: bs, x :: xs => Nat.le_succ_of_le (sel_sub (bs := bs) (xs := xs) : (sel bs xs).length ≤ xs.length)
theorem lots_body {K : PySem.W.Frag} {mg : Str → Option Value} {P0 : Program} {w0 : World} {F H0 H : Hp} {il iv im it n : Nat} {e0 : Env} {σ : L2.St} {L : List (List D)} {T : ST} {v : V} {x : D} {bs : List Bool} (lo : Lo ⟨K, mg, P0, w0⟩ F H0 il e0 n σ H L) (rv : Rp ⟨K, mg, P0, w0⟩ F v x)
    (hb : flags T it (e0.set iv (some x)) L = some bs) (hn : n < sizeLine) (hd : il ≠ iv ∧ il ≠ im ∧ il ≠ it ∧ iv ≠ im ∧ iv ≠ it ∧ im ≠ it) (hl : il < σ.length ∧ iv < σ.length ∧ im < σ.length ∧ it < σ.length) (h0 : ∀ j, (j = iv ∨ j = im) → ∀ d, e0[j]? ≠ some (some d))
    {Q : L2.St → Hp → Prop} (hQ : ∀ σ2 H2, Lo ⟨K, mg, P0, w0⟩ F H0 il e0 (n + 1) σ2 H2 (addTo x bs L) → Q σ2 H2) :
    tLc (iList K (tVar il)) (L2.gName it) (rT ⟨K, mg, P0, w0⟩ [] T) (tVar it) [it] (σ.set iv (some v)) H (fun y H1 =>
      rT ⟨K, mg, P0, w0⟩ [] (tV (e2 gtD (e1 lenD (eVar im)) (eC (.int 0)))) ((σ.set iv (some v)).set im (some y)) H1 (fun b H2 =>
        if b = true then tBM K "list" rAppend (tOp (rIxL K) (tVar im) (tC (.int 0))) (tCons (tVar iv) tNil) ((σ.set iv (some v)).set im (some y)) H2 (fun _ H3 => Q ((σ.set iv (some v)).set im (some y)) H3)
        else tBM K "list" rAppend (tVar il) (tCons (tLst (tCons (tVar iv) tNil)) tNil) ((σ.set iv (some v)).set im (some y)) H2 (fun _ H3 => Q ((σ.set iv (some v)).set im (some y)) H3))) := by
  obtain ⟨S, hh, p, qs, hp, hpl, hpF, hp0, nd, hLn, lots⟩ := lo
  obtain ⟨d1, d2, d3, d4, d5, d6⟩ := hd
  obtain ⟨l1, l2, l3, l4⟩ := hl
  have nop : ∀ q ∈ p :: qs, F q = none ∧ H0 q = none ∧ ∃ vs, H q = some (.lst vs) := fun q hq => by
    rcases List.mem_cons.mp hq with rfl | hq
    · exact ⟨hpF, hp0, _, hpl⟩
    · exact lots.no q hq
  let Fc := shut F H (p :: qs)
  have sFc : Same F Fc := shut_ge fun q hq => (nop q hq).1
  have sFH : Same Fc H := shut_le S.fh
  have tbc : TbOk ⟨K, mg, P0, w0⟩ Fc H := S.tb.shut fun q hq => (nop q hq).2.2
  have FcAt : ∀ q ∈ p :: qs, Fc q = H q := fun q hq => shut_in hq
  let σ1 := σ.set iv (some v)
  let e1' := e0.set iv (some x)
  have S1 : SOk ⟨K, mg, P0, w0⟩ [] Fc H σ1 e1' := (S.at_ sFc sFH tbc).set (by simp) (rv.mono sFc)
  have σ1l : σ1[il]? = some (some (.ref p)) := by rw [List.getElem?_set_ne (Ne.symm d1)]; exact hp
  have len1 : σ1.length = σ.length := List.length_set ..
  have bl := flags_len hb
  have ql := lots.len
  refine ⟨.ref p, σ1l, p, rfl, ⟨_, .inl (.inl hpl)⟩, fun D0 hD => lc_list (xs := qs.map V.ref) (fun i H' => ∃ F' accD, LcI ⟨K, mg, P0, w0⟩ Fc H F' H' D0 ((sel (bs.take i) (qs.take i)).map V.ref) accD) ?_ ?_ ?_ ?_⟩
  · refine ⟨Fc, [], ⟨Gr.open_ sFH hD, Same.nn sFH hD, ?_, ?_⟩⟩
    · rw [List.take_zero, List.take_zero]; exact upd_same
    · rw [List.take_zero, List.take_zero]; exact .nil
  · rintro i H' hi ⟨F', accD, lc⟩
    exact .inl (.inl (lc.gr.fh p _ (lc.gr.ff p _ (by rw [FcAt p List.mem_cons_self]; exact hpl))))
  · rintro i y H' hy ⟨F', accD, lc⟩
    obtain ⟨q, hq, rfl⟩ : ∃ q, qs[i]? = some q ∧ y = V.ref q := by
      rw [List.getElem?_map] at hy
      obtain ⟨q, h1, h2⟩ := map_some hy
      exact ⟨q, h1, h2.symm⟩
    obtain ⟨l, vs, hL, hqv, rl⟩ := lots.get hq
    obtain ⟨b, hbi, hT⟩ := flags_at hb hL
    have hqF : F' q = some (.lst vs) := lc.gr.ff q _ (by rw [FcAt q (List.mem_cons_of_mem _ (List.mem_of_getElem? hq))]; exact hqv)
    have Sw := ((S1.gr lc.gr).wipe (vs := [it]) (by simp)).set (i := it) (v := V.ref q) (d := .list l) (by simp) (.lst (.inl (.inl hqF)) (rl.mono (sFc.trans lc.gr.ff)))
    have wl : it < (L2.wipe σ1 [it]).length := by rw [wipe_length, len1]; exact l4
    refine ⟨?_, F', _, b, Sw, hT, fun F3 H3 g3 => ?_⟩
    · show ((L2.wipe σ1 [it]).set it _).set it none = _
      show ((σ1.set it none).set it _).set it none = σ1.set it none
      rw [List.set_set, List.set_set]
    · have lc3 := lc.gr' g3
      have tk := sel_take (xs := qs) hbi hq
      cases b with
      | true =>
        dsimp only
        rw [if_pos rfl]
        refine ⟨.ref q, List.getElem?_set_self wl, _, lc3.at_, ?_, F3, accD ++ [.list l], ?_⟩
        · have a := sel_sub (bs := bs.take i) (xs := qs.take i)
          rw [List.length_take] at a
          rw [List.length_map]
          omega
        · have := lc3.app hD (y := V.ref q) (d := .list l) (.lst (.inl (.inl (g3.ff q _ hqF))) (rl.mono ((sFc.trans lc.gr.ff).trans g3.ff)))
          rw [tk, if_pos rfl, List.map_append]
          exact this
      | false =>
        dsimp only
        rw [if_neg Bool.false_ne_true]
        refine ⟨F3, accD, ?_⟩
        rw [tk, if_neg Bool.false_ne_true, List.append_nil]
        exact lc3
  · rintro H' ⟨F', accD, lc⟩
    rw [List.length_map, List.take_of_length_le (by omega), List.take_length] at lc
    let acc := (sel bs qs).map V.ref
    have lc : LcI ⟨K, mg, P0, w0⟩ Fc H F' H' D0 acc accD := lc
    let σ3 := σ1.set im (some (.ref D0))
    let Fm := upd F' D0 (.lst acc)
    have gm : Gr Fc H Fm H' := lc.gr.close hD lc.fr lc.at_
    have sF'm : Same F' Fm := same_upd lc.fr
    have S3 : SOk ⟨K, mg, P0, w0⟩ [] Fm H' σ3 (e1'.set im (some (.list accD))) := (S1.gr gm).set (by simp) (.lst (.inl (.inl upd_same)) (lc.rp.mono sF'm))
    have l3' : im < e1'.length := by
      have := S1.len
      rw [len1] at this
      omega
    refine ⟨Fm, _, decide (0 < accD.length), S3, ?_, fun F2 H2 g2 => ?_⟩
    · have hg : (e1'.set im (some (.list accD))).getD im none = some (.list accD) := by rw [List.getD_eq_getElem?_getD, List.getElem?_set_self l3']; rfl
      simp only [tV, e2, e1, eVar, eC, hg, Option.bind_some]
      show (lenD (.list accD) |>.bind fun a => gtD a (.int 0)).bind toB = _
      show (some (PyData.bool (decide ((0 : Int) < (accD.length : Nat))))).bind toB = _
      simp only [Option.bind_some, toB]
      congr 1
      exact decide_eq_decide.mpr (by omega)
    have accL : accD.length = (sel bs qs).length := by have := lc.rp.length; rw [List.length_map] at this; exact this.symm
    have g := gm.trans g2
    have hh2 : SameN H0 H2 := hh.trans g.hh
    have sF2 : Same F F2 := sFc.trans g.ff
    have tb2 : TbOk ⟨K, mg, P0, w0⟩ F H2 := ((S1.gr g).tb).sub sF2
    have at2 : ∀ q ∈ p :: qs, H2 q = H q := fun q hq => by
      obtain ⟨_, _, vs, h⟩ := nop q hq
      rw [h]
      exact g.fh q _ (g.ff q _ (by rw [FcAt q hq]; exact h))
    have hD2 : H2 D0 = some (.lst acc) := g2.fh D0 _ (g2.ff D0 _ upd_same)
    have S2 : SOk ⟨K, mg, P0, w0⟩ [] F H2 σ3 e0 := ((S.at_ (Same.refl F) (sF2.trans g.fh) tb2).setN (h0 iv (.inl rfl)) (some v)).setN (h0 im (.inr rfl)) _
    have lots2 : Lots ⟨K, mg, P0, w0⟩ F H0 H2 n qs L := lots.keep (Nat.le_refl n) fun q hq => at2 q (List.mem_cons_of_mem _ hq)
    have hp2 : H2 p = some (.lst (qs.map V.ref)) := (at2 p List.mem_cons_self).trans hpl
    have σ3l : σ3[il]? = some (some (.ref p)) := by rw [List.getElem?_set_ne (Ne.symm d2)]; exact σ1l
    have σ3v : σ3[iv]? = some (some v) := by rw [List.getElem?_set_ne (Ne.symm d4)]; exact List.getElem?_set_self l2
    have σ3m : σ3[im]? = some (some (.ref D0)) := List.getElem?_set_self (by rw [len1]; exact l3)
    obtain ⟨nd1, nd2⟩ := List.nodup_cons.mp nd
    rcases first_or (v := x) lots2 bl nd2 with ⟨hs, ha⟩ | ⟨q, r, vs, l, hs, hq, hv, rl, hll, happ⟩
    · dsimp only
      rw [decide_eq_false (by rw [accL, hs]; exact Nat.lt_irrefl 0), if_neg Bool.false_ne_true]
      refine ⟨.ref p, σ3l, .inl ⟨rfl, _, .inl (.inl hp2)⟩, v, σ3v, (by show 1 ≤ sizeLine; omega), fun N hN => ⟨p, qs.map V.ref, .ref N, rfl, rfl, ?_, ?_, ?_⟩⟩
      · rw [upd_ne (fun z => by rw [z] at hp2; rw [hp2] at hN; cases hN)]; exact hp2
      · rw [List.length_map]; omega
      · refine hQ _ _ ?_
        have pN : p ≠ N := fun z => by rw [z] at hp2; rw [hp2] at hN; cases hN
        have Nq : N ∉ qs := fun m => by
          obtain ⟨_, _, vs, h⟩ := lots2.no N m
          rw [h] at hN; cases hN
        have FN : F N = none := Same.nn (sF2.trans g.fh) hN
        have HN : H0 N = none := hh2.free hN
        let Ha := upd H2 N (.lst [v])
        let Hb := upd Ha p (.lst (qs.map V.ref ++ [.ref N]))
        have sFb : Same F Hb := fun b o e => by
          show upd (upd H2 N (.lst [v])) p (.lst (qs.map V.ref ++ [.ref N])) b = some o
          rw [upd_ne (fun z => by rw [z, hpF] at e; cases e), upd_ne (fun z => by rw [z, FN] at e; cases e)]
          exact (sF2.trans g.fh) b o e
        have tbb : TbOk ⟨K, mg, P0, w0⟩ F Hb := ((tb2.gr (Gr.open_ (sF2.trans g.fh) hN))).upd_ (p := p) (vs := qs.map V.ref) (by rw [upd_ne pN]; exact hp2)
        refine ⟨S2.at_ (Same.refl F) sFb tbb, ?_, p, qs ++ [N], σ3l, ?_, hpF, hp0, ?_, ?_, ?_⟩
        · exact (hh2.trans (.of (same_upd hN))).upd_ hp0
        · rw [List.map_append]; exact upd_same
        · rw [← List.cons_append, List.nodup_append]
          refine ⟨nd, by simp, fun a ha b hb z => ?_⟩
          rw [List.mem_singleton.mp hb] at z
          rcases List.mem_cons.mp ha with e | e
          · exact pN (e.symm.trans z)
          · exact Nq (z ▸ e)
        · rw [ha, List.length_append]; exact Nat.succ_le_succ hLn
        · rw [ha]
          refine (lots2.keep (H' := Hb) (Nat.le_succ n) fun q hq => ?_).app FN HN (by show 1 ≤ n + 1; omega) (vs := [v]) ?_ (.cons rv .nil)
          · show upd (upd H2 N (.lst [v])) p (.lst (qs.map V.ref ++ [.ref N])) q = H2 q
            rw [upd_ne (fun z => nd1 (by rw [← z]; exact hq)), upd_ne (fun z => Nq (by rw [← z]; exact hq))]
          · show upd (upd H2 N (.lst [v])) p (.lst (qs.map V.ref ++ [.ref N])) N = _
            rw [upd_ne (Ne.symm pN)]; exact upd_same
    · dsimp only
      rw [decide_eq_true (by rw [accL, hs]; exact Nat.succ_pos _), if_pos rfl]
      obtain ⟨q1, q2, _⟩ := lots2.no q hq
      refine ⟨.ref D0, σ3m, D0, acc, 0, .ref q, rfl, rfl, .inl (.inl hD2), ?_, .inl ⟨rfl, vs, .inl (.inl hv)⟩, v, σ3v, q, vs, v, rfl, rfl, hv, ?_, hQ _ _ ?_⟩
      · show atI ((sel bs qs).map V.ref) 0 = _
        rw [hs]
        unfold atI ixN
        rw [if_pos (Int.le_refl 0), if_pos (by simp)]
        rfl
      · rw [rl.length]; omega
      · have pq : p ≠ q := fun z => nd1 (z ▸ hq)
        have sFb : Same F (upd H2 q (.lst (vs ++ [v]))) := fun b o e => by
          rw [upd_ne (fun z => by rw [z, q1] at e; cases e)]
          exact (sF2.trans g.fh) b o e
        refine ⟨S2.at_ (Same.refl F) sFb (tb2.upd_ hv), hh2.upd_ q2, p, qs, σ3l, by rw [upd_ne pq]; exact hp2, hpF, hp0, nd, ?_, happ v rv⟩
        have := (happ v rv).len
        have := lots2.len
        omega
section
variable {X : Cx} {R : RK} {Ob : List Nat} {il iv im it : Nat} {vN : Str} {iter c2 : Expr} {fi : SI} {T : ST} {st1 a1 a2 : Stmt} {pos pv pif : Pos}
theorem clr4_at {env : TL.Env} {j : Nat} {d : D} (h : (clr4 env il iv im it)[j]? = some (some d)) : env[j]? = some (some d) ∧ j ≠ il ∧ j ≠ iv ∧ j ≠ im ∧ j ≠ it := by
  have one : ∀ {e : TL.Env} {i : Nat}, (e.set i none)[j]? = some (some d) → e[j]? = some (some d) ∧ j ≠ i := fun {e i} h => by
    by_cases ij : i = j
    · subst ij
      rw [List.getElem?_set] at h
      simp only [if_true] at h
      split at h <;> cases h
    · rw [List.getElem?_set_ne ij] at h
      exact ⟨h, fun z => ij z.symm⟩
  obtain ⟨h, n4⟩ := one h
  obtain ⟨h, n3⟩ := one h
  obtain ⟨h, n2⟩ := one h
  obtain ⟨h, n1⟩ := one h
  exact ⟨h, n1, n2, n3, n4⟩
theorem clr4_len {env : TL.Env} : (clr4 env il iv im it).length = env.length := by
  unfold clr4
  rw [List.length_set, List.length_set, List.length_set, List.length_set]
theorem slots (hp : PassesOwn (model X.prog X.w) X.A X.env X.xe) (hc : X.calm = true) (hi : PI X (.Name vN pv) iter (iV (gx X) [il] fi)) (hg : PG X (.Name vN pv) (L2.gName iv))
    (h1 : PS X st1 (tAsg (tLc (iList X.K (tVar il)) (L2.gName it) (rT (gx X) [] T) (tVar it) [it]) (L2.gName im)))
    (h2 : PT X c2 (rT (gx X) [] (tV (e2 gtD (e1 lenD (eVar im)) (eC (.int 0))))))
    (h3 : PS X a1 (tDrop (tBM X.K "list" rAppend (tOp (rIxL X.K) (tVar im) (tC (.int 0))) (tCons (tVar iv) tNil))))
    (h4 : PS X a2 (tDrop (tBM X.K "list" rAppend (tVar il) (tCons (tLst (tCons (tVar iv) tNil)) tNil))))
    (hd : il ≠ iv ∧ il ≠ im ∧ il ≠ it ∧ iv ≠ im ∧ iv ≠ it ∧ im ≠ it := by decide) (hl : il < X.N.length ∧ iv < X.N.length ∧ im < X.N.length ∧ it < X.N.length := by exact ⟨Nat.le_of_ble_eq_true rfl, Nat.le_of_ble_eq_true rfl, Nat.le_of_ble_eq_true rfl, Nat.le_of_ble_eq_true rfl⟩)
    (hs : ∀ x, foldedSetIterable iter X.env x = pure x := by intro _; rfl) :
    PS X (.For (.Name vN pv) iter [st1, .If c2 [a1] [a2] pif] [] pos) (sV (gx X) R [il] [] Ob (sLots il iv im it fi T)) :=
  (ps_ln (ps_for hp hc hi hg (pss_cons h1 (pss_one (ps_if h2 (pss_one h3) (pss_one h4)))) hs)).imp fun D σ H ⟨F0, H0, F, env, out, hs, hf, ho, q⟩ hln => by
    simp only [sLots] at ho
    obtain ⟨p, kk, vs0, ds0, e1, e2, e3, e4, e5, e6⟩ := hs.own il (List.mem_singleton.mpr rfl)
    have hn0 := hf.own il (List.mem_singleton.mpr rfl) p e1
    rw [show env.getD il none = some (kD kk ds0) by rw [List.getD_eq_getElem?_getD, e2]; rfl] at ho
    cases kk with
    | dct o ks => cases ho
    | dki o ks => cases ho
    | lst =>
    cases ds0 with
    | cons a b => cases ho
    | nil =>
    simp only [kD] at ho
    obtain ⟨ds, hit, ho⟩ := bind_some ho
    obtain ⟨Lf, hgo, ho⟩ := map_some ho
    subst ho
    cases e5
    refine ⟨F, env, ds, hs, hit, fun J F1 H1 g1 hz hJ => ?_⟩
    have hs1 := hs.gr g1
    have gr1 := hf.gr.trans g1
    have sl : σ.length = env.length := hs.len.symm
    have start : Lo (gx X) F1 H0 il (clr4 env il iv im it) 0 σ H1 [] := ⟨hs1.hide clr4_len fun j d hj => by
        obtain ⟨a, b, _⟩ := clr4_at hj
        exact ⟨a, fun m => b (List.mem_singleton.mp m)⟩, gr1.hh, p, [], e1, g1.hh.l e4, g1.hid p _ e4 e3, hn0, List.nodup_cons.mpr ⟨by simp, List.nodup_nil⟩, Nat.le_refl _, .nil⟩
    refine ⟨fun i m σ' H' => ∃ L, Lo (gx X) F1 H0 il (clr4 env il iv im it) i σ' H' L ∧ i ≤ ds.length ∧ m = ds.length - i ∧ lotsGo T iv it (clr4 env il iv im it) (ds.drop i) L = some Lf,
      ⟨ds.length, [], start, Nat.zero_le _, by omega, hgo⟩, ?_⟩
    rintro i m σ' H' ⟨L, lo, hi', rfl, hgo⟩
    have hJ' := hJ i F1 H' (Same.refl F1) lo.s.fh
    cases hdi : ds[i]? with
    | none =>
      have hi2 : ds.length ≤ i := List.getElem?_eq_none_iff.mp hdi
      rw [List.drop_eq_nil_of_le hi2] at hgo
      cases hgo
      obtain ⟨S, hh, p', qs, hp1, hp2, hp3, hp4, nd, _, lots⟩ := lo
      have nop : ∀ b ∈ p' :: qs, F1 b = none ∧ H0 b = none ∧ ∃ vs, H' b = some (.lst vs) := fun b hb => by
        rcases List.mem_cons.mp hb with rfl | hb
        · exact ⟨hp3, hp4, _, hp2⟩
        · exact lots.no b hb
      have sa : Same F1 (shut F1 H' (p' :: qs)) := shut_ge fun b hb => (nop b hb).1
      have sb : Same (shut F1 H' (p' :: qs)) H' := shut_le S.fh
      refine .inl ⟨hJ'.2 hdi, q σ' (shut F1 H' (p' :: qs)) H' ?_ ⟨⟨gr1.ff.trans sa, hh, sb, fun b o e n => ?_⟩, fun j hj => by cases hj⟩ (g1.ff.trans sa)⟩
      · refine (S.at_ sa sb (S.tb.shut fun b hb => (nop b hb).2.2)).put hp1 (.lst (.inl (.inl ?_)) (lots.rp sa fun b hb => shut_in (List.mem_cons_of_mem _ hb)))
        rw [shut_in List.mem_cons_self]
        exact hp2
      · rw [shut_out fun hb => by rw [(nop b hb).2.1] at e; cases e]
        exact gr1.hid b o e n
    | some x =>
      have hi2 : i < ds.length := (List.getElem?_eq_some_iff.mp hdi).1
      have hx : ds[i] = x := (List.getElem?_eq_some_iff.mp hdi).2
      rw [show ds.drop i = x :: ds.drop (i + 1) by rw [List.drop_eq_getElem_cons hi2, hx]] at hgo
      simp only [lotsGo] at hgo
      obtain ⟨bs, hb, hgo⟩ := bind_some hgo
      refine .inr ⟨(hJ'.1 x hdi).1, fun σ2 H2 => ∃ L2, Lo (gx X) F1 H0 il (clr4 env il iv im it) (i + 1) σ2 H2 L2 ∧ lotsGo T iv it (clr4 env il iv im it) (ds.drop (i + 1)) L2 = some Lf, fun σ2 H2 h => ?_, fun v H2 hy => ?_⟩
      · obtain ⟨L2, l2, g2⟩ := h
        exact ⟨ds.length - (i + 1), by omega, L2, l2, hi2, rfl, g2⟩
      · obtain ⟨rfl, rv⟩ := (hJ'.1 x hdi).2 v H2 hy
        have sl' : σ'.length = X.N.length := by
          have := lo.s.len
          rw [clr4_len] at this
          omega
        exact lots_body lo rv hb (by omega) hd (by rw [sl']; exact hl) (fun j hj d e => by
          obtain ⟨_, a, b, c, f⟩ := clr4_at e
          rcases hj with rfl | rfl
          · exact b rfl
          · exact c rfl) (Q := fun σ2 H2 => ∃ L2, Lo (gx X) F1 H0 il (clr4 env il iv im it) (i + 1) σ2 H2 L2 ∧ lotsGo T iv it (clr4 env il iv im it) (ds.drop (i + 1)) L2 = some Lf) fun σ2 H2 l2 => ⟨_, l2, hgo⟩
end
theorem pvr {X : Cx} (i : Nat) {x : Str} {pos : Pos} (hN : X.N[i]? = some x := by rfl) (hv : Vis X.env.scope x := by first | exact Or.inl rfl | exact Or.inr (Or.inl rfl) | exact Or.inr (Or.inr rfl)) (hd : (x == ("__debug__" : Str)) = false := by decide) (hcd : (x == ("__classdict__" : Str)) = false := by decide) : PE X (.Name x pos) (tVar i) := pe_var hN hv hd hcd
theorem pgr {X : Cx} (i : Nat) {x : Str} {pos : Pos} (hN : X.N.Nodup) (hi : X.N[i]? = some x := by rfl) (hx : Loc X.env.scope x := by first | exact Or.inl rfl | exact Or.inr rfl) (hf : X.fn x = true ∨ X.env.scope.names.lookup x = some .local := by first | exact .inl rfl | exact .inr rfl | assumption) : PG X (.Name x pos) (L2.gName i) := pg_name hN hi hx hf
end TL

set_option Elab.async false
set_option linter.all false
set_option maxRecDepth 100000
namespace TL
open PySem PySem.Spec PyProof.Rows L2
def keyI : D → Option Int
  | .int i => some i
  | _ => none
def dgetI : List (D × D) → Int → Option D
  | [], _ => none
  | (.int j, b) :: r, i => if j = i then some b else dgetI r i
  | _ :: r, i => dgetI r i
def dputI : List (D × D) → Int → D → List (D × D)
  | [], i, vd => [(.int i, vd)]
  | (.int j, b) :: r, i, vd => if j = i then (.int j, vd) :: r else (.int j, b) :: dputI r i vd
  | x :: r, i, vd => x :: dputI r i vd
def prsI : D → Option (List (D × D))
  | .dict ((.tuple [], .none) :: kvs) => some kvs
  | _ => none
def mkI (kvs : List (D × D)) : D := .dict ((.tuple [], .none) :: kvs)
@[simp] def sSetI (i : Nat) (fk fv : SE) : SS := fun env => (fv env).bind fun y => (fk env).bind fun kd => (keyI kd).bind fun k => match (env.getD i none).bind prsI with
  | some kvs => if Nat.ble kvs.length 1000000 = true then some (.nx (env.set i (some (mkI (dputI kvs k y))))) else none
  | none => none
@[simp] def eOneI (fk fv : SE) : SE := fun env => (fk env).bind fun kd => (keyI kd).bind fun k => (fv env).map fun y => mkI [(.int k, y)]
inductive AlI (G : Gx) (F : Hp) : List Int → List V → List D → Prop
  | nil : AlI G F [] [] []
  | cons {k : Int} {v : V} {vd : D} {ks : List Int} {vs : List V} {ds : List D} : Rp G F v vd → AlI G F ks vs ds → AlI G F (k :: ks) (.int k :: v :: vs) (.int k :: vd :: ds)
section
variable {G : Gx} {F F' : Hp}
theorem AlI.of : ∀ {ks : List Int} {vs : List V} {ds : List D}, RpAll G F vs ds → keysD ds = ks.map .int → ds.length = 2 * ks.length → AlI G F ks vs ds
  | [], vs, ds, r, _, hl => by
    have : ds = [] := List.eq_nil_of_length_eq_zero (by simpa using hl)
    subst this
    cases r
    exact .nil
  | k :: ks, vs, ds, r, hk, hl => by
    match ds, r, hk, hl with
    | [], _, _, hl => simp at hl
    | [_], _, _, hl => simp at hl; omega
    | a :: b :: ds, .cons ra (.cons rb r), hk, hl =>
      simp only [keysD, List.map_cons] at hk
      injection hk with h1 h2
      subst h1
      have rest := AlI.of r h2 (by simp only [List.length_cons] at hl ⊢; omega)
      cases ra with
      | int _ => exact .cons rb rest
theorem AlI.rp {ks : List Int} {vs : List V} {ds : List D} (h : AlI G F ks vs ds) : RpAll G F vs ds ∧ keysD ds = ks.map .int ∧ ds.length = 2 * ks.length := by
  induction h with
  | nil => exact ⟨.nil, rfl, rfl⟩
  | cons h1 _ ih =>
    obtain ⟨i1, i2, i3⟩ := ih
    exact ⟨.cons (.int _) (.cons h1 i1), by simp only [keysD, List.map_cons, i2], by simp only [List.length_cons, i3]; omega⟩
theorem AlI.at_ {ks : List Int} {vs : List V} {ds : List D} (h : AlI G F ks vs ds) (k : Int) : (dgetI (prsD ds) k = none ∧ valV (entsI vs) (.inl k) = none) ∨ ∃ vd v, dgetI (prsD ds) k = some vd ∧ valV (entsI vs) (.inl k) = some v ∧ Rp G F v vd := by
  induction h with
  | nil => exact .inl ⟨rfl, rfl⟩
  | @cons k' v vd ks vs ds h1 _ ih =>
    simp only [prsD, dgetI, entsI]
    by_cases hk : k' = k
    · subst hk
      rw [if_pos rfl]
      exact .inr ⟨vd, v, rfl, valV_pos rfl, h1⟩
    · rw [if_neg hk, valV_neg (p := ((.inl k' : Key), v)) (fun z => hk (Sum.inl.inj z))]
      exact ih
theorem AlI.len {ks : List Int} {vs : List V} {ds : List D} (h : AlI G F ks vs ds) : (entsI vs).length = ks.length := by
  induction h with
  | nil => rfl
  | cons _ _ ih => simp only [entsI, List.length_cons, ih]
theorem AlI.keys {ks : List Int} {vs : List V} {ds : List D} (h : AlI G F ks vs ds) : (entsI vs).map (·.1) = ks.map .inl := by
  induction h with
  | nil => rfl
  | cons _ _ ih => simp only [entsI, List.map_cons, ih]
theorem putK_cons_eq {k : Key} {v v' : V} {r : List (Key × V)} (h : k ∉ r.map (·.1)) : putK ((k, v) :: r) k v' = (k, v') :: r := by
  unfold putK
  rw [if_pos (by simp)]
  rw [List.map_cons, if_pos rfl]
  congr 1
  induction r with
  | nil => rfl
  | cons x r ih =>
    rw [List.map_cons, List.mem_cons, not_or] at h
    rw [List.map_cons, if_neg (fun z => h.1 z.symm), ih h.2]
theorem putK_cons_ne {k k' : Key} {v v' : V} {r : List (Key × V)} (h : k' ≠ k) : putK ((k', v) :: r) k v' = (k', v) :: putK r k v' := by
  unfold putK
  rw [List.any_cons, decide_eq_false h, Bool.false_or]
  split
  · rw [List.map_cons, if_neg h]
  · rfl
theorem AlI.put {ks : List Int} {vs : List V} {ds : List D} (h : AlI G F ks vs ds) (nd : ks.Nodup) {k : Int} {v : V} {vd : D} (rv : Rp G F v vd) :
    ∃ ks' vs' ds', AlI G F ks' vs' ds' ∧ prsD ds' = dputI (prsD ds) k vd ∧ entsI vs' = putK (entsI vs) (.inl k) v ∧ ks'.Nodup ∧ ks'.length ≤ ks.length + 1 ∧ ∀ z ∈ ks', z = k ∨ z ∈ ks := by
  induction h with
  | nil => exact ⟨[k], [.int k, v], [.int k, vd], .cons rv .nil, rfl, rfl, by simp, by simp, fun z hz => .inl (List.mem_singleton.mp hz)⟩
  | @cons k' v' vd' ks vs ds h1 h4 ih =>
    obtain ⟨n1, n2⟩ := List.nodup_cons.mp nd
    by_cases e : k' = k
    · subst e
      refine ⟨k' :: ks, .int k' :: v :: vs, .int k' :: vd :: ds, .cons rv h4, ?_, ?_, nd, by simp, fun z hz => .inr hz⟩
      · simp only [prsD, dputI, if_true]
      · simp only [entsI]
        rw [putK_cons_eq (by rw [h4.keys]; intro hm; obtain ⟨z, hz, e⟩ := List.mem_map.mp hm; exact n1 (Sum.inl.inj e ▸ hz))]
    · obtain ⟨ks', vs', ds', i1, i2, i3, i4, i5, i6⟩ := ih n2
      refine ⟨k' :: ks', .int k' :: v' :: vs', .int k' :: vd' :: ds', .cons h1 i1, ?_, ?_, List.nodup_cons.mpr ⟨fun hm => ?_, i4⟩, by simp only [List.length_cons]; omega, fun z hz => ?_⟩
      · simp only [prsD, dputI]
        rw [if_neg e, i2]
      · simp only [entsI]
        rw [i3, putK_cons_ne (fun z => e (Sum.inl.inj z))]
      · rcases i6 k' hm with z | z
        · exact e z
        · exact n1 z
      · rcases List.mem_cons.mp hz with rfl | hz
        · exact .inr List.mem_cons_self
        · rcases i6 z hz with z' | z'
          · exact .inl z'
          · exact .inr (List.mem_cons_of_mem _ z')
variable {H : Hp}
end
section
variable {X : Cx} {O : List Nat} {F H : Hp}
variable {a b c : Expr} {fa fb fc : SE} {pos p2 apos : Pos}
end
section
variable {X : Cx} {R : RK} {O Ob : List Nat} {ei ev : Expr} {fi fv : SE} {p1 pos pos' : Pos} {x : Str}
end
def keysF : D → Option (List D)
  | .dict ((.none, .bool true) :: kvs) => some (kvs.map (·.1))
  | .dict ((.tuple [], .bool true) :: kvs) => some (kvs.map (·.1))
  | _ => none
@[simp] def iKeysF (f : SE) : SI := fun env => (f env).bind keysF
section
variable {X : Cx} {pins : List (Addr × Obj)} {σ : L2.St} {H : Hp} {s : Shared} {d : Addr} {o : Obj}
end
section
variable {P : Program} {w : World} {K : PySem.W.Frag} {tg : Expr} {d : Addr} {o : Obj} {es : Array DictEntry} {ep : Nat}
end
section
variable {X : Cx} {O : List Nat} {tg a : Expr} {fa : SE} {td : TE}
end
mutual
/-- no dict, no def, no range within -/
def noD : D → Bool
  | .dict _ => false
  | .list ds => noDs ds
  | .tuple ds => noDs ds
  | .none => true
  | .bool _ => true
  | .int _ => true
  | .str _ => true
def noDs : List D → Bool
  | [] => true
  | d :: r => noD d && noDs r
end
def frzT : D → Option D
  | .dict ((.none, .none) :: kvs) => some (.dict ((.none, .bool true) :: kvs))
  | .dict ((.tuple [], .none) :: kvs) => some (.dict ((.tuple [], .bool true) :: kvs))
  | _ => none
@[simp] def eFrz (i : Nat) (f : SE) : SE := fun env => ((env.getD i none).bind frzT).bind fun t => (f (env.set i (some t))).bind fun d => if noD d = true then some d else none
section
variable {G : Gx} {F : Hp} {p : Addr} {u : HO}
end
section
variable {X : Cx} {O O' : List Nat} {e : Expr} {f : SE}
end
@[simp] def sPopA (i j : Nat) (a : SE) : SS := fun env => match env.getD j none with
  | some (.list es) => (a env).bind fun y => (toI y).bind fun k => (popD es k).bind fun z => some (.nx ((env.set j (some (.list z.2))).set i (some z.1)))
  | _ => none
section
variable {X : Cx} {R : RK} {O Ob : List Nat} {e : Expr} {pos : Pos} {f : SE}
end
end TL

set_option Elab.async false
set_option linter.all false
set_option maxRecDepth 100000
namespace TL
open PySem PySem.Spec PyProof.Rows L2
mutual
/-- numbers, truth values, texts, tuples of such -/
def plW : D → Bool
  | .bool _ => true
  | .int _ => true
  | .str _ => true
  | .tuple ds => plWs ds
  | _ => false
def plWs : List D → Bool
  | [] => true
  | d :: r => plW d && plWs r
end
def neW : D → Bool
  | .tuple (_ :: _) => true
  | _ => false
def noW : D → Bool
  | .tuple _ => false
  | .none => false
  | _ => true
def okW (ds : List D) : Bool := plWs ds && Nat.ble (PyData.depthAll ds) 8 && (ds.all fun a => ds.all fun b => PySem.W.alike a b) && (ds.all neW || ds.all noW)
def ltW : D → D → Bool := PySem.W.dataLt
def sortedWD : D → Option D
  | .list ds => if okW ds = true then some (.list (isort ltW ds)) else none
  | _ => none
theorem swoW : SrtO.Swo ltW := by
  have O := PyProof.Rows.listOrd PyProof.Rows.itemOrd
  refine ⟨fun x y h => ?_, fun x y z h1 h2 => ?_⟩
  · cases h2 : ltW y x with
    | false => rfl
    | true =>
      have := (PyProof.Rows.listOrd PyProof.Rows.itemOrd).trans _ _ _ h h2
      rw [(PyProof.Rows.listOrd PyProof.Rows.itemOrd).irrefl] at this
      cases this
  · cases h3 : ltW z x with
    | false => rfl
    | true =>
      rcases (PyProof.Rows.listOrd PyProof.Rows.itemOrd).negTrans _ (PySem.W.keyToks y) _ h3 with h | h
      · exact absurd (h2.symm.trans h) Bool.false_ne_true
      · exact absurd (h1.symm.trans h) Bool.false_ne_true
mutual
theorem eqv_eqW : ∀ (a b : D), PySem.W.alike a b = true → PyData.eqv a b = true → a = b
  | .none, b, h, _ => by cases b <;> first | rfl | exact absurd h (by simp [PySem.W.alike])
  | .bool x, b, h, e => by
    cases b <;> first | (exfalso; simp [PySem.W.alike] at h; done) | skip
    rename_i y
    have : x = y := by simpa [PyData.eqv] using e
    rw [this]
  | .int x, b, h, e => by
    cases b <;> first | (exfalso; simp [PySem.W.alike] at h; done) | skip
    rename_i y
    have : x = y := by simpa [PyData.eqv] using e
    rw [this]
  | .str x, b, h, e => by
    cases b <;> first | (exfalso; simp [PySem.W.alike] at h; done) | skip
    rename_i y
    have : x = y := by simpa [PyData.eqv] using e
    rw [this]
  | .list xs, b, h, e => by
    cases b <;> first | (exfalso; simp [PySem.W.alike] at h; done) | skip
    rw [eqvs_eqW xs _ (by simpa [PySem.W.alike] using h) (by simpa [PyData.eqv] using e)]
  | .tuple xs, b, h, e => by
    cases b <;> first | (exfalso; simp [PySem.W.alike] at h; done) | skip
    rw [eqvs_eqW xs _ (by simpa [PySem.W.alike] using h) (by simpa [PyData.eqv] using e)]
  | .dict _, b, h, _ => absurd h (by cases b <;> simp [PySem.W.alike])
theorem eqvs_eqW : ∀ (a b : List D), PySem.W.alikeAll a b = true → PyData.eqvAll a b = true → a = b
  | [], [], _, _ => rfl
  | [], _ :: _, _, e => absurd e (by simp [PyData.eqvAll])
  | _ :: _, [], _, e => absurd e (by simp [PyData.eqvAll])
  | x :: a, y :: b, h, e => by
    rw [PySem.W.eqv_all_cons, Bool.and_eq_true] at e
    rw [eqv_eqW x y (PySem.W.alike_all_cons h).1 e.1, eqvs_eqW a b (PySem.W.alike_all_cons h).2 e.2]
end
theorem antiW {a b : D} (h : PySem.W.alike a b = true) (h1 : ltW a b = false) (h2 : ltW b a = false) : a = b := by
  have e : PySem.W.keyToks a = PySem.W.keyToks b := (PyProof.Rows.listOrd PyProof.Rows.itemOrd).total _ _ h1 h2
  cases he : PyData.eqv a b with
  | true => exact eqv_eqW a b h he
  | false =>
    have t := (PySem.W.toks_eqv a b h).2 he [] [Sum.inl 0]
    rw [e, PySem.W.lex_pre, PyProof.Rows.lex_irrefl] at t
    cases t
theorem asc_uniqM {α : Type} {lt : α → α → Bool} : ∀ {l m : List α}, (∀ x ∈ l, ∀ y ∈ l, lt x y = false → lt y x = false → x = y) → l.Perm m → Asc lt l → Asc lt m → l = m
  | [], m, _, p, _, _ => (List.Perm.eq_nil p.symm).symm
  | x :: l, [], _, p, _, _ => absurd p.length_eq (by simp)
  | x :: l, y :: m, anti, p, hl, hm => by
    have h1 := List.pairwise_cons.mp hl
    have h2 := List.pairwise_cons.mp hm
    have e : x = y := by
      rcases List.mem_cons.mp (p.mem_iff.mp (List.mem_cons_self (a := x) (l := l))) with e | hx
      · exact e
      · have hyl : y ∈ x :: l := p.mem_iff.mpr (List.mem_cons_self (a := y) (l := m))
        rcases List.mem_cons.mp hyl with e | hy
        · exact e.symm
        · exact anti x List.mem_cons_self y hyl (h2.1 x hx) (h1.1 y hy)
    subst e
    rw [asc_uniqM (fun a ha b hb => anti a (List.mem_cons_of_mem _ ha) b (List.mem_cons_of_mem _ hb)) p.cons_inv h1.2 h2.2]
theorem isort_merge {ds : List D} (hal : PySem.W.AllAlike ds) : ds.mergeSort (PySem.W.dataLe false id) = isort ltW ds := by
  have T : PySem.W.TotalLe (PySem.W.dataLe (β := D) false id) := PySem.W.sortLe_total _ _ _
  have p1 : (ds.mergeSort (PySem.W.dataLe false id)).Perm ds := List.mergeSort_perm _ _
  refine asc_uniqM (lt := ltW) (fun x hx y hy h1 h2 => antiW (hal x (p1.mem_iff.mp hx) y (p1.mem_iff.mp hy)) h1 h2) (p1.trans (isort_perm ds).symm) ((PySem.W.sort_pairwise T ds).imp fun {a b} h => ?_) (isort_asc swoW ds)
  have h' : (!ltW b a) = true := h
  simpa using h'
section
variable {X : Cx} {pins : List (Addr × Obj)} {s : Shared} {σ : L2.St} {F H : Hp}
mutual
theorem readsW (I : Inv X pins σ H s) (sm : Same F H) : ∀ (d : D) (v : V) (u : Value), plW d = true → Rp (gx X) F v d → RelV v u → ∃ as, Reads s.heap u d as
  | .bool b, v, u, _, r, rv => by
    cases r
    cases rv
    exact ⟨_, .bool b⟩
  | .int i, v, u, _, r, rv => by
    cases r
    obtain ⟨t, rfl⟩ := rv
    exact ⟨_, .int i t⟩
  | .str x, v, u, _, r, rv => by
    cases r
    obtain ⟨t, rfl⟩ := rv
    exact ⟨_, .str x t⟩
  | .tuple ds, v, u, h, r, rv => by
    cases r with
    | tup hs ra =>
      cases rv
      obtain ⟨its, rr, ⟨o, ho, hc, n, hd⟩, _⟩ := I.tuple (sameT sm hs.t)
      obtain ⟨as, q⟩ := readsAllW I sm ds _ its (by simpa [plW] using h) ra rr
      exact ⟨as, .tuple ho hc hd (by simpa using q)⟩
  | .none, _, _, h, _, _ => by simp [plW] at h
  | .list _, _, _, h, _, _ => by simp [plW] at h
  | .dict _, _, _, h, _, _ => by simp [plW] at h
theorem readsAllW (I : Inv X pins σ H s) (sm : Same F H) : ∀ (ds : List D) (vs : List V) (us : List Value), plWs ds = true → RpAll (gx X) F vs ds → Vals vs us → ∃ as, ReadsAll s.heap us ds as
  | [], _, _, _, .nil, .nil => ⟨[], .nil⟩
  | d :: ds, _, _, h, .cons r ra, .cons rv rr => by
    have h' : (plW d && plWs ds) = true := h
    rw [Bool.and_eq_true] at h'
    obtain ⟨as, q⟩ := readsW I sm d _ _ h'.1 r rv
    obtain ⟨bs, t⟩ := readsAllW I sm ds _ _ h'.2 ra rr
    exact ⟨_, .cons q t⟩
end
theorem eachW : ∀ {ds : List D} {vs : List V} {us : List Value} {h : Heap} {as : List Addr}, RpAll (gx X) F vs ds → Vals vs us → ReadsAll h us ds as → PySem.W.EachIs (fun u d => (∃ v, RelV v u ∧ Rp (gx X) F v d) ∧ ∃ as, Reads h u d as) us ds
  | [], _, _, _, _, .nil, .nil, .nil => .nil
  | d :: ds, _, _, _, _, .cons r ra, .cons rv rr, .cons q t => .cons ⟨⟨_, rv, r⟩, _, q⟩ (eachW ra rr t)
theorem each_outW : ∀ {out : List Value} {es : List D}, PySem.W.EachIs (fun u d => ∃ v, RelV v u ∧ Rp (gx X) F v d) out es → ∃ ws, Vals ws out ∧ RpAll (gx X) F ws es
  | _, _, .nil => ⟨[], .nil, .nil⟩
  | _, _, .cons ⟨v, h1, h2⟩ t => by
    obtain ⟨ws, h3, h4⟩ := each_outW t
    exact ⟨v :: ws, .cons h1 h3, .cons h2 h4⟩
end
theorem depthW : ∀ {ds : List D} {d : D}, d ∈ ds → d.depth ≤ PyData.depthAll ds
  | x :: ds, d, h => by
    rw [PyData.depthAll]
    rcases List.mem_cons.mp h with e | h
    · rw [e]; omega
    · have := depthW h; omega
theorem c_sortedW {X : Cx} (hu : X.A.units + 64 < cLine) : CalN X (.builtin "sorted") sortedWD := by
  intro pins s σ H xs us Q I r h
  obtain ⟨F, x, dx, d, rfl, sm, bx, hd, q⟩ := h
  cases dx with
  | list ds =>
    obtain ⟨p, vs, rfl, hl, r'⟩ := bx.lst sm
    simp only [sortedWD] at hd
    split at hd
    · rename_i ok
      cases hd
      simp only [okW, Bool.and_eq_true, Bool.or_eq_true, Nat.ble_eq, List.all_eq_true] at ok
      obtain ⟨⟨⟨k1, k2⟩, k3⟩, k4⟩ := ok
      obtain ⟨its, rv, hL, hz⟩ := I.list hl
      rw [Vals.ref1 r]
      obtain ⟨as, ra⟩ := readsAllW I sm ds vs its k1 r' rv
      have ea := eachW r' rv ra
      have hal : PySem.W.AllAlike ds := fun a ha b hb => k3 a ha b hb
      have hmap : ds.map (id : D → D) = ds := List.map_id ds
      refine PySem.W.sorted_data (enc := (id : D → D)) (R := fun u d => ∃ v, RelV v u ∧ Rp (gx X) F v d) hL.isList (ea.mono fun _ _ z => z.1) (ea.mono fun _ _ z => z.2) (by rw [hmap]; exact hal) (by
          rw [hmap]
          rcases k4 with k4 | k4
          · refine .inl fun d hd => ?_
            have := k4 d hd
            unfold neW at this
            split at this
            · exact ⟨_, _, rfl⟩
            · cases this
          · refine .inr fun d hd => ?_
            have := k4 d hd
            unfold noW at this
            split at this
            · cases this
            · cases this
            · rename_i n1 n2
              exact ⟨n2, n1⟩) (by rw [← r'.length]; exact hz) (fun b hb => by have := depthW hb; show X.A.units + 2 + b.depth < cLine; omega) fun out hlen eo => ?_
      rw [isort_merge hal] at eo
      obtain ⟨ws, w1, w2⟩ := each_outW eo
      obtain ⟨ep, he'⟩ := PyProof.Rows.sortedAll_at s.heap its out.toArray
      refine ⟨.ref _, upd H (s.heap.objs.size + 1) (.lst ws), I.laid (t' := s.toks) (fun _ _ => PyProof.Rows.sortedAll_old) (Nat.le_succ _) ⟨?_, out, ep, w1, he'⟩, rfl, q.newL sm w2 (I.hok.fresh (Nat.le_succ _))⟩
      rw [w1.length, hlen, ← r'.length]
      exact hz
    · cases hd
  | _ => cases hd
end TL

set_option Elab.async false
set_option linter.all false
set_option maxRecDepth 100000
namespace TL
open PySem PySem.Spec PyProof.Rows L2
section
variable {prog : Program} {w : World} {A : Around} {E : Value → Shared → Prop} {s : Shared}
end
section
variable {X : Cx} {R : RK} {O Ob : List Nat} {pos : Pos}
end
end TL

set_option Elab.async false
set_option linter.all false
set_option maxRecDepth 100000
namespace TL
open PySem PySem.Spec PyProof.Rows L2
def cutSD (lo hi : Option Int) : D → Option D
  | .str z => if z.length ≤ sizeLine then some (.str (cutS z lo hi)) else none
  | _ => none
def revSD : D → Option D
  | .str z => if z.length ≤ sizeLine then some (.str ⟨z.cps.toList.reverse.toArray⟩) else none
  | _ => none
def signsD : D → Option (List D)
  | .str z => if z.length ≤ sizeLine then some (z.cps.toList.map fun c => .str ⟨#[c]⟩) else none
  | _ => none
@[simp] def eSliceS (a : SE) (lo hi : Option SE) : SE := fun env => (a env).bind fun x => (ePart lo env).bind fun l => (ePart hi env).bind fun h => cutSD l h x
@[simp] def iSigns (a : SE) : SI := fun env => (a env).bind signsD
section
variable {X : Cx} {O : List Nat} {a b : Expr} {fa fb : SE} {pos p2 : Pos}
theorem slSV : SlR X fun x lo hi H Q => ∃ F dx d, Same F H ∧ RpB (gx X) F H x dx ∧ cutSD lo hi dx = some d ∧ kV (gx X) F H d Q := by
  intro pins s σ H x v vl vu lo hi sl Q I rx hs pl pu h
  obtain ⟨F, dx, d, sm, bx, hd, q⟩ := h
  cases dx with
  | str z =>
    have e := bx.str
    subst e
    simp only [cutSD] at hd
    split at hd
    · cases hd
      exact sl_str pins s σ H _ v vl vu lo hi sl Q I rx hs pl pu ⟨z, rfl, by assumption, q.same sm (.str _)⟩
    · cases hd
  | _ => cases hd
theorem eslS {lo hi : Option Expr} {fl fh : Option SE} (ha : PE X a (rB (gx X) O fa)) (hl : PO X lo (oV (gx X) O fl)) (hh : PO X hi (oV (gx X) O fh)) : PE X (.Subscript a (.Slice lo hi none p2) pos) (rV (gx X) O (eSliceS fa fl fh)) :=
  (pe_slice slSV ha hl hh).imp fun σ H Q ⟨F, env, d, hs, hf, q⟩ => by
    simp only [eSliceS] at hf
    obtain ⟨x, h1, hf⟩ := bind_some hf
    obtain ⟨l, h2, hf⟩ := bind_some hf
    obtain ⟨h, h3, hf⟩ := bind_some hf
    exact ⟨F, env, x, hs, h1, fun v F1 H1 g1 r1 => ⟨F1, env, l, hs.gr g1, h2, fun F2 H2 g2 => ⟨F2, env, h, hs.gr (g1.trans g2), h3, fun F3 H3 g3 => ⟨F3, x, d, g3.fh, (r1.gr g2).gr g3, hf, q.gr ((g1.trans g2).trans g3)⟩⟩⟩⟩
theorem sidx_rev (n : Nat) : Builtin.Str.strSliceIndices none none (-1) n = (List.range n).map fun k => n - 1 - k := by
  have h1 : ¬ ((-1 : Int) > 0) := by decide
  simp only [Builtin.Str.strSliceIndices, sliceRange, if_neg h1]
  have hc : (if (n : Int) - 1 > -1 then ((n : Int) - 1 - -1 - -1 - 1) / (- -1) else 0).toNat = n := by
    by_cases h : (n : Int) - 1 > -1
    · rw [if_pos h]
      have : ((n : Int) - 1 - -1 - -1 - 1) / (- -1) = n := by
        have e : (n : Int) - 1 - -1 - -1 - 1 = n := by omega
        rw [e]
        exact Int.ediv_one _
      rw [this]
      omega
    · rw [if_neg h]
      have : n = 0 := by omega
      subst this
      rfl
  rw [hc]
  refine List.map_congr_left fun k hk => ?_
  have := List.mem_range.mp hk
  omega
theorem revS_pick (z : Str) : ((List.range z.length).map fun k => z.length - 1 - k).filterMap (z.cps[·]?) = z.cps.toList.reverse := by
  have hz : z.length = z.cps.toList.length := rfl
  rw [List.filterMap_map]
  have : ∀ l : List Nat, ∀ a : Array Nat, a.toList = l → (List.range l.length).filterMap ((fun x => a[x]?) ∘ fun k => l.length - 1 - k) = l.reverse := by
    intro l a hl
    have e : (List.range l.length).filterMap ((fun x => a[x]?) ∘ fun k => l.length - 1 - k) = (List.range l.length).map fun k => l.reverse.getD k 0 := by
      have go : ∀ n, n ≤ l.length → (List.range n).filterMap ((fun x => a[x]?) ∘ fun k => l.length - 1 - k) = (List.range n).map fun k => l.reverse.getD k 0 := by
        intro n
        induction n with
        | zero => intro _; rfl
        | succ n ih =>
          intro hn
          rw [List.range_succ, List.filterMap_append, List.map_append, ih (by omega)]
          congr 1
          have h2 : l.length - 1 - n < l.length := by omega
          have e3 : a[l.length - 1 - n]? = some (l[l.length - 1 - n]'h2) := by
            rw [← Array.getElem?_toList, hl]
            exact List.getElem?_eq_getElem h2
          simp only [List.filterMap_cons, List.filterMap_nil, Function.comp, e3, List.map_cons, List.map_nil]
          congr 1
          rw [List.getD_eq_getElem?_getD, List.getElem?_reverse (by omega), List.getElem?_eq_getElem (by omega)]
          rfl
      exact go _ (Nat.le_refl _)
    rw [e]
    refine List.ext_getElem? fun i => ?_
    rw [List.getElem?_map]
    by_cases h : i < l.length
    · rw [List.getElem?_range h]
      have h' : i < l.reverse.length := by rw [List.length_reverse]; exact h
      rw [List.getElem?_eq_getElem h']
      simp only [Option.map_some, List.getD_eq_getElem?_getD, List.getElem?_eq_getElem h', Option.getD_some]
    · rw [List.getElem?_eq_none (by simpa using h), List.getElem?_eq_none (by simpa using h)]
      rfl
  exact this z.cps.toList z.cps rfl
def tRevS (te : TE) : TE := fun σ H Q => te σ H fun x H1 => ∃ z, x = .str z ∧ z.length ≤ sizeLine ∧ Q (.str ⟨z.cps.toList.reverse.toArray⟩) H1
theorem pe_revS {e : Expr} {te : TE} {k : Nat} {p1 p2 p3 pos : Pos} (he : PE X e te) : PE X (.Subscript e (.Slice none none (some (.UnaryOp .USub (.Constant (.int 1) k p1) p2)) p3) pos) (tRevS te) := by
  refine ⟨fun pins s σ H Q I h => ?_⟩
  refine Subscript_ (thn (he.run pins s σ H _ I h) fun v s1 ⟨x, H1, I1, r1, q1⟩ => ?_)
  obtain ⟨z, ex, hz, q⟩ := q1
  subst ex
  obtain ⟨t, rfl⟩ := r1
  have hst : PO X (some (.UnaryOp .USub (.Constant (.int 1) k p1) p2)) (tPart (tUn (rU fun i => .int (-i)) (tC (.int 1)))) := po_some (pe_un un_neg pe_int)
  refine wpAny_Slice (thn (po_none.run pins s1 σ H1 (fun o H2 => o = none ∧ H2 = H1) I1 ⟨rfl, rfl⟩) fun vl s2 ⟨l, H2, I2, pl, el, e2⟩ => ?_)
  subst el e2
  refine thn (po_none.run pins s2 σ H2 (fun o H3 => o = none ∧ H3 = H2) I2 ⟨rfl, rfl⟩) fun vu s3 ⟨u, H3, I3, pu, eu, e3⟩ => ?_
  subst eu e3
  refine thn (hst.run pins s3 σ H3 (fun o H4 => o = some (-1) ∧ H4 = H3) I3 ⟨1, rfl, -1, rfl, rfl, rfl⟩) fun vs s4 ⟨o, H4, I4, ps, eo, e4⟩ => ?_
  subst eo e4
  have I5 : Inv X pins σ H4 { s4 with heap := s4.heap.push { cls := .type "slice", data := .fields #[vl, vu, vs] } } := I4.kept (t' := s4.toks) fun b ob q => Heap.get?_push_of_some _ q
  cases pl
  cases pu
  cases ps

  show wpAny (model X.prog X.w) X.A (subscriptTail e (.Slice none none (some (.UnaryOp .USub (.Constant (.int 1) k p1) p2)) p3) (.str z t) (.ref s4.heap.objs.size)) (EP X pins σ Q) X.xe _
  refine tail_any (ops := [.str z t, .ref s4.heap.objs.size]) (typeIs_str _ _ _) F.slot_str_getitem.lookup ?_ (by with_unfolding_all rfl)
  refine wpAny_getItem_str_slice (l := none) (u := none) (st := some (-1, _)) ⟨_, Heap.get?_push_size _ rfl, rfl, rfl⟩ rfl ?_
  have hno : ¬ (((-1 : Int) == 1 && (Builtin.Str.strSliceIndices none none (-1) z.length).length == z.length) = true) := by
    intro q
    rw [Bool.and_eq_true] at q
    exact absurd q.1 (by decide)
  show Made.post (if ((-1 : Int) == 1 && (Builtin.Str.strSliceIndices none none (-1) z.length).length == z.length) = true then Made.val (.str z t)
    else Made.str ⟨((Builtin.Str.strSliceIndices none none (-1) z.length).filterMap (z.cps[·]?)).toArray⟩) (EP X pins σ Q) _
  rw [if_neg hno, sidx_rev, revS_pick]
  refine ⟨?_, .str _, H4, I5.tok _, ⟨_, rfl⟩, q⟩
  show (z.cps.toList.reverse.toArray).size ≤ _
  rw [List.size_toArray, List.length_reverse]
  exact hz
theorem erevS {k : Nat} {p1 p2 p3 pos : Pos} (ha : PE X a (rB (gx X) O fa)) : PE X (.Subscript a (.Slice none none (some (.UnaryOp .USub (.Constant (.int 1) k p1) p2)) p3) pos) (rV (gx X) O (e1 revSD fa)) :=
  (pe_revS ha).imp fun σ H Q ⟨F, env, d, hs, hf, q⟩ => by
    obtain ⟨x, h1, h3⟩ := split1 hf
    cases x with
    | str z =>
      simp only [revSD] at h3
      split at h3
      · cases h3
        refine ⟨F, env, _, hs, h1, fun v F1 H1 g1 r1 => ?_⟩
        have e := r1.str
        subst e
        exact ⟨z, rfl, by assumption, q _ F1 H1 g1 (.str _)⟩
      · cases h3
    | _ => cases h3
end
section
variable {X : Cx} {O : List Nat} {a tg : Expr} {fa : SE}
theorem itv_str {G : Gx} {F : Hp} {z : Str} : ItV G (Its z) F (z.cps.toList.map fun c => .str ⟨#[c]⟩) := fun i F2 H2 s1 s2 => by
  refine ⟨fun d e => ?_, fun e => ?_⟩
  · rw [List.getElem?_map] at e
    obtain ⟨c, h1, rfl⟩ := Option.map_eq_some_iff.mp e
    have h2 : z.cps[i]? = some c := by rw [← Array.getElem?_toList]; exact h1
    refine ⟨(Array.getElem?_eq_some_iff.mp h2).1, fun x H3 h => ?_⟩
    obtain ⟨e1, c', h3, rfl⟩ := h
    rw [h2] at h3
    cases h3
    exact ⟨e1, .str _⟩
  · rw [List.getElem?_map, Option.map_eq_none_iff, List.getElem?_eq_none_iff] at e
    exact e
theorem isigns (ha : PE X a (rV (gx X) O fa)) : PI X tg a (iV (gx X) O (iSigns fa)) :=
  (pi_str ha).imp fun σ H R ⟨F, env, ds, hs, hf, q⟩ => by
    simp only [iSigns] at hf
    obtain ⟨x, h1, h2⟩ := bind_some hf
    cases x with
    | str z =>
      simp only [signsD] at h2
      split at h2
      · cases h2
        refine ⟨F, env, _, hs, h1, fun v F1 H1 g1 r1 => ?_⟩
        cases r1
        exact ⟨z, rfl, q _ F1 H1 g1 (by rw [List.length_map]; assumption) itv_str⟩
      · cases h2
    | _ => cases h2
end
end TL

set_option linter.all false
set_option maxRecDepth 100000
namespace LB
open PySem TL
def m__law_cell : List D → Option D := runF 2 0 ((sSeq (sIf (tV (e2 ltD (eVar 1) (e1 lenD (eVar 0))))
      (sRet (e2 ixD (eVar 0) (eVar 1)))
      sNext)
      (sRet (eC (.int 0)))))
def m__law_draws : List D → Option D := runF 2 4 ((sSeq (sAsg (eLst []) (TL.gName 2))
      (sSeq (sAsg (eVar 0) (TL.gName 3))
      (sSeq (sFor (iRng1 (eVar 1)) (TL.gName 4)
      (sIf (TL.tAnd (tV (e2 geD (eVar 0) (e2 powD (eC (.int 10)) (eC (.int 18))))) (tV (e2 gtD (eVar 3) (eC (.int 0)))))
      (sSeq (sApp 2 (e2 modD (e1 intD (eVar 3)) (eC (.int 4096))))
      (sAsg (e2 fdivD (eVar 3) (eC (.int 4096))) (TL.gName 3)))
      (sSeq (sAsg (e2 modD (e1 intD (e2 addD (e2 mulD (eVar 0) (eC (.int 48271))) (e2 mulD (e2 addD (eVar 4) (eC (.int 1))) (eC (.int 69621))))) (eC (.int 2147483647))) (TL.gName 5))
      (sSeq (sAsg (e2 modD (e1 intD (e2 addD (e2 addD (e2 mulD (eVar 5) (eVar 5)) (e2 mulD (eVar 5) (eC (.int 16807)))) (e2 mulD (eVar 4) (eC (.int 7919))))) (eC (.int 2147483629))) (TL.gName 5))
      (sSeq (sAsg (e2 modD (e1 intD (e2 addD (e2 addD (e2 mulD (eVar 5) (eVar 5)) (eVar 0)) (e2 mulD (eC (.int 13)) (eVar 4)))) (eC (.int 2147483587))) (TL.gName 5))
      (sApp 2 (e2 modD (e2 fdivD (eVar 5) (eC (.int 7))) (eC (.int 4096)))))))))
      (sRet (eVar 2))))))
def m__law_is_bool : List D → Option D := runF 2 0 ((sSeq (sIf (tV (eVar 1))
      (sRet (e2 isD (eVar 0) (eC (.bool true))))
      sNext)
      (sRet (e2 isD (eVar 0) (eC (.bool false))))))
def m__law_line : List D → Option D := runF 1 3 ((sSeq (sAsg (eTup []) (TL.gName 1))
      (sSeq (sFor (iRng1 (eVar 0)) (TL.gName 2)
      (sAsg (e2 addD (eVar 1) (e1 tupleD (eLc [3] (iRng2 (e2 addD (eVar 2) (eC (.int 1))) (eVar 0)) (TL.gName 3) cYes (eTup [(eVar 2), (eVar 3)])))) (TL.gName 1)))
      (sRet (eTup [(eVar 0), (eTup [(eTup []), (eTup [])]), (eVar 1)])))))
def m__law_kind : List D → Option D := runF 1 0 ((sSeq (sIf (tV (e1 (isiD .bool) (eVar 0)))
      (sRet (eC (.int 1)))
      sNext)
      (sSeq (sIf (tV (e1 (isiD .int) (eVar 0)))
      (sRet (eC (.int 2)))
      sNext)
      (sSeq (sIf (tV (e1 (isiD .str) (eVar 0)))
      (sRet (eC (.int 3)))
      sNext)
      (sSeq (sIf (tV (e1 (isiD .tuple) (eVar 0)))
      (sRet (eC (.int 4)))
      sNext)
      (sSeq (sIf (tV (e1 (isiD .list) (eVar 0)))
      (sRet (eC (.int 5)))
      sNext)
      (sSeq (sIf (tV (e1 (isiD .dict) (eVar 0)))
      (sRet (eC (.int 6)))
      sNext)
      (sRet (eC (.int 0))))))))))
def m__law_equal : Nat → List D → Option D
  | 0 => fun _ => none
  | n + 1 => runF 2 3 ((sSeq (sIf (tV (e2 neD (eCall m__law_kind [(eVar 0)]) (eCall m__law_kind [(eVar 1)])))
      (sRet (eC (.bool false)))
      sNext)
      (sSeq (sIf (TL.tOr (tV (e1 (isiD .tuple) (eVar 1))) (tV (e1 (isiD .list) (eVar 1))))
      (sSeq (sIf (tV (e2 neD (e1 lenD (eVar 0)) (e1 lenD (eVar 1))))
      (sRet (eC (.bool false)))
      sNext)
      (sRet (e2 eqD (e1 lenD (eLc [3] (iRng1 (e1 lenD (eVar 1))) (TL.gName 3) (TL.tNot (tV (eCall (m__law_equal n) [(e2 ixD (eVar 0) (eVar 3)), (e2 ixD (eVar 1) (eVar 3))]))) (eVar 3))) (eC (.int 0)))))
      sNext)
      (sSeq (sIf (tV (e1 (isiD .dict) (eVar 1)))
      (sSeq (sIf (tV (e2 neD (e1 lenD (eVar 0)) (e1 lenD (eVar 1))))
      (sRet (eC (.bool false)))
      sNext)
      (sSeq (sFor (iSeq (eVar 0)) (TL.gName 2)
      (sSeq (sIf (TL.tOr (tV (e2 ninD (eVar 2) (eVar 1))) (TL.tNot (tV (eCall (m__law_equal n) [(e2 ixD (eVar 0) (eVar 2)), (e2 ixD (eVar 1) (eVar 2))]))))
      (sRet (eC (.bool false)))
      sNext)
      (sIf (tV (e2 eqD (e1 lenD (eLc [4] (iSeq (eVar 1)) (TL.gName 4) (TL.tAnd (tV (e2 eqD (eVar 4) (eVar 2))) (tV (eCall (m__law_equal n) [(eVar 2), (eVar 4)]))) (eVar 4))) (eC (.int 0))))
      (sRet (eC (.bool false)))
      sNext)))
      (sRet (eC (.bool true)))))
      sNext)
      (sRet (e2 eqD (eVar 0) (eVar 1)))))))
def m_line_world : List D → Option D := runF 1 2 ((sRet (eTup [(eVar 0), (eTup [(eTup []), (eTup [])]), (e1 tupleD (eLc2 [1, 2] (iRng1 (eVar 0)) (TL.gName 1) cYes [2] (iRng2 (e2 addD (eVar 1) (eC (.int 1))) (eVar 0)) (TL.gName 2) cYes (eTup [(eVar 1), (eVar 2)])))])))
def m_word_world : List D → Option D := runF 1 6 ((sSeq (sAsg (eCall m_line_world [(e1 lenD (eVar 0))]) (TL.gTup [(TL.gName 2), (TL.gName 3), (TL.gName 4)]))
      (sSeq (sAsg (e1 tupleD (eLc [5] (iRng1 (eC (.int 2))) (TL.gName 5) cYes (e1 tupleD (eLc [6] (iRng1 (eVar 2)) (TL.gName 6) (tV (e2 ixD (eTab [("-", .tuple [.bool false, .bool false]), ("a", .tuple [.bool true, .bool false]), ("b", .tuple [.bool false, .bool true]), ("c", .tuple [.bool true, .bool true])] (e2 ixD (eVar 0) (eVar 6))) (eVar 5))) (eVar 6))))) (TL.gName 1))
      (sRet (eTup [(eVar 2), (eVar 1), (eVar 4)])))))
def m__law_inner : List D → Option D := runF 1 1 ((sSeq (sAsg (e2 ixD (eVar 0) (eC (.int 0))) (TL.gName 1))
      (sSeq (sIf (tV (e2 inD (eVar 1) (eTup [(eC (.str "and")), (eC (.str "or"))])))
      (sRet (e2 ixD (eVar 0) (eC (.int 1))))
      sNext)
      (sSeq (sIf (tV (e2 eqD (eVar 1) (eC (.str "not"))))
      (sRet (eSlice (eVar 0) (some (eC (.int 1))) none))
      sNext)
      (sSeq (sIf (tV (e2 inD (eVar 1) (eTup [(eC (.str "some")), (eC (.str "all"))])))
      (sRet (eSlice (eVar 0) (some (eC (.int 2))) none))
      sNext)
      (sSeq (sIf (tV (e2 eqD (eVar 1) (eC (.str "least"))))
      (sRet (eSlice (eVar 0) (some (eC (.int 3))) none))
      sNext)
      (sRet (eTup []))))))))
def m__law_bound : List D → Option D := runF 1 0 ((sSeq (sIf (tV (e2 inD (e2 ixD (eVar 0) (eC (.int 0))) (eTup [(eC (.str "some")), (eC (.str "all"))])))
      (sRet (eLst [(e2 ixD (eVar 0) (eC (.int 1)))]))
      sNext)
      (sSeq (sIf (tV (e2 eqD (e2 ixD (eVar 0) (eC (.int 0))) (eC (.str "least"))))
      (sRet (eLst [(e2 ixD (eVar 0) (eC (.int 2)))]))
      sNext)
      (sRet (eLst [])))))
def m__law_truth : Nat → List D → Option D
  | 0 => fun _ => none
  | n + 1 => runF 3 6 ((sSeq (sAsg (e2 ixD (eVar 1) (eC (.int 0))) (TL.gName 3))
      (sSeq (sIf (tV (e2 eqD (eVar 3) (eC (.str "same"))))
      (sRet (e2 eqD (e2 ixD (eVar 2) (e2 ixD (eVar 1) (eC (.int 1)))) (e2 ixD (eVar 2) (e2 ixD (eVar 1) (eC (.int 2))))))
      sNext)
      (sSeq (sIf (tV (e2 eqD (eVar 3) (eC (.str "mark"))))
      (sRet (e2 inD (e2 ixD (eVar 2) (e2 ixD (eVar 1) (eC (.int 2)))) (e2 ixD (e2 ixD (eVar 0) (eC (.int 1))) (e2 ixD (eVar 1) (eC (.int 1))))))
      sNext)
      (sSeq (sIf (tV (e2 eqD (eVar 3) (eC (.str "arrow"))))
      (sRet (e2 inD (eTup [(e2 ixD (eVar 2) (e2 ixD (eVar 1) (eC (.int 1)))), (e2 ixD (eVar 2) (e2 ixD (eVar 1) (eC (.int 2))))]) (e2 ixD (eVar 0) (eC (.int 2)))))
      sNext)
      (sSeq (sIf (tV (e2 eqD (eVar 3) (eC (.str "not"))))
      (sRet (eNot (eCall (m__law_truth n) [(eVar 0), (e2 ixD (eVar 1) (eC (.int 1))), (eVar 2)])))
      sNext)
      (sSeq (sIf (tV (e2 eqD (eVar 3) (eC (.str "and"))))
      (sSeq (sFor (iSeq (e2 ixD (eVar 1) (eC (.int 1)))) (TL.gName 8)
      (sIf (TL.tNot (tV (eCall (m__law_truth n) [(eVar 0), (eVar 8), (eVar 2)])))
      (sRet (eC (.bool false)))
      sNext))
      (sRet (eC (.bool true))))
      sNext)
      (sSeq (sIf (tV (e2 eqD (eVar 3) (eC (.str "or"))))
      (sSeq (sFor (iSeq (e2 ixD (eVar 1) (eC (.int 1)))) (TL.gName 8)
      (sIf (tV (eCall (m__law_truth n) [(eVar 0), (eVar 8), (eVar 2)]))
      (sRet (eC (.bool true)))
      sNext))
      (sRet (eC (.bool false))))
      sNext)
      (sSeq (sIf (tV (e2 inD (eVar 3) (eTup [(eC (.str "true")), (eC (.str "false"))])))
      (sRet (e2 eqD (eVar 3) (eC (.str "true"))))
      sNext)
      (sSeq (sAsg (e2 ixD (eCall m__law_bound [(eVar 1)]) (eC (.int 0))) (TL.gName 4))
      (sSeq (sAsg (eC (.int 1)) (TL.gName 5))
      (sSeq (sIf (tV (e2 eqD (eVar 3) (eC (.str "least"))))
      (sAsg (e2 ixD (eVar 1) (eC (.int 1))) (TL.gName 5))
      sNext)
      (sSeq (sAsg (eC (.int 0)) (TL.gName 6))
      (sSeq (sFor (iRng1 (e2 ixD (eVar 0) (eC (.int 0)))) (TL.gName 7)
      (sIf (TL.tOr (tV (e2 eqD (eVar 3) (eC (.str "all")))) (tV (e2 ltD (eVar 6) (eVar 5))))
      (sIf (tV (eCall (m__law_truth n) [(eVar 0), (e2 ixD (eVar 1) (e1 negD (eC (.int 1)))), (e2 addD (e2 addD (eSlice (eVar 2) none (some (eVar 4))) (eTup [(eVar 7)])) (eSlice (eVar 2) (some (e2 addD (eVar 4) (eC (.int 1)))) none))]))
      (sAsg (e2 addD (eVar 6) (eC (.int 1))) (TL.gName 6))
      (sIf (tV (e2 eqD (eVar 3) (eC (.str "all"))))
      (sRet (eC (.bool false)))
      sNext))
      sNext))
      (sRet (eOr (e2 eqD (eVar 3) (eC (.str "all"))) (e2 geD (eVar 6) (eVar 5))))))))))))))))))
def m__law_pushed : Nat → List D → Option D
  | 0 => fun _ => none
  | n + 1 => runF 1 1 ((sSeq (sIf (TL.tAnd (tV (e2 eqD (e2 ixD (eVar 0) (eC (.int 0))) (eC (.str "not")))) (tV (e2 ninD (e2 ixD (e2 ixD (eVar 0) (eC (.int 1))) (eC (.int 0))) (eTup [(eC (.str "same")), (eC (.str "mark")), (eC (.str "arrow")), (eC (.str "least"))]))))
      (sRet (eC (.bool false)))
      sNext)
      (sRet (e2 eqD (e1 lenD (eLc [1] (iSeq (eCall m__law_inner [(eVar 0)])) (TL.gName 1) (TL.tNot (tV (eCall (m__law_pushed n) [(eVar 1)]))) (eVar 1))) (eC (.int 0))))))
def m_goes : List D → Option D := runF 4 5 ((sSeq (sAsg (eVar 2) (TL.gTup [(TL.gName 4), (TL.gName 5)]))
      (sSeq (sAsg (eVar 3) (TL.gTup [(TL.gName 6), (TL.gName 7)]))
      (sSeq (sIf (tV (e2 neD (e2 eqD (eVar 4) (eVar 6)) (e2 eqD (eVar 5) (eVar 7))))
      (sRet (eC (.bool false)))
      sNext)
      (sSeq (sIf (tV (e1 anyD (eLc [8] (iSeq (eTup [(eC (.int 0)), (eC (.int 1))])) (TL.gName 8) cYes (e2 neD (e2 inD (eVar 4) (e2 ixD (e2 ixD (eVar 0) (eC (.int 1))) (eVar 8))) (e2 inD (eVar 5) (e2 ixD (e2 ixD (eVar 1) (eC (.int 1))) (eVar 8)))))))
      (sRet (eC (.bool false)))
      sNext)
      (sRet (eAnd (e2 eqD (e2 inD (eTup [(eVar 4), (eVar 6)]) (e2 ixD (eVar 0) (eC (.int 2)))) (e2 inD (eTup [(eVar 5), (eVar 7)]) (e2 ixD (eVar 1) (eC (.int 2))))) (e2 eqD (e2 inD (eTup [(eVar 6), (eVar 4)]) (e2 ixD (eVar 0) (eC (.int 2)))) (e2 inD (eTup [(eVar 7), (eVar 5)]) (e2 ixD (eVar 1) (eC (.int 2))))))))))))
def m__law_fit : List D → Option D := runF 4 4 ((sSeq (sAsg (eVar 2) (TL.gTup [(TL.gName 4), (TL.gName 5)]))
      (sSeq (sAsg (eVar 3) (TL.gTup [(TL.gName 6), (TL.gName 7)]))
      (sSeq (sIf (tV (e2 neD (e2 eqD (eVar 4) (eVar 6)) (e2 eqD (eVar 5) (eVar 7))))
      (sRet (eC (.bool false)))
      sNext)
      (sSeq (sIf (TL.tOr (tV (e2 neD (e2 inD (eVar 4) (e2 ixD (e2 ixD (eVar 0) (eC (.int 1))) (eC (.int 0)))) (e2 inD (eVar 5) (e2 ixD (e2 ixD (eVar 1) (eC (.int 1))) (eC (.int 0)))))) (tV (e2 neD (e2 inD (eVar 4) (e2 ixD (e2 ixD (eVar 0) (eC (.int 1))) (eC (.int 1)))) (e2 inD (eVar 5) (e2 ixD (e2 ixD (eVar 1) (eC (.int 1))) (eC (.int 1)))))))
      (sRet (eC (.bool false)))
      sNext)
      (sRet (eAnd (e2 eqD (e2 inD (eTup [(eVar 4), (eVar 6)]) (e2 ixD (eVar 0) (eC (.int 2)))) (e2 inD (eTup [(eVar 5), (eVar 7)]) (e2 ixD (eVar 1) (eC (.int 2))))) (e2 eqD (e2 inD (eTup [(eVar 6), (eVar 4)]) (e2 ixD (eVar 0) (eC (.int 2)))) (e2 inD (eTup [(eVar 7), (eVar 5)]) (e2 ixD (eVar 1) (eC (.int 2))))))))))))
def m_grows : List D → Option D := runF 4 1 ((sRet (eAnd (eCall m_goes [(eVar 0), (eVar 1), (eVar 3), (eVar 3)]) (e1 allD (eLc [4] (iSeq (eVar 2)) (TL.gName 4) cYes (eCall m_goes [(eVar 0), (eVar 1), (eVar 3), (eVar 4)]))))))
def m_put : List D → Option D := runF 2 0 ((sRet (eIf (tV (e2 inD (eVar 1) (eVar 0))) (eVar 0) (e1 tupleD (e1 sortedD (e2 addD (eVar 0) (eTup [(eVar 1)])))))))
def m_can_answer_2 : (List D → Option D) → List D → Option D := fun R => runM 6 4 4 ((sSeq (sAsg (eRngV (eC (.int 0)) (eIf (tV (e2 eqD (eVar 6) (eC (.int 0)))) (e2 ixD (eVar 1) (eC (.int 0))) (e2 ixD (eVar 0) (eC (.int 0))))) (TL.gName 7))
      (sSeq (sAsg (eLc [10] (iRngO (eVar 7)) (TL.gName 10) cYes (eIf (tV (e2 eqD (eVar 6) (eC (.int 0)))) (eTup [(eVar 5), (eVar 10)]) (eTup [(eVar 10), (eVar 5)]))) (TL.gName 8))
      (sSeq (sFor (iSeq (eVar 8)) (TL.gName 9)
      (sIf (TL.tAnd (tV (eCall m_grows [(eVar 0), (eVar 1), (eVar 2), (eVar 9)])) (tV (eCall R [(eVar 0), (eVar 1), (eCall m_put [(eVar 2), (eVar 9)]), (eVar 3)])))
      (sRet (eC (.bool true)))
      sNext))
      (sRet (eC (.bool false)))))))
def m_can_go_2 : Nat → List D → Option D
  | 0 => fun _ => none
  | n + 1 => runM 4 4 3 ((sSeq (sIf (tV (e2 eqD (eVar 3) (eC (.int 0))))
      (sRet (eC (.bool true)))
      sNext)
      (sMemo LB.uGo LB.spGo 0 1 (eTup [(eVar 2), (eVar 3)])
      (sSeqN (sAsg (eAg true [6] (iRng1 (e2 ixD (eVar 0) (eC (.int 0)))) (TL.gName 6) (eCall (m_can_answer_2 (m_can_go_2 n)) [(eVar 0), (eVar 1), (eVar 2), (e2 subD (eVar 3) (eC (.int 1))), (eVar 6), (eC (.int 0))])) (TL.gName 5))
      (sEnd LB.uGo LB.spGo 0 1 (eTup [(eVar 2), (eVar 3)]) (eAnd (eVar 5) (eAg true [7] (iRng1 (e2 ixD (eVar 1) (eC (.int 0)))) (TL.gName 7) (eCall (m_can_answer_2 (m_can_go_2 n)) [(eVar 0), (eVar 1), (eVar 2), (e2 subD (eVar 3) (eC (.int 1))), (eVar 7), (eC (.int 1))]))))))))
def m__law_can : Nat → List D → Option D
  | 0 => fun _ => none
  | n + 1 => runF 4 6 ((sSeq (sIf (tV (e2 eqD (eVar 3) (eC (.int 0))))
      (sRet (eC (.bool true)))
      sNext)
      (sSeq (sFor (iRng1 (eC (.int 2))) (TL.gName 4)
      (sFor (iRng1 (e2 ixD (eLst [(e2 ixD (eVar 0) (eC (.int 0))), (e2 ixD (eVar 1) (eC (.int 0)))]) (eVar 4))) (TL.gName 5)
      (sSeq (sAsg (eC (.bool false)) (TL.gName 6))
      (sSeq (sFor (iRng1 (e2 ixD (eLst [(e2 ixD (eVar 1) (eC (.int 0))), (e2 ixD (eVar 0) (eC (.int 0)))]) (eVar 4))) (TL.gName 7)
      (sSeq (sAsg (e2 ixD (eLst [(eTup [(eVar 5), (eVar 7)]), (eTup [(eVar 7), (eVar 5)])]) (eVar 4)) (TL.gName 8))
      (sIf (TL.tAnd (TL.tNot (tV (eVar 6))) (tV (e2 eqD (e1 lenD (eLc [9] (iSeq (e2 addD (eVar 2) (eTup [(eVar 8)]))) (TL.gName 9) (TL.tNot (tV (eCall m__law_fit [(eVar 0), (eVar 1), (eVar 8), (eVar 9)]))) (eVar 9))) (eC (.int 0)))))
      (sAsg (eCall (m__law_can n) [(eVar 0), (eVar 1), (e2 addD (eVar 2) (eTup [(eVar 8)])), (e2 subD (eVar 3) (eC (.int 1)))]) (TL.gName 6))
      sNext)))
      (sIf (TL.tNot (tV (eVar 6)))
      (sRet (eC (.bool false)))
      sNext)))))
      (sRet (eC (.bool true))))))
def m__law_agree : List D → Option D := runF 3 0 ((sRet (eCall (m__law_can 60) [(eVar 0), (eVar 1), (eTup []), (eVar 2)])))
def m_agree_2 : List D → Option D := runF 3 0 ((sRet (eCall (m_can_go_2 8) [(eVar 0), (eVar 1), (eTup []), (eVar 2)])))
def m_words_agree_2 : List D → Option D := runF 3 0 ((sRet (eCall m_agree_2 [(eCall m_word_world [(eVar 0)]), (eCall m_word_world [(eVar 1)]), (eVar 2)])))
def m_all_words : List D → Option D := runF 1 4 ((sSeq (sAsg (eLst [(eC (.str ""))]) (TL.gName 1))
      (sSeq (sFor (iRng1 (eVar 0)) (TL.gName 2)
      (sAsg (eLc2 [3, 4] (iSeq (eVar 1)) (TL.gName 3) cYes [4] (iSigns (eC (.str "ab"))) (TL.gName 4) cYes (e2 addD (eVar 3) (eVar 4))) (TL.gName 1)))
      (sRet (eVar 1)))))
def m_word_kinds_2 : List D → Option D := runF 2 4 ((sSeq (sAsg (eLst []) (TL.gName 2))
      (sSeq (sLots 2 3 4 5 (iSeq (eCall m_all_words [(eVar 0)])) (tV (eCall m_words_agree_2 [(e2 ixD (eVar 5) (eC (.int 0))), (eVar 3), (eVar 1)])))
      (sRet (e1 sortedWD (eLc [5] (iSeq (eVar 2)) (TL.gName 5) cYes (e1 tupleD (eVar 5))))))))
def m__law_word : List D → Option D := runF 1 2 ((sSeq (sAsg (eTup [(e1 tupleD (eLc [2] (iRng1 (e1 lenD (eVar 0))) (TL.gName 2) (tV (e2 inSD (e2 ixD (eVar 0) (eVar 2)) (eC (.str "ac")))) (eVar 2))), (e1 tupleD (eLc [2] (iRng1 (e1 lenD (eVar 0))) (TL.gName 2) (tV (e2 inSD (e2 ixD (eVar 0) (eVar 2)) (eC (.str "bc")))) (eVar 2)))]) (TL.gName 1))
      (sRet (eTup [(e1 lenD (eVar 0)), (eVar 1), (e2 ixD (eCall m__law_line [(e1 lenD (eVar 0))]) (eC (.int 2)))]))))
def m__law_all_words : List D → Option D := runF 1 3 ((sSeq (sAsg (eLst [(eC (.str ""))]) (TL.gName 1))
      (sSeq (sFor (iRng1 (eVar 0)) (TL.gName 2)
      (sAsg (e2 addD (eLc [3] (iSeq (eVar 1)) (TL.gName 3) cYes (e2 addD (eVar 3) (eC (.str "a")))) (eLc [3] (iSeq (eVar 1)) (TL.gName 3) cYes (e2 addD (eVar 3) (eC (.str "b"))))) (TL.gName 1)))
      (sRet (e1 sortedWD (eVar 1))))))
def m_law_k52 : List D → Option D := runF 1 11 ((sSeq (sAsg (eCall m__law_draws [(eCall m__law_cell [(eVar 0), (eC (.int 0))]), (eC (.int 40))]) (TL.gName 1))
      (sSeq (sAsg (eJoin "" (eLc [6] (iRng1 (e2 addD (eC (.int 1)) (e2 modD (e2 ixD (eVar 1) (eC (.int 0))) (eC (.int 5))))) (TL.gName 6) cYes (e2 ixD (eC (.str "ab-c")) (e2 modD (e1 intD (e2 ixD (eVar 1) (e2 addD (eC (.int 1)) (eVar 6)))) (e2 ixD (eLst [(eC (.int 2)), (eC (.int 4))]) (e2 modD (e2 ixD (eVar 1) (eC (.int 30))) (eC (.int 2)))))))) (TL.gName 2))
      (sSeq (sAsg (eVar 2) (TL.gName 3))
      (sSeq (sAsg (e2 modD (e2 ixD (eVar 1) (eC (.int 11))) (e1 lenD (eVar 2))) (TL.gName 4))
      (sSeq (sAsg (e2 modD (e2 ixD (eVar 1) (eC (.int 12))) (eC (.int 4))) (TL.gName 5))
      (sSeq (sIf (tV (e2 eqD (eVar 5) (eC (.int 0))))
      (sAsg (e2 addD (e2 addD (eSliceS (eVar 2) none (some (eVar 4))) (e2 ixD (eC (.str "abc-")) (e2 modD (e2 ixD (eVar 1) (eC (.int 13))) (eC (.int 4))))) (eSliceS (eVar 2) (some (e2 addD (eVar 4) (eC (.int 1)))) none)) (TL.gName 3))
      sNext)
      (sSeq (sIf (tV (e2 eqD (eVar 5) (eC (.int 1))))
      (sAsg (eSliceS (e2 addD (eVar 2) (e2 ixD (eVar 2) (eVar 4))) none (some (eC (.int 5)))) (TL.gName 3))
      sNext)
      (sSeq (sIf (tV (e2 eqD (eVar 5) (eC (.int 2))))
      (sSeq (sAsg (e2 addD (e2 addD (eSliceS (eVar 2) none (some (eVar 4))) (e2 ixD (eVar 2) (eVar 4))) (eSliceS (eVar 2) (some (eVar 4)) none)) (TL.gName 3))
      (sAsg (eSliceS (eVar 3) none (some (eC (.int 5)))) (TL.gName 3)))
      sNext)
      (sSeq (sIf (tV (e2 eqD (eVar 5) (eC (.int 3))))
      (sAsg (e1 revSD (eVar 2)) (TL.gName 3))
      sNext)
      (sSeq (sAsg (e2 modD (e2 ixD (eVar 1) (eC (.int 14))) (eC (.int 3))) (TL.gName 6))
      (sSeq (sIf (TL.tNot (tV (eCall m__law_is_bool [(eCall m_words_agree_2 [(eVar 2), (eVar 3), (eVar 6)]), (eCall m__law_agree [(eCall m__law_word [(eVar 2)]), (eCall m__law_word [(eVar 3)]), (eVar 6)])])))
      (sRet (eC (.bool false)))
      sNext)
      (sSeq (sAsg (e2 addD (eC (.int 1)) (e2 modD (e2 ixD (eVar 1) (eC (.int 15))) (eC (.int 3)))) (TL.gName 7))
      (sSeq (sAsg (e2 modD (e2 ixD (eVar 1) (eC (.int 16))) (eC (.int 3))) (TL.gName 6))
      (sSeq (sAsg (eLst []) (TL.gName 8))
      (sSeq (sFor (iSeq (eCall m__law_all_words [(eVar 7)])) (TL.gName 9)
      (sSeq (sAsg (eLc [11] (iRng1 (e1 lenD (eVar 8))) (TL.gName 11) (tV (eCall m__law_agree [(eCall m__law_word [(e2 ixD (e2 ixD (eVar 8) (eVar 11)) (eC (.int 0)))]), (eCall m__law_word [(eVar 9)]), (eVar 6)])) (eVar 11)) (TL.gName 10))
      (sIf (tV (e2 eqD (eVar 10) (eLst [])))
      (sApp 8 (eTup [(eVar 9)]))
      (sSetIx 8 (e2 ixD (eVar 10) (eC (.int 0))) (e2 addD (e2 ixD (eVar 8) (e2 ixD (eVar 10) (eC (.int 0)))) (eTup [(eVar 9)]))))))
      (sRet (eCall (m__law_equal 60) [(eCall m_word_kinds_2 [(eVar 7), (eVar 6)]), (e1 sortedWD (eVar 8))]))))))))))))))))))
end LB

set_option Elab.async false
set_option linter.all false
set_option maxRecDepth 100000
namespace LB
open PySem TL
theorem for_allT {α : Type} {g : SG} {body : SS} (ι : α → D) (I : TL.Env → Prop) (P : α → Bool) (r : D) : ∀ (xs : List α) (env : TL.Env), I env →
    (∀ x ∈ xs, ∀ env, I env → ∃ e1, g (ι x) env = some e1 ∧ ((P x = true ∧ ∃ e2, body e1 = some (.nx e2) ∧ I e2) ∨ (P x = false ∧ body e1 = some (.rt r)))) →
    (xs.all P = true ∧ ∃ e, forGo g body (xs.map ι) env = some (.nx e) ∧ I e) ∨ (xs.all P = false ∧ forGo g body (xs.map ι) env = some (.rt r))
  | [], env, h, _ => .inl ⟨rfl, env, rfl, h⟩
  | x :: xs, env, h, step => by
    obtain ⟨e1, h1, h2⟩ := step x List.mem_cons_self env h
    rcases h2 with ⟨hp, e2, h3, h4⟩ | ⟨hp, h3⟩
    · rcases for_allT ι I P r xs e2 h4 (fun y hy => step y (List.mem_cons_of_mem _ hy)) with ⟨h5, e, h6, h7⟩ | ⟨h5, h6⟩
      · exact .inl ⟨by rw [List.all_cons, hp, h5]; rfl, e, by rw [List.map_cons]; exact for_cons h1 h3 h6, h7⟩
      · exact .inr ⟨by rw [List.all_cons, hp, h5]; rfl, by rw [List.map_cons]; exact for_cons h1 h3 h6⟩
    · refine .inr ⟨by rw [List.all_cons, hp]; rfl, ?_⟩
      rw [List.map_cons]
      simp only [forGo, h1, Option.bind_some, h3]
theorem for_invT {α : Type} {g : SG} {body : SS} (ι : α → D) (I : List α → TL.Env → Prop) : ∀ (xs done : List α) (env : TL.Env), I done env →
    (∀ x ∈ xs, ∀ done env, I done env → ∃ e1, g (ι x) env = some e1 ∧ ∃ e2, (body e1 = some (.nx e2) ∨ body e1 = some (.ct e2)) ∧ I (done ++ [x]) e2) →
    ∃ e, forGo g body (xs.map ι) env = some (.nx e) ∧ I (done ++ xs) e
  | [], done, env, h, _ => ⟨env, rfl, by rw [List.append_nil]; exact h⟩
  | x :: xs, done, env, h, step => by
    obtain ⟨e1, h1, e2, h3, h4⟩ := step x List.mem_cons_self done env h
    obtain ⟨e, h5, h6⟩ := for_invT ι I xs (done ++ [x]) e2 h4 (fun y hy => step y (List.mem_cons_of_mem _ hy))
    refine ⟨e, ?_, by rw [List.append_assoc] at h6; exact h6⟩
    rw [List.map_cons]
    rcases h3 with h3 | h3
    · exact for_cons h1 h3 h5
    · simp only [forGo, h1, Option.bind_some, h3]
      exact h5
theorem rngI1 {a : SE} {env : TL.Env} {n : Int} (h : a env = some (.int n)) (h0 : 0 ≤ n) (h1 : n ≤ 1000000) : iRng1 a env = some ((rangeI 0 n.toNat).map .int) := by
  simp only [iRng1, h, Option.bind_some, toI]
  exact rng_0 h0 h1
theorem ann_snoc {α : Type} (P : α → Bool) (l : List α) (x : α) : (l ++ [x]).any P = (l.any P || P x) := by
  rw [List.any_append, List.any_cons, List.any_nil, Bool.or_false]
theorem none_left {α : Type} (P : α → Bool) (l : List α) : decide ((((l.filter fun x => !P x)).length : Int) = 0) = l.all P := by
  induction l with
  | nil => rfl
  | cons x l ih =>
    cases h : P x with
    | true =>
      rw [List.filter_cons_of_neg (by simp [h]), ih, List.all_cons, h, Bool.true_and]
    | false =>
      rw [List.filter_cons_of_pos (by simp [h]), List.all_cons, h, Bool.false_and, List.length_cons]
      exact decide_eq_false (by omega)
theorem call4_go {m : List D → Option D} {a b c d : SE} {env : TL.Env} {x y z v : D} {o : Option D} (h1 : a env = some x) (h2 : b env = some y) (h3 : c env = some z) (h4 : d env = some v) (h5 : m [x, y, z, v] = o) : eCall m [a, b, c, d] env = o := by
  simp only [eCall, eArgs, h1, h2, h3, h4, Option.bind_some, Option.map_some]
  exact h5
theorem call2_go {m : List D → Option D} {a b : SE} {env : TL.Env} {x y : D} {o : Option D} (h1 : a env = some x) (h2 : b env = some y) (h4 : m [x, y] = o) : eCall m [a, b] env = o := by
  simp only [eCall, eArgs, h1, h2, Option.bind_some, Option.map_some]
  exact h4
end LB

set_option Elab.async false
set_option linter.all false
set_option maxRecDepth 100000
namespace LB
open PySem TL
theorem cell_ok (ns : List Int) (k : Nat) : ∃ c : Int, m__law_cell [.list (ns.map .int), .int k] = some (.int c) := by
  by_cases h : k < ns.length
  · refine ⟨ns[k], ?_⟩
    simp [m__law_cell, runF, ltD, lenD, ixD, h, L2.atI, L2.ixN]
  · refine ⟨0, ?_⟩
    simp [m__law_cell, runF, ltD, lenD, ixD, h, L2.atI, L2.ixN]
theorem isbool_ok (x : Bool) (y : Bool) : m__law_is_bool [.bool x, .bool y] = some (.bool (decide (x = y))) := by
  cases x <;> cases y <;> rfl
theorem draws_ok (c : Int) (n : Nat) (hn : n ≤ 1000) : ∃ rs : List Int, m__law_draws [.int c, .int n] = some (.list (rs.map .int)) ∧ rs.length = n ∧ ∀ r ∈ rs, 0 ≤ r ∧ r < 4096 := by
  have hrng : rangeD 0 n = some (rangeL 0 n) := by
    have := rng_n (lo := 0) (hi := n) (by decide) (by decide) (by omega) (by omega)
    simpa using this
  have h18 := pow_18
  simp only [m__law_draws, runF, List.length_cons, List.length_nil, if_true, List.map_cons, List.map_nil, List.replicate, List.cons_append, List.nil_append, sSeq, sAsg, eLst, eArgs, Option.bind_some, Option.map_some, eVar, TL.gName, List.getD_cons_zero, List.set_cons_zero, List.set_cons_succ, sFor, iRng1, toI, List.getD_cons_succ, hrng, Nat.zero_le]
  generalize hb : (sIf _ _ _ : SS) = body
  obtain ⟨e, h1, rs, left, k, b, he, hl, hr⟩ := for_rng (g := TL.gName 4) (body := body)
    (lo := 0) (n := n) (env := [some (.int c), some (.int n), some (.list []), some (.int c), none, none])
    (fun i env => ∃ (rs : List Int) (left : Int) (k b : Option D), env = [some (.int c), some (.int n), some (.list (rs.map .int)), some (.int left), k, b] ∧ rs.length = i ∧ ∀ r ∈ rs, 0 ≤ r ∧ r < 4096)
    ⟨[], c, none, none, rfl, rfl, fun r h => (by cases h)⟩ (by
      rintro j env hj ⟨rs, left, k, b, rfl, hl, hr⟩
      refine ⟨_, rfl, ?_⟩
      have hs2 : rs.length < sizeLine := small' (by omega)
      subst hb
      by_cases hc : (1000000000000000000 : Int) ≤ c ∧ 0 < left
      · refine ⟨[some (.int c), some (.int n), some (.list ((rs ++ [left % 4096]).map .int)), some (.int (left / 4096)), some (.int (0 + j)), b], .inl ?_, rs ++ [left % 4096], left / 4096, _, b, rfl, by simp [hl], ?_⟩
        · simp [h18, hc.1, hc.2, mod_n, fdiv_n, hs2]
        · intro r hr'
          rcases List.mem_append.mp hr' with h | h
          · exact hr r h
          · rw [List.mem_singleton.mp h]; omega
      · have m1 : mulD (.int c) (.int 48271) = some (.int (c * 48271)) := mul_r (by decide) (by decide)
        have m2 : mulD (.int (j + 1)) (.int 69621) = some (.int ((j + 1) * 69621)) := mul_r (by decide) (by decide)
        generalize hb1 : (c * 48271 + (j + 1) * 69621) % 2147483647 = b1
        have r1 : 0 ≤ b1 ∧ b1 < 2147483647 := by omega
        have m3 : mulD (.int b1) (.int b1) = some (.int (b1 * b1)) := mul_r (by omega) (by omega)
        have m4 : mulD (.int b1) (.int 16807) = some (.int (b1 * 16807)) := mul_r (by decide) (by decide)
        have m5 : mulD (.int j) (.int 7919) = some (.int (j * 7919)) := mul_r (by decide) (by decide)
        generalize hb2 : (b1 * b1 + b1 * 16807 + j * 7919) % 2147483629 = b2
        have r2 : 0 ≤ b2 ∧ b2 < 2147483629 := by omega
        have m6 : mulD (.int b2) (.int b2) = some (.int (b2 * b2)) := mul_r (by omega) (by omega)
        have m7 : mulD (.int 13) (.int j) = some (.int (13 * j)) := mul_l (by decide) (by decide)
        generalize hb3 : (b2 * b2 + c + 13 * j) % 2147483587 = b3
        refine ⟨[some (.int c), some (.int n), some (.list ((rs ++ [b3 / 7 % 4096]).map .int)), some (.int left), some (.int (0 + j)), some (.int b3)], .inl ?_, rs ++ [b3 / 7 % 4096], left, _, _, rfl, by simp [hl], ?_⟩
        · have hc2 : ¬ ((1000000000000000000 : Int) ≤ c) ∨ ¬ (0 < left) := Classical.not_and_iff_not_or_not.mp hc
          rcases hc2 with hc2 | hc2
          · simp [h18, hc2, m1, m2, m3, m4, m5, m6, m7, mod_n, fdiv_n, hs2, hb1, hb2, hb3]
          · by_cases hc3 : (1000000000000000000 : Int) ≤ c
            · simp [h18, hc2, hc3, m1, m2, m3, m4, m5, m6, m7, mod_n, fdiv_n, hs2, hb1, hb2, hb3]
            · simp [h18, hc3, m1, m2, m3, m4, m5, m6, m7, mod_n, fdiv_n, hs2, hb1, hb2, hb3]
        · intro r hr'
          rcases List.mem_append.mp hr' with h | h
          · exact hr r h
          · rw [List.mem_singleton.mp h]; omega)
  subst he
  refine ⟨rs, ?_, hl, hr⟩
  simp only [h1, Option.bind_some, sRet, eVar, List.getD_cons_zero, List.getD_cons_succ, Option.map_some, outD]
structure Asc1 (n : Int) (l : List Int) : Prop where
  asc : l.Pairwise (· < ·)
  rng : ∀ a ∈ l, 0 ≤ a ∧ a < n
structure Asc2 (n : Int) (l : List (Int × Int)) : Prop where
  asc : l.Pairwise fun p q => ltPr p q = true
  rng : ∀ p ∈ l, 0 ≤ p.1 ∧ p.1 < n ∧ 0 ≤ p.2 ∧ p.2 < n
structure Wd.Ok (w : Wd) : Prop where
  lo : 1 ≤ w.n
  hi : w.n ≤ 8
  a0 : Asc1 w.n w.m0
  a1 : Asc1 w.n w.m1
  ar : Asc2 w.n w.ar
end LB

set_option Elab.async false
set_option linter.all false
set_option maxRecDepth 100000
namespace LB
open PySem TL
local macro_rules | `(tactic| walk_at "ev") => `(tactic| simp only [List.length_cons, List.length_nil, if_true, List.map_cons, List.map_nil, List.replicate, List.cons_append, List.nil_append, sSeq, sAsg, eLst, eTup, eArgs, Option.bind_some, Option.map_some, eC, eVar, eCall, e1, e2, eIf, eAnd, eOr, eNot, eChain, TL.gName, TL.gTup, gAll, List.getD_cons_zero, List.getD_cons_succ, List.set_cons_zero, List.set_cons_succ, sFor, iRng1, iRng2, iSeq, itemsD, toI, toB, sIf, sRet, sNext, tV, TL.tAnd, TL.tOr, TL.tNot, add_i, sub_i, lt_i, le_i, gt_i, ge_i, eq_i, ne_i, int_i, len_l, len_t, tuple_l, tuple_t, list_l, list_t, outD, Bool.false_eq_true, if_false, sApp, Nat.zero_le])
theorem wdn (w : Wd) : ixD w.d (.int 0) = some (.int w.n) := rfl
end LB

set_option Elab.async false
set_option linter.all false
set_option maxRecDepth 100000
namespace LB
open PySem TL
structure PoolOk (rows : List Int) : Prop where
  lo : 0 < rows.length
  hi : rows.length ≤ 1000
  rng : ∀ x ∈ rows, 0 ≤ x ∧ x < 4096
end LB

set_option Elab.async false
set_option linter.all false
set_option maxRecDepth 100000
namespace LB
open PySem TL
inductive IsFmB (B : Nat) (top : Int) (W : List Str) : Nat → D → Prop
  | arrow {d : Nat} {x y : Int} : 0 ≤ x → x < top → 0 ≤ y → y < top → IsFmB B top W d (.tuple [.str "arrow", .int x, .int y])
  | same {d : Nat} {x y : Int} : 0 ≤ x → x < top → 0 ≤ y → y < top → IsFmB B top W d (.tuple [.str "same", .int x, .int y])
  | mark {d : Nat} {i x : Int} : 0 ≤ i → i < 2 → 0 ≤ x → x < top → IsFmB B top W d (.tuple [.str "mark", .int i, .int x])
  | tru {d : Nat} : IsFmB B top W d (.tuple [.str "true"])
  | fls {d : Nat} : IsFmB B top W d (.tuple [.str "false"])
  | not {d : Nat} {f : D} : Str.ofString "not" ∈ W → IsFmB B top W d f → IsFmB B top W (d + 1) (.tuple [.str "not", f])
  | and {d : Nat} {l : List D} : Str.ofString "and" ∈ W → l.length ≤ B → (∀ x ∈ l, IsFmB B top W d x) → IsFmB B top W (d + 1) (.tuple [.str "and", .tuple l])
  | or {d : Nat} {l : List D} : Str.ofString "or" ∈ W → l.length ≤ B → (∀ x ∈ l, IsFmB B top W d x) → IsFmB B top W (d + 1) (.tuple [.str "or", .tuple l])
  | some {d : Nat} {n : Int} {f : D} : Str.ofString "some" ∈ W → 0 ≤ n → n < top → IsFmB B top W d f → IsFmB B top W (d + 1) (.tuple [.str "some", .int n, f])
  | all {d : Nat} {n : Int} {f : D} : Str.ofString "all" ∈ W → 0 ≤ n → n < top → IsFmB B top W d f → IsFmB B top W (d + 1) (.tuple [.str "all", .int n, f])
  | least {d : Nat} {k n : Int} {f : D} : Str.ofString "least" ∈ W → 1 ≤ k → k ≤ 8 → 0 ≤ n → n < top → IsFmB B top W d f → IsFmB B top W (d + 1) (.tuple [.str "least", .int k, .int n, f])
abbrev IsFm := IsFmB 3
theorem tup2_go {a b : SE} {env : TL.Env} {x y : D} (h1 : a env = some x) (h2 : b env = some y) : eTup [a, b] env = some (.tuple [x, y]) := by
  simp only [eTup, eArgs, h1, h2, Option.bind_some, Option.map_some, List.length_cons, List.length_nil]
  rw [if_pos (small (by decide))]
theorem tup3_go {a b c : SE} {env : TL.Env} {x y z : D} (h1 : a env = some x) (h2 : b env = some y) (h3 : c env = some z) : eTup [a, b, c] env = some (.tuple [x, y, z]) := by
  simp only [eTup, eArgs, h1, h2, h3, Option.bind_some, Option.map_some, List.length_cons, List.length_nil]
  rw [if_pos (small (by decide))]
theorem tV_go {a : SE} {env : TL.Env} {b : Bool} (h : a env = some (.bool b)) : tV a env = some b := by
  simp only [tV, h, Option.bind_some, toB]
theorem tOr_t {a b : ST} {env : TL.Env} (h : a env = some true) : TL.tOr a b env = some true := by
  simp only [TL.tOr, h, Option.bind_some, if_true]
theorem tOr_f {a b : ST} {env : TL.Env} {o : Option Bool} (h : a env = some false) (h2 : b env = o) : TL.tOr a b env = o := by
  simp only [TL.tOr, h, Option.bind_some, Bool.false_eq_true, if_false]
  exact h2
end LB

set_option Elab.async false
set_option linter.all false
set_option maxRecDepth 100000
namespace LB
open PySem TL
local macro_rules | `(tactic| walk_at "ev") => `(tactic| simp only [List.length_cons, List.length_nil, if_true, List.map_cons, List.map_nil, List.replicate, List.cons_append, List.nil_append, sSeq, sAsg, eLst, eTup, eArgs, Option.bind_some, Option.map_some, eC, eVar, eCall, e1, e2, eIf, eAnd, eOr, eNot, eChain, TL.gName, TL.gTup, gAll, List.getD_cons_zero, List.getD_cons_succ, List.set_cons_zero, List.set_cons_succ, sFor, iRng1, iRng2, iSeq, itemsD, toI, toB, sIf, sRet, sNext, tV, TL.tAnd, TL.tOr, TL.tNot, add_i, sub_i, lt_i, le_i, gt_i, ge_i, eq_i, ne_i, int_i, len_l, len_t, tuple_l, tuple_t, list_l, list_t, outD, Bool.false_eq_true, if_false, sApp, Nat.zero_le, wipeE, cYes, eSlice, ePart])
inductive Nice (b : Nat) : Nat → D → Prop
  | int {d : Nat} {i : Int} : i.natAbs ≤ b → Nice b d (.int i)
  | bool {d : Nat} (c : Bool) : Nice b d (.bool c)
  | str {d : Nat} {s : Str} : s.length ≤ b → PyData.strOk s = true → Nice b d (.str s)
  | none {d : Nat} : Nice b d .none
  | list {d : Nat} (ds : List D) : Nice b d (.list ds)
  | tup {d : Nat} {ds : List D} : ds.length ≤ b → (∀ x ∈ ds, Nice b d x) → Nice b (d + 1) (.tuple ds)
theorem Nice.mono {b b' d d' : Nat} {v : D} (h : Nice b d v) (hb : b ≤ b') (hd : d ≤ d') : Nice b' d' v := by
  induction h generalizing d' with
  | int h => exact .int (by omega)
  | bool c => exact .bool c
  | str h ho => exact .str (by omega) ho
  | none => exact .none
  | list ds => exact .list ds
  | tup h1 h2 ih =>
    obtain ⟨e, rfl⟩ : ∃ e, d' = e + 1 := ⟨d' - 1, by omega⟩
    exact .tup (by omega) fun x hx => ih x hx (by omega)
theorem bools_of (l : List Bool) : boolsOf (l.map .bool) = some l := by
  induction l with
  | nil => rfl
  | cons n r ih => simp only [List.map_cons, boolsOf, ih, Option.map_some]
section
variable {α : Type} (ι : α → D) (lt : α → α → Bool) (z : α) (l : List α) (hl : l.length ≤ 1000)
include hl
end
end LB

set_option Elab.async false
set_option linter.all false
set_option maxRecDepth 100000
namespace LB
open PySem TL
local macro_rules | `(tactic| walk_at "ev") => `(tactic| simp only [List.length_cons, List.length_nil, if_true, List.map_cons, List.map_nil, List.replicate, List.cons_append, List.nil_append, sSeq, sAsg, eLst, eTup, eArgs, Option.bind_some, Option.map_some, eC, eVar, eCall, e1, e2, eIf, eAnd, eOr, eNot, eChain, TL.gName, TL.gTup, gAll, List.getD_cons_zero, List.getD_cons_succ, List.set_cons_zero, List.set_cons_succ, sFor, iRng1, iRng2, iSeq, itemsD, toI, toB, sIf, sRet, sNext, tV, TL.tAnd, TL.tOr, TL.tNot, add_i, sub_i, lt_i, le_i, gt_i, ge_i, eq_i, ne_i, int_i, len_l, len_t, tuple_l, tuple_t, list_l, list_t, outD, Bool.false_eq_true, if_false, sApp, Nat.zero_le, wipeE, cYes, eSlice, ePart])
end LB

set_option Elab.async false
set_option linter.all false
set_option maxRecDepth 100000
namespace LB
open PySem TL
local macro_rules | `(tactic| walk_at "ev") => `(tactic| simp only [List.length_cons, List.length_nil, if_true, List.map_cons, List.map_nil, List.replicate, List.cons_append, List.nil_append, sSeq, sAsg, eLst, eTup, eArgs, Option.bind_some, Option.map_some, eC, eVar, eCall, e1, e2, eIf, eAnd, eOr, eNot, eChain, TL.gName, TL.gTup, gAll, List.getD_cons_zero, List.getD_cons_succ, List.set_cons_zero, List.set_cons_succ, sFor, iRng1, iRng2, iSeq, itemsD, toI, toB, sIf, sRet, sNext, tV, TL.tAnd, TL.tOr, TL.tNot, add_i, sub_i, lt_i, le_i, gt_i, ge_i, eq_i, ne_i, int_i, len_l, len_t, tuple_l, tuple_t, list_l, list_t, outD, Bool.false_eq_true, if_false, sApp, Nat.zero_le, wipeE, cYes, eSlice, ePart])
end LB

set_option Elab.async false
set_option linter.all false
set_option maxRecDepth 100000
namespace LB
open PySem TL
local macro_rules | `(tactic| walk_at "ev") => `(tactic| simp only [List.length_cons, List.length_nil, if_true, List.map_cons, List.map_nil, List.replicate, List.cons_append, List.nil_append, sSeq, sAsg, eLst, eTup, eArgs, Option.bind_some, Option.map_some, eC, eVar, eCall, e1, e2, eIf, eAnd, eOr, eNot, eChain, TL.gName, TL.gTup, gAll, List.getD_cons_zero, List.getD_cons_succ, List.set_cons_zero, List.set_cons_succ, sFor, iRng1, iRng2, iSeq, itemsD, toI, toB, sIf, sRet, sNext, tV, TL.tAnd, TL.tOr, TL.tNot, add_i, sub_i, lt_i, le_i, gt_i, ge_i, eq_i, ne_i, int_i, len_l, len_t, tuple_l, tuple_t, list_l, list_t, outD, Bool.false_eq_true, if_false, sApp, Nat.zero_le, wipeE, cYes, eSlice, ePart])
end LB

set_option Elab.async false
set_option linter.all false
set_option maxRecDepth 100000
namespace LB
open PySem TL
theorem and_go {a b : SE} {env : TL.Env} {x y : Bool} (h1 : a env = some (.bool x)) (h2 : x = true → b env = some (.bool y)) : eAnd a b env = some (.bool (x && y)) := by
  simp only [eAnd, h1, Option.bind_some, toB]
  cases x with
  | true => rw [if_pos rfl, h2 rfl]; rfl
  | false => rfl
theorem call1_go {m : List D → Option D} {a : SE} {env : TL.Env} {x : D} {o : Option D} (h1 : a env = some x) (h2 : m [x] = o) : eCall m [a] env = o := by
  simp only [eCall, eArgs, h1, Option.bind_some, Option.map_some]
  exact h2
theorem call3_go {m : List D → Option D} {a b c : SE} {env : TL.Env} {x y z : D} {o : Option D} (h1 : a env = some x) (h2 : b env = some y) (h3 : c env = some z) (h4 : m [x, y, z] = o) : eCall m [a, b, c] env = o := by
  simp only [eCall, eArgs, h1, h2, h3, Option.bind_some, Option.map_some]
  exact h4
end LB

set_option Elab.async false
set_option linter.all false
set_option maxRecDepth 100000
namespace LB
open PySem TL
def six : List Str := ["not", "and", "or", "some", "all", "least"]
end LB

set_option Elab.async false
set_option linter.all false
set_option maxRecDepth 100000
namespace LB
open PySem TL
theorem IsFmB.mono {B : Nat} {top : Int} {W W' : List Str} (hW : ∀ w ∈ W, w ∈ W') {d d' : Nat} {f : D} (h : IsFmB B top W d f) (hd : d ≤ d') : IsFmB B top W' d' f := by
  induction h generalizing d' with
  | arrow h1 h2 h3 h4 => exact .arrow h1 h2 h3 h4
  | same h1 h2 h3 h4 => exact .same h1 h2 h3 h4
  | mark h1 h2 h3 h4 => exact .mark h1 h2 h3 h4
  | tru => exact .tru
  | fls => exact .fls
  | not h1 h2 ih => obtain ⟨e, rfl⟩ : ∃ e, d' = e + 1 := ⟨d' - 1, by omega⟩; exact .not (hW _ h1) (ih (by omega))
  | and h1 h2 h3 ih => obtain ⟨e, rfl⟩ : ∃ e, d' = e + 1 := ⟨d' - 1, by omega⟩; exact .and (hW _ h1) h2 fun x hx => ih x hx (by omega)
  | or h1 h2 h3 ih => obtain ⟨e, rfl⟩ : ∃ e, d' = e + 1 := ⟨d' - 1, by omega⟩; exact .or (hW _ h1) h2 fun x hx => ih x hx (by omega)
  | some h1 h2 h3 h4 ih => obtain ⟨e, rfl⟩ : ∃ e, d' = e + 1 := ⟨d' - 1, by omega⟩; exact .some (hW _ h1) h2 h3 (ih (by omega))
  | all h1 h2 h3 h4 ih => obtain ⟨e, rfl⟩ : ∃ e, d' = e + 1 := ⟨d' - 1, by omega⟩; exact .all (hW _ h1) h2 h3 (ih (by omega))
  | least h1 h2 h3 h4 h5 h6 ih => obtain ⟨e, rfl⟩ : ∃ e, d' = e + 1 := ⟨d' - 1, by omega⟩; exact .least (hW _ h1) h2 h3 h4 h5 (ih (by omega))
end LB

set_option Elab.async false
set_option linter.all false
set_option maxRecDepth 100000
namespace LB
open PySem TL
end LB

set_option Elab.async false
set_option linter.all false
set_option maxRecDepth 100000
namespace LB
open PySem TL
def rowD (vs : List Int) : D := .tuple (vs.map .int ++ List.replicate (6 - vs.length) .none)
def tv (w : Wd) : Nat → D → List Int → Bool
  | 0, _, _ => false
  | n + 1, .tuple [.str s], vs => decide (s = "true")
  | n + 1, .tuple [.str s, .tuple l], vs => if s = "not" then !tv w n (.tuple l) vs else if s = "and" then l.all fun x => tv w n x vs else l.any fun x => tv w n x vs
  | n + 1, .tuple [.str s, .int x, .int y], vs => if s = "same" then decide (vs.getD x.toNat 0 = vs.getD y.toNat 0) else if s = "arrow" then decide ((vs.getD x.toNat 0, vs.getD y.toNat 0) ∈ w.ar) else decide (vs.getD y.toNat 0 ∈ if x = 0 then w.m0 else w.m1)
  | n + 1, .tuple [.str s, .int x, .tuple l], vs => if s = "some" then (rangeI 0 w.n.toNat).any fun a => tv w n (.tuple l) (vs.set x.toNat a) else (rangeI 0 w.n.toNat).all fun a => tv w n (.tuple l) (vs.set x.toNat a)
  | n + 1, .tuple [.str _, .int k, .int x, .tuple l], vs => decide (k ≤ ((rangeI 0 w.n.toNat).countP fun a => tv w n (.tuple l) (vs.set x.toNat a) : Nat))
  | _ + 1, _, _ => false
section
variable {w : Wd} {n : Nat} {vs : List Int}
end
section
variable {w : Wd} {n : Nat} {f g : D} {vs : List Int} {x k : Int} (h0 : 0 ≤ x) (hx : x < vs.length) (h6 : vs.length ≤ 6) (hg : ixD f (.int (-1)) = some g) (t : Int → Bool) (ht : ∀ a, m__law_truth n [w.d, g, rowD (vs.set x.toNat a)] = some (.bool (t a)))
include h0 hx h6 hg ht
end
end LB

set_option Elab.async false
set_option linter.all false
set_option maxRecDepth 100000
namespace LB
open PySem TL
def ownI : D → List Int
  | .tuple [.str s, .int x, .int y] => if s = "mark" then [y] else [x, y]
  | _ => []
def bndI : D → List Int
  | .tuple [.str _, .int x, .tuple _] => [x]
  | .tuple [.str _, .int _, .int x, _] => [x]
  | _ => []
def prts : D → List D
  | .tuple [.str s, .tuple l] => if s = "not" then [.tuple l] else l
  | .tuple [.str _, .int _, .tuple l] => [.tuple l]
  | .tuple [.str _, .int _, .int _, g] => [g]
  | _ => []
def fv : Nat → D → List Int
  | 0, _ => []
  | n + 1, f => ownI f ++ (prts f).flatMap fun p => (fv n p).filter fun x => !decide (x ∈ bndI f)
def dpt : Nat → D → Int
  | 0, _ => 0
  | n + 1, f => ((prts f).map (dpt n)).foldl max 0 + ((bndI f).length : Int)
end LB

set_option Elab.async false
set_option linter.all false
set_option maxRecDepth 100000
namespace LB
open PySem TL
end LB

set_option Elab.async false
set_option linter.all false
set_option maxRecDepth 100000
namespace LB
open PySem TL
section
variable {row : List Int} {n : Nat} (hrow : (rangeI 0 n).filter (fun a => decide (a ∈ row)) = row) (P : Int → Bool)
include hrow
end
end LB

set_option Elab.async false
set_option linter.all false
set_option maxRecDepth 100000
namespace LB
open PySem TL
section
variable {env e : TL.Env} {c c1 c2 : Row} {a b : WE} {d d1 d2 : D} {o : WOut}
end
section
variable {w : Wd} {g : D} {r : Row} {x : Int} {o : Option Int} {T : List D → Row → Option (D × Row)} {t : Int → Bool} (h0 : 0 ≤ x) (hx : r[x.toNat]? = some o) (hT : ∀ a, T [w.d, g] (r.set x.toNat (some a)) = some (.bool (t a), r.set x.toNat (some a)))
include h0 hx hT
variable (hw1 : 0 ≤ w.n) (hw2 : w.n ≤ 1000)
include hw1 hw2
omit h0 hx hT in
end
def Cv (r : Row) (l : List Int) : Prop := ∀ x ∈ l, ∃ a, r[x.toNat]? = some (some a)
theorem Cv.set {r : Row} {l l' : List Int} {x : Int} {a : Int} (hx : x.toNat < r.length) (h : Cv r l) (hl : ∀ y ∈ l', y ∈ l ∨ y = x) : Cv (r.set x.toNat (some a)) l' := fun y hy => by
  by_cases e : x.toNat = y.toNat
  · rw [← e]
    exact ⟨a, List.getElem?_set_self hx⟩
  · rcases hl y hy with h1 | h1
    · obtain ⟨b, hb⟩ := h y h1
      exact ⟨b, by rw [List.getElem?_set_ne e]; exact hb⟩
    · exact absurd (by rw [h1]) e
end LB

set_option Elab.async false
set_option linter.all false
set_option maxRecDepth 100000
namespace LB
open PySem TL
def rowO (r : Row) : D := .tuple (r.map ofO)
section
variable {w : Wd} {n : Nat} {f g : D} {r : Row} {x k : Int} (h0 : 0 ≤ x) (hx : x.toNat < r.length) (h6 : r.length ≤ 6) (hg : ixD f (.int (-1)) = some g) (t : Int → Bool) (ht : ∀ a, m__law_truth n [w.d, g, rowO (r.set x.toNat (some a))] = some (.bool (t a)))
include h0 hx h6 hg ht
end
end LB

set_option Elab.async false
set_option linter.all false
set_option maxRecDepth 100000
namespace LB
open PySem TL
inductive Tr : Nat → D → Prop
  | int {d : Nat} (i : Int) : Tr d (.int i)
  | bool {d : Nat} (c : Bool) : Tr d (.bool c)
  | str {d : Nat} {s : Str} : PyData.strOk s = true → Tr d (.str s)
  | none {d : Nat} : Tr d .none
  | tup {d : Nat} {ds : List D} : ds.length ≤ 1000 → (∀ x ∈ ds, Tr d x) → Tr (d + 1) (.tuple ds)
  | lst {d : Nat} {ds : List D} : ds.length ≤ 1000 → (∀ x ∈ ds, Tr d x) → Tr (d + 1) (.list ds)
def lineP (n : Nat) : List (Int × Int) := (rangeI 0 n).flatMap fun a => (rangeI (a + 1) ((n : Int) - a - 1).toNat).map fun b => (a, b)
theorem lines_ok {n : Nat} (h1 : 1 ≤ n) (h8 : n ≤ 8) : m_line_world [.int n] = some (.tuple [.int n, .tuple [.tuple [], .tuple []], tP (lineP n)]) ∧ m__law_line [.int n] = some (.tuple [.int n, .tuple [.tuple [], .tuple []], tP (lineP n)]) ∧ (lineP n).length ≤ 28 := by
  have : n = 1 ∨ n = 2 ∨ n = 3 ∨ n = 4 ∨ n = 5 ∨ n = 6 ∨ n = 7 ∨ n = 8 := by omega
  rcases this with rfl | rfl | rfl | rfl | rfl | rfl | rfl | rfl <;> exact ⟨by kernel_rfl, by kernel_rfl, Nat.le_of_ble_eq_true (by kernel_rfl)⟩
theorem fold_one : ∀ (cs : List Nat) (acc : Array Nat), ((cs.map fun c => (⟨#[c]⟩ : Str)).foldl (fun acc p => acc ++ (Str.ofString "").cps ++ p.cps) acc).toList = acc.toList ++ cs
  | [], acc => by simp
  | c :: cs, acc => by
    have e : (Str.ofString "").cps = #[] := by kernel_rfl
    rw [List.map_cons, List.foldl_cons, fold_one cs]
    simp [e]
theorem join_one {cs : List Nat} (h : cs ≠ []) : Txt.join (Str.ofString "") (cs.map fun c => (⟨#[c]⟩ : Str)) = ⟨cs.toArray⟩ := by
  cases cs with
  | nil => exact absurd rfl h
  | cons c cs =>
    have := fold_one cs #[c]
    show (⟨_⟩ : Str) = _
    congr 1
    apply Array.toList_inj.mp
    rw [List.map_cons]
    show ((cs.map fun c => (⟨#[c]⟩ : Str)).foldl (fun acc p => acc ++ (Str.ofString "").cps ++ p.cps) #[c]).toList = _
    rw [this]
    rfl
def sgn (m : Int) : Nat := [97, 98, 99, 45].getD m.toNat 45
theorem sgn_ok {m : Int} (h0 : 0 ≤ m) (h4 : m < 4) : ixD (.str "abc-") (.int m) = some (.str ⟨#[sgn m]⟩) := by
  have : m = 0 ∨ m = 1 ∨ m = 2 ∨ m = 3 := by omega
  rcases this with rfl | rfl | rfl | rfl <;> kernel_rfl
theorem sgn_in {m : Int} (h0 : 0 ≤ m) (h4 : m < 4) : sgn m ∈ [97, 98, 99, 45] := by
  have : m = 0 ∨ m = 1 ∨ m = 2 ∨ m = 3 := by omega
  rcases this with rfl | rfl | rfl | rfl <;> decide
def isA (c : Nat) : Bool := c == 97 || c == 99
def isB (c : Nat) : Bool := c == 98 || c == 99
theorem tab_ok {c : Nat} (h : c ∈ [97, 98, 99, 45]) : List.lookup (⟨#[c]⟩ : Str) ([("-", .tuple [.bool false, .bool false]), ("a", .tuple [.bool true, .bool false]), ("b", .tuple [.bool false, .bool true]), ("c", .tuple [.bool true, .bool true])] : List (Str × D)) = some (.tuple [.bool (isA c), .bool (isB c)]) ∧
    inSD (.str ⟨#[c]⟩) (.str "ac") = some (.bool (isA c)) ∧ inSD (.str ⟨#[c]⟩) (.str "bc") = some (.bool (isB c)) := by
  simp only [List.mem_cons, List.not_mem_nil, or_false] at h
  rcases h with rfl | rfl | rfl | rfl <;> exact ⟨by kernel_rfl, by kernel_rfl, by kernel_rfl⟩
section
variable {cs : List Nat} (h1 : 1 ≤ cs.length) (h8 : cs.length ≤ 8) (hc : ∀ c ∈ cs, c ∈ [97, 98, 99, 45])
include h1 h8 hc
theorem word_at {k : Int} (hk : k ∈ rangeI 0 cs.length) : ixD (.str ⟨cs.toArray⟩) (.int k) = some (.str ⟨#[cs.getD k.toNat 45]⟩) ∧ cs.getD k.toNat 45 ∈ [97, 98, 99, 45] := by
  obtain ⟨h0, h2⟩ := rangeI_mem.mp hk
  have hk' : k.toNat < cs.length := by omega
  have e : cs.getD k.toNat 45 = cs[k.toNat] := by rw [List.getD_eq_getElem?_getD, List.getElem?_eq_getElem hk']; rfl
  rw [e]
  refine ⟨?_, hc _ (List.getElem_mem hk')⟩
  show (if (⟨cs.toArray⟩ : Str).length ≤ sizeLine then _ else _) = _
  rw [if_pos (small (by show cs.toArray.size ≤ _; simp; omega))]
  have : L2.atI cs.toArray.toList k = some cs[k.toNat] := by
    have := L2.atI_nat (xs := cs) (j := k.toNat) (List.getElem?_eq_getElem hk')
    rw [show ((k.toNat : Nat) : Int) = k by omega] at this
    simpa using this
  show (L2.atI cs.toArray.toList k).map _ = _
  rw [this]
  rfl
theorem word_len : lenD (.str ⟨cs.toArray⟩) = some (.int cs.length) := by
  show (if (⟨cs.toArray⟩ : Str).length ≤ sizeLine then _ else _) = _
  rw [if_pos (small (by show cs.toArray.size ≤ _; simp; omega))]
  show some (PyData.int (cs.toArray.size : Nat)) = _
  simp
def marksOf (q : Nat → Bool) (cs : List Nat) : List Int := (rangeI 0 cs.length).filter fun k => q (cs.getD k.toNat 45)
theorem word_world_ok : m_word_world [.str ⟨cs.toArray⟩] = some (.tuple [.int cs.length, .tuple [tI (marksOf isA cs), tI (marksOf isB cs)], tP (lineP cs.length)]) := by
  obtain ⟨l1, l2, l3⟩ := lines_ok h1 h8
  let E := fun (e1 e5 e6 : Option D) => [some (PyData.str ⟨cs.toArray⟩), e1, some (.int cs.length), some (.tuple [.tuple [], .tuple []]), some (tP (lineP cs.length)), e5, e6]
  have rg : ∀ {env : TL.Env}, env.getD 2 none = some (.int cs.length) → iRng1 (eVar 2) env = some ((rangeI 0 cs.length).map .int) := fun {env} e => by
    simp only [iRng1, eVar, e, Option.bind_some, toI]
    rw [rng_0 (by omega) (by omega)]
    rfl
  have inner : ∀ (i : Int) (q : Nat → Bool), (∀ c ∈ [97, 98, 99, 45], ixD (.tuple [.bool (isA c), .bool (isB c)]) (.int i) = some (.bool (q c))) → ∀ e6, e1 tupleD (eLc [6] (iRng1 (eVar 2)) (TL.gName 6) (tV (e2 ixD (eTab [("-", .tuple [.bool false, .bool false]), ("a", .tuple [.bool true, .bool false]), ("b", .tuple [.bool false, .bool true]), ("c", .tuple [.bool true, .bool true])] (e2 ixD (eVar 0) (eVar 6))) (eVar 5))) (eVar 6)) (E none (some (.int i)) e6) = some (tI (marksOf q cs)) := fun i q hq e6 => by
    have := lc_filter (g := TL.gName 6) (c := tV (e2 ixD (eTab [("-", .tuple [.bool false, .bool false]), ("a", .tuple [.bool true, .bool false]), ("b", .tuple [.bool false, .bool true]), ("c", .tuple [.bool true, .bool true])] (e2 ixD (eVar 0) (eVar 6))) (eVar 5))) (e := eVar 6) (env := wipeE (E none (some (.int i)) e6) [6]) PyData.int PyData.int (fun k => q (cs.getD k.toNat 45)) id (zs := rangeI 0 cs.length) fun k hk => by
      obtain ⟨w1, w2⟩ := word_at h1 h8 hc hk
      refine ⟨_, rfl, tV_go (e2_go (x := .tuple [.bool (isA (cs.getD k.toNat 45)), .bool (isB (cs.getD k.toNat 45))]) ?_ rfl (hq _ w2)), fun _ => rfl⟩
      simp only [eTab]
      rw [e2_go rfl rfl w1]
      exact (tab_ok w2).1
    rw [List.map_id] at this
    exact e1_go (lc_go (rg rfl) this) rfl
  have outer : e1 tupleD (eLc [5] (iRng1 (eC (.int 2))) (TL.gName 5) cYes (e1 tupleD (eLc [6] (iRng1 (eVar 2)) (TL.gName 6) (tV (e2 ixD (eTab [("-", .tuple [.bool false, .bool false]), ("a", .tuple [.bool true, .bool false]), ("b", .tuple [.bool false, .bool true]), ("c", .tuple [.bool true, .bool true])] (e2 ixD (eVar 0) (eVar 6))) (eVar 5))) (eVar 6)))) (E none none none) = some (.tuple [tI (marksOf isA cs), tI (marksOf isB cs)]) := by
    have := lc_map (g := TL.gName 5) (e := e1 tupleD (eLc [6] (iRng1 (eVar 2)) (TL.gName 6) (tV (e2 ixD (eTab [("-", .tuple [.bool false, .bool false]), ("a", .tuple [.bool true, .bool false]), ("b", .tuple [.bool false, .bool true]), ("c", .tuple [.bool true, .bool true])] (e2 ixD (eVar 0) (eVar 6))) (eVar 5))) (eVar 6))) (env := wipeE (E none none none) [5]) PyData.int tI (fun i => if i = 0 then marksOf isA cs else marksOf isB cs) (zs := [0, 1]) fun i hi => by
      refine ⟨_, rfl, ?_⟩
      simp only [List.mem_cons, List.not_mem_nil, or_false] at hi
      rcases hi with rfl | rfl
      · exact inner 0 isA (fun c _ => rfl) none
      · exact inner 1 isB (fun c _ => rfl) none
    exact e1_go (lc_go (ds := [.int 0, .int 1]) (by kernel_rfl) this) rfl
  refine run_rt rfl (seq_go (e := E none none none) ?_ (seq_go (e := E (some (.tuple [tI (marksOf isA cs), tI (marksOf isB cs)])) none none) (asg_go outer) (ret_go (tup3_go rfl rfl rfl))))
  simp only [sAsg]
  rw [call1_go (e1_go rfl (word_len h1 h8 hc)) l1]
  rfl
end
end LB

set_option Elab.async false
set_option linter.all false
set_option maxRecDepth 100000
namespace LB
open PySem TL
def fc : Nat → D → Nat
  | 0, _ => 0
  | n + 1, f => (ownI f).length + ((prts f).map (fc n)).sum
structure Pz (top : Int) (e d : Nat) (f g : D) : Prop where
  fm : IsFm top six e g
  pu : ∀ N, e < N → m__law_pushed N [g] = some (.bool true)
  dp : ∀ N M, e < N → d < M → dpt N g ≤ dpt M f
  ct : ∀ N M, e < N → d < M → fc N g ≤ fc M f
  fr : ∀ N M, e < N → d < M → ∀ x ∈ fv N g, x ∈ fv M f
theorem Pz.mono {top : Int} {e e' d : Nat} {f g : D} (h : Pz top e d f g) (he : e ≤ e') : Pz top e' d f g :=
  ⟨h.fm.mono (fun w h => h) he, fun N hN => h.pu N (by omega), fun N M hN hM => h.dp N M (by omega) hM, fun N M hN hM => h.ct N M (by omega) hM, fun N M hN hM => h.fr N M (by omega) hM⟩
end LB

set_option Elab.async false
set_option linter.all false
set_option maxRecDepth 100000
namespace LB
open PySem TL
def nl : Nat → D → List Int
  | 0, _ => []
  | n + 1, f => (ownI f ++ bndI f) ++ (prts f).flatMap (nl n)
end LB

set_option Elab.async false
set_option linter.all false
set_option maxRecDepth 100000
namespace LB
open PySem TL
end LB

set_option Elab.async false
set_option linter.all false
set_option maxRecDepth 100000
namespace LB
open PySem TL
def rowW (vs : List Int) : Row := vs.map some ++ List.replicate (6 - vs.length) none
section
variable {w : Wd} (hw1 : 0 ≤ w.n) (hw2 : w.n ≤ 1000) {B : Nat} {top : Int} {W : List Str} {d : Nat} {f : D} (h : IsFmB B top W d f) (ht : top ≤ 6) {vs : List Int} (h6 : vs.length ≤ 6) (hc : Cv (rowW vs) (fv 60 f))
include hw1 hw2 h ht h6 hc
end
def Ag (vs us l : List Int) : Prop := ∀ x ∈ l, vs.getD x.toNat 0 = us.getD x.toNat 0
theorem getD_set2 {vs : List Int} {x y : Nat} {a : Int} (h : x < vs.length) : (vs.set x a).getD y 0 = if x = y then a else vs.getD y 0 := by
  rw [List.getD_eq_getElem?_getD, List.getD_eq_getElem?_getD]
  by_cases e : x = y
  · subst e
    rw [List.getElem?_set_self h, if_pos rfl]
    rfl
  · rw [List.getElem?_set_ne e, if_neg e]
theorem Ag.set {vs us l l' : List Int} {x a : Int} (hx : x.toNat < vs.length) (hu : x.toNat < us.length) (h : Ag vs us l) (hl : ∀ y ∈ l', y ∈ l ∨ y = x) : Ag (vs.set x.toNat a) (us.set x.toNat a) l' := fun y hy => by
  rw [getD_set2 hx, getD_set2 hu]
  split
  · rfl
  · rename_i e
    rcases hl y hy with q | q
    · exact h y q
    · exact absurd (by rw [q]) e
end LB

set_option Elab.async false
set_option linter.all false
set_option maxRecDepth 100000
namespace LB
open PySem TL
end LB

set_option Elab.async false
set_option linter.all false
set_option maxRecDepth 100000
namespace LB
open PySem TL
section
variable {w : Wd} (hw1 : 0 ≤ w.n) (hw2 : w.n ≤ 1000) {top : Int} {W : List Str} {d : Nat} {f : D} (h : IsFm top W d f) (ht : top ≤ 6) {k : Nat} (h6 : k ≤ 6) (hd : d < 20) (hs : ∀ j, j ≤ k → w.n.toNat ^ j ≤ 1000000) (hc : ∀ x ∈ fv 60 f, 0 ≤ x ∧ x < (k : Int))
include hw1 hw2 h ht h6 hd hs hc
end
end LB

set_option Elab.async false
set_option linter.all false
set_option maxRecDepth 100000
namespace LB
open PySem TL
def nmI (ps : List Int) (a : Int) : Int := ps.getD a.toNat 0
end LB

set_option Elab.async false
set_option linter.all false
set_option maxRecDepth 100000
namespace LB
open PySem TL
theorem tup2D {a b : SE} {env : TL.Env} {x y : D} (h1 : a env = some x) (h2 : b env = some y) : eTup [a, b] env = some (.tuple [x, y]) := by
  simp only [eTup, eArgs, h1, h2, Option.bind_some, Option.map_some, List.length_cons, List.length_nil]
  rw [if_pos (small (by decide))]
theorem tVD {a : SE} {env : TL.Env} {b : Bool} (h : a env = some (.bool b)) : tV a env = some b := by
  simp only [tV, h, Option.bind_some, toB]
end LB

set_option Elab.async false
set_option linter.all false
set_option maxRecDepth 100000
namespace LB
open PySem TL
def Wd.trn (w : Wd) : Wd := ⟨w.n, w.m0, w.m1, isort ltPr (w.ar.map fun p => (p.2, p.1))⟩
section
variable {w : Wd} (ok : w.Ok) {ps : List Int} (hp : ps.Perm (rangeI 0 w.n.toNat))
include ok hp
def InR (n : Int) (vs : List Int) : Prop := ∀ v ∈ vs, 0 ≤ v ∧ v < n
omit ok hp in
theorem InR.set {n : Int} {vs : List Int} (h : InR n vs) {x : Nat} {a : Int} (a0 : 0 ≤ a) (a1 : a < n) : InR n (vs.set x a) := fun v hv => by
  rcases List.mem_or_eq_of_mem_set hv with h1 | rfl
  · exact h v h1
  · exact ⟨a0, a1⟩
omit ok hp in
theorem InR.get {n : Int} {vs : List Int} (h : InR n vs) {x : Int} (hx : x < vs.length) (h0 : 0 ≤ x) : 0 ≤ vs.getD x.toNat 0 ∧ vs.getD x.toNat 0 < n := h _ (TL.getD_mem (by omega))
omit ok hp in
omit ok hp in
end
structure Tz (top : Int) (W : List Str) (d : Nat) (w : Wd) (f g : D) : Prop where
  fm : IsFm top W d g
  tr : ∀ n vs, d < n → tv w.trn n g vs = tv w n f vs
end LB

set_option Elab.async false
set_option linter.all false
set_option maxRecDepth 100000
namespace LB
open PySem TL
theorem ne_bbA (a b : Bool) : neD (.bool a) (.bool b) = some (.bool (!decide (a = b))) := by cases a <;> cases b <;> kernel_rfl
theorem eq_bb (a b : Bool) : eqD (.bool a) (.bool b) = some (.bool (decide (a = b))) := by cases a <;> cases b <;> kernel_rfl
theorem goes_ok (w u : Wd) (p q : Int × Int) : m_goes [w.d, u.d, prD p, prD q] = some (.bool (fitB w u p q)) ∧ m__law_fit [w.d, u.d, prD p, prD q] = some (.bool (fitB w u p q)) := by
  obtain ⟨a, b⟩ := p
  obtain ⟨c, d⟩ := q
  let E1 := fun e8 : Option D => [some w.d, some u.d, some (prD (a, b)), some (prD (c, d)), some (.int a), some (.int b), some (.int c), some (.int d), e8]
  let E2 := [some w.d, some u.d, some (prD (a, b)), some (prD (c, d)), some (.int a), some (.int b), some (.int c), some (.int d)]
  have w1 : ixD w.d (.int 1) = some (.tuple [tI w.m0, tI w.m1]) := rfl
  have u1 : ixD u.d (.int 1) = some (.tuple [tI u.m0, tI u.m1]) := rfl
  have w2 : ixD w.d (.int 2) = some (tP w.ar) := rfl
  have u2 : ixD u.d (.int 2) = some (tP u.ar) := rfl
  have same : ∀ {env : TL.Env}, env.getD 4 none = some (.int a) → env.getD 5 none = some (.int b) → env.getD 6 none = some (.int c) → env.getD 7 none = some (.int d) → tV (e2 neD (e2 eqD (eVar 4) (eVar 6)) (e2 eqD (eVar 5) (eVar 7))) env = some (!decide (decide (a = c) = decide (b = d))) := fun h4 h5 h6 h7 =>
    tVD (e2_go (e2_go h4 h6 (eq_i _ _)) (e2_go h5 h7 (eq_i _ _)) (ne_bbA _ _))
  have mk : ∀ {env : TL.Env} {e : SE} {i : Int} {mw mu : List Int}, env.getD 0 none = some w.d → env.getD 1 none = some u.d → env.getD 4 none = some (.int a) → env.getD 5 none = some (.int b) → e env = some (.int i) → ixD (.tuple [tI w.m0, tI w.m1]) (.int i) = some (tI mw) → ixD (.tuple [tI u.m0, tI u.m1]) (.int i) = some (tI mu) →
      (e2 neD (e2 inD (eVar 4) (e2 ixD (e2 ixD (eVar 0) (eC (.int 1))) e)) (e2 inD (eVar 5) (e2 ixD (e2 ixD (eVar 1) (eC (.int 1))) e))) env = some (.bool (!decide (decide (a ∈ mw) = decide (b ∈ mu)))) := fun h0 h1 h4 h5 he hw hu =>
    e2_go (e2_go h4 (e2_go (e2_go h0 rfl w1) he hw) (in_ti a _)) (e2_go h5 (e2_go (e2_go h1 rfl u1) he hu) (in_ti b _)) (ne_bbA _ _)
  have arr : ∀ {env : TL.Env}, env.getD 0 none = some w.d → env.getD 1 none = some u.d → env.getD 4 none = some (.int a) → env.getD 5 none = some (.int b) → env.getD 6 none = some (.int c) → env.getD 7 none = some (.int d) →
      (eAnd (e2 eqD (e2 inD (eTup [(eVar 4), (eVar 6)]) (e2 ixD (eVar 0) (eC (.int 2)))) (e2 inD (eTup [(eVar 5), (eVar 7)]) (e2 ixD (eVar 1) (eC (.int 2))))) (e2 eqD (e2 inD (eTup [(eVar 6), (eVar 4)]) (e2 ixD (eVar 0) (eC (.int 2)))) (e2 inD (eTup [(eVar 7), (eVar 5)]) (e2 ixD (eVar 1) (eC (.int 2)))))) env
      = some (.bool (decide (decide ((a, c) ∈ w.ar) = decide ((b, d) ∈ u.ar)) && decide (decide ((c, a) ∈ w.ar) = decide ((d, b) ∈ u.ar)))) := fun h0 h1 h4 h5 h6 h7 =>
    and_go (e2_go (e2_go (tup2D h4 h6) (e2_go h0 rfl w2) (in_tp (a, c) w.ar)) (e2_go (tup2D h5 h7) (e2_go h1 rfl u2) (in_tp (b, d) u.ar)) (eq_bb _ _)) fun _ => e2_go (e2_go (tup2D h6 h4) (e2_go h0 rfl w2) (in_tp (c, a) w.ar)) (e2_go (tup2D h7 h5) (e2_go h1 rfl u2) (in_tp (d, b) u.ar)) (eq_bb _ _)
  have hF : fitB w u (a, b) (c, d) = (decide (decide (a = c) = decide (b = d)) && (decide (decide (a ∈ w.m0) = decide (b ∈ u.m0)) && decide (decide (a ∈ w.m1) = decide (b ∈ u.m1))) && (decide (decide ((a, c) ∈ w.ar) = decide ((b, d) ∈ u.ar)) && decide (decide ((c, a) ∈ w.ar) = decide ((d, b) ∈ u.ar)))) := rfl
  rw [hF]
  have anyl : (e1 anyD (eLc [8] (iSeq (eTup [(eC (.int 0)), (eC (.int 1))])) (TL.gName 8) cYes (e2 neD (e2 inD (eVar 4) (e2 ixD (e2 ixD (eVar 0) (eC (.int 1))) (eVar 8))) (e2 inD (eVar 5) (e2 ixD (e2 ixD (eVar 1) (eC (.int 1))) (eVar 8)))))) (E1 none) = some (.bool (!decide (decide (a ∈ w.m0) = decide (b ∈ u.m0)) || !decide (decide (a ∈ w.m1) = decide (b ∈ u.m1)))) := by
    refine e1_go (x := .list [.bool (!decide (decide (a ∈ w.m0) = decide (b ∈ u.m0))), .bool (!decide (decide (a ∈ w.m1) = decide (b ∈ u.m1)))]) (lc_go (ds := [.int 0, .int 1]) ?_ ?_) ?_
    · simp only [iSeq]
      rw [tup2D rfl rfl]
      rfl
    · have z0 := mk (env := E1 (some (.int 0))) (e := eVar 8) (i := 0) (mw := w.m0) (mu := u.m0) rfl rfl rfl rfl rfl rfl rfl
      have z1 := mk (env := E1 (some (.int 1))) (e := eVar 8) (i := 1) (mw := w.m1) (mu := u.m1) rfl rfl rfl rfl rfl rfl rfl
      simp only [lcGo, E1, TL.gName, wipeE, List.set_cons_zero, List.set_cons_succ, Option.bind_some, cYes, if_true] at z0 z1 ⊢
      rw [z0, z1]
      rfl
    · show anyD (.list ([!decide (decide (a ∈ w.m0) = decide (b ∈ u.m0)), !decide (decide (a ∈ w.m1) = decide (b ∈ u.m1))].map .bool)) = _
      simp only [anyD, bools_of, Option.map_some, List.any_cons, List.any_nil, id, Bool.or_false]
  have unp1 : ∀ rest : SS, sSeq (sAsg (eVar 2) (TL.gTup [(TL.gName 4), (TL.gName 5)])) (sSeq (sAsg (eVar 3) (TL.gTup [(TL.gName 6), (TL.gName 7)])) rest) [some w.d, some u.d, some (prD (a, b)), some (prD (c, d)), none, none, none, none, none] = rest (E1 none) := fun rest => rfl
  have unp2 : ∀ rest : SS, sSeq (sAsg (eVar 2) (TL.gTup [(TL.gName 4), (TL.gName 5)])) (sSeq (sAsg (eVar 3) (TL.gTup [(TL.gName 6), (TL.gName 7)])) rest) [some w.d, some u.d, some (prD (a, b)), some (prD (c, d)), none, none, none, none] = rest E2 := fun rest => rfl
  have s1 := same (env := E1 none) rfl rfl rfl rfl
  have s2 := same (env := E2) rfl rfl rfl rfl
  have a1 := arr (env := E1 none) rfl rfl rfl rfl rfl rfl
  have a2 := arr (env := E2) rfl rfl rfl rfl rfl rfl
  have m0' := mk (env := E2) (e := eC (.int 0)) (i := 0) (mw := w.m0) (mu := u.m0) rfl rfl rfl rfl rfl rfl rfl
  have m1' := mk (env := E2) (e := eC (.int 1)) (i := 1) (mw := w.m1) (mu := u.m1) rfl rfl rfl rfl rfl rfl rfl
  generalize decide (decide (a = c) = decide (b = d)) = k1 at s1 s2 ⊢
  generalize decide (decide (a ∈ w.m0) = decide (b ∈ u.m0)) = k2 at anyl m0' ⊢
  generalize decide (decide (a ∈ w.m1) = decide (b ∈ u.m1)) = k3 at anyl m1' ⊢
  generalize (decide (decide ((a, c) ∈ w.ar) = decide ((b, d) ∈ u.ar)) && decide (decide ((c, a) ∈ w.ar) = decide ((d, b) ∈ u.ar))) = k4 at a1 a2 ⊢
  cases k1 with
  | false => exact ⟨run_rt rfl ((unp1 _).trans (seq_rt (if_t s1 (ret_go rfl)))), run_rt rfl ((unp2 _).trans (seq_rt (if_t s2 (ret_go rfl))))⟩
  | true =>
    cases k2 with
    | false => exact ⟨run_rt rfl ((unp1 _).trans (seq_go (if_f s1 rfl) (seq_rt (if_t (tVD anyl) (ret_go rfl))))), run_rt rfl ((unp2 _).trans (seq_go (if_f s2 rfl) (seq_rt (if_t (tOr_t (tVD m0')) (ret_go rfl)))))⟩
    | true =>
      cases k3 with
      | false => exact ⟨run_rt rfl ((unp1 _).trans (seq_go (if_f s1 rfl) (seq_rt (if_t (tVD anyl) (ret_go rfl))))), run_rt rfl ((unp2 _).trans (seq_go (if_f s2 rfl) (seq_rt (if_t (tOr_f (tVD m0') (tVD m1')) (ret_go rfl)))))⟩
      | true => exact ⟨run_rt rfl ((unp1 _).trans (seq_go (if_f s1 rfl) (seq_go (if_f (tVD anyl) rfl) (ret_go a1)))), run_rt rfl ((unp2 _).trans (seq_go (if_f s2 rfl) (seq_go (if_f (tOr_f (tVD m0') (tVD m1')) rfl) (ret_go a2))))⟩
end LB

set_option Elab.async false
set_option linter.all false
set_option maxRecDepth 100000
namespace LB
open PySem TL
def prsT (b : List Int) : List (Int × Int) := (rangeI 0 b.length).map fun k => (k, nmI b k)
def okX (w u : Wd) (b : List Int) (x : Int) : Bool := (prsT b ++ [((b.length : Int), x)]).all fun p => fitB w u (b.length, x) p
def lkF (w u : Wd) (L : List Int → List (List Int)) (b : List Int) (x : Int) : List (List Int) := if okX w u b x = true then L (b ++ [x]) else []
def lk (w u : Wd) : Nat → List Int → List (List Int)
  | 0, b => [b]
  | m + 1, b => (rangeI 0 u.n.toNat).flatMap (lkF w u (lk w u m) b)
end LB

set_option Elab.async false
set_option linter.all false
set_option maxRecDepth 100000
namespace LB
open PySem TL
theorem tAnd_f {a b : ST} {env : TL.Env} (h : a env = some false) : TL.tAnd a b env = some false := by
  simp only [TL.tAnd, h, Option.bind_some]
  rfl
theorem tAnd_t {a b : ST} {env : TL.Env} {o : Option Bool} (h : a env = some true) (h2 : b env = o) : TL.tAnd a b env = o := by
  simp only [TL.tAnd, h, Option.bind_some, if_true]
  exact h2
end LB

set_option Elab.async false
set_option linter.all false
set_option maxRecDepth 100000
namespace LB
open PySem TL
theorem fit_all {w u : Wd} {p : Int × Int} (ps : List (Int × Int)) {env : TL.Env} : lcGo (TL.gName 4) cYes (eCall m_goes [(eVar 0), (eVar 1), (eVar 3), (eVar 4)]) [some w.d, some u.d, some (tP ps), some (prD p), none] (ps.map prD) = some ((ps.map fun q => fitB w u p q).map .bool) :=
  lc_map prD PyData.bool (fun q => fitB w u p q) fun q _ => ⟨_, rfl, call4_go rfl rfl rfl rfl (goes_ok w u p q).1⟩
theorem grows_ok (w u : Wd) (ps : List (Int × Int)) (p : Int × Int) : m_grows [w.d, u.d, tP ps, prD p] = some (.bool (growB w u ps p)) := by
  refine run_rt rfl (ret_go (and_go (call4_go rfl rfl rfl rfl (goes_ok w u p p).1) fun _ => e1_go (lc_go (ds := ps.map prD) rfl (fit_all (env := []) ps)) ?_))
  show allD (.list ((ps.map fun q => fitB w u p q).map .bool)) = _
  simp only [allD, bools_of, Option.map_some, List.all_map]
  rfl
theorem sorted_tp (ps : List (Int × Int)) : sortedD (tP ps) = some (.list ((isort ltPr ps).map prD)) := by
  have := sorted_prs ps
  simp only [sortedD, tP] at this ⊢
  exact this
theorem put_ok {ps : List (Int × Int)} (hl : ps.length ≤ 1000) (p : Int × Int) : m_put [tP ps, prD p] = some (tP (putP ps p)) := by
  refine run_rt rfl (ret_go ?_)
  simp only [eIf]
  rw [tV_go (e2_go rfl rfl (in_tp p ps))]
  simp only [Option.bind_some]
  unfold putP
  by_cases h : p ∈ ps
  · rw [decide_eq_true h, if_pos rfl, if_pos h]
    rfl
  · rw [decide_eq_false h, if_neg (by decide), if_neg h]
    have e : (e2 addD (eVar 0) (eTup [(eVar 1)])) [some (tP ps), some (prD p)] = some (tP (ps ++ [p])) := e2_go rfl (tup1_go rfl) ((cat_t (small (by rw [List.length_map]; simp; omega))).trans (by rw [tP, List.map_append]; rfl))
    exact e1_go (e1_go e (sorted_tp _)) rfl
theorem rngItems_ok {n : Int} (h0 : 0 ≤ n) (h : n ≤ 1000000) : rngItems (rngD 0 n) = some ((rangeI 0 n.toNat).map .int) := rng_0 h0 h
theorem any_loop {i : Nat} {g : SG} {c : ST} {α : Type} (ι : α → D) (P : α → Bool) (I : TL.Env → Prop) : ∀ (xs : List α) (env : TL.Env), I env → (∀ x ∈ xs, ∀ env, I env → ∃ e1, g (ι x) env = some e1 ∧ c e1 = some (P x) ∧ I e1) →
    (xs.any P = true ∧ forGo g (sIf c (sRet (eC (.bool true))) sNext) (xs.map ι) env = some (.rt (.bool true))) ∨ (xs.any P = false ∧ ∃ e, forGo g (sIf c (sRet (eC (.bool true))) sNext) (xs.map ι) env = some (.nx e) ∧ I e)
  | [], env, h, _ => .inr ⟨rfl, env, rfl, h⟩
  | x :: xs, env, h, step => by
    obtain ⟨e1, h1, h2, h3⟩ := step x List.mem_cons_self env h
    cases hp : P x with
    | true =>
      refine .inl ⟨by rw [List.any_cons, hp]; rfl, ?_⟩
      rw [List.map_cons]
      simp only [forGo, h1, Option.bind_some]
      rw [if_t (by rw [h2, hp]) (ret_go rfl)]
      rfl
    | false =>
      have hb : sIf c (sRet (eC (.bool true))) sNext e1 = some (.nx e1) := if_f (by rw [h2, hp]) rfl
      rcases any_loop (i := i) (g := g) (c := c) ι P I xs e1 h3 (fun y hy => step y (List.mem_cons_of_mem _ hy)) with ⟨h4, h5⟩ | ⟨h4, e, h5, h6⟩
      · exact .inl ⟨by rw [List.any_cons, hp, h4]; rfl, by rw [List.map_cons]; exact for_cons h1 hb h5⟩
      · exact .inr ⟨by rw [List.any_cons, hp, h4]; rfl, e, by rw [List.map_cons]; exact for_cons h1 hb h5, h6⟩
theorem runM_rt {np j nl : Nat} {body : SS} {ds : List D} {d : D} (hl : ds.length = np) (h : body ((ds.take j).map some ++ none :: ((ds.drop j).map some ++ List.replicate nl none)) = some (.rt d)) : runM np j nl body ds = some d := by
  unfold runM
  rw [if_pos hl, h]
  rfl
section
variable {w u : Wd} (wok : w.Ok) (uok : u.Ok)
include wok uok
theorem ans_ok {ps : List (Int × Int)} (hl : ps.length ≤ 1000) {k : Int} {K : List (Int × Int) → Bool} {R : List D → Option D} (side : Bool) {item : Int}
    (hR : ∀ o ∈ rangeI 0 (if side then w.n else u.n).toNat, ∀ p, p = (if side then (o, item) else (item, o)) → growB w u ps p = true → R [w.d, u.d, tP (putP ps p), .int k] = some (.bool (K (putP ps p)))) :
    m_can_answer_2 R [w.d, u.d, tP ps, .int k, .int item, .int (if side then 1 else 0)] = some (.bool ((rangeI 0 (if side then w.n else u.n).toNat).any fun o => growB w u ps (if side then (o, item) else (item, o)) && K (putP ps (if side then (o, item) else (item, o))))) := by
  have lw := wok.lo
  have lu := uok.lo
  have hw := wok.hi
  have hu := uok.hi
  let N : Int := if side then w.n else u.n
  have N0 : 0 ≤ N := by show 0 ≤ (if side = true then w.n else u.n); split <;> omega
  have N8 : N ≤ 8 := by show (if side = true then w.n else u.n) ≤ 8; split <;> omega
  let mk : Int → Int × Int := fun o => if side then (o, item) else (item, o)
  let E := fun (e7 e8 e9 e10 : Option D) => [some w.d, some u.d, some (tP ps), some (PyData.int k), none, some (PyData.int item), some (PyData.int (if side then 1 else 0)), e7, e8, e9, e10]
  have side0 : ∀ e7 e8 e9 e10, tV (e2 eqD (eVar 6) (eC (.int 0))) (E e7 e8 e9 e10) = some (!side) := fun e7 e8 e9 e10 => tV_go (e2_go rfl rfl ((eq_i _ _).trans (by cases side <;> rfl)))
  have h7 : (eRngV (eC (.int 0)) (eIf (tV (e2 eqD (eVar 6) (eC (.int 0)))) (e2 ixD (eVar 1) (eC (.int 0))) (e2 ixD (eVar 0) (eC (.int 0))))) (E none none none none) = some (rngD 0 N) := by
    have hi : eIf (tV (e2 eqD (eVar 6) (eC (.int 0)))) (e2 ixD (eVar 1) (eC (.int 0))) (e2 ixD (eVar 0) (eC (.int 0))) (E none none none none) = some (.int N) := by
      simp only [eIf]
      rw [side0]
      simp only [Option.bind_some]
      cases side with
      | false => exact e2_go rfl rfl (wdn u)
      | true => exact e2_go rfl rfl (wdn w)
    simp only [eRngV, hi, eC, Option.bind_some, toI, Option.map_some]
  have h8 : (eLc [10] (iRngO (eVar 7)) (TL.gName 10) cYes (eIf (tV (e2 eqD (eVar 6) (eC (.int 0)))) (eTup [(eVar 5), (eVar 10)]) (eTup [(eVar 10), (eVar 5)]))) (E (some (rngD 0 N)) none none none) = some (.list (((rangeI 0 N.toNat).map mk).map prD)) := by
    refine lc_go (ds := (rangeI 0 N.toNat).map .int) (rngItems_ok N0 (by omega)) (lc_map PyData.int prD mk fun o _ => ⟨E (some (rngD 0 N)) none none (some (.int o)), rfl, ?_⟩)
    simp only [eIf]
    rw [side0]
    simp only [Option.bind_some]
    show _ = some (prD (if side = true then (o, item) else (item, o)))
    cases side with
    | false => exact tup2_go rfl rfl
    | true => exact tup2_go rfl rfl
  have loop := any_loop (i := 9) (g := TL.gName 9) (c := TL.tAnd (tV (eCall m_grows [(eVar 0), (eVar 1), (eVar 2), (eVar 9)])) (tV (eCall R [(eVar 0), (eVar 1), (eCall m_put [(eVar 2), (eVar 9)]), (eVar 3)])))
    (fun o => prD (mk o)) (fun o => growB w u ps (mk o) && K (putP ps (mk o))) (fun env => ∃ e9, env = E (some (rngD 0 N)) (some (.list (((rangeI 0 N.toNat).map mk).map prD))) e9 none) (rangeI 0 N.toNat) (E (some (rngD 0 N)) (some (.list (((rangeI 0 N.toNat).map mk).map prD))) none none) ⟨_, rfl⟩ fun o ho env ⟨e9, he⟩ => by
      subst he
      refine ⟨_, rfl, ?_, _, rfl⟩
      have hg := tV_go (call4_go (a := eVar 0) (b := eVar 1) (c := eVar 2) (d := eVar 9) (env := E (some (rngD 0 N)) (some (.list (((rangeI 0 N.toNat).map mk).map prD))) (some (prD (mk o))) none) rfl rfl rfl rfl (grows_ok w u ps (mk o)))
      cases hb : growB w u ps (mk o) with
      | false =>
        rw [hb] at hg
        exact tAnd_f hg
      | true =>
        rw [hb] at hg
        refine tAnd_t hg (tV_go (call4_go rfl rfl (call2_go rfl rfl (put_ok hl (mk o))) rfl ?_))
        rw [Bool.true_and]
        exact hR o ho (mk o) rfl hb
  refine runM_rt rfl (seq_go (e := E (some (rngD 0 N)) none none none) (asg_go h7) (seq_go (e := E (some (rngD 0 N)) (some (.list (((rangeI 0 N.toNat).map mk).map prD))) none none) (asg_go h8) ?_))
  rcases loop with ⟨h1, h2⟩ | ⟨h1, e, h2, e9, he⟩
  · rw [h1]
    refine seq_rt (for_go (ds := (rangeI 0 N.toNat).map fun o => prD (mk o)) ?_ h2)
    show some _ = some _
    rw [List.map_map]; rfl
  · rw [h1]
    refine seq_go (e := e) (for_go (ds := (rangeI 0 N.toNat).map fun o => prD (mk o)) ?_ h2) (ret_go rfl)
    show some _ = some _
    rw [List.map_map]; rfl
end
theorem agp_all {α : Type} (ι : α → D) (P : α → Bool) {g : SG} {e : SE} {env : TL.Env} : ∀ {xs : List α}, (∀ x ∈ xs, ∃ e1, g (ι x) env = some e1 ∧ e e1 = some (.bool (P x))) → agGo true g e env (xs.map ι) = some (.bool (xs.all P))
  | [], _ => rfl
  | x :: xs, h => by
    obtain ⟨e1, h1, h2⟩ := h x List.mem_cons_self
    rw [List.map_cons]
    simp only [agGo, h1, h2, Option.bind_some, toB]
    cases hp : P x with
    | true => rw [if_pos rfl, agp_all ι P (fun y hy => h y (List.mem_cons_of_mem _ hy)), List.all_cons, hp]; rfl
    | false => rw [if_neg (by decide), List.all_cons, hp]; rfl
theorem all_cong {α : Type} {P Q : α → Bool} : ∀ {l : List α}, (∀ x ∈ l, P x = Q x) → l.all P = l.all Q
  | [], _ => rfl
  | x :: l, h => by rw [List.all_cons, List.all_cons, h x List.mem_cons_self, all_cong fun y hy => h y (List.mem_cons_of_mem _ hy)]
theorem sEnd_go {u : D → Bool} {sp : D → D → D → D} {i1 i2 : Nat} {fk e : SE} {env : TL.Env} {kd d a b : D} (h1 : fk env = some kd) (h2 : e env = some d) (h3 : env.getD i1 none = some a) (h4 : env.getD i2 none = some b) (hu : u kd = true) (hd : d = sp a b kd) (hn : noDict d = true) : sEnd u sp i1 i2 fk e env = some (.rt d) := by
  simp only [sEnd, h1, h2, h3, h4, Option.bind_some]
  rw [if_pos (by rw [hu, ← hd, deq_refl hn]; rfl)]
theorem sMemo_go {u : D → Bool} {sp : D → D → D → D} {i1 i2 : Nat} {fk : SE} {blk : SS} {env : TL.Env} {kd d a b : D} (h1 : fk env = some kd) (h2 : blk env = some (.rt d)) (h3 : env.getD i1 none = some a) (h4 : env.getD i2 none = some b) (hu : u kd = true) (hd : d = sp a b kd) (hn : noDict d = true) : sMemo u sp i1 i2 fk blk env = some (.rt d) := by
  simp only [sMemo, h1, h2, h3, h4, Option.bind_some]
  rw [if_pos (by rw [hu, ← hd, deq_refl hn]; rfl)]
theorem seqN_go {f g : SS} {env e : TL.Env} {o : Option Out} (h1 : f env = some (.nx e)) (h2 : g e = o) : sSeqN f g env = o := by
  simp only [sSeqN, h1, Option.bind_some]
  exact h2
structure Keys (w u : Wd) (C : List (Int × Int) → Nat → Prop) : Prop where
  ok : ∀ ps k, C ps k → okGo ps k = true
  ln : ∀ ps k, C ps k → ps.length ≤ 1000
  up : ∀ ps k a b, C ps (k + 1) → 0 ≤ a → a < w.n → 0 ≤ b → b < u.n → growB w u ps (a, b) = true → C (putP ps (a, b)) k
theorem spGo_of (w u : Wd) (ps : List (Int × Int)) (k : Nat) : spGo w.d u.d (.tuple [tP ps, .int k]) = .bool (canB w u k ps) := by
  show PyData.bool (canB (wdOf w.d) (wdOf u.d) (k : Int).toNat (prOf (tP ps))) = _
  rw [wdOf_d, wdOf_d, prOf_tP, Int.toNat_natCast]
theorem go_ok {w u : Wd} (wok : w.Ok) (uok : u.Ok) {C : List (Int × Int) → Nat → Prop} (kc : Keys w u C) (k n : Nat) (ps : List (Int × Int)) : C ps k → k < n → m_can_go_2 n [w.d, u.d, tP ps, .int k] = some (.bool (canB w u k ps)) := by
  induction n generalizing k ps with
  | zero => intro _ h; omega
  | succ n ih =>
   cases k with
   | zero => exact fun _ _ => runM_rt rfl (seq_rt (if_t (tV_go (e2_go rfl rfl (eq_i _ _))) (ret_go rfl)))
   | succ k =>
    intro hc hn
    have lw := wok.lo
    have lu := uok.lo
    have hw := wok.hi
    have hu := uok.hi
    have hln := kc.ln _ _ hc
    let E := fun (e5 e6 e7 : Option D) => [some w.d, some u.d, some (tP ps), some (PyData.int ((k + 1 : Nat) : Int)), none, e5, e6, e7]
    have key : ∀ e5 e6 e7, (eTup [(eVar 2), (eVar 3)]) (E e5 e6 e7) = some (.tuple [tP ps, .int ((k + 1 : Nat) : Int)]) := fun e5 e6 e7 => tup2_go rfl rfl
    have ku : uGo (.tuple [tP ps, .int ((k + 1 : Nat) : Int)]) = true := uGo_of (kc.ok _ _ hc)
    have sub1 : ∀ e5 e6 e7, (e2 subD (eVar 3) (eC (.int 1))) (E e5 e6 e7) = some (.int (k : Int)) := fun e5 e6 e7 => e2_go rfl rfl (by show some (PyData.int (((k + 1 : Nat) : Int) - 1)) = _; congr 2; omega)
    have forth : (eAg true [6] (iRng1 (e2 ixD (eVar 0) (eC (.int 0)))) (TL.gName 6) (eCall (m_can_answer_2 (m_can_go_2 n)) [(eVar 0), (eVar 1), (eVar 2), (e2 subD (eVar 3) (eC (.int 1))), (eVar 6), (eC (.int 0))])) (E none none none)
        = some (.bool ((rangeI 0 w.n.toNat).all fun a => (rangeI 0 u.n.toNat).any fun b => growB w u ps (a, b) && canB w u k (putP ps (a, b)))) := by
      simp only [eAg, iRng1]
      rw [e2_go rfl rfl (wdn w)]
      simp only [Option.bind_some, toI]
      rw [rng_0 (by omega) (by omega)]
      refine agp_all PyData.int _ fun a ha => ⟨E none (some (.int a)) none, rfl, ?_⟩
      have har := rangeI_mem.mp ha
      simp only [eCall, eArgs, sub1, eVar, eC, E, List.getD_cons_zero, List.getD_cons_succ, Option.bind_some, Option.map_some]
      exact ans_ok wok uok hln false (K := canB w u k) (fun o ho p hp hg => by
        subst hp
        have hor := rangeI_mem.mp ho
        simp only [Bool.false_eq_true, if_false] at hor hg ⊢
        exact ih k _ (kc.up _ _ _ _ hc (by omega) (by omega) (by omega) (by omega) hg) (by omega))
    have back : ∀ v5, (eAg true [7] (iRng1 (e2 ixD (eVar 1) (eC (.int 0)))) (TL.gName 7) (eCall (m_can_answer_2 (m_can_go_2 n)) [(eVar 0), (eVar 1), (eVar 2), (e2 subD (eVar 3) (eC (.int 1))), (eVar 7), (eC (.int 1))])) (E v5 none none)
        = some (.bool ((rangeI 0 u.n.toNat).all fun b => (rangeI 0 w.n.toNat).any fun a => growB w u ps (a, b) && canB w u k (putP ps (a, b)))) := fun v5 => by
      simp only [eAg, iRng1]
      rw [e2_go rfl rfl (wdn u)]
      simp only [Option.bind_some, toI]
      rw [rng_0 (by omega) (by omega)]
      refine agp_all PyData.int _ fun b hb => ⟨E v5 none (some (.int b)), rfl, ?_⟩
      have hbr := rangeI_mem.mp hb
      simp only [eCall, eArgs, sub1, eVar, eC, E, List.getD_cons_zero, List.getD_cons_succ, Option.bind_some, Option.map_some]
      exact ans_ok wok uok hln true (K := canB w u k) (fun o ho p hp hg => by
        subst hp
        have hor := rangeI_mem.mp ho
        simp only [if_true] at hor hg ⊢
        exact ih k _ (kc.up _ _ _ _ hc (by omega) (by omega) (by omega) (by omega) hg) (by omega))
    refine runM_rt rfl (seq_go (e := E none none none) (if_f (tV_go (e2_go rfl rfl ((eq_i _ _).trans (by rw [decide_eq_false (by omega)])))) rfl) ?_)
    have hd : PyData.bool (((rangeI 0 w.n.toNat).all fun a => (rangeI 0 u.n.toNat).any fun b => growB w u ps (a, b) && canB w u k (putP ps (a, b))) && (rangeI 0 u.n.toNat).all fun b => (rangeI 0 w.n.toNat).any fun a => growB w u ps (a, b) && canB w u k (putP ps (a, b))) = spGo w.d u.d (.tuple [tP ps, .int ((k + 1 : Nat) : Int)]) := by
      rw [spGo_of]
      rfl
    have hr : canB w u (k + 1) ps = (((rangeI 0 w.n.toNat).all fun a => (rangeI 0 u.n.toNat).any fun b => growB w u ps (a, b) && canB w u k (putP ps (a, b))) && (rangeI 0 u.n.toNat).all fun b => (rangeI 0 w.n.toNat).any fun a => growB w u ps (a, b) && canB w u k (putP ps (a, b))) := rfl
    rw [hr]
    exact sMemo_go (key _ _ _) (seqN_go (asg_go forth) (sEnd_go (key _ _ _) (and_go rfl fun _ => back _) rfl rfl ku hd rfl)) rfl rfl ku hd rfl
def C3 (w u : Wd) (ps : List (Int × Int)) (k : Nat) : Prop := ps.length + k ≤ 3 ∧ ∀ p ∈ ps, 0 ≤ p.1 ∧ p.1 < w.n ∧ 0 ≤ p.2 ∧ p.2 < u.n
theorem putP_mem {ps : List (Int × Int)} {p q : Int × Int} : q ∈ putP ps p ↔ q = p ∨ q ∈ ps := by
  unfold putP
  split
  · rename_i h
    exact ⟨.inr, fun z => z.elim (fun e => by rw [e]; exact h) id⟩
  · rw [(isort_perm _).mem_iff, List.mem_append, List.mem_singleton]
    exact or_comm
theorem putP_len (ps : List (Int × Int)) (p : Int × Int) : (putP ps p).length ≤ ps.length + 1 := by
  unfold putP
  split
  · omega
  · rw [(isort_perm _).length_eq, List.length_append, List.length_singleton]
    exact Nat.le_refl _
theorem keys3 {w u : Wd} (wok : w.Ok) (uok : u.Ok) : Keys w u (C3 w u) where
  ok := fun ps k ⟨h1, h2⟩ => by
    have hw := wok.hi
    have hu := uok.hi
    have ha : ps.all (inR 8) = true := List.all_eq_true.mpr fun p hp => by
      have := h2 p hp
      simp only [inR, Bool.and_eq_true, decide_eq_true_eq]
      omega
    simp only [okGo, ha, Bool.true_and, Bool.and_eq_true, Bool.or_eq_true, decide_eq_true_eq, Nat.ble_eq]
    exact ⟨by omega, .inl (by omega)⟩
  ln := fun ps k ⟨h1, _⟩ => by omega
  up := fun ps k a b ⟨h1, h2⟩ a0 a1 b0 b1 _ => by
    refine ⟨?_, fun p hp => ?_⟩
    · have := putP_len ps (a, b)
      omega
    · rcases putP_mem.mp hp with rfl | hp
      · exact ⟨a0, a1, b0, b1⟩
      · exact h2 p hp
theorem agree_ok {w u : Wd} (wok : w.Ok) (uok : u.Ok) {k : Nat} (hk : k ≤ 3) : m_agree_2 [w.d, u.d, .int k] = some (.bool (canB w u k [])) := by
  have := go_ok wok uok (keys3 wok uok) k 8 [] ⟨by simpa using hk, fun p hp => by cases hp⟩ (by omega)
  refine run_rt rfl (ret_go ?_)
  simp only [eCall, eArgs, eVar, eTup, List.map_cons, List.map_nil, List.replicate, List.append_nil, List.getD_cons_zero, List.getD_cons_succ, Option.bind_some, Option.map_some, List.length_nil, Nat.zero_le, if_true]
  exact this
end LB

set_option Elab.async false
set_option linter.all false
set_option maxRecDepth 100000
namespace LB
open PySem TL
end LB

set_option Elab.async false
set_option linter.all false
set_option maxRecDepth 100000
namespace LB
open PySem TL
def mkP (side : Bool) (item o : Int) : Int × Int := if side then (o, item) else (item, o)
def lawB (w u : Wd) : Nat → List (Int × Int) → Bool
  | 0, _ => true
  | k + 1, ps => [false, true].all fun side => (rangeI 0 (if side then u.n else w.n).toNat).all fun item => (rangeI 0 (if side then w.n else u.n).toNat).any fun o =>
    (ps ++ [mkP side item o]).all (fun q => fitB w u (mkP side item o) q) && lawB w u k (ps ++ [mkP side item o])
def sideI (side : Bool) : Int := if side then 1 else 0
theorem law_can_ok {w u : Wd} (wok : w.Ok) (uok : u.Ok) (n k : Nat) (ps : List (Int × Int)) : ps.length + k ≤ 1000 → k < n → m__law_can n [w.d, u.d, tP ps, .int k] = some (.bool (lawB w u k ps)) := by
  have lw := wok.lo
  have lu := uok.lo
  have hw := wok.hi
  have hu := uok.hi
  induction n generalizing k ps with
  | zero => intro _ h; omega
  | succ n ih =>
   cases k with
   | zero => exact fun _ _ => run_rt rfl (seq_rt (if_t (tV_go (e2_go rfl rfl (eq_i _ _))) (ret_go rfl)))
   | succ k =>
    intro hlen hn
    let E := fun (e4 e5 e6 e7 e8 : Option D) => [some w.d, some u.d, some (tP ps), some (PyData.int ((k + 1 : Nat) : Int)), e4, e5, e6, e7, e8, none]
    let Q := fun (side : Bool) (item o : Int) => (ps ++ [mkP side item o]).all (fun q => fitB w u (mkP side item o) q) && lawB w u k (ps ++ [mkP side item o])
    have nn : ∀ (side : Bool) (i j : Nat) (f g : Wd → Int), True := fun _ _ _ _ _ => trivial
    have ends : ∀ (side : Bool) (e5 e6 e7 e8 : Option D), (e2 ixD (eLst [(e2 ixD (eVar 0) (eC (.int 0))), (e2 ixD (eVar 1) (eC (.int 0)))]) (eVar 4)) (E (some (.int (sideI side))) e5 e6 e7 e8) = some (.int (if side then u.n else w.n)) := fun side e5 e6 e7 e8 => by cases side <;> rfl
    have ends2 : ∀ (side : Bool) (e5 e6 e7 e8 : Option D), (e2 ixD (eLst [(e2 ixD (eVar 1) (eC (.int 0))), (e2 ixD (eVar 0) (eC (.int 0)))]) (eVar 4)) (E (some (.int (sideI side))) e5 e6 e7 e8) = some (.int (if side then w.n else u.n)) := fun side e5 e6 e7 e8 => by cases side <;> rfl
    have pr : ∀ (side : Bool) (item o : Int) (e6 e8 : Option D), (e2 ixD (eLst [(eTup [(eVar 5), (eVar 7)]), (eTup [(eVar 7), (eVar 5)])]) (eVar 4)) (E (some (.int (sideI side))) (some (.int item)) e6 (some (.int o)) e8) = some (prD (mkP side item o)) := fun side item o e6 e8 => by cases side <;> rfl
    have cat : ∀ (p : Int × Int) (e4 e5 e6 e7 : Option D), (e2 addD (eVar 2) (eTup [(eVar 8)])) (E e4 e5 e6 e7 (some (prD p))) = some (tP (ps ++ [p])) := fun p e4 e5 e6 e7 => e2_go rfl (tup1_go rfl) ((cat_t (small (by rw [List.length_map]; simp; omega))).trans (by rw [tP, List.map_append]; rfl))
    have fitl : ∀ (p : Int × Int) (e4 e5 e6 e7 : Option D), tV (e2 eqD (e1 lenD (eLc [9] (iSeq (e2 addD (eVar 2) (eTup [(eVar 8)]))) (TL.gName 9) (TL.tNot (tV (eCall m__law_fit [(eVar 0), (eVar 1), (eVar 8), (eVar 9)]))) (eVar 9))) (eC (.int 0))) (E e4 e5 e6 e7 (some (prD p))) = some ((ps ++ [p]).all fun q => fitB w u p q) := fun p e4 e5 e6 e7 => by
      have hl := lc_filter (g := TL.gName 9) (c := TL.tNot (tV (eCall m__law_fit [(eVar 0), (eVar 1), (eVar 8), (eVar 9)]))) (e := eVar 9) (env := E e4 e5 e6 e7 (some (prD p))) prD prD (fun q => !fitB w u p q) id (zs := ps ++ [p]) fun q _ => ⟨_, rfl, by
        simp only [TL.tNot]
        rw [tV_go (call4_go rfl rfl rfl rfl (goes_ok w u p q).2)]
        rfl, fun _ => rfl⟩
      rw [List.map_id] at hl
      refine tV_go (e2_go (e1_go (lc_go (ds := (ps ++ [p]).map prD) ?_ hl) (len_l _)) rfl ((eq_i _ _).trans ?_))
      · simp only [iSeq, cat, Option.bind_some, tP, itemsD]
      · rw [List.length_map, none_left]
    have inner : ∀ (side : Bool) (item : Int) (e7 e8 : Option D), ∃ e7' e8', forGo (TL.gName 7) (sSeq (sAsg (e2 ixD (eLst [(eTup [(eVar 5), (eVar 7)]), (eTup [(eVar 7), (eVar 5)])]) (eVar 4)) (TL.gName 8))
      (sIf (TL.tAnd (TL.tNot (tV (eVar 6))) (tV (e2 eqD (e1 lenD (eLc [9] (iSeq (e2 addD (eVar 2) (eTup [(eVar 8)]))) (TL.gName 9) (TL.tNot (tV (eCall m__law_fit [(eVar 0), (eVar 1), (eVar 8), (eVar 9)]))) (eVar 9))) (eC (.int 0)))))
      (sAsg (eCall (m__law_can n) [(eVar 0), (eVar 1), (e2 addD (eVar 2) (eTup [(eVar 8)])), (e2 subD (eVar 3) (eC (.int 1)))]) (TL.gName 6))
      sNext)) ((rangeI 0 (if side then w.n else u.n).toNat).map .int) (E (some (.int (sideI side))) (some (.int item)) (some (.bool false)) e7 e8) = some (.nx (E (some (.int (sideI side))) (some (.int item)) (some (.bool ((rangeI 0 (if side then w.n else u.n).toNat).any (Q side item)))) e7' e8')) := fun side item e7 e8 => by
      obtain ⟨e, h1, f7, f8, he⟩ := for_invT (g := TL.gName 7) (body := (sSeq (sAsg (e2 ixD (eLst [(eTup [(eVar 5), (eVar 7)]), (eTup [(eVar 7), (eVar 5)])]) (eVar 4)) (TL.gName 8))
        (sIf (TL.tAnd (TL.tNot (tV (eVar 6))) (tV (e2 eqD (e1 lenD (eLc [9] (iSeq (e2 addD (eVar 2) (eTup [(eVar 8)]))) (TL.gName 9) (TL.tNot (tV (eCall m__law_fit [(eVar 0), (eVar 1), (eVar 8), (eVar 9)]))) (eVar 9))) (eC (.int 0)))))
        (sAsg (eCall (m__law_can n) [(eVar 0), (eVar 1), (e2 addD (eVar 2) (eTup [(eVar 8)])), (e2 subD (eVar 3) (eC (.int 1)))]) (TL.gName 6))
        sNext))) PyData.int (fun done env => ∃ e7 e8, env = E (some (.int (sideI side))) (some (.int item)) (some (.bool (done.any (Q side item)))) e7 e8) (rangeI 0 (if side then w.n else u.n).toNat) [] _ ⟨e7, e8, rfl⟩ fun o ho done env ⟨x7, x8, hx⟩ => by
          subst hx
          refine ⟨_, rfl, E (some (.int (sideI side))) (some (.int item)) (some (.bool ((done ++ [o]).any (Q side item)))) (some (.int o)) (some (prD (mkP side item o))), .inl (seq_go (asg_go (pr side item o _ _)) ?_), ⟨_, _, rfl⟩⟩
          have hf : ∀ b, TL.tNot (tV (eVar 6)) (E (some (.int (sideI side))) (some (.int item)) (some (.bool b)) (some (.int o)) (some (prD (mkP side item o)))) = some (!b) := fun b => rfl
          show sIf _ _ _ (E (some (.int (sideI side))) (some (.int item)) (some (.bool (done.any (Q side item)))) (some (.int o)) (some (prD (mkP side item o)))) = _
          rw [ann_snoc]
          cases hd : done.any (Q side item) with
          | true => exact if_f (tAnd_f (hf true)) rfl
          | false =>
            cases hq : (ps ++ [mkP side item o]).all (fun q => fitB w u (mkP side item o) q) with
            | false =>
              refine if_f (tAnd_t (hf false) ((fitl _ _ _ _ _).trans (congrArg some hq))) ?_
              show some (Out.nx _) = _
              have : Q side item o = false := by show (_ && _) = false; rw [hq]; rfl
              rw [this]
              rfl
            | true =>
              refine if_t (tAnd_t (hf false) ((fitl _ _ _ _ _).trans (congrArg some hq))) ?_
              have hr := ih k (ps ++ [mkP side item o]) (by rw [List.length_append, List.length_singleton]; omega) (by omega)
              have : Q side item o = lawB w u k (ps ++ [mkP side item o]) := by show (_ && _) = _; rw [hq]; rfl
              rw [this]
              exact asg_go (call4_go rfl rfl (cat _ _ _ _ _) (e2_go rfl rfl (by show some (PyData.int (((k + 1 : Nat) : Int) - 1)) = some (.int (k : Int)); congr 2; omega)) hr)
      rw [List.nil_append] at he
      exact ⟨f7, f8, h1.trans (congrArg (fun x => some (Out.nx x)) he)⟩
    have nb : ∀ side : Bool, 0 ≤ (if side then w.n else u.n) ∧ (if side then w.n else u.n) ≤ 8 ∧ 0 ≤ (if side then u.n else w.n) ∧ (if side then u.n else w.n) ≤ 8 := fun side => by cases side <;> simp <;> omega
    have mid : ∀ (side : Bool) (e5 e6 e7 e8 : Option D), _ := fun side e5 e6 e7 e8 => for_allT (g := TL.gName 5) (body := (sSeq (sAsg (eC (.bool false)) (TL.gName 6))
      (sSeq (sFor (iRng1 (e2 ixD (eLst [(e2 ixD (eVar 1) (eC (.int 0))), (e2 ixD (eVar 0) (eC (.int 0)))]) (eVar 4))) (TL.gName 7)
      (sSeq (sAsg (e2 ixD (eLst [(eTup [(eVar 5), (eVar 7)]), (eTup [(eVar 7), (eVar 5)])]) (eVar 4)) (TL.gName 8))
      (sIf (TL.tAnd (TL.tNot (tV (eVar 6))) (tV (e2 eqD (e1 lenD (eLc [9] (iSeq (e2 addD (eVar 2) (eTup [(eVar 8)]))) (TL.gName 9) (TL.tNot (tV (eCall m__law_fit [(eVar 0), (eVar 1), (eVar 8), (eVar 9)]))) (eVar 9))) (eC (.int 0)))))
      (sAsg (eCall (m__law_can n) [(eVar 0), (eVar 1), (e2 addD (eVar 2) (eTup [(eVar 8)])), (e2 subD (eVar 3) (eC (.int 1)))]) (TL.gName 6))
      sNext)))
      (sIf (TL.tNot (tV (eVar 6)))
      (sRet (eC (.bool false)))
      sNext)))) PyData.int (fun env => ∃ e5 e6 e7 e8, env = E (some (.int (sideI side))) e5 e6 e7 e8) (fun item => (rangeI 0 (if side then w.n else u.n).toNat).any (Q side item)) (.bool false) (rangeI 0 (if side then u.n else w.n).toNat) (E (some (.int (sideI side))) e5 e6 e7 e8) ⟨_, _, _, _, rfl⟩ fun item hi env ⟨x5, x6, x7, x8, hx⟩ => by
        subst hx
        refine ⟨_, rfl, ?_⟩
        obtain ⟨f7, f8, hin⟩ := inner side item x7 x8
        have hb := nb side
        have go : ∀ r, sIf (TL.tNot (tV (eVar 6))) (sRet (eC (.bool false))) sNext (E (some (.int (sideI side))) (some (.int item)) (some (.bool ((rangeI 0 (if side then w.n else u.n).toNat).any (Q side item)))) f7 f8) = r → _ := fun r hr => seq_go (a := sAsg (eC (.bool false)) (TL.gName 6)) (env := E (some (.int (sideI side))) (some (.int item)) x6 x7 x8) (e := E (some (.int (sideI side))) (some (.int item)) (some (.bool false)) x7 x8) rfl (seq_go (for_go (rngI1 (ends2 side _ _ _ _) (by omega) (by omega)) hin) hr)
        cases hq : (rangeI 0 (if side then w.n else u.n).toNat).any (Q side item) with
        | true =>
          rw [hq] at go
          exact .inl ⟨rfl, _, go _ (if_f rfl rfl), ⟨_, _, _, _, rfl⟩⟩
        | false =>
          rw [hq] at go
          exact .inr ⟨rfl, go _ (if_t rfl (ret_go rfl))⟩
    refine run_rt rfl (seq_go (e := E none none none none none) (if_f (tV_go (e2_go rfl rfl ((eq_i _ _).trans (by rw [decide_eq_false (by omega)])))) rfl) ?_)
    have hb0 := nb false
    have hb1 := nb true
    have top := for_allT (g := TL.gName 4) (body := (sFor (iRng1 (e2 ixD (eLst [(e2 ixD (eVar 0) (eC (.int 0))), (e2 ixD (eVar 1) (eC (.int 0)))]) (eVar 4))) (TL.gName 5)
      (sSeq (sAsg (eC (.bool false)) (TL.gName 6))
      (sSeq (sFor (iRng1 (e2 ixD (eLst [(e2 ixD (eVar 1) (eC (.int 0))), (e2 ixD (eVar 0) (eC (.int 0)))]) (eVar 4))) (TL.gName 7)
      (sSeq (sAsg (e2 ixD (eLst [(eTup [(eVar 5), (eVar 7)]), (eTup [(eVar 7), (eVar 5)])]) (eVar 4)) (TL.gName 8))
      (sIf (TL.tAnd (TL.tNot (tV (eVar 6))) (tV (e2 eqD (e1 lenD (eLc [9] (iSeq (e2 addD (eVar 2) (eTup [(eVar 8)]))) (TL.gName 9) (TL.tNot (tV (eCall m__law_fit [(eVar 0), (eVar 1), (eVar 8), (eVar 9)]))) (eVar 9))) (eC (.int 0)))))
      (sAsg (eCall (m__law_can n) [(eVar 0), (eVar 1), (e2 addD (eVar 2) (eTup [(eVar 8)])), (e2 subD (eVar 3) (eC (.int 1)))]) (TL.gName 6))
      sNext)))
      (sIf (TL.tNot (tV (eVar 6)))
      (sRet (eC (.bool false)))
      sNext))))) (fun s => PyData.int (sideI s)) (fun env => ∃ e4 e5 e6 e7 e8, env = E e4 e5 e6 e7 e8) (fun side => (rangeI 0 (if side then u.n else w.n).toNat).all fun item => (rangeI 0 (if side then w.n else u.n).toNat).any (Q side item)) (.bool false) [false, true] (E none none none none none) ⟨_, _, _, _, _, rfl⟩ fun side _ env ⟨x4, x5, x6, x7, x8, hx⟩ => by
        subst hx
        refine ⟨_, rfl, ?_⟩
        have hb := nb side
        rcases mid side x5 x6 x7 x8 with ⟨h1, e, h2, y5, y6, y7, y8, he⟩ | ⟨h1, h2⟩
        · exact .inl ⟨h1, e, for_go (rngI1 (ends side _ _ _ _) (by omega) (by omega)) h2, he ▸ ⟨_, _, _, _, _, rfl⟩⟩
        · exact .inr ⟨h1, for_go (rngI1 (ends side _ _ _ _) (by omega) (by omega)) h2⟩
    have hr : lawB w u (k + 1) ps = [false, true].all fun side => (rangeI 0 (if side then u.n else w.n).toNat).all fun item => (rangeI 0 (if side then w.n else u.n).toNat).any (Q side item) := rfl
    rw [hr]
    rcases top with ⟨h1, e, h2, y4, y5, y6, y7, y8, he⟩ | ⟨h1, h2⟩
    · rw [h1]
      exact seq_go (for_go (ds := [false, true].map fun s => PyData.int (sideI s)) rfl h2) (by rw [he]; exact ret_go rfl)
    · rw [h1]
      exact seq_rt (for_go (ds := [false, true].map fun s => PyData.int (sideI s)) rfl h2)
theorem all_set {α : Type} {P : α → Bool} {l m : List α} (h : ∀ x, x ∈ l ↔ x ∈ m) : l.all P = m.all P := by
  rw [Bool.eq_iff_iff, List.all_eq_true, List.all_eq_true]
  exact ⟨fun z x hx => z x ((h x).mpr hx), fun z x hx => z x ((h x).mp hx)⟩
theorem any_cong {α : Type} {P Q : α → Bool} : ∀ {l : List α}, (∀ x ∈ l, P x = Q x) → l.any P = l.any Q
  | [], _ => rfl
  | x :: l, h => by rw [List.any_cons, List.any_cons, h x List.mem_cons_self, any_cong fun y hy => h y (List.mem_cons_of_mem _ hy)]
theorem can_law (w u : Wd) : ∀ (k : Nat) {ps qs : List (Int × Int)}, (∀ p, p ∈ ps ↔ p ∈ qs) → canB w u k ps = lawB w u k qs
  | 0, _, _, _ => rfl
  | k + 1, ps, qs, h => by
    have step : ∀ p, (growB w u ps p && canB w u k (putP ps p)) = ((qs ++ [p]).all (fun q => fitB w u p q) && lawB w u k (qs ++ [p])) := fun p => by
      rw [can_law w u k (ps := putP ps p) (qs := qs ++ [p]) fun q => by rw [putP_mem, List.mem_append, List.mem_singleton, h q]; exact or_comm]
      congr 1
      unfold growB
      rw [List.all_append, List.all_cons, List.all_nil, Bool.and_true, all_set h, Bool.and_comm]
    show (_ && _) = _
    rw [lawB]
    simp only [List.all_cons, List.all_nil, Bool.and_true, if_true, Bool.false_eq_true, if_false, mkP]
    congr 1
    · exact all_cong fun a _ => any_cong fun b _ => step (a, b)
    · exact all_cong fun b _ => any_cong fun a _ => step (a, b)
end LB

set_option Elab.async false
set_option linter.all false
set_option maxRecDepth 100000
namespace LB
open PySem TL
def InW (w u : Wd) (ps : List (Int × Int)) : Prop := ∀ p ∈ ps, (0 ≤ p.1 ∧ p.1 < w.n) ∧ 0 ≤ p.2 ∧ p.2 < u.n
theorem InW.put {w u : Wd} {ps : List (Int × Int)} (h : InW w u ps) {a b : Int} (ha : 0 ≤ a ∧ a < w.n) (hb : 0 ≤ b ∧ b < u.n) : InW w u (putP ps (a, b)) := fun p hp => by
  rcases putP_mem.mp hp with rfl | hp
  · exact ⟨ha, hb⟩
  · exact h p hp
theorem InW.nil {w u : Wd} : InW w u [] := fun p hp => by cases hp
theorem rgm {a n : Int} : a ∈ rangeI 0 n.toNat ↔ 0 ≤ a ∧ a < n := by
  rw [rangeI_mem]
  omega
section
variable {w u : Wd} (uok : u.Ok) {ns : List Int} (hp : ns.Perm (rangeI 0 u.n.toNat))
include uok hp
end
section
variable {w t : Wd} (wok : w.Ok) (tok : t.Ok)
include wok tok
end
section
variable {w1 w2 u1 u2 : Wd} (h1 : w1.Ok) (h2 : w2.Ok) (k1 : u1.Ok) (k2 : u2.Ok)
include h1 h2 k1 k2
end
end LB

set_option Elab.async false
set_option linter.all false
set_option maxRecDepth 100000
namespace LB
open PySem TL
mutual
def plainT : D → Bool
  | .str _ => true
  | .int _ => true
  | .tuple l => plainTs l
  | _ => false
def plainTs : List D → Bool
  | [] => true
  | d :: l => plainT d && plainTs l
end
end LB

set_option Elab.async false
set_option linter.all false
set_option maxRecDepth 100000
namespace LB
open PySem TL
def five : List Str := [Str.ofString "not", Str.ofString "and", Str.ofString "or", Str.ofString "some", Str.ofString "all"]
def nc : Nat → D → Nat
  | 0, _ => 0
  | n + 1, f => 1 + ((prts f).map (nc n)).sum
def Beg (a vs : List Int) : Prop := ∀ x : Nat, x < a.length → vs.getD x 0 = a.getD x 0
structure Dif (w u : Wd) (l : List (Int × Int)) (k : Nat) (f : D) : Prop where
  fm : ∀ top : Int, (l.length : Int) + k ≤ top → IsFmB 8 top five (2 * k + 1) f
  fr : ∀ N, 2 * k + 1 < N → ∀ x ∈ fv N f, 0 ≤ x ∧ x < l.length
  dp : ∀ N, 2 * k + 1 < N → dpt N f ≤ k
  tw : ∀ N vs, 2 * k + 1 < N → l.length + k ≤ vs.length → Beg (l.map (·.1)) vs → tv w N f vs = true
  tu : ∀ N vs, 2 * k + 1 < N → l.length + k ≤ vs.length → Beg (l.map (·.2)) vs → tv u N f vs = false
  ct : ∀ N, nc N f ≤ 4 * 9 ^ k
theorem Beg.snoc {l : List (Int × Int)} {vs : List Int} {i j : Int} (hl : l.length < vs.length) (h : Beg (l.map (·.1)) vs) : Beg ((l ++ [(i, j)]).map (·.1)) (vs.set l.length i) := fun x hx => by
  rw [List.length_map, List.length_append, List.length_singleton] at hx
  rw [getD_set2 hl, List.map_append]
  split
  · rename_i e
    subst e
    rw [List.getD_eq_getElem?_getD, List.getElem?_append_right (by rw [List.length_map]; omega)]
    simp
  · rename_i e
    rw [h x (by rw [List.length_map]; omega), List.getD_eq_getElem?_getD, List.getD_eq_getElem?_getD, List.getElem?_append_left (by rw [List.length_map]; omega)]
section
variable {w u : Wd} {l : List (Int × Int)} {k : Nat} {U : List D} {q o : Str}
end
end LB

set_option Elab.async false
set_option linter.all false
set_option maxRecDepth 100000
namespace LB
open PySem TL
structure Shp (f : D) : Prop where
  lay : PyData.canLay0 f = true
  dep : PyData.depth f ≤ 40
  pln : plainT f = true
end LB

set_option Elab.async false
set_option linter.all false
set_option maxRecDepth 100000
namespace LB
open PySem TL
section
variable {w u : Wd} (wok : w.Ok) (uok : u.Ok) {a b : List Int} (ha : a.length ≤ 100) (hb : b.length ≤ 100) {k : Int} {R : List D → Option D} {G : Int → Int → Option D}
  (hR : ∀ i, (0 ≤ i ∧ i < w.n) → ∀ j, (0 ≤ j ∧ j < u.n) → R [w.d, tI (a ++ [i]), u.d, tI (b ++ [j]), .int k] = some ((G i j).getD .none)) (hG : ∀ i j f, G i j = some f → Shp f)
include wok uok ha hb hR hG
end
structure KeysF (w u : Wd) (C : List (Int × Int) → Nat → Prop) : Prop where
  ok : ∀ l k, C l k → okDif (l.map (·.1)) (l.map (·.2)) k = true
  ln : ∀ l k, C l k → l.length + k ≤ 6
  up : ∀ l k a b, C l (k + 1) → (0 ≤ a ∧ a < w.n) → (0 ≤ b ∧ b < u.n) → C (l ++ [(a, b)]) k
def CF (w u : Wd) (l : List (Int × Int)) (k : Nat) : Prop := InW w u l ∧ l.length + k ≤ 3
theorem zip_maps : ∀ l : List (Int × Int), (l.map (·.1)).zip (l.map (·.2)) = l
  | [] => rfl
  | p :: l => by
    rw [List.map_cons, List.map_cons, List.zip_cons_cons, zip_maps l]
theorem inw_all {w u : Wd} {m : Nat} (hw : w.n ≤ m) (hu : u.n ≤ m) {l : List (Int × Int)} (h : InW w u l) : l.all (inR m) = true := List.all_eq_true.mpr fun p hp => by
  have := h p hp
  simp only [inR, Bool.and_eq_true, decide_eq_true_eq]
  omega
theorem InW.snoc {w u : Wd} {l : List (Int × Int)} (h : InW w u l) {a b : Int} (ha : 0 ≤ a ∧ a < w.n) (hb : 0 ≤ b ∧ b < u.n) : InW w u (l ++ [(a, b)]) := fun p hp => by
  rcases List.mem_append.mp hp with hp | hp
  · exact h p hp
  · rw [List.mem_singleton.mp hp]
    exact ⟨ha, hb⟩
theorem keysF {w u : Wd} (wok : w.Ok) (uok : u.Ok) : KeysF w u (CF w u) where
  ok := fun l k ⟨h1, h2⟩ => by
    unfold okDif
    have := inw_all (m := 8) wok.hi uok.hi h1
    simp only [zip_maps, List.length_map, Bool.and_eq_true, Bool.or_eq_true, decide_eq_true_eq, Nat.ble_eq, Nat.beq_eq, Int.toNat_natCast]
    exact ⟨⟨by omega, trivial⟩, .inl ⟨this, h2⟩⟩
  ln := fun l k ⟨_, h⟩ => by omega
  up := fun l k a b ⟨h1, h2⟩ ha hb => ⟨h1.snoc ha hb, by rw [List.length_append, List.length_singleton]; omega⟩
end LB

set_option Elab.async false
set_option linter.all false
set_option maxRecDepth 100000
namespace LB
open PySem TL
def pqs (w u : Wd) : List (Int × Int) := (rangeI 0 w.n.toNat).flatMap fun a => (rangeI 0 u.n.toNat).map fun b => (a, b)
def lastLt (ps : List (Int × Int)) (p : Int × Int) : Bool := match ps.getLast? with
  | some q => decide (q.1 < p.1)
  | none => true
def stdB (w u : Wd) (ps : List (Int × Int)) (p : Int × Int) : Bool := lastLt ps p && growB w u ps p
def mapsN (w u : Wd) : Nat → List (List (Int × Int))
  | 0 => [[]]
  | j + 1 => (mapsN w u j).flatMap fun ps => ((pqs w u).filter (stdB w u ps)).map fun p => ps ++ [p]
def upM (w u : Wd) : Nat → List (List (Int × Int))
  | 0 => [[]]
  | j + 1 => upM w u j ++ mapsN w u (j + 1)
def kp (t : TK 2) : List (Int × Int) := List.map (fun q : List Int => (q.getD 0 0, q.getD 1 0)) t
end LB

set_option Elab.async false
set_option linter.all false
set_option maxRecDepth 100000
namespace LB
open PySem TL
theorem len1 {n : Int} {l : List Int} (a : Asc1 n l) : l.length ≤ n.toNat := by
  have := nodup_leM (l := l) (m := rangeI 0 n.toNat) (a.asc.imp fun h e => by omega) fun x hx => by
    have := a.rng x hx
    exact rgm.mpr (by omega)
  rwa [rangeI_len] at this
def mkI (w : Wd) (i : Int) : List Int := if i = 0 then w.m0 else w.m1
end LB

set_option Elab.async false
set_option linter.all false
set_option maxRecDepth 100000
namespace LB
open PySem TL
theorem law_agree_ok {w u : Wd} (wok : w.Ok) (uok : u.Ok) {k : Nat} (hk : k ≤ 50) : m__law_agree [w.d, u.d, .int k] = some (.bool (canB w u k [])) := by
  rw [can_law w u k (qs := []) fun p => Iff.rfl]
  refine run_rt rfl (ret_go ?_)
  exact call4_go (z := tP []) rfl rfl rfl rfl (law_can_ok wok uok 60 k [] (by simpa using by omega) (by omega))
theorem tN_go {a : ST} {env : TL.Env} {b : Bool} (h : a env = some b) : TL.tNot a env = some (!b) := by
  simp only [TL.tNot, h, Option.map_some]
end LB

set_option Elab.async false
set_option linter.all false
set_option maxRecDepth 100000
namespace LB
open PySem TL
end LB

set_option Elab.async false
set_option linter.all false
set_option maxRecDepth 100000
namespace LB
open PySem TL
def wdf : D → Str
  | .tuple (.str s :: _) => s
  | _ => ""
def wl : Nat → D → List Str
  | 0, _ => []
  | n + 1, f => [wdf f] ++ (prts f).flatMap (wl n)
end LB

set_option Elab.async false
set_option linter.all false
set_option maxRecDepth 100000
namespace LB
open PySem TL
section
variable {w u : Wd} (wok : w.Ok) (uok : u.Ok) {k : Nat} (hk : k ≤ 3) {S : List (List (Int × Int))} (hp : S.Perm (upM w u k)) (hc : canB w u k [] = true)
include hp
include wok uok hk hc
end
end LB

set_option Elab.async false
set_option linter.all false
set_option maxRecDepth 100000
namespace LB
open PySem TL
end LB

set_option Elab.async false
set_option linter.all false
set_option maxRecDepth 100000
namespace LB
open PySem TL
end LB

set_option Elab.async false
set_option linter.all false
set_option maxRecDepth 100000
namespace LB
open PySem TL
end LB

set_option Elab.async false
set_option linter.all false
set_option maxRecDepth 100000
namespace LB
open PySem TL
def lineW (p : Nat) : Wd := ⟨p, [], [], lineP p⟩
theorem line_mem {p : Nat} {a b : Int} : (a, b) ∈ lineP p ↔ 0 ≤ a ∧ a < b ∧ b < p := by
  unfold lineP
  simp only [List.mem_flatMap, List.mem_map]
  constructor
  · rintro ⟨x, hx, y, hy, e⟩
    cases e
    have := rangeI_mem.mp hx
    have := rangeI_mem.mp hy
    omega
  · rintro ⟨h1, h2, h3⟩
    exact ⟨a, rangeI_mem.mpr (by omega), b, rangeI_mem.mpr (by omega), rfl⟩
def ends (p q : Nat) (ps : List (Int × Int)) : List (Int × Int) := (-1, -1) :: ((p : Int), (q : Int)) :: ps
end LB

set_option Elab.async false
set_option linter.all false
set_option maxRecDepth 100000
namespace LB
open PySem TL
end LB

set_option Elab.async false
set_option linter.all false
set_option maxRecDepth 100000
namespace LB
open PySem TL
def wordW (cs : List Nat) : Wd := ⟨cs.length, marksOf isA cs, marksOf isB cs, lineP cs.length⟩
theorem marks_mem {q : Nat → Bool} {cs : List Nat} {x : Int} : x ∈ marksOf q cs ↔ (0 ≤ x ∧ x < cs.length) ∧ q (cs.getD x.toNat 45) = true := by
  unfold marksOf
  rw [List.mem_filter, rangeI_mem]
  refine and_congr ?_ Iff.rfl
  omega
end LB

set_option Elab.async false
set_option linter.all false
set_option maxRecDepth 100000
namespace LB
open PySem TL
end LB

set_option Elab.async false
set_option linter.all false
set_option maxRecDepth 100000
namespace LB
open PySem TL
def wi (w u v : Wd) (i : Int) : Wd := if i = 0 then w else if i = 1 then u else v
end LB

set_option Elab.async false
set_option linter.all false
set_option maxRecDepth 100000
namespace LB
open PySem TL
end LB

set_option Elab.async false
set_option linter.all false
set_option maxRecDepth 100000
namespace LB
open PySem TL
theorem shaped_tis (l : List (List Int)) : SeqAt.shaped (.list (l.map tI)) = true := by
  have c1 : ∀ t, PyData.canLay0 (tI t) = true := fun t => by simp [tI, PyData.canLay0, lay_ints]
  have d1 : ∀ t, (tI t).depth = 1 := fun t => by simp [tI, PyData.depth, dep_ints]
  have h : ∀ l : List (List Int), PyData.canLayAll0 (l.map tI) = true ∧ PyData.depthAll (l.map tI) ≤ 1 := fun l => by
    induction l with
    | nil => simp [PyData.canLayAll0, PyData.depthAll]
    | cons t l ih =>
      simp only [List.map_cons, PyData.canLayAll0, PyData.depthAll, c1, d1, Bool.true_and]
      exact ⟨ih.1, by have := ih.2; omega⟩
  exact shaped_of (by simp [PyData.canLay0, (h l).1]) (by
    have := (h l).2
    simp only [PyData.depth]
    omega)
theorem eq_nil (l : List (List Int)) : eqD (.list (l.map tI)) (.list []) = some (.bool l.isEmpty) ∧ neD (.list (l.map tI)) (.list []) = some (.bool (!l.isEmpty)) := by
  have hz : PyData.eqv (.list (l.map tI)) (.list []) = l.isEmpty := by cases l <;> simp [PyData.eqv, PyData.eqvAll]
  unfold eqD neD
  rw [if_pos ⟨shaped_tis l, shaped_tis []⟩, if_pos ⟨shaped_tis l, shaped_tis []⟩, hz]
  exact ⟨rfl, rfl⟩
section
variable {w u : Wd} (wok : w.Ok) (uok : u.Ok) (wn : w.n ≤ 5)
include wok uok wn
omit wok uok wn in
end
end LB

set_option Elab.async false
set_option linter.all false
set_option maxRecDepth 100000
namespace LB
open PySem TL
end LB

set_option Elab.async false
set_option linter.all false
set_option maxRecDepth 100000
namespace LB
open PySem TL
theorem lineW_ok {p : Nat} (h1 : 1 ≤ p) (h8 : p ≤ 8) : (lineW p).Ok := by
  have : p = 1 ∨ p = 2 ∨ p = 3 ∨ p = 4 ∨ p = 5 ∨ p = 6 ∨ p = 7 ∨ p = 8 := by omega
  have ar : Asc2 (p : Int) (lineP p) := by
    refine ⟨?_, fun x hx => ?_⟩
    · rcases this with rfl | rfl | rfl | rfl | rfl | rfl | rfl | rfl <;> decide +kernel
    · have := line_mem.mp (show (x.1, x.2) ∈ lineP p from hx)
      omega
  exact ⟨by show (1 : Int) ≤ p; omega, by show (p : Int) ≤ 8; omega, ⟨.nil, fun x hx => by cases hx⟩, ⟨.nil, fun x hx => by cases hx⟩, ar⟩
end LB

set_option Elab.async false
set_option linter.all false
set_option maxRecDepth 100000
namespace LB
open PySem TL
theorem marks_asc (q : Nat → Bool) (cs : List Nat) : Asc1 (cs.length : Int) (marksOf q cs) := by
  refine ⟨?_, fun x hx => (marks_mem.mp hx).1⟩
  have h : (rangeI 0 cs.length).Pairwise (· < ·) := by
    rw [List.pairwise_iff_getElem]
    intro i j hi hj hij
    rw [rangeI_len] at hi hj
    have a := rangeI_get (lo := 0) hi
    have b := rangeI_get (lo := 0) hj
    rw [List.getElem?_eq_getElem (by rw [rangeI_len]; exact hi)] at a
    rw [List.getElem?_eq_getElem (by rw [rangeI_len]; exact hj)] at b
    have a := Option.some.inj a
    have b := Option.some.inj b
    omega
  exact h.filter _
theorem wordW_ok {cs : List Nat} (h1 : 1 ≤ cs.length) (h8 : cs.length ≤ 8) : (wordW cs).Ok :=
  ⟨by show (1 : Int) ≤ cs.length; omega, by show (cs.length : Int) ≤ 8; omega, marks_asc _ _, marks_asc _ _, (lineW_ok h1 h8).ar⟩
theorem words_agree_ok {a b : List Nat} (a1 : 1 ≤ a.length) (a8 : a.length ≤ 8) (ha : ∀ c ∈ a, c ∈ [97, 98, 99, 45]) (b1 : 1 ≤ b.length) (b8 : b.length ≤ 8) (hb : ∀ c ∈ b, c ∈ [97, 98, 99, 45]) {k : Nat} (hk : k ≤ 3) : m_words_agree_2 [.str ⟨a.toArray⟩, .str ⟨b.toArray⟩, .int k] = some (.bool (canB (wordW a) (wordW b) k [])) :=
  run_rt rfl (ret_go (call3_go (call1_go rfl (word_world_ok a1 a8 ha)) (call1_go rfl (word_world_ok b1 b8 hb)) rfl (agree_ok (wordW_ok a1 a8) (wordW_ok b1 b8) hk)))
end LB

set_option Elab.async false
set_option linter.all false
set_option maxRecDepth 100000
namespace LB
open PySem TL
theorem strs_one : ∀ cs : List Nat, strsO (cs.map fun c => PyData.str ⟨#[c]⟩) = some (cs.map fun c => (⟨#[c]⟩ : Str))
  | [] => rfl
  | c :: cs => by simp only [List.map_cons, strsO, strs_one cs, Option.map_some]
end LB

set_option Elab.async false
set_option linter.all false
set_option maxRecDepth 100000
namespace LB
open PySem TL
def dW (cs : List Nat) : D := .str ⟨cs.toArray⟩
def okW (m : Nat) (cs : List Nat) : Bool := Nat.ble 1 cs.length && Nat.ble cs.length m && cs.all fun c => decide (c ∈ [97, 98, 99, 45])
theorem okW_iff {m : Nat} {cs : List Nat} : okW m cs = true ↔ 1 ≤ cs.length ∧ cs.length ≤ m ∧ ∀ c ∈ cs, c ∈ [97, 98, 99, 45] := by
  simp only [okW, Bool.and_eq_true, Nat.ble_eq, List.all_eq_true, decide_eq_true_eq, and_assoc]
theorem wag {a b : List Nat} (ha : okW 8 a = true) (hb : okW 8 b = true) {k : Nat} (hk : k ≤ 3) : m_words_agree_2 [dW a, dW b, .int k] = some (.bool (canB (wordW a) (wordW b) k [])) := by
  obtain ⟨a1, a2, a3⟩ := okW_iff.mp ha
  obtain ⟨b1, b2, b3⟩ := okW_iff.mp hb
  exact words_agree_ok a1 a2 a3 b1 b2 b3 hk
def ab (m : Int) : Nat := [97, 98].getD m.toNat 45
theorem join_cs {a : SE} {env : TL.Env} {cs : List Nat} (hne : cs ≠ []) (hl : cs.length ≤ 1000) (h : a env = some (.list (cs.map fun c => PyData.str ⟨#[c]⟩))) : eJoin "" a env = some (dW cs) := by
  simp only [eJoin, h, Option.bind_some]
  rw [strs_one]
  simp only [Option.bind_some]
  rw [if_pos ?_]
  · exact congrArg (fun z => some (PyData.str z)) (join_one hne)
  · have : ∀ l : List Nat, ((l.map fun c => (⟨#[c]⟩ : Str)).map (·.length)).sum = l.length := fun l => by
      induction l with
      | nil => rfl
      | cons a l ih => rw [List.map_cons, List.map_cons, List.sum_cons, ih, List.length_cons]; show 1 + _ = _; omega
    rw [this, show (Str.ofString "").length = 0 by kernel_rfl, Nat.mul_zero]
    omega
end LB

set_option Elab.async false
set_option linter.all false
set_option maxRecDepth 100000
namespace LB
open PySem TL
theorem law_word_ok {cs : List Nat} (h1 : 1 ≤ cs.length) (h8 : cs.length ≤ 8) (hc : ∀ c ∈ cs, c ∈ [97, 98, 99, 45]) : m__law_word [dW cs] = some (wordW cs).d := by
  let E := fun (e1 e2 : Option D) => [some (dW cs), e1, e2]
  have rg : ∀ {env : TL.Env}, env.getD 0 none = some (dW cs) → iRng1 (e1 lenD (eVar 0)) env = some ((rangeI 0 cs.length).map .int) := fun {env} e => by
    simp only [iRng1]
    rw [e1_go e (word_len h1 h8 hc)]
    simp only [Option.bind_some, toI]
    rw [rng_0 (by omega) (by omega)]
    rfl
  have hm : ∀ (lit : Str) (q : Nat → Bool), (∀ c ∈ [97, 98, 99, 45], inSD (.str ⟨#[c]⟩) (.str lit) = some (.bool (q c))) → e1 tupleD (eLc [2] (iRng1 (e1 lenD (eVar 0))) (TL.gName 2) (tV (e2 inSD (e2 ixD (eVar 0) (eVar 2)) (eC (.str lit)))) (eVar 2)) (E none none) = some (tI (marksOf q cs)) := fun lit q hq => by
    have := lc_filter (g := TL.gName 2) (c := tV (e2 inSD (e2 ixD (eVar 0) (eVar 2)) (eC (.str lit)))) (e := eVar 2) (env := wipeE (E none none) [2]) PyData.int PyData.int (fun k => q (cs.getD k.toNat 45)) id (zs := rangeI 0 cs.length) fun k hk => by
      obtain ⟨w1, w2⟩ := word_at h1 h8 hc hk
      exact ⟨_, rfl, tV_go (e2_go (e2_go rfl rfl w1) rfl (hq _ w2)), fun _ => rfl⟩
    rw [List.map_id] at this
    exact e1_go (lc_go (rg rfl) this) rfl
  obtain ⟨l1, l2, l3⟩ := lines_ok h1 h8
  have hlen := word_len h1 h8 hc
  let M : D := .tuple [tI (marksOf isA cs), tI (marksOf isB cs)]
  refine run_rt rfl (seq_go (e := E (some M) none) (asg_go (tup2_go (hm _ _ fun c hc => (tab_ok hc).2.1) (hm _ _ fun c hc => (tab_ok hc).2.2))) (ret_go (tup3_go (e1_go rfl hlen) rfl (e2_go (call1_go (e1_go rfl hlen) l2) rfl rfl))))
def chs (cs : List Nat) : Prop := ∀ c ∈ cs, c ∈ [97, 98, 99, 45]
theorem cut_w {cs : List Nat} (h : cs.length ≤ 100) (lo hi : Option Int) : cutSD lo hi (dW cs) = some (dW ((cs.drop (HT.sIx cs.length 0 lo)).take (HT.sIx cs.length cs.length hi - HT.sIx cs.length 0 lo))) := by
  show (if (⟨cs.toArray⟩ : Str).length ≤ sizeLine then _ else _) = _
  rw [if_pos (small (by show cs.toArray.size ≤ _; simp; omega))]
  have e : (⟨cs.toArray⟩ : Str).length = cs.length := by show cs.toArray.size = _; simp
  simp only [L2.cutS, e]
  rfl
theorem cat_w2 {a b : List Nat} (ha : a.length ≤ 100) (hb : b.length ≤ 100) : addD (dW a) (dW b) = some (dW (a ++ b)) := by
  show (if (⟨a.toArray⟩ : Str).length + (⟨b.toArray⟩ : Str).length ≤ sizeLine then some (PyData.str (⟨a.toArray⟩ ++ ⟨b.toArray⟩)) else none) = _
  rw [if_pos (small (by show a.toArray.size + b.toArray.size ≤ _; simp; omega))]
  show some (PyData.str ⟨a.toArray ++ b.toArray⟩) = some (PyData.str ⟨(a ++ b).toArray⟩)
  simp
theorem rev_w {cs : List Nat} (h : cs.length ≤ 100) : revSD (dW cs) = some (dW cs.reverse) := by
  show (if (⟨cs.toArray⟩ : Str).length ≤ sizeLine then _ else _) = _
  rw [if_pos (small (by show cs.toArray.size ≤ _; simp; omega))]
  rfl
theorem cutS_go {a b : SE} {env : TL.Env} {x : D} {k : Int} {r : Option D} (h1 : a env = some x) (h2 : b env = some (.int k)) (h3 : cutSD none (some k) x = r) : eSliceS a none (some b) env = r := by
  simp only [eSliceS, ePart, h1, h2, Option.bind_some, toI, Option.map_some]
  exact h3
theorem cutS_go2 {a b : SE} {env : TL.Env} {x : D} {k : Int} {r : Option D} (h1 : a env = some x) (h2 : b env = some (.int k)) (h3 : cutSD (some k) none x = r) : eSliceS a (some b) none env = r := by
  simp only [eSliceS, ePart, h1, h2, Option.bind_some, toI, Option.map_some]
  exact h3
theorem sIxi {n d : Nat} {k : Int} (h0 : 0 ≤ k) (h : k ≤ n) : HT.sIx n d (some k) = k.toNat := by
  have := HT.sIx_nat n d k.toNat
  rw [show ((k.toNat : Nat) : Int) = k by omega] at this
  rw [this]
  omega
def ac (m : Int) : Nat := [97, 98, 45, 99].getD m.toNat 45
theorem ac_ok {m : Int} (h0 : 0 ≤ m) (h4 : m < 4) : ixD (.str "ab-c") (.int m) = some (.str ⟨#[ac m]⟩) := by
  have : m = 0 ∨ m = 1 ∨ m = 2 ∨ m = 3 := by omega
  rcases this with rfl | rfl | rfl | rfl <;> kernel_rfl
theorem ac_in {m : Int} (h0 : 0 ≤ m) (h4 : m < 4) : ac m ∈ [97, 98, 99, 45] := by
  have : m = 0 ∨ m = 1 ∨ m = 2 ∨ m = 3 := by omega
  rcases this with rfl | rfl | rfl | rfl <;> decide
theorem law_true_k52 (ns : List Int) (h : ns.length ≤ 63) : m_law_k52 [.list (ns.map .int)] = some (.bool true) := by
  obtain ⟨c, hc⟩ := cell_ok ns 0
  obtain ⟨rs, hd, hlen, hr⟩ := draws_ok c 40 (by decide)
  have rg : ∀ i : Nat, i < 40 → 0 ≤ rs.getD i 0 ∧ rs.getD i 0 < 4096 := fun i hi => hr _ (TL.getD_mem (by omega))
  let R := some (PyData.list (rs.map .int))
  let E := fun (e2 e3 e4 e5 e6 e7 e8 : Option D) => [some (PyData.list (ns.map .int)), R, e2, e3, e4, e5, e6, e7, e8, none, none, none]
  have ix : ∀ {i : Nat} {env : TL.Env}, i < 40 → env.getD 1 none = R → e2 ixD (eVar 1) (eC (.int i)) env = some (.int (rs.getD i 0)) := fun {i env} hi he => e2_go he rfl ((ix_ints (by omega) (by omega)).trans (by rw [Int.toNat_natCast]))
  have r0 := rg 0 (by decide)
  -- the first word
  let n : Int := 1 + rs.getD 0 0 % 5
  have md : ∃ md : Int, (∀ env : TL.Env, env.getD 1 none = R → e2 ixD (eLst [(eC (.int 2)), (eC (.int 4))]) (e2 modD (e2 ixD (eVar 1) (eC (.int 30))) (eC (.int 2))) env = some (.int md)) ∧ 0 < md ∧ md ≤ 4 := by
    have : rs.getD 30 0 % 2 = 0 ∨ rs.getD 30 0 % 2 = 1 := by omega
    rcases this with z | z
    · exact ⟨2, fun env he => e2_go rfl (e2_go (ix (i := 30) (by decide) he) rfl (mod_n (by decide))) (by rw [z]; rfl), by decide, by decide⟩
    · exact ⟨4, fun env he => e2_go rfl (e2_go (ix (i := 30) (by decide) he) rfl (mod_n (by decide))) (by rw [z]; rfl), by decide, by decide⟩
  obtain ⟨md, hmd, md0, md4⟩ := md
  let m : Int → Int := fun k => rs.getD (1 + k).toNat 0 % md
  have m0 : ∀ k, 0 ≤ m k := fun k => Int.emod_nonneg _ (by omega)
  have m4 : ∀ k, m k < 4 := fun k => by have : m k < md := Int.emod_lt_of_pos _ md0; omega
  let cs : List Nat := (rangeI 0 n.toNat).map fun k => ac (m k)
  have cl : cs.length = n.toNat := by rw [List.length_map, rangeI_len]
  have hn1 : 1 ≤ cs.length := by omega
  have hn5 : cs.length ≤ 5 := by omega
  have csC : chs cs := fun c hc => by
    obtain ⟨k, _, rfl⟩ := List.mem_map.mp hc
    exact ac_in (m0 k) (m4 k)
  have hne : cs ≠ [] := fun e => by rw [e] at hn1; simp at hn1
  have hj : eJoin "" (eLc [6] (iRng1 (e2 addD (eC (.int 1)) (e2 modD (e2 ixD (eVar 1) (eC (.int 0))) (eC (.int 5))))) (TL.gName 6) cYes (e2 ixD (eC (.str "ab-c")) (e2 modD (e1 intD (e2 ixD (eVar 1) (e2 addD (eC (.int 1)) (eVar 6)))) (e2 ixD (eLst [(eC (.int 2)), (eC (.int 4))]) (e2 modD (e2 ixD (eVar 1) (eC (.int 30))) (eC (.int 2))))))) (E none none none none none none none) = some (dW cs) := by
    refine join_cs hne (by omega) ?_
    have hl := lc_map (g := TL.gName 6) (e := e2 ixD (eC (.str "ab-c")) (e2 modD (e1 intD (e2 ixD (eVar 1) (e2 addD (eC (.int 1)) (eVar 6)))) (e2 ixD (eLst [(eC (.int 2)), (eC (.int 4))]) (e2 modD (e2 ixD (eVar 1) (eC (.int 30))) (eC (.int 2)))))) (env := wipeE (E none none none none none none none) [6]) PyData.int (fun c => PyData.str ⟨#[c]⟩) (fun k => ac (m k)) (zs := rangeI 0 n.toNat) fun k hk => by
      obtain ⟨k0, k1⟩ := rangeI_mem.mp hk
      refine ⟨_, rfl, e2_go rfl (e2_go (e1_go (e2_go (y := .int (1 + k)) rfl (e2_go rfl rfl (add_i _ _)) (ix_ints (by omega) (by omega))) rfl) (hmd _ rfl) (mod_n md0)) (ac_ok (m0 k) (m4 k))⟩
    refine lc_go (ds := (rangeI 0 n.toNat).map .int) (rngI1 (e2_go rfl (e2_go (ix (i := 0) (by decide) rfl) rfl (mod_n (by decide))) (add_i _ _)) (by omega) (by omega)) ?_
    rw [hl, List.map_map]
  -- the place and the way
  let at_ : Int := rs.getD 11 0 % (cs.length : Int)
  have at0 : 0 ≤ at_ := Int.emod_nonneg _ (by omega)
  have at1 : at_ < cs.length := Int.emod_lt_of_pos _ (by omega)
  let way : Int := rs.getD 12 0 % 4
  have way0 : 0 ≤ way ∧ way < 4 := by omega
  let W := some (dW cs)
  let A := some (PyData.int at_)
  let Y := some (PyData.int way)
  have hat : cs.getD at_.toNat 45 ∈ cs := by
    rw [List.getD_eq_getElem?_getD, List.getElem?_eq_getElem (by omega)]
    exact List.getElem_mem _
  have one : ∀ env : TL.Env, env.getD 2 none = W → env.getD 4 none = A → e2 ixD (eVar 2) (eVar 4) env = some (dW [cs.getD at_.toNat 45]) := fun env h1 h2 => e2_go h1 h2 (word_at hn1 (by omega) csC (rangeI_mem.mpr (by omega))).1
  have tk : ∀ {l : List Nat} {k : Nat} {c : Nat}, c ∈ l.take k → c ∈ l := fun h => List.mem_of_mem_take h
  have dr : ∀ {l : List Nat} {k : Nat} {c : Nat}, c ∈ l.drop k → c ∈ l := fun h => List.mem_of_mem_drop h
  -- the second word
  have two : ∃ ds : List Nat, okW 8 ds = true ∧ ∀ {rest : SS} {r : Option Out}, rest (E W (some (dW ds)) A Y none none none) = r → (sSeq (sIf (tV (e2 eqD (eVar 5) (eC (.int 0))))
      (sAsg (e2 addD (e2 addD (eSliceS (eVar 2) none (some (eVar 4))) (e2 ixD (eC (.str "abc-")) (e2 modD (e2 ixD (eVar 1) (eC (.int 13))) (eC (.int 4))))) (eSliceS (eVar 2) (some (e2 addD (eVar 4) (eC (.int 1)))) none)) (TL.gName 3))
      sNext)
      (sSeq (sIf (tV (e2 eqD (eVar 5) (eC (.int 1))))
      (sAsg (eSliceS (e2 addD (eVar 2) (e2 ixD (eVar 2) (eVar 4))) none (some (eC (.int 5)))) (TL.gName 3))
      sNext)
      (sSeq (sIf (tV (e2 eqD (eVar 5) (eC (.int 2))))
      (sSeq (sAsg (e2 addD (e2 addD (eSliceS (eVar 2) none (some (eVar 4))) (e2 ixD (eVar 2) (eVar 4))) (eSliceS (eVar 2) (some (eVar 4)) none)) (TL.gName 3))
      (sAsg (eSliceS (eVar 3) none (some (eC (.int 5)))) (TL.gName 3)))
      sNext)
      (sSeq (sIf (tV (e2 eqD (eVar 5) (eC (.int 3))))
      (sAsg (e1 revSD (eVar 2)) (TL.gName 3))
      sNext) rest)))) (E W W A Y none none none) = r := by
    have tst : ∀ (j : Int) (e3 : Option D), tV (e2 eqD (eVar 5) (eC (.int j))) (E W e3 A Y none none none) = some (decide (way = j)) := fun j e3 => tV_go (e2_go rfl rfl (eq_i _ _))
    have no : ∀ {j : Int} {e3 : Option D} {s : SS}, way ≠ j → sIf (tV (e2 eqD (eVar 5) (eC (.int j)))) s sNext (E W e3 A Y none none none) = some (.nx (E W e3 A Y none none none)) := fun {j e3 s} hj => if_f ((tst j e3).trans (by rw [decide_eq_false hj])) rfl
    have yes : ∀ {j : Int} {e3 : Option D} {s : SS} {r : Option Out}, way = j → s (E W e3 A Y none none none) = r → sIf (tV (e2 eqD (eVar 5) (eC (.int j)))) s sNext (E W e3 A Y none none none) = r := fun {j e3 s r} hj hs => if_t ((tst j e3).trans (by rw [decide_eq_true hj])) hs
    have hc : way = 0 ∨ way = 1 ∨ way = 2 ∨ way = 3 := by omega
    have cutTo : ∀ (l : List Nat) (k : Int), l.length ≤ 100 → 0 ≤ k → k ≤ l.length → cutSD none (some k) (dW l) = some (dW (l.take k.toNat)) := fun l k hl h0 h1 => by
      rw [cut_w hl, sIxi h0 h1, HT.sIx_none, List.drop_zero, Nat.sub_zero]
    have cutAll : ∀ (l : List Nat) (k : Int), l.length ≤ 100 → cutSD none (some k) (dW l) = some (dW (l.take (HT.sIx l.length l.length (some k)))) := fun l k hl => by
      rw [cut_w hl, HT.sIx_none, List.drop_zero, Nat.sub_zero]
    have cutFrom : ∀ (l : List Nat) (k : Int), l.length ≤ 100 → 0 ≤ k → k ≤ l.length → cutSD (some k) none (dW l) = some (dW (l.drop k.toNat)) := fun l k hl h0 h1 => by
      rw [cut_w hl, sIxi h0 h1, HT.sIx_none, List.take_of_length_le (by rw [List.length_drop]; omega)]
    have five : ∀ l : List Nat, l.length ≤ 100 → ∃ l', cutSD none (some 5) (dW l) = some (dW l') ∧ l' = l.take (min 5 l.length) := fun l hl => ⟨_, cutAll l 5 hl, by rw [show (some (5 : Int)) = some ((5 : Nat) : Int) from rfl, HT.sIx_nat]⟩
    rcases hc with hw | hw | hw | hw
    · have z13 : 0 ≤ rs.getD 13 0 % 4 ∧ rs.getD 13 0 % 4 < 4 := by omega
      let x := sgn (rs.getD 13 0 % 4)
      let ds := (cs.take at_.toNat ++ [x]) ++ cs.drop (at_ + 1).toNat
      refine ⟨ds, okW_iff.mpr ⟨?_, ?_, fun c hc => ?_⟩, fun {rest r} hr => ?_⟩
      · simp only [ds, List.length_append, List.length_take, List.length_drop, List.length_singleton]
        omega
      · simp only [ds, List.length_append, List.length_take, List.length_drop, List.length_singleton]
        omega
      · rcases List.mem_append.mp hc with hc | hc
        · rcases List.mem_append.mp hc with hc | hc
          · exact csC c (tk hc)
          · rw [List.mem_singleton.mp hc]
            exact sgn_in z13.1 z13.2
        · exact csC c (dr hc)
      · have v : (e2 addD (e2 addD (eSliceS (eVar 2) none (some (eVar 4))) (e2 ixD (eC (.str "abc-")) (e2 modD (e2 ixD (eVar 1) (eC (.int 13))) (eC (.int 4))))) (eSliceS (eVar 2) (some (e2 addD (eVar 4) (eC (.int 1)))) none)) (E W W A Y none none none) = some (dW ds) := by
          refine e2_go (x := dW (cs.take at_.toNat ++ [x])) (y := dW (cs.drop (at_ + 1).toNat)) (e2_go (x := dW (cs.take at_.toNat)) (y := dW [x]) (cutS_go rfl rfl (cutTo cs at_ (by omega) at0 (by omega))) (e2_go rfl (e2_go (ix (i := 13) (by decide) rfl) rfl (mod_n (by decide))) (sgn_ok z13.1 z13.2)) (cat_w2 (by rw [List.length_take]; omega) (Nat.le_of_ble_eq_true rfl))) (cutS_go2 rfl (e2_go rfl rfl (add_i _ _)) (cutFrom cs _ (by omega) (by omega) (by omega))) (cat_w2 ?_ ?_)
          · rw [List.length_append, List.length_take, List.length_singleton]; omega
          · rw [List.length_drop]; omega
        exact seq_go (e := E W (some (dW ds)) A Y none none none) (yes hw (asg_go v)) (seq_go (no (by omega)) (seq_go (no (by omega)) (seq_go (no (by omega)) hr)))
    · let l := cs ++ [cs.getD at_.toNat 45]
      have ll : l.length ≤ 100 := by simp only [l, List.length_append, List.length_singleton]; omega
      obtain ⟨ds, h5, hds⟩ := five l ll
      have l1 : 1 ≤ l.length := by simp only [l, List.length_append, List.length_singleton]; omega
      refine ⟨ds, okW_iff.mpr ⟨by rw [hds, List.length_take]; omega, by rw [hds, List.length_take]; omega, fun c hc => ?_⟩, fun {rest r} hr => ?_⟩
      · rw [hds] at hc
        rcases List.mem_append.mp (tk hc) with hc | hc
        · exact csC c hc
        · rw [List.mem_singleton.mp hc]
          exact csC _ hat
      · exact seq_go (no (by omega)) (seq_go (e := E W (some (dW ds)) A Y none none none) (yes hw (asg_go (cutS_go (e2_go (y := dW [cs.getD at_.toNat 45]) rfl (one _ rfl rfl) (cat_w2 (by omega) (Nat.le_of_ble_eq_true rfl))) rfl h5))) (seq_go (no (by omega)) (seq_go (no (by omega)) hr)))
    · let l := (cs.take at_.toNat ++ [cs.getD at_.toNat 45]) ++ cs.drop at_.toNat
      have ll : l.length ≤ 100 := by simp only [l, List.length_append, List.length_take, List.length_drop, List.length_singleton]; omega
      obtain ⟨ds, h5, hds⟩ := five l ll
      have l1 : 1 ≤ l.length := by simp only [l, List.length_append, List.length_singleton]; omega
      refine ⟨ds, okW_iff.mpr ⟨by rw [hds, List.length_take]; omega, by rw [hds, List.length_take]; omega, fun c hc => ?_⟩, fun {rest r} hr => ?_⟩
      · rw [hds] at hc
        rcases List.mem_append.mp (tk hc) with hc | hc
        · rcases List.mem_append.mp hc with hc | hc
          · exact csC c (tk hc)
          · rw [List.mem_singleton.mp hc]
            exact csC _ hat
        · exact csC c (dr hc)
      · have v : (e2 addD (e2 addD (eSliceS (eVar 2) none (some (eVar 4))) (e2 ixD (eVar 2) (eVar 4))) (eSliceS (eVar 2) (some (eVar 4)) none)) (E W W A Y none none none) = some (dW l) := by
          refine e2_go (x := dW (cs.take at_.toNat ++ [cs.getD at_.toNat 45])) (y := dW (cs.drop at_.toNat)) (e2_go (x := dW (cs.take at_.toNat)) (cutS_go rfl rfl (cutTo cs at_ (by omega) at0 (by omega))) (one _ rfl rfl) (cat_w2 (by rw [List.length_take]; omega) (Nat.le_of_ble_eq_true rfl))) (cutS_go2 rfl rfl (cutFrom cs _ (by omega) (by omega) (by omega))) (cat_w2 ?_ ?_)
          · rw [List.length_append, List.length_take, List.length_singleton]; omega
          · rw [List.length_drop]; omega
        exact seq_go (no (by omega)) (seq_go (no (by omega)) (seq_go (e := E W (some (dW ds)) A Y none none none) (yes hw (seq_go (e := E W (some (dW l)) A Y none none none) (asg_go v) (asg_go (cutS_go rfl rfl h5)))) (seq_go (no (by omega)) hr)))
    · refine ⟨cs.reverse, okW_iff.mpr ⟨by rw [List.length_reverse]; omega, by rw [List.length_reverse]; omega, fun c hc => csC c (List.mem_reverse.mp hc)⟩, fun {rest r} hr => ?_⟩
      exact seq_go (no (by omega)) (seq_go (no (by omega)) (seq_go (no (by omega)) (seq_go (e := E W (some (dW cs.reverse)) A Y none none none) (yes hw (asg_go (e1_go rfl (rev_w (by omega))))) hr)))
  obtain ⟨ds, okd, htwo⟩ := two
  have okc : okW 8 cs = true := okW_iff.mpr ⟨hn1, by omega, csC⟩
  obtain ⟨d1, d8, dC⟩ := okW_iff.mp okd
  -- the rounds
  obtain ⟨k, hk, k2⟩ : ∃ k : Nat, rs.getD 14 0 % 3 = k ∧ k ≤ 2 := ⟨(rs.getD 14 0 % 3).toNat, by omega, by omega⟩
  have wa := wag okc okd (k := k) (by omega)
  have la := law_agree_ok (w := wordW cs) (u := wordW ds) (wordW_ok hn1 (by omega)) (wordW_ok d1 d8) (k := k) (by omega)
  have z15 : 1 + rs.getD 15 0 % 3 = 1 ∨ 1 + rs.getD 15 0 % 3 = 2 ∨ 1 + rs.getD 15 0 % 3 = 3 := by omega
  have z16 : rs.getD 16 0 % 3 = 0 ∨ rs.getD 16 0 % 3 = 1 ∨ rs.getD 16 0 % 3 = 2 := by omega
  generalize hL : 1 + rs.getD 15 0 % 3 = L at z15
  generalize hK : rs.getD 16 0 % 3 = K at z16
  refine run_rt rfl (seq_go (e := E none none none none none none none) (asg_go (call2_go (call2_go rfl rfl hc) rfl hd)) (seq_go (e := E W none none none none none none) (asg_go hj) (seq_go (e := E W W none none none none none) (asg_go rfl) (seq_go (e := E W W A none none none none) (asg_go (e2_go (ix (i := 11) (by decide) rfl) (e1_go rfl (word_len hn1 (by omega) csC)) (mod_n (by omega)))) (seq_go (e := E W W A Y none none none) (asg_go (e2_go (ix (i := 12) (by decide) rfl) rfl (mod_n (by decide)))) (htwo ?_))))))
  let V := some (dW ds)
  refine seq_go (e := E W V A Y (some (.int k)) none none) (asg_go (e2_go (ix (i := 14) (by decide) rfl) rfl ((mod_n (by decide)).trans (by rw [hk])))) (seq_go (e := E W V A Y (some (.int k)) none none) (if_f ((tN_go (tV_go (call2_go (call3_go rfl rfl rfl wa) (call3_go (call1_go rfl (law_word_ok hn1 (by omega) csC)) (call1_go rfl (law_word_ok d1 d8 dC)) rfl la) (isbool_ok _ _)))).trans (by rw [decide_eq_true rfl]; rfl)) rfl) ?_)
  refine seq_go (e := E W V A Y (some (.int k)) (some (.int L)) none) (asg_go (e2_go rfl (e2_go (ix (i := 15) (by decide) rfl) rfl (mod_n (by decide))) ((add_i _ _).trans (by rw [hL])))) (seq_go (e := E W V A Y (some (.int K)) (some (.int L)) none) (asg_go (e2_go (ix (i := 16) (by decide) rfl) rfl ((mod_n (by decide)).trans (by rw [hK])))) ?_)
  clear_value V W A Y
  clear la wa htwo
  simp only [E]
  generalize R = R'
  rcases z15 with rfl | rfl | rfl <;> rcases z16 with rfl | rfl | rfl
  all_goals kernel_rfl
end LB

set_option Elab.async false
set_option linter.all false
set_option maxRecDepth 100000
set_option maxHeartbeats 4000000
namespace K52
open PySem PySem.Spec PyProof.Rows L2 TL
def topS (i : Nat) : Stmt := PySem.Challenge.pw_backforth_k52_words_and_their_kinds.main.body.getD i (.Pass ⟨0, 0, 0, 0⟩)
structure Top (K : PySem.W.Frag) (mg : Str → Option Value) (w : World) (base : Heap) where
  f_goes : Addr
  fd_goes : FuncData
  F_goes : Fun K "goes" "goes" (topS 1) f_goes fd_goes
  g_goes : mg "goes" = some (.ref f_goes)
  b_goes : Binds K fd_goes ["one", "two", "first", "last"] []
  f_grows : Addr
  fd_grows : FuncData
  F_grows : Fun K "grows" "grows" (topS 2) f_grows fd_grows
  g_grows : mg "grows" = some (.ref f_grows)
  b_grows : Binds K fd_grows ["one", "two", "pairs", "pair"] []
  f_put : Addr
  fd_put : FuncData
  F_put : Fun K "put" "put" (topS 3) f_put fd_put
  g_put : mg "put" = some (.ref f_put)
  b_put : Binds K fd_put ["pairs", "pair"] []
  f_can_answer : Addr
  fd_can_answer : FuncData
  F_can_answer : Fun K "can_answer" "can_answer" (topS 5) f_can_answer fd_can_answer
  g_can_answer : mg "can_answer" = some (.ref f_can_answer)
  b_can_answer : Binds K fd_can_answer ["one", "two", "pairs", "k", "known", "item", "place"] []
  f_can_go : Addr
  fd_can_go : FuncData
  c_can_go : Addr
  p_can_go : Addr
  F_can_go : FunC K "can_go" "can_go" (topS 6) f_can_go fd_can_go c_can_go
  g_can_go : mg "can_go" = some (.ref f_can_go)
  b_can_go : Binds K fd_can_go ["one", "two", "pairs", "k", "known"] []
  t_can_go : PySem.W.tabIn K "can_go" = some (c_can_go, p_can_go)
  tb_can_go : GxR.TabB base mg c_can_go p_can_go
  f_agree : Addr
  fd_agree : FuncData
  F_agree : Fun K "agree" "agree" (topS 7) f_agree fd_agree
  g_agree : mg "agree" = some (.ref f_agree)
  b_agree : Binds K fd_agree ["one", "two", "k"] []
  f_line_world : Addr
  fd_line_world : FuncData
  F_line_world : Fun K "line_world" "line_world" (topS 10) f_line_world fd_line_world
  g_line_world : mg "line_world" = some (.ref f_line_world)
  b_line_world : Binds K fd_line_world ["n"] []
  f_word_world : Addr
  fd_word_world : FuncData
  F_word_world : Fun K "word_world" "word_world" (topS 11) f_word_world fd_word_world
  g_word_world : mg "word_world" = some (.ref f_word_world)
  b_word_world : Binds K fd_word_world ["word"] []
  f_words_agree : Addr
  fd_words_agree : FuncData
  F_words_agree : Fun K "words_agree" "words_agree" (topS 13) f_words_agree fd_words_agree
  g_words_agree : mg "words_agree" = some (.ref f_words_agree)
  b_words_agree : Binds K fd_words_agree ["one", "two", "k"] []
  f_all_words : Addr
  fd_all_words : FuncData
  F_all_words : Fun K "all_words" "all_words" (topS 14) f_all_words fd_all_words
  g_all_words : mg "all_words" = some (.ref f_all_words)
  b_all_words : Binds K fd_all_words ["length"] []
  f_word_kinds : Addr
  fd_word_kinds : FuncData
  F_word_kinds : Fun K "word_kinds" "word_kinds" (topS 15) f_word_kinds fd_word_kinds
  g_word_kinds : mg "word_kinds" = some (.ref f_word_kinds)
  b_word_kinds : Binds K fd_word_kinds ["length", "k"] []
  f__law_cell : Addr
  fd__law_cell : FuncData
  F__law_cell : Fun K "_law_cell" "_law_cell" (topS 17) f__law_cell fd__law_cell
  g__law_cell : mg "_law_cell" = some (.ref f__law_cell)
  b__law_cell : Binds K fd__law_cell ["script", "k"] []
  f__law_draws : Addr
  fd__law_draws : FuncData
  F__law_draws : Fun K "_law_draws" "_law_draws" (topS 18) f__law_draws fd__law_draws
  g__law_draws : mg "_law_draws" = some (.ref f__law_draws)
  b__law_draws : Binds K fd__law_draws ["cell", "amount"] []
  f__law_is_bool : Addr
  fd__law_is_bool : FuncData
  F__law_is_bool : Fun K "_law_is_bool" "_law_is_bool" (topS 19) f__law_is_bool fd__law_is_bool
  g__law_is_bool : mg "_law_is_bool" = some (.ref f__law_is_bool)
  b__law_is_bool : Binds K fd__law_is_bool ["x", "due"] []
  f__law_kind : Addr
  fd__law_kind : FuncData
  F__law_kind : Fun K "_law_kind" "_law_kind" (topS 20) f__law_kind fd__law_kind
  g__law_kind : mg "_law_kind" = some (.ref f__law_kind)
  b__law_kind : Binds K fd__law_kind ["x"] []
  f__law_equal : Addr
  fd__law_equal : FuncData
  F__law_equal : Fun K "_law_equal" "_law_equal" (topS 21) f__law_equal fd__law_equal
  g__law_equal : mg "_law_equal" = some (.ref f__law_equal)
  b__law_equal : Binds K fd__law_equal ["x", "due"] []
  f__law_line : Addr
  fd__law_line : FuncData
  F__law_line : Fun K "_law_line" "_law_line" (topS 22) f__law_line fd__law_line
  g__law_line : mg "_law_line" = some (.ref f__law_line)
  b__law_line : Binds K fd__law_line ["n"] []
  f__law_fit : Addr
  fd__law_fit : FuncData
  F__law_fit : Fun K "_law_fit" "_law_fit" (topS 23) f__law_fit fd__law_fit
  g__law_fit : mg "_law_fit" = some (.ref f__law_fit)
  b__law_fit : Binds K fd__law_fit ["one", "two", "x", "y"] []
  f__law_can : Addr
  fd__law_can : FuncData
  F__law_can : Fun K "_law_can" "_law_can" (topS 24) f__law_can fd__law_can
  g__law_can : mg "_law_can" = some (.ref f__law_can)
  b__law_can : Binds K fd__law_can ["one", "two", "pairs", "k"] []
  f__law_agree : Addr
  fd__law_agree : FuncData
  F__law_agree : Fun K "_law_agree" "_law_agree" (topS 25) f__law_agree fd__law_agree
  g__law_agree : mg "_law_agree" = some (.ref f__law_agree)
  b__law_agree : Binds K fd__law_agree ["one", "two", "k"] []
  f__law_word : Addr
  fd__law_word : FuncData
  F__law_word : Fun K "_law_word" "_law_word" (topS 26) f__law_word fd__law_word
  g__law_word : mg "_law_word" = some (.ref f__law_word)
  b__law_word : Binds K fd__law_word ["word"] []
  f__law_all_words : Addr
  fd__law_all_words : FuncData
  F__law_all_words : Fun K "_law_all_words" "_law_all_words" (topS 27) f__law_all_words fd__law_all_words
  g__law_all_words : mg "_law_all_words" = some (.ref f__law_all_words)
  b__law_all_words : Binds K fd__law_all_words ["length"] []
  f_law : Addr
  fd_law : FuncData
  F_law : Fun K "law" "law" (topS 28) f_law fd_law
  g_law : mg "law" = some (.ref f_law)
  b_law : Binds K fd_law ["script"] []
  z_all : mg "all" = none
  z_any : mg "any" = none
  z_bool : mg "bool" = none
  z_dense_truth : mg "dense_truth" = none
  z_dict : mg "dict" = none
  z_int : mg "int" = none
  z_isinstance : mg "isinstance" = none
  z_len : mg "len" = none
  z_line_truth : mg "line_truth" = none
  z_list : mg "list" = none
  z_range : mg "range" = none
  z_sorted : mg "sorted" = none
  z_steps_truth : mg "steps_truth" = none
  z_str : mg "str" = none
  z_truth : mg "truth" = none
  z_tuple : mg "tuple" = none
  p_SIGNS : Addr
  c_SIGNS : mg "SIGNS" = some (.ref p_SIGNS)
  k_SIGNS : ∀ P : Program, KTab ⟨K, mg, P, w⟩ w p_SIGNS [("-", .tuple [.bool false, .bool false]), ("a", .tuple [.bool true, .bool false]), ("b", .tuple [.bool false, .bool true]), ("c", .tuple [.bool true, .bool true])]
end K52

set_option Elab.async false
set_option linter.all false
set_option maxRecDepth 100000
set_option maxHeartbeats 4000000
namespace K52
open PySem PySem.Spec PyProof.Rows L2 TL
section
variable {P : Program} {w : World} {K : PySem.W.Frag} {mg : Str → Option Value} {base : Heap}
abbrev s_goes : Stmt := topS 1
theorem sc_goes : FnScope ["one", "two", "first", "last", "a", "b", "c", "d", "i"] ["one", "two", "first", "last"] (defScope s_goes) := ⟨rfl, rfl, rfl, by decide +kernel, rfl, by decide +kernel, by decide +kernel⟩
theorem ok_goes (T : Top K mg w base) : FnOk P w K mg base CX0 1 T.f_goes T.fd_goes ["one", "two", "first", "last"] (spV ⟨K, mg, P, w⟩ 4 LB.m_goes) :=
  fnV (G := ⟨K, mg, P, w⟩) T.F_goes sc_goes rfl (Oe := []) fun cdv A outer s H E hr =>
    (bc (sasg (ev 2) (gt rfl (gsc (gn 4 sc_goes.nd) (gsc (gn 5 sc_goes.nd) gsn))))
      (bc (sasg (ev 3) (gt rfl (gsc (gn 6 sc_goes.nd) (gsc (gn 7 sc_goes.nd) gsn))))
      (bc (sif (O' := []) (tc (o_ne (u64 hr)) (vb (ec (o_eq (u64 hr)) (eb 4) (eb 6))) (vb (ec (o_eq (u64 hr)) (eb 5) (eb 7))))
      (bo (sret ebl))
      bn)
      (bc (sif (O' := []) (tv (eB (c_any rfl) rfl T.z_any (by decide +kernel) (nb (elc (own := [("i", 8)]) rfl sc_goes.nd (iseqB (vb (etup (ac ei (ac ei an))))) (blkOk_by (by kernel_rfl)) (fun _ _ _ _ _ => (gn 8 sc_goes.nd)) (fun _ _ _ _ _ => pyes) (fun _ _ _ _ _ => (ec (o_ne (u64 hr)) (vb (ec (o_in (u65 hr)) (eb 4) (vb (eix (vb (eix (eb 0) (vb ei))) (eb 8))))) (vb (ec (o_in (u65 hr)) (eb 5) (vb (eix (vb (eix (eb 1) (vb ei))) (eb 8)))))))))))
      (bo (sret ebl))
      bn)
      (bo (sret (eand (ec (o_eq (u64 hr)) (vb (ec (o_in (u65 hr)) (vb (etup (ac (ev 4) (ac (ev 6) an)))) (vb (eix (eb 0) (vb ei))))) (vb (ec (o_in (u65 hr)) (vb (etup (ac (ev 5) (ac (ev 7) an)))) (vb (eix (eb 1) (vb ei)))))) (eone (ec (o_eq (u64 hr)) (vb (ec (o_in (u65 hr)) (vb (etup (ac (ev 6) (ac (ev 4) an)))) (vb (eix (eb 0) (vb ei))))) (vb (ec (o_in (u65 hr)) (vb (etup (ac (ev 7) (ac (ev 5) an)))) (vb (eix (eb 1) (vb ei))))))))))))))
abbrev s_grows : Stmt := topS 2
theorem sc_grows : FnScope ["one", "two", "pairs", "pair", "other"] ["one", "two", "pairs", "pair"] (defScope s_grows) := ⟨rfl, rfl, rfl, by decide +kernel, rfl, by decide +kernel, by decide +kernel⟩
theorem ok_grows (T : Top K mg w base) : FnOk P w K mg base CX0 2 T.f_grows T.fd_grows ["one", "two", "pairs", "pair"] (spV ⟨K, mg, P, w⟩ 4 LB.m_grows) :=
  fnV (G := ⟨K, mg, P, w⟩) T.F_grows sc_grows rfl (Oe := []) fun cdv A outer s H E hr =>
    (bo (sret (eand (ecall (ok_goes T) (hr.mono (by omega)) rfl T.g_goes T.F_goes.kp T.b_goes (ac (ev 0) (ac (ev 1) (ac (ev 3) (ac (ev 3) an))))) (eone (eB (c_all rfl) rfl T.z_all (by decide +kernel) (nb (elc (own := [("other", 4)]) rfl sc_grows.nd (iseqB (eb 2)) (blkOk_by (by kernel_rfl)) (fun _ _ _ _ _ => (gn 4 sc_grows.nd)) (fun _ _ _ _ _ => pyes) (fun _ _ _ _ _ => (ecall (ok_goes T) (hr.mono (by omega)) rfl T.g_goes T.F_goes.kp T.b_goes (ac (ev 0) (ac (ev 1) (ac (ev 3) (ac (ev 4) an)))))))))))))
abbrev s_put : Stmt := topS 3
theorem sc_put : FnScope ["pairs", "pair"] ["pairs", "pair"] (defScope s_put) := ⟨rfl, rfl, rfl, by decide +kernel, rfl, by decide +kernel, by decide +kernel⟩
theorem ok_put (T : Top K mg w base) : FnOk P w K mg base CX0 1 T.f_put T.fd_put ["pairs", "pair"] (spV ⟨K, mg, P, w⟩ 2 LB.m_put) :=
  fnV (G := ⟨K, mg, P, w⟩) T.F_put sc_put rfl (Oe := []) fun cdv A outer s H E hr =>
    (bo (sret (eif (tc (o_in (u65 hr)) (eb 1) (eb 0)) (ev 0) (eT c_tuple rfl T.z_tuple (by decide +kernel) (nb (eBN c_sorted rfl T.z_sorted (by decide +kernel) (vb (eo o_add (eb 0) (vb (etup (ac (ev 1) an)))))))))))
abbrev s_can_answer : Stmt := topS 5
theorem sc_can_answer : FnScope ["one", "two", "pairs", "k", "known", "item", "place", "others", "answers", "pair", "other"] ["one", "two", "pairs", "k", "known", "item", "place"] (defScope s_can_answer) := ⟨rfl, rfl, rfl, by decide +kernel, rfl, by decide +kernel, by decide +kernel⟩
theorem ok_can_answer (T : Top K mg w base) (n : Nat) (ih : FnOk P w K mg base CX0 (3 * n + 2) T.f_can_go T.fd_can_go ["one", "two", "pairs", "k", "known"] (spM ⟨P, w, ⟨K, mg, P, w⟩, LB.uGo, LB.spGo⟩ 4 4 0 1 (LB.m_can_go_2 n))) : FnOk P w K mg base CX0 (3 * n + 3) T.f_can_answer T.fd_can_answer ["one", "two", "pairs", "k", "known", "item", "place"] (spM ⟨P, w, ⟨K, mg, P, w⟩, LB.uGo, LB.spGo⟩ 6 4 0 1 (LB.m_can_answer_2 (LB.m_can_go_2 n))) :=
  fnM (G := ⟨K, mg, P, w⟩) (k := 3 * n + 2) (S := ⟨4, 0, 1⟩) T.F_can_answer sc_can_answer rfl rfl ⟨rfl, by decide⟩ (by decide) (by decide) fun cdv A outer s H E hr =>
    (mbc (mset 7 sc_can_answer.nd (mlift (erngV1 rfl T.z_range (eif (tc (o_eq (u64 hr)) (eb 6) (vb ei)) (eix (eb 1) (vb ei)) (eix (eb 0) (vb ei))))))
      (mbc (msetL (own := [("other", 10)]) 8 rfl sc_can_answer.nd (sw_true rfl rfl rfl (by decide +kernel)) (irngO (ev 7)) (blkOk_by (by kernel_rfl)) (fun _ _ _ _ _ => (gn 10 sc_can_answer.nd)) (fun _ _ _ _ _ => (mpT pyes)) (fun _ _ _ _ _ => (mlift (eif (tc (o_eq (u64 hr)) (eb 6) (vb ei)) (etup (ac (ev 5) (ac (ev 10) an))) (etup (ac (ev 10) (ac (ev 5) an)))))) (keep_name 10))
      (mbc (mfor (O := []) PassesOwn.never rfl (iseq (ev 8)) (gn 9 sc_can_answer.nd)
      (mbo (mif_ (O' := []) (mtw (mtand (mliftT (tv (ecall (ok_grows T) (hr.mono (by omega)) rfl T.g_grows T.F_grows.kp T.b_grows (ac (ev 0) (ac (ev 1) (ac (ev 2) (ac (ev 9) an))))))) (mtone1 (mtv (mcall ih (hr.mono (by omega)) rfl T.g_can_go T.F_can_go.kp T.b_can_go (mk_cons (mlift (ev 0)) (mk_cons (mlift (ev 1)) (mk_cons (mlift (ecall (ok_put T) (hr.mono (by omega)) rfl T.g_put T.F_put.kp T.b_put (ac (ev 2) (ac (ev 9) an)))) (mk_cons (mlift (ev 3)) (mk_here man))))))))))
      (mbo (mret (mlift ebl)))
      mbn)) (keep_name 9))
      (mbo (mret (mlift ebl))))))
abbrev s_can_go : Stmt := topS 6
theorem sc_can_go : FnScope ["one", "two", "pairs", "k", "known", "forth", "a", "b"] ["one", "two", "pairs", "k", "known"] (defScope s_can_go) := ⟨rfl, rfl, rfl, by decide +kernel, rfl, by decide +kernel, by decide +kernel⟩
theorem ok_can_go (T : Top K mg w base) : ∀ n, FnOk P w K mg base CX0 (3 * n + 2) T.f_can_go T.fd_can_go ["one", "two", "pairs", "k", "known"] (spM ⟨P, w, ⟨K, mg, P, w⟩, LB.uGo, LB.spGo⟩ 4 4 0 1 (LB.m_can_go_2 n))
  | 0 => fnNever fun vs H Q E h => by obtain ⟨_, _, _, _, _, _, _, _, _, _, _, _, _, _, _, h, _⟩ := h; cases h
  | n + 1 => by
    have ih := ok_can_go T n
    exact fnMC (G := ⟨K, mg, P, w⟩) (k := 3 * n + 4) (S := ⟨4, 0, 1⟩) T.F_can_go sc_can_go rfl rfl ⟨rfl, by decide⟩ (by decide) (by decide) fun A outer s H E hr =>
    (mbc (mif_ (O' := []) (mliftT (tc (o_eq (u64 hr)) (eb 3) (vb ei)))
      (mbo (mret (mlift ebl)))
      mbn)
      (mmemo LB.ok_uGo (u64 hr) (etup (ac (ev 2) (ac (ev 3) an))) (etup (ac (ev 2) (ac (ev 3) an)))
      (mbk_cons (mset 5 sc_can_go.nd (mall (own := [("a", 6)]) T.t_can_go T.tb_can_go rfl hr rfl T.z_all sc_can_go.nd (genOk_by (by kernel_rfl) rfl (by kernel_rfl) (by kernel_rfl)) (irng1 rfl T.z_range (eix (eb 0) (vb ei))) (fun _ _ _ _ _ _ _ => (gn 6 sc_can_go.nd)) (fun _ _ _ _ _ _ _ hr' => (mcall (ok_can_answer T n ih) (hr'.mono (by omega)) rfl T.g_can_answer T.F_can_answer.kp T.b_can_answer (mk_cons (mlift (ev 0)) (mk_cons (mlift (ev 1)) (mk_cons (mlift (ev 2)) (mk_cons (mlift (eo o_sub (eb 3) (vb ei))) (mk_here (mac (mlift (ev 6)) (mac (mlift ei) man))))))))) (keep_name 6)))
      (mbk_end LB.ok_uGo (u64 hr) (etup (ac (ev 2) (ac (ev 3) an))) (mand (mlift (ev 5)) (mone (mall (own := [("b", 7)]) T.t_can_go T.tb_can_go rfl hr rfl T.z_all sc_can_go.nd (genOk_by (by kernel_rfl) rfl (by kernel_rfl) (by kernel_rfl)) (irng1 rfl T.z_range (eix (eb 1) (vb ei))) (fun _ _ _ _ _ _ _ => (gn 7 sc_can_go.nd)) (fun _ _ _ _ _ _ _ hr' => (mcall (ok_can_answer T n ih) (hr'.mono (by omega)) rfl T.g_can_answer T.F_can_answer.kp T.b_can_answer (mk_cons (mlift (ev 0)) (mk_cons (mlift (ev 1)) (mk_cons (mlift (ev 2)) (mk_cons (mlift (eo o_sub (eb 3) (vb ei))) (mk_here (mac (mlift (ev 7)) (mac (mlift ei) man))))))))) (keep_name 7))))))))
abbrev s_agree : Stmt := topS 7
theorem sc_agree : FnScope ["one", "two", "k"] ["one", "two", "k"] (defScope s_agree) := ⟨rfl, rfl, rfl, by decide +kernel, rfl, by decide +kernel, by decide +kernel⟩
theorem ok_agree (T : Top K mg w base) : FnOk P w K mg base CX0 27 T.f_agree T.fd_agree ["one", "two", "k"] (spV ⟨K, mg, P, w⟩ 3 LB.m_agree_2) :=
  fnV (G := ⟨K, mg, P, w⟩) T.F_agree sc_agree rfl (Oe := []) fun cdv A outer s H E hr =>
    (bo (sret (ecallM (u := LB.uGo) (sp := LB.spGo) (ok_can_go T 8) (hr.mono (by omega)) rfl T.g_can_go T.F_can_go.kp T.b_can_go (ak_cons (ev 0) (ak_cons (ev 1) (ak_cons (etup an) (ak_cons (ev 2) ak_end)))))))
abbrev s_line_world : Stmt := topS 10
theorem sc_line_world : FnScope ["n", "a", "b"] ["n"] (defScope s_line_world) := ⟨rfl, rfl, rfl, by decide +kernel, rfl, by decide +kernel, by decide +kernel⟩
theorem ok_line_world (T : Top K mg w base) : FnOk P w K mg base CX0 1 T.f_line_world T.fd_line_world ["n"] (spV ⟨K, mg, P, w⟩ 1 LB.m_line_world) :=
  fnV (G := ⟨K, mg, P, w⟩) T.F_line_world sc_line_world rfl (Oe := []) fun cdv A outer s H E hr =>
    (bo (sret (etup (ac (ev 0) (ac (etup (ac (etup an) (ac (etup an) an))) (ac (eT c_tuple rfl T.z_tuple (by decide +kernel) (nb (elc2 (own := [("a", 1), ("b", 2)]) (vs1 := [2]) rfl sc_line_world.nd (iv_b (irng1 rfl T.z_range (ev 0))) (blkOk_by (by kernel_rfl)) (by decide) (fun _ _ _ _ _ => (gn 1 sc_line_world.nd)) (fun _ _ _ _ _ => pyes) (fun _ _ _ _ _ => (irng2 rfl T.z_range (eo o_add (eb 1) (vb ei)) (ev 0))) (fun _ _ _ _ _ => (gn 2 sc_line_world.nd)) (fun _ _ _ _ _ => pyes) (fun _ _ _ _ _ => (etup (ac (ev 1) (ac (ev 2) an))))))) an))))))
abbrev s_word_world : Stmt := topS 11
theorem sc_word_world : FnScope ["word", "marks", "n", "_", "arrows", "i", "a"] ["word"] (defScope s_word_world) := ⟨rfl, rfl, rfl, by decide +kernel, rfl, by decide +kernel, by decide +kernel⟩
theorem ok_word_world (T : Top K mg w base) : FnOk P w K mg base CX0 2 T.f_word_world T.fd_word_world ["word"] (spV ⟨K, mg, P, w⟩ 1 LB.m_word_world) :=
  fnV (G := ⟨K, mg, P, w⟩) T.F_word_world sc_word_world rfl (Oe := []) fun cdv A outer s H E hr =>
    (bc (sasg (ecall (ok_line_world T) (hr.mono (by omega)) rfl T.g_line_world T.F_line_world.kp T.b_line_world (ac (eB c_len rfl T.z_len (by decide +kernel) (eb 0)) an)) (gt rfl (gsc (gn 2 sc_word_world.nd) (gsc (gn 3 sc_word_world.nd) (gsc (gn 4 sc_word_world.nd) gsn)))))
      (bc (sset 1 sc_word_world.nd (eT c_tuple rfl T.z_tuple (by decide +kernel) (nb (elc (own := [("i", 5)]) rfl sc_word_world.nd (iv_b (irng1 rfl T.z_range ei)) (blkOk_by (by kernel_rfl)) (fun _ _ _ _ _ => (gn 5 sc_word_world.nd)) (fun _ _ _ _ _ => pyes) (fun _ _ _ _ _ => (eT c_tuple rfl T.z_tuple (by decide +kernel) (nb (elc (own := [("a", 6)]) rfl sc_word_world.nd (iv_b (irng1 rfl T.z_range (ev 2))) (blkOk_by (by kernel_rfl)) (fun _ _ _ _ _ => (gn 6 sc_word_world.nd)) (fun _ _ _ _ _ => (pone (tv (eix (vb (etab rfl T.c_SIGNS (T.k_SIGNS _) (eix (eb 0) (eb 6)))) (eb 5))))) (fun _ _ _ _ _ => (ev 6))))))))))
      (bo (sret (etup (ac (ev 2) (ac (ev 1) (ac (ev 4) an))))))))
abbrev s_words_agree : Stmt := topS 13
theorem sc_words_agree : FnScope ["one", "two", "k"] ["one", "two", "k"] (defScope s_words_agree) := ⟨rfl, rfl, rfl, by decide +kernel, rfl, by decide +kernel, by decide +kernel⟩
theorem ok_words_agree (T : Top K mg w base) : FnOk P w K mg base CX0 28 T.f_words_agree T.fd_words_agree ["one", "two", "k"] (spV ⟨K, mg, P, w⟩ 3 LB.m_words_agree_2) :=
  fnV (G := ⟨K, mg, P, w⟩) T.F_words_agree sc_words_agree rfl (Oe := []) fun cdv A outer s H E hr =>
    (bo (sret (ecall (ok_agree T) (hr.mono (by omega)) rfl T.g_agree T.F_agree.kp T.b_agree (ac (ecall (ok_word_world T) (hr.mono (by omega)) rfl T.g_word_world T.F_word_world.kp T.b_word_world (ac (ev 0) an)) (ac (ecall (ok_word_world T) (hr.mono (by omega)) rfl T.g_word_world T.F_word_world.kp T.b_word_world (ac (ev 1) an)) (ac (ev 2) an))))))
abbrev s_all_words : Stmt := topS 14
theorem sc_all_words : FnScope ["length", "found", "_", "word", "sign"] ["length"] (defScope s_all_words) := ⟨rfl, rfl, rfl, by decide +kernel, rfl, by decide +kernel, by decide +kernel⟩
theorem ok_all_words (T : Top K mg w base) : FnOk P w K mg base CX0 1 T.f_all_words T.fd_all_words ["length"] (spV ⟨K, mg, P, w⟩ 1 LB.m_all_words) :=
  fnV (G := ⟨K, mg, P, w⟩) T.F_all_words sc_all_words rfl (Oe := []) fun cdv A outer s H E hr =>
    (bc (sset 1 sc_all_words.nd (nv (elst (ac es an))))
      (bc (sfor (O := []) PassesOwn.never rfl (irng1 rfl T.z_range (ev 0)) (gn 2 sc_all_words.nd)
      (bo (sless (O' := [1]) (O'' := []) (ssetLN2 (own := [("word", 3), ("sign", 4)]) (vs1 := [4]) 1 rfl sc_all_words.nd (sw_true rfl rfl rfl (by decide +kernel)) (iseqB (eb 1)) (blkOk_by (by kernel_rfl)) (by decide) (fun _ _ _ _ _ => (gn 3 sc_all_words.nd)) (fun _ _ _ _ _ => pyes) (fun _ _ _ _ _ => (isigns es)) (fun _ _ _ _ _ => (gn 4 sc_all_words.nd)) (fun _ _ _ _ _ => pyes) (fun _ _ _ _ _ => (eo o_add (eb 3) (eb 4)))))))
      (bo (sret (ev 1)))))
abbrev s_word_kinds : Stmt := topS 15
theorem sc_word_kinds : FnScope ["length", "k", "lots", "word", "mine", "lot"] ["length", "k"] (defScope s_word_kinds) := ⟨rfl, rfl, rfl, by decide +kernel, rfl, by decide +kernel, by decide +kernel⟩
theorem ok_word_kinds (T : Top K mg w base) : FnOk P w K mg base CX0 29 T.f_word_kinds T.fd_word_kinds ["length", "k"] (spV ⟨K, mg, P, w⟩ 2 LB.m_word_kinds_2) :=
  fnV (G := ⟨K, mg, P, w⟩) T.F_word_kinds sc_word_kinds rfl (Oe := []) fun cdv A outer s H E hr =>
    (bc (ssetN 2 sc_word_kinds.nd (elst an))
      (bc (slots (il := 2) (iv := 3) (im := 4) (it := 5) PassesOwn.never rfl (iseq (ecall (ok_all_words T) (hr.mono (by omega)) rfl T.g_all_words T.F_all_words.kp T.b_all_words (ac (ev 0) an))) (pgr 3 sc_word_kinds.nd) (ps_setLc (own := [("lot", 5)]) (i := 4) rfl sc_word_kinds.nd rfl rfl (sw_true rfl rfl rfl (by decide +kernel)) (pi_list (TL.pvr 2)) (blkOk_by (by kernel_rfl)) (fun _ _ _ _ _ => (pgr 5 sc_word_kinds.nd)) (fun _ _ _ _ _ => (pone (tv (ecall (ok_words_agree T) (hr.mono (by omega)) rfl T.g_words_agree T.F_words_agree.kp T.b_words_agree (ac (eix (eb 5) (vb ei)) (ac (ev 3) (ac (ev 1) an))))))) (fun _ _ _ _ _ => (TL.pvr 5))) (tc (o_gt (u0 hr)) (vb (eB c_len rfl T.z_len (by decide +kernel) (eb 4))) (vb ei)) (ps_expr (pe_bm PySem.F.plainAttrs_list PySem.F.slot_list_append PySem.F.type_list_append mt_append (pe_ix ix_list (TL.pvr 4) pe_int (fun _ _ => rfl)) (pa_cons (TL.pvr 3) pa_nil))) (ps_expr (pe_bm PySem.F.plainAttrs_list PySem.F.slot_list_append PySem.F.type_list_append mt_append (TL.pvr 2) (pa_cons (pe_lst (pa_cons (TL.pvr 3) pa_nil)) pa_nil))))
      (bo (sret (nv (eBN (c_sortedW (u64 hr)) rfl T.z_sorted (by decide +kernel) (nb (elc (own := [("lot", 5)]) rfl sc_word_kinds.nd (iseqB (eb 2)) (blkOk_by (by kernel_rfl)) (fun _ _ _ _ _ => (gn 5 sc_word_kinds.nd)) (fun _ _ _ _ _ => pyes) (fun _ _ _ _ _ => (eT c_tuple rfl T.z_tuple (by decide +kernel) (eb 5)))))))))))
abbrev s__law_cell : Stmt := topS 17
theorem sc__law_cell : FnScope ["script", "k"] ["script", "k"] (defScope s__law_cell) := ⟨rfl, rfl, rfl, by decide +kernel, rfl, by decide +kernel, by decide +kernel⟩
theorem ok__law_cell (T : Top K mg w base) : FnOk P w K mg base CX0 1 T.f__law_cell T.fd__law_cell ["script", "k"] (spV ⟨K, mg, P, w⟩ 2 LB.m__law_cell) :=
  fnV (G := ⟨K, mg, P, w⟩) T.F__law_cell sc__law_cell rfl (Oe := []) fun cdv A outer s H E hr =>
    (bc (sif (O' := []) (tc (o_lt (u0 hr)) (eb 1) (vb (eB c_len rfl T.z_len (by decide +kernel) (eb 0))))
      (bo (sret (eix (eb 0) (eb 1))))
      bn)
      (bo (sret ei)))
abbrev s__law_draws : Stmt := topS 18
theorem sc__law_draws : FnScope ["cell", "amount", "rows", "left", "k", "blended"] ["cell", "amount"] (defScope s__law_draws) := ⟨rfl, rfl, rfl, by decide +kernel, rfl, by decide +kernel, by decide +kernel⟩
theorem ok__law_draws (T : Top K mg w base) : FnOk P w K mg base CX0 1 T.f__law_draws T.fd__law_draws ["cell", "amount"] (spV ⟨K, mg, P, w⟩ 2 LB.m__law_draws) :=
  fnV (G := ⟨K, mg, P, w⟩) T.F__law_draws sc__law_draws rfl (Oe := []) fun cdv A outer s H E hr =>
    (bc (ssetN 2 sc__law_draws.nd (elst an))
      (bc (sset 3 sc__law_draws.nd (ev 0))
      (bc (sfor (O := [2]) PassesOwn.never rfl (irng1 rfl T.z_range (ev 1)) (gn 4 sc__law_draws.nd)
      (bo (sif (O' := [2]) (tw (tand (tc (o_ge (u0 hr)) (eb 0) (vb (eo o_pow (vb ei) (vb ei)))) (tone1 (tc (o_gt (u0 hr)) (eb 3) (vb ei)))))
      (bc (sapp 2 (eo o_mod (vb (eT c_int rfl T.z_int (by decide +kernel) (eb 3))) (vb ei)))
      (bo (sset 3 sc__law_draws.nd (eo o_fdiv (eb 3) (vb ei)))))
      (bc (sset 5 sc__law_draws.nd (eo o_mod (vb (eT c_int rfl T.z_int (by decide +kernel) (vb (eo o_add (vb (eo o_mul (eb 0) (vb ei))) (vb (eo o_mul (vb (eo o_add (eb 4) (vb ei))) (vb ei))))))) (vb ei)))
      (bc (sset 5 sc__law_draws.nd (eo o_mod (vb (eT c_int rfl T.z_int (by decide +kernel) (vb (eo o_add (vb (eo o_add (vb (eo o_mul (eb 5) (eb 5))) (vb (eo o_mul (eb 5) (vb ei))))) (vb (eo o_mul (eb 4) (vb ei))))))) (vb ei)))
      (bc (sset 5 sc__law_draws.nd (eo o_mod (vb (eT c_int rfl T.z_int (by decide +kernel) (vb (eo o_add (vb (eo o_add (vb (eo o_mul (eb 5) (eb 5))) (eb 0))) (vb (eo o_mul (vb ei) (eb 4))))))) (vb ei)))
      (bo (sapp 2 (eo o_mod (vb (eo o_fdiv (eb 5) (vb ei))) (vb ei))))))))))
      (bo (spre (O' := []) (sret (ev 2)))))))
abbrev s__law_is_bool : Stmt := topS 19
theorem sc__law_is_bool : FnScope ["x", "due"] ["x", "due"] (defScope s__law_is_bool) := ⟨rfl, rfl, rfl, by decide +kernel, rfl, by decide +kernel, by decide +kernel⟩
theorem ok__law_is_bool (T : Top K mg w base) : FnOk P w K mg base CX0 1 T.f__law_is_bool T.fd__law_is_bool ["x", "due"] (spV ⟨K, mg, P, w⟩ 2 LB.m__law_is_bool) :=
  fnV (G := ⟨K, mg, P, w⟩) T.F__law_is_bool sc__law_is_bool rfl (Oe := []) fun cdv A outer s H E hr =>
    (bc (sif (O' := []) (tv (ev 1))
      (bo (sret (ec o_is (eb 0) (vb ebl))))
      bn)
      (bo (sret (ec o_is (eb 0) (vb ebl)))))
abbrev s__law_kind : Stmt := topS 20
theorem sc__law_kind : FnScope ["x"] ["x"] (defScope s__law_kind) := ⟨rfl, rfl, rfl, by decide +kernel, rfl, by decide +kernel, by decide +kernel⟩
theorem ok__law_kind (T : Top K mg w base) : FnOk P w K mg base CX0 1 T.f__law_kind T.fd__law_kind ["x"] (spV ⟨K, mg, P, w⟩ 1 LB.m__law_kind) :=
  fnV (G := ⟨K, mg, P, w⟩) T.F__law_kind sc__law_kind rfl (Oe := []) fun cdv A outer s H E hr =>
    (bc (sif (O' := []) (tv (eisi .bool rfl T.z_isinstance rfl T.z_bool (by decide +kernel) (eb 0)))
      (bo (sret ei))
      bn)
      (bc (sif (O' := []) (tv (eisi .int rfl T.z_isinstance rfl T.z_int (by decide +kernel) (eb 0)))
      (bo (sret ei))
      bn)
      (bc (sif (O' := []) (tv (eisi .str rfl T.z_isinstance rfl T.z_str (by decide +kernel) (eb 0)))
      (bo (sret ei))
      bn)
      (bc (sif (O' := []) (tv (eisi .tuple rfl T.z_isinstance rfl T.z_tuple (by decide +kernel) (eb 0)))
      (bo (sret ei))
      bn)
      (bc (sif (O' := []) (tv (eisi .list rfl T.z_isinstance rfl T.z_list (by decide +kernel) (eb 0)))
      (bo (sret ei))
      bn)
      (bc (sif (O' := []) (tv (eisi .dict rfl T.z_isinstance rfl T.z_dict (by decide +kernel) (eb 0)))
      (bo (sret ei))
      bn)
      (bo (sret ei))))))))
abbrev s__law_equal : Stmt := topS 21
theorem sc__law_equal : FnScope ["x", "due", "key", "k", "other"] ["x", "due"] (defScope s__law_equal) := ⟨rfl, rfl, rfl, by decide +kernel, rfl, by decide +kernel, by decide +kernel⟩
theorem ok__law_equal (T : Top K mg w base) : ∀ n, FnOk P w K mg base CX0 (n + 1) T.f__law_equal T.fd__law_equal ["x", "due"] (spV ⟨K, mg, P, w⟩ 2 (LB.m__law_equal n))
  | 0 => fnNever fun vs H Q E h => by obtain ⟨_, _, _, _, _, _, h, _⟩ := h; cases h
  | n + 1 => by
    have ih := ok__law_equal T n
    exact fnV (G := ⟨K, mg, P, w⟩) T.F__law_equal sc__law_equal rfl (Oe := []) fun cdv A outer s H E hr =>
    (bc (sif (O' := []) (tc (o_ne (u64 hr)) (vb (ecall (ok__law_kind T) (hr.mono (by omega)) rfl T.g__law_kind T.F__law_kind.kp T.b__law_kind (ac (ev 0) an))) (vb (ecall (ok__law_kind T) (hr.mono (by omega)) rfl T.g__law_kind T.F__law_kind.kp T.b__law_kind (ac (ev 1) an))))
      (bo (sret ebl))
      bn)
      (bc (sif (O' := []) (tw (tor (tv (eisi .tuple rfl T.z_isinstance rfl T.z_tuple (by decide +kernel) (eb 1))) (tone2 (tv (eisi .list rfl T.z_isinstance rfl T.z_list (by decide +kernel) (eb 1))))))
      (bc (sif (O' := []) (tc (o_ne (u64 hr)) (vb (eB c_len rfl T.z_len (by decide +kernel) (eb 0))) (vb (eB c_len rfl T.z_len (by decide +kernel) (eb 1))))
      (bo (sret ebl))
      bn)
      (bo (sret (ec (o_eq (u64 hr)) (vb (eB c_len rfl T.z_len (by decide +kernel) (nb (elc (own := [("k", 3)]) rfl sc__law_equal.nd (iv_b (irng1 rfl T.z_range (eB c_len rfl T.z_len (by decide +kernel) (eb 1)))) (blkOk_by (by kernel_rfl)) (fun _ _ _ _ _ => (gn 3 sc__law_equal.nd)) (fun _ _ _ _ _ => (pone (tnot (tv (ecall ih (hr.mono (by omega)) rfl T.g__law_equal T.F__law_equal.kp T.b__law_equal (ac (eix (eb 0) (eb 3)) (ac (eix (eb 1) (eb 3)) an))))))) (fun _ _ _ _ _ => (ev 3)))))) (vb ei)))))
      bn)
      (bc (sif (O' := []) (tv (eisi .dict rfl T.z_isinstance rfl T.z_dict (by decide +kernel) (eb 1)))
      (bc (sif (O' := []) (tc (o_ne (u64 hr)) (vb (eB c_len rfl T.z_len (by decide +kernel) (eb 0))) (vb (eB c_len rfl T.z_len (by decide +kernel) (eb 1))))
      (bo (sret ebl))
      bn)
      (bc (sfor (O := []) PassesOwn.never rfl (iseq (ev 0)) (gn 2 sc__law_equal.nd)
      (bc (sif (O' := []) (tw (tor (tc (o_nin (u65 hr)) (eb 2) (eb 1)) (tone2 (tnot (tv (ecall ih (hr.mono (by omega)) rfl T.g__law_equal T.F__law_equal.kp T.b__law_equal (ac (eix (eb 0) (eb 2)) (ac (eix (eb 1) (eb 2)) an))))))))
      (bo (sret ebl))
      bn)
      (bo (sif (O' := []) (tc (o_eq (u64 hr)) (vb (eB c_len rfl T.z_len (by decide +kernel) (nb (elc (own := [("other", 4)]) rfl sc__law_equal.nd (iseqB (eb 1)) (blkOk_by (by kernel_rfl)) (fun _ _ _ _ _ => (gn 4 sc__law_equal.nd)) (fun _ _ _ _ _ => (pone (tw (tand (tc (o_eq (u64 hr)) (eb 4) (eb 2)) (tone1 (tv (ecall ih (hr.mono (by omega)) rfl T.g__law_equal T.F__law_equal.kp T.b__law_equal (ac (ev 2) (ac (ev 4) an))))))))) (fun _ _ _ _ _ => (ev 4)))))) (vb ei))
      (bo (sret ebl))
      bn))))
      (bo (sret ebl))))
      bn)
      (bo (sret (ec (o_eq (u64 hr)) (eb 0) (eb 1)))))))
abbrev s__law_line : Stmt := topS 22
theorem sc__law_line : FnScope ["n", "pairs", "a", "b"] ["n"] (defScope s__law_line) := ⟨rfl, rfl, rfl, by decide +kernel, rfl, by decide +kernel, by decide +kernel⟩
theorem ok__law_line (T : Top K mg w base) : FnOk P w K mg base CX0 1 T.f__law_line T.fd__law_line ["n"] (spV ⟨K, mg, P, w⟩ 1 LB.m__law_line) :=
  fnV (G := ⟨K, mg, P, w⟩) T.F__law_line sc__law_line rfl (Oe := []) fun cdv A outer s H E hr =>
    (bc (sset 1 sc__law_line.nd (etup an))
      (bc (sfor (O := []) PassesOwn.never rfl (irng1 rfl T.z_range (ev 0)) (gn 2 sc__law_line.nd)
      (bo (sset 1 sc__law_line.nd (eo o_add (eb 1) (vb (eT c_tuple rfl T.z_tuple (by decide +kernel) (nb (elc (own := [("b", 3)]) rfl sc__law_line.nd (iv_b (irng2 rfl T.z_range (eo o_add (eb 2) (vb ei)) (ev 0))) (blkOk_by (by kernel_rfl)) (fun _ _ _ _ _ => (gn 3 sc__law_line.nd)) (fun _ _ _ _ _ => pyes) (fun _ _ _ _ _ => (etup (ac (ev 2) (ac (ev 3) an))))))))))))
      (bo (sret (etup (ac (ev 0) (ac (etup (ac (etup an) (ac (etup an) an))) (ac (ev 1) an))))))))
abbrev s__law_fit : Stmt := topS 23
theorem sc__law_fit : FnScope ["one", "two", "x", "y", "a", "b", "c", "d"] ["one", "two", "x", "y"] (defScope s__law_fit) := ⟨rfl, rfl, rfl, by decide +kernel, rfl, by decide +kernel, by decide +kernel⟩
theorem ok__law_fit (T : Top K mg w base) : FnOk P w K mg base CX0 1 T.f__law_fit T.fd__law_fit ["one", "two", "x", "y"] (spV ⟨K, mg, P, w⟩ 4 LB.m__law_fit) :=
  fnV (G := ⟨K, mg, P, w⟩) T.F__law_fit sc__law_fit rfl (Oe := []) fun cdv A outer s H E hr =>
    (bc (sasg (ev 2) (gt rfl (gsc (gn 4 sc__law_fit.nd) (gsc (gn 5 sc__law_fit.nd) gsn))))
      (bc (sasg (ev 3) (gt rfl (gsc (gn 6 sc__law_fit.nd) (gsc (gn 7 sc__law_fit.nd) gsn))))
      (bc (sif (O' := []) (tc (o_ne (u64 hr)) (vb (ec (o_eq (u64 hr)) (eb 4) (eb 6))) (vb (ec (o_eq (u64 hr)) (eb 5) (eb 7))))
      (bo (sret ebl))
      bn)
      (bc (sif (O' := []) (tw (tor (tc (o_ne (u64 hr)) (vb (ec (o_in (u65 hr)) (eb 4) (vb (eix (vb (eix (eb 0) (vb ei))) (vb ei))))) (vb (ec (o_in (u65 hr)) (eb 5) (vb (eix (vb (eix (eb 1) (vb ei))) (vb ei)))))) (tone2 (tc (o_ne (u64 hr)) (vb (ec (o_in (u65 hr)) (eb 4) (vb (eix (vb (eix (eb 0) (vb ei))) (vb ei))))) (vb (ec (o_in (u65 hr)) (eb 5) (vb (eix (vb (eix (eb 1) (vb ei))) (vb ei)))))))))
      (bo (sret ebl))
      bn)
      (bo (sret (eand (ec (o_eq (u64 hr)) (vb (ec (o_in (u65 hr)) (vb (etup (ac (ev 4) (ac (ev 6) an)))) (vb (eix (eb 0) (vb ei))))) (vb (ec (o_in (u65 hr)) (vb (etup (ac (ev 5) (ac (ev 7) an)))) (vb (eix (eb 1) (vb ei)))))) (eone (ec (o_eq (u64 hr)) (vb (ec (o_in (u65 hr)) (vb (etup (ac (ev 6) (ac (ev 4) an)))) (vb (eix (eb 0) (vb ei))))) (vb (ec (o_in (u65 hr)) (vb (etup (ac (ev 7) (ac (ev 5) an)))) (vb (eix (eb 1) (vb ei))))))))))))))
abbrev s__law_can : Stmt := topS 24
theorem sc__law_can : FnScope ["one", "two", "pairs", "k", "side", "item", "found", "other", "pair", "x"] ["one", "two", "pairs", "k"] (defScope s__law_can) := ⟨rfl, rfl, rfl, by decide +kernel, rfl, by decide +kernel, by decide +kernel⟩
theorem ok__law_can (T : Top K mg w base) : ∀ n, FnOk P w K mg base CX0 (n + 1) T.f__law_can T.fd__law_can ["one", "two", "pairs", "k"] (spV ⟨K, mg, P, w⟩ 4 (LB.m__law_can n))
  | 0 => fnNever fun vs H Q E h => by obtain ⟨_, _, _, _, _, _, h, _⟩ := h; cases h
  | n + 1 => by
    have ih := ok__law_can T n
    exact fnV (G := ⟨K, mg, P, w⟩) T.F__law_can sc__law_can rfl (Oe := []) fun cdv A outer s H E hr =>
    (bc (sif (O' := []) (tc (o_eq (u64 hr)) (eb 3) (vb ei))
      (bo (sret ebl))
      bn)
      (bc (sfor (O := []) PassesOwn.never rfl (irng1 rfl T.z_range ei) (gn 4 sc__law_can.nd)
      (bo (sfor (O := []) PassesOwn.never rfl (irng1 rfl T.z_range (eix (nb (elst (ac (eix (eb 0) (vb ei)) (ac (eix (eb 1) (vb ei)) an)))) (eb 4))) (gn 5 sc__law_can.nd)
      (bc (sset 6 sc__law_can.nd ebl)
      (bc (sfor (O := []) PassesOwn.never rfl (irng1 rfl T.z_range (eix (nb (elst (ac (eix (eb 1) (vb ei)) (ac (eix (eb 0) (vb ei)) an)))) (eb 4))) (gn 7 sc__law_can.nd)
      (bc (sset 8 sc__law_can.nd (eix (nb (elst (ac (etup (ac (ev 5) (ac (ev 7) an))) (ac (etup (ac (ev 7) (ac (ev 5) an))) an)))) (eb 4)))
      (bo (sif (O' := []) (tw (tand (tnot (tv (ev 6))) (tone1 (tc (o_eq (u64 hr)) (vb (eB c_len rfl T.z_len (by decide +kernel) (nb (elc (own := [("x", 9)]) rfl sc__law_can.nd (iseqB (vb (eo o_add (eb 2) (vb (etup (ac (ev 8) an)))))) (blkOk_by (by kernel_rfl)) (fun _ _ _ _ _ => (gn 9 sc__law_can.nd)) (fun _ _ _ _ _ => (pone (tnot (tv (ecall (ok__law_fit T) (hr.mono (by omega)) rfl T.g__law_fit T.F__law_fit.kp T.b__law_fit (ac (ev 0) (ac (ev 1) (ac (ev 8) (ac (ev 9) an))))))))) (fun _ _ _ _ _ => (ev 9)))))) (vb ei)))))
      (bo (sset 6 sc__law_can.nd (ecall ih (hr.mono (by omega)) rfl T.g__law_can T.F__law_can.kp T.b__law_can (ac (ev 0) (ac (ev 1) (ac (eo o_add (eb 2) (vb (etup (ac (ev 8) an)))) (ac (eo o_sub (eb 3) (vb ei)) an)))))))
      bn))))
      (bo (sif (O' := []) (tnot (tv (ev 6)))
      (bo (sret ebl))
      bn)))))))
      (bo (sret ebl))))
abbrev s__law_agree : Stmt := topS 25
theorem sc__law_agree : FnScope ["one", "two", "k"] ["one", "two", "k"] (defScope s__law_agree) := ⟨rfl, rfl, rfl, by decide +kernel, rfl, by decide +kernel, by decide +kernel⟩
theorem ok__law_agree (T : Top K mg w base) : FnOk P w K mg base CX0 62 T.f__law_agree T.fd__law_agree ["one", "two", "k"] (spV ⟨K, mg, P, w⟩ 3 LB.m__law_agree) :=
  fnV (G := ⟨K, mg, P, w⟩) T.F__law_agree sc__law_agree rfl (Oe := []) fun cdv A outer s H E hr =>
    (bo (sret (ecall (ok__law_can T 60) (hr.mono (by omega)) rfl T.g__law_can T.F__law_can.kp T.b__law_can (ac (ev 0) (ac (ev 1) (ac (etup an) (ac (ev 2) an)))))))
abbrev s__law_word : Stmt := topS 26
theorem sc__law_word : FnScope ["word", "marks", "k"] ["word"] (defScope s__law_word) := ⟨rfl, rfl, rfl, by decide +kernel, rfl, by decide +kernel, by decide +kernel⟩
theorem ok__law_word (T : Top K mg w base) : FnOk P w K mg base CX0 2 T.f__law_word T.fd__law_word ["word"] (spV ⟨K, mg, P, w⟩ 1 LB.m__law_word) :=
  fnV (G := ⟨K, mg, P, w⟩) T.F__law_word sc__law_word rfl (Oe := []) fun cdv A outer s H E hr =>
    (bc (sset 1 sc__law_word.nd (etup (ac (eT c_tuple rfl T.z_tuple (by decide +kernel) (nb (elc (own := [("k", 2)]) rfl sc__law_word.nd (iv_b (irng1 rfl T.z_range (eB c_len rfl T.z_len (by decide +kernel) (eb 0)))) (blkOk_by (by kernel_rfl)) (fun _ _ _ _ _ => (gn 2 sc__law_word.nd)) (fun _ _ _ _ _ => (pone (tc o_inS (vb (eix (eb 0) (eb 2))) (vb es)))) (fun _ _ _ _ _ => (ev 2))))) (ac (eT c_tuple rfl T.z_tuple (by decide +kernel) (nb (elc (own := [("k", 2)]) rfl sc__law_word.nd (iv_b (irng1 rfl T.z_range (eB c_len rfl T.z_len (by decide +kernel) (eb 0)))) (blkOk_by (by kernel_rfl)) (fun _ _ _ _ _ => (gn 2 sc__law_word.nd)) (fun _ _ _ _ _ => (pone (tc o_inS (vb (eix (eb 0) (eb 2))) (vb es)))) (fun _ _ _ _ _ => (ev 2))))) an))))
      (bo (sret (etup (ac (eB c_len rfl T.z_len (by decide +kernel) (eb 0)) (ac (ev 1) (ac (eix (vb (ecall (ok__law_line T) (hr.mono (by omega)) rfl T.g__law_line T.F__law_line.kp T.b__law_line (ac (eB c_len rfl T.z_len (by decide +kernel) (eb 0)) an))) (vb ei)) an)))))))
abbrev s__law_all_words : Stmt := topS 27
theorem sc__law_all_words : FnScope ["length", "rows", "k", "row"] ["length"] (defScope s__law_all_words) := ⟨rfl, rfl, rfl, by decide +kernel, rfl, by decide +kernel, by decide +kernel⟩
theorem ok__law_all_words (T : Top K mg w base) : FnOk P w K mg base CX0 1 T.f__law_all_words T.fd__law_all_words ["length"] (spV ⟨K, mg, P, w⟩ 1 LB.m__law_all_words) :=
  fnV (G := ⟨K, mg, P, w⟩) T.F__law_all_words sc__law_all_words rfl (Oe := []) fun cdv A outer s H E hr =>
    (bc (sset 1 sc__law_all_words.nd (nv (elst (ac es an))))
      (bc (sfor (O := []) PassesOwn.never rfl (irng1 rfl T.z_range (ev 0)) (gn 2 sc__law_all_words.nd)
      (bo (sset 1 sc__law_all_words.nd (eo o_add (nb (elc (own := [("row", 3)]) rfl sc__law_all_words.nd (iseqB (eb 1)) (blkOk_by (by kernel_rfl)) (fun _ _ _ _ _ => (gn 3 sc__law_all_words.nd)) (fun _ _ _ _ _ => pyes) (fun _ _ _ _ _ => (eo o_add (eb 3) (vb es))))) (nb (elc (own := [("row", 3)]) rfl sc__law_all_words.nd (iseqB (eb 1)) (blkOk_by (by kernel_rfl)) (fun _ _ _ _ _ => (gn 3 sc__law_all_words.nd)) (fun _ _ _ _ _ => pyes) (fun _ _ _ _ _ => (eo o_add (eb 3) (vb es)))))))))
      (bo (sret (nv (eBN (c_sortedW (u64 hr)) rfl T.z_sorted (by decide +kernel) (eb 1)))))))
abbrev s_law : Stmt := topS 28
theorem sc_law : FnScope ["script", "draws", "one", "two", "at", "way", "k", "length", "lots", "word", "mine", "j"] ["script"] (defScope s_law) := ⟨rfl, rfl, rfl, by decide +kernel, rfl, by decide +kernel, by decide +kernel⟩
theorem ok_law (T : Top K mg w base) : FnOk P w K mg base CX0 63 T.f_law T.fd_law ["script"] (spV ⟨K, mg, P, w⟩ 1 LB.m_law_k52) :=
  fnV (G := ⟨K, mg, P, w⟩) T.F_law sc_law rfl (Oe := []) fun cdv A outer s H E hr =>
    (bc (sset 1 sc_law.nd (ecall (ok__law_draws T) (hr.mono (by omega)) rfl T.g__law_draws T.F__law_draws.kp T.b__law_draws (ac (ecall (ok__law_cell T) (hr.mono (by omega)) rfl T.g__law_cell T.F__law_cell.kp T.b__law_cell (ac (ev 0) (ac ei an))) (ac ei an))))
      (bc (sset 2 sc_law.nd (ejoin (nv (elc (own := [("k", 6)]) rfl sc_law.nd (iv_b (irng1 rfl T.z_range (eo o_add (vb ei) (vb (eo o_mod (vb (eix (eb 1) (vb ei))) (vb ei)))))) (blkOk_by (by kernel_rfl)) (fun _ _ _ _ _ => (gn 6 sc_law.nd)) (fun _ _ _ _ _ => pyes) (fun _ _ _ _ _ => (eix (vb es) (vb (eo o_mod (vb (eT c_int rfl T.z_int (by decide +kernel) (vb (eix (eb 1) (vb (eo o_add (vb ei) (eb 6))))))) (vb (eix (nb (elst (ac ei (ac ei an)))) (vb (eo o_mod (vb (eix (eb 1) (vb ei))) (vb ei)))))))))))))
      (bc (sset 3 sc_law.nd (ev 2))
      (bc (sset 4 sc_law.nd (eo o_mod (vb (eix (eb 1) (vb ei))) (vb (eB c_len rfl T.z_len (by decide +kernel) (eb 2)))))
      (bc (sset 5 sc_law.nd (eo o_mod (vb (eix (eb 1) (vb ei))) (vb ei)))
      (bc (sif (O' := []) (tc (o_eq (u64 hr)) (eb 5) (vb ei))
      (bo (sset 3 sc_law.nd (eo o_add (vb (eo o_add (vb (eslS (eb 2) on (TL.os (ev 4)))) (vb (eix (vb es) (vb (eo o_mod (vb (eix (eb 1) (vb ei))) (vb ei))))))) (vb (eslS (eb 2) (TL.os (eo o_add (eb 4) (vb ei))) on)))))
      bn)
      (bc (sif (O' := []) (tc (o_eq (u64 hr)) (eb 5) (vb ei))
      (bo (sset 3 sc_law.nd (eslS (vb (eo o_add (eb 2) (vb (eix (eb 2) (eb 4))))) on (TL.os ei))))
      bn)
      (bc (sif (O' := []) (tc (o_eq (u64 hr)) (eb 5) (vb ei))
      (bc (sset 3 sc_law.nd (eo o_add (vb (eo o_add (vb (eslS (eb 2) on (TL.os (ev 4)))) (vb (eix (eb 2) (eb 4))))) (vb (eslS (eb 2) (TL.os (ev 4)) on))))
      (bo (sset 3 sc_law.nd (eslS (eb 3) on (TL.os ei)))))
      bn)
      (bc (sif (O' := []) (tc (o_eq (u64 hr)) (eb 5) (vb ei))
      (bo (sset 3 sc_law.nd (erevS (eb 2))))
      bn)
      (bc (sset 6 sc_law.nd (eo o_mod (vb (eix (eb 1) (vb ei))) (vb ei)))
      (bc (sif (O' := []) (tnot (tv (ecall (ok__law_is_bool T) (hr.mono (by omega)) rfl T.g__law_is_bool T.F__law_is_bool.kp T.b__law_is_bool (ac (ecall (ok_words_agree T) (hr.mono (by omega)) rfl T.g_words_agree T.F_words_agree.kp T.b_words_agree (ac (ev 2) (ac (ev 3) (ac (ev 6) an)))) (ac (ecall (ok__law_agree T) (hr.mono (by omega)) rfl T.g__law_agree T.F__law_agree.kp T.b__law_agree (ac (ecall (ok__law_word T) (hr.mono (by omega)) rfl T.g__law_word T.F__law_word.kp T.b__law_word (ac (ev 2) an)) (ac (ecall (ok__law_word T) (hr.mono (by omega)) rfl T.g__law_word T.F__law_word.kp T.b__law_word (ac (ev 3) an)) (ac (ev 6) an)))) an)))))
      (bo (sret ebl))
      bn)
      (bc (sset 7 sc_law.nd (eo o_add (vb ei) (vb (eo o_mod (vb (eix (eb 1) (vb ei))) (vb ei)))))
      (bc (sset 6 sc_law.nd (eo o_mod (vb (eix (eb 1) (vb ei))) (vb ei)))
      (bc (ssetN 8 sc_law.nd (elst an))
      (bc (sfor (O := [8]) PassesOwn.never rfl (iseq (ecall (ok__law_all_words T) (hr.mono (by omega)) rfl T.g__law_all_words T.F__law_all_words.kp T.b__law_all_words (ac (ev 7) an))) (gn 9 sc_law.nd)
      (bc (sless (O' := [10, 8]) (O'' := [8]) (ssetLN (own := [("j", 11)]) 10 rfl sc_law.nd (sw_true rfl rfl rfl (by decide +kernel)) (iv_b (irng1 rfl T.z_range (eB c_len rfl T.z_len (by decide +kernel) (eb 8)))) (blkOk_by (by kernel_rfl)) (fun _ _ _ _ _ => (gn 11 sc_law.nd)) (fun _ _ _ _ _ => (pone (tv (ecall (ok__law_agree T) (hr.mono (by omega)) rfl T.g__law_agree T.F__law_agree.kp T.b__law_agree (ac (ecall (ok__law_word T) (hr.mono (by omega)) rfl T.g__law_word T.F__law_word.kp T.b__law_word (ac (eix (vb (eix (eb 8) (eb 11))) (vb ei)) an)) (ac (ecall (ok__law_word T) (hr.mono (by omega)) rfl T.g__law_word T.F__law_word.kp T.b__law_word (ac (ev 9) an)) (ac (ev 6) an))))))) (fun _ _ _ _ _ => (ev 11))))
      (bo (sif (O' := [8]) (tc (o_eq (u64 hr)) (eb 10) (nb (elst an)))
      (bo (sapp 8 (etup (ac (ev 9) an))))
      (bo (ssetIx 8 (eix (eb 10) (vb ei)) (eo o_add (vb (eix (eb 8) (vb (eix (eb 10) (vb ei))))) (vb (etup (ac (ev 9) an))))))))))
      (bo (sret (ecall (ok__law_equal T 60) (hr.mono (by omega)) rfl T.g__law_equal T.F__law_equal.kp T.b__law_equal (ac (ecall (ok_word_kinds T) (hr.mono (by omega)) rfl T.g_word_kinds T.F_word_kinds.kp T.b_word_kinds (ac (ev 7) (ac (ev 6) an))) (ac (nv (eBN (c_sortedW (u64 hr)) rfl T.z_sorted (by decide +kernel) (eb 8))) an))))))))))))))))))))
end
end K52

set_option Elab.async false
set_option linter.all false
set_option maxRecDepth 100000
set_option maxHeartbeats 4000000
namespace K52
open PySem PySem.Spec PyProof.Rows L2 TL
def spLaw (K : PySem.W.Frag) (tabs : List (Addr × Addr)) : Sp := fun vs H Q _ => ∃ (a : Addr) (ns : List Int), vs = [.ref a] ∧ SqL K H a (ns.map V.int) ∧ ns.length ≤ 63 ∧ (∀ p ∈ tabs, H p.2 = some (.tbl #[])) ∧ ∀ H', Q (.bl true) H'
theorem rp_ints {G : Gx} {F : Hp} : ∀ ns : List Int, RpAll G F (ns.map V.int) (ns.map .int)
  | [] => .nil
  | i :: r => .cons (.int i) (rp_ints r)
theorem ok_end {P : Program} {w : World} {K : PySem.W.Frag} {mg : Str → Option Value} {base : Heap} (T : Top K mg w base) (hN_truth : PySem.W.tabIn K "truth" = none) (hN_dense_truth : PySem.W.tabIn K "dense_truth" = none) (hN_steps_truth : PySem.W.tabIn K "steps_truth" = none) (hN_line_truth : PySem.W.tabIn K "line_truth" = none) : FnOk P w K mg base CX0 63 T.f_law T.fd_law ["script"] (spLaw K [(T.c_can_go, T.p_can_go)]) :=
  (ok_law T).imp fun vs H Q E ⟨a, ns, e, hS, hl, hT, q⟩ => by
    subst e
    refine ⟨noT H, [.list (ns.map .int)], .bool true, ⟨noT_le, fun x hx c P e => ?_⟩, .cons (.lst (noT_seq hS) (rp_ints ns)) .nil, rfl, LB.law_true_k52 ns hl, fun v F' H' g r => ?_⟩
    · simp only [tabNames, List.mem_cons, List.not_mem_nil, or_false] at hx
      rcases hx with rfl | rfl | rfl | rfl | rfl
      · rw [hN_truth] at e
        cases e
      · rw [T.t_can_go] at e
        cases e
        have h1 := hT (T.c_can_go, T.p_can_go) (by simp)
        exact ⟨noT_tbl h1, #[], h1, True.intro⟩
      · rw [hN_dense_truth] at e
        cases e
      · rw [hN_steps_truth] at e
        cases e
      · rw [hN_line_truth] at e
        cases e
    · cases r
      exact q H'
theorem all_mk {l : PySem.W.OpenLaw} {w : World} {K : PySem.W.Frag} {h : Heap} {mg : Str → Option Value} {fa : Addr} (X : K.In h) (G : h.Ns mainGlobals mg) (hfa : mg "law" = some (.ref fa)) (hTab : TabsAtH K ["can_go"] h)
    {f0 : Addr} {od0 an0 : Option Addr} {sl0 : Array (Option Value)} {oc0 kV0 dc0 pm0 cd0 ct0 : Value}
    {f1 : Addr} {od1 an1 : Option Addr} {sl1 : Array (Option Value)} {oc1 kV1 dc1 pm1 cd1 ct1 : Value}
    {f2 : Addr} {od2 an2 : Option Addr} {sl2 : Array (Option Value)} {oc2 kV2 dc2 pm2 cd2 ct2 : Value}
    {f3 : Addr} {od3 an3 : Option Addr} {sl3 : Array (Option Value)} {oc3 kV3 dc3 pm3 cd3 ct3 : Value}
    {f4 : Addr} {od4 an4 : Option Addr} {sl4 : Array (Option Value)} {oc4 kV4 dc4 pm4 ct4 : Value}
    {f5 : Addr} {od5 an5 : Option Addr} {sl5 : Array (Option Value)} {oc5 kV5 dc5 pm5 cd5 ct5 : Value}
    {f6 : Addr} {od6 an6 : Option Addr} {sl6 : Array (Option Value)} {oc6 kV6 dc6 pm6 cd6 ct6 : Value}
    {f7 : Addr} {od7 an7 : Option Addr} {sl7 : Array (Option Value)} {oc7 kV7 dc7 pm7 cd7 ct7 : Value}
    {f8 : Addr} {od8 an8 : Option Addr} {sl8 : Array (Option Value)} {oc8 kV8 dc8 pm8 cd8 ct8 : Value}
    {f9 : Addr} {od9 an9 : Option Addr} {sl9 : Array (Option Value)} {oc9 kV9 dc9 pm9 cd9 ct9 : Value}
    {f10 : Addr} {od10 an10 : Option Addr} {sl10 : Array (Option Value)} {oc10 kV10 dc10 pm10 cd10 ct10 : Value}
    {f11 : Addr} {od11 an11 : Option Addr} {sl11 : Array (Option Value)} {oc11 kV11 dc11 pm11 cd11 ct11 : Value}
    {f12 : Addr} {od12 an12 : Option Addr} {sl12 : Array (Option Value)} {oc12 kV12 dc12 pm12 cd12 ct12 : Value}
    {f13 : Addr} {od13 an13 : Option Addr} {sl13 : Array (Option Value)} {oc13 kV13 dc13 pm13 cd13 ct13 : Value}
    {f14 : Addr} {od14 an14 : Option Addr} {sl14 : Array (Option Value)} {oc14 kV14 dc14 pm14 cd14 ct14 : Value}
    {f15 : Addr} {od15 an15 : Option Addr} {sl15 : Array (Option Value)} {oc15 kV15 dc15 pm15 cd15 ct15 : Value}
    {f16 : Addr} {od16 an16 : Option Addr} {sl16 : Array (Option Value)} {oc16 kV16 dc16 pm16 cd16 ct16 : Value}
    {f17 : Addr} {od17 an17 : Option Addr} {sl17 : Array (Option Value)} {oc17 kV17 dc17 pm17 cd17 ct17 : Value}
    {f18 : Addr} {od18 an18 : Option Addr} {sl18 : Array (Option Value)} {oc18 kV18 dc18 pm18 cd18 ct18 : Value}
    {f19 : Addr} {od19 an19 : Option Addr} {sl19 : Array (Option Value)} {oc19 kV19 dc19 pm19 cd19 ct19 : Value}
    {f20 : Addr} {od20 an20 : Option Addr} {sl20 : Array (Option Value)} {oc20 kV20 dc20 pm20 cd20 ct20 : Value}
    {f21 : Addr} {od21 an21 : Option Addr} {sl21 : Array (Option Value)} {oc21 kV21 dc21 pm21 cd21 ct21 : Value}
    {f22 : Addr} {od22 an22 : Option Addr} {sl22 : Array (Option Value)} {oc22 kV22 dc22 pm22 cd22 ct22 : Value}
    (a0 : PySem.W.nsIn K mainGlobals "goes" = some (some (.ref f0))) (l0 : K.lookup f0 = some ⟨oc0, od0, .func (PySem.W.fnOf "goes" "goes" (defArgs (topS 1)) (defBody (topS 1)) (defScope (topS 1)) .none kV0 dc0 pm0 an0 cd0 ct0), sl0⟩) (c0 : PySem.W.codeIn K cd0 "goes" = true) (k0 : PySem.W.keepIn K (.ref f0) = true)
    (a1 : PySem.W.nsIn K mainGlobals "grows" = some (some (.ref f1))) (l1 : K.lookup f1 = some ⟨oc1, od1, .func (PySem.W.fnOf "grows" "grows" (defArgs (topS 2)) (defBody (topS 2)) (defScope (topS 2)) .none kV1 dc1 pm1 an1 cd1 ct1), sl1⟩) (c1 : PySem.W.codeIn K cd1 "grows" = true) (k1 : PySem.W.keepIn K (.ref f1) = true)
    (a2 : PySem.W.nsIn K mainGlobals "put" = some (some (.ref f2))) (l2 : K.lookup f2 = some ⟨oc2, od2, .func (PySem.W.fnOf "put" "put" (defArgs (topS 3)) (defBody (topS 3)) (defScope (topS 3)) .none kV2 dc2 pm2 an2 cd2 ct2), sl2⟩) (c2 : PySem.W.codeIn K cd2 "put" = true) (k2 : PySem.W.keepIn K (.ref f2) = true)
    (a3 : PySem.W.nsIn K mainGlobals "can_answer" = some (some (.ref f3))) (l3 : K.lookup f3 = some ⟨oc3, od3, .func (PySem.W.fnOf "can_answer" "can_answer" (defArgs (topS 5)) (defBody (topS 5)) (defScope (topS 5)) .none kV3 dc3 pm3 an3 cd3 ct3), sl3⟩) (c3 : PySem.W.codeIn K cd3 "can_answer" = true) (k3 : PySem.W.keepIn K (.ref f3) = true)
    {C4 P4 : Addr} {ec4 : Value} {dc_4 : Option Addr} {vs4 : Array Value} {sc4 : Array (Option Value)} (a4 : PySem.W.nsIn K mainGlobals "can_go" = some (some (.ref f4))) (l4 : K.lookup f4 = some ⟨oc4, od4, .func (PySem.W.fnOf "can_go" "can_go" (defArgs (topS 6)) (defBody (topS 6)) (defScope (topS 6)) .none kV4 dc4 pm4 an4 (.ref C4) ct4), sl4⟩) (c4 : PySem.W.codeIn K (.ref C4) "can_go" = true) (k4 : PySem.W.keepIn K (.ref f4) = true) (y4 : K.lookup C4 = some ⟨ec4, dc_4, .fields vs4, sc4⟩) (v4 : (vs4[11]? : Option Value) = some (.ref P4)) (n4 : K.lookup P4 = none)
    (a5 : PySem.W.nsIn K mainGlobals "agree" = some (some (.ref f5))) (l5 : K.lookup f5 = some ⟨oc5, od5, .func (PySem.W.fnOf "agree" "agree" (defArgs (topS 7)) (defBody (topS 7)) (defScope (topS 7)) .none kV5 dc5 pm5 an5 cd5 ct5), sl5⟩) (c5 : PySem.W.codeIn K cd5 "agree" = true) (k5 : PySem.W.keepIn K (.ref f5) = true)
    (a6 : PySem.W.nsIn K mainGlobals "line_world" = some (some (.ref f6))) (l6 : K.lookup f6 = some ⟨oc6, od6, .func (PySem.W.fnOf "line_world" "line_world" (defArgs (topS 10)) (defBody (topS 10)) (defScope (topS 10)) .none kV6 dc6 pm6 an6 cd6 ct6), sl6⟩) (c6 : PySem.W.codeIn K cd6 "line_world" = true) (k6 : PySem.W.keepIn K (.ref f6) = true)
    (a7 : PySem.W.nsIn K mainGlobals "word_world" = some (some (.ref f7))) (l7 : K.lookup f7 = some ⟨oc7, od7, .func (PySem.W.fnOf "word_world" "word_world" (defArgs (topS 11)) (defBody (topS 11)) (defScope (topS 11)) .none kV7 dc7 pm7 an7 cd7 ct7), sl7⟩) (c7 : PySem.W.codeIn K cd7 "word_world" = true) (k7 : PySem.W.keepIn K (.ref f7) = true)
    (a8 : PySem.W.nsIn K mainGlobals "words_agree" = some (some (.ref f8))) (l8 : K.lookup f8 = some ⟨oc8, od8, .func (PySem.W.fnOf "words_agree" "words_agree" (defArgs (topS 13)) (defBody (topS 13)) (defScope (topS 13)) .none kV8 dc8 pm8 an8 cd8 ct8), sl8⟩) (c8 : PySem.W.codeIn K cd8 "words_agree" = true) (k8 : PySem.W.keepIn K (.ref f8) = true)
    (a9 : PySem.W.nsIn K mainGlobals "all_words" = some (some (.ref f9))) (l9 : K.lookup f9 = some ⟨oc9, od9, .func (PySem.W.fnOf "all_words" "all_words" (defArgs (topS 14)) (defBody (topS 14)) (defScope (topS 14)) .none kV9 dc9 pm9 an9 cd9 ct9), sl9⟩) (c9 : PySem.W.codeIn K cd9 "all_words" = true) (k9 : PySem.W.keepIn K (.ref f9) = true)
    (a10 : PySem.W.nsIn K mainGlobals "word_kinds" = some (some (.ref f10))) (l10 : K.lookup f10 = some ⟨oc10, od10, .func (PySem.W.fnOf "word_kinds" "word_kinds" (defArgs (topS 15)) (defBody (topS 15)) (defScope (topS 15)) .none kV10 dc10 pm10 an10 cd10 ct10), sl10⟩) (c10 : PySem.W.codeIn K cd10 "word_kinds" = true) (k10 : PySem.W.keepIn K (.ref f10) = true)
    (a11 : PySem.W.nsIn K mainGlobals "_law_cell" = some (some (.ref f11))) (l11 : K.lookup f11 = some ⟨oc11, od11, .func (PySem.W.fnOf "_law_cell" "_law_cell" (defArgs (topS 17)) (defBody (topS 17)) (defScope (topS 17)) .none kV11 dc11 pm11 an11 cd11 ct11), sl11⟩) (c11 : PySem.W.codeIn K cd11 "_law_cell" = true) (k11 : PySem.W.keepIn K (.ref f11) = true)
    (a12 : PySem.W.nsIn K mainGlobals "_law_draws" = some (some (.ref f12))) (l12 : K.lookup f12 = some ⟨oc12, od12, .func (PySem.W.fnOf "_law_draws" "_law_draws" (defArgs (topS 18)) (defBody (topS 18)) (defScope (topS 18)) .none kV12 dc12 pm12 an12 cd12 ct12), sl12⟩) (c12 : PySem.W.codeIn K cd12 "_law_draws" = true) (k12 : PySem.W.keepIn K (.ref f12) = true)
    (a13 : PySem.W.nsIn K mainGlobals "_law_is_bool" = some (some (.ref f13))) (l13 : K.lookup f13 = some ⟨oc13, od13, .func (PySem.W.fnOf "_law_is_bool" "_law_is_bool" (defArgs (topS 19)) (defBody (topS 19)) (defScope (topS 19)) .none kV13 dc13 pm13 an13 cd13 ct13), sl13⟩) (c13 : PySem.W.codeIn K cd13 "_law_is_bool" = true) (k13 : PySem.W.keepIn K (.ref f13) = true)
    (a14 : PySem.W.nsIn K mainGlobals "_law_kind" = some (some (.ref f14))) (l14 : K.lookup f14 = some ⟨oc14, od14, .func (PySem.W.fnOf "_law_kind" "_law_kind" (defArgs (topS 20)) (defBody (topS 20)) (defScope (topS 20)) .none kV14 dc14 pm14 an14 cd14 ct14), sl14⟩) (c14 : PySem.W.codeIn K cd14 "_law_kind" = true) (k14 : PySem.W.keepIn K (.ref f14) = true)
    (a15 : PySem.W.nsIn K mainGlobals "_law_equal" = some (some (.ref f15))) (l15 : K.lookup f15 = some ⟨oc15, od15, .func (PySem.W.fnOf "_law_equal" "_law_equal" (defArgs (topS 21)) (defBody (topS 21)) (defScope (topS 21)) .none kV15 dc15 pm15 an15 cd15 ct15), sl15⟩) (c15 : PySem.W.codeIn K cd15 "_law_equal" = true) (k15 : PySem.W.keepIn K (.ref f15) = true)
    (a16 : PySem.W.nsIn K mainGlobals "_law_line" = some (some (.ref f16))) (l16 : K.lookup f16 = some ⟨oc16, od16, .func (PySem.W.fnOf "_law_line" "_law_line" (defArgs (topS 22)) (defBody (topS 22)) (defScope (topS 22)) .none kV16 dc16 pm16 an16 cd16 ct16), sl16⟩) (c16 : PySem.W.codeIn K cd16 "_law_line" = true) (k16 : PySem.W.keepIn K (.ref f16) = true)
    (a17 : PySem.W.nsIn K mainGlobals "_law_fit" = some (some (.ref f17))) (l17 : K.lookup f17 = some ⟨oc17, od17, .func (PySem.W.fnOf "_law_fit" "_law_fit" (defArgs (topS 23)) (defBody (topS 23)) (defScope (topS 23)) .none kV17 dc17 pm17 an17 cd17 ct17), sl17⟩) (c17 : PySem.W.codeIn K cd17 "_law_fit" = true) (k17 : PySem.W.keepIn K (.ref f17) = true)
    (a18 : PySem.W.nsIn K mainGlobals "_law_can" = some (some (.ref f18))) (l18 : K.lookup f18 = some ⟨oc18, od18, .func (PySem.W.fnOf "_law_can" "_law_can" (defArgs (topS 24)) (defBody (topS 24)) (defScope (topS 24)) .none kV18 dc18 pm18 an18 cd18 ct18), sl18⟩) (c18 : PySem.W.codeIn K cd18 "_law_can" = true) (k18 : PySem.W.keepIn K (.ref f18) = true)
    (a19 : PySem.W.nsIn K mainGlobals "_law_agree" = some (some (.ref f19))) (l19 : K.lookup f19 = some ⟨oc19, od19, .func (PySem.W.fnOf "_law_agree" "_law_agree" (defArgs (topS 25)) (defBody (topS 25)) (defScope (topS 25)) .none kV19 dc19 pm19 an19 cd19 ct19), sl19⟩) (c19 : PySem.W.codeIn K cd19 "_law_agree" = true) (k19 : PySem.W.keepIn K (.ref f19) = true)
    (a20 : PySem.W.nsIn K mainGlobals "_law_word" = some (some (.ref f20))) (l20 : K.lookup f20 = some ⟨oc20, od20, .func (PySem.W.fnOf "_law_word" "_law_word" (defArgs (topS 26)) (defBody (topS 26)) (defScope (topS 26)) .none kV20 dc20 pm20 an20 cd20 ct20), sl20⟩) (c20 : PySem.W.codeIn K cd20 "_law_word" = true) (k20 : PySem.W.keepIn K (.ref f20) = true)
    (a21 : PySem.W.nsIn K mainGlobals "_law_all_words" = some (some (.ref f21))) (l21 : K.lookup f21 = some ⟨oc21, od21, .func (PySem.W.fnOf "_law_all_words" "_law_all_words" (defArgs (topS 27)) (defBody (topS 27)) (defScope (topS 27)) .none kV21 dc21 pm21 an21 cd21 ct21), sl21⟩) (c21 : PySem.W.codeIn K cd21 "_law_all_words" = true) (k21 : PySem.W.keepIn K (.ref f21) = true)
    (a22 : PySem.W.nsIn K mainGlobals "law" = some (some (.ref f22))) (l22 : K.lookup f22 = some ⟨oc22, od22, .func (PySem.W.fnOf "law" "law" (defArgs (topS 28)) (defBody (topS 28)) (defScope (topS 28)) .none kV22 dc22 pm22 an22 cd22 ct22), sl22⟩) (c22 : PySem.W.codeIn K cd22 "law" = true) (k22 : PySem.W.keepIn K (.ref f22) = true)
    (zz_all : PySem.W.nsIn K mainGlobals "all" = some none)
    (zz_any : PySem.W.nsIn K mainGlobals "any" = some none)
    (zz_bool : PySem.W.nsIn K mainGlobals "bool" = some none)
    (zz_dense_truth : PySem.W.nsIn K mainGlobals "dense_truth" = some none)
    (zz_dict : PySem.W.nsIn K mainGlobals "dict" = some none)
    (zz_int : PySem.W.nsIn K mainGlobals "int" = some none)
    (zz_isinstance : PySem.W.nsIn K mainGlobals "isinstance" = some none)
    (zz_len : PySem.W.nsIn K mainGlobals "len" = some none)
    (zz_line_truth : PySem.W.nsIn K mainGlobals "line_truth" = some none)
    (zz_list : PySem.W.nsIn K mainGlobals "list" = some none)
    (zz_range : PySem.W.nsIn K mainGlobals "range" = some none)
    (zz_sorted : PySem.W.nsIn K mainGlobals "sorted" = some none)
    (zz_steps_truth : PySem.W.nsIn K mainGlobals "steps_truth" = some none)
    (zz_str : PySem.W.nsIn K mainGlobals "str" = some none)
    (zz_truth : PySem.W.nsIn K mainGlobals "truth" = some none)
    (zz_tuple : PySem.W.nsIn K mainGlobals "tuple" = some none)
    {pd_SIGNS : Addr} {es_SIGNS : Array DictEntry} {nn_SIGNS : Nat} (dc_SIGNS : PySem.W.nsIn K mainGlobals "SIGNS" = some (some (.ref pd_SIGNS))) (ld_SIGNS : K.lookup pd_SIGNS = some ⟨.type "dict", none, .dict es_SIGNS nn_SIGNS, #[]⟩) (lt_SIGNS : PySem.W.KeysLit w.params es_SIGNS.toList) {q_SIGNS_0 : Addr} {qn_SIGNS_0 : Nat} {sl_SIGNS_0 : Array (Option Value)} (kd_SIGNS_0 : PySem.W.nsIn K pd_SIGNS "-" = some (some (.ref q_SIGNS_0))) (kl_SIGNS_0 : K.lookup q_SIGNS_0 = some ⟨.type "tuple", none, .seq #[.bool false, .bool false] qn_SIGNS_0, sl_SIGNS_0⟩) {q_SIGNS_1 : Addr} {qn_SIGNS_1 : Nat} {sl_SIGNS_1 : Array (Option Value)} (kd_SIGNS_1 : PySem.W.nsIn K pd_SIGNS "a" = some (some (.ref q_SIGNS_1))) (kl_SIGNS_1 : K.lookup q_SIGNS_1 = some ⟨.type "tuple", none, .seq #[.bool true, .bool false] qn_SIGNS_1, sl_SIGNS_1⟩) {q_SIGNS_2 : Addr} {qn_SIGNS_2 : Nat} {sl_SIGNS_2 : Array (Option Value)} (kd_SIGNS_2 : PySem.W.nsIn K pd_SIGNS "b" = some (some (.ref q_SIGNS_2))) (kl_SIGNS_2 : K.lookup q_SIGNS_2 = some ⟨.type "tuple", none, .seq #[.bool false, .bool true] qn_SIGNS_2, sl_SIGNS_2⟩) {q_SIGNS_3 : Addr} {qn_SIGNS_3 : Nat} {sl_SIGNS_3 : Array (Option Value)} (kd_SIGNS_3 : PySem.W.nsIn K pd_SIGNS "c" = some (some (.ref q_SIGNS_3))) (kl_SIGNS_3 : K.lookup q_SIGNS_3 = some ⟨.type "tuple", none, .seq #[.bool true, .bool true] qn_SIGNS_3, sl_SIGNS_3⟩) :
    LamX.LawAtS l w K CX0 63 63 "script" mg fa h := by
  have e := hfa.symm.trans (PySem.W.mg_of X G a22)
  cases e
  let T : ∀ (base : Heap) (tb4 : GxR.TabB base mg C4 P4), Top K mg w base := fun base tb4 => {
    f_goes := f0, fd_goes := _, F_goes := fun_mk (st := topS 1) l0 c0 k0, g_goes := PySem.W.mg_of X G a0, b_goes := (fun_mk (st := topS 1) l0 c0 k0).binds (ps := ["one", "two", "first", "last"]) fun _ _ _ _ _ _ us hl => match us, hl with | [_, _, _, _], _ => rfl,
    f_grows := f1, fd_grows := _, F_grows := fun_mk (st := topS 2) l1 c1 k1, g_grows := PySem.W.mg_of X G a1, b_grows := (fun_mk (st := topS 2) l1 c1 k1).binds (ps := ["one", "two", "pairs", "pair"]) fun _ _ _ _ _ _ us hl => match us, hl with | [_, _, _, _], _ => rfl,
    f_put := f2, fd_put := _, F_put := fun_mk (st := topS 3) l2 c2 k2, g_put := PySem.W.mg_of X G a2, b_put := (fun_mk (st := topS 3) l2 c2 k2).binds (ps := ["pairs", "pair"]) fun _ _ _ _ _ _ us hl => match us, hl with | [_, _], _ => rfl,
    f_can_answer := f3, fd_can_answer := _, F_can_answer := fun_mk (st := topS 5) l3 c3 k3, g_can_answer := PySem.W.mg_of X G a3, b_can_answer := (fun_mk (st := topS 5) l3 c3 k3).binds (ps := ["one", "two", "pairs", "k", "known", "item", "place"]) fun _ _ _ _ _ _ us hl => match us, hl with | [_, _, _, _, _, _, _], _ => rfl,
    f_can_go := f4, fd_can_go := _, c_can_go := C4, p_can_go := P4, F_can_go := funC_mk (st := topS 6) l4 c4 k4, g_can_go := PySem.W.mg_of X G a4, b_can_go := (funC_mk (st := topS 6) l4 c4 k4).f.binds (ps := ["one", "two", "pairs", "k", "known"]) fun _ _ _ _ _ _ us hl => match us, hl with | [_, _, _, _, _], _ => rfl, t_can_go := tabIn_of a4 l4 rfl y4 v4, tb_can_go := tb4,
    f_agree := f5, fd_agree := _, F_agree := fun_mk (st := topS 7) l5 c5 k5, g_agree := PySem.W.mg_of X G a5, b_agree := (fun_mk (st := topS 7) l5 c5 k5).binds (ps := ["one", "two", "k"]) fun _ _ _ _ _ _ us hl => match us, hl with | [_, _, _], _ => rfl,
    f_line_world := f6, fd_line_world := _, F_line_world := fun_mk (st := topS 10) l6 c6 k6, g_line_world := PySem.W.mg_of X G a6, b_line_world := (fun_mk (st := topS 10) l6 c6 k6).binds (ps := ["n"]) fun _ _ _ _ _ _ us hl => match us, hl with | [_], _ => rfl,
    f_word_world := f7, fd_word_world := _, F_word_world := fun_mk (st := topS 11) l7 c7 k7, g_word_world := PySem.W.mg_of X G a7, b_word_world := (fun_mk (st := topS 11) l7 c7 k7).binds (ps := ["word"]) fun _ _ _ _ _ _ us hl => match us, hl with | [_], _ => rfl,
    f_words_agree := f8, fd_words_agree := _, F_words_agree := fun_mk (st := topS 13) l8 c8 k8, g_words_agree := PySem.W.mg_of X G a8, b_words_agree := (fun_mk (st := topS 13) l8 c8 k8).binds (ps := ["one", "two", "k"]) fun _ _ _ _ _ _ us hl => match us, hl with | [_, _, _], _ => rfl,
    f_all_words := f9, fd_all_words := _, F_all_words := fun_mk (st := topS 14) l9 c9 k9, g_all_words := PySem.W.mg_of X G a9, b_all_words := (fun_mk (st := topS 14) l9 c9 k9).binds (ps := ["length"]) fun _ _ _ _ _ _ us hl => match us, hl with | [_], _ => rfl,
    f_word_kinds := f10, fd_word_kinds := _, F_word_kinds := fun_mk (st := topS 15) l10 c10 k10, g_word_kinds := PySem.W.mg_of X G a10, b_word_kinds := (fun_mk (st := topS 15) l10 c10 k10).binds (ps := ["length", "k"]) fun _ _ _ _ _ _ us hl => match us, hl with | [_, _], _ => rfl,
    f__law_cell := f11, fd__law_cell := _, F__law_cell := fun_mk (st := topS 17) l11 c11 k11, g__law_cell := PySem.W.mg_of X G a11, b__law_cell := (fun_mk (st := topS 17) l11 c11 k11).binds (ps := ["script", "k"]) fun _ _ _ _ _ _ us hl => match us, hl with | [_, _], _ => rfl,
    f__law_draws := f12, fd__law_draws := _, F__law_draws := fun_mk (st := topS 18) l12 c12 k12, g__law_draws := PySem.W.mg_of X G a12, b__law_draws := (fun_mk (st := topS 18) l12 c12 k12).binds (ps := ["cell", "amount"]) fun _ _ _ _ _ _ us hl => match us, hl with | [_, _], _ => rfl,
    f__law_is_bool := f13, fd__law_is_bool := _, F__law_is_bool := fun_mk (st := topS 19) l13 c13 k13, g__law_is_bool := PySem.W.mg_of X G a13, b__law_is_bool := (fun_mk (st := topS 19) l13 c13 k13).binds (ps := ["x", "due"]) fun _ _ _ _ _ _ us hl => match us, hl with | [_, _], _ => rfl,
    f__law_kind := f14, fd__law_kind := _, F__law_kind := fun_mk (st := topS 20) l14 c14 k14, g__law_kind := PySem.W.mg_of X G a14, b__law_kind := (fun_mk (st := topS 20) l14 c14 k14).binds (ps := ["x"]) fun _ _ _ _ _ _ us hl => match us, hl with | [_], _ => rfl,
    f__law_equal := f15, fd__law_equal := _, F__law_equal := fun_mk (st := topS 21) l15 c15 k15, g__law_equal := PySem.W.mg_of X G a15, b__law_equal := (fun_mk (st := topS 21) l15 c15 k15).binds (ps := ["x", "due"]) fun _ _ _ _ _ _ us hl => match us, hl with | [_, _], _ => rfl,
    f__law_line := f16, fd__law_line := _, F__law_line := fun_mk (st := topS 22) l16 c16 k16, g__law_line := PySem.W.mg_of X G a16, b__law_line := (fun_mk (st := topS 22) l16 c16 k16).binds (ps := ["n"]) fun _ _ _ _ _ _ us hl => match us, hl with | [_], _ => rfl,
    f__law_fit := f17, fd__law_fit := _, F__law_fit := fun_mk (st := topS 23) l17 c17 k17, g__law_fit := PySem.W.mg_of X G a17, b__law_fit := (fun_mk (st := topS 23) l17 c17 k17).binds (ps := ["one", "two", "x", "y"]) fun _ _ _ _ _ _ us hl => match us, hl with | [_, _, _, _], _ => rfl,
    f__law_can := f18, fd__law_can := _, F__law_can := fun_mk (st := topS 24) l18 c18 k18, g__law_can := PySem.W.mg_of X G a18, b__law_can := (fun_mk (st := topS 24) l18 c18 k18).binds (ps := ["one", "two", "pairs", "k"]) fun _ _ _ _ _ _ us hl => match us, hl with | [_, _, _, _], _ => rfl,
    f__law_agree := f19, fd__law_agree := _, F__law_agree := fun_mk (st := topS 25) l19 c19 k19, g__law_agree := PySem.W.mg_of X G a19, b__law_agree := (fun_mk (st := topS 25) l19 c19 k19).binds (ps := ["one", "two", "k"]) fun _ _ _ _ _ _ us hl => match us, hl with | [_, _, _], _ => rfl,
    f__law_word := f20, fd__law_word := _, F__law_word := fun_mk (st := topS 26) l20 c20 k20, g__law_word := PySem.W.mg_of X G a20, b__law_word := (fun_mk (st := topS 26) l20 c20 k20).binds (ps := ["word"]) fun _ _ _ _ _ _ us hl => match us, hl with | [_], _ => rfl,
    f__law_all_words := f21, fd__law_all_words := _, F__law_all_words := fun_mk (st := topS 27) l21 c21 k21, g__law_all_words := PySem.W.mg_of X G a21, b__law_all_words := (fun_mk (st := topS 27) l21 c21 k21).binds (ps := ["length"]) fun _ _ _ _ _ _ us hl => match us, hl with | [_], _ => rfl,
    f_law := fa, fd_law := _, F_law := fun_mk (st := topS 28) l22 c22 k22, g_law := PySem.W.mg_of X G a22, b_law := (fun_mk (st := topS 28) l22 c22 k22).binds (ps := ["script"]) fun _ _ _ _ _ _ us hl => match us, hl with | [_], _ => rfl,
    z_all := PySem.W.mg_none_of X G zz_all,
    z_any := PySem.W.mg_none_of X G zz_any,
    z_bool := PySem.W.mg_none_of X G zz_bool,
    z_dense_truth := PySem.W.mg_none_of X G zz_dense_truth,
    z_dict := PySem.W.mg_none_of X G zz_dict,
    z_int := PySem.W.mg_none_of X G zz_int,
    z_isinstance := PySem.W.mg_none_of X G zz_isinstance,
    z_len := PySem.W.mg_none_of X G zz_len,
    z_line_truth := PySem.W.mg_none_of X G zz_line_truth,
    z_list := PySem.W.mg_none_of X G zz_list,
    z_range := PySem.W.mg_none_of X G zz_range,
    z_sorted := PySem.W.mg_none_of X G zz_sorted,
    z_steps_truth := PySem.W.mg_none_of X G zz_steps_truth,
    z_str := PySem.W.mg_none_of X G zz_str,
    z_truth := PySem.W.mg_none_of X G zz_truth,
    z_tuple := PySem.W.mg_none_of X G zz_tuple,
    p_SIGNS := pd_SIGNS, c_SIGNS := PySem.W.mg_of X G dc_SIGNS, k_SIGNS := fun P => ⟨_, _, ld_SIGNS, lt_SIGNS, (ktab_cons (v := .ref q_SIGNS_0) kd_SIGNS_0 rfl (fun _ => .tup (xs := [.bl false, .bl false]) (.inr ⟨_, _, _, kl_SIGNS_0, rfl, rfl, rfl, by decide, (.cons rfl (.cons rfl .nil))⟩) (.cons (.bl _) (.cons (.bl _) .nil))) (ktab_cons (v := .ref q_SIGNS_1) kd_SIGNS_1 rfl (fun _ => .tup (xs := [.bl true, .bl false]) (.inr ⟨_, _, _, kl_SIGNS_1, rfl, rfl, rfl, by decide, (.cons rfl (.cons rfl .nil))⟩) (.cons (.bl _) (.cons (.bl _) .nil))) (ktab_cons (v := .ref q_SIGNS_2) kd_SIGNS_2 rfl (fun _ => .tup (xs := [.bl false, .bl true]) (.inr ⟨_, _, _, kl_SIGNS_2, rfl, rfl, rfl, by decide, (.cons rfl (.cons rfl .nil))⟩) (.cons (.bl _) (.cons (.bl _) .nil))) (ktab_cons (v := .ref q_SIGNS_3) kd_SIGNS_3 rfl (fun _ => .tup (xs := [.bl true, .bl true]) (.inr ⟨_, _, _, kl_SIGNS_3, rfl, rfl, rfl, by decide, (.cons rfl (.cons rfl .nil))⟩) (.cons (.bl _) (.cons (.bl _) .nil))) ktab_nil))))⟩ }
  refine ⟨PySem.W.fnOf "law" "law" (defArgs (topS 28)) (defBody (topS 28)) (defScope (topS 28)) .none kV22 dc22 pm22 an22 cd22 ct22, [(C4, P4)], spLaw K [(C4, P4)], fun p hp => ?_, fun p hp => ?_, fun p hp => ?_, fun s v => .of_eq rfl, fun H a ns hl _ hH hS => ⟨a, ns, rfl, hS, hl, hH, fun _ => rfl⟩, fun base _ _ tb => ok_end (T base ⟨(tb (C4, P4) (by simp)).code, (tb (C4, P4) (by simp)).bm, (tb (C4, P4) (by simp)).gP⟩) (tabIn_none zz_truth) (tabIn_none zz_dense_truth) (tabIn_none zz_steps_truth) (tabIn_none zz_line_truth)⟩
  all_goals
    simp only [List.mem_cons, List.not_mem_nil, or_false] at hp
    first | (cases hp; done) | skip
  · rcases hp with rfl
    · exact (hTab "can_go" (by simp) _ _ (tabIn_of a4 l4 rfl y4 v4)).2
  · rcases hp with rfl
    · exact n4
  · rcases hp with rfl
    · exact (hTab "can_go" (by simp) _ _ (tabIn_of a4 l4 rfl y4 v4)).1
end K52
open PySem PySem.W PyProof.Rows
set_option maxHeartbeats 0 in
theorem PySem.Challenge.cw_backforth_k52_words_and_their_kinds_holds : PySem.Challenge.rw_backforth_k52_words_and_their_kinds.Holds := by
  w_on; o_law; k_head; (case hw => w_witness2)
  k_fill
  refine TL.walk_tabs (l := PySem.Challenge.rw_backforth_k52_words_and_their_kinds) (n := 63) (k := 63) (x := "script") (CX := fun _ => L2.CX0) ["can_go"] rfl (by decide) rfl ⟨rfl, by decide, by decide⟩ (by kernel_rfl) (fun w h Y => PySem.W.kIn_of Y) ?F (fun _ _ _ _ _ h => h)
  case F =>
    intro w mg fa h KX G hmg hT
    refine' K52.all_mk KX G hmg hT ?a0 ?l0 ?c0 ?k0 ?a1 ?l1 ?c1 ?k1 ?a2 ?l2 ?c2 ?k2 ?a3 ?l3 ?c3 ?k3 ?a4 ?l4 ?c4 ?k4 ?y4 ?v4 ?n4 ?a5 ?l5 ?c5 ?k5 ?a6 ?l6 ?c6 ?k6 ?a7 ?l7 ?c7 ?k7 ?a8 ?l8 ?c8 ?k8 ?a9 ?l9 ?c9 ?k9 ?a10 ?l10 ?c10 ?k10 ?a11 ?l11 ?c11 ?k11 ?a12 ?l12 ?c12 ?k12 ?a13 ?l13 ?c13 ?k13 ?a14 ?l14 ?c14 ?k14 ?a15 ?l15 ?c15 ?k15 ?a16 ?l16 ?c16 ?k16 ?a17 ?l17 ?c17 ?k17 ?a18 ?l18 ?c18 ?k18 ?a19 ?l19 ?c19 ?k19 ?a20 ?l20 ?c20 ?k20 ?a21 ?l21 ?c21 ?k21 ?a22 ?l22 ?c22 ?k22 ?zz_all ?zz_any ?zz_bool ?zz_dense_truth ?zz_dict ?zz_int ?zz_isinstance ?zz_len ?zz_line_truth ?zz_list ?zz_range ?zz_sorted ?zz_steps_truth ?zz_str ?zz_truth ?zz_tuple ?dc_SIGNS ?ld_SIGNS ?lt_SIGNS ?kd_SIGNS_0 ?kl_SIGNS_0 ?kd_SIGNS_1 ?kl_SIGNS_1 ?kd_SIGNS_2 ?kl_SIGNS_2 ?kd_SIGNS_3 ?kl_SIGNS_3
    (case a0 => k_is); (case l0 => k_is); (case c0 => k_is); (case k0 => k_is); (case a1 => k_is); (case l1 => k_is); (case c1 => k_is); (case k1 => k_is); (case a2 => k_is); (case l2 => k_is); (case c2 => k_is); (case k2 => k_is); (case a3 => k_is); (case l3 => k_is); (case c3 => k_is); (case k3 => k_is); (case a4 => k_is); (case l4 => k_is); (case c4 => k_is); (case k4 => k_is); (case y4 => k_is); (case v4 => rfl); (case n4 => kernel_rfl); (case a5 => k_is); (case l5 => k_is); (case c5 => k_is); (case k5 => k_is); (case a6 => k_is); (case l6 => k_is); (case c6 => k_is); (case k6 => k_is); (case a7 => k_is); (case l7 => k_is); (case c7 => k_is); (case k7 => k_is); (case a8 => k_is); (case l8 => k_is); (case c8 => k_is); (case k8 => k_is); (case a9 => k_is); (case l9 => k_is); (case c9 => k_is); (case k9 => k_is); (case a10 => k_is); (case l10 => k_is); (case c10 => k_is); (case k10 => k_is); (case a11 => k_is); (case l11 => k_is); (case c11 => k_is); (case k11 => k_is); (case a12 => k_is); (case l12 => k_is); (case c12 => k_is); (case k12 => k_is); (case a13 => k_is); (case l13 => k_is); (case c13 => k_is); (case k13 => k_is); (case a14 => k_is); (case l14 => k_is); (case c14 => k_is); (case k14 => k_is); (case a15 => k_is); (case l15 => k_is); (case c15 => k_is); (case k15 => k_is); (case a16 => k_is); (case l16 => k_is); (case c16 => k_is); (case k16 => k_is); (case a17 => k_is); (case l17 => k_is); (case c17 => k_is); (case k17 => k_is); (case a18 => k_is); (case l18 => k_is); (case c18 => k_is); (case k18 => k_is); (case a19 => k_is); (case l19 => k_is); (case c19 => k_is); (case k19 => k_is); (case a20 => k_is); (case l20 => k_is); (case c20 => k_is); (case k20 => k_is); (case a21 => k_is); (case l21 => k_is); (case c21 => k_is); (case k21 => k_is); (case a22 => k_is); (case l22 => k_is); (case c22 => k_is); (case k22 => k_is); (case zz_all => k_is); (case zz_any => k_is); (case zz_bool => k_is); (case zz_dense_truth => k_is); (case zz_dict => k_is); (case zz_int => k_is); (case zz_isinstance => k_is); (case zz_len => k_is); (case zz_line_truth => k_is); (case zz_list => k_is); (case zz_range => k_is); (case zz_sorted => k_is); (case zz_steps_truth => k_is); (case zz_str => k_is); (case zz_truth => k_is); (case zz_tuple => k_is); (case dc_SIGNS => k_is); (case ld_SIGNS => k_is); (case lt_SIGNS => repeat' (first | exact TL.keys_nil | refine TL.keys_cons rfl rfl ?_)); (case kd_SIGNS_0 => k_is); (case kl_SIGNS_0 => k_is); (case kd_SIGNS_1 => k_is); (case kl_SIGNS_1 => k_is); (case kd_SIGNS_2 => k_is); (case kl_SIGNS_2 => k_is); (case kd_SIGNS_3 => k_is); (case kl_SIGNS_3 => k_is)

